/- A part of the proofs. -/
import Derived.Attr
import Derived.ChangeKeysEq
import Derived.Deep.AppendSrc
import Derived.KernelRfl
import Derived.Laws.Cover4
import Derived.Lib.Strings
import Derived.WalkKit
import GoSem.Dispatch
import GoSem.Step
set_option linter.all false
set_option maxRecDepth 4000
namespace Go.Abs
def ay:=@List.length_cons
def az:=@List.length_nil
def bx:=@decide_eq_false_iff_not
def aR:=@decide_eq_true_eq
def aQ:=@Option.some.injEq
def ai:=@if_neg
def av:=@if_pos
def aZ:=@Bool.and_eq_true
def bA:=@List.length_append
def bY:=@Bool.not_eq_false'
def bB:=@Bool.not_eq_true'
def aY:=@Nat.le_refl
def bC:=@Option.some.inj
def cI:=@List.length_map
def bn:=@if_false
def br:=@if_true
def dx:=@List.drop_zero
def bD:=@decide_eq_true
def cT:=@Nat.zero_add
def dc:=@Bool.or_eq_false_iff
def cZ:=@List.forall_mem_cons
def dr:=@Bool.and_eq_false_iff
def dj:=@Option.map_eq_some_iff
def cj:=@decide_eq_false
def cu:=@Bool.or_eq_true
def dQ:=@List.take_of_length_le
def fU:=@List.length_take
def dG:=@List.append_assoc
def cJ:=@List.mem_singleton
def et:=@Bool.false_eq_true
def dU:=@Prod.mk.injEq
def ek:=@Nat.mul_le_mul_right
def cW:=@Nat.le_trans
def en:=@Nat.lt_of_lt_of_le
def eG:=@List.nil_append
def kr:=@List.eq_nil_of_length_eq_zero
def kt:=@List.drop_eq_getElem_cons
def fk:=@List.cons_append
def dy:=@List.mem_cons
def ed:=@true_and
def dW:=@and_true
def iK:=@false_and
def iL:=@and_false
def iM:=@and_self
def dM:=@Eq.trans
def aj:=@congrArg
def mj:=@List.drop_eq_nil_of_le
def jq:=@List.append_nil
def CJ:=@List.suffix_refl
def qA:=@List.length_drop
def fK:=@List.not_mem_nil
def jR:=@UInt8.toNat_inj
def ku:=@List.getD_cons_zero
def eH:=@Bool.true_and
def jr:=@Bool.and_true
def eI:=@List.mem_map
def kv:=@List.cons.injEq
def CL:=@List.length_eq_zero_iff
def oQ:=@List.mem_of_mem_take
def dz:=@decide_eq_decide
def eJ:=@Nat.lt_or_ge
def ae {p:Prop}(h:p:=by omega):p:=h
def aM {p:Prop}(h:p:=by decide):p:=h
def oR {p:Prop}(h:p:=by kernel_rfl):p:=h
def aT {p:Prop}(h:p:=by simp):p:=h
def eB {p:Prop}(h:p:=by dsimp only;omega):p:=h
def cz {p:Prop}(h:p:=by simp;omega):p:=h
def bN {p:Prop}(h:p:=by exact rfl):p:=h
inductive D where
 |any
 |bool (b:Bool)
 |int (k:IntKind) (n:Int)
 |str (s:List UInt8)
 |agg (cs:List D)
 |tup (ds:List D)
 |aV
 |sl (k:Nat) (es:List D)
 |ref (k:Nat) (es:List D) (i o:Nat)
 |ptr (l k i o:Nat)
 |own (l k i n:Nat)
 |nilp
 |fn (f:Nat) (caps:List D)
 |nilf
 |it (l:Nat)
 deriving Inhabited
inductive Src where
 |s (n:Nat)
 |l (p:Nat)
 |c (d:D)
 deriving Inhabited
inductive Sh where
 |a
 |sl (k:Nat) (cs:List Sh)
 |pt (cs:List Sh)
 deriving Inhabited
inductive CK where
 |b|i (k:IntKind)|s
 deriving Inhabited
inductive aJ where
 |mv (x:Src)
 |pick (c a b:Src)
 |box (k:Nat) (x:Src)
 |build (z:List D) (parts:List (Nat×Nat×Src))
 |bsl (k:Nat) (z:D) (n:Nat) (parts:List (Nat×Src))
 |ld (n:Nat) (ag:Bool) (p:Src)
 |st (n:Nat) (p v:Src)
 |nilck (x:Src)
 |bin (op:BinOp) (x y:Src)
 |eqA (neg ag:Bool) (ks:List CK) (x y:Src)
 |un (op:UnOp) (x:Src)
 |cvi (k:IntKind) (x:Src)
 |s2b (x:Src)
 |b2s (x:Src)
 |i2s (x:Src)
 |mkf (f:Nat) (caps:List Src)
 |mks (k:Nat) (z:D) (ln cp:Src)
 |slS (x:Src) (lo hi:Option Src)
 |slA (k:Nat) (x:Src) (lo hi:Option Src)
 |slX (k:Nat) (x hi mx:Src)
 |fa (off:Nat) (p:Src)
 |fld (off n:Nat) (ag:Bool) (x:Src)
 |ia (k:Nat) (x i:Src)
 |iaP (n k:Nat) (x i:Src)
 |ixS (x i:Src)
 |ixA (n k:Nat) (ag:Bool) (x i:Src)
 |ext (x:Src) (i:Nat)
 |len (x:Src)
 |lenS (x:Src)
 |app (k:Nat) (x y:Src)
 |call (f:Nat) (args:List Src) (sh:List (List Sh))
 |callv (f:Src) (args:List Src) (sh:List (List Sh))
 |callM (f:Nat) (args:List Src)
 |callvM (f:Src) (args:List Src)
 |ldI (n:Nat) (ag:Bool) (p:Src)
 |ldU (n:Nat) (ag:Bool) (p:Src)
 |callF (f:Nat) (r:Src) (args:List Src) (sh:List (List Sh))
 |appN (k:Nat) (y:Src)
 |bslI (k:Nat) (z:D) (n:Nat) (parts:List (Nat×Src))
 |nT (x:Src)
 |vU (x:Src)
 |mkB
 deriving Inhabited
structure GI where
 i:aJ
 g:Option (Nat×Bool)
 deriving Inhabited
inductive AC where
 |reg (draw:Bool) (ins:List GI) (cm:List (Nat×Nat))
 |seq (a b:AC)
 |cond (c:Src) (a b:AC)
 |block (id:Nat) (a:AC)
 |loop (a:AC)
 |exit (id:Nat)
 |ret
 |skip
 deriving Inhabited
structure Be where
 s:Nat
 mem:Option (Nat×Bool)
 deriving Inhabited
structure aC where
 np:Nat
 ns:Nat
 res:List Be
 rsh:List (List Sh)
 body:AC
 deriving Inhabited
@[go_sem] def D.cells:D->List D
 | .agg cs=>cs
 | .any=>[]
 | .tup _=>[]
 |d=>[d]
@[go_sem] def D.isBool:D->Bool
 | .bool _=>true
 |_=>false
@[go_sem] def D.isAgg:D->Bool
 | .agg _=>true
 |_=>false
mutual
@[go_sem] def D.bG:D->Bool
 | .agg cs=>bt cs
 | .tup cs=>bt cs
 | .fn _ cs=>bt cs
 | .ptr .. =>false
 | .own .. =>false
 | .it _=>false
 |_=>true
@[go_sem] def bt:List D->Bool
 |[]=>true
 |d::r=>d.bG&&bt r
end
mutual
@[go_sem] def D.eL:D->Bool
 | .agg cs=>lz cs
 | .tup cs=>lz cs
 | .fn _ cs=>lz cs
 | .ptr .. =>false
 | .own .. =>false
 | .it _=>false
 | .sl .. =>false
 | .ref .. =>false
 |_=>true
@[go_sem] def lz:List D->Bool
 |[]=>true
 |d::r=>d.eL&&lz r
end
inductive bK where
 |buf (k:Nat) (es:List D)
 |iter (s:List UInt8) (pos:Nat)
 |row (s:List UInt8)
 |bld (o:Option Nat) (n:Nat) (u:Bool)
 deriving Inhabited
structure St where
 nx:Nat
 m:List (Nat×bK)
@[go_sem] def look:List (Nat×bK)->Nat->Option bK
 |[],_=>none
 |(a,b)::r,l=>if a=l then some b else look r l
@[go_sem] def dC:List (Nat×bK)->Nat->bK->List (Nat×bK)
 |[],l,b=>[(l,b)]
 |(a,x)::r,l,b=>if a=l then(a,b)::r else(a,x)::dC r l b
@[go_sem] def dH:List (Nat×bK)->Nat->List (Nat×bK)
 |[],_=>[]
 |(a,x)::r,l=>if a=l then dH r l else(a,x)::dH r l
structure bI where
 ok:Bool
 d:D
@[go_sem] def bI.un:bI:=⟨true,.any⟩
@[go_sem] def Src.ev (env vs:List bI):Src->bI
 | .s n=>env.getD n .un
 | .l p=>vs.getD p .un
 | .c d=>⟨true,d⟩
structure Ctx where
 pre:Nat->List D->Prop
 val:Nat->List D->D
 tr:Nat->List D->St->(D->St->Prop)->Prop
 fp:Nat->D->List D->Prop
 fv:Nat->D->List D->D
 fs:Nat->D->List D->D
 lo:Nat
@[go_sem] def bf (m:List (Nat×bK))(l:Nat):List D:=match look m l with
 |some (.buf _ es)=>es
 |_=>[]
@[go_sem] def fm (m:List (Nat×bK))(l k n:Nat):Prop:=match look m l with
 |some (.buf k' es)=>k=k'/\n<=es.length
 |_=>False
@[go_sem] def nL (m:List (Nat×bK)):D->List D
 | .sl _ es=>es
 | .own l _ i n=>((bf m l).drop i).take n
 | .str s=>s.map fun b=>.int .u8 b.toNat
 |_=>[]
@[go_sem] def yc (m:List (Nat×bK))(k:Nat):D->Prop
 | .sl k' _=>k'=k
 | .own l k' i n=>k'=k/\fm m l k (i+n)
 | .str _=>k=1
 | .aV=>True
 |_=>False
mutual
@[go_sem] def mJ (m:List (Nat×bK)):Sh->D->D
 | .a,d=>match d with
  | .aV=>.sl 0 []
  |d=>d
 | .sl k cs,d=>match d with
  | .aV=>.sl k []
  | .own l k' i c=>.sl k' ((((bf m l).drop i).take c).map (iS m cs))
  |d=>d
 | .pt cs,d=>match d with
  | .ptr l k i o=>.ref k ((bf m l).map (iS m cs)) i o
  |d=>d
@[go_sem] def iS (m:List (Nat×bK)):List Sh->D->D
 |[],d=>d
 |s::r,d=>match d with
  | .agg cs=>.agg (mK m (s::r) cs)
  |d=>mJ m s d
@[go_sem] def mK (m:List (Nat×bK)):List Sh->List D->List D
 |[],ds=>ds
 |s::r,ds=>match ds with
  |[]=>[]
  |d::ds=>mJ m s d::mK m r ds
end
mutual
@[go_sem] def j4 (m:List (Nat×bK)):Sh->D->Prop
 | .a,d=>d.bG=true
 | .sl _ cs,d=>match d with
  | .own l k' i c=>fm m l k' (i+c)/\∀e∈((bf m l).drop i).take c,gQ m cs e
  |d=>d.bG=true
 | .pt cs,d=>match d with
  | .ptr l k _ _=>fm m l k 0/\∀e∈bf m l,gQ m cs e
  |d=>d.bG=true
@[go_sem] def gQ (m:List (Nat×bK)):List Sh->D->Prop
 |[],d=>d.bG=true
 |s::r,d=>match d with
  | .agg cs=>kE m (s::r) cs
  |d=>j4 m s d
@[go_sem] def kE (m:List (Nat×bK)):List Sh->List D->Prop
 |[],ds=>bt ds=true
 |s::r,ds=>match ds with
  |[]=>True
  |d::ds=>j4 m s d/\kE m r ds
end
@[go_sem] def iB (op:BinOp):D->D->D
 | .int k a,.int _ b=>match op with
  | .add=>.int k (k.wrap (a+b))
  | .sub=>.int k (k.wrap (a-b))
  | .mul=>.int k (k.wrap (a*b))
  | .quo=>.int k (k.wrap (a.tdiv b))
  | .rem=>.int k (a.tmod b)
  | .eql=>.bool (a==b)| .neq=>.bool (a !=b)| .lss=>.bool (decide (a<b))| .leq=>.bool (decide (a<=b))| .gtr=>.bool (decide (b<a))| .geq=>.bool (decide (b<=a))
  | .shl=>.int k (k.wrap (a*2^(min b.toNat k.bits)))
  | .shr=>.int k (a.fdiv (2^(min b.toNat k.bits)))
  | .and=>.int k (k.wrap (((BitVec.ofInt k.bits a)&&&(BitVec.ofInt k.bits b)).toNat))
  | .or=>.int k (k.wrap (((BitVec.ofInt k.bits a) |||(BitVec.ofInt k.bits b)).toNat))
  | .xor=>.int k (k.wrap (((BitVec.ofInt k.bits a)^^^(BitVec.ofInt k.bits b)).toNat))
  | .andNot=>.int k (k.wrap (((BitVec.ofInt k.bits a)&&& ~~~(BitVec.ofInt k.bits b)).toNat))
 | .str a,.str b=>match op with
  | .add=>.str (a++b)
  | .eql=>.bool (a==b)| .neq=>.bool (!(a==b))| .lss=>.bool (Op.bytesLess a b)| .geq=>.bool (!(Op.bytesLess a b))
  | .leq=>.bool (Op.bytesLess a b ||a==b)| .gtr=>.bool (!(Op.bytesLess a b ||a==b))
  |_=>.any
 |_,_=>.any
@[go_sem] def ig (op:BinOp):D->D->Prop
 | .int k a,.int k' b=>match op with
  | .quo=>k=k'/\b≠0
  | .rem=>k=k'/\b≠0
  | .shl=>0<=b
  | .shr=>0<=b
  |_=>k=k'
 | .str a,.str b=>match op with
  | .add=>a.length+b.length<=9223372036854775807
  | .eql=>True| .neq=>True| .lss=>True| .geq=>True| .leq=>True| .gtr=>True
  |_=>False
 |_,_=>False
@[go_sem] def D.pick (b:Bool):D->D->D
 | .bool x,.bool y=>.bool (bif b then x else y)
 |x,y=>bif b then x else y
@[go_sem] def cut (cs:List D)(o n:Nat)(ag:Bool):D:=bif ag then .agg ((cs.drop o).take n)else cs.getD o .any
@[go_sem] def ov (e:D)(k n o:Nat)(ag:Bool):D:=bif (n==k)&&(e.isAgg==ag)then e else cut e.cells o n ag
@[go_sem] def BP (m:List (Nat×bK))(n:Nat)(ag:Bool):D->D
 | .ptr l k i o=>ov ((bf m l).getD i .any) k n o ag
 | .ref k es i o=>ov (es.getD i .any) k n o ag
 |_=>.any
@[go_sem] def Dh (m:List (Nat×bK))(n:Nat):D->Prop
 | .ptr l k i o=>fm m l k (i+1)/\o+n<=k
 | .ref k es i o=>i<es.length/\o+n<=k
 |_=>False
mutual
@[go_sem] def Mx:D->D->Bool
 | .bool a,.bool b=>a==b
 | .int _ a,.int _ b=>a==b
 | .str a,.str b=>a==b
 |_,_=>false
@[go_sem] def gL:List D->List D->Bool
 |[],[]=>true
 |a::r,b::s=>Mx a b&&gL r s
 |_,_=>false
end
@[go_sem] def CK.fits:CK->D->Prop
 | .b,.bool _=>True
 | .i k,.int k' _=>k'=k
 | .s,.str _=>True
 |_,_=>False
@[go_sem] def eY:List CK->List D->Prop
 |[],[]=>True
 |c::r,d::s=>c.fits d/\eY r s
 |_,_=>False
@[go_sem] def over (cs:List D)(o:Nat)(new:List D):List D:=cs.take o++(new++cs.drop (o+new.length))
@[go_sem] def sw (e:D)(k n o:Nat)(v:D):D:=bif (n==k)&&(v.isAgg ||!e.isAgg)then v else .agg (over e.cells o v.cells)
@[go_sem] def uj (J:Src->bI)(cs:List D):List (Nat×Nat×Src)->List D
 |[]=>cs
 |(o,_,s)::r=>uj J (over cs o (J s).d.cells) r
@[go_sem] def wN (J:Src->bI)(len:Nat):List (Nat×Nat×Src)->Prop
 |[]=>True
 |(o,n,s)::r=>(J s).ok=true/\(J s).d.cells.length=n/\o+n<=len/\wN J len r
@[go_sem] def kC (J:Src->bI)(es:List D):List (Nat×Src)->List D
 |[]=>es
 |(i,s)::r=>kC J (es.set i (J s).d) r
@[go_sem] def p0 (J:Src->bI)(k n:Nat):List (Nat×Src)->Prop
 |[]=>True
 |(i,s)::r=>i<n/\(J s).ok=true/\(J s).d.cells.length=k/\p0 J k n r
@[go_sem] def D.nat:D->Nat
 | .int _ n=>n.toNat
 |_=>0
@[go_sem] def eg (o:Option D)(dflt:Nat):Nat:=match o with
 |some (.int _ n)=>n.toNat
 |_=>dflt
@[go_sem] def mW (o:Option D)(hi:Nat):Prop:=match o with
 |none=>True
 |some (.int _ n)=>0<=n/\n<=hi
 |_=>False
@[go_sem] def F3 (J:Src->bI):Option Src->Prop
 |none=>True
 |some s=>(J s).ok=true
@[go_sem] def dO (J:Src->bI):Option Src->Option D
 |none=>none
 |some s=>some (J s).d
@[go_sem] def tn (J:Src->bI):List Src->Prop
 |[]=>True
 |s::r=>(J s).ok=true/\tn J r
@[go_sem] def gX (J:Src->bI):List Src->List D
 |[]=>[]
 |s::r=>(J s).d::gX J r
@[go_sem] def D.u8:D->UInt8
 | .int _ n=>UInt8.ofNat n.toNat
 |_=>0
@[go_sem] def D.EJ:D->Prop
 | .int k n=>k=.u8/\0<=n/\n<256
 |_=>False
def rL (s:List UInt8)(pos:Nat):Nat×Nat:=Utf8.decode ⟨⟨s⟩⟩ pos
def Is (n:Int):List UInt8:=(Utf8.encode n).data.toList
@[go_sem] def fA (m:List (Nat×bK)):List (List Sh)->List D->List D
 |_,[]=>[]
 |[],d::r=>iS m [.a] d::fA m [] r
 |s::ss,d::r=>iS m s d::fA m ss r
@[go_sem] def iO (m:List (Nat×bK)):List (List Sh)->List D->Prop
 |_,[]=>True
 |[],d::r=>gQ m [.a] d/\iO m [] r
 |s::ss,d::r=>gQ m s d/\iO m ss r
@[go_sem] def aJ.val (Y:Ctx)(J:Src->bI)(m:List (Nat×bK))(L:Nat):aJ->D
 | .mv x=>(J x).d
 | .pick c a b=>match(J c).d with| .bool t=>D.pick t (J a).d (J b).d|_=>.any
 | .box k _=>.ptr L k 0 0
 | .build z ps=>.agg (uj J z ps)
 | .bsl k _ n _=>.own L k 0 n
 | .ld n ag p=>BP m n ag (J p).d
 | .st _ _ _=>.any
 | .nilck x=>(J x).d
 | .bin op x y=>iB op (J x).d (J y).d
 | .eqA neg _ _ x y=>.bool (bif neg then !(gL (J x).d.cells (J y).d.cells)else gL (J x).d.cells (J y).d.cells)
 | .un op x=>match op,(J x).d with
  | .not,.bool b=>.bool (!b)
  | .neg,.int k n=>.int k (k.wrap (0-n))
  |_,_=>.any
 | .cvi k x=>match(J x).d with| .int _ n=>.int k (k.wrap n)|_=>.any
 | .s2b x=>match(J x).d with| .str s=>.own L 1 0 s.length|_=>.any
 | .b2s x=>.str ((nL m (J x).d).map D.u8)
 | .i2s x=>match(J x).d with| .int _ n=>.str (Is n)|_=>.any
 | .mkf f caps=>.fn f (gX J caps)
 | .mks k _ ln _=>.own L k 0 (J ln).d.nat
 | .slS x lo hi=>match(J x).d with
  | .str s=>.str ((s.take (eg (dO J hi) s.length)).drop (eg (dO J lo) 0))
  |_=>.any
 | .slA _ x lo hi=>match(J x).d with
  | .sl k es=>.sl k ((es.take (eg (dO J hi) es.length)).drop (eg (dO J lo) 0))
  | .own l k i n=>.own l k (i+eg (dO J lo) 0) (eg (dO J hi) n-eg (dO J lo) 0)
  | .aV=>.aV
  |_=>.any
 | .slX _ x hi _=>match(J x).d,(J hi).d with
  | .sl k es,.int _ h=>.sl k (es.take h.toNat)
  | .own l k i _,.int _ h=>.own l k i h.toNat
  | .aV,_=>.aV
  |_,_=>.any
 | .fa off p=>match(J p).d with
  | .ptr l k i o=>.ptr l k i (o+off)
  | .ref k es i o=>.ref k es i (o+off)
  |_=>.any
 | .fld off n ag x=>cut (J x).d.cells off n ag
 | .ia _ x i=>match(J x).d,(J i).d with
  | .sl k es,.int _ n=>.ref k es n.toNat 0
  | .own l k j _,.int _ n=>.ptr l k (j+n.toNat) 0
  |_,_=>.any
 | .iaP _ k x i=>match(J x).d,(J i).d with
  | .ptr l k' j o,.int _ n=>.ptr l k' j (o+n.toNat*k)
  | .ref k' es j o,.int _ n=>.ref k' es j (o+n.toNat*k)
  |_,_=>.any
 | .ixS x i=>match(J x).d,(J i).d with
  | .str s,.int _ n=>.int .u8 (s.getD n.toNat 0).toNat
  |_,_=>.any
 | .ixA _ k ag x i=>match(J i).d with
  | .int _ n=>cut (J x).d.cells (n.toNat*k) k ag
  |_=>.any
 | .ext x i=>match(J x).d with| .tup ds=>ds.getD i .any|_=>.any
 | .len x=>match(J x).d with
  | .sl _ es=>.int .i64 es.length
  | .own _ _ _ n=>.int .i64 n
  | .aV=>.int .i64 0
  |_=>.any
 | .lenS x=>match(J x).d with
  | .str s=>.int .i64 s.length
  |_=>.any
 | .app k x y=>match(J x).d with
  | .own _ _ _ n=>.own L k 0 (n+(nL m (J y).d).length)
  |_=>.own L k 0 (nL m (J y).d).length
 | .call f args sh=>Y.val f (fA m sh (gX J args))
 | .callv f args sh=>match(J f).d with
  | .fn n caps=>Y.val n (fA m sh (gX J args++caps))
  |_=>.any
 | .callM _ _=>.any
 | .callvM _ _=>.any
 | .ldU n ag p=>BP m n ag (J p).d
 | .ldI n ag p=>match(J p).d with
  | .ref k es i o=>ov (es.getD i .any) k n o ag
  |_=>.any
 | .appN k y=>.own L k 0 (nL m (J y).d).length
 | .bslI k z n ps=>.sl k (kC J (List.replicate n z) ps)
 | .callF f r args sh=>match(J r).d with
  | .ptr l _ _ _=>Y.fv f ((bf m l).getD 0 .any) (fA [] sh (gX J args))
  |_=>.any
 | .nT _=>.it L
 | .mkB=>.ptr L 2 0 0
 | .vU x=>match(J x).d with
  | .it l=>match look m l with
   |some (.iter s pos)=>bif decide (pos<s.length)then .tup [.bool true,.int .i64 pos,.int .i32 (rL s pos).1]else .tup [.bool false]
   |_=>.any
  |_=>.any
@[go_sem] def pT (args:List D)(r:D):Bool:=bt args ||r.eL
@[go_sem] def aJ.dN (Y:Ctx)(J:Src->bI)(m:List (Nat×bK)):aJ->Prop
 | .mv x=>(J x).ok=true
 | .pick c a b=>(J c).ok=true/\match(J c).d with
  | .bool t=>(t=true->(J a).ok=true)/\(t=false->(J b).ok=true)
  |_=>False
 | .box k x=>(J x).ok=true/\(J x).d.cells.length=k
 | .build z ps=>wN J z.length ps
 | .bsl k z n ps=>z.cells.length=k/\p0 J k n ps
 | .ld n _ p=>(J p).ok=true/\Dh m n (J p).d
 | .st n p v=>(J p).ok=true/\(J v).ok=true/\(J v).d.cells.length=n/\match(J p).d with
  | .ptr l k i o=>fm m l k (i+1)/\o+n<=k
  |_=>False
 | .nilck x=>(J x).ok=true/\match(J x).d with| .ptr .. =>True| .ref .. =>True|_=>False
 | .bin op x y=>(J x).ok=true/\(J y).ok=true/\ig op (J x).d (J y).d
 | .eqA _ ag ks x y=>(J x).ok=true/\(J y).ok=true/\(J x).d.isAgg=ag/\(J y).d.isAgg=ag/\eY ks (J x).d.cells/\eY ks (J y).d.cells
 | .un op x=>(J x).ok=true/\match op,(J x).d with
  | .not,.bool _=>True
  | .neg,.int _ _=>True
  |_,_=>False
 | .cvi _ x=>(J x).ok=true/\match(J x).d with| .int _ _=>True|_=>False
 | .s2b x=>(J x).ok=true/\match(J x).d with| .str _=>True|_=>False
 | .b2s x=>(J x).ok=true/\(match(J x).d with| .str _=>False|_=>True)/\yc m 1 (J x).d/\∀e∈nL m (J x).d,e.EJ
 | .i2s x=>(J x).ok=true/\match(J x).d with| .int _ _=>True|_=>False
 | .mkf _ caps=>tn J caps
 | .mks k z ln cp=>(J ln).ok=true/\(J cp).ok=true/\z.cells.length=k/\match(J ln).d,(J cp).d with
  | .int _ n,.int _ c=>0<=n/\n<=c/\c<=1073741824
  |_,_=>False
 | .slS x lo hi=>(J x).ok=true/\F3 J lo/\F3 J hi/\match(J x).d with
  | .str s=>mW (dO J hi) s.length/\mW (dO J lo) (eg (dO J hi) s.length)
  |_=>False
 | .slA k x lo hi=>(J x).ok=true/\F3 J lo/\F3 J hi/\match(J x).d with
  | .sl k' es=>k'=k/\mW (dO J hi) es.length/\mW (dO J lo) (eg (dO J hi) es.length)
  | .own _ k' _ n=>k'=k/\mW (dO J hi) n/\mW (dO J lo) (eg (dO J hi) n)
  | .aV=>mW (dO J hi) 0/\mW (dO J lo) 0
  |_=>False
 | .slX k x hi mx=>(J x).ok=true/\(J hi).ok=true/\(J mx).ok=true/\match(J hi).d,(J mx).d with
  | .int _ h,.int _ m=>0<=h/\h<=m/\(match(J x).d with
    | .sl k' es=>k'=k/\m<=es.length
    | .own _ k' _ n=>k'=k/\m<=n
    | .aV=>m=0
    |_=>False)
  |_,_=>False
 | .fa off p=>(J p).ok=true/\match(J p).d with| .ptr .. =>True| .ref .. =>True|_=>False
 | .fld off n ag x=>(J x).ok=true/\match(J x).d with| .agg cs=>off+n<=cs.length/\(ag=false->n=1)|_=>False
 | .ia k x i=>(J x).ok=true/\(J i).ok=true/\match(J x).d,(J i).d with
  | .sl k' es,.int _ n=>k'=k/\0<=n/\n<es.length
  | .own _ k' _ c,.int _ n=>k'=k/\0<=n/\n<c
  |_,_=>False
 | .iaP n k x i=>(J x).ok=true/\(J i).ok=true/\match(J x).d,(J i).d with
  | .ptr ..,.int _ c=>0<=c/\c<n
  | .ref ..,.int _ c=>0<=c/\c<n
  |_,_=>False
 | .ixS x i=>(J x).ok=true/\(J i).ok=true/\match(J x).d,(J i).d with
  | .str s,.int _ n=>0<=n/\n<s.length
  |_,_=>False
 | .ixA n k ag x i=>(J x).ok=true/\(J i).ok=true/\(ag=false->k=1)/\match(J x).d,(J i).d with
  | .agg cs,.int _ c=>0<=c/\c<n/\cs.length=n*k
  |_,_=>False
 | .ext x i=>(J x).ok=true/\match(J x).d with| .tup ds=>i<ds.length|_=>False
 | .len x=>(J x).ok=true/\match(J x).d with| .sl _ _=>True| .own .. =>True| .aV=>True|_=>False
 | .lenS x=>(J x).ok=true/\match(J x).d with| .str _=>True|_=>False
 | .app k x y=>(J x).ok=true/\(J y).ok=true/\yc m k (J y).d/\match(J x).d with
  | .own l k' i n=>k'=k/\fm m l k (i+n)/\n+(nL m (J y).d).length<=1073741824
  | .aV=>(nL m (J y).d).length<=1073741824
  |_=>False
 | .call f args sh=>tn J args/\iO m sh (gX J args)/\Y.pre f (fA m sh (gX J args))/\pT (gX J args) (Y.val f (fA m sh (gX J args)))=true
 | .callv f args sh=>(J f).ok=true/\tn J args/\match(J f).d with
  | .fn n caps=>n<1000000/\iO m sh (gX J args++caps)/\Y.pre n (fA m sh (gX J args++caps))/\pT (gX J args++caps) (Y.val n (fA m sh (gX J args++caps)))=true
  |_=>False
 | .callM _ args=>tn J args
 | .callvM _ args=>tn J args
 | .ldU n _ p=>(J p).ok=true/\match(J p).d with
  | .ptr l k i o=>(fm m l k (i+1)/\o+n<=k)/\bt (bf m l)=false
  | .ref k es i o=>i<es.length/\o+n<=k
  |_=>False
 | .ldI n _ p=>(J p).ok=true/\match(J p).d with
  | .ref k es i o=>i<es.length/\o+n<=k
  |_=>False
 | .appN k y=>(J y).ok=true/\yc m k (J y).d/\(nL m (J y).d).length<=1073741824
 | .bslI k z n ps=>z.cells.length=k/\p0 J k n ps/\bt (kC J (List.replicate n z) ps)=true
 | .callF f r args sh=>(J r).ok=true/\tn J args/\bt (gX J args)=true/\match(J r).d with
  | .ptr l k i o=>i=0/\o=0/\fm m l k 1/\(bf m l).length=1/\((bf m l).getD 0 .any).bG=true/\Y.fp f ((bf m l).getD 0 .any) (fA [] sh (gX J args))
  |_=>False
 | .nT x=>(J x).ok=true/\match(J x).d with| .str _=>True|_=>False
 | .mkB=>True
 | .vU x=>(J x).ok=true/\match(J x).d with
  | .it l=>match look m l with
   |some (.iter _ _)=>True
   |_=>False
  |_=>False
@[go_sem] def Src.Hh:Src->Bool
 | .s _=>true
 |_=>false
@[go_sem] def aJ.Bo (draw:Bool)(J:Src->bI):aJ->Prop
 | .len x=>bif draw&& !x.Hh then True else(J x).ok=true->match(J x).d with
  | .sl _ es=>es.length<=9223372036854775807
  | .own _ _ _ n=>n<=9223372036854775807
  |_=>True
 | .lenS x=>bif draw&& !x.Hh then True else(J x).ok=true->match(J x).d with
  | .str s=>s.length<=9223372036854775807
  |_=>True
 |_=>True
@[go_sem] def aJ.cE (Y:Ctx)(J:Src->bI)(m:List (Nat×bK))(L:Nat):aJ->List (Nat×bK)
 | .box k x=>dC m L (.buf k [(J x).d])
 | .bsl k z n ps=>dC m L (.buf k (kC J (List.replicate n z) ps))
 | .mks k z ln _=>dC m L (.buf k (List.replicate (J ln).d.nat z))
 | .s2b x=>match(J x).d with
  | .str s=>dC m L (.buf 1 (s.map fun b=>.int .u8 b.toNat))
  |_=>m
 | .st n p v=>match(J p).d with
  | .ptr l k i o=>dC m l (.buf k ((bf m l).set i (sw ((bf m l).getD i .any) k n o (J v).d)))
  |_=>m
 | .app k x y=>match(J x).d with
  | .own l k' i n=>dC (dH m l) L (.buf k ((((bf m l).drop i).take n)++nL m (J y).d))
  |_=>dC m L (.buf k (nL m (J y).d))
 | .appN k y=>dC m L (.buf k (nL m (J y).d))
 | .callF f r args sh=>match(J r).d with
  | .ptr l k _ _=>dC m l (.buf k [Y.fs f ((bf m l).getD 0 .any) (fA [] sh (gX J args))])
  |_=>m
 | .nT x=>match(J x).d with
  | .str s=>dC m L (.iter s 0)
  |_=>m
 | .mkB=>dC m L (.bld none 0 false)
 | .vU x=>match(J x).d with
  | .it l=>match look m l with
   |some (.iter s pos)=>bif decide (pos<s.length)then dC m l (.iter s (pos+(rL s pos).2))else m
   |_=>m
  |_=>m
 |_=>m
@[go_sem] def cN:D->List Nat
 | .ptr l _ _ _=>[l]
 | .own l _ _ _=>[l]
 | .it l=>[l]
 |_=>[]
@[go_sem] def aJ.k9 (J:Src->bI):aJ->Option (List Nat)
 | .ld _ _ p=>some (cN (J p).d)
 | .ldU _ _ p=>some (cN (J p).d)
 | .st _ p _=>some (cN (J p).d)
 | .b2s x=>some (cN (J x).d)
 | .app _ x y=>some (cN (J x).d++cN (J y).d)
 | .vU x=>some (cN (J x).d)
 | .call _ args _=>bif bt (gX J args)then some []else none
 | .callv f args _=>match(J f).d with
  | .fn _ caps=>bif bt (gX J args++caps)then some []else none
  |_=>none
 | .callM _ _=>none
 | .callvM _ _=>none
 | .callF _ r _ _=>some (cN (J r).d)
 | .appN _ y=>some (cN (J y).d)
 |_=>some []
@[go_sem] def aJ.wr (J:Src->bI)(L:Nat):aJ->List Nat
 | .box .. =>[L]
 | .bsl .. =>[L]
 | .mks .. =>[L]
 | .s2b _=>[L]
 | .nT _=>[L]
 | .mkB=>[L]
 | .st _ p _=>cN (J p).d
 | .app _ x _=>L::cN (J x).d
 | .vU x=>cN (J x).d
 | .callF _ r _ _=>cN (J r).d
 | .appN .. =>[L]
 |_=>[]
@[go_sem] def aJ.calm:aJ->Bool
 | .st .. =>false
 | .app .. =>false
 | .vU .. =>false
 | .callM .. =>false
 | .callvM .. =>false
 | .callF .. =>false
 |_=>true
@[go_sem] def flag (vs:List bI):Option (Nat×Bool)->Bool
 |none=>true
 |some (j,w)=>(vs.getD j .un).ok&&match(vs.getD j .un).d with
  | .bool b=>b==w
  |_=>false
@[go_sem] def G9 (vs:List bI)(i:aJ):Option (Nat×Bool)->Prop
 |none=>True
 |some (j,_)=>i.calm=true/\((vs.getD j .un).ok=true->(vs.getD j .un).d.isBool=true)
@[go_sem] def aJ.sL (draw:Bool)(g:Option (Nat×Bool))(i:aJ):Bool:=!draw&&(!i.calm&&g.isSome)
@[go_sem] def we (vs:List bI):Option (Nat×Bool)->Prop
 |none=>True
 |some (j,_)=>(vs.getD j .un).ok=true->(vs.getD j .un).d.isBool=true
@[go_sem] def xU (n:Nat):Nat:=if n<1000000 then n else n-1000000
@[go_sem] def vX (n:Nat)(acV caps:List D):List D:=if n<1000000 then acV++caps else caps++acV
def iy (Y:Ctx)(draw:Bool):List GI->(env vs:List bI)->St->(List bI->St->Prop)->Prop
 |[],_,vs,st,K=>K vs {st with nx:=st.nx+vs.length}
 |⟨.callM f args,g⟩::r,env,vs,st,K=>
  we vs g/\(flag vs g=true->tn (Src.ev env vs) args/\
   Y.tr f (gX (Src.ev env vs) args) {st with nx:=st.nx+vs.length} fun d st'=>st.nx+vs.length<=st'.nx/\iy Y draw r env (vs++[⟨true,d⟩]) {st' with nx:=st'.nx-vs.length} K)/\
   (flag vs g=false->iy Y draw r env (vs++[⟨false,.any⟩]) st K)
 |⟨.callvM f args,g⟩::r,env,vs,st,K=>
  G9 vs (.callvM f args) g/\(Src.ev env vs f).ok=true/\tn (Src.ev env vs) args/\match(Src.ev env vs f).d with
   | .fn n caps=>Y.tr (xU n) (vX n (gX (Src.ev env vs) args) caps) {st with nx:=st.nx+vs.length} fun d st'=>st.nx+vs.length<=st'.nx/\iy Y draw r env (vs++[⟨true,d⟩]) {st' with nx:=st'.nx-vs.length} K
   |_=>False
 |⟨i,g⟩::r,env,vs,st,K=>
  if i.sL draw g=true then
   we vs g/\(flag vs g=true->i.dN Y (Src.ev env vs) st.m/\
     iy Y draw r env (vs++[⟨true,i.val Y (Src.ev env vs) st.m (st.nx+vs.length)⟩]) {st with m:=i.cE Y (Src.ev env vs) st.m (st.nx+vs.length)} K)/\
    (flag vs g=false->iy Y draw r env (vs++[⟨false,.any⟩]) st K)
  else
  G9 vs i g/\(flag vs g=true->i.dN Y (Src.ev env vs) st.m)/\
   ((flag vs g=true->i.Bo draw (Src.ev env vs))->∃d,(flag vs g=true->i.val Y (Src.ev env vs) st.m (st.nx+vs.length)=d)/\
     iy Y draw r env (vs++[⟨flag vs g,d⟩]) {st with m:=i.cE Y (Src.ev env vs) st.m (st.nx+vs.length)} K)
mutual
@[go_sem] def mb (l k:Nat)(es:List D):D->D
 | .own l' k' i n=>if l'=l/\k'=k/\i+n<=es.length then .sl k ((es.drop i).take n)else .own l' k' i n
 | .ptr l' k' i o=>if l'=l/\k'=k then .ref k es i o else .ptr l' k' i o
 | .agg cs=>.agg (rz l k es cs)
 | .tup cs=>.tup (rz l k es cs)
 | .fn f cs=>.fn f (rz l k es cs)
 | .any=>.any
 | .bool b=>.bool b
 | .int k n=>.int k n
 | .str s=>.str s
 | .aV=>.aV
 | .sl k es=>.sl k es
 | .ref k es i o=>.ref k es i o
 | .nilp=>.nilp
 | .nilf=>.nilf
 | .it l=>.it l
@[go_sem] def rz (l k:Nat)(es:List D):List D->List D
 |[]=>[]
 |d::r=>mb l k es d::rz l k es r
end
@[go_sem] def zy (l k:Nat)(es:List D):bK->bK
 | .buf k' es'=>.buf k' (rz l k es es')
 |b=>b
@[go_sem] def wc (l k:Nat)(es:List D):List (Nat×bK)->List (Nat×bK)
 |[]=>[]
 |(a,b)::r=>(a,zy l k es b)::wc l k es r
@[go_sem] def tE (l k:Nat)(es:List D):List bI->List bI
 |[]=>[]
 |⟨ok,d⟩::r=>⟨ok,mb l k es d⟩::tE l k es r
@[go_sem] def F2 (l:Nat)(s:List bI×List (Nat×bK)):List bI×List (Nat×bK):=match look s.2 l with
 |some (.buf k es)=>bif bt es then(tE l k es s.1,wc l k es (dH s.2 l))else s
 |_=>s
@[go_sem] def frzs:List Nat->List bI×List (Nat×bK)->List bI×List (Nat×bK)
 |[],s=>s
 |l::r,s=>frzs r (F2 l s)
inductive Ex where
 |normal|exit (id:Nat)|ret
@[go_sem] def gJ (env vs:List bI):List (Nat×Nat)->List bI
 |[]=>env
 |(s,p)::r=>gJ (env.set s (vs.getD p .un)) vs r
@[go_sem] def mh (lo:Nat)(σ:List (Nat×Nat))(l:Nat):Option Nat:=match σ with
 |[]=>bif Nat.blt l lo then some l else none
 |(a,b)::r=>bif Nat.beq a l then some b else mh lo r l
@[go_sem] def FA (lo:Nat)(σ:List (Nat×Nat))(l:Nat)(f:Nat->D):Option D:=match mh lo σ l with
 |some l'=>some (f l')
 |none=>none
mutual
@[go_sem] def sj (lo:Nat)(σ:List (Nat×Nat)):D->Option D
 | .own l k i n=>FA lo σ l fun l=>.own l k i n
 | .ptr l k i o=>FA lo σ l fun l=>.ptr l k i o
 | .it l=>FA lo σ l fun l=>.it l
 | .agg cs=>match qn lo σ cs with
  |some cs=>some (.agg cs)
  |none=>none
 | .tup cs=>match qn lo σ cs with
  |some cs=>some (.tup cs)
  |none=>none
 | .fn f cs=>match qn lo σ cs with
  |some cs=>some (.fn f cs)
  |none=>none
 | .any=>some .any
 | .bool b=>some (.bool b)
 | .int k n=>some (.int k n)
 | .str s=>some (.str s)
 | .aV=>some .aV
 | .sl k es=>some (.sl k es)
 | .ref k es i o=>some (.ref k es i o)
 | .nilp=>some .nilp
 | .nilf=>some .nilf
@[go_sem] def qn (lo:Nat)(σ:List (Nat×Nat)):List D->Option (List D)
 |[]=>some []
 |d::r=>match sj lo σ d,qn lo σ r with
  |some d,some r=>some (d::r)
  |_,_=>none
end
mutual
def rD:D->D->Prop
 | .aV,d'=>d'=.aV\/∃l k i,d'=.own l k i 0
 | .agg a,d'=>∃b,d'=.agg b/\Bk a b
 |d,d'=>d'=d/\d.bG=true
def Bk:List D->List D->Prop
 |[],b=>b=[]
 |d::r,b=>∃d' r',b=d'::r'/\rD d d'/\Bk r r'
end
def IS (lo:Nat)(σ:List (Nat×Nat))(d d':D):Prop:=d'=d/\d.bG=true\/sj lo σ d=some d'\/rD d d'
def pE (lo:Nat)(σ:List (Nat×Nat)):bK->bK->Prop
 | .buf k es,.buf k' es'=>k'=k/\(es'=es/\bt es=true\/qn lo σ es=some es'\/Bk es es')
 | .iter s p,.iter s' p'=>s'=s/\p'=p
 | .row s,.row s'=>s'=s
 | .bld o n u,.bld o' n' u'=>(match o with
  |none=>o'=none
  |some l=>∃l',mh lo σ l=some l'/\o'=some l')/\n'=n/\u'=u
 |_,_=>False
def c9 (lo:Nat)(σ:List (Nat×Nat)):List bI->List bI->Prop
 |[],[]=>True
 |a::r,b::s=>(b.ok=a.ok/\IS lo σ a.d b.d\/b=.un)/\c9 lo σ r s
 |_,_=>False
def ba (lo c:Nat)(σ:List (Nat×Nat))(m:List (Nat×bK)):List (Nat×bK)->Prop
 |[]=>True
 |(l',b')::r=>((∃l b,mh lo σ l=some l'/\look m l=some b/\pE lo σ b b')\/(Nat.ble lo l'=true/\Nat.blt l' c=true/\σ.all (fun p=>!Nat.beq p.2 l')=true/\∃k,b'=.buf k []))/\ba lo c σ m r
def gY (lo c:Nat):List (Nat×Nat)->Bool
 |[]=>Nat.ble lo c
 |(a,b)::r=>(Nat.ble lo b&&(Nat.blt b c&&(r.all (fun p=>!Nat.beq p.1 a&& !Nat.beq p.2 b)&&gY lo c r)))
@[go_sem] def MM:List bI->List bI->Prop
 |[],[]=>True
 |a::r,b::s=>(b=a\/b=.un)/\MM r s
 |_,_=>False
@[go_sem] def Iu (m:List (Nat×bK)):List (Nat×bK)->Prop
 |[]=>True
 |(l,b)::r=>look m l=some b/\Iu m r
inductive tP:D->D->Prop
 |refl (d:D):tP d d
 |nil (k:Nat):tP .aV (.sl k [])
 |agg (a b:List D) (hl:b.length=a.length) (h:∀i,tP (a.getD i .any) (b.getD i .any)):tP (.agg a) (.agg b)
 |sl (k:Nat) (a b:List D) (hl:b.length=a.length) (h:∀i,tP (a.getD i .any) (b.getD i .any)):tP (.sl k a) (.sl k b)
def D9 (a b:List D):Prop:=b.length=a.length/\∀i,tP (a.getD i .any) (b.getD i .any)
def NG:bK->bK->Prop
 | .buf k es,.buf k' es'=>k'=k/\D9 es es'
 |b,b'=>b'=b
def Mk:List bI->List bI->Prop
 |[],[]=>True
 |a::r,b::s=>(b.ok=a.ok/\tP a.d b.d)/\Mk r s
 |_,_=>False
def Jh (m:List (Nat×bK)):List (Nat×bK)->Prop
 |[]=>True
 |(l,b')::r=>(∃b,look m l=some b/\NG b b')/\Jh m r
inductive bj (lo:Nat):List bI->St->List bI->St->Prop
 |refl (env:List bI) (st:St):bj lo env st env st
 |F2 (l:Nat) (env:List bI) (st:St):bj lo env st (F2 l (env,st.m)).1 ⟨st.nx,(F2 l (env,st.m)).2⟩
 |ren (σ:List (Nat×Nat)) (c:Nat) (env env':List bI) (nx:Nat) (m m':List (Nat×bK)) (h:gY lo c σ=true) (he:c9 lo σ env env') (hm:ba lo c σ m m'):bj lo env ⟨nx,m⟩ env' ⟨c,m'⟩
 |wk (env env':List bI) (nx:Nat) (m m':List (Nat×bK)) (he:MM env env') (hm:Iu m m'):bj lo env ⟨nx,m⟩ env' ⟨nx,m'⟩
 |nz (env env':List bI) (nx:Nat) (m m':List (Nat×bK)) (he:Mk env env') (hm:Jh m m'):bj lo env ⟨nx,m⟩ env' ⟨nx,m'⟩
 |trans (env1 env2 env3:List bI) (st1 st2 st3:St) (h:bj lo env1 st1 env2 st2) (h':bj lo env2 st2 env3 st3):bj lo env1 st1 env3 st3
def Gh (lo:Nat)(p:List bI->St->Prop)(env:List bI)(st:St):Prop:=∃env' st',bj lo env st env' st'/\p env' st'
def bH (Y:Ctx):AC->(Ex->List bI->St->Prop)->List bI->St->Prop
 | .reg draw ins cm,Q=>Gh Y.lo fun env st=>iy Y draw ins env [] st fun vs st'=>Q .normal (gJ env vs cm) st'
 | .seq a b,Q=>Gh Y.lo (bH Y a (fun e env st=>match e with
   | .normal=>bH Y b Q env st
   |e=>Q e env st))
 | .cond c a b,Q=>Gh Y.lo fun env st=>(c.ev env []).ok=true/\match(c.ev env []).d with
  | .bool t=>(t=true->bH Y a Q env st)/\(t=false->bH Y b Q env st)
  |_=>False
 | .block id a,Q=>Gh Y.lo (bH Y a (fun e env st=>match e with
   | .exit j=>if j=id then Q .normal env st else Q (.exit j) env st
   |e=>Q e env st))
 | .loop a,Q=>Gh Y.lo fun env st=>∃(I:List bI->St->Prop) (μ:List bI->St->Nat),
   I env st/\∀env st,I env st->
   bH Y a (fun e env' st'=>match e with
    | .normal=>∃env2 st2,bj Y.lo env' st' env2 st2/\I env2 st2/\μ env2 st2<μ env st
    |e=>Q e env' st') env st
 | .exit id,Q=>Gh Y.lo (Q (.exit id))
 | .ret,Q=>Gh Y.lo (Q .ret)
 | .skip,Q=>Gh Y.lo (Q .normal)
def Ctx.at (Y:Ctx)(n:Nat):Ctx:={Y with lo:=n}
@[go_sem] def AB (m:List (Nat×bK))(env:List bI)(r:Be):D:=match r.mem with
 |none=>(env.getD r.s .un).d
 |some (n,ag)=>BP m n ag (env.getD r.s .un).d
@[go_sem] def qm (m:List (Nat×bK))(env:List bI):List Be->Prop
 |[]=>True
 |r::rs=>(env.getD r.s .un).ok=true/\(match r.mem with
   |none=>True
   |some (n,_)=>Dh m n (env.getD r.s .un).d)/\qm m env rs
@[go_sem] def nQ (m:List (Nat×bK))(env:List bI):List Be->List D
 |[]=>[]
 |r::rs=>AB m env r::nQ m env rs
@[go_sem] def oG (a:aC)(env:List bI)(st:St):D:=match a.res with
 |[r]=>AB st.m env r
 |rs=>.tup (nQ st.m env rs)
@[go_sem] def Kj (a:aC)(env:List bI)(st:St):D:=match a.res with
 |[r]=>iS st.m (a.rsh.getD 0 []) (AB st.m env r)
 |rs=>.tup (fA st.m a.rsh (nQ st.m env rs))
@[go_sem] def DJ (a:aC)(env:List bI)(st:St):Prop:=match a.res with
 |[r]=>gQ st.m (a.rsh.getD 0 []) (AB st.m env r)
 |rs=>iO st.m a.rsh (nQ st.m env rs)
@[go_sem] def Ex.home:Ex->Prop
 | .exit _=>False
 |_=>True
@[go_sem] def gG (a:aC)(ds:List D):List bI:=(ds.map fun d=>⟨true,d⟩)++List.replicate (a.ns-a.np) .un
mutual
def eE:Value->Option D
 | .bool b=>some (.bool b)
 | .int k n=>some (.int k n)
 | .string s=>if s.size<=9223372036854775807 then some (.str s.data.toList)else none
 | .pointer none=>some .nilp
 | .slice none 0 0=>some .aV
 | .nilFunc=>some .nilf
 | .agg ⟨cs⟩=>if qK cs then(oW cs).map .agg else none
 |_=>none
def oW:List Value->Option (List D)
 |[]=>some []
 |v::r=>match eE v,oW r with
  |some d,some ds=>some (d::ds)
  |_,_=>none
def qK:List Value->Bool
 |[]=>true
 |v::r=>(match v with
  | .agg _=>false
  | .tuple _=>false
  |_=>true)&&qK r
end
def AL (P:Program):Nat->TypeId->List Sh
 |0,_=>[.a]
 |d+1,t=>match P.underlying t with
  |some (.struct fs)=>(fs.toList.map fun f=>AL P d f.type).flatten
  |some (.array n e)=>(List.replicate n (AL P d e)).flatten
  |some (.slice e)=>[.sl (P.cellsOf e) (AL P d e)]
  |some (.pointer e)=>[.pt (AL P d e)]
  |_=>[.a]
structure CC where
 P:Program
 ν:List (Nat×Nat)
 cE:List Nat
 slots:List Nat
 ntmps:Nat
 vm:Bool
def tj:List Nat->Nat->Option Nat
 |[],_=>none
 |a::r,t=>if a=t then some 0 else(tj r t).map (· +1)
def ez:List (Nat×Nat)->Nat->Option Nat
 |[],_=>none
 |(a,b)::r,l=>if a=l then some b else ez r l
def posOf (t:Nat):List (Option Nat)->Option Nat
 |[]=>none
 |a::r=>if a=some t then some 0 else(posOf t r).map (· +1)
def CC.src (C:CC)(defs:List (Option Nat)):Operand->Option Src
 | .tmp t=>match posOf t defs with
  |some p=>some (.l p)
  |none=>(tj C.slots t).map .s
 | .const v=>(eE v).map .c
 | .func f=>(ez C.ν f).map fun n=>.c (.fn n [])
 | .global _=>none
def CC.qw (C:CC)(defs:List (Option Nat)):List Operand->Option (List Src)
 |[]=>some []
 |x::r=>match C.src defs x,C.qw defs r with
  |some a,some l=>some (a::l)
  |_,_=>none
def CC.opt (C:CC)(defs:List (Option Nat)):Option Operand->Option (Option Src)
 |none=>some none
 |some x=>(C.src defs x).map some
def bZ (P:Program)(t:TypeId):Bool:=match P.underlying t with
 |some (.struct _)=>true
 |some (.array ..)=>true
 |_=>false
def j0 (P:Program)(k:TypeId->Option (List CK)):Nat->List Field->Option (List CK)
 |_,[]=>some []
 |off,f::r=>if f.name= "_" \/f.offset≠off then none else
  match k f.type,j0 P k (off+P.cellsOf f.type) r with
  |some a,some b=>if a.length=P.cellsOf f.type/\a.length≠0/\(P.underlying f.type).isNone=false then some (a++b)else none
  |_,_=>none
def fB (P:Program):Nat->TypeId->Option (List CK)
 |0,_=>none
 |d+1,t=>match P.underlying t with
  |some .bool=>some [.b]
  |some (.int k)=>some [.i k]
  |some .string=>some [.s]
  |some (.struct fs)=>if P.stoodInHeld t then none else j0 P (fun t=>fB P d t) 0 fs.toList
  |some (.array n e)=>match fB P d e with
   |some l=>if l.length=P.cellsOf e/\l.length≠0/\(P.underlying e).isNone=false then some (List.replicate n l).flatten else none
   |none=>none
  |_=>none
def CC.parts (C:CC)(defs:List (Option Nat))(place:Nat->Option (Nat×Nat)):List (Nat×Operand)->Option (List (Nat×Nat×Src))
 |[]=>some []
 |(i,x)::r=>match place i,C.src defs x,C.parts defs place r with
  |some (o,n),some s,some l=>if n=0 then none else some ((o,n,s)::l)
  |_,_,_=>none
def CC.sc (C:CC)(defs:List (Option Nat)):List (Nat×Operand)->Option (List (Nat×Src))
 |[]=>some []
 |(i,x)::r=>match C.src defs x,C.sc defs r with
  |some s,some l=>some ((i,s)::l)
  |_,_=>none
def pO (P:Program)(t:TypeId):Option D:=((P.info? t).bind (·.zero)).bind eE
def mR (P:Program)(t:TypeId):Bool:=match pO P t with
 |some z=>z.cells.length==P.cellsOf t
 |none=>false
def CC.op (C:CC)(defs:List (Option Nat))(o:Oper):Option aJ:=
 match o.op with
 | .move x=>(C.src defs x).map .mv
 | .assign x=>(C.src defs x).map .mv
 | .pick c a b=>match C.src defs c,C.src defs a,C.src defs b with
  |some c,some a,some b=>some (.pick c a b)
  |_,_,_=>none
 | .alloc t=>match pO C.P t with
  |some z=>if C.P.cellsOf t=0 then none else if C.cE.contains (1000000000+t)then(match z with
   | .agg [.nilp,.aV]=>some .mkB
   |_=>none)else some (.box (C.P.cellsOf t) (.c z))
  |none=>none
 | .box t x=>match C.src defs x with
  |some s=>if C.P.cellsOf t=0 then none else some (.box (C.P.cellsOf t) s)
  |none=>none
 | .build t ps=>match pO C.P t,C.P.underlying t with
  |some (.agg z),some (.struct fs)=>if fs.toList.all (fun f=>(C.P.info? f.type).isSome)then(C.parts defs (fun i=>(fs[i]?).map fun f=>(f.offset,C.P.cellsOf f.type)) ps.toList).map (.build z)else none
  |some (.agg z),some (.array _ e)=>if C.P.cellsOf e=0 then none else(C.parts defs (fun i=>some (i*C.P.cellsOf e,C.P.cellsOf e)) ps.toList).map (.build z)
  |_,_=>none
 | .buildSlice t n ps=>match C.P.underlying t with
  |some (.slice e)=>match pO C.P e,C.sc defs ps.toList with
   |some z,some l=>if C.P.cellsOf e=0\/n*C.P.cellsOf e>16777216 then none else some (.bsl (C.P.cellsOf e) z n l)
   |_,_=>none
  |_=>none
 | .load t a=>match C.src defs a with
  |some s=>if C.P.cellsOf t=0\/(C.P.underlying t).isNone\/(bZ C.P t=false/\C.P.cellsOf t≠1)then none else some (.ld (C.P.cellsOf t) (bZ C.P t) s)
  |none=>none
 | .store t a x=>match C.src defs a,C.src defs x with
  |some a,some x=>if C.P.cellsOf t=0 then none else some (.st (C.P.cellsOf t) a x)
  |_,_=>none
 | .nilCheck x=>(C.src defs x).map .nilck
 | .binOp op t x y _=>match C.src defs x,C.src defs y with
  |some a,some b=>match C.P.underlying t with
   |some (.int _)=>some (.bin op a b)
   |some .string=>some (.bin op a b)
   |_=>if C.P.eqGuardType C.P.depth t then none else match fB C.P 30 t,op with
    |some ks,.eql=>some (.eqA false (bZ C.P t) ks a b)
    |some ks,.neq=>some (.eqA true (bZ C.P t) ks a b)
    |_,_=>none
  |_,_=>none
 | .unOp op _ x=>(C.src defs x).map (.un op)
 | .convert s d x=>match C.P.underlying s,C.P.underlying d,C.src defs x with
  |some (.int _),some (.int k),some a=>some (.cvi k a)
  |some (.int _),some .string,some a=>some (.i2s a)
  |some .string,some (.slice e),some a=>match C.P.underlying e with
   |some (.int .u8)=>some (.s2b a)
   |_=>none
  |some (.slice e),some .string,some a=>match C.P.underlying e with
   |some (.int .u8)=>some (.b2s a)
   |_=>none
  |_,_,_=>none
 | .makeFunc (.func f) first caps=>match ez C.ν f,C.qw defs caps.toList with
  |some n,some l=>if first.isEmpty then some (.mkf n l)else if l.isEmpty then(C.qw defs first.toList).map (.mkf (n+1000000))else none
  |_,_=>none
 | .makeSlice t l c=>match C.P.underlying t with
  |some (.slice e)=>match pO C.P e,C.src defs l,C.src defs c with
   |some z,some l,some c=>if C.P.cellsOf e=0\/C.P.bytesOf e>65536 then none else some (.mks (C.P.cellsOf e) z l c)
   |_,_,_=>none
  |_=>none
 | .slice t x lo hi mx=>match C.P.underlying t,C.src defs x,C.opt defs lo,C.opt defs hi,mx with
  |some .string,some a,some l,some h,none=>some (.slS a l h)
  |some (.slice e),some a,some l,some h,none=>if C.P.cellsOf e=0 then none else some (.slA (C.P.cellsOf e) a l h)
  |some (.slice e),some a,some none,some (some h),some m=>match C.src defs m with
   |some m=>if C.P.cellsOf e=0 then none else some (.slX (C.P.cellsOf e) a h m)
   |none=>none
  |_,_,_,_,_=>none
 | .fieldAddr t x f=>match C.P.underlying t,C.src defs x with
  |some (.struct fs),some a=>match fs[f]? with
   |some f=>if C.P.cellsOf f.type=0 then none else some (.fa f.offset a)
   |none=>none
  |_,_=>none
 | .field t x f=>match C.P.underlying t,C.src defs x with
  |some (.struct fs),some a=>match fs[f]? with
   |some f=>if C.P.cellsOf f.type=0\/(C.P.underlying f.type).isNone then none else some (.fld f.offset (C.P.cellsOf f.type) (bZ C.P f.type) a)
   |none=>none
  |_,_=>none
 | .indexAddr t x i=>match C.P.underlying t,C.src defs x,C.src defs i with
  |some (.slice e),some a,some b=>if C.P.cellsOf e=0 then none else some (.ia (C.P.cellsOf e) a b)
  |some (.array n e),some a,some b=>if C.P.cellsOf e=0 then none else some (.iaP n (C.P.cellsOf e) a b)
  |_,_,_=>none
 | .index t x i=>match C.P.underlying t,C.src defs x,C.src defs i with
  |some .string,some a,some b=>some (.ixS a b)
  |some (.array n e),some a,some b=>if C.P.cellsOf e=0\/(C.P.underlying e).isNone then none else some (.ixA n (C.P.cellsOf e) (bZ C.P e) a b)
  |_,_,_=>none
 | .range t x=>match C.P.underlying t,C.src defs x with
  |some .string,some a=>some (.nT a)
  |_,_=>none
 | .next it true=>(C.src defs it).map .vU
 | .extract t i=>(C.src defs t).map fun s=>.ext s i
 | .call c=>match c.callee with
  | .builtin .len=>match c.args.toList,c.argTypes.toList with
   |[x],[t]=>match C.src defs x,C.P.underlying t with
    |some a,some .string=>some (.lenS a)
    |some a,some (.slice _)=>some (.len a)
    |_,_=>none
   |_,_=>none
  | .builtin .append=>match c.args.toList,c.argTypes.toList with
   |[x,y],[t,u]=>match C.src defs x,C.src defs y,C.P.underlying t,C.P.underlying u with
    |some a,some b,some (.slice e),some (.slice _)=>if C.P.cellsOf e=0\/C.P.bytesOf e>65536\/C.P.bytesOf e=0\/mR C.P e=false then none else some (.app (C.P.cellsOf e) a b)
    |some a,some b,some (.slice e),some .string=>if C.P.cellsOf e=0\/C.P.bytesOf e>65536\/C.P.bytesOf e=0\/mR C.P e=false then none else some (.app (C.P.cellsOf e) a b)
    |_,_,_,_=>none
   |_,_=>none
  | .value (.func f)=>match ez C.ν f,C.qw defs c.args.toList with
   |some n,some l=>if C.cE.contains (2*n)then some (.callM n l)else if C.cE.contains (2*n+1)then(match l with
     |r::rest=>some (.callF n r rest ((c.argTypes.toList.map (AL C.P 8)).drop 1))
     |[]=>none)else some (.call n l (c.argTypes.toList.map (AL C.P 8)))
   |_,_=>none
  | .value (.tmp t)=>match C.src defs (.tmp t),C.qw defs c.args.toList with
   |some s,some l=>if C.vm then some (.callvM s l)else some (.callv s l (c.argTypes.toList.map (AL C.P 8)))
   |_,_=>none
  |_=>none
 |_=>none
def CC.guard (defs:List (Option Nat)):Option (Nat×Bool)->Option (Option (Nat×Bool))
 |none=>some none
 |some (j,w)=>match defs[j]? with
  |some (some _)=>some (some (j,w))
  |_=>none
def CC.ops (C:CC):(defs:List (Option Nat))->List Oper->Option (List GI)
 |_,[]=>some []
 |defs,o::r=>match C.op defs o,CC.guard defs o.guard,C.ops (defs++[o.dst]) r with
  |some i,some g,some l=>if o.dst.all (fun d=>d<C.ntmps&& !defs.contains (some d))then some (⟨i,g⟩::l)else none
  |_,_,_=>none
def CC.gD (C:CC):Nat->List Oper->List (Nat×Nat)
 |_,[]=>[]
 |p,o::r=>match o.dst.bind (tj C.slots)with
  |some s=>(s,p)::C.gD (p+1) r
  |none=>C.gD (p+1) r
def nD (acc:List Nat):List Edge->Nat
 |[]=>0
 |e::r=>if Region.binds .any e then(2^e.on |||acc.getD e.on 0) |||nD acc r else nD acc r
def mr:List Nat->List Oper->List Nat
 |acc,[]=>acc
 |acc,o::r=>mr (acc++[nD acc o.after.toList]) r
def tmpsOf (ops:List Oper)(o:Oper):List Nat:=
 (o.op.operands.toList.filterMap fun
   | .tmp t=>some t
   |_=>none)++(match o.guard with
   |some (g,_)=>((ops[g]?).bind (·.dst)).toList
   |none=>[])
def DI (ops:List Oper)(bs:List Nat):Bool:=
 (List.range ops.length).all fun j=>(List.range ops.length).all fun p=>match ops[j]?,ops[p]? with
   |some oj,some op=>match op.dst with
    |some t=>p==j ||!(tmpsOf ops oj).contains t ||(bs.getD (max j p) 0).testBit (min j p)
    |none=>true
   |_,_=>false
def aJ.pure:aJ->Bool
 | .mv _=>true
 | .pick .. =>true
 | .build .. =>true
 | .nilck _=>true
 | .bin .. =>true
 | .eqA .. =>true
 | .un .. =>true
 | .cvi .. =>true
 | .i2s _=>true
 | .mkf .. =>true
 | .slS .. =>true
 | .slA .. =>true
 | .slX .. =>true
 | .fa .. =>true
 | .fld .. =>true
 | .ia .. =>true
 | .iaP .. =>true
 | .ixS .. =>true
 | .ixA .. =>true
 | .ext .. =>true
 | .len _=>true
 | .lenS _=>true
 | .ldI .. =>true
 | .bslI .. =>true
 |_=>false
def Sh.NK:Sh->Bool
 | .a=>true
 |_=>false
def aJ.free:aJ->Bool
 | .call _ _ sh=>sh.all fun s=>s.all Sh.NK
 |i=>i.pure
def aJ.iN:aJ->Bool
 | .box .. =>true
 | .bsl .. =>true
 | .mks .. =>true
 | .s2b .. =>true
 | .nT .. =>true
 | .mkB=>true
 |_=>false
def aJ.isApp:aJ->Bool
 | .app .. =>true
 |_=>false
def aJ.kP:aJ->Bool
 | .callF .. =>true
 |_=>false
def aJ.qZ:aJ->Bool
 | .ldU .. =>true
 |_=>false
def exU (l:List GI)(gj gi:aJ)(j i:Nat):Bool:=gj.kP&&(gi.qZ&&(decide (i<j)&&(List.range j).all fun q=>decide (q<=i) ||match l[q]? with
 |some g=>g.i.calm ||g.i.kP
 |none=>true))
def KW (l:List GI)(bs:List Nat):Bool:=
 (List.range l.length).all fun j=>(List.range l.length).all fun i=>match l[j]?,l[i]? with
   |some gj,some gi=>gj.i.calm ||gi.i.free ||(gi.i.iN&& !gj.i.isApp) ||i==j ||(bs.getD (max j i) 0).testBit (min j i) ||exU l gj.i gi.i j i
   |_,_=>false
def aJ.dp:aJ->Bool
 | .callM .. =>true
 | .callvM .. =>true
 |_=>false
def tA:Nat->List Oper->Bool
 |_,[]=>true
 |p,o::r=>o.after.toList.all (fun e=>!Region.binds .any e ||decide (e.on<p))&&tA (p+1) r
def Dg (l:List GI)(bs:List Nat):Bool:=match l.getLast? with
 |some ⟨.callM ..,none⟩=>(List.range (l.length-1)).all (fun p=>(bs.getD (l.length-1) 0).testBit p)&&l.dropLast.all fun g=>!g.i.dp
 |_=>false
def ue (ops:List Oper)(l:List GI):Bool:=
 let bs:=mr [] ops
 DI ops bs&&(KW l bs&&(((l.all fun g=>!g.i.dp) ||Dg l bs)&&tA 0 ops))
def aJ.Nz:aJ->aJ
 | .app k (.c .aV) y=>.appN k y
 |i=>i
def looseAt (bs:List Nat)(l:List GI)(i:Nat):Bool:=
 (List.range l.length).any fun j=>match l[j]? with
   |some gj=>!(gj.i.Nz.calm ||i==j ||(bs.getD (max j i) 0).testBit (min j i))
   |none=>false
def MN (bs:List Nat)(l:List GI)(i:Nat):Bool:=
 (List.range l.length).all fun j=>match l[j]? with
   |some gj=>gj.i.Nz.calm ||i==j ||(bs.getD (max j i) 0).testBit (min j i) ||(gj.i.kP&&(decide (i<j)&&(List.range j).all fun q=>decide (q<=i) ||match l[q]? with
    |some g=>g.i.Nz.calm ||g.i.kP
    |none=>true))
   |none=>true
def MF (bs:List Nat)(l:List GI)(p:Nat):Bool:=
 (List.range l.length).any fun j=>match l[j]? with
   |some ⟨.ia _ (.l q) _,_⟩=>Nat.beq q p&&(List.range l.length).any fun i=>match l[i]? with
    |some ⟨.ld _ _ (.l r),_⟩=>Nat.beq r j&&looseAt bs l i
    |_=>false
   |_=>false
def kj (bs:List Nat)(l0:List GI):Nat->List GI->List GI
 |_,[]=>[]
 |p,g::r=>(match g.i with
  | .ld n ag x=>if looseAt bs l0 p then(if MN bs l0 p then⟨.ldU n ag x,g.g⟩else⟨.ldI n ag x,g.g⟩)else g
  | .bsl k z n ps=>if MF bs l0 p then⟨.bslI k z n ps,g.g⟩else g
  |i=>⟨i.Nz,g.g⟩)::kj bs l0 (p+1) r
def CC.code (C:CC):Code->Option AC
 | .skip=>some .skip
 | .region _ ops draw=>match C.ops [] ops.toList with
  |some l=>if draw then
    if ue ops.toList (kj (mr [] ops.toList) l 0 l)then some (.reg true (kj (mr [] ops.toList) l 0 l) (C.gD 0 ops.toList))else none
   else some (.reg false l (C.gD 0 ops.toList))
  |none=>none
 | .seq a b=>match C.code a,C.code b with
  |some a,some b=>some (.seq a b)
  |_,_=>none
 | .cond c a b=>match C.src [] c,C.code a,C.code b with
  |some c,some a,some b=>some (.cond c a b)
  |_,_,_=>none
 | .block id a=>(C.code a).map (.block id)
 | .loop a=>(C.code a).map .loop
 | .exit id=>some (.exit id)
 | .ret=>some .ret
 | .scope a=>C.code a
 | .label _=>some .skip
 |_=>none
def DW:(defs:List (Option Nat))->List Oper->List Nat
 |_,[]=>[]
 |defs,o::r=>(o.op.operands.toList.filterMap fun
   | .tmp t=>if(posOf t defs).isNone then some t else none
   |_=>none)++DW (defs++[o.dst]) r
def vF:Code->List Nat
 | .region _ ops _=>DW [] ops.toList
 | .seq a b=>vF a++vF b
 | .cond c a b=>(match c with
  | .tmp t=>[t]
  |_=>[])++vF a++vF b
 | .block _ a=>vF a
 | .loop a=>vF a
 | .scope a=>vF a
 |_=>[]
def ph:List ResultVar->List Nat
 |[]=>[]
 | .tmp t::r=>t::ph r
 | .cell t _::r=>t::ph r
def dedup:List Nat->List Nat->List Nat
 |acc,[]=>acc.reverse
 |acc,a::r=>if acc.contains a then dedup acc r else dedup (a::acc) r
def rr (P:Program)(sl:List Nat):List ResultVar->Option (List Be)
 |[]=>some []
 | .tmp t::r=>match tj sl t,rr P sl r with
  |some a,some l=>some (⟨a,none⟩::l)
  |_,_=>none
 | .cell t ty::r=>match tj sl t,rr P sl r with
  |some a,some l=>if P.cellsOf ty=0\/(P.underlying ty).isNone\/(bZ P ty=false/\P.cellsOf ty≠1)then none else some (⟨a,some (P.cellsOf ty,bZ P ty)⟩::l)
  |_,_=>none
def slotsOf (fn:Func):List Nat:=dedup [] (List.range (fn.params.size+fn.nfree)++ph fn.results.toList++vF (fn.body.getD .skip))
def RO (P:Program)(ops:List Oper):Bool:=ops.any fun o=>match o.op with
 | .makeFunc _ first _=>!first.isEmpty
 | .call c=>(match c.callee with
  | .value (.tmp _)=>c.argTypes.toList.any fun t=>match P.underlying t with
   |some (.pointer _)=>true
   |_=>false
  |_=>false)
 |_=>false
def A3 (P:Program):Code->Bool
 | .region _ ops _=>RO P ops.toList
 | .seq a b=>A3 P a ||A3 P b
 | .cond _ a b=>A3 P a ||A3 P b
 | .block _ a=>A3 P a
 | .loop a=>A3 P a
 | .scope a=>A3 P a
 |_=>false
def IG (P:Program)(fn:Func):Bool:=A3 P (fn.body.getD .skip)
def compile (P:Program)(ν:List (Nat×Nat))(cE:List Nat)(fn:Func):Option aC:=
 match fn.body with
 |some body=>
  match CC.code {P,ν,cE,slots:=slotsOf fn,ntmps:=fn.ntmps,vm:=IG P fn} body,rr P (slotsOf fn) fn.results.toList with
  |some a,some res=>
   if fn.params.size+fn.nfree<=fn.ntmps then some {np:=fn.params.size+fn.nfree,ns:=(slotsOf fn).length,res,rsh:=fn.resultTypes.toList.map (AL P 8),body:=a}else none
  |_,_=>none
 |none=>none
section
structure X where
 w:World
 I:Nat->Prop
 β:Nat->Option (Nat×Nat×Nat)
inductive RD (ν:List (Nat×Nat))(x:X):Value->D->Prop
 |any (v:Value):RD ν x v .any
 |bool (b:Bool):RD ν x (.bool b) (.bool b)
 |int (k:IntKind) (n:Int):RD ν x (.int k n) (.int k n)
 |str (s:List UInt8) (h:s.length<=maxLen):RD ν x (.string ⟨⟨s⟩⟩) (.str s)
 |agg (cs:Array Value) (ds:List D) (hl:cs.size=ds.length) (h1:∀i,i<ds.length->(cs.getD i undef).oneCell'=true)
   (h:∀i,i<ds.length->RD ν x (cs.getD i undef) (ds.getD i .any)):RD ν x (.agg cs) (.agg ds)
 |tup (cs:Array Value) (ds:List D) (hl:cs.size=ds.length)
   (h:∀i,i<ds.length->RD ν x (cs.getD i undef) (ds.getD i .any)):RD ν x (.tuple cs) (.tup ds)
 |aV:RD ν x (.slice none 0 0) .aV
 |sl (a:Option Addr) (b off len cap k:Nat) (es:List D) (c:Nat->Nat->Value) (hlen:len=es.length)
   (ha:es=[]\/(a=some ⟨b,off,none⟩/\x.I b)) (hcap:len<=cap) (hm:cap<=maxLen)
   (hk:∀i,i<len->(es.getD i .any).cells.length=k) (hn:∀i,i<len->(es.getD i .any).bG=true)
   (hc:∀i j,i<len->j<k->x.w.cell? ⟨b,off+i*k+j,none⟩=some (c i j))
   (h1:∀i j,i<len->j<k->(c i j).oneCell'=true)
   (h:∀i j,i<len->j<k->RD ν x (c i j) ((es.getD i .any).cells.getD j .any)):RD ν x (.slice a len cap) (.sl k es)
 |ref (b off k i o at_:Nat) (es:List D) (c:Nat->Nat->Value) (hI:x.I b) (hat:at_=off+i*k+o)
   (hk:∀i,i<es.length->(es.getD i .any).cells.length=k) (hn:∀i,i<es.length->(es.getD i .any).bG=true)
   (hc:∀i j,i<es.length->j<k->x.w.cell? ⟨b,off+i*k+j,none⟩=some (c i j))
   (h1:∀i j,i<es.length->j<k->(c i j).oneCell'=true)
   (h:∀i j,i<es.length->j<k->RD ν x (c i j) ((es.getD i .any).cells.getD j .any)):RD ν x (.pointer (some ⟨b,at_,none⟩)) (.ref k es i o)
 |ptr (l k i o b base tot at_:Nat) (hβ:x.β l=some (b,base,tot)) (hat:at_=base+i*k+o):RD ν x (.pointer (some ⟨b,at_,none⟩)) (.ptr l k i o)
 |own (l k i n b base tot cap:Nat) (a:Addr) (hβ:x.β l=some (b,base,tot)) (ha:0<cap->a=⟨b,base+i*k,none⟩)
   (hcap:n<=cap) (hm:cap<=maxLen) (ht:i+cap<=tot):RD ν x (.slice (some a) n cap) (.own l k i n)
 |own0 (l k i:Nat):RD ν x (.slice none 0 0) (.own l k i 0)
 |nilp:RD ν x (.pointer none) .nilp
 |fn (fid n:Nat) (cs:Array Value) (ds:List D) (hν:ez ν fid=some n) (hl:cs.size=ds.length)
   (h:∀i,i<ds.length->RD ν x (cs.getD i undef) (ds.getD i .any)):RD ν x (.func (.func fid) #[] cs) (.fn n ds)
 |eg (fid n:Nat) (fs:Array Value) (ds:List D) (hν:ez ν fid=some n) (hl:fs.size=ds.length)
   (h:∀i,i<ds.length->RD ν x (fs.getD i undef) (ds.getD i .any)):RD ν x (.func (.func fid) fs #[]) (.fn (n+1000000) ds)
 |nilf:RD ν x .nilFunc .nilf
 |it (l b base tot:Nat) (hβ:x.β l=some (b,base,tot)):RD ν x (.pointer (some ⟨b,0,none⟩)) (.it l)
section
variable {ν:List (Nat×Nat)} {x x':X}
structure Le (x x':X):Prop where
 I:∀b,x.I b->x'.I b
 nN:∀b,x.I b->x'.w.heap[b]? =x.w.heap[b]?
 β:∀l p,x.β l=some p->x'.β l=some p
def mw {w w':World}{b o:Nat}{v:Value}(h:w'.heap[b]? =w.heap[b]?)(hc:w.cell? ⟨b,o,none⟩=some v):w'.cell? ⟨b,o,none⟩=some v:=by
 rw[<-hc];unfold World.cell?;simp only[h]
def Le.refl (x:X):Le x x:=⟨fun _ h=>h,fun _ _=>rfl,fun _ _ h=>h⟩
def Le.trans {x'':X}(h:Le x x')(h':Le x' x''):Le x x'':=
 ⟨fun b hb=>h'.I b (h.I b hb),fun b hb=>(h'.nN b (h.I b hb)).trans (h.nN b hb),fun l p hp=>h'.β l p (h.β l p hp)⟩
def RD.mono {v:Value}{d:D}(h:RD ν x v d)(hl:Le x x'):RD ν x' v d:=by
 induction h with
 |any v=>exact .any v
 |bool b=>exact .bool b
 |int k n=>exact .int k n
 |str s h=>exact .str s h
 |agg cs ds hl' h1 _ ih=>exact .agg cs ds hl' h1 ih
 |tup cs ds hl' _ ih=>exact .tup cs ds hl' ih
 |aV=>exact .aV
 |sl a b off len cap k es c hlen ha hcap hm hk hn hc h1 _ ih=>
  refine .sl a b off len cap k es c hlen (ha.imp id fun⟨p,q⟩=>⟨p,hl.I _ q⟩) hcap hm hk hn (fun i j hi hj=>?_) h1 ih;rcases ha with rfl|⟨_,hI⟩
  ·simp at hlen;omega
  ·exact mw (hl.nN _ hI) (hc i j hi hj)
 |ref b off k i o at_ es c hI hat hk hn hc h1 _ ih=>
  exact .ref b off k i o at_ es c (hl.I _ hI) hat hk hn (fun i j hi hj=>mw (hl.nN _ hI) (hc i j hi hj)) h1 ih
 |ptr l k i o b base tot at_ hβ hat=>exact .ptr l k i o b base tot at_ (hl.β _ _ hβ) hat
 |own l k i n b base tot cap a hβ ha hcap hm ht=>exact .own l k i n b base tot cap a (hl.β _ _ hβ) ha hcap hm ht
 |own0 l k i=>exact .own0 l k i
 |nilp=>exact .nilp
 |fn fid n cs ds hν hl' _ ih=>exact .fn fid n cs ds hν hl' ih
 |eg fid n cs ds hν hl' _ ih=>exact .eg fid n cs ds hν hl' ih
 |nilf=>exact .nilf
 |it l b base tot hβ=>exact .it l b base tot (hl.β _ _ hβ)
def de:∀{ds:List D},bt ds=true->∀i,(ds.getD i .any).bG=true
 |[],_,i=>by simp[D.bG]
 |d::r,h,0=>by simp[bt]at h;simpa using h.1
 |d::r,h,i+1=>by simp[bt]at h;simpa using de h.2 i
def iv:∀{ds:List D},lz ds=true->∀i,(ds.getD i .any).eL=true
 |[],_,i=>by simp[D.eL]
 |d::r,h,0=>by simp[lz]at h;simpa using h.1
 |d::r,h,i+1=>by simp[lz]at h;simpa using iv h.2 i
def ox:∀{ds:List D},(∀i,i<ds.length->(ds.getD i .any).bG=true)->bt ds=true
 |[],_=>rfl
 |d::r,h=>by
  simp only[bt,aZ];exact⟨by simpa using h 0 aT,ox fun i hi=>by simpa using h (i+1) cz⟩
def nn {d:D}(h:d.bG=true)(j:Nat):(d.cells.getD j .any).bG=true:=by
 cases d<;>simp only[D.cells]<;>first
  |(simp only[D.bG]at h;exact de h j)
  |(cases j<;>simp_all[D.bG])
def RD.bG {v:Value}{d:D}(h:RD ν x v d)(hn:d.bG=true)(hI:∀b,x.I b->x'.I b)(hk:∀b,x.I b->x'.w.heap[b]? =x.w.heap[b]?):RD ν x' v d:=by
 induction h with
 |any v=>exact .any v
 |bool b=>exact .bool b
 |int k n=>exact .int k n
 |str s h=>exact .str s h
 |agg cs ds hl' h1 _ ih=>exact .agg cs ds hl' h1 fun i hi=>ih i hi (de (by simpa[D.bG]using hn) i)
 |tup cs ds hl' _ ih=>exact .tup cs ds hl' fun i hi=>ih i hi (de (by simpa[D.bG]using hn) i)
 |aV=>exact .aV
 |sl a b off len cap k es c hlen ha hcap hm hk' hn' hc h1 _ ih=>
  refine .sl a b off len cap k es c hlen (ha.imp id fun⟨p,q⟩=>⟨p,hI _ q⟩) hcap hm hk' hn' (fun i j hi hj=>?_) h1 fun i j hi hj=>ih i j hi hj (nn (hn' i hi) j)
  rcases ha with rfl|⟨_,hIb⟩
  ·simp at hlen;omega
  ·exact mw (hk _ hIb) (hc i j hi hj)
 |ref b off k i o at_ es c hIb hat hk' hn' hc h1 _ ih=>
  exact .ref b off k i o at_ es c (hI _ hIb) hat hk' hn' (fun i j hi hj=>mw (hk _ hIb) (hc i j hi hj)) h1 fun i j hi hj=>ih i j hi hj (nn (hn' i hi) j)
 |ptr=>simp[D.bG]at hn
 |own=>simp[D.bG]at hn
 |own0=>simp[D.bG]at hn
 |nilp=>exact .nilp
 |fn fid n cs ds hν hl' _ ih=>exact .fn fid n cs ds hν hl' fun i hi=>ih i hi (de (by simpa[D.bG]using hn) i)
 |eg fid n cs ds hν hl' _ ih=>exact .eg fid n cs ds hν hl' fun i hi=>ih i hi (de (by simpa[D.bG]using hn) i)
 |nilf=>exact .nilf
 |it=>simp[D.bG]at hn
def RD.eL {v:Value}{d:D}(h:RD ν x v d)(hn:d.eL=true):RD ν x' v d:=by
 induction h with
 |any v=>exact .any v
 |bool b=>exact .bool b
 |int k n=>exact .int k n
 |str s h=>exact .str s h
 |agg cs ds hl' h1 _ ih=>exact .agg cs ds hl' h1 fun i hi=>ih i hi (iv (by simpa[D.eL]using hn) i)
 |tup cs ds hl' _ ih=>exact .tup cs ds hl' fun i hi=>ih i hi (iv (by simpa[D.eL]using hn) i)
 |aV=>exact .aV
 |sl=>simp[D.eL]at hn
 |ref=>simp[D.eL]at hn
 |ptr=>simp[D.eL]at hn
 |own=>simp[D.eL]at hn
 |own0=>simp[D.eL]at hn
 |nilp=>exact .nilp
 |fn fid n cs ds hν hl' _ ih=>exact .fn fid n cs ds hν hl' fun i hi=>ih i hi (iv (by simpa[D.eL]using hn) i)
 |eg fid n cs ds hν hl' _ ih=>exact .eg fid n cs ds hν hl' fun i hi=>ih i hi (iv (by simpa[D.eL]using hn) i)
 |nilf=>exact .nilf
 |it=>simp[D.eL]at hn
def RD.cells {v:Value}{d:D}(h:RD ν x v d)(hd:0<d.cells.length):
  v.cells.size=d.cells.length/\∀j,j<d.cells.length->(v.cells.getD j undef).oneCell'=true/\RD ν x (v.cells.getD j undef) (d.cells.getD j .any):=by
 cases h with
 |any=>simp[D.cells]at hd
 |tup=>simp[D.cells]at hd
 |agg cs ds hl h1 h=>exact⟨hl,fun j hj=>⟨h1 j hj,h j hj⟩⟩
 |bool b=>exact⟨rfl,fun j hj=>by simp[D.cells]at hj;subst hj;exact⟨rfl,.bool b⟩⟩
 |int k n=>exact⟨rfl,fun j hj=>by simp[D.cells]at hj;subst hj;exact⟨rfl,.int k n⟩⟩
 |str s h=>exact⟨rfl,fun j hj=>by simp[D.cells]at hj;subst hj;exact⟨rfl,.str s h⟩⟩
 |aV=>exact⟨rfl,fun j hj=>by simp[D.cells]at hj;subst hj;exact⟨rfl,.aV⟩⟩
 |sl a b off len cap k es c hlen ha hcap hm hk hn hc h1 h=>exact⟨rfl,fun j hj=>by simp[D.cells]at hj;subst hj;exact⟨rfl,.sl a b off len cap k es c hlen ha hcap hm hk hn hc h1 h⟩⟩
 |ref b off k i o at_ es c hI hat hk hn hc h1 h=>exact⟨rfl,fun j hj=>by simp[D.cells]at hj;subst hj;exact⟨rfl,.ref b off k i o at_ es c hI hat hk hn hc h1 h⟩⟩
 |ptr l k i o b base tot at_ hβ hat=>exact⟨rfl,fun j hj=>by simp[D.cells]at hj;subst hj;exact⟨rfl,.ptr l k i o b base tot at_ hβ hat⟩⟩
 |own l k i n b base tot cap a hβ ha hcap hm ht=>exact⟨rfl,fun j hj=>by simp[D.cells]at hj;subst hj;exact⟨rfl,.own l k i n b base tot cap a hβ ha hcap hm ht⟩⟩
 |own0 l k i=>exact⟨rfl,fun j hj=>by simp[D.cells]at hj;subst hj;exact⟨rfl,.own0 l k i⟩⟩
 |nilp=>exact⟨rfl,fun j hj=>by simp[D.cells]at hj;subst hj;exact⟨rfl,.nilp⟩⟩
 |fn fid n cs ds hν hl h=>exact⟨rfl,fun j hj=>by simp[D.cells]at hj;subst hj;exact⟨rfl,.fn fid n cs ds hν hl h⟩⟩
 |eg fid n cs ds hν hl h=>exact⟨rfl,fun j hj=>by simp[D.cells]at hj;subst hj;exact⟨rfl,.eg fid n cs ds hν hl h⟩⟩
 |nilf=>exact⟨rfl,fun j hj=>by simp[D.cells]at hj;subst hj;exact⟨rfl,.nilf⟩⟩
 |it l b base tot hβ=>exact⟨rfl,fun j hj=>by simp[D.cells]at hj;subst hj;exact⟨rfl,.it l b base tot hβ⟩⟩
end
end
section
section
variable {ν:List (Nat×Nat)} {x x':X}
class c7 where
 tB:TypeId:=0
 tU:TypeId:=0
 gd:X->Prop
 le:∀x x':X,(∀b,x.I b->x'.I b)->(∀b,x.I b->x'.w.heap[b]? =x.w.heap[b]?)->gd x->gd x'
variable [c7]
def lY (ν:List (Nat×Nat))(x:X)(b base tot:Nat):bK->Prop
 | .buf k es=>0<k/\es.length<=tot/\∃c T fr,x.w.heap[b]? =some (.cells c T fr)/\base+tot*k<=c.size/\
   (∀o,o<c.size->¬(fr.1<=o/\o<fr.2))/\
   ∀i,i<es.length->(es.getD i .any).cells.length=k/\∀j,j<k->
    (c.getD (base+i*k+j) undef).oneCell'=true/\RD ν x (c.getD (base+i*k+j) undef) ((es.getD i .any).cells.getD j .any)
 | .iter s pos=>x.w.heap[b]? =some (.stringIter ⟨⟨s⟩⟩ pos)/\s.length<=maxLen
 | .row s=>base=0/\∃c,x.w.heap[b]? =some (.cells c c7.tU (0,0))/\c.size=tot/\tot<=maxLen/\s.length<=tot/\∀i,i<s.length->c.getD i undef=.int .u8 (s.getD i 0).toNat
 | .bld o n u=>base=0/\∃v,x.w.heap[b]? =some (.cells #[.pointer (if u=true then some ⟨b,0,none⟩else none),v] c7.tB (0,0))/\
   match o with
   |none=>n=0/\v=.slice none 0 0
   |some l=>∃g t,v=.slice (some ⟨g,0,none⟩) n t/\n<=t/\x.β l=some (g,0,t)
def oe (h:Le x x')(hg:c7.gd x):c7.gd x':=c7.le x x' h.I h.nN hg
structure ff (ν:List (Nat×Nat))(x:X)(f:Nat->Option bK):Prop where
 own:∀l blk b base tot,f l=some blk->x.β l=some (b,base,tot)->¬x.I b/\lY ν x b base tot blk
 inj:∀l l' b base tot base' tot',f l≠none->f l'≠none->x.β l=some (b,base,tot)->x.β l'=some (b,base',tot')->l=l'
 imm:∀b,x.I b->b<x.w.heap.size
 eg:∀l b base tot,x.β l=some (b,base,tot)->b<x.w.heap.size
 gd:c7.gd x
structure Step (x x':X):Prop where
 os:x'.w.os=x.w.os
 tape:x'.w.tape=x.w.tape
 output:x'.w.output=x.w.output
 size:x.w.heap.size<=x'.w.heap.size
 I:∀b,x.I b->x'.I b
 nN:∀b,x.I b->x'.w.heap[b]? =x.w.heap[b]?
 β:∀l p,x.β l=some p->x'.β l=some p
 old:∀b,b<x.w.heap.size->(∀l p,x.β l=some p->p.1≠b)->x'.w.heap[b]? =x.w.heap[b]?
 newI:∀b,x'.I b->x.I b\/x.w.heap.size<=b\/∃l p,x.β l=some p/\p.1=b
 newβ:∀l p,x'.β l=some p->x.β l=some p\/x.w.heap.size<=p.1\/∃l' p',x.β l'=some p'/\p'.1=p.1
def Step.le (h:Step x x'):Le x x':=⟨h.I,h.nN,h.β⟩
def Step.refl (x:X):Step x x:=⟨rfl,rfl,rfl,aY _,fun _ h=>h,fun _ _=>rfl,fun _ _ h=>h,fun _ _ _=>rfl,fun _ h=>.inl h,fun _ _ h=>.inl h⟩
def Step.trans {x'':X}(h:Step x x')(h':Step x' x''):Step x x'':=by
 refine⟨h'.os.trans h.os,h'.tape.trans h.tape,h'.output.trans h.output,cW h.size h'.size,fun b hb=>h'.I b (h.I b hb),
  fun b hb=>(h'.nN b (h.I b hb)).trans (h.nN b hb),fun l p hp=>h'.β l p (h.β l p hp), ?_, ?_, ?_⟩
 ·intro b hb hn;refine(h'.old b (en hb h.size) ?_).trans (h.old b hb hn);intro l p hp e;rcases h.newβ l p hp with h1|h1|⟨l',p',h1,h2⟩
  ·exact hn l p h1 e
  ·omega
  ·exact hn l' p' h1 (h2.trans e)
 ·intro b hb;rcases h'.newI b hb with h1|h1|⟨l,p,h1,h2⟩
  ·exact h.newI b h1
  ·exact .inr (.inl (cW h.size h1))
  ·rcases h.newβ l p h1 with h3|h3|⟨l',p',h3,h4⟩
   ·exact .inr (.inr ⟨l,p,h3,h2⟩)
   ·exact .inr (.inl (h2▸h3))
   ·exact .inr (.inr ⟨l',p',h3,h4.trans h2⟩)
 ·intro l p hp;rcases h'.newβ l p hp with h1|h1|⟨l',p',h1,h2⟩
  ·exact h.newβ l p h1
  ·exact .inr (.inl (cW h.size h1))
  ·rcases h.newβ l' p' h1 with h3|h3|⟨l'',p'',h3,h4⟩
   ·exact .inr (.inr ⟨l',p',h3,h2⟩)
   ·exact .inr (.inl (h2▸h3))
   ·exact .inr (.inr ⟨l'',p'',h3,h4.trans h2⟩)
def lY.mono {b base tot:Nat}{blk:bK}(h:lY ν x b base tot blk)(hl:Le x x')(hb:x'.w.heap[b]? =x.w.heap[b]?):lY ν x' b base tot blk:=by
 cases blk with
 |buf k es=>
  obtain⟨hk,ht,c,T,fr,h1,h2,h3,h4⟩:=h;exact⟨hk,ht,c,T,fr,hb.trans h1,h2,h3,fun i hi=>⟨(h4 i hi).1,fun j hj=>⟨((h4 i hi).2 j hj).1,((h4 i hi).2 j hj).2.mono hl⟩⟩⟩
 |iter s pos=>exact⟨hb.trans h.1,h.2⟩
 |row s=>
  obtain⟨h0,c,h1,h2⟩:=h;exact⟨h0,c,hb.trans h1,h2⟩
 |bld o n u=>
  obtain⟨h0,v,h1,h2⟩:=h;refine⟨h0,v,hb.trans h1, ?_⟩;cases o with
  |none=>exact h2
  |some l=>
   obtain⟨g,t,h3,h4,h5⟩:=h2;exact⟨g,t,h3,h4,hl.β _ _ h5⟩
structure fN (w w':World):Prop where
 os:w'.os=w.os
 tape:w'.tape=w.tape
 output:w'.output=w.output
 size:w.heap.size<=w'.heap.size
 old:∀b,b<w.heap.size->w'.heap[b]? =w.heap[b]?
def fN.refl (w:World):fN w w:=⟨rfl,rfl,rfl,aY _,fun _ _=>rfl⟩
def jT (w:World)(o:Obj)(b:Nat)(hb:b<w.heap.size):(w.alloc o).heap[b]? =w.heap[b]? :=by
 simp only[World.alloc,Array.getElem?_push];rw[ai ae]
def dS (w:World)(o:Obj):(w.alloc o).heap[w.heap.size]? =some o:=by show(w.heap.push o)[w.heap.size]? =some o;simp
def fN.alloc (w:World)(o:Obj):fN w (w.alloc o):=⟨rfl,rfl,rfl,aT,fun b hb=>jT w o b hb⟩
def fN.trans {w w' w'':World}(h:fN w w')(h':fN w' w''):fN w w'':=
 ⟨h'.os.trans h.os,h'.tape.trans h.tape,h'.output.trans h.output,cW h.size h'.size,fun b hb=>(h'.old b (en hb h.size)).trans (h.old b hb)⟩
def fN.drew (w:World):fN w w.drew:=⟨rfl,rfl,rfl,aY _,fun _ _=>rfl⟩
def Step.grow {w':World}(hw:fN x.w w')(himm:∀b,x.I b->b<x.w.heap.size):Step x ⟨w',x.I,x.β⟩:=
 ⟨hw.os,hw.tape,hw.output,hw.size,fun _ h=>h,fun b hb=>hw.old b (himm b hb),fun _ _ h=>h,fun b hb _=>hw.old b hb,fun _ h=>.inl h,fun _ _ h=>.inl h⟩
def ff.grow {f:Nat->Option bK}{w':World}(h:ff ν x f)(hw:fN x.w w'):ff ν ⟨w',x.I,x.β⟩ f:=
 ⟨fun l blk b base tot h1 h2=>⟨(h.own l blk b base tot h1 h2).1,(h.own l blk b base tot h1 h2).2.mono (Step.grow hw h.imm).le (hw.old b (h.eg l b base tot h2))⟩,
  h.inj,fun b hb=>en (h.imm b hb) hw.size,fun l b base tot hb=>en (h.eg l b base tot hb) hw.size,oe (Step.grow hw h.imm).le h.gd⟩
def dP (β:Nat->Option (Nat×Nat×Nat))(L:Nat)(p:Nat×Nat×Nat):Nat->Option (Nat×Nat×Nat):=fun l=>if l=L then some p else β l
def jt (f:Nat->Option bK)(L:Nat)(b:Option bK):Nat->Option bK:=fun l=>if l=L then b else f l
def vz {w':World}{L n base tot:Nat}(hw:fN x.w w')(hn:x.w.heap.size<=n)(hL:x.β L=none)(himm:∀b,x.I b->b<x.w.heap.size):
  Step x ⟨w',x.I,dP x.β L (n,base,tot)⟩:=by
 refine⟨hw.os,hw.tape,hw.output,hw.size,fun _ h=>h,fun b hb=>hw.old b (himm b hb),fun l p hp=>?_,fun b hb _=>hw.old b hb,fun _ h=>.inl h,fun l p hp=>?_⟩
 ·have:l≠L:=fun e=>by rw[e,hL]at hp;cases hp
  simp[dP,this,hp]
 ·by_cases e:l=L
  ·simp only[dP,e,br,aQ]at hp;exact .inr (.inl (hp▸hn))
  ·simp only[dP,e,bn]at hp;exact .inl hp
def Ks {f:Nat->Option bK}{w':World}{L n base tot:Nat}{blk:bK}(h:ff ν x f)(hw:fN x.w w')(hn:x.w.heap.size<=n)(hnw:n<w'.heap.size)(hL:x.β L=none)
  (hb:lY ν ⟨w',x.I,dP x.β L (n,base,tot)⟩ n base tot blk):ff ν ⟨w',x.I,dP x.β L (n,base,tot)⟩ (jt f L (some blk)):=by
 have hle:=(vz (base:=base) (tot:=tot) hw hn hL h.imm).le;refine⟨fun l blk' b base' tot' h1 h2=>?_,fun l l' b base' tot' base'' tot'' h1 h1' h2 h2'=>?_,fun b hb=>en (h.imm b hb) hw.size,fun l b base' tot' h2=>?_,oe hle h.gd⟩
 ·by_cases e:l=L
  ·subst e;simp only[dP,br,aQ,dU]at h2;simp only[jt,br,aQ]at h1;obtain⟨rfl,rfl,rfl⟩:=h2;subst h1;exact⟨fun hI=>by have:=h.imm _ hI;omega,hb⟩
  ·simp only[dP,e,bn]at h2;simp only[jt,e,bn]at h1;obtain⟨a1,a2⟩:=h.own l blk' b base' tot' h1 h2;exact⟨a1,a2.mono hle (hw.old b (h.eg l b base' tot' h2))⟩
 ·by_cases e:l=L<;>by_cases e':l'=L
  ·exact e.trans e'.symm
  ·simp only[dP,e,br,aQ,dU]at h2;simp only[dP,e',bn]at h2';have:=h.eg l' b base'' tot'' h2';obtain⟨h2,_,_⟩:=h2;omega
  ·simp only[dP,e',br,aQ,dU]at h2';simp only[dP,e,bn]at h2;have:=h.eg l b base' tot' h2;obtain⟨h2',_,_⟩:=h2';omega
  ·simp only[dP,e,bn]at h2;simp only[dP,e',bn]at h2';simp only[jt,e,bn]at h1;simp only[jt,e',bn]at h1';exact h.inj l l' b base' tot' base'' tot'' h1 h1' h2 h2'
 ·by_cases e:l=L
  ·simp only[dP,e,br,aQ,dU]at h2;obtain⟨h2,_,_⟩:=h2;show b<w'.heap.size;omega
  ·simp only[dP,e,bn]at h2;exact en (h.eg l b base' tot' h2) hw.size
variable {P:Program} {w:World}
def mc {t:TypeId}(h:P.cellsOf t≠0):∃i,P.info? t=some i/\i.size=P.cellsOf t:=by
 unfold Program.cellsOf at h⊢;cases hi:P.info? t with
 |none=>simp[hi]at h
 |some i=>exact⟨i,rfl,aT⟩
def di {t:TypeId}(h:P.cellsOf t≠0):(sizeOf t).run P w=.ok (P.cellsOf t) w:=by
 obtain⟨i,hi,hs⟩:=mc h;simp[sizeOf,typeInfo,hi,hs]
def qo {t:TypeId}(h:(P.underlying t).isNone=false):(isAgg t).run P w=.ok (bZ P t) w:=by
 cases hu:P.underlying t with
 |none=>simp[hu]at h
 |some d=>unfold isAgg bZ;rw[Sem.run_bind,run_underlying hu w];simp only[hu,Result.andThen];cases d<;>rfl
def Addr.sZ (b o n:Nat):(⟨b,o,none⟩:Addr).add n=⟨b,o+n,none⟩:=by unfold Addr.add;split<;>simp_all
end
end
section
variable [c7]
section
variable {ν:List (Nat×Nat)} {x:X} {f:Nat->Option bK} {P:Program}
mutual
theorem kL:∀(v:Value)(d:D),eE v=some d->RD ν x v d
 | .bool b,d,h=>by simp[eE]at h;subst h;exact .bool b
 | .int k n,d,h=>by simp[eE]at h;subst h;exact .int k n
 | .string ⟨⟨s⟩⟩,d,h=>by
  simp only[eE]at h;split at h
  ·rename_i hs;simp only[aQ]at h;subst h;exact .str s (by simpa[maxLen,ByteArray.size]using hs)
  ·cases h
 | .pointer none,d,h=>by simp[eE]at h;subst h;exact .nilp
 | .slice none 0 0,d,h=>by simp[eE]at h;subst h;exact .aV
 | .nilFunc,d,h=>by simp[eE]at h;subst h;exact .nilf
 | .agg ⟨cs⟩,d,h=>by
  simp only[eE]at h;split at h
  ·rename_i hone;cases hc:oW cs with
   |none=>simp[hc]at h
   |some ds=>
    simp[hc]at h;subst h;obtain⟨hl,hr⟩:=pH cs ds hc;refine .agg ⟨cs⟩ ds (by simpa using hl) (fun i hi=>?_) (fun i hi=>by simpa using hr i hi);have:=nZ cs hone i ae;simpa using this
  ·cases h
 | .float _ _,d,h=>by simp[eE]at h
 | .complex _ _ _,d,h=>by simp[eE]at h
 | .pointer (some _),d,h=>by simp[eE]at h
 | .slice (some _) _ _,d,h=>by simp[eE]at h
 | .slice none (_+1) _,d,h=>by simp[eE]at h
 | .slice none 0 (_+1),d,h=>by simp[eE]at h
 | .map _,d,h=>by simp[eE]at h
 | .chan _,d,h=>by simp[eE]at h
 | .func _ _ _,d,h=>by simp[eE]at h
 | .iface _ _,d,h=>by simp[eE]at h
 | .nilIface,d,h=>by simp[eE]at h
 | .tuple _,d,h=>by simp[eE]at h
theorem pH:∀(vs:List Value)(ds:List D),oW vs=some ds->vs.length=ds.length/\∀i,i<ds.length->RD ν x (vs.getD i undef) (ds.getD i .any)
 |[],ds,h=>by simp[oW]at h;subst h;simp
 |v::r,ds,h=>by
  simp only[oW]at h;split at h
  ·rename_i d ds' h1 h2;simp only[aQ]at h;subst h;have a:=kL v d h1;obtain⟨b1,b2⟩:=pH r ds' h2;refine⟨by simp[b1],fun i hi=>?_⟩;cases i with
   |zero=>simpa using a
   |succ i=>simpa using b2 i (by simpa using hi)
  ·cases h
theorem nZ:∀(vs:List Value),qK vs=true->∀i,i<vs.length->(vs.getD i undef).oneCell'=true
 |[],_,i,hi=>by simp at hi
 |v::r,h,i,hi=>by
  simp only[qK,aZ]at h;cases i with
  |zero=>simp;cases v<;>simp_all[Value.oneCell']
  |succ i=>simpa using nZ r h.2 i (by simpa using hi)
end
def vS (ν:List (Nat×Nat))(x:X)(f:Nat->Option bK)(L:Nat)(d:D)(r:Result Next):Prop:=
 ∃v x',(r=.ok (.value v) x'.w\/r=.ok .skip x'.w/\v=undef)/\Step x x'/\RD ν x' v d/\ff ν x' f/\∀l,l≠L->x'.β l=x.β l
def bz {L:Nat}{d:D}{v:Value}{r:Result Next}(hs:ff ν x f)(hr:r=.ok (.value v) x.w)(hd:RD ν x v d):vS ν x f L d r:=
 ⟨v,x,.inl hr,.refl x,hd,hs,fun _ _=>rfl⟩
def sD (C:CC)(defs:List (Option Nat))(J:Src->bI)(ev:Operand->Value)(x:X)(os:List Operand):Prop:=
 ∀o,o∈os->∀s,C.src defs o=some s->(J s).ok=true->RD C.ν x (ev o) (J s).d
def RD.ir {v:Value}{b:Bool}(h:RD ν x v (.bool b)):v=.bool b:=by cases h;rfl
def RD.dA {v:Value}{k:IntKind}{n:Int}(h:RD ν x v (.int k n)):v=.int k n:=by cases h;rfl
def RD.iz {v:Value}{s:List UInt8}(h:RD ν x v (.str s)):v=.string ⟨⟨s⟩⟩/\s.length<=maxLen:=by cases h;exact⟨rfl,‹_›⟩
def RD.pick {b:Bool}{u v:Value}{d e:D}(h1:b=true->RD ν x u d)(h2:b=false->RD ν x v e):RD ν x (if b then u else v) (D.pick b d e):=by
 cases b
 ·have:=h2 rfl;simp only[et,bn];cases d<;>cases e<;>simp only[D.pick,cond_false]<;>exact this
 ·have:=h1 rfl;simp only[br];cases d<;>cases e<;>simp only[D.pick,cond_true]<;>exact this
def AF {op:BinOp}{t:TypeId}{k k':IntKind}{a b:Int}(w:World)(hb:ig op (.int k a) (.int k' b)):
  ∃v,(binOp op t (.int k a) (.int k' b)).run P w=.ok v w/\RD ν x v (iB op (.int k a) (.int k' b)):=by
 cases op<;>simp only[ig]at hb<;>simp only[binOp,iB,ne_eq]
 case shl=>exact⟨_,by simp[Op.shift,show ¬b<0 by omega],.int _ _⟩
 case shr=>exact⟨_,by simp[Op.shift,show ¬b<0 by omega],.int _ _⟩
 case quo=>obtain⟨rfl,hb⟩:=hb;exact⟨_,by simp[Op.intDiv,hb],.int _ _⟩
 case rem=>obtain⟨rfl,hb⟩:=hb;exact⟨_,by simp[Op.intDiv,hb],.int _ _⟩
 case and=>subst hb;exact⟨_,by simp[Op.intBits],.int _ _⟩
 case or=>subst hb;exact⟨_,by simp[Op.intBits],.int _ _⟩
 case xor=>subst hb;exact⟨_,by simp[Op.intBits],.int _ _⟩
 case andNot=>subst hb;exact⟨_,by simp[Op.intBits],.int _ _⟩
 case add=>subst hb;exact⟨_,by simp[Op.intArith],.int _ _⟩
 case sub=>subst hb;exact⟨_,by simp[Op.intArith],.int _ _⟩
 case mul=>subst hb;exact⟨_,by simp[Op.intArith],.int _ _⟩
 case eql=>subst hb;exact⟨_,by simp[Op.intCmp],.bool _⟩
 case neq=>subst hb;exact⟨_,by simp[Op.intCmp],.bool _⟩
 case lss=>subst hb;exact⟨_,by simp[Op.intCmp],.bool _⟩
 case leq=>subst hb;exact⟨_,by simp[Op.intCmp],.bool _⟩
 case gtr=>subst hb;exact⟨_,by simp[Op.intCmp],.bool _⟩
 case geq=>subst hb;exact⟨_,by simp[Op.intCmp],.bool _⟩
def xW (a b:List UInt8):(⟨⟨a⟩⟩:ByteArray)++⟨⟨b⟩⟩=⟨⟨a++b⟩⟩:=by
 have h:((⟨⟨a⟩⟩:ByteArray)++⟨⟨b⟩⟩).data=(⟨a++b⟩:Array UInt8):=by
  rw[ByteArray.data_append];simp
 exact aj ByteArray.mk h
def AG {op:BinOp}{t:TypeId}{a b:List UInt8}(w:World)(hb:ig op (.str a) (.str b)):
  ∃v,(binOp op t (.string ⟨⟨a⟩⟩) (.string ⟨⟨b⟩⟩)).run P w=.ok v w/\RD ν x v (iB op (.str a) (.str b)):=by
 have hs:∀l:List UInt8,(⟨⟨l⟩⟩:ByteArray).size=l.length:=fun _=>rfl
 cases op<;>simp only[ig]at hb<;>simp only[binOp,iB]
 case add=>
  refine⟨.string ⟨⟨a++b⟩⟩, ?_,.str _ (by simp[maxLen];omega)⟩;have:¬(((⟨⟨a⟩⟩:ByteArray).size+(⟨⟨b⟩⟩:ByteArray).size:Nat):Int)>IntKind.i64.max:=by
   rw[hs,hs];simp only[IntKind.max,IntKind.signed,IntKind.bits,br];omega
  simp only[Op.stringOp,this,bn,Sem.run_pure,xW]
 all_goals
  refine⟨_,by simp only[Op.stringOp,Sem.run_pure];rfl, ?_⟩;simp only[ByteArray.toList_eq];exact .bool _
def n9 (op:BinOp)(t:TypeId)(p q:Operand){u v:Value}(h:(∀cs,u≠.agg cs)/\u≠.nilIface)(w:World):(eqGuard op t p q u v).run P w=.ok () w:=by
 obtain⟨h1,h2⟩:=h;unfold eqGuard;cases op<;>simp<;>(split<;>first|rfl|simp_all)
def ea {α:Type}(l:List α)(o n:Nat)(d:α)(j:Nat)(hj:j<n):((l.drop o).take n).getD j d=l.getD (o+j) d:=by
 simp[List.getD,List.getElem?_take,hj,List.getElem?_drop]
def hR {α:Type}(l:List α)(o n:Nat)(h:o+n<=l.length):((l.drop o).take n).length=n:=by
 simp;omega
def bT (cs:Array Value)(i:Nat)(d:Value):cs.toList.getD i d=cs.getD i d:=by
 simp[List.getD,Array.getD];split<;>simp_all
def mM {t:TypeId}{cs:Array Value}{ds:List D}{off n:Nat}{ag:Bool}(w:World)(hv:RD ν x (.agg cs) (.agg ds))(ht:P.cellsOf t≠0)(hu:(P.underlying t).isNone=false)
  (hn:n=P.cellsOf t) (hag:ag=bZ P t) (hle:off+n<=ds.length) (h1:ag=false->n=1):
  ∃v,(part t cs off).run P w=.ok v w/\RD ν x v (cut ds off n ag):=by
 cases hv with
 |agg _ _ hl hone h=>
  unfold part;rw[Sem.run_bind,qo hu];subst hag;cases hb:bZ P t
  ·have hn1:=h1 (by rw[hb]);have hlt:off<cs.size:=ae;refine⟨cs.getD off undef, ?_, ?_⟩
   ·simp[Result.andThen,Array.getElem?_eq_getElem hlt,Array.getD,hlt]
   ·simp only[cut,cond_false];exact h off ae
  ·refine⟨.agg (cs.extract off (off+n)), ?_, ?_⟩
   ·simp[Result.andThen,di ht,hn]
   ·simp only[cut,cond_true];refine .agg _ _ ?_ ?_ ?_
    ·simp;omega
    ·intro i hi;simp at hi;have:=hone (off+i) ae;rw[<-this];congr 1;simp[Array.getD,show off+i<cs.size by omega,show i<min (off+n) cs.size-off by omega]
    ·intro i hi;simp at hi;rw[ea _ _ _ _ _ ae];have:=h (off+i) ae;have e:(cs.extract off (off+n)).getD i undef=cs.getD (off+i) undef:=by
      simp[Array.getD,show off+i<cs.size by omega,show i<min (off+n) cs.size-off by omega]
     rw[e];exact this
end
end
section
variable [c7]
section
variable {x:X} {f:Nat->Option bK} {C:CC} {defs:List (Option Nat)} {J:Src->bI} {ev:Operand->Value} {Y:Ctx} {m:List (Nat×bK)} {L:Nat}
def fS {os':List Operand}(hρ:sD C defs J ev x os'):∀(os:List Operand)(ss:List Src),(∀o∈os,o∈os')->C.qw defs os=some ss->tn J ss->
  os.length=ss.length/\(gX J ss).length=os.length/\∀i,i<(gX J ss).length->RD C.ν x ((os.map ev).getD i undef) ((gX J ss).getD i .any)
 |[],ss,_,h,_=>by simp[CC.qw]at h;subst h;simp[gX]
 |o::r,ss,hm,h,hk=>by
  simp only[CC.qw]at h;split at h
  ·rename_i a l h1 h2;simp only[aQ]at h;subst h;simp only[tn]at hk;obtain⟨b1,b2,b3⟩:=fS hρ r l (fun o ho=>hm o (.tail _ ho)) h2 hk.2;refine⟨by simp[b1],by simp[gX,b2],fun i hi=>?_⟩;cases i with
   |zero=>simpa[gX]using hρ o (hm o (.head _)) a h1 hk.1
   |succ i=>simpa[gX]using b3 i (by simpa[gX]using hi)
  ·cases h
def uo (off:Nat):∀(new:List Value)(st:Nat)(acc:Array Value),off+st+new.length<=acc.size->
  ((new.zipIdx st).foldl (fun cs (c,j)=>cs.setIfInBounds (off+j) c) acc).size=acc.size/\
  ∀q,((new.zipIdx st).foldl (fun cs (c,j)=>cs.setIfInBounds (off+j) c) acc)[q]? =if off+st<=q/\q<off+st+new.length then new[q-(off+st)]? else acc[q]?
 |[],st,acc,_=>⟨aT,fun q=>cz⟩
 |c::r,st,acc,hb=>by
  simp only[ay]at hb;obtain⟨h1,h2⟩:=uo off r (st+1) (acc.setIfInBounds (off+st) c) cz;refine⟨by simpa[List.zipIdx_cons]using h1,fun q=>?_⟩;rw[List.zipIdx_cons,List.foldl_cons,h2 q];simp only[ay];by_cases q1:off+(st+1)<=q/\q<off+(st+1)+r.length
  ·rw[av q1,av ae,show q-(off+st)=(q-(off+(st+1)))+1 by omega];simp
  ·rw[ai q1,Array.getElem?_setIfInBounds];by_cases q2:off+st=q
   ·subst q2;rw[av rfl,av ae];simp
   ·rw[ai q2,ai ae]
def oz {os':List Operand}(hρ:sD C defs J ev x os')(place:Nat->Option (Nat×Nat))(len:Nat):∀(ps:List (Nat×Operand))(ss:List (Nat×Nat×Src)),
  (∀p∈ps,p.2∈os')->C.parts defs place ps=some ss->wN J len ss->∀(cs:Array Value) (ds:List D),cs.size=len->RD C.ν x (.agg cs) (.agg ds)->
  ∃cs',Instr.fill place cs (ps.map fun(i,o)=>(i,ev o))=some cs'/\RD C.ν x (.agg cs') (.agg (uj J ds ss))
 |[],ss,_,h,_,cs,ds,_,hr=>by simp[CC.parts]at h;subst h;exact⟨cs,by simp[Instr.fill],by simpa[uj]using hr⟩
 |(i,o)::r,ss,hm,h,hk,cs,ds,hlen,hr=>by
  simp only[CC.parts]at h;split at h
  ·rename_i off n s l h1 h2 h3;split at h
   ·cases h
   rename_i hn0;simp only[aQ]at h;subst h;simp only[wN]at hk;obtain⟨k1,k2,k3,k4⟩:=hk;have hn:0<n:=ae;have hv:=hρ o (hm _ (.head _)) s h2 k1;obtain⟨c1,c2⟩:=hv.cells ae;have hsz:(ev o).cells.size=n:=ae;cases hr with
   |agg _ _ hl hone hh=>
   let cs1:Array Value:=((ev o).cells.toList.zipIdx 0).foldl (fun cs (c,j)=>cs.setIfInBounds (off+j) c) cs
   have harr:(ev o).cells.zipIdx.foldl (fun cs (c,j)=>cs.setIfInBounds (off+j) c) cs=cs1:=by
    rw[<-Array.foldl_toList];simp[cs1]
   have hcs1:=harr;obtain⟨hsz1,hgq⟩:=uo off (ev o).cells.toList 0 cs cz;have hget:∀q,q<cs.size->cs1.getD q undef=if q<off then cs.getD q undef else if q<off+n then(ev o).cells.getD (q-off) undef else cs.getD q undef:=by
    intro q hq;have:=hgq q;rw[<-bT,<-bT cs,<-bT (ev o).cells];simp only[List.getD,Array.getElem?_toList];rw[show cs1[q]? =_ from this];simp only[Array.length_toList,hsz,Nat.add_zero];by_cases q1:q<off
    ·rw[av q1,ai ae]
    ·rw[ai q1];by_cases q2:q<off+n
     ·rw[av q2,av ae];simp
     ·rw[ai q2,ai ae]
   have hsz1:cs1.size=cs.size:=hsz1;have hdlen:(over ds off (J s).d.cells).length=ds.length:=by simp[over];omega
   have hdget:∀q,q<ds.length->(over ds off (J s).d.cells).getD q .any=if q<off then ds.getD q .any else if q<off+n then(J s).d.cells.getD (q-off) .any else ds.getD q .any:=by
    intro q hq;simp only[over,List.getD,List.getElem?_append,fU];by_cases q1:q<off
    ·rw[av ae,av q1];simp[List.getElem?_take,q1]
    ·rw[ai ae,ai q1,show q-min off ds.length=q-off by omega];by_cases q2:q<off+n
     ·rw[av q2,av ae]
     ·rw[ai q2,ai ae];simp only[List.getElem?_drop];congr 3;omega
   have hr1:RD C.ν x (.agg cs1) (.agg (over ds off (J s).d.cells)):=by
    refine .agg _ _ ae (fun q hq=>?_) (fun q hq=>?_)
    ·rw[hdlen]at hq;rw[hget q ae];split
     ·exact hone q hq
     ·split
      ·exact(c2 (q-off) ae).1
      ·exact hone q hq
    ·rw[hdlen]at hq;rw[hget q ae,hdget q hq];split
     ·exact hh q hq
     ·split
      ·exact(c2 (q-off) ae).2
      ·exact hh q hq
   obtain⟨cs',g1,g2⟩:=oz hρ place len r l (fun p hp=>hm p (.tail _ hp)) h3 k4 cs1 _ ae hr1;refine⟨cs', ?_,by simpa[uj]using g2⟩;simp only[List.map_cons,Instr.fill,h1];rw[ai (by simp[hsz];omega),hcs1];exact g1
  ·cases h
end
section
variable {ν:List (Nat×Nat)} {x:X} {P:Program}
def hH:∀(ks:List CK)(ds:List D),eY ks ds->ds.length=ks.length
 |[],[],_=>rfl
 |[],_::_,h=>by simp[eY]at h
 |_::_,[],h=>by simp[eY]at h
 |c::r,d::ds,h=>by have:=hH r ds (by simp[eY]at h;exact h.2);simp;omega
def ja:∀(a b:List CK)(ds:List D),eY (a++b) ds->eY a (ds.take a.length)/\eY b (ds.drop a.length)
 |[],b,ds,h=>by simpa[eY]using h
 |c::r,b,[],h=>by simp[eY]at h
 |c::r,b,d::ds,h=>by
  simp only[fk,eY]at h;obtain⟨h1,h2⟩:=ja r b ds h.2;exact⟨by simp[eY,h.1,h1],by simpa using h2⟩
def pZ:∀(n:Nat)(ds es:List D),ds.length=es.length->gL ds es=(gL (ds.take n) (es.take n)&&gL (ds.drop n) (es.drop n))
 |0,ds,es,_=>by simp[gL]
 |n+1,[],[],_=>by simp[gL]
 |n+1,[],_::_,h=>by simp at h
 |n+1,_::_,[],h=>by simp at h
 |n+1,d::ds,e::es,h=>by
  simp only[gL,List.take_succ_cons,List.drop_succ_cons];rw[pZ n ds es (by simpa using h),Bool.and_assoc]
def zx {c:CK}{d:D}(h:c.fits d):d.cells=[d]/\d.isAgg=false:=by
 cases c<;>cases d<;>simp_all[CK.fits,D.cells,D.isAgg]
def jX {c:CK}{d:D}(h:eY [c] d.cells)(ha:d.isAgg=false):c.fits d:=by
 cases d<;>simp_all[D.cells,D.isAgg,eY]
def oX {ds:List D}{off n:Nat}{ag:Bool}{ks:List CK}(h:eY ks ((ds.drop off).take n))(hn:ag=false->n=1)(hle:off+n<=ds.length):
  (cut ds off n ag).cells=(ds.drop off).take n/\(cut ds off n ag).isAgg=ag:=by
 cases ag
 ·have:=hn rfl;subst this;have hlt:off<ds.length:=ae;have e:(ds.drop off).take 1=[ds.getD off .any]:=by
   rw[kt hlt];simp[List.getD,hlt,List.take]
  rw[e]at h⊢;cases ks with
  |nil=>simp[eY]at h
  |cons c r=>
   simp only[eY]at h;exact zx h.1
 ·exact⟨rfl,rfl⟩
def Bj (ν:List (Nat×Nat))(x:X)(P:Program)(n:Nat)(t:TypeId)(ks:List CK):Prop:=
 ∀u v d e (w:World),RD ν x u d->RD ν x v e->d.isAgg=bZ P t->e.isAgg=bZ P t->eY ks d.cells->eY ks e.cells->
  (Op.equalIn n t u v).run P w=.ok (gL d.cells e.cells) w
def uA {n:Nat}{t:TypeId}{ks:List CK}(h:fB P n t=some ks)(ha:bZ P t=false):ks.length=1:=by
 cases n with
 |zero=>simp[fB]at h
 |succ n=>
  simp only[fB]at h;unfold bZ at ha;cases hu:P.underlying t with
  |none=>simp[hu]at h
  |some d=>cases d<;>simp_all<;>subst h<;>rfl
def qT (n depth:Nat)(ih:∀t ks,fB P depth t=some ks->Bj ν x P n t ks)(xs ys:Array Value)(ds es:List D)(h1:RD ν x (.agg xs) (.agg ds))(h2:RD ν x (.agg ys) (.agg es))(w:World):
  ∀(fs:List Field) (off:Nat) (ks:List CK),j0 P (fun t=>fB P depth t) off fs=some ks->off<=ds.length->off<=es.length->eY ks (ds.drop off)->eY ks (es.drop off)->
  (Op.eqFields n xs ys fs).run P w=.ok (gL (ds.drop off) (es.drop off)) w
 |[],off,ks,hk,_,_,f1,f2=>by
  simp[j0]at hk;subst hk;have a:=hH _ _ f1;have b:=hH _ _ f2;have a':ds.drop off=[]:=kr a;have b':es.drop off=[]:=kr b;rw[a',b'];simp[Op.eqFields,gL]
 |f::fs,off,ks,hk,l1,l2,f1,f2=>by
  simp only[j0]at hk;split at hk
  ·cases hk
  ·rename_i hne;have hname:f.name≠ "_" :=fun e=>hne (.inl e)
   have hoff:f.offset=off:=by
    rcases Nat.decEq f.offset off with h|h
    ·exact absurd (.inr h) hne
    ·exact h
   split at hk
   ·rename_i a b ha hb;split at hk
    ·rename_i hlen;obtain⟨hlen,hnz,hund⟩:=hlen;simp only[aQ]at hk;subst hk;obtain⟨fa1,fb1⟩:=ja a b _ f1;obtain⟨fa2,fb2⟩:=ja a b _ f2;have la:=hH _ _ f1;have lb:=hH _ _ f2;simp only[qA,bA]at la lb;have hag:bZ P f.type=false->P.cellsOf f.type=1:=fun e=>by rw[<-hlen];exact uA ha e
     obtain⟨u,r1,r2⟩:=mM (P:=P) (off:=off) (n:=P.cellsOf f.type) (ag:=bZ P f.type) w h1 ae hund rfl rfl ae hag;obtain⟨v,s1,s2⟩:=mM (P:=P) (off:=off) (n:=P.cellsOf f.type) (ag:=bZ P f.type) w h2 ae hund rfl rfl ae hag;rw[hlen]at fa1 fa2 fb1 fb2;obtain⟨c1,c2⟩:=oX (ag:=bZ P f.type) fa1 hag ae;obtain⟨d1,d2⟩:=oX (ag:=bZ P f.type) fa2 hag ae;have he:=ih f.type a ha u v _ _ w r2 s2 c2 d2 (by rw[c1];exact fa1) (by rw[d1];exact fa2);rw[List.drop_drop]at fb1 fb2;have hrest:=qT n depth ih xs ys ds es h1 h2 w fs (off+P.cellsOf f.type) b hb ae ae fb1 fb2;rw[pZ (P.cellsOf f.type) (ds.drop off) (es.drop off) cz];simp only[Op.eqFields,hname,ne_eq,not_false_eq_true,br,Sem.run_bind,hoff,r1,s1,he,Result.andThen_ok,Sem.run_ite,hrest];rw[c1,d1,List.drop_drop,List.drop_drop];cases gL ((ds.drop off).take (P.cellsOf f.type)) ((es.drop off).take (P.cellsOf f.type))<;>simp
    ·cases hk
   ·cases hk
def sH (n:Nat)(e:TypeId)(l:List CK)(ih:Bj ν x P n e l)(hc:l.length=P.cellsOf e)(hnz:l.length≠0)(hund:(P.underlying e).isNone=false)(hag:bZ P e=false->P.cellsOf e=1)
  (xs ys:Array Value) (ds es:List D) (h1:RD ν x (.agg xs) (.agg ds)) (h2:RD ν x (.agg ys) (.agg es)) (w:World):
  ∀(len j:Nat),j*P.cellsOf e<=ds.length->j*P.cellsOf e<=es.length->eY (List.replicate len l).flatten (ds.drop (j*P.cellsOf e))->eY (List.replicate len l).flatten (es.drop (j*P.cellsOf e))->
  (Op.eqItems n e (P.cellsOf e) xs ys (List.range' j len)).run P w=.ok (gL (ds.drop (j*P.cellsOf e)) (es.drop (j*P.cellsOf e))) w
 |0,j,_,_,f1,f2=>by
  have a:=hH _ _ f1;have b:=hH _ _ f2;have a':ds.drop (j*P.cellsOf e)=[]:=kr (by simpa using a);have b':es.drop (j*P.cellsOf e)=[]:=kr (by simpa using b);rw[a',b'];simp[Op.eqItems,gL]
 |len+1,j,l1,l2,f1,f2=>by
  simp only[List.replicate_succ,List.flatten_cons]at f1 f2;obtain⟨fa1,fb1⟩:=ja _ _ _ f1;obtain⟨fa2,fb2⟩:=ja _ _ _ f2;have la:=hH _ _ f1;have lb:=hH _ _ f2;simp only[qA,bA]at la lb;have hj:(j+1)*P.cellsOf e=j*P.cellsOf e+P.cellsOf e:=Nat.succ_mul _ _;obtain⟨u,r1,r2⟩:=mM (P:=P) (off:=j*P.cellsOf e) (n:=P.cellsOf e) (ag:=bZ P e) w h1 ae hund rfl rfl ae hag;obtain⟨v,s1,s2⟩:=mM (P:=P) (off:=j*P.cellsOf e) (n:=P.cellsOf e) (ag:=bZ P e) w h2 ae hund rfl rfl ae hag;rw[hc]at fa1 fa2 fb1 fb2;obtain⟨c1,c2⟩:=oX (ag:=bZ P e) fa1 hag ae;obtain⟨d1,d2⟩:=oX (ag:=bZ P e) fa2 hag ae;have he:=ih u v _ _ w r2 s2 c2 d2 (by rw[c1];exact fa1) (by rw[d1];exact fa2);rw[List.drop_drop,<-hj]at fb1 fb2;have hrest:=sH n e l ih hc hnz hund hag xs ys ds es h1 h2 w len (j+1) ae ae fb1 fb2;rw[pZ (P.cellsOf e) (ds.drop (j*P.cellsOf e)) (es.drop (j*P.cellsOf e)) cz];simp only[List.range'_succ,Op.eqItems,Sem.run_bind,r1,s1,he,Result.andThen_ok,Sem.run_ite,hrest];rw[c1,d1,List.drop_drop,List.drop_drop,<-hj];cases gL ((ds.drop (j*P.cellsOf e)).take (P.cellsOf e)) ((es.drop (j*P.cellsOf e)).take (P.cellsOf e))<;>simp
def oa:∀(depth:Nat)(t:TypeId)(ks:List CK),fB P depth t=some ks->∀n,depth<=n->Bj ν x P n t ks
 |0,t,ks,h,_,_=>by simp[fB]at h
 |depth+1,t,ks,h,n,hn=>by
  obtain⟨n,rfl⟩:∃k,n=k+1:=⟨n-1,ae⟩
  intro u v d e w r1 r2 a1 a2 f1 f2;simp only[fB]at h;split at h
  ·rename_i hu;simp only[aQ]at h;subst h;have hag:bZ P t=false:=by simp[bZ,hu]
   rw[hag]at a1 a2;have g1:=jX f1 a1;have g2:=jX f2 a2;cases d<;>simp only[CK.fits]at g1;cases e<;>simp only[CK.fits]at g2;rw[r1.ir,r2.ir,run_equalIn_bool w n t _ _ hu];simp[D.cells,gL,Mx]
  ·rename_i k hu;simp only[aQ]at h;subst h;have hag:bZ P t=false:=by simp[bZ,hu]
   rw[hag]at a1 a2;have g1:=jX f1 a1;have g2:=jX f2 a2;cases d<;>simp only[CK.fits]at g1;cases e<;>simp only[CK.fits]at g2;subst g1;subst g2;rw[r1.dA,r2.dA,run_equalIn_int w n t _ _ _ _ hu];simp[D.cells,gL,Mx]
  ·rename_i hu;simp only[aQ]at h;subst h;have hag:bZ P t=false:=by simp[bZ,hu]
   rw[hag]at a1 a2;have g1:=jX f1 a1;have g2:=jX f2 a2;cases d<;>simp only[CK.fits]at g1;cases e<;>simp only[CK.fits]at g2;rw[r1.iz.1,r2.iz.1,run_equalIn_string w n t _ _ hu];simp[D.cells,gL,Mx,ByteArray.toList_eq]
  ·rename_i fs hu;split at h
   ·cases h
   ·rename_i hst;have hag:bZ P t=true:=by simp[bZ,hu]
    rw[hag]at a1 a2;cases d<;>simp only[D.isAgg,et]at a1;cases e<;>simp only[D.isAgg,et]at a2;have hf:P.fieldsOf t=fs:=by simp[Program.fieldsOf,hu]
    cases r1 with
    |agg xs _ p1 p2 p3=>
     cases r2 with
     |agg ys _ q1 q2 q3=>
      rw[run_equalIn_struct w n t xs ys (by rw[hf];exact hu) (by simpa using hst),hf];have:=qT (ν:=ν) (x:=x) n depth (fun t ks hk=>oa depth t ks hk n ae) xs ys _ _ (.agg xs _ p1 p2 p3) (.agg ys _ q1 q2 q3) w fs.toList 0 ks h aT aT (by simpa[D.cells]using f1) (by simpa[D.cells]using f2);simpa[D.cells]using this
  ·rename_i len e' hu;split at h
   ·rename_i l hl;split at h
    ·rename_i hc;obtain⟨hc,hnz,hund⟩:=hc;simp only[aQ]at h;subst h;have hag:bZ P t=true:=by simp[bZ,hu]
     rw[hag]at a1 a2;cases d<;>simp only[D.isAgg,et]at a1;cases e<;>simp only[D.isAgg,et]at a2;obtain⟨i,hi,_⟩:=mc (P:=P) (t:=e') ae;cases r1 with
     |agg xs _ p1 p2 p3=>
      cases r2 with
      |agg ys _ q1 q2 q3=>
       rw[run_equalIn_array w n xs ys hu hi,List.range_eq_range'];have:=sH (ν:=ν) (x:=x) n e' l (oa depth e' l hl n ae) hc hnz hund (fun e=>by rw[<-hc];exact uA hl e) xs ys _ _ (.agg xs _ p1 p2 p3) (.agg ys _ q1 q2 q3) w len 0 aT aT (by simpa[D.cells]using f1) (by simpa[D.cells]using f2);simpa[D.cells]using this
    ·cases h
   ·cases h
  ·cases h
end
end
section
variable [c7]
section
variable {x:X} {f:Nat->Option bK} {C:CC} {defs:List (Option Nat)} {J:Src->bI} {ev:Operand->Value} {Y:Ctx} {m:List (Nat×bK)} {L:Nat}
def xN {t:TypeId}{z:List D}(h:pO C.P t=some (.agg z)):∃i cs,C.P.info? t=some i/\i.zero=some (.agg cs)/\RD C.ν x (.agg cs) (.agg z):=by
 unfold pO at h;cases hi:C.P.info? t with
 |none=>simp[hi]at h
 |some i=>
  cases hz:i.zero with
  |none=>simp[hi,hz]at h
  |some v=>
   simp only[hi,hz,Option.bind_some]at h;have hr:RD C.ν x v (.agg z):=kL v _ h;cases v with
   |agg cs=>exact⟨i,cs,rfl,hz,hr⟩
   |_=>cases hr
def pr {t:TypeId}{z:D}(h:pO C.P t=some z):∃i v,C.P.info? t=some i/\i.zero=some v/\RD C.ν x v z:=by
 unfold pO at h;cases hi:C.P.info? t with
 |none=>simp[hi]at h
 |some i=>
  cases hz:i.zero with
  |none=>simp[hi,hz]at h
  |some v=>
   simp only[hi,hz,Option.bind_some]at h;exact⟨i,v,rfl,hz,kL v _ h⟩
def sU {P:Program}(w:World):∀(fs:List Field),(∀f∈fs,(P.info? f.type).isSome=true)->
  (fs.mapM (fun f=>(do pure (f.offset,<-sizeOf f.type):Sem (Nat×Nat)))).run P w=.ok (fs.map fun f=>(f.offset,P.cellsOf f.type)) w
 |[],_=>aT
 |f::r,h=>by
  have hf:=h f aT;cases hi:P.info? f.type with
  |none=>simp[hi]at hf
  |some i=>
   have hr:=sU w r (fun g hg=>h g (by simp[hg]));simp only[List.mapM_cons,Sem.run_bind,run_sizeOf w hi,Result.andThen_ok,Sem.run_pure,hr];simp
def Br {op:BinOp}{d e:D}(h:ig op d e):(∃k a k' b,d=.int k a/\e=.int k' b)\/(∃a b,d=.str a/\e=.str b):=by
 cases d<;>cases e<;>first|exact .inl ⟨_,_,_,_,rfl,rfl⟩|exact .inr ⟨_,_,rfl,rfl⟩|(simp only[ig]at h)
def qU {op:BinOp}{t u:TypeId}{p q:Operand}{o:Oper}{v:Value}{w:World}{P:Program}(ho:o.op=.binOp op t p q u)(hg:(eqGuard op t p q (ev p) (ev q)).run P w=.ok () w)
  (hr:(binOp op t (ev p) (ev q)).run P w=.ok v w):(execOp ev o).run P w=.ok (.value v) w:=by
 simp[execOp,ho,hg,hr]
def xT (op:BinOp)(hop:op=.eql\/op=.neq)(t:TypeId)(xs ys:Array Value)(b:Bool)(w:World)(P:Program)(h:(Op.equalIn 10000 t (.agg xs) (.agg ys)).run P w=.ok b w):
  (binOp op t (.agg xs) (.agg ys)).run P w=.ok (.bool (if op=.neq then !b else b)) w:=by
 rcases hop with rfl|rfl
 ·rw[run_eql_struct,h];rfl
 ·rw[run_neq_struct,h];rfl
def Nw {a:Option Addr}{len cap k:Nat}{es:List D}{l h:Nat}(hv:RD C.ν x (.slice a len cap) (.sl k es))(h1:l<=h)(h2:h<=es.length):
  RD C.ν x (.slice (if cap=l then a else a.map (·.add (l*k))) (h-l) (cap-l)) (.sl k ((es.take h).drop l)):=by
 cases hv with
 |sl _ b off _ _ _ _ c hlen ha hcap hm hk hn hc hone hh=>
  have hl':((es.take h).drop l).length=h-l:=cz;have hg:∀i,i<h-l->((es.take h).drop l).getD i .any=es.getD (l+i) .any:=by
   intro i hi;simp[List.getD,List.getElem?_drop,List.getElem?_take,show l+i<h by omega]
  refine .sl _ b (off+l*k) (h-l) (cap-l) k _ (fun i j=>c (l+i) j) hl'.symm ?_ ae ae (fun i hi=>?_) (fun i hi=>?_) (fun i j hi hj=>?_) (fun i j hi hj=>hone _ _ ae hj) (fun i j hi hj=>?_)
  ·by_cases he:h-l=0
   ·left;exact kr ae
   ·right;rw[ai ae];rcases ha with rfl|⟨rfl,hI⟩
    ·simp at h2;omega
    ·exact⟨by simp[Addr.sZ],hI⟩
  ·rw[hg i hi];exact hk _ ae
  ·rw[hg i hi];exact hn _ ae
  ·have:=hc (l+i) j ae hj;rw[<-this];congr 2;rw[Nat.add_mul];omega
  ·rw[hg i hi];exact hh _ _ ae hj
def Nv {a:Option Addr}{len cap k:Nat}{es:List D}{h m:Nat}(hv:RD C.ν x (.slice a len cap) (.sl k es))(h1:h<=m)(h2:m<=es.length):
  RD C.ν x (.slice (if m=0 then a else a.map (·.add (0*k))) h m) (.sl k (es.take h)):=by
 cases hv with
 |sl _ b off _ _ _ _ c hlen ha hcap hm hk hn hc hone hh=>
  have hl':(es.take h).length=h:=cz;have hg:∀i,i<h->(es.take h).getD i .any=es.getD i .any:=by
   intro i hi;simp[List.getD,List.getElem?_take,hi]
  refine .sl _ b off h m k _ (fun i j=>c i j) hl'.symm ?_ h1 ae (fun i hi=>?_) (fun i hi=>?_) (fun i j hi hj=>hc i j ae hj) (fun i j hi hj=>hone _ _ ae hj) (fun i j hi hj=>?_)
  ·by_cases he:h=0
   ·left;exact kr ae
   ·right;rw[ai ae];rcases ha with rfl|⟨rfl,hI⟩
    ·simp at h2;omega
    ·exact⟨by simp[Addr.add],hI⟩
  ·rw[hg i hi];exact hk _ ae
  ·rw[hg i hi];exact hn _ ae
  ·rw[hg i hi];exact hh _ _ ae hj
def J3 {v:Value}{L' k i n:Nat}(hv:RD C.ν x v (.own L' k i n)):
  ∃a cap,v=.slice a n cap/\n<=cap/\∀h m,h<=m->m<=n->RD C.ν x (.slice (if m=0 then a else a.map (·.add (0*k))) h m) (.own L' k i h):=by
 cases hv with
 |own _ _ _ _ b base tot cap a hβ ha hcap hm ht=>
  refine⟨some a,cap,rfl,hcap,fun h m h1 h2=>?_⟩;have e:(if m=0 then some a else(some a).map (·.add (0*k)))=some a:=by simp[Addr.add]
  rw[e];exact .own L' k i h b base tot m a hβ (fun hp=>ha ae) h1 ae ae
 |own0=>
  refine⟨none,0,rfl,aY _,fun h m h1 h2=>?_⟩;obtain rfl:m=0:=ae;obtain rfl:h=0:=ae;exact .own0 _ _ _
def pX {vh vm:Value}{kh km:IntKind}{h m:Int}{len cap:Nat}(e1:vh=.int kh h)(e2:vm=.int km m)(h0:0<=h)(h1:h<=m)(h2:m<=cap):
  (Instr.sliceBounds true len cap none (some vh) (some vm)).run C.P x.w=.ok (0,h.toNat,m.toNat) x.w:=by
 subst e1;subst e2;simp[Instr.sliceBounds,run_sliceBound x.w km m cap .slice3Acap ae h2,run_sliceBound x.w kh h m.toNat .slice3B h0 ae]
def J4 {v:Value}{L' k i n:Nat}(hv:RD C.ν x v (.own L' k i n)):
  ∃a cap,v=.slice a n cap/\n<=cap/\∀l h,l<=h->h<=n->RD C.ν x (.slice (if cap=l then a else a.map (·.add (l*k))) (h-l) (cap-l)) (.own L' k (i+l) (h-l)):=by
 cases hv with
 |own _ _ _ _ b base tot cap a hβ ha hcap hm ht=>
  refine⟨some a,cap,rfl,hcap,fun l h h1 h2=>?_⟩;have e:(if cap=l then some a else(some a).map (·.add (l*k)))=some (if cap=l then a else a.add (l*k)):=by split<;>rfl
  rw[e];refine .own L' k (i+l) (h-l) b base tot (cap-l) _ hβ (fun hp=>?_) ae ae ae;rw[ai ae,ha ae,Addr.sZ];congr 1;rw[Nat.add_mul];omega
 |own0=>
  refine⟨none,0,rfl,aY _,fun l h h1 h2=>?_⟩;obtain rfl:h=0:=ae;obtain rfl:l=0:=ae;exact .own0 _ _ _
def wx (s:List UInt8)(l h:Nat):(⟨⟨s⟩⟩:ByteArray).extract l h=⟨⟨(s.take h).drop l⟩⟩:=by
 rw[Lib.extract_eq,List.drop_take]
def uQ {lo:Option Operand}(h:C.opt defs lo=some none):lo=none:=by
 cases lo with
 |none=>rfl
 |some o=>simp[CC.opt]at h
def uR {lo:Option Operand}{s:Src}(h:C.opt defs lo=some (some s)):∃o,lo=some o/\C.src defs o=some s:=by
 cases lo with
 |none=>simp[CC.opt]at h
 |some o=>simp only[CC.opt,dj,aQ]at h;obtain⟨a,h1,rfl⟩:=h;exact⟨o,rfl,h1⟩
def mX {os':List Operand}(hρ:sD C defs J ev x os'){lo hi:Option Operand}(hml:∀o,lo=some o->o∈os')(hmh:∀o,hi=some o->o∈os'){l h:Option Src}(hl:C.opt defs lo=some l)(hh:C.opt defs hi=some h)(k1:F3 J l)(k2:F3 J h)(Hh:Bool)(len cap:Nat)
  (hcap:Hh=false->len=cap) (hle:len<=cap) (b2:mW (dO J h) len) (b1:mW (dO J l) (eg (dO J h) len)):
  (Instr.sliceBounds Hh len cap (lo.map ev) (hi.map ev) none).run C.P x.w=.ok (eg (dO J l) 0,eg (dO J h) len,cap) x.w/\eg (dO J l) 0<=eg (dO J h) len/\eg (dO J h) len<=len:=by
 have hh':∃code,(match hi.map ev with|some v=>Instr.sliceBound v cap code|none=>pure len:Sem Nat).run C.P x.w=.ok (eg (dO J h) len) x.w/\eg (dO J h) len<=len/\code=(if Hh then BoundsCode.sliceAcap else .sliceAlen):=by
  cases h with
  |none=>
   obtain rfl:=uQ hh;exact⟨_,by simp[dO,eg],by simp[dO,eg],rfl⟩
  |some s=>
   obtain⟨o,rfl,h1⟩:=uR hh;have hv:=hρ o (hmh o rfl) s  h1 k2;simp only[dO]at b2;cases hd:(J s).d<;>simp only[hd,mW]at b2;rename_i kk n;rw[hd]at hv;refine⟨_, ?_, ?_,rfl⟩
   ·simp only[Option.map_some,dO,eg,hd];rw[hv.dA,run_sliceBound x.w kk n cap _ b2.1 ae]
   ·simp only[dO,eg,hd];omega
 obtain⟨code,g1,g2,rfl⟩:=hh';generalize eg (dO J h) len=B at*
 have hl':(match lo.map ev with|some v=>Instr.sliceBound v B .sliceB|none=>pure 0:Sem Nat).run C.P x.w=.ok (eg (dO J l) 0) x.w/\eg (dO J l) 0<=B:=by
  cases l with
  |none=>
   obtain rfl:=uQ hl;exact⟨by simp[dO,eg],by simp[dO,eg]⟩
  |some s=>
   obtain⟨o,rfl,h1⟩:=uR hl;have hv:=hρ o (hml o rfl) s  h1 k1;simp only[dO]at b1;cases hd:(J s).d<;>simp only[hd,mW]at b1;rename_i kk n;rw[hd]at hv;refine⟨?_, ?_⟩
   ·simp only[Option.map_some,dO,eg,hd];rw[hv.dA,run_sliceBound x.w kk n _ _ b1.1 b1.2]
   ·simp only[dO,eg,hd];omega
 obtain⟨f1,f2⟩:=hl';refine⟨?_,f2,g2⟩;cases lo with
 |none=>
  simp only[Option.map_none,Sem.run_pure,Result.ok.injEq,dW]at f1;cases hi with
  |none=>
   simp only[Option.map_none,Sem.run_pure,Result.ok.injEq,dW]at g1;rw[<-f1,<-g1];simp[Instr.sliceBounds]
  |some v=>
   simp only[Option.map_some]at g1;rw[<-f1];simp[Instr.sliceBounds,g1]
 |some u=>
  have f1':(Instr.sliceBound (ev u) B .sliceB).run C.P x.w=.ok (eg (dO J l) 0) x.w:=f1;clear f1;generalize eg (dO J l) 0=A at*
  cases hi with
  |none=>
   simp only[Option.map_none,Sem.run_pure,Result.ok.injEq,dW]at g1;subst g1;simp only[Instr.sliceBounds,Option.map_some,Option.map_none,Sem.run_bind,Sem.run_pure,Result.andThen_ok,Option.isSome_none,et,bn,f1']
  |some v=>
   have g1':(Instr.sliceBound (ev v) cap (if Hh then BoundsCode.sliceAcap else .sliceAlen)).run C.P x.w=.ok B x.w:=g1;simp only[Instr.sliceBounds,Option.map_some,Option.map_none,Sem.run_bind,Sem.run_pure,Result.andThen_ok,Option.isSome_none,et,bn,g1',f1']
def yn {P:Program}{t:TypeId}{ks:List CK}{d:Nat}(ha:bZ P t=false)(h1:∀k,P.underlying t=some (.int k)->False)(h2:P.underlying t=some .string->False)(h:fB P (d+1) t=some ks):P.underlying t=some .bool:=by
 unfold bZ at ha;unfold fB at h;cases hu:P.underlying t with
 |none=>simp[hu]at h
 |some q=>cases q<;>simp_all
def tk {P:Program}{t:TypeId}{d:Nat}(h:P.underlying t=some .bool):fB P (d+1) t=some [.b]:=by
 unfold fB;simp[h]
def J2 {o:Oper}{i:aJ}(hc:C.op defs o=some i)(hp:i.pure=true)(hρ:sD C defs J ev x o.op.operands.toList)(hob:i.dN Y J m)(hs:ff C.ν x f):
  vS C.ν x f L (i.val Y J m L) ((execOp ev o).run C.P x.w):=by
 cases ho:o.op with
 |move p=>
  simp only[CC.op,ho,dj]at hc;obtain⟨s,h1,rfl⟩:=hc;exact bz hs (by simp[execOp,ho]) (hρ p (by simp[ho,Op.operands,Call.operands]) s h1 hob)
 |assign p=>
  simp only[CC.op,ho,dj]at hc;obtain⟨s,h1,rfl⟩:=hc;exact bz hs (by simp[execOp,ho]) (hρ p (by simp[ho,Op.operands,Call.operands]) s h1 hob)
 |pick c a b=>
  simp only[CC.op,ho]at hc;split at hc
  ·rename_i c' a' b' h1 h2 h3;simp only[aQ]at hc;subst hc;obtain⟨k1,k2⟩:=hob;have hcv:=hρ c (by simp[ho,Op.operands,Call.operands]) c' h1 k1;cases hd:(J c').d<;>simp only[hd]at k2;rename_i t;rw[hd]at hcv;simp only[aJ.val,hd];refine bz hs ?_ (RD.pick (fun ht=>hρ a (by simp[ho,Op.operands,Call.operands]) a' h2 (k2.1 ht)) (fun ht=>hρ b (by simp[ho,Op.operands,Call.operands]) b' h3 (k2.2 ht)));simp[execOp,ho,hcv.ir,asBool]
  ·cases hc
 |build t ps=>
  simp only[CC.op,ho]at hc;split at hc
  ·rename_i z fs hz hu;split at hc;rotate_left
   ·cases hc
   rename_i hplaces;simp only[dj]at hc;obtain⟨ss,h1,rfl⟩:=hc;obtain⟨ti,cs,hi,hzv,hr⟩:=xN (x:=x) hz;have hsz:cs.size=z.length:=by cases hr with|agg _ _ hl _ _=>exact hl
   obtain⟨cs',g1,g2⟩:=oz hρ _ z.length ps.toList ss (fun p hp=>by simp only[ho,Op.operands,eI];exact⟨p,hp,rfl⟩) h1 hob cs z hsz hr;refine bz hs ?_ g2;have hpl:=sU (P:=C.P) x.w fs.toList (fun f hf=>(List.all_eq_true.1 hplaces) f hf);have hpl':(fs.mapM (fun f:Field=>(do pure (f.offset,<-sizeOf f.type):Sem (Nat×Nat)))).run C.P x.w=.ok (fs.map fun f:Field=>(f.offset,C.P.cellsOf f.type)) x.w:=by
    rw[Array.mapM_eq_mapM_toList,Sem.run_map,hpl];simp[Result.andThen,List.map_toArray];apply Array.ext';simp
   have hg:Instr.fill (fun i:Nat=>(fs.map fun f:Field=>(f.offset,C.P.cellsOf f.type))[i]?) cs (ps.map fun(i,o)=>(i,ev o)).toList=some cs':=by
    have e:(fun i:Nat=>(fs.map fun f:Field=>(f.offset,C.P.cellsOf f.type))[i]?)=(fun i=>(fs[i]?).map fun f:Field=>(f.offset,C.P.cellsOf f.type)):=by
     funext q;simp
    rw[e,Array.toList_map];exact g1
   simp only[execOp,ho,Instr.build,Sem.run_bind,zeroValue,run_typeInfo x.w hi,Result.andThen_ok,hzv,Sem.run_pure,run_underlying hu,hpl',Value.cells,hg]
  ·rename_i z n e hz hu;split at hc
   ·cases hc
   rename_i hce;simp only[dj]at hc;obtain⟨ss,h1,rfl⟩:=hc;obtain⟨ti,cs,hi,hzv,hr⟩:=xN (x:=x) hz;have hsz:cs.size=z.length:=by cases hr with|agg _ _ hl _ _=>exact hl
   obtain⟨cs',g1,g2⟩:=oz hρ _ z.length ps.toList ss (fun p hp=>by simp only[ho,Op.operands,eI];exact⟨p,hp,rfl⟩) h1 hob cs z hsz hr;refine bz hs ?_ g2;have hg:Instr.fill (fun i=>some (i*C.P.cellsOf e,C.P.cellsOf e)) cs (ps.map fun(i,o)=>(i,ev o)).toList=some cs':=by
    rw[Array.toList_map];exact g1
   simp only[execOp,ho,Instr.build,Sem.run_bind,zeroValue,run_typeInfo x.w hi,Result.andThen_ok,hzv,Sem.run_pure,run_underlying hu,di hce,Value.cells,hg]
  ·cases hc
 |nilCheck p=>
  simp only[CC.op,ho,dj]at hc;obtain⟨s,h1,rfl⟩:=hc;obtain⟨k1,k2⟩:=hob;have hv:=hρ p (by simp[ho,Op.operands,Call.operands]) s h1 k1;refine bz hs ?_ hv;cases hd:(J s).d<;>simp only[hd]at k2<;>rw[hd]at hv<;>generalize he:ev p=vp at hv<;>cases hv<;>simp[execOp,ho,he]
 |binOp op t p q u=>
  simp only[CC.op,ho]at hc;split at hc
  ·rename_i a b h1 h2;have hbin:∀(i':aJ),i'=.bin op a b->i'.dN Y J m->vS C.ν x f L (i'.val Y J m L) ((execOp ev o).run C.P x.w):=by
    rintro _ rfl ⟨k1,k2,k3⟩;have hv:=hρ p (by simp[ho,Op.operands,Call.operands]) a h1 k1;have hw:=hρ q (by simp[ho,Op.operands,Call.operands]) b h2 k2;rcases Br k3 with⟨kk,n,kk',n',e1,e2⟩|⟨s,s',e1,e2⟩
    ·rw[e1]at hv k3;rw[e2]at hw k3;obtain⟨v,r1,r2⟩:=AF (ν:=C.ν) (x:=x) (P:=C.P) (t:=t) x.w k3;refine bz hs (qU ho (n9 _ _ _ _ (by rw[hv.dA];exact⟨aT,aT⟩) _) (by rw[hv.dA,hw.dA];exact r1)) ?_;simp only[aJ.val,e1,e2];exact r2
    ·rw[e1]at hv k3;rw[e2]at hw k3;obtain⟨v,r1,r2⟩:=AG (ν:=C.ν) (x:=x) (P:=C.P) (t:=t) x.w k3;refine bz hs (qU ho (n9 _ _ _ _ (by rw[hv.iz.1];exact⟨aT,aT⟩) _) (by rw[hv.iz.1,hw.iz.1];exact r1)) ?_;simp only[aJ.val,e1,e2];exact r2
   split at hc
   ·simp only[aQ]at hc;exact hc▸hbin _ rfl (hc▸hob)
   ·simp only[aQ]at hc;exact hc▸hbin _ rfl (hc▸hob)
   ·rename_i hu1 hu2;split at hc
    ·cases hc
    ·rename_i hge;have hge':C.P.eqGuardType C.P.depth t=false:=by simpa using hge
     have heq:∀(neg:Bool) (ks:List CK),fB C.P 30 t=some ks->op=(if neg then .neq else .eql)->i=.eqA neg (bZ C.P t) ks a b->vS C.ν x f L (i.val Y J m L) ((execOp ev o).run C.P x.w):=by
      rintro neg ks hks hop rfl;obtain⟨k1,k2,a1,a2,f1,f2⟩:=hob;have hv:=hρ p (by simp[ho,Op.operands,Call.operands]) a h1 k1;have hw:=hρ q (by simp[ho,Op.operands,Call.operands]) b h2 k2;have hrun:=oa (ν:=C.ν) (x:=x) (P:=C.P) 30 t ks hks 10000 ae (ev p) (ev q) _ _ x.w hv hw a1 a2 f1 f2;cases hag:bZ C.P t
      ·rw[hag]at a1 a2

       have hub:C.P.underlying t=some .bool:=yn (d:=29) hag hu1 hu2 hks;rw[tk (d:=29) hub,aQ]at hks;subst hks;have g1:=jX f1 a1;have g2:=jX f2 a2;cases e1:(J a).d<;>simp only[e1,CK.fits]at g1;cases e2:(J b).d<;>simp only[e2,CK.fits]at g2;rename_i b1 b2;rw[e1]at hv;rw[e2]at hw;refine bz hs (v:=.bool (if neg then !(b1==b2)else b1==b2)) (qU ho (n9 _ _ _ _ (by rw[hv.ir];exact⟨aT,aT⟩) _) ?_) ?_
       ·rw[hv.ir,hw.ir,hop];cases neg
        ·simpa using run_eql_bool x.w t b1 b2 hub
        ·simpa using run_neq_bool x.w t b1 b2 hub
       ·simp only[aJ.val,e1,e2,D.cells,gL,Mx,jr];cases neg<;>exact .bool _
      ·rw[hag]at a1 a2;cases e1:(J a).d<;>simp only[e1,D.isAgg,et]at a1;cases e2:(J b).d<;>simp only[e2,D.isAgg,et]at a2;rw[e1]at hv;rw[e2]at hw;rw[e1,e2]at hrun;generalize hep:ev p=vp at*
       generalize heq':ev q=vq at*
       cases hv with
       |agg xs _ p1 p2 p3=>
        cases hw with
        |agg ys _ q1 q2 q3=>
         refine bz hs (qU (v:=.bool (if op=.neq then !(gL (D.agg _).cells (D.agg _).cells)else gL (D.agg _).cells (D.agg _).cells)) ho (by rw[hep,heq'];exact run_eqGuard_agg x.w _ _ _ _ _ _ hge') (by rw[hep,heq'];exact xT op (by cases neg<;>simp[hop]) t xs ys _ x.w C.P hrun)) ?_;simp only[aJ.val,e1,e2];cases neg<;>simp only[hop,br,bn,et,cond_true,cond_false,reduceCtorEq]<;>exact .bool _
     split at hc
     ·rename_i ks hks;simp only[aQ]at hc;exact heq false ks hks rfl hc.symm
     ·rename_i ks hks;simp only[aQ]at hc;exact heq true ks hks rfl hc.symm
     ·cases hc
  ·cases hc
 |unOp op t p=>
  simp only[CC.op,ho,dj]at hc;obtain⟨s,h1,rfl⟩:=hc;obtain⟨k1,k2⟩:=hob;have hv:=hρ p (by simp[ho,Op.operands,Call.operands]) s h1 k1;cases op<;>cases hd:(J s).d<;>simp only[hd]at k2<;>rw[hd]at hv<;>simp only[aJ.val,hd]
  ·exact bz hs (by simp[execOp,ho,hv.dA,Op.unary,Op.intArith]) (.int _ _)
  ·exact bz hs (by simp[execOp,ho,hv.ir,Op.unary]) (.bool _)
 |convert s d p=>
  simp only[CC.op,ho]at hc;split at hc
  ·rename_i ks k a hu1 hu2 h1;simp only[aQ]at hc;subst hc;obtain⟨k1,k2⟩:=hob;have hv:=hρ p (by simp[ho,Op.operands,Call.operands]) a h1 k1;cases hd:(J a).d<;>simp only[hd]at k2;rw[hd]at hv;simp only[aJ.val,hd];exact bz hs (by simp[execOp,ho,hv.dA,convert,run_underlying hu1,run_underlying hu2,Conv.intToInt]) (.int _ _)
  ·rename_i ks a hu1 hu2 h1;simp only[aQ]at hc;subst hc;obtain⟨k1,k2⟩:=hob;have hv:=hρ p (by simp[ho,Op.operands,Call.operands]) a h1 k1;cases hd:(J a).d<;>simp only[hd]at k2;rename_i n;rw[hd]at hv;simp only[aJ.val,hd];refine bz hs (v:=.string (Utf8.encode n)) (by simp[execOp,ho,hv.dA,convert,run_underlying hu1,run_underlying hu2,Conv.intToString]) ?_;have h4:=encode_size_le n;have e:Utf8.encode n=⟨⟨Is n⟩⟩:=rfl;rw[e];refine .str _ ?_;have:(Is n).length=(Utf8.encode n).size:=rfl;simp only[maxLen];omega
  ·split at hc
   ·simp only[aQ]at hc;subst hc;simp[aJ.pure]at hp
   ·cases hc
  ·split at hc
   ·simp only[aQ]at hc;subst hc;simp[aJ.pure]at hp
   ·cases hc
  ·cases hc
 |makeFunc fn first caps=>
  cases fn with
  |func fid=>
   simp only[CC.op,ho]at hc;split at hc
   ·rename_i n l h1 h2;split at hc
    ·rename_i hfe;simp only[aQ]at hc;subst hc;obtain⟨e1,e2,e3⟩:=fS hρ caps.toList l (fun o' ho'=>by simp only[ho,Op.operands,Array.toList_append,List.mem_append];exact .inr ho') h2 hob;have hf0:first=#[]:=by simpa using hfe
     refine bz hs (v:=.func (.func fid) #[] (caps.map ev)) (by simp[execOp,ho,Instr.makeFunc,hf0]) ?_;refine .fn fid n _ _ h1 (by simp[e2]) (fun i hi=>?_);have:=e3 i hi;rw[<-bT,Array.toList_map];exact this
    ·split at hc
     ·rename_i hle;simp only[dj]at hc;obtain⟨l1,hl1,rfl⟩:=hc;obtain⟨e1,e2,e3⟩:=fS hρ first.toList l1 (fun o' ho'=>by simp only[ho,Op.operands,Array.toList_append,List.mem_append];exact .inl ho') hl1 hob
      obtain⟨_,q2,_⟩:=fS hρ caps.toList l (fun o' ho'=>by simp only[ho,Op.operands,Array.toList_append,List.mem_append];exact .inr ho') h2 (by rw[List.isEmpty_iff.1 hle];trivial);have hf0:caps=#[]:=by
       rw[List.isEmpty_iff.1 hle]at q2;exact Array.eq_empty_of_size_eq_zero (by simpa[gX]using q2.symm)
      refine bz hs (v:=.func (.func fid) (first.map ev) #[]) (by simp[execOp,ho,Instr.makeFunc,hf0]) ?_;refine .eg fid n _ _ h1 (by simp[e2]) (fun i hi=>?_);have:=e3 i hi;rw[<-bT,Array.toList_map];exact this
     ·cases hc
   ·cases hc
  |_=>simp[CC.op,ho]at hc
 |slice t p lo hi mx=>
  simp only[CC.op,ho]at hc;split at hc
  ·rename_i a l h hu h1 hl hh;simp only[aQ]at hc;subst hc;obtain⟨k1,k2,k3,k4⟩:=hob;have hv:=hρ p (by simp[ho,Op.operands,Call.operands]) a h1 k1;cases hd:(J a).d<;>simp only[hd]at k4;rename_i s;rw[hd]at hv;obtain⟨e1,e2⟩:=hv.iz;obtain⟨b1,b2,b3⟩:=mX hρ (by rintro _ rfl;simp[ho,Op.operands]) (by rintro _ rfl;simp[ho,Op.operands]) hl hh k2 k3 false s.length s.length (fun _=>rfl) (aY _) k4.1 k4.2;simp only[aJ.val,hd];have hsz:(⟨⟨s⟩⟩:ByteArray).size=s.length:=rfl;refine bz hs (v:=.string ⟨⟨(s.take (eg (dO J h) s.length)).drop (eg (dO J l) 0)⟩⟩) ?_ (.str _ cz);simp[execOp,ho,e1,Instr.sliceAt,Instr.slice,run_underlying hu,hsz,b1,wx]
  ·rename_i e a l h hu h1 hl hh;split at hc
   ·cases hc
   rename_i hce;simp only[aQ]at hc;subst hc;obtain⟨k1,k2,k3,k4⟩:=hob;have hv:=hρ p (by simp[ho,Op.operands,Call.operands]) a h1 k1;cases hd:(J a).d<;>simp only[hd]at k4
   ·
    rw[hd]at hv;obtain⟨b1,b2,b3⟩:=mX hρ (by rintro _ rfl;simp[ho,Op.operands]) (by rintro _ rfl;simp[ho,Op.operands]) hl hh k2 k3 true 0 0 (fun e=>by simp at e) (aY _) k4.1 (by
     have:eg (dO J h) 0=0:=by
      have:=k4.1;cases hdh:dO J h with
      |none=>rfl
      |some d=>rw[hdh]at this;cases d<;>simp_all[mW,eg]
     rw[this];exact k4.2)
    simp only[aJ.val,hd];have e0:ev p=.slice none 0 0:=by generalize ev p=vp at hv;cases hv;rfl
    refine bz hs (v:=.slice none 0 0) ?_ .aV;have z1:eg (dO J l) 0=0:=ae;have z2:eg (dO J h) 0=0:=ae;rw[z1,z2]at b1;simp[execOp,ho,e0,Instr.sliceAt,Instr.slice,run_underlying hu,b1,di hce]
   ·rename_i k es;rw[hd]at hv;simp only[aJ.val,hd];generalize hep:ev p=vp at hv;have hv2:=hv;cases hv with
    |sl aa b off len cap _ _ c hlen ha hcap hm hk hn hc' hone hh'=>
     subst hlen;obtain⟨b1,b2,b3⟩:=mX hρ (by rintro _ rfl;simp[ho,Op.operands]) (by rintro _ rfl;simp[ho,Op.operands]) hl hh k2 k3 true es.length cap (fun e=>by simp at e) hcap k4.2.1 k4.2.2;refine bz hs (v:=.slice (if cap=eg (dO J l) 0 then aa else aa.map (·.add (eg (dO J l) 0*C.P.cellsOf e))) (eg (dO J h) es.length-eg (dO J l) 0) (cap-eg (dO J l) 0)) ?_ ?_
     ·simp[execOp,ho,hep,Instr.sliceAt,Instr.slice,run_underlying hu,b1,di hce]
     ·rw[<-k4.1];exact Nw hv2 b2 b3
   ·rename_i L' k i n;rw[hd]at hv;simp only[aJ.val,hd];obtain⟨k5,k6,k7⟩:=k4;obtain⟨aa,cap,he,hle0,hr⟩:=J4 hv;obtain⟨b1,b2,b3⟩:=mX hρ (by rintro _ rfl;simp[ho,Op.operands]) (by rintro _ rfl;simp[ho,Op.operands]) hl hh k2 k3 true n cap (fun e=>by simp at e) hle0 k6 k7;refine bz hs ?_ (hr _ _ b2 b3);simp only[execOp,ho,he,Instr.sliceAt,Instr.slice,run_underlying hu,Sem.run_bind,Result.andThen_ok,Option.map_none,b1,di hce,Sem.run_pure,k5]
  ·rename_i e a h mo hu h1 hl hh;obtain rfl:=uQ hl;obtain⟨oh,rfl,hh1⟩:=uR hh;split at hc;rotate_left
   ·cases hc
   rename_i ms hms;split at hc
   ·cases hc
   rename_i hce;simp only[aQ]at hc;subst hc;obtain⟨k1,k2,k3,k4⟩:=hob;have hv:=hρ p (by simp[ho,Op.operands,Call.operands]) a h1 k1;have hvh:=hρ oh (by simp[ho,Op.operands]) h hh1 k2;have hvm:=hρ mo (by simp[ho,Op.operands]) ms hms k3;cases hdh:(J h).d<;>simp only[hdh]at k4;cases hdm:(J ms).d<;>simp only[hdm]at k4;rename_i kh nh km nm;rw[hdh]at hvh;rw[hdm]at hvm;obtain⟨p1,p2,p3⟩:=k4;cases hd:(J a).d<;>simp only[hd]at p3
   ·
    rw[hd]at hv;simp only[aJ.val,hd,hdh];have e0:ev p=.slice none 0 0:=by generalize ev p=vp at hv;cases hv;rfl
    have b1:=pX (C:=C) (x:=x) (len:=0) (cap:=0) hvh.dA hvm.dA p1 p2 ae;refine bz hs (v:=.slice none 0 0) ?_ .aV;have z1:nh.toNat=0:=ae;have z2:nm.toNat=0:=ae;rw[z1,z2]at b1;simp[execOp,ho,e0,Instr.sliceAt,Instr.slice,run_underlying hu,b1,di hce]
   ·rename_i k es;rw[hd]at hv;simp only[aJ.val,hd,hdh];generalize hep:ev p=vp at hv;have hv2:=hv;cases hv with
    |sl aa b off len cap _ _ c hlen ha hcap hm hk hn hc' hone hh'=>
     subst hlen;have b1:=pX (C:=C) (x:=x) (len:=es.length) (cap:=cap) hvh.dA hvm.dA p1 p2 ae;refine bz hs (v:=.slice (if nm.toNat=0 then aa else aa.map (·.add (0*C.P.cellsOf e))) nh.toNat nm.toNat) ?_ ?_
     ·simp[execOp,ho,hep,Instr.sliceAt,Instr.slice,run_underlying hu,b1,di hce]
     ·rw[<-p3.1];exact Nv hv2 ae ae
   ·rename_i L' k i n;rw[hd]at hv;simp only[aJ.val,hd,hdh];obtain⟨k5,k6⟩:=p3;obtain⟨aa,cap,he,hle0,hr⟩:=J3 hv;have b1:=pX (C:=C) (x:=x) (len:=n) (cap:=cap) hvh.dA hvm.dA p1 p2 ae;refine bz hs ?_ (hr nh.toNat nm.toNat ae ae);simp only[execOp,ho,he,Instr.sliceAt,Instr.slice,run_underlying hu,Sem.run_bind,Result.andThen_ok,Option.map_none,Option.map_some,b1,di hce,Sem.run_pure,k5,Nat.sub_zero]
  ·cases hc
 |fieldAddr t p fi=>
  simp only[CC.op,ho]at hc;split at hc
  ·rename_i fs a hu h1;split at hc
   ·rename_i fl hfl;split at hc
    ·cases hc
    rename_i hce;simp only[aQ]at hc;subst hc;obtain⟨k1,k2⟩:=hob;have hv:=hρ p (by simp[ho,Op.operands,Call.operands]) a h1 k1;have hrun:∀(b c:Nat),ev p=.pointer (some ⟨b,c,none⟩)->(execOp ev o).run C.P x.w=.ok (.value (.pointer (some ⟨b,c+fl.offset,none⟩))) x.w:=by
     intro b c he;simp[execOp,ho,he,Instr.fieldAt,run_underlying hu,hfl,Instr.sureAddr,fieldPlace,di hce,hce,Addr.sZ]
    cases hd:(J a).d<;>simp only[hd]at k2
    ·rename_i k es i o';rw[hd]at hv;simp only[aJ.val,hd];generalize hep:ev p=vp at hv;cases hv with
     |ref b off _ _ _ at_ _ c hI hat hk hn hc' h1' hh'=>
      exact bz hs (hrun _ _ hep) (.ref b off k i (o'+fl.offset) _ es c hI ae hk hn hc' h1' hh')
    ·rename_i l k i o';rw[hd]at hv;simp only[aJ.val,hd];generalize hep:ev p=vp at hv;cases hv with
     |ptr _ _ _ _ b base tot at_ hβ hat=>
      exact bz hs (hrun _ _ hep) (.ptr l k i (o'+fl.offset) b base tot _ hβ ae)
   ·cases hc
  ·cases hc
 |field t p fi=>
  simp only[CC.op,ho]at hc;split at hc
  ·rename_i fs a hu h1;split at hc
   ·rename_i fl hfl;split at hc
    ·cases hc
    rename_i hce;simp only[aQ]at hc;subst hc;obtain⟨k1,k2⟩:=hob;have hv:=hρ p (by simp[ho,Op.operands,Call.operands]) a h1 k1;cases hd:(J a).d<;>simp only[hd]at k2;rename_i ds;rw[hd]at hv;generalize hep:ev p=vp at hv;have hv2:=hv;cases hv with
    |agg cs _ _ _ _=>
     obtain⟨v,r1,r2⟩:=mM (P:=C.P) (t:=fl.type) (off:=fl.offset) (n:=C.P.cellsOf fl.type) (ag:=bZ C.P fl.type) x.w hv2 (fun e=>hce (.inl e)) (by cases hn:(C.P.underlying fl.type).isNone with|false=>rfl|true=>exact absurd (.inr hn) hce) rfl rfl k2.1 k2.2;refine bz hs (v:=v) ?_ (by simp only[aJ.val,hd,D.cells];exact r2);simp[execOp,ho,hep,Instr.field,run_underlying hu,hfl,asAgg,r1]
   ·cases hc
  ·cases hc
 |indexAddr t p q=>
  simp only[CC.op,ho]at hc;split at hc
  ·rename_i e a b hu h1 h2;split at hc
   ·cases hc
   rename_i hce;simp only[aQ]at hc;subst hc;obtain⟨k1,k2,k3⟩:=hob;have hv:=hρ p (by simp[ho,Op.operands,Call.operands]) a h1 k1;have hw:=hρ q (by simp[ho,Op.operands,Call.operands]) b h2 k2;cases hd2:(J b).d<;>cases hd:(J a).d<;>simp only[hd,hd2]at k3
   ·rename_i kk n k es;rw[hd]at hv;rw[hd2]at hw;obtain⟨k4,k5,k6⟩:=k3;simp only[aJ.val,hd,hd2];generalize hep:ev p=vp at hv;cases hv with
    |sl aa b' off len cap _ _ c hlen ha hcap hm hk hn hc' hone hh'=>
     rcases ha with rfl|⟨rfl,hI⟩
     ·simp at k6;omega
     ·refine bz hs (v:=.pointer (some ⟨b',off+n.toNat*C.P.cellsOf e,none⟩)) ?_ ?_
      ·simp[execOp,ho,hep,hw.dA,Instr.indexAt,asIntOf,run_underlying hu,hlen,k5,k6,di hce,Addr.sZ]
      ·subst hlen;exact .ref b' off k n.toNat 0 _ es c hI (by rw[k4];omega) hk hn hc' hone hh'
   ·rename_i kk n L' k i len;rw[hd]at hv;rw[hd2]at hw;obtain⟨k4,k5,k6⟩:=k3;simp only[aJ.val,hd,hd2];generalize hep:ev p=vp at hv;cases hv with
    |own _ _ _ _ b' base tot cap aa hβ ha hcap hm ht=>
     have ha':=ha ae;subst ha';refine bz hs (v:=.pointer (some ⟨b',base+i*k+n.toNat*C.P.cellsOf e,none⟩)) ?_ ?_
     ·simp[execOp,ho,hep,hw.dA,Instr.indexAt,asIntOf,run_underlying hu,k5,k6,di hce,Addr.sZ]
     ·exact .ptr L' k (i+n.toNat) 0 b' base tot _ hβ (by rw[Nat.add_mul,k4];omega)
    |own0=>omega
  ·rename_i len e a b hu h1 h2;split at hc
   ·cases hc
   rename_i hce;simp only[aQ]at hc;subst hc;obtain⟨k1,k2,k3⟩:=hob;have hv:=hρ p (by simp[ho,Op.operands,Call.operands]) a h1 k1;have hw:=hρ q (by simp[ho,Op.operands,Call.operands]) b h2 k2;have hrun:∀(b c:Nat) (kk:IntKind) (n:Int),ev p=.pointer (some ⟨b,c,none⟩)->ev q=.int kk n->0<=n->n<len->(execOp ev o).run C.P x.w=.ok (.value (.pointer (some ⟨b,c+n.toNat*C.P.cellsOf e,none⟩))) x.w:=by
    intro b c kk n he he' g1 g2;simp[execOp,ho,he,he',Instr.indexAt,asIntOf,run_underlying hu,Instr.sureAddr,g1,g2,di hce,Addr.sZ]
   cases hd2:(J b).d<;>cases hd:(J a).d<;>simp only[hd,hd2]at k3
   ·rename_i kk n k es i o';rw[hd]at hv;rw[hd2]at hw;simp only[aJ.val,hd,hd2];generalize hep:ev p=vp at hv;cases hv with
    |ref b' off _ _ _ at_ _ c hI hat hk hn hc' h1' hh'=>
     exact bz hs (hrun _ _ _ _ hep hw.dA k3.1 k3.2) (.ref b' off k i (o'+n.toNat*C.P.cellsOf e) _ es c hI ae hk hn hc' h1' hh')
   ·rename_i kk n L' k i o';rw[hd]at hv;rw[hd2]at hw;simp only[aJ.val,hd,hd2];generalize hep:ev p=vp at hv;cases hv with
    |ptr _ _ _ _ b' base tot at_ hβ hat=>
     exact bz hs (hrun _ _ _ _ hep hw.dA k3.1 k3.2) (.ptr L' k i (o'+n.toNat*C.P.cellsOf e) b' base tot _ hβ ae)
  ·cases hc
 |index t p q=>
  simp only[CC.op,ho]at hc;split at hc
  ·rename_i a b hu h1 h2;simp only[aQ]at hc;subst hc;obtain⟨k1,k2,k3⟩:=hob;have hv:=hρ p (by simp[ho,Op.operands,Call.operands]) a h1 k1;have hw:=hρ q (by simp[ho,Op.operands,Call.operands]) b h2 k2;cases hd2:(J b).d<;>cases hd:(J a).d<;>simp only[hd,hd2]at k3;rename_i kk n s;rw[hd]at hv;rw[hd2]at hw;obtain⟨e1,e2⟩:=hv.iz;simp only[aJ.val,hd,hd2];have hsz:(⟨⟨s⟩⟩:ByteArray).size=s.length:=rfl;have hlt:n.toNat<s.length:=ae;refine bz hs (v:=.int .u8 (s.getD n.toNat 0).toNat) ?_ (.int _ _);simp only[execOp,ho,e1,hw.dA,Sem.run_bind,run_index_string x.w t _ kk n hu,hsz];rw[dif_pos k3];simp only[Result.andThen_ok,Sem.run_pure];congr 4;show(((⟨s⟩:Array UInt8)[n.toNat]'hlt)).toNat=_;simp[List.getD,hlt]
  ·rename_i len e a b hu h1 h2;split at hc
   ·cases hc
   rename_i hce;simp only[aQ]at hc;subst hc;obtain⟨k1,k2,k0,k3⟩:=hob;have hv:=hρ p (by simp[ho,Op.operands,Call.operands]) a h1 k1;have hw:=hρ q (by simp[ho,Op.operands,Call.operands]) b h2 k2;cases hd2:(J b).d<;>cases hd:(J a).d<;>simp only[hd,hd2]at k3;rename_i kk n ds;rw[hd]at hv;rw[hd2]at hw;generalize hep:ev p=vp at hv;have hv2:=hv;cases hv with
   |agg cs _ _ _ _=>
    have hb:n.toNat*C.P.cellsOf e+C.P.cellsOf e<=ds.length:=by
     rw[k3.2.2,<-Nat.succ_mul];exact ek _ ae
    obtain⟨v,r1,r2⟩:=mM (P:=C.P) (t:=e) (off:=n.toNat*C.P.cellsOf e) (n:=C.P.cellsOf e) (ag:=bZ C.P e) x.w hv2 (fun e=>hce (.inl e)) (by cases hn:(C.P.underlying e).isNone with|false=>rfl|true=>exact absurd (.inr hn) hce) rfl rfl hb k0;refine bz hs (v:=v) ?_ (by simp only[aJ.val,hd,hd2,D.cells];exact r2);simp[execOp,ho,hep,hw.dA,Instr.index,asIntOf,run_underlying hu,k3.1,k3.2.1,di (fun e=>hce (.inl e)),r1]
  ·cases hc
 |extract p n=>
  simp only[CC.op,ho,dj]at hc;obtain⟨s,h1,rfl⟩:=hc;obtain⟨k1,k2⟩:=hob;have hv:=hρ p (by simp[ho,Op.operands,Call.operands]) s h1 k1;cases hd:(J s).d<;>simp only[hd]at k2;rw[hd]at hv;generalize hep:ev p=vp at hv;cases hv with
  |tup cs _ hl hh=>
   have hlt:n<cs.size:=ae;refine bz hs (v:=cs.getD n undef) ?_ (by simp only[aJ.val,hd];exact hh n k2);simp[execOp,ho,hep,Instr.extract,Array.getElem?_eq_getElem hlt,Array.getD,hlt]
 |call c=>
  obtain⟨callee,args,argTypes⟩:=c;cases callee with
  |builtin bu=>
   cases bu with
   |len=>
    simp only[CC.op,ho]at hc;split at hc
    ·rename_i p t hargs htys;have hargs':args=#[p]:=by apply Array.ext';simpa using hargs
     have htys':argTypes=#[t]:=by apply Array.ext';simpa using htys
     subst hargs';subst htys';split at hc
     ·rename_i a h1 hu;simp only[aQ]at hc;subst hc;obtain⟨k1,k2⟩:=hob;have hv:=hρ p (by simp[ho,Op.operands,Call.operands]) a h1 k1;have hrun:∀s,ev p=.string s->(execOp ev o).run C.P x.w=.ok (.value (.int .i64 s.size)) x.w:=by
       intro s he;simp[execOp,ho,resolve,invoke,builtin,Builtin.len_,he,run_underlying hu,goInt]
      cases hd:(J a).d<;>simp only[hd]at k2
      ·rw[hd]at hv;simp only[aJ.val,hd];exact bz hs (hrun _ hv.iz.1) (.int _ _)
     ·rename_i a e h1 hu;simp only[aQ]at hc;subst hc;obtain⟨k1,k2⟩:=hob;have hv:=hρ p (by simp[ho,Op.operands,Call.operands]) a h1 k1;have hrun:∀b n cc,ev p=.slice b n cc->(execOp ev o).run C.P x.w=.ok (.value (.int .i64 n)) x.w:=by
       intro b n cc he;simp[execOp,ho,resolve,invoke,builtin,Builtin.len_,he,run_underlying hu,goInt]
      cases hd:(J a).d<;>simp only[hd]at k2
      ·rw[hd]at hv;simp only[aJ.val,hd];generalize hep:ev p=vp at hv;cases hv;exact bz hs (hrun _ _ _ hep) (.int _ _)
      ·rw[hd]at hv;simp only[aJ.val,hd];generalize hep:ev p=vp at hv;cases hv with
       |sl aa b off len cap _ _ cf hlen ha hcap hm hk hn hc' hone hh'=>
        subst hlen;exact bz hs (hrun _ _ _ hep) (.int _ _)
      ·rw[hd]at hv;simp only[aJ.val,hd];generalize hep:ev p=vp at hv;cases hv with
       |own _ _ _ _ b base tot cap aa hβ ha hcap hm ht=>
        exact bz hs (hrun _ _ _ hep) (.int _ _)
       |own0=>exact bz hs (hrun _ _ _ hep) (.int _ _)
     ·cases hc
    ·cases hc
   |append=>simp only[CC.op,ho]at hc;(repeat' split at hc)<;>simp_all[aJ.pure]<;>(subst hc;simp_all[aJ.pure])
   |_=>simp[CC.op,ho]at hc
  |value f=>
   cases f with
   |func fid=>simp only[CC.op,ho]at hc;(repeat' split at hc)<;>simp_all[aJ.pure]<;>(subst hc;simp_all[aJ.pure])
   |tmp t=>simp only[CC.op,ho]at hc;(repeat' split at hc)<;>simp_all[aJ.pure]<;>(subst hc;simp_all[aJ.pure])
   |_=>simp[CC.op,ho]at hc
  |invoke r n=>simp[CC.op,ho]at hc
 |alloc t=>simp only[CC.op,ho]at hc;(repeat' split at hc)<;>simp_all[aJ.pure]<;>(subst hc;simp_all[aJ.pure])
 |box t p=>simp only[CC.op,ho]at hc;(repeat' split at hc)<;>simp_all[aJ.pure]<;>(subst hc;simp_all[aJ.pure])
 |buildSlice t n ps=>simp only[CC.op,ho]at hc;(repeat' split at hc)<;>simp_all[aJ.pure]<;>(subst hc;simp_all[aJ.pure])
 |load t p=>simp only[CC.op,ho]at hc;(repeat' split at hc)<;>simp_all[aJ.pure]<;>(subst hc;simp_all[aJ.pure])
 |store t p q=>simp only[CC.op,ho]at hc;(repeat' split at hc)<;>simp_all[aJ.pure]<;>(subst hc;simp_all[aJ.pure])
 |makeSlice t a b=>simp only[CC.op,ho]at hc;(repeat' split at hc)<;>simp_all[aJ.pure]<;>(subst hc;simp_all[aJ.pure])
 |range t p=>simp only[CC.op,ho]at hc;(repeat' split at hc)<;>simp_all[aJ.pure]<;>(subst hc;simp_all[aJ.pure])
 |next it b=>
  cases b
  ·simp[CC.op,ho]at hc
  ·simp only[CC.op,ho,dj]at hc;obtain⟨s,h1,rfl⟩:=hc;simp[aJ.pure]at hp
 |_=>simp[CC.op,ho]at hc
end
end
end Go.Abs
