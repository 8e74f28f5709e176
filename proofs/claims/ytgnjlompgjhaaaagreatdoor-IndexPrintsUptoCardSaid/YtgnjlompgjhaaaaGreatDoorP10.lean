/- A part of the proofs. -/
import Derived.Carry
import Derived.ChangeSame
import Derived.Ground.Names2Prog
import Derived.KernelRfl
import Derived.Shelf.LaysM
import Derived.Shelf.Slices.Clone
import Derived.Shelf.Small.Strs
import Derived.Shelf.Small.Utf8
import Derived.Shelf.Small.Wraps
import Derived.Shelf.Strconv.Itoa0
import Derived.Shelf.Strconv.Itoa1
import Derived.Shelf.Strconv.Itoa2
import Derived.Shelf.Strconv.Itoa3
import Derived.Shelf.Strings.AsciiSet
import Derived.Shelf.Strings.Builder1
import Derived.Shelf.Strings.Builder2
import Derived.Shelf.Strings.Count
import Derived.Shelf.Strings.Cut
import Derived.Shelf.Strings.OnBuilder
import Derived.Shelf.Strings.Prefix
import Derived.Shelf.Strings.Runes
import Derived.Shelf.Strings.Search1
import Derived.Shelf.Strings.Search2
import Derived.Shelf.Strings.Search3
import Derived.Shelf.Strings.Shaped
import Derived.Shelf.Strings.Split
import Derived.Shelf.Strings.SplitShaped
import Derived.Shelf.Strings.Trim
import Derived.Shelf.Unicode.DecodeSlow
import Derived.Test.YtgnjlompgjhaaaaGreatDoorProg
import Derived.Test.YtgnjlompgjhaaaaGreatDoorP09
set_option linter.all false
set_option maxRecDepth 4000
namespace Go.Abs
section
def Mr:List D->Nat
 |_::.int _ (.ofNat 4)::_=>3
 |_=>1
def A70 (T:RT):Prop:=∀(r:Rec),(dh r)->T [Rec.D r] (.tup [.int .i64 (ct r).1,.int .i64 (ct r).2])
def A71 (T:RT):Prop:=∀(r:Rec),(dh r)->T [Rec.D r] (.tup [.int .i64 (ct r).1,.int .i64 (ct r).2])
def A72 (T:RT):Prop:=∀(r:Rec),(dh r)->T [Rec.D r] (.tup [.str (cP r).1,.int .i64 (cP r).2])
def A73 (T:RT):Prop:=∀(r:Rec),(dh r)->T [Rec.D r] (.tup [.str (cP r).1,.int .i64 (cP r).2])
def A74 (T:RT):Prop:=∀(r:Rec),(dh r)->T [Rec.D r] (.tup [.int .u64 (oL r),.int .i64 (cP r).2])
def A75 (T:RT):Prop:=∀(r:Rec),(dh r)->T [Rec.D r] (.tup [.int .u64 (oL r),.int .i64 (cP r).2])
def A85 (T:RT):Prop:=T [] (.bool true)
def N2 (T:RT):Prop:=∀(s:au)(b:UInt8),(s.length<=1048576)->T [.str s,.str [b]] (.sl 1 ((ar s b.toNat).map D.str))
def N3 (T:RT):Prop:=∀(s:au),(s.length<=1048576)->T [.str s,.str [124,124]] (.sl 1 ((aD s []).map D.str))
def A124 (T:RT):Prop:=N2 T/\N3 T
def A208 (T:RT):Prop:=∀(s:au),T [.str s] (.bool (ey s))
def A209 (T:RT):Prop:=∀(v:bX),(v.sm)->T [bX.D v] (.bool (eF v))
def A210 (T:RT):Prop:=∀(r:Rec)(n:cB),(n.sm)->T [Rec.D r,cB.D n] (.int .i64 (gh r n))
def A211 (T:RT):Prop:=∀(r:Rec)(name:au)(nT:au),(nT.length<=1048576)->T [Rec.D r,.str name,.str nT] (.int .i64 (fe r name nT))
def A212 (T:RT):Prop:=∀(s:au),T [.str s] (.bool (kQ s))
def A213 (T:RT):Prop:=∀(l:List bW),(mZ l)->T [.sl 2 (l.map bW.D)] (.bool (fF l))
def A214 (T:RT):Prop:=∀(r:Rec)(s:au),(s.length<=1048576)->T [Rec.D r,.str s] (.int .i64 (jZ r s))
def A215 (T:RT):Prop:=∀(r:Rec),(pI r/\dh r)->T [Rec.D r] (.str (kG r))
def A216 (T:RT):Prop:=∀(s:au),T [.str s] (.bool (ey s))
def A217 (T:RT):Prop:=∀(v:bX),(v.sm)->T [bX.D v] (.bool (eF v))
def A218 (T:RT):Prop:=∀(r:Rec),(dh r)->T [Rec.D r] (.tup [.int .i64 (dL r).1,.int .i64 (dL r).2])
def A219 (T:RT):Prop:=∀(r:Rec),(pI r/\dh r)->T [Rec.D r] (.str (kG r))
def A220 (T:RT):Prop:=∀(s:au),T [.sl 1 ((s).map fun b=>D.int .u8 b.toNat)] (.int .u64 (vA s))
def A221 (T:RT):Prop:=∀(s:au),T [.sl 1 ((s).map fun b=>D.int .u8 b.toNat)] (.int .u64 (vA s))
def A239 (T:RT):Prop:=∀(s:au),(s.length<=1048576)->T [.str s,.str [10]] (.sl 1 ((gC s).map D.str))
def A242 (T:RT):Prop:=∀(l:List au)(sep:au),(l.length<=1048600)->(sep.length<=4)->(∀t∈l,t.length<=2097200)->T [.sl 1 (l.map D.str),.str sep] (.str (bc sep l))
def A244 (T:RT):Prop:=∀(s:au),(s.length<=1048576)->T [.str s,.str [10]] (.tup [.str (bE s).1,.bool (bE s).2])
def A249 (T:RT):Prop:=∀(l:List au)(x:UInt8),((bc [x] l).length<=1099511627776)->T [.sl 1 (l.map D.str),.int .u8 (x.toNat:Nat)] (.str (bc [x] l))
def A251 (T:RT):Prop:=∀(s:fD),(∀x∈s.es,dh x.r)->T [fD.D s] (.tup [.str (fj s).1,.int .i64 (fj s).2])
def A252 (T:RT):Prop:=∀(s:au),(s.length<=1048576)->T [.str s] (.sl 1 ((fh s).map D.str))
def A253 (T:RT):Prop:=∀(s:au),(s.length<=1048576)->T [.str s] (.tup [.str (bE s).1,.bool (bE s).2])
def A254 (T:RT):Prop:=∀(s:au)(p:au),(s.length<=1048576)->(p.length<=1048576)->T [.str s,.str p] (.tup [.str (cO s p).1,.bool (cO s p).2])
def A255 (T:RT):Prop:=∀(s:au),(s.length<=1048576)->T [.str s] (.tup [.int .u64 (n8 s).1,.bool (n8 s).2.1,.bool (n8 s).2.2])
def A295 (T:RT):Prop:=∀(a:bX)(b:bX),(a.sm/\b.sm)->T [bX.D a,bX.D b] (.int .i64 (lM a b))
def A313 (T:RT):Prop:=∀(n:Int),T [.int .u64 n] (.str (gv n))
def A316 (T:RT):Prop:=∀(v:bX),(v.sm)->T [bX.D v] (.str (kR v))
def A331 (T:RT):Prop:=∀(s:au),(s.length<=1048576)->T [.str s,.str [10],.int .i64 1,.int .i64 (-1)] (.sl 1 ((gC s).map D.str))
def A336 (T:RT):Prop:=∀(n:Int),(0<=n/\n<=9999)->T [.int .i64 n] (.str (dw n.toNat))
def A349 (T:RT):Prop:=∀(s:au),T [.str s] (.bool (cb s))
def A353 (T:RT):Prop:=∀(s:fD),(∀x∈s.es,dh x.r)->T [fD.D s] (.bool (nt s))
def A357 (T:RT):Prop:=∀(s:au),T [.str s] (.bool (cb s))
def A358 (T:RT):Prop:=∀(s:fD),(∀x∈s.es,dh x.r)->T [fD.D s] (.bool (nt s))
def A424 (T:RT):Prop:=∀(a:bX)(b:bX),(a.sm/\b.sm)->T [bX.D a,bX.D b] (.int .i64 (lM a b))
def A440 (T:RT):Prop:=∀(n:Int),T [.int .i64 n] (.bool (kN n))
def A441 (T:RT):Prop:=∀(s:au),(s.length<=1048576)->T [.str s] (.bool (kF s true))
def A442 (T:RT):Prop:=∀(s:au),(s.length<=1048576)->T [.str s] (.bool (kF s false))
def A443 (T:RT):Prop:=∀(r:Rec)(w:cQ)(al:Bool),(w.sm)->T [Rec.D r,cQ.D w,.bool al] (.int .i64 (ib r w al))
def A444 (T:RT):Prop:=∀(s:au),(s.length<=1048576)->T [.str s] (.bool (lT s))
def A445 (T:RT):Prop:=∀(s:au),T [.str s] (.tup [fH (iw s).1,.int .i64 (iw s).2])
def A446 (T:RT):Prop:=∀(m:CO),T [fH m] (.str (HS m))
def A447 (T:RT):Prop:=∀(l:List au),T [.sl 1 (l.map D.str)] (.bool (rising l))
def A448 (T:RT):Prop:=∀(s:au),(s.length<=1048576)->T [.str s] (.tup [.int .i64 (cF s).1,.str (cF s).2.1,.str (cF s).2.2])
def A449 (T:RT):Prop:=∀(l:List bW)(nm:au),T [.sl 2 (l.map bW.D),.str nm] (.bool (MH l nm))
def A451 (T:RT):Prop:=∀(v:bX),(v.sm)->T [bX.D v] (.str (kR v))
def A453 (T:RT):Prop:=∀(c:Int),T [.int .u8 c] (.bool (gO c))
def A454 (T:RT):Prop:=∀(c:Int),T [.int .u8 c] (.bool (bg c))
def A455 (T:RT):Prop:=∀(n:Int),T [.int .i64 n] (.bool (kN n))
def A456 (T:RT):Prop:=∀(s:au)(p:Bool),(s.length<=1048576)->T [.str s,.bool p] (.bool (oM s p))
def A457 (T:RT):Prop:=∀(r:Rec)(n:cB),(n.sm)->T [Rec.D r,cB.D n] (.int .i64 (gh r n))
def A458 (T:RT):Prop:=∀(r:Rec)(b:kJ),(b.sm)->T [Rec.D r,kJ.D b] (.int .i64 (mU r b))
def A459 (T:RT):Prop:=∀(l:List bW),(mZ l)->T [.sl 2 (l.map bW.D)] (.bool (fF l))
def A460 (T:RT):Prop:=∀(r:Rec)(of:List au),(∀t∈of,t.length<=1048576)->T [Rec.D r,.sl 1 (of.map D.str)] (.int .i64 (jb r of))
def A461 (T:RT):Prop:=∀(w:cQ),(w.fit)->T [cQ.D w] (.str (gV w))
def A462 (T:RT):Prop:=∀(s:au),(s.length<=1048576)->T [.str s] (.str (gw s))
def A463 (T:RT):Prop:=∀(h:Int)(k:Nat),(k=13)->T [.int .u64 h,.int .i64 (k:Nat)] (.int .u64 (Kl h k))
def A464 (T:RT):Prop:=∀(h:Int)(n:Nat),(n<=63)->T [.int .u64 h,.int .u64 (n:Nat)] (.int .u64 (Kl h n))
def A470 (T:RT):Prop:=∀(s:au)(b:Int),(s.length<=1048576)->T [.str s,.int .u8 b] (.sl 1 ((ar s b).map D.str))
def A482 (T:RT):Prop:=∀(c:cG),(c.v.sm)->T [cG.D c] (.str (dk c))
def A487 (T:RT):Prop:=∀(s:au)(b:UInt8),(s.length<=1048576)->T [.str s,.str [b]] (.tup [.str (fE s b).1,.str (fE s b).2.1,.bool (fE s b).2.2])
def A495 (T:RT):Prop:=∀(s:au),(s.length<=1048576)->T [.str s] (.tup [dV (e8 s).1,.int .i64 (e8 s).2])
def A496 (T:RT):Prop:=∀(r:pF),(gF r)->T [dV r] (.str (oH r))
def A497 (T:RT):Prop:=∀(n:Int),T [.int .u64 n] (.str (gv n))
def A499 (T:RT):Prop:=∀(s:au),T [.str s] (.tup [.int .u64 (vj s),.bool (nG s)])
def A501 (T:RT):Prop:=∀(a:bX)(b:bX),(a.sm/\b.sm)->T [bX.D a,bX.D b] (.bool (uM a b))
def A511 (T:RT):Prop:=∀(l:List eu)(nm:au)(v:bX),((∀x∈l,x.r.v.sm)/\v.sm)->T [.sl 11 (l.map eu.D),.str nm,bX.D v] (.int .i64 (rj l nm v 0))
def A516 (T:RT):Prop:=∀(a:au)(b:au),T [.str a,.str b] (.int .i64 (rK a b))
def A530 (T:RT):Prop:=∀(v:bX),T [bX.D v] (bX.D (qO v))
def A531 (T:RT):Prop:=∀(l:List Int),T [.sl 1 (l.map (D.int .i64))] (.int .i64 (eA (fun i=>l[i]!) 0 l.length))
def A532 (T:RT):Prop:=∀(a:Int)(b:Int),T [.int .i64 a,.int .i64 b] (.int .i64 (dY a b))
def A533 (T:RT):Prop:=∀(s:au)(b:Int),(s.length<=1048576)->T [.str s,.int .u8 b] (.sl 1 ((ar s b).map D.str))
def A534 (T:RT):Prop:=∀(a:au)(b:au),T [.str a,.str b] (.int .i64 (nw a b))
def A554 (T:RT):Prop:=∀(v:bX),(kN v.major=true/\kN v.minor=true/\kN v.patch=true)->T [bX.D v] (.str (dw v.major.toNat++[46]++dw v.minor.toNat++[46]++dw v.patch.toNat))
def A572 (T:RT):Prop:=∀(s:au),(s.length<=1048576)->T [.str s] (.bool (lT s))
def A580 (T:RT):Prop:=∀(l:List eu)(nm:au)(v:bX),((∀x∈l,x.r.v.sm)/\v.sm)->T [.sl 11 (l.map eu.D),.str nm,bX.D v] (.int .i64 (rj l nm v 0))
def A630 (T:RT):Prop:=∀(a:Int)(b:Int),T [.int .i64 a,.int .i64 b] (.int .i64 (dY a b))
def A631 (T:RT):Prop:=∀(a:au)(b:au),(a.length<=1048576/\b.length<=1048576)->T [.str a,.str b] (.int .i64 (rl a b))
def A658 (T:RT):Prop:=∀(s:au),T [.str s] (.tup [.int .i64 (iF s),.bool (gp s)])
def A659 (T:RT):Prop:=∀(t:au),T [.str t] (.bool (b6 t))
def A661 (T:RT):Prop:=∀(m:CO),T [fH m] (.bool (qb m))
def A662 (T:RT):Prop:=∀(l:List Nd),(eQ l/\l.length<=15)->T [.sl 5 (l.map Nd.D)] (.str (kq l))
def A663 (T:RT):Prop:=∀(l:List bW)(nm:au),T [.sl 2 (l.map bW.D),.str nm] (.int .i64 (findF l nm 0))
def A665 (T:RT):Prop:=∀(n:Int),(0<=n/\n<=9999)->T [.int .i64 n] (.str (dw n.toNat))
def A666 (T:RT):Prop:=∀(t:au),T [.str t] (.bool (nR t))
def A667 (T:RT):Prop:=∀(s:au),T [.str s] (.tup [.int .i64 (iF s),.bool (gp s)])
def A668 (T:RT):Prop:=∀(t:au),T [.str t] (.bool (b6 t))
def A669 (T:RT):Prop:=∀(r:Rec)(w:cQ)(al:Bool),(w.sm)->T [Rec.D r,cQ.D w,.bool al] (.int .i64 (ib r w al))
def A670 (T:RT):Prop:=∀(s:au),T [.str s] (.bool (kQ s))
def A671 (T:RT):Prop:=∀(l:List bW)(of:List au),(∀t∈of,t.length<=1048576)->T [.sl 2 (l.map bW.D),.sl 1 (of.map D.str)] (.bool (jI l of))
def A672 (T:RT):Prop:=∀(s:au),(s.length<=1048576)->T [.str s] (.tup [.int .i64 (cF s).1,.str (cF s).2.1,.str (cF s).2.2])
def A673 (T:RT):Prop:=∀(r:Rec)(x:au),T [Rec.D r,.str x] (.bool (B5 r.needs x))
def A674 (T:RT):Prop:=∀(r:Rec)(x:au),T [Rec.D r,.str x] (.bool (uX r.needs x))
def A676 (T:RT):Prop:=∀(c:cG),(c.v.sm)->T [cG.D c] (.bool (jC c))
def A678 (T:RT):Prop:=∀(op:Int),T [.int .i64 op] (.str (cR op))
def A682 (T:RT):Prop:=∀(s:au),(s.length<=1048575)->T [.str s] (.tup [cG.D ((jv s).getD dF),.int .i64 (if(jv s).isSome=true then 0 else 6)])
def A683 (T:RT):Prop:=∀(s:au)(b:UInt8),(b=32)->(s.length<=1048576)->T [.str s,.str [b]] (.str (dI s))
def A684 (T:RT):Prop:=∀(r:pF),(gF r)->T [dV r] (.tup [.str (if hE r=true then vr r else []),.bool (hE r)])
def A685 (T:RT):Prop:=∀(r:pF),(gF r)->T [dV r] (.bool (nO r))
def A686 (T:RT):Prop:=∀(k:Nat),(k<16)->T [.int .u8 (k:Nat)] (.int .u8 ((wh k).toNat:Nat))
def A699 (T:RT):Prop:=∀(l:List eu)(nm:au)(v:bX),((∀x∈l,x.r.v.sm)/\v.sm)->T [.sl 11 (l.map eu.D),.fn 700 [.ref 1 [.str nm] 0 0,.ref 5 [bX.D v] 0 0]] (.int .i64 (rj l nm v 0))
def A700 (T:RT):Prop:=∀(x:eu)(nm:au)(v:bX),(x.r.v.sm/\v.sm)->T [eu.D x,.ref 1 [.str nm] 0 0,.ref 5 [bX.D v] 0 0] (.bool (ym nm v x))
def A701 (T:RT):Prop:=∀(a:bX)(b:bX),(a.sm/\b.sm)->T [bX.D a,bX.D b] (.bool (uM a b))
def A704 (T:RT):Prop:=∀(x:au),T [.str x] (.bool false)
def A714 (T:RT):Prop:=∀(x:Int),T [.int .i64 x] (.bool false)
def A734 (T:RT):Prop:=∀(n:Int),(0<=n/\n<=9999)->T [.int .i64 n] (.str (dw n.toNat))
def A744 (T:RT):Prop:=∀(s:au),(s.length<=1048576)->T [.str s] (.tup [dV (e8 s).1,.int .i64 (e8 s).2])
def A745 (T:RT):Prop:=∀(r:pF),(gF r)->T [dV r] (.str (oH r))
def A783 (T:RT):Prop:=∀(a:au)(b:au),T [.str a,.str b] (.int .i64 (nw a b))
def A810 (T:RT):Prop:=∀(l:List Nd),T [.sl 5 (l.map Nd.D)] (.bool (decide (l.length<=15)&&kH l))
def A811 (T:RT):Prop:=∀(l:List Nd)(i:Int),(eQ l/\l.length<=15/\0<=i/\i<l.length)->T [.sl 5 (l.map Nd.D),.int .i64 i] (.str (iJ l i))
def u811:List D->Nat:=fun ds=>2*(match ds.getD 1 .any with| .int _ i=>i.toNat|_=>0)
def A812 (T:RT):Prop:=∀(l:List au)(al:Bool),T [.sl 1 (l.map D.str),.bool al] (.bool (jo l al))
def A813 (T:RT):Prop:=∀(s:au),T [.str s] (.tup [fH (iw s).1,.int .i64 (iw s).2])
def A814 (T:RT):Prop:=∀(m:CO),T [fH m] (.str (HS m))
def A815 (T:RT):Prop:=∀(l:List au),T [.sl 1 (l.map D.str)] (.bool (rising l))
def A816 (T:RT):Prop:=∀(l:List bW)(nm:au),T [.sl 2 (l.map bW.D),.str nm] (.bool (MH l nm))
def A819 (T:RT):Prop:=∀(s:au),(s.length<=1048576)->T [.str s] (.tup [cG.D ((fq s).getD dF),.bool (fq s).isSome])
def A827 (T:RT):Prop:=∀(c:cG),(c.v.sm)->T [cG.D c] (.bool (jC c))
def A828 (T:RT):Prop:=∀(c:cG),(c.v.sm)->T [cG.D c] (.str (dk c))
def A882 (T:RT):Prop:=∀(n:Nat),(n<=9999)->T [.int .u64 (n:Nat)] (.str (dw n))
def A896 (T:RT):Prop:=∀(s:au),(s.length<=1048576)->T [.str s] (.sl 1 ((aD s []).map D.str))
def A897 (T:RT):Prop:=∀(s:au),(s.length<=1048576)->T [.str s] (.tup [cG.D ((dJ s).getD dF),.int .i64 (if(dJ s).isSome=true then 0 else 6)])
def A898 (T:RT):Prop:=∀(s:au),T [.str s] (.str (dI s))
def A899 (T:RT):Prop:=∀(r:pF),(gF r)->T [dV r] (.bool (hE r))
def A900 (T:RT):Prop:=∀(r:pF),(hE r=true/\gF r)->T [dV r] (.str (vr r))
def A901 (T:RT):Prop:=∀(r:pF),(gF r)->T [dV r] (.bool (nO r))
def A927 (T:RT):Prop:=∀(a:au)(b:au),T [.str a,.str b] (.int .i64 (rK a b))
def A946 (T:RT):Prop:=∀(w:List au)(es:List D)(b:Bool),T [.ref 3 [fW w (.sl 5 es) b] 0 0] (.str (aW w))
def A950 (T:RT):Prop:=T [] (.sl 1 (nE.map D.str))
def A951 (T:RT):Prop:=∀(l:List Nd)(i:Int)(b:Bool),(eQ l/\l.length<=15/\0<=i/\i<l.length)->T [.sl 5 (l.map Nd.D),.int .i64 i,.bool b] (.str (iR (iJ l i) b))
def u951:List D->Nat:=fun ds=>2*(match ds.getD 1 .any with| .int _ i=>i.toNat|_=>0)+1
def A953 (T:RT):Prop:=∀(m:CO),T [fH m] (.bool (qb m))
def A954 (T:RT):Prop:=∀(l:List Nd),(eQ l/\l.length<=15)->T [.sl 5 (l.map Nd.D)] (.str (kq l))
def A955 (T:RT):Prop:=∀(l:List bW)(nm:au),T [.sl 2 (l.map bW.D),.str nm] (.int .i64 (findF l nm 0))
def A956 (T:RT):Prop:=∀(s:au)(w:au),T [.str s,.str w] (.bool (nJ s w))
def A957 (T:RT):Prop:=∀(op:Int),T [.int .i64 op] (.str (cR op))
def NR (T:RT):Prop:=∀(s:au),T [.str s] (.tup [.int .i64 (eS s).1,.str (eS s).2])
def NS (T:RT):Prop:=∀(s:au),T [.str s] (.tup [.str (fL s 0).1,.str (fL s 0).2])
def NT (T:RT):Prop:=∀(l:List au),T [.sl 1 (l.map D.str)] (.tup [bX.D (tm l),.bool (ei l)])
def NU (T:RT):Prop:=∀(l:List Nd),(l.length<=15)->T [.sl 5 (l.map Nd.D)] (.bool (kH l))
def NV (T:RT):Prop:=∀(l:List Nd)(i:Int),(eQ l/\l.length<=15/\0<=i/\i<l.length)->T [.sl 5 (l.map Nd.D),.int .i64 i] (.str (iJ l i))
def RN:List D->Nat:=fun ds=>2*(match ds.getD 1 .any with| .int _ i=>i.toNat|_=>0)
def NW (T:RT):Prop:=∀(s:au)(w:au),T [.str s,.str w] (.bool (nJ s w))
def NX (T:RT):Prop:=∀(n:Nd),T [Nd.D n] (.bool (lv n))
def NY (T:RT):Prop:=∀(k:Int),(0<=k/\k<3)->T [.int .i64 k] (.str (pz k))
def NZ (T:RT):Prop:=∀(s:au)(b:Bool),(s.length<=1000000000)->T [.str s,.bool b] (.str (iR s b))
def Kx (T:RT):Prop:=∀(s:fD),(∀x∈s.es,dh x.r)->T [fD.D s] (.bool true)
def PD:PE (yq Kx):=bo
def N0 (T:RT):Prop:=∀(s:fD),T [fD.D s] (.bool (EB s))
def N1 (T:RT):Prop:=∀(s:fD),(∀x∈s.es,dh x.r)->T [fD.D s] (.tup [.str (fj s).1,.int .i64 (fj s).2])
def N4 (T:RT):Prop:=∀(s:au),(s.length<=1048576)->(Rk s)->T [.str s] (.tup [fD.D (mi s).1,.int .i64 (mi s).2.1,.int .i64 (mi s).2.2])
def aX:List (Nat×pP):=[(70,rP 14 A70),(71,rP 14 A71),(72,rP 15 A72),(73,rP 15 A73),(74,rP 16 A74),(75,rP 16 A75),(85,rP 19 A85),(124,rP 1 A124),(208,rP 1 A208),(209,rP 4 A209),(210,rP 13 A210),(211,rP 11 A211),(212,rP 6 A212),(213,rP 3 A213),(214,rP 3 A214),(215,rP 6 A215),(216,rP 2 A216),(217,rP 4 A217),(218,rP 13 A218),(219,rP 6 A219),(220,rP 2 A220),(221,rP 2 A221),(239,rP 2 A239),(242,rP 1 A242),(244,rP 1 A244),(249,rP 1 A249),(251,rP 18 A251),(252,rP 3 A252),(253,rP 2 A253),(254,rP 1 A254),(255,rP 3 A255),(295,rP 5 A295),(313,rP 1 A313),(316,rP 5 A316),(331,rP 1 A331),(336,rP 1 A336),(349,rP 1 A349),(353,rP 17 A353),(357,rP 2 A357),(358,rP 17 A358),(424,rP 5 A424),(440,rP 1 A440),(441,rP 3 A441),(442,rP 2 A442),(443,rP 12 A443),(444,rP 10 A444),(445,rP 5 A445),(446,rP 5 A446),(447,rP 1 A447),(448,rP 2 A448),(449,rP 2 A449),(450,rG 2 Ly),(451,rP 5 A451),(452,rG 1 I2),(453,rP 1 A453),(454,rP 1 A454),(455,rP 1 A455),(456,rP 3 A456),(457,rP 12 A457),(458,rP 11 A458),(459,rP 5 A459),(460,rP 4 A460),(461,rP 2 A461),(462,rP 1 A462),(463,rP 1 A463),(464,rP 1 A464),(470,rP 1 A470),(482,rP 6 A482),(487,rP 1 A487),(489,rG 1 I4),(495,rP 9 A495),(496,rP 8 A496),(497,rP 2 A497),(499,rP 1 A499),(501,rP 6 A501),(511,rP 9 A511),(516,rP 2 A516),(530,rP 1 A530),(531,rP 1 A531),(532,rP 2 A532),(533,rP 1 A533),(534,rP 3 A534),(554,rP 3 A554),(572,rP 10 A572),(580,rP 7 A580),(630,rP 1 A630),(631,rP 4 A631),(658,rP 1 A658),(659,rP 1 A659),(660,rG 4 LF (yt fun _=>4)),(661,rP 4 A661),(662,rP 3 A662),(663,rP 1 A663),(664,rG 1 LI),(665,rP 2 A665),(666,rP 1 A666),(667,rP 2 A667),(668,rP 1 A668),(669,rP 11 A669),(670,rP 7 A670),(671,rP 4 A671),(672,rP 3 A672),(673,rP 1 A673),(674,rP 1 A674),(676,rP 5 A676),(677,rG 3 LO),(678,rP 1 A678),(682,rP 8 A682),(683,rP 1 A683),(684,rP 7 A684),(685,rP 8 A685),(686,rP 1 A686),(699,rP 8 A699),(700,rP 7 A700),(701,rP 6 A701),(704,rP 1 A704),(714,rP 1 A714),(734,rP 2 A734),(744,rP 8 A744),(745,rP 9 A745),(783,rP 3 A783),(808,rG 4 C808 (yt Mr)),(809,rG 4 C809 (yt fun _=>2)),(810,rP 2 A810),(811,rP 2 A811 u811),(812,rP 3 A812),(813,rP 6 A813),(814,rP 6 A814),(815,rP 1 A815),(816,rP 2 A816),(819,rP 7 A819),(827,rP 5 A827),(828,rP 6 A828),(882,rP 1 A882),(896,rP 1 A896),(897,rP 7 A897),(898,rP 1 A898),(899,rP 6 A899),(900,rP 7 A900),(901,rP 8 A901),(927,rP 1 A927),(946,rP 1 A946),(947,rG 2 D4),(948,rG 1 Ge),(949,rG 4 C949 (yt fun _=>0)),(950,rP 1 A950),(951,rP 2 A951 u951),(952,rG 4 LY (yt fun _=>2)),(953,rP 5 A953),(954,rP 3 A954),(955,rP 1 A955),(956,rP 1 A956),(957,rP 1 A957),(1006,rP 2 NR),(1007,rP 1 NS),(1008,rP 3 NT),(1031,rG 3 F5),(1032,rG 4 N5 (yt fun _=>1)),(1033,rG 1 y8),(1034,rG 1 wz),(1035,rP 4 NU),(1036,rP 2 NV RN),(1079,rP 1 NW),(1097,rG 4 N6 (yt fun _=>0)),(1098,rP 3 NX),(1099,rP 1 NY),(1100,rP 1 NZ),(1126,rG 3 F9),(1141,rG 1 Ga),(1196,rP 20 Kx),(1201,rP 1 N0),(1202,rP 18 N1),(86,rP 4 N4)]
variable {k u v:Nat}
def G70 (hk:14<k:=by decide):C70 (under aX k u):=fun r hp0=>cV bo (.inl hk) fun T hT=>hT r hp0
def G71 (hk:14<k:=by decide):C71 (under aX k u):=fun r hp0=>cV bo (.inl hk) fun T hT=>hT r hp0
def G72 (hk:15<k:=by decide):C72 (under aX k u):=fun r hp0=>cV bo (.inl hk) fun T hT=>hT r hp0
def G73 (hk:15<k:=by decide):C73 (under aX k u):=fun r hp0=>cV bo (.inl hk) fun T hT=>hT r hp0
def G74 (hk:16<k:=by decide):C74 (under aX k u):=fun r hp0=>cV bo (.inl hk) fun T hT=>hT r hp0
def G75 (hk:16<k:=by decide):C75 (under aX k u):=fun r hp0=>cV bo (.inl hk) fun T hT=>hT r hp0
def G85 (hk:19<k:=by decide):C85 (under aX k u):=cV bo (.inl hk) fun T hT=>hT
def L4 (hk:1<k:=by decide):IZ (under aX k u):=fun s b hp=>cV bo (.inl hk) fun T h=>h.1 s b hp
def Qt (hk:1<k:=by decide):KK (under aX k u):=fun s hp=>cV bo (.inl hk) fun T h=>h.2 s hp
def Gi (hk:1<k:=by decide):D0 (under aX k u):=fun s=>cV bo (.inl hk) fun T hT=>hT s
def Gj (hk:4<k:=by decide):D1 (under aX k u):=fun v hp0=>cV bo (.inl hk) fun T hT=>hT v hp0
def G210 (hk:13<k:=by decide):N7 (under aX k u):=fun r n hp0=>cV bo (.inl hk) fun T hT=>hT r n hp0
def PY (hk:11<k:=by decide):Lp (under aX k u):=fun r name nT hp0=>cV bo (.inl hk) fun T hT=>hT r name nT hp0
def PZ (hk:6<k:=by decide):Lq (under aX k u):=fun s=>cV bo (.inl hk) fun T hT=>hT s
def G213 (hk:3<k:=by decide):N8 (under aX k u):=fun l hp0=>cV bo (.inl hk) fun T hT=>hT l hp0
def G214 (hk:3<k:=by decide):N9 (under aX k u):=fun r s hp0=>cV bo (.inl hk) fun T hT=>hT r s hp0
def P0 (hk:6<k:=by decide):Lr (under aX k u):=fun r hp0=>cV bo (.inl hk) fun T hT=>hT r hp0
def Gk (hk:2<k:=by decide):D2 (under aX k u):=fun s=>cV bo (.inl hk) fun T hT=>hT s
def Gl (hk:4<k:=by decide):D3 (under aX k u):=fun v hp0=>cV bo (.inl hk) fun T hT=>hT v hp0
def G218 (hk:13<k:=by decide):Oa (under aX k u):=fun r hp0=>cV bo (.inl hk) fun T hT=>hT r hp0
def P1 (hk:6<k:=by decide):Ls (under aX k u):=fun r hp0=>cV bo (.inl hk) fun T hT=>hT r hp0
def G220 (hk:2<k:=by decide):Ob (under aX k u):=fun s=>cV bo (.inl hk) fun T hT=>hT s
def G221 (hk:2<k:=by decide):Oc (under aX k u):=fun s=>cV bo (.inl hk) fun T hT=>hT s
def G239 (hk:2<k:=by decide):Od (under aX k u):=fun s hp0=>cV bo (.inl hk) fun T hT=>hT s hp0
def L5 (hk:1<k:=by decide):I0 (under aX k u):=fun l sep hp0 hp1 hp2=>cV bo (.inl hk) fun T hT=>hT l sep hp0 hp1 hp2
def G244 (hk:1<k:=by decide):Oe (under aX k u):=fun s hp0=>cV bo (.inl hk) fun T hT=>hT s hp0
def L6 (hk:1<k:=by decide):I1 (under aX k u):=fun l x hp0=>cV bo (.inl hk) fun T hT=>hT l x hp0
def P2 (hk:18<k:=by decide):Lt (under aX k u):=fun s hp0=>cV bo (.inl hk) fun T hT=>hT s hp0
def G252 (hk:3<k:=by decide):Of (under aX k u):=fun s hp0=>cV bo (.inl hk) fun T hT=>hT s hp0
def P3 (hk:2<k:=by decide):Lu (under aX k u):=fun s hp0=>cV bo (.inl hk) fun T hT=>hT s hp0
def P4 (hk:1<k:=by decide):Lv (under aX k u):=fun s p hp0 hp1=>cV bo (.inl hk) fun T hT=>hT s p hp0 hp1
def G255 (hk:3<k:=by decide):Og (under aX k u):=fun s hp0=>cV bo (.inl hk) fun T hT=>hT s hp0
def G295 (hk:5<k:=by decide):Oh (under aX k u):=fun a b hp0=>cV bo (.inl hk) fun T hT=>hT a b hp0
def G313 (hk:1<k:=by decide):Oi (under aX k u):=fun n=>cV bo (.inl hk) fun T hT=>hT n
def G316 (hk:5<k:=by decide):Oj (under aX k u):=fun v hp0=>cV bo (.inl hk) fun T hT=>hT v hp0
def G331 (hk:1<k:=by decide):Ol (under aX k u):=fun s hp0=>cV bo (.inl hk) fun T hT=>hT s hp0
def G336 (hk:1<k:=by decide):Om (under aX k u):=fun n hp0=>cV bo (.inl hk) fun T hT=>hT n hp0
def D6 (hk:1<k:=by decide):Bg (under aX k u):=fun s=>cV bo (.inl hk) fun T hT=>hT s
def G353 (hk:17<k:=by decide):On (under aX k u):=fun s hp0=>cV bo (.inl hk) fun T hT=>hT s hp0
def D7 (hk:2<k:=by decide):Bh (under aX k u):=fun s=>cV bo (.inl hk) fun T hT=>hT s
def G358 (hk:17<k:=by decide):Oo (under aX k u):=fun s hp0=>cV bo (.inl hk) fun T hT=>hT s hp0
def G424 (hk:5<k:=by decide):Oq (under aX k u):=fun a b hp0=>cV bo (.inl hk) fun T hT=>hT a b hp0
def G440 (hk:1<k:=by decide):Ot (under aX k u):=fun n=>cV bo (.inl hk) fun T hT=>hT n
def G441 (hk:3<k:=by decide):Ou (under aX k u):=fun s hp0=>cV bo (.inl hk) fun T hT=>hT s hp0
def P5 (hk:2<k:=by decide):Lw (under aX k u):=fun s hp0=>cV bo (.inl hk) fun T hT=>hT s hp0
def G443 (hk:12<k:=by decide):Ov (under aX k u):=fun r w al hp0=>cV bo (.inl hk) fun T hT=>hT r w al hp0
def G444 (hk:10<k:=by decide):Ox (under aX k u):=fun s hp0=>cV bo (.inl hk) fun T hT=>hT s hp0
def G445 (hk:5<k:=by decide):Oy (under aX k u):=fun s=>cV bo (.inl hk) fun T hT=>hT s
def G446 (hk:5<k:=by decide):Oz (under aX k u):=fun m=>cV bo (.inl hk) fun T hT=>hT m
def G447 (hk:1<k:=by decide):OA (under aX k u):=fun l=>cV bo (.inl hk) fun T hT=>hT l
def P6 (hk:2<k:=by decide):Lx (under aX k u):=fun s hp0=>cV bo (.inl hk) fun T hT=>hT s hp0
def G449 (hk:2<k:=by decide):OB (under aX k u):=fun l nm=>cV bo (.inl hk) fun T hT=>hT l nm
def G450 (hk:2<k:=by decide):Ly (under aX k u):=fun ws t l lw nx m K h1 h2 h3 h4 h5 hK=>vV (.inl hk) fun T _ h=>h ws t l lw nx m K h1 h2 h3 h4 h5 hK
def G451 (hk:5<k:=by decide):OC (under aX k u):=fun v hp0=>cV bo (.inl hk) fun T hT=>hT v hp0
def P7 (hk:1<k:=by decide):I2 (under aX k u):=fun ds st K h1=>vV (.inl hk) fun T _ h=>h ds st K h1
def P8 (hk:1<k:=by decide):Lz (under aX k u):=fun c=>cV bo (.inl hk) fun T hT=>hT c
def L7 (hk:1<k:=by decide):I3 (under aX k u):=fun c=>cV bo (.inl hk) fun T hT=>hT c
def G455 (hk:1<k:=by decide):OD (under aX k u):=fun n=>cV bo (.inl hk) fun T hT=>hT n
def G456 (hk:3<k:=by decide):OE (under aX k u):=fun s p hp0=>cV bo (.inl hk) fun T hT=>hT s p hp0
def G457 (hk:12<k:=by decide):OG (under aX k u):=fun r n hp0=>cV bo (.inl hk) fun T hT=>hT r n hp0
def G458 (hk:11<k:=by decide):OH (under aX k u):=fun r b hp0=>cV bo (.inl hk) fun T hT=>hT r b hp0
def G459 (hk:5<k:=by decide):OI (under aX k u):=fun l hp0=>cV bo (.inl hk) fun T hT=>hT l hp0
def G460 (hk:4<k:=by decide):OJ (under aX k u):=fun r of hp0=>cV bo (.inl hk) fun T hT=>hT r of hp0
def G461 (hk:2<k:=by decide):OK (under aX k u):=fun w hp0=>cV bo (.inl hk) fun T hT=>hT w hp0
def G462 (hk:1<k:=by decide):OL (under aX k u):=fun s hp0=>cV bo (.inl hk) fun T hT=>hT s hp0
def G463 (hk:1<k:=by decide):OM (under aX k u):=fun h k hp0=>cV bo (.inl hk) fun T hT=>hT h k hp0
def G464 (hk:1<k:=by decide):ON (under aX k u):=fun h n hp0=>cV bo (.inl hk) fun T hT=>hT h n hp0
def D8 (hk:1<k:=by decide):Bi (under aX k u):=fun s b hp0=>cV bo (.inl hk) fun T hT=>hT s b hp0
def P9 (hk:6<k:=by decide):LA (under aX k u):=fun c hp0=>cV bo (.inl hk) fun T hT=>hT c hp0
def G487 (hk:1<k:=by decide):OO (under aX k u):=fun s b hp0=>cV bo (.inl hk) fun T hT=>hT s b hp0
def Qa (hk:1<k:=by decide):I4 (under aX k u):=fun ds st K h1=>vV (.inl hk) fun T _ h=>h ds st K h1
def G495 (hk:9<k:=by decide):OP (under aX k u):=fun s hp0=>cV bo (.inl hk) fun T hT=>hT s hp0
def G496 (hk:8<k:=by decide):OQ (under aX k u):=fun r hp0=>cV bo (.inl hk) fun T hT=>hT r hp0
def G497 (hk:2<k:=by decide):OR (under aX k u):=fun n=>cV bo (.inl hk) fun T hT=>hT n
def G499 (hk:1<k:=by decide):OS (under aX k u):=fun s=>cV bo (.inl hk) fun T hT=>hT s
def G501 (hk:6<k:=by decide):OT (under aX k u):=fun a b hp0=>cV bo (.inl hk) fun T hT=>hT a b hp0
def G511 (hk:9<k:=by decide):OU (under aX k u):=fun l nm v hp0=>cV bo (.inl hk) fun T hT=>hT l nm v hp0
def G516 (hk:2<k:=by decide):OV (under aX k u):=fun a b=>cV bo (.inl hk) fun T hT=>hT a b
def G530 (hk:1<k:=by decide):OW (under aX k u):=fun v=>cV bo (.inl hk) fun T hT=>hT v
def G531 (hk:1<k:=by decide):OX (under aX k u):=fun l=>cV bo (.inl hk) fun T hT=>hT l
def Qb (hk:2<k:=by decide):LB (under aX k u):=fun a b=>cV bo (.inl hk) fun T hT=>hT a b
def Jb (hk:1<k:=by decide):Gb (under aX k u):=fun s b hp0=>cV bo (.inl hk) fun T hT=>hT s b hp0
def G534 (hk:3<k:=by decide):OY (under aX k u):=fun a b=>cV bo (.inl hk) fun T hT=>hT a b
def G554 (hk:3<k:=by decide):OZ (under aX k u):=fun v hp0=>cV bo (.inl hk) fun T hT=>hT v hp0
def Qc (hk:10<k:=by decide):LC (under aX k u):=fun s hp0=>cV bo (.inl hk) fun T hT=>hT s hp0
def G580 (hk:7<k:=by decide):O0 (under aX k u):=fun l nm v hp0=>cV bo (.inl hk) fun T hT=>hT l nm v hp0
def L8 (hk:1<k:=by decide):I5 (under aX k u):=fun a b=>cV bo (.inl hk) fun T hT=>hT a b
def G631 (hk:4<k:=by decide):O1 (under aX k u):=fun a b hp0=>cV bo (.inl hk) fun T hT=>hT a b hp0
def L9 (hk:1<k:=by decide):I6 (under aX k u):=fun s=>cV bo (.inl hk) fun T hT=>hT s
def Qd (hk:1<k:=by decide):LD (under aX k u):=fun t=>cV bo (.inl hk) fun T hT=>hT t
def G660 (hk:4<k:=by decide):LF (under aX k u):=fun w nd hp0 nx lp ln m K h1 h2 h3 h4 hK=>vV (.inl hk) fun T _ h=>h w nd hp0 nx lp ln m K h1 h2 h3 h4 hK
def Qe (hv:v<=u):KI (under aX 4 u) v:=fun w nd hp0 hu nx lp ln m K h1 h2 h3 h4 hK=>vV (.inr ⟨rfl,by rw[show(lk aX 660 lN).muE=yt fun _=>4 from rfl,lA h1];exact en hu hv⟩) fun T _ h=>h w nd hp0 nx lp ln m K h1 h2 h3 h4 hK
def Qf (hk:4<k:=by decide):LG (under aX k u):=fun m=>cV bo (.inl hk) fun T hT=>hT m
def Qg (hk:3<k:=by decide):LH (under aX k u):=fun l hp0=>cV bo (.inl hk) fun T hT=>hT l hp0
def G663 (hk:1<k:=by decide):O2 (under aX k u):=fun l nm=>cV bo (.inl hk) fun T hT=>hT l nm
def G664 (hk:1<k:=by decide):LI (under aX k u):=fun ds st K h1=>vV (.inl hk) fun T _ h=>h ds st K h1
def Qh (hk:2<k:=by decide):LJ (under aX k u):=fun n hp0=>cV bo (.inl hk) fun T hT=>hT n hp0
def G666 (hk:1<k:=by decide):O3 (under aX k u):=fun t=>cV bo (.inl hk) fun T hT=>hT t
def Ma (hk:2<k:=by decide):I7 (under aX k u):=fun s=>cV bo (.inl hk) fun T hT=>hT s
def Qi (hk:1<k:=by decide):LK (under aX k u):=fun t=>cV bo (.inl hk) fun T hT=>hT t
def G669 (hk:11<k:=by decide):O4 (under aX k u):=fun r w al hp0=>cV bo (.inl hk) fun T hT=>hT r w al hp0
def Qj (hk:7<k:=by decide):LL (under aX k u):=fun s=>cV bo (.inl hk) fun T hT=>hT s
def G671 (hk:4<k:=by decide):O5 (under aX k u):=fun l of hp0=>cV bo (.inl hk) fun T hT=>hT l of hp0
def Qk (hk:3<k:=by decide):LM (under aX k u):=fun s hp0=>cV bo (.inl hk) fun T hT=>hT s hp0
def G673 (hk:1<k:=by decide):O6 (under aX k u):=fun r x=>cV bo (.inl hk) fun T hT=>hT r x
def G674 (hk:1<k:=by decide):O7 (under aX k u):=fun r x=>cV bo (.inl hk) fun T hT=>hT r x
def Ql (hk:5<k:=by decide):LN (under aX k u):=fun c hp0=>cV bo (.inl hk) fun T hT=>hT c hp0
def G677 (hk:3<k:=by decide):LO (under aX k u):=fun c hp0 nx m K hK=>vV (.inl hk) fun T _ h=>h c hp0 nx m K hK
def Qm (hk:1<k:=by decide):LP (under aX k u):=fun op=>cV bo (.inl hk) fun T hT=>hT op
def G682 (hk:8<k:=by decide):O8 (under aX k u):=fun s hp0=>cV bo (.inl hk) fun T hT=>hT s hp0
def G683 (hk:1<k:=by decide):O9 (under aX k u):=fun s b hp0 hp1=>cV bo (.inl hk) fun T hT=>hT s b hp0 hp1
def Mb (hk:7<k:=by decide):I8 (under aX k u):=fun r hp0=>cV bo (.inl hk) fun T hT=>hT r hp0
def G685 (hk:8<k:=by decide):Pa (under aX k u):=fun r hp0=>cV bo (.inl hk) fun T hT=>hT r hp0
def G686 (hk:1<k:=by decide):Pb (under aX k u):=fun k hp0=>cV bo (.inl hk) fun T hT=>hT k hp0
def G699 (hk:8<k:=by decide):Pc (under aX k u):=fun l nm v hp0=>cV bo (.inl hk) fun T hT=>hT l nm v hp0
def G700 (hk:7<k:=by decide):Pd (under aX k u):=fun x nm v hp0=>cV bo (.inl hk) fun T hT=>hT x nm v hp0
def G701 (hk:6<k:=by decide):Pe (under aX k u):=fun a b hp0=>cV bo (.inl hk) fun T hT=>hT a b hp0
def G704 (hk:1<k:=by decide):Pf (under aX k u):=fun x=>cV bo (.inl hk) fun T hT=>hT x
def G714 (hk:1<k:=by decide):Pg (under aX k u):=fun x=>cV bo (.inl hk) fun T hT=>hT x
def Qn (hk:2<k:=by decide):LR (under aX k u):=fun n hp0=>cV bo (.inl hk) fun T hT=>hT n hp0
def G744 (hk:8<k:=by decide):Ph (under aX k u):=fun s hp0=>cV bo (.inl hk) fun T hT=>hT s hp0
def G745 (hk:9<k:=by decide):Pj (under aX k u):=fun r hp0=>cV bo (.inl hk) fun T hT=>hT r hp0
def G783 (hk:3<k:=by decide):Pk (under aX k u):=fun a b=>cV bo (.inl hk) fun T hT=>hT a b
def KP (hv:v<=u):Gc (under aX 4 u) v:=⟨fun w nd hp0 hu nx lp ln m K h1 h2 h3 h4 hK=>vV (.inr ⟨rfl,by rw[show(lk aX 808 lN).muE=yt Mr from rfl,lA h1];exact en hu hv⟩) fun T _ h=>h.1 w nd hp0 nx lp ln m K h1 h2 h3 h4 hK,fun w nd hp0 hu nx lp ln m K h1 h2 h3 h4 hK=>vV (.inr ⟨rfl,by rw[show(lk aX 808 lN).muE=yt Mr from rfl,lA h1];exact en hu hv⟩) fun T _ h=>h.2 w nd hp0 nx lp ln m K h1 h2 h3 h4 hK⟩
def Qo (hv:v<=u):Pl (under aX 4 u) v:=fun w nd hp0 hu nx lp ln m K h1 h2 h3 h4 hK=>vV (.inr ⟨rfl,by rw[show(lk aX 809 lN).muE=yt fun _=>2 from rfl,lA h1];exact en hu hv⟩) fun T _ h=>h w nd hp0 nx lp ln m K h1 h2 h3 h4 hK
def G810 (hk:2<k:=by decide):Pm (under aX k u):=fun l=>cV bo (.inl hk) fun T hT=>hT l
def G811 (hk:2<k:=by decide):Pn (under aX k u):=fun l i hp0=>cV bo (.inl hk) fun T hT=>hT l i hp0
def KQ (hv:v<=u):Gd (under aX 2 u) v:=fun l i hp0 hu=>cV bo (.inr ⟨rfl,en hu hv⟩) fun T hT=>hT l i hp0
def G812 (hk:3<k:=by decide):Po (under aX k u):=fun l al=>cV bo (.inl hk) fun T hT=>hT l al
def G813 (hk:6<k:=by decide):Pq (under aX k u):=fun s=>cV bo (.inl hk) fun T hT=>hT s
def G814 (hk:6<k:=by decide):Pr (under aX k u):=fun m=>cV bo (.inl hk) fun T hT=>hT m
def Qp (hk:1<k:=by decide):LS (under aX k u):=fun l=>cV bo (.inl hk) fun T hT=>hT l
def G816 (hk:2<k:=by decide):Ps (under aX k u):=fun l nm=>cV bo (.inl hk) fun T hT=>hT l nm
def G819 (hk:7<k:=by decide):Pt (under aX k u):=fun s hp0=>cV bo (.inl hk) fun T hT=>hT s hp0
def Mc (hk:5<k:=by decide):I9 (under aX k u):=fun c hp0=>cV bo (.inl hk) fun T hT=>hT c hp0
def Qq (hk:6<k:=by decide):LU (under aX k u):=fun c hp0=>cV bo (.inl hk) fun T hT=>hT c hp0
def G882 (hk:1<k:=by decide):Pu (under aX k u):=fun n hp0=>cV bo (.inl hk) fun T hT=>hT n hp0
def G896 (hk:1<k:=by decide):Pv (under aX k u):=fun s hp0=>cV bo (.inl hk) fun T hT=>hT s hp0
def G897 (hk:7<k:=by decide):Pw (under aX k u):=fun s hp0=>cV bo (.inl hk) fun T hT=>hT s hp0
def G898 (hk:1<k:=by decide):Px (under aX k u):=fun s=>cV bo (.inl hk) fun T hT=>hT s
def Qr (hk:6<k:=by decide):LV (under aX k u):=fun r hp0=>cV bo (.inl hk) fun T hT=>hT r hp0
def Md (hk:7<k:=by decide):Ja (under aX k u):=fun r hp0=>cV bo (.inl hk) fun T hT=>hT r hp0
def G901 (hk:8<k:=by decide):Py (under aX k u):=fun r hp0=>cV bo (.inl hk) fun T hT=>hT r hp0
def G927 (hk:1<k:=by decide):Pz (under aX k u):=fun a b=>cV bo (.inl hk) fun T hT=>hT a b
def Me (hk:1<k:=by decide):LW (under aX k u):=fun w es b=>cV bo (.inl hk) fun T hT=>hT w es b
def Jc (hk:2<k:=by decide):D4 (under aX k u):=fun w nd b nx lp ln m K h1 h2 h3 h4 hK=>vV (.inl hk) fun T _ h=>h w nd b nx lp ln m K h1 h2 h3 h4 hK
def Jd (hk:1<k:=by decide):Ge (under aX k u):=fun x w nd b hp0 nx lp ln m K h1 h2 h3 h4 hK=>vV (.inl hk) fun T _ h=>h x w nd b hp0 nx lp ln m K h1 h2 h3 h4 hK
def KR (hv:v<=u):KL (under aX 4 u) v:=fun w nd hp0 hu nx lp ln m K h1 h2 h3 h4 hK=>vV (.inr ⟨rfl,by rw[show(lk aX 949 lN).muE=yt fun _=>0 from rfl,lA h1];exact en hu hv⟩) fun T _ h=>h w nd hp0 nx lp ln m K h1 h2 h3 h4 hK
def Qu (hk:1<k:=by decide):LX (under aX k u):=cV bo (.inl hk) fun T hT=>hT
def Qv (hv:v<=u):KM (under aX 2 u) v:=fun l i b hp0 hu=>cV bo (.inr ⟨rfl,en hu hv⟩) fun T hT=>hT l i b hp0
def G952 (hk:4<k:=by decide):LY (under aX k u):=fun W w nd hp0 hp1 nx lp ln m K h1 h2 h3 h4 hK=>vV (.inl hk) fun T _ h=>h W w nd hp0 hp1 nx lp ln m K h1 h2 h3 h4 hK
def Qw (hv:v<=u):KN (under aX 4 u) v:=fun W w nd hp0 hp1 hu nx lp ln m K h1 h2 h3 h4 hK=>vV (.inr ⟨rfl,by rw[show(lk aX 952 lN).muE=yt fun _=>2 from rfl,qc hp0.1 h1];exact en hu hv⟩) fun T _ h=>h W w nd hp0 hp1 nx lp ln m K h1 h2 h3 h4 hK
def Qx (hk:5<k:=by decide):LZ (under aX k u):=fun m=>cV bo (.inl hk) fun T hT=>hT m
def Qy (hk:3<k:=by decide):L0 (under aX k u):=fun l hp0=>cV bo (.inl hk) fun T hT=>hT l hp0
def G955 (hk:1<k:=by decide):PA (under aX k u):=fun l nm=>cV bo (.inl hk) fun T hT=>hT l nm
def G956 (hk:1<k:=by decide):PC (under aX k u):=fun s w=>cV bo (.inl hk) fun T hT=>hT s w
def Qz (hk:1<k:=by decide):L1 (under aX k u):=fun op=>cV bo (.inl hk) fun T hT=>hT op
def PI (hk:2<k:=by decide):Ky (under aX k u):=fun s=>cV bo (.inl hk) fun T hT=>hT s
def PJ (hk:1<k:=by decide):Kz (under aX k u):=fun s=>cV bo (.inl hk) fun T hT=>hT s
def PK (hk:3<k:=by decide):KA (under aX k u):=fun l=>cV bo (.inl hk) fun T hT=>hT l
def PL (hk:3<k:=by decide):F5 (under aX k u):=fun k w nd b hp0 nx lp ln m K h1 h2 h3 h4 hK=>vV (.inl hk) fun T _ h=>h k w nd b hp0 nx lp ln m K h1 h2 h3 h4 hK
def L2 (hv:v<=u):F6 (under aX 4 u) v:=fun W w nd hp0 hp1 hu nx lp ln m K h1 h2 h3 h4 hK=>vV (.inr ⟨rfl,by rw[show(lk aX 1032 lN).muE=yt fun _=>1 from rfl,qc hp0.1 h1];exact en hu hv⟩) fun T _ h=>h W w nd hp0 hp1 nx lp ln m K h1 h2 h3 h4 hK
def Gf (hk:1<k:=by decide):y8 (under aX k u):=fun s W w nd b hp0 nx lp ln m K h1 h2 h3 h4 hK=>vV (.inl hk) fun T _ h=>h s W w nd b hp0 nx lp ln m K h1 h2 h3 h4 hK
def CM (hk:1<k:=by decide):wz (under aX k u):=fun x W w nd b hp0 nx lp ln m K h1 h2 h3 h4 hK=>vV (.inl hk) fun T _ h=>h x W w nd b hp0 nx lp ln m K h1 h2 h3 h4 hK
def PM (hk:4<k:=by decide):KB (under aX k u):=fun l hp0=>cV bo (.inl hk) fun T hT=>hT l hp0
def PN (hk:2<k:=by decide):KC (under aX k u):=fun l i hp0=>cV bo (.inl hk) fun T hT=>hT l i hp0
def L3 (hv:v<=u):F7 (under aX 2 u) v:=fun l i hp0 hu=>cV bo (.inr ⟨rfl,en hu hv⟩) fun T hT=>hT l i hp0
def PQ (hk:1<k:=by decide):KD (under aX k u):=fun s w=>cV bo (.inl hk) fun T hT=>hT s w
def Gg (hv:v<=u):Bf (under aX 4 u) v:=fun W w nd hp0 hp1 hu nx lp ln m K h1 h2 h3 h4 hK=>vV (.inr ⟨rfl,by rw[show(lk aX 1097 lN).muE=yt fun _=>0 from rfl,qc hp0.1 h1];exact en hu hv⟩) fun T _ h=>h W w nd hp0 hp1 nx lp ln m K h1 h2 h3 h4 hK
def PS (hk:3<k:=by decide):KE (under aX k u):=fun n=>cV bo (.inl hk) fun T hT=>hT n
def KO (hk:1<k:=by decide):F8 (under aX k u):=fun k hp0=>cV bo (.inl hk) fun T hT=>hT k hp0
def PT (hk:1<k:=by decide):KF (under aX k u):=fun s b hp0=>cV bo (.inl hk) fun T hT=>hT s b hp0
def PU (hk:3<k:=by decide):F9 (under aX k u):=fun W w nd hp0 hp1 nx lp ln m K h1 h2 h3 h4 hK=>vV (.inl hk) fun T _ h=>h W w nd hp0 hp1 nx lp ln m K h1 h2 h3 h4 hK
def PV (hk:1<k:=by decide):Ga (under aX k u):=fun W w nd b hp0 nx lp ln m K h1 h2 h3 h4 hK=>vV (.inl hk) fun T _ h=>h W w nd b hp0 nx lp ln m K h1 h2 h3 h4 hK
def PW (hk:1<k:=by decide):KG (under aX k u):=fun s=>cV bo (.inl hk) fun T hT=>hT s
def PX (hk:18<k:=by decide):KH (under aX k u):=fun s hp0=>cV bo (.inl hk) fun T hT=>hT s hp0
def Qs (hk:4<k:=by decide):KJ (under aX k u):=fun s hp0 hp1=>cV bo (.inl hk) fun T hT=>hT s hp0 hp1
end
def uK:List (Nat×Nat):=[(3,1196),(9,1201),(10,85),(11,251),(12,1202),(13,86),(20,353),(21,489),(22,72),(23,497),(24,452),(25,358),(26,73),(27,313),(28,252),(29,253),(30,254),(31,208),(32,255),(33,256),(34,76),(35,242),(36,257),(46,74),(47,511),(56,70),(57,215),(58,686),(59,216),(60,75),(61,580),(62,71),(63,219),(64,239),(65,244),(67,124),(68,499),(69,487),(72,295),(73,470),(76,501),(77,249),(80,220),(81,699),(82,700),(83,701),(91,482),(94,209),(95,210),(96,211),(97,212),(98,213),(99,214),(100,450),(101,451),(102,453),(103,454),(104,221),(105,217),(106,218),(107,316),(108,461),(109,462),(110,331),(119,530),(120,531),(121,532),(122,533),(123,534),(126,424),(129,463),(130,676),(131,677),(132,678),(133,440),(134,441),(135,442),(136,443),(137,349),(138,444),(139,445),(140,446),(141,447),(142,448),(143,449),(144,664),(145,665),(146,464),(147,455),(148,456),(149,457),(150,458),(151,459),(152,460),(153,554),(162,658),(164,714),(165,659),(166,516),(173,630),(174,631),(176,734),(177,495),(178,496),(179,660),(180,661),(181,662),(182,663),(183,336),(184,666),(185,667),(186,668),(187,669),(188,670),(189,357),(190,572),(191,671),(192,672),(193,673),(194,674),(203,704),(205,783),(206,882),(207,682),(208,683),(209,684),(210,685),(211,808),(212,809),(213,810),(214,811),(216,812),(217,813),(218,814),(219,744),(220,745),(221,815),(222,816),(228,927),(229,819),(237,827),(238,828),(239,946),(240,947),(241,948),(242,949),(243,950),(244,951),(246,952),(247,953),(248,954),(249,896),(250,897),(251,898),(252,899),(253,900),(254,901),(255,955),(256,956),(257,957),(261,1031),(266,1032),(267,1033),(268,1034),(269,1035),(270,1036),(271,1006),(272,1007),(273,1008),(281,1097),(282,1098),(283,1099),(284,1100),(285,1079),(290,1126),(291,1141)]
def GS:List Nat:=[219,1091,1354,1894,1896,1616,1320,1618,1898,2062,2066,2282,2068,2252,2194,2064,1904,900,931,937,935,445,978,1328,904,942,944,946,952,448,522,1008,1000000060]
def bm:(Go.Proofs.Tryz.prog).follows .mixedOrders=true:=oR
abbrev Ow [c7](f n:Nat):Prop:=QV Go.Proofs.Tryz.prog uK GS aX f n
abbrev Cp (f:Nat)(a:aC):Prop:=IQ Go.Proofs.Tryz.prog uK GS f a
def ck {f:Nat}{a:aC}(h:((Go.Proofs.Tryz.prog).funcs[f]?).map (fun f=>(compile Go.Proofs.Tryz.prog uK GS f,f.name== "runtime.NumGoroutine"))=some (some a,false):=by kernel_rfl):Cp f a:=h
end Go.Abs
section
namespace Go.Proofs
open Go.Shelf
def Tryz.Jn:Go.Shelf.Ren:=⟨fun|166=>21|167=>144|169=>24|240=>55|276=>93|n=>n,fun|70=>58|9=>9|0=>0|72=>60|37=>39|3=>3|5=>5|4=>4|20=>20|75=>62|80=>67|164=>146|127=>104|n=>n,fun|n=>n⟩
def Tryz.CV:Go.Proofs.Lays.n166 Tryz.prog Tryz.Jn:={
 mixed:=by kernel_rfl
 f166:=Tryz.func21.trans (congrArg some (by kernel_rfl))
 f240:=Tryz.func55.trans (congrArg some (by kernel_rfl))
 f276:=Tryz.func93.trans (congrArg some (by kernel_rfl))
 t0:=Tryz.underlying0
 a0:=Tryz.isAgg0
 z0:=Tryz.sizeOf0
 v0:=Tryz.zeroValue0
 t3:=Tryz.underlying3
 a3:=Tryz.isAgg3
 z3:=Tryz.sizeOf3
 v3:=Tryz.zeroValue3
 t4:=Tryz.underlying4
 a4:=Tryz.isAgg4
 z4:=Tryz.sizeOf4
 v4:=Tryz.zeroValue4
 t9:=Tryz.underlying9
 a9:=Tryz.isAgg9
 z9:=Tryz.sizeOf9
 v9:=Tryz.zeroValue9
 t20:=Tryz.underlying20
 a20:=Tryz.isAgg20
 z20:=Tryz.sizeOf20
 v20:=Tryz.zeroValue20
 t37:=Tryz.underlying39
 a37:=Tryz.isAgg39
 z37:=Tryz.sizeOf39
 v37:=Tryz.zeroValue39
 t70:=Tryz.underlying58
 a70:=Tryz.isAgg58
 z70:=Tryz.sizeOf58
 v70:=Tryz.zeroValue58
 t72:=Tryz.underlying60
 a72:=Tryz.isAgg60
 z72:=Tryz.sizeOf60
 v72:=Tryz.zeroValue60
 t75:=Tryz.underlying62
 a75:=Tryz.isAgg62
 z75:=Tryz.sizeOf62
 v75:=Tryz.zeroValue62
 t164:=Tryz.underlying146
 a164:=Tryz.isAgg146
 z164:=Tryz.sizeOf146
 v164:=Tryz.zeroValue146}
def Tryz.CW:Go.Proofs.Lays.n167 Tryz.prog Tryz.Jn:={
 mixed:=by kernel_rfl
 f167:=Tryz.func144.trans (congrArg some (by kernel_rfl))
 f240:=Tryz.func55.trans (congrArg some (by kernel_rfl))
 f276:=Tryz.func93.trans (congrArg some (by kernel_rfl))
 t0:=Tryz.underlying0
 a0:=Tryz.isAgg0
 z0:=Tryz.sizeOf0
 v0:=Tryz.zeroValue0
 t4:=Tryz.underlying4
 a4:=Tryz.isAgg4
 z4:=Tryz.sizeOf4
 v4:=Tryz.zeroValue4
 t5:=Tryz.underlying5
 a5:=Tryz.isAgg5
 z5:=Tryz.sizeOf5
 v5:=Tryz.zeroValue5
 t9:=Tryz.underlying9
 a9:=Tryz.isAgg9
 z9:=Tryz.sizeOf9
 v9:=Tryz.zeroValue9
 t20:=Tryz.underlying20
 a20:=Tryz.isAgg20
 z20:=Tryz.sizeOf20
 v20:=Tryz.zeroValue20
 t37:=Tryz.underlying39
 a37:=Tryz.isAgg39
 z37:=Tryz.sizeOf39
 v37:=Tryz.zeroValue39
 t70:=Tryz.underlying58
 a70:=Tryz.isAgg58
 z70:=Tryz.sizeOf58
 v70:=Tryz.zeroValue58
 t72:=Tryz.underlying60
 a72:=Tryz.isAgg60
 z72:=Tryz.sizeOf60
 v72:=Tryz.zeroValue60
 t75:=Tryz.underlying62
 a75:=Tryz.isAgg62
 z75:=Tryz.sizeOf62
 v75:=Tryz.zeroValue62
 t164:=Tryz.underlying146
 a164:=Tryz.isAgg146
 z164:=Tryz.sizeOf146
 v164:=Tryz.zeroValue146}
def Tryz.CX:Go.Proofs.Lays.n169 Tryz.prog Tryz.Jn:={
 mixed:=by kernel_rfl
 f169:=Tryz.func24.trans (congrArg some (by kernel_rfl))
 t0:=Tryz.underlying0
 a0:=Tryz.isAgg0
 z0:=Tryz.sizeOf0
 v0:=Tryz.zeroValue0
 t3:=Tryz.underlying3
 a3:=Tryz.isAgg3
 z3:=Tryz.sizeOf3
 v3:=Tryz.zeroValue3
 t9:=Tryz.underlying9
 a9:=Tryz.isAgg9
 z9:=Tryz.sizeOf9
 v9:=Tryz.zeroValue9
 t37:=Tryz.underlying39
 a37:=Tryz.isAgg39
 z37:=Tryz.sizeOf39
 v37:=Tryz.zeroValue39
 t70:=Tryz.underlying58
 a70:=Tryz.isAgg58
 z70:=Tryz.sizeOf58
 v70:=Tryz.zeroValue58
 t72:=Tryz.underlying60
 a72:=Tryz.isAgg60
 z72:=Tryz.sizeOf60
 v72:=Tryz.zeroValue60
 t127:=Tryz.underlying104
 a127:=Tryz.isAgg104
 z127:=Tryz.sizeOf104
 v127:=Tryz.zeroValue104}
def Tryz.Mq:Builder.Extra Tryz.prog Tryz.Jn:={
 sizeBuilder:=by kernel_rfl
 liesBuilder:=by kernel_rfl
 t5:=Tryz.underlying5
 a5:=Tryz.isAgg5
 z5:=Tryz.sizeOf5
 v5:=Tryz.zeroValue5
 infoByte:=by kernel_rfl
 cellsByte:=by kernel_rfl
 sizeByte:=by kernel_rfl
 neB5:=by decide}
end Go.Proofs
end
section
namespace Go.Proofs
open Go.Shelf
def Tryz.lays156_ren:Go.Shelf.Ren:=⟨fun|156=>35|165=>71|166=>21|169=>24|240=>55|241=>118|276=>93|277=>163|n=>n,fun|31=>68|9=>9|3=>3|4=>4|0=>0|20=>20|72=>60|76=>63|70=>58|37=>39|75=>62|127=>104|164=>146|5=>5|80=>67|n=>n,fun|n=>n⟩
def Tryz.lays156:Go.Proofs.Lays.n156 Tryz.prog Tryz.lays156_ren:={
 mixed:=by kernel_rfl
 f156:=Tryz.func35.trans (congrArg some (by kernel_rfl))
 f165:=Tryz.func71.trans (congrArg some (by kernel_rfl))
 f166:=Tryz.func21.trans (congrArg some (by kernel_rfl))
 f169:=Tryz.func24.trans (congrArg some (by kernel_rfl))
 f240:=Tryz.func55.trans (congrArg some (by kernel_rfl))
 f241:=Tryz.func118.trans (congrArg some (by kernel_rfl))
 f276:=Tryz.func93.trans (congrArg some (by kernel_rfl))
 f277:=Tryz.func163.trans (congrArg some (by kernel_rfl))
 t0:=Tryz.underlying0
 a0:=Tryz.isAgg0
 z0:=Tryz.sizeOf0
 v0:=Tryz.zeroValue0
 t3:=Tryz.underlying3
 a3:=Tryz.isAgg3
 z3:=Tryz.sizeOf3
 v3:=Tryz.zeroValue3
 t4:=Tryz.underlying4
 a4:=Tryz.isAgg4
 z4:=Tryz.sizeOf4
 v4:=Tryz.zeroValue4
 t9:=Tryz.underlying9
 a9:=Tryz.isAgg9
 z9:=Tryz.sizeOf9
 v9:=Tryz.zeroValue9
 t20:=Tryz.underlying20
 a20:=Tryz.isAgg20
 z20:=Tryz.sizeOf20
 v20:=Tryz.zeroValue20
 t31:=Tryz.underlying68
 a31:=Tryz.isAgg68
 z31:=Tryz.sizeOf68
 v31:=Tryz.zeroValue68
 t37:=Tryz.underlying39
 a37:=Tryz.isAgg39
 z37:=Tryz.sizeOf39
 v37:=Tryz.zeroValue39
 t70:=Tryz.underlying58
 a70:=Tryz.isAgg58
 z70:=Tryz.sizeOf58
 v70:=Tryz.zeroValue58
 t72:=Tryz.underlying60
 a72:=Tryz.isAgg60
 z72:=Tryz.sizeOf60
 v72:=Tryz.zeroValue60
 t75:=Tryz.underlying62
 a75:=Tryz.isAgg62
 z75:=Tryz.sizeOf62
 v75:=Tryz.zeroValue62
 t76:=Tryz.underlying63
 a76:=Tryz.isAgg63
 z76:=Tryz.sizeOf63
 v76:=Tryz.zeroValue63
 t127:=Tryz.underlying104
 a127:=Tryz.isAgg104
 z127:=Tryz.sizeOf104
 v127:=Tryz.zeroValue104
 t164:=Tryz.underlying146
 a164:=Tryz.isAgg146
 z164:=Tryz.sizeOf146
 v164:=Tryz.zeroValue146}
def Tryz.Builder_Extra_156:Builder.Extra Tryz.prog Tryz.lays156_ren:={
 sizeBuilder:=by kernel_rfl
 liesBuilder:=by kernel_rfl
 t5:=Tryz.underlying5
 a5:=Tryz.isAgg5
 z5:=Tryz.sizeOf5
 v5:=Tryz.zeroValue5
 infoByte:=by kernel_rfl
 cellsByte:=by kernel_rfl
 sizeByte:=by kernel_rfl
 neB5:=by decide}
open Go.RowKit in
theorem Tryz.strings_Join_none (a:Option Addr)(c:Nat)(sep:ByteArray)(w:World):
  Calls Tryz.prog 35 #[.slice a 0 c,.string sep] w fun e w'=>e=.returned (.string ⟨#[]⟩)∧w'=w:=Any.strings_Join_none Tryz.lays156 Tryz.Builder_Extra_156 a c sep w
open Go.RowKit in
theorem Tryz.strings_Join (bk o c:Nat)(xs:List ByteArray)(sep:ByteArray)(w:World)(hcells:∀(j:Nat) x,xs[j]? =some x→w.cell? ⟨bk,o+j,none⟩=some (.string x))(hbk:bk<w.heap.size)(hN:xs.length≤140737488355328)(hcap:xs.length≤c)(hlen:(Lib.join (xs.map (·.data.toList)) sep.data.toList).length≤140737488355328):
  Calls Tryz.prog 35 #[.slice (some ⟨bk,o,none⟩) xs.length c,.string sep] w fun e w'=>e=.returned (.string ⟨(Lib.join (xs.map (·.data.toList)) sep.data.toList).toArray⟩)∧Below w.heap.size w w':=Any.strings_Join Tryz.lays156 Tryz.Builder_Extra_156 bk o c xs sep w hcells hbk hN hcap hlen
def Tryz.lays160_ren:Go.Shelf.Ren:=⟨fun|160=>208|232=>231|231=>230|227=>232|234=>234|233=>233|236=>236|235=>235|228=>258|271=>260|151=>259|197=>196|120=>275|152=>274|260=>223|137=>286|119=>287|224=>200|225=>199|217=>198|266=>224|n=>n,fun|9=>9|4=>4|3=>3|5=>5|117=>247|116=>246|0=>0|124=>250|21=>21|105=>221|46=>105|119=>260|139=>263|138=>262|n=>n,fun|3=>1|4=>2|n=>n⟩
def Tryz.lays160:Go.Proofs.Lays.n160 Tryz.prog Tryz.lays160_ren:={
 mixed:=by kernel_rfl
 f119:=Tryz.func287.trans (congrArg some (by kernel_rfl))
 f120:=Tryz.func275.trans (congrArg some (by kernel_rfl))
 f137:=Tryz.func286.trans (congrArg some (by kernel_rfl))
 f151:=Tryz.func259.trans (congrArg some (by kernel_rfl))
 f152:=Tryz.func274.trans (congrArg some (by kernel_rfl))
 f160:=Tryz.func208.trans (congrArg some (by kernel_rfl))
 f197:=Tryz.func196.trans (congrArg some (by kernel_rfl))
 f217:=Tryz.func198.trans (congrArg some (by kernel_rfl))
 f224:=Tryz.func200.trans (congrArg some (by kernel_rfl))
 f225:=Tryz.func199.trans (congrArg some (by kernel_rfl))
 f227:=Tryz.func232.trans (congrArg some (by kernel_rfl))
 f228:=Tryz.func258.trans (congrArg some (by kernel_rfl))
 f231:=Tryz.func230.trans (congrArg some (by kernel_rfl))
 f232:=Tryz.func231.trans (congrArg some (by kernel_rfl))
 f233:=Tryz.func233.trans (congrArg some (by kernel_rfl))
 f234:=Tryz.func234.trans (congrArg some (by kernel_rfl))
 f235:=Tryz.func235.trans (congrArg some (by kernel_rfl))
 f236:=Tryz.func236.trans (congrArg some (by kernel_rfl))
 f260:=Tryz.func223.trans (congrArg some (by kernel_rfl))
 f266:=Tryz.func224.trans (congrArg some (by kernel_rfl))
 f271:=Tryz.func260.trans (congrArg some (by kernel_rfl))
 t0:=Tryz.underlying0
 a0:=Tryz.isAgg0
 z0:=Tryz.sizeOf0
 v0:=Tryz.zeroValue0
 t3:=Tryz.underlying3
 a3:=Tryz.isAgg3
 z3:=Tryz.sizeOf3
 v3:=Tryz.zeroValue3
 t4:=Tryz.underlying4
 a4:=Tryz.isAgg4
 z4:=Tryz.sizeOf4
 v4:=Tryz.zeroValue4
 t5:=Tryz.underlying5
 a5:=Tryz.isAgg5
 z5:=Tryz.sizeOf5
 v5:=Tryz.zeroValue5
 t9:=Tryz.underlying9
 a9:=Tryz.isAgg9
 z9:=Tryz.sizeOf9
 v9:=Tryz.zeroValue9
 t21:=Tryz.underlying21
 a21:=Tryz.isAgg21
 z21:=Tryz.sizeOf21
 v21:=Tryz.zeroValue21
 t46:=Tryz.underlying105
 a46:=Tryz.isAgg105
 z46:=Tryz.sizeOf105
 v46:=Tryz.zeroValue105
 t105:=Tryz.underlying221
 a105:=Tryz.isAgg221
 z105:=Tryz.sizeOf221
 v105:=Tryz.zeroValue221
 t116:=Tryz.underlying246
 a116:=Tryz.isAgg246
 z116:=Tryz.sizeOf246
 t117:=Tryz.underlying247
 a117:=Tryz.isAgg247
 z117:=Tryz.sizeOf247
 v117:=Tryz.zeroValue247
 t119:=Tryz.underlying260
 a119:=Tryz.isAgg260
 z119:=Tryz.sizeOf260
 t124:=Tryz.underlying250
 a124:=Tryz.isAgg250
 z124:=Tryz.sizeOf250
 v124:=Tryz.zeroValue250
 t138:=Tryz.underlying262
 a138:=Tryz.isAgg262
 z138:=Tryz.sizeOf262
 v138:=Tryz.zeroValue262
 t139:=Tryz.underlying263
 a139:=Tryz.isAgg263
 z139:=Tryz.sizeOf263
 v139:=Tryz.zeroValue263
 g3:=by kernel_rfl
 g4:=by kernel_rfl}
open Go.RowKit in
theorem Tryz.strings_Trim_one (s:ByteArray)(c:UInt8)(hc:c.toNat<128)(w:World)(hs:s.size≤9223372036854775807):
  Calls Tryz.prog 208 #[.string s,.string ⟨#[c]⟩] w fun e w'=>e=.returned (.string ⟨(Lib.trimB s.data.toList c).toArray⟩)∧(w'=w∨w'=w.drew):=Any.strings_Trim_one Tryz.lays160 s c hc w hs
def Tryz.lays103_ren:Go.Shelf.Ren:=⟨fun|103=>30|210=>66|206=>112|n=>n,fun|9=>9|4=>4|24=>70|3=>3|n=>n,fun|n=>n⟩
def Tryz.lays103:Go.Proofs.Lays.n103 Tryz.prog Tryz.lays103_ren:={
 mixed:=by kernel_rfl
 f103:=Tryz.func30.trans (congrArg some (by kernel_rfl))
 f206:=Tryz.func112.trans (congrArg some (by kernel_rfl))
 f210:=Tryz.func66.trans (congrArg some (by kernel_rfl))
 t3:=Tryz.underlying3
 a3:=Tryz.isAgg3
 z3:=Tryz.sizeOf3
 v3:=Tryz.zeroValue3
 t4:=Tryz.underlying4
 a4:=Tryz.isAgg4
 z4:=Tryz.sizeOf4
 v4:=Tryz.zeroValue4
 t9:=Tryz.underlying9
 a9:=Tryz.isAgg9
 z9:=Tryz.sizeOf9
 v9:=Tryz.zeroValue9
 t24:=Tryz.underlying70
 a24:=Tryz.isAgg70
 z24:=Tryz.sizeOf70
 v24:=Tryz.zeroValue70}
open Go.RowKit in
theorem Tryz.strings_CutPrefix (s p:ByteArray)(w:World):
  Calls Tryz.prog 30 #[.string s,.string p] w fun e w'=>e=.returned (.tuple #[.string ⟨(Lib.trimPrefix s.data.toList p.data.toList).toArray⟩,.bool (Lib.hasPrefix s.data.toList p.data.toList)])∧w'=w:=Any.strings_CutPrefix Tryz.lays103 s p w
def Tryz.lays104_ren:Go.Shelf.Ren:=⟨fun|104=>65|211=>111|207=>157|n=>n,fun|9=>9|4=>4|24=>70|3=>3|n=>n,fun|n=>n⟩
def Tryz.lays104:Go.Proofs.Lays.n104 Tryz.prog Tryz.lays104_ren:={
 mixed:=by kernel_rfl
 f104:=Tryz.func65.trans (congrArg some (by kernel_rfl))
 f207:=Tryz.func157.trans (congrArg some (by kernel_rfl))
 f211:=Tryz.func111.trans (congrArg some (by kernel_rfl))
 t3:=Tryz.underlying3
 a3:=Tryz.isAgg3
 z3:=Tryz.sizeOf3
 v3:=Tryz.zeroValue3
 t4:=Tryz.underlying4
 a4:=Tryz.isAgg4
 z4:=Tryz.sizeOf4
 v4:=Tryz.zeroValue4
 t9:=Tryz.underlying9
 a9:=Tryz.isAgg9
 z9:=Tryz.sizeOf9
 v9:=Tryz.zeroValue9
 t24:=Tryz.underlying70
 a24:=Tryz.isAgg70
 z24:=Tryz.sizeOf70
 v24:=Tryz.zeroValue70}
open Go.RowKit in
theorem Tryz.strings_CutSuffix (s p:ByteArray)(w:World)(hs:s.size≤9223372036854775807):
  Calls Tryz.prog 65 #[.string s,.string p] w fun e w'=>e=.returned (.tuple #[.string ⟨(Lib.trimSuffix s.data.toList p.data.toList).toArray⟩,.bool (Lib.hasSuffix s.data.toList p.data.toList)])∧w'=w:=Any.strings_CutSuffix Tryz.lays104 s p w hs
def Tryz.lays215_ren:Go.Shelf.Ren:=⟨fun|215=>164|n=>n,fun|3=>3|4=>4|n=>n,fun|n=>n⟩
def Tryz.lays215:Go.Proofs.Lays.n215 Tryz.prog Tryz.lays215_ren:={
 mixed:=by kernel_rfl
 f215:=Tryz.func164.trans (congrArg some (by kernel_rfl))
 t3:=Tryz.underlying3
 a3:=Tryz.isAgg3
 z3:=Tryz.sizeOf3
 v3:=Tryz.zeroValue3
 t4:=Tryz.underlying4
 a4:=Tryz.isAgg4
 z4:=Tryz.sizeOf4
 v4:=Tryz.zeroValue4}
open Go.RowKit in
theorem Tryz.cmp_isNaN_int (x:Int)(w:World):
  Calls Tryz.prog 164 #[.int .i64 x] w fun e w'=>e=.returned (.bool false)∧w'=w:=Any.cmp_isNaN_int Tryz.lays215 x w
def Tryz.lays122_ren:Go.Shelf.Ren:=⟨fun|122=>121|215=>164|n=>n,fun|3=>3|4=>4|n=>n,fun|n=>n⟩
def Tryz.lays122:Go.Proofs.Lays.n122 Tryz.prog Tryz.lays122_ren:={
 mixed:=by kernel_rfl
 f122:=Tryz.func121.trans (congrArg some (by kernel_rfl))
 f215:=Tryz.func164.trans (congrArg some (by kernel_rfl))
 t3:=Tryz.underlying3
 a3:=Tryz.isAgg3
 z3:=Tryz.sizeOf3
 v3:=Tryz.zeroValue3
 t4:=Tryz.underlying4
 a4:=Tryz.isAgg4
 z4:=Tryz.sizeOf4
 v4:=Tryz.zeroValue4}
open Go.RowKit in
theorem Tryz.cmp_Compare_int (x y:Int)(w:World):
  Calls Tryz.prog 121 #[.int .i64 x,.int .i64 y] w fun e w'=>e=.returned (.int .i64 (Lib.compareInt x y))∧w'=w:=Any.cmp_Compare_int Tryz.lays122 x y w
def Tryz.laysM171_ren:Go.Shelf.Ren:=⟨fun|171=>183|243=>215|246=>245|283=>262|284=>263|285=>264|286=>265|129=>277|317=>276|318=>278|319=>279|320=>280|337=>288|338=>289|n=>n,fun|3=>3|9=>9|2=>2|4=>4|171=>265|0=>0|53=>52|37=>39|5=>5|173=>268|212=>275|51=>237|20=>20|213=>276|46=>105|232=>282|233=>283|n=>n,fun|17=>3|18=>4|19=>5|n=>n⟩
def Tryz.laysM171:Go.Proofs.LaysM.n171 Tryz.prog Tryz.laysM171_ren:={
 mixed:=by kernel_rfl
 f129:=Tryz.func277.trans (congrArg some (by kernel_rfl))
 f171:=Tryz.func183.trans (congrArg some (by kernel_rfl))
 f243:=Tryz.func215.trans (congrArg some (by kernel_rfl))
 f246:=Tryz.func245.trans (congrArg some (by kernel_rfl))
 f283:=Tryz.func262.trans (congrArg some (by kernel_rfl))
 f284:=Tryz.func263.trans (congrArg some (by kernel_rfl))
 f285:=Tryz.func264.trans (congrArg some (by kernel_rfl))
 f286:=Tryz.func265.trans (congrArg some (by kernel_rfl))
 f317:=Tryz.func276.trans (congrArg some (by kernel_rfl))
 f318:=Tryz.func278.trans (congrArg some (by kernel_rfl))
 f319:=Tryz.func279.trans (congrArg some (by kernel_rfl))
 f320:=Tryz.func280.trans (congrArg some (by kernel_rfl))
 f337:=Tryz.func288.trans (congrArg some (by kernel_rfl))
 f338:=Tryz.func289.trans (congrArg some (by kernel_rfl))
 t0:=Tryz.underlying0
 a0:=Tryz.isAgg0
 z0:=Tryz.sizeOf0
 v0:=Tryz.zeroValue0
 t2:=Tryz.underlying2
 a2:=Tryz.isAgg2
 z2:=Tryz.sizeOf2
 v2:=Tryz.zeroValue2
 t3:=Tryz.underlying3
 a3:=Tryz.isAgg3
 z3:=Tryz.sizeOf3
 v3:=Tryz.zeroValue3
 t4:=Tryz.underlying4
 a4:=Tryz.isAgg4
 z4:=Tryz.sizeOf4
 v4:=Tryz.zeroValue4
 t5:=Tryz.underlying5
 a5:=Tryz.isAgg5
 z5:=Tryz.sizeOf5
 v5:=Tryz.zeroValue5
 t9:=Tryz.underlying9
 a9:=Tryz.isAgg9
 z9:=Tryz.sizeOf9
 v9:=Tryz.zeroValue9
 t20:=Tryz.underlying20
 a20:=Tryz.isAgg20
 z20:=Tryz.sizeOf20
 v20:=Tryz.zeroValue20
 t37:=Tryz.underlying39
 a37:=Tryz.isAgg39
 z37:=Tryz.sizeOf39
 v37:=Tryz.zeroValue39
 t46:=Tryz.underlying105
 a46:=Tryz.isAgg105
 z46:=Tryz.sizeOf105
 v46:=Tryz.zeroValue105
 t51:=Tryz.underlying237
 a51:=Tryz.isAgg237
 z51:=Tryz.sizeOf237
 v51:=Tryz.zeroValue237
 t53:=Tryz.underlying52
 a53:=Tryz.isAgg52
 z53:=Tryz.sizeOf52
 v53:=Tryz.zeroValue52
 t171:=Tryz.underlying265
 a171:=Tryz.isAgg265
 z171:=Tryz.sizeOf265
 v171:=Tryz.zeroValue265
 t173:=Tryz.underlying268
 a173:=Tryz.isAgg268
 z173:=Tryz.sizeOf268
 v173:=Tryz.zeroValue268
 t212:=Tryz.underlying275
 a212:=Tryz.isAgg275
 z212:=Tryz.sizeOf275
 v212:=Tryz.zeroValue275
 t213:=Tryz.underlying276
 a213:=Tryz.isAgg276
 z213:=Tryz.sizeOf276
 t232:=Tryz.underlying282
 a232:=Tryz.isAgg282
 z232:=Tryz.sizeOf282
 v232:=Tryz.zeroValue282
 t233:=Tryz.underlying283
 a233:=Tryz.isAgg283
 z233:=Tryz.sizeOf283
 v233:=Tryz.zeroValue283
 g17:=by kernel_rfl
 g18:=by kernel_rfl
 g19:=by kernel_rfl
 i0:=by kernel_rfl
 i2:=by kernel_rfl
 i3:=by kernel_rfl
 i4:=by kernel_rfl
 i5:=by kernel_rfl
 i9:=by kernel_rfl
 i20:=by kernel_rfl
 i37:=by kernel_rfl
 i46:=by kernel_rfl
 i51:=by kernel_rfl
 i53:=by kernel_rfl
 i171:=by kernel_rfl
 i173:=by kernel_rfl
 i212:=by kernel_rfl
 i232:=by kernel_rfl
 i233:=by kernel_rfl
 m17:=by kernel_rfl
 m18:=by kernel_rfl
 m19:=by kernel_rfl}
open Go.RowKit Go.Sort Go.Lib in
theorem Tryz.strconv_Itoa (n:Int)(h0:-9223372036854775808≤n)(h1:n≤9223372036854775807)(w:World)(htab:Lib.TabIs Tryz.prog w "internal/strconv.uint64pow10" .u64 Lib.pow10Tab):
  Calls Tryz.prog 183 #[.int .i64 n] w fun e w'=>e=.returned (.string ⟨(Lib.itoa n).toArray⟩)∧∃k os,w'=grow (w.drewN k) os:=Any.strconv_Itoa Tryz.laysM171 n h0 h1 w htab
def Tryz.lays145_ren:Go.Shelf.Ren:=⟨fun|145=>69|220=>113|219=>158|217=>198|225=>199|224=>200|267=>201|266=>224|314=>225|n=>n,fun|9=>9|4=>4|59=>109|3=>3|5=>5|46=>105|146=>238|51=>237|n=>n,fun|1=>0|n=>n⟩
def Tryz.lays145:Go.Proofs.Lays.n145 Tryz.prog Tryz.lays145_ren:={
 mixed:=by kernel_rfl
 f145:=Tryz.func69.trans (congrArg some (by kernel_rfl))
 f217:=Tryz.func198.trans (congrArg some (by kernel_rfl))
 f219:=Tryz.func158.trans (congrArg some (by kernel_rfl))
 f220:=Tryz.func113.trans (congrArg some (by kernel_rfl))
 f224:=Tryz.func200.trans (congrArg some (by kernel_rfl))
 f225:=Tryz.func199.trans (congrArg some (by kernel_rfl))
 f266:=Tryz.func224.trans (congrArg some (by kernel_rfl))
 f267:=Tryz.func201.trans (congrArg some (by kernel_rfl))
 f314:=Tryz.func225.trans (congrArg some (by kernel_rfl))
 t3:=Tryz.underlying3
 a3:=Tryz.isAgg3
 z3:=Tryz.sizeOf3
 v3:=Tryz.zeroValue3
 t4:=Tryz.underlying4
 a4:=Tryz.isAgg4
 z4:=Tryz.sizeOf4
 v4:=Tryz.zeroValue4
 t5:=Tryz.underlying5
 a5:=Tryz.isAgg5
 z5:=Tryz.sizeOf5
 v5:=Tryz.zeroValue5
 t9:=Tryz.underlying9
 a9:=Tryz.isAgg9
 z9:=Tryz.sizeOf9
 v9:=Tryz.zeroValue9
 t46:=Tryz.underlying105
 a46:=Tryz.isAgg105
 z46:=Tryz.sizeOf105
 v46:=Tryz.zeroValue105
 t51:=Tryz.underlying237
 a51:=Tryz.isAgg237
 z51:=Tryz.sizeOf237
 v51:=Tryz.zeroValue237
 t59:=Tryz.underlying109
 a59:=Tryz.isAgg109
 z59:=Tryz.sizeOf109
 v59:=Tryz.zeroValue109
 t146:=Tryz.underlying238
 a146:=Tryz.isAgg238
 z146:=Tryz.sizeOf238
 v146:=Tryz.zeroValue238
 g1:=by kernel_rfl}
open Go.RowKit Go.Lib in
theorem Tryz.strings_Cut (s sep:ByteArray)(m:Int)(w:World)(hs:s.size<4294967281)(hm:w.cell? ⟨0,0,none⟩=some (.int .i64 m)):
  Calls Tryz.prog 69 #[.string s,.string sep] w fun e w'=>e=.returned (.tuple #[.string ⟨(Lib.cut s.data.toList sep.data.toList).1.toArray⟩,.string ⟨(Lib.cut s.data.toList sep.data.toList).2.1.toArray⟩,.bool (Lib.cut s.data.toList sep.data.toList).2.2])∧∃n,w'=w.drewN n:=Any.strings_Cut Tryz.lays145 s sep m w hs hm
def Tryz.laysM219_ren:Go.Shelf.Ren:=⟨fun|219=>158|217=>198|225=>199|224=>200|267=>201|266=>224|314=>225|n=>n,fun|9=>9|3=>3|4=>4|5=>5|46=>105|146=>238|51=>237|n=>n,fun|1=>0|n=>n⟩
def Tryz.laysM219:Go.Proofs.LaysM.n219 Tryz.prog Tryz.laysM219_ren:={
 mixed:=by kernel_rfl
 f217:=Tryz.func198.trans (congrArg some (by kernel_rfl))
 f219:=Tryz.func158.trans (congrArg some (by kernel_rfl))
 f224:=Tryz.func200.trans (congrArg some (by kernel_rfl))
 f225:=Tryz.func199.trans (congrArg some (by kernel_rfl))
 f266:=Tryz.func224.trans (congrArg some (by kernel_rfl))
 f267:=Tryz.func201.trans (congrArg some (by kernel_rfl))
 f314:=Tryz.func225.trans (congrArg some (by kernel_rfl))
 t3:=Tryz.underlying3
 a3:=Tryz.isAgg3
 z3:=Tryz.sizeOf3
 v3:=Tryz.zeroValue3
 t4:=Tryz.underlying4
 a4:=Tryz.isAgg4
 z4:=Tryz.sizeOf4
 v4:=Tryz.zeroValue4
 t5:=Tryz.underlying5
 a5:=Tryz.isAgg5
 z5:=Tryz.sizeOf5
 v5:=Tryz.zeroValue5
 t9:=Tryz.underlying9
 a9:=Tryz.isAgg9
 z9:=Tryz.sizeOf9
 v9:=Tryz.zeroValue9
 t46:=Tryz.underlying105
 a46:=Tryz.isAgg105
 z46:=Tryz.sizeOf105
 v46:=Tryz.zeroValue105
 t51:=Tryz.underlying237
 a51:=Tryz.isAgg237
 z51:=Tryz.sizeOf237
 v51:=Tryz.zeroValue237
 t146:=Tryz.underlying238
 a146:=Tryz.isAgg238
 z146:=Tryz.sizeOf238
 v146:=Tryz.zeroValue238
 g1:=by kernel_rfl
 i3:=by kernel_rfl
 i4:=by kernel_rfl
 i5:=by kernel_rfl
 i9:=by kernel_rfl
 i46:=by kernel_rfl
 i51:=by kernel_rfl
 i146:=by kernel_rfl
 m1:=by kernel_rfl
 s1_3:=fun w h=>Go.Proofs.cell_of_shapedOpen_int (zero:=#[.int .i64 0]) (t:=3) h (of_decide_eq_true (by kernel_rfl)) (by kernel_rfl) rfl (by kernel_rfl) (by kernel_rfl) Tryz.underlying3}
def Tryz.lays221_ren:Go.Shelf.Ren:=⟨fun|221=>110|268=>154|138=>155|143=>156|195=>195|197=>196|218=>197|219=>158|260=>223|217=>198|225=>199|224=>200|267=>201|266=>224|314=>225|n=>n,fun|9=>9|3=>3|31=>68|4=>4|0=>0|105=>221|21=>21|5=>5|46=>105|119=>260|139=>263|138=>262|146=>238|51=>237|n=>n,fun|1=>0|3=>1|4=>2|n=>n⟩
def Tryz.lays221:Go.Proofs.Lays.n221 Tryz.prog Tryz.lays221_ren:={
 mixed:=by kernel_rfl
 f138:=Tryz.func155.trans (congrArg some (by kernel_rfl))
 f143:=Tryz.func156.trans (congrArg some (by kernel_rfl))
 f195:=Tryz.func195.trans (congrArg some (by kernel_rfl))
 f197:=Tryz.func196.trans (congrArg some (by kernel_rfl))
 f217:=Tryz.func198.trans (congrArg some (by kernel_rfl))
 f218:=Tryz.func197.trans (congrArg some (by kernel_rfl))
 f219:=Tryz.func158.trans (congrArg some (by kernel_rfl))
 f221:=Tryz.func110.trans (congrArg some (by kernel_rfl))
 f224:=Tryz.func200.trans (congrArg some (by kernel_rfl))
 f225:=Tryz.func199.trans (congrArg some (by kernel_rfl))
 f260:=Tryz.func223.trans (congrArg some (by kernel_rfl))
 f266:=Tryz.func224.trans (congrArg some (by kernel_rfl))
 f267:=Tryz.func201.trans (congrArg some (by kernel_rfl))
 f268:=Tryz.func154.trans (congrArg some (by kernel_rfl))
 f314:=Tryz.func225.trans (congrArg some (by kernel_rfl))
 t0:=Tryz.underlying0
 a0:=Tryz.isAgg0
 z0:=Tryz.sizeOf0
 v0:=Tryz.zeroValue0
 t3:=Tryz.underlying3
 a3:=Tryz.isAgg3
 z3:=Tryz.sizeOf3
 v3:=Tryz.zeroValue3
 t4:=Tryz.underlying4
 a4:=Tryz.isAgg4
 z4:=Tryz.sizeOf4
 v4:=Tryz.zeroValue4
 t5:=Tryz.underlying5
 a5:=Tryz.isAgg5
 z5:=Tryz.sizeOf5
 v5:=Tryz.zeroValue5
 t9:=Tryz.underlying9
 a9:=Tryz.isAgg9
 z9:=Tryz.sizeOf9
 v9:=Tryz.zeroValue9
 t21:=Tryz.underlying21
 a21:=Tryz.isAgg21
 z21:=Tryz.sizeOf21
 v21:=Tryz.zeroValue21
 t31:=Tryz.underlying68
 a31:=Tryz.isAgg68
 z31:=Tryz.sizeOf68
 v31:=Tryz.zeroValue68
 t46:=Tryz.underlying105
 a46:=Tryz.isAgg105
 z46:=Tryz.sizeOf105
 v46:=Tryz.zeroValue105
 t51:=Tryz.underlying237
 a51:=Tryz.isAgg237
 z51:=Tryz.sizeOf237
 v51:=Tryz.zeroValue237
 t105:=Tryz.underlying221
 a105:=Tryz.isAgg221
 z105:=Tryz.sizeOf221
 v105:=Tryz.zeroValue221
 t119:=Tryz.underlying260
 a119:=Tryz.isAgg260
 z119:=Tryz.sizeOf260
 t138:=Tryz.underlying262
 a138:=Tryz.isAgg262
 z138:=Tryz.sizeOf262
 v138:=Tryz.zeroValue262
 t139:=Tryz.underlying263
 a139:=Tryz.isAgg263
 z139:=Tryz.sizeOf263
 v139:=Tryz.zeroValue263
 t146:=Tryz.underlying238
 a146:=Tryz.isAgg238
 z146:=Tryz.sizeOf238
 v146:=Tryz.zeroValue238
 g1:=by kernel_rfl
 g3:=by kernel_rfl
 g4:=by kernel_rfl}
open Go.RowKit Go.Lib in
theorem Tryz.strings_genSplit (s sep:ByteArray)(sv:Nat)(n:Int)(N:Nat)(m:Int)(w:World)(hs:s.size<4294967281)(hm:w.cell? ⟨0,0,none⟩=some (.int .i64 m))(h1:1≤sep.size)(hsv:sv≤sep.size)(hn0:n≠0)(hn63:n≤9223372036854775807)(hN:(N:Int)=min (if n<0 then(Lib.countB s sep:Int)+1 else n) ((s.size:Int)+1)):
  Calls Tryz.prog 110 #[.string s,.string sep,.int .i64 sv,.int .i64 n] w fun e w'=>
   e=.returned (.slice (some ⟨w.heap.size,0,none⟩) (Lib.splitB sep sv (N-1) s).length N)∧w'=w.alloc (.cells (Lib.cellsOf (Lib.splitB sep sv (N-1) s) N) 9):=Any.strings_genSplit Tryz.lays221 (by kernel_rfl) s sep sv n N m w hs hm h1 hsv hn0 hn63 hN
def Tryz.lays146_ren:Go.Shelf.Ren:=⟨fun|146=>67|221=>110|268=>154|138=>155|143=>156|195=>195|197=>196|218=>197|219=>158|260=>223|217=>198|225=>199|224=>200|267=>201|266=>224|314=>225|n=>n,fun|9=>9|31=>68|3=>3|4=>4|0=>0|105=>221|21=>21|5=>5|46=>105|119=>260|139=>263|138=>262|146=>238|51=>237|n=>n,fun|1=>0|3=>1|4=>2|n=>n⟩
def Tryz.lays146:Go.Proofs.Lays.n146 Tryz.prog Tryz.lays146_ren:={
 mixed:=by kernel_rfl
 f138:=Tryz.func155.trans (congrArg some (by kernel_rfl))
 f143:=Tryz.func156.trans (congrArg some (by kernel_rfl))
 f146:=Tryz.func67.trans (congrArg some (by kernel_rfl))
 f195:=Tryz.func195.trans (congrArg some (by kernel_rfl))
 f197:=Tryz.func196.trans (congrArg some (by kernel_rfl))
 f217:=Tryz.func198.trans (congrArg some (by kernel_rfl))
 f218:=Tryz.func197.trans (congrArg some (by kernel_rfl))
 f219:=Tryz.func158.trans (congrArg some (by kernel_rfl))
 f221:=Tryz.func110.trans (congrArg some (by kernel_rfl))
 f224:=Tryz.func200.trans (congrArg some (by kernel_rfl))
 f225:=Tryz.func199.trans (congrArg some (by kernel_rfl))
 f260:=Tryz.func223.trans (congrArg some (by kernel_rfl))
 f266:=Tryz.func224.trans (congrArg some (by kernel_rfl))
 f267:=Tryz.func201.trans (congrArg some (by kernel_rfl))
 f268:=Tryz.func154.trans (congrArg some (by kernel_rfl))
 f314:=Tryz.func225.trans (congrArg some (by kernel_rfl))
 t0:=Tryz.underlying0
 a0:=Tryz.isAgg0
 z0:=Tryz.sizeOf0
 v0:=Tryz.zeroValue0
 t3:=Tryz.underlying3
 a3:=Tryz.isAgg3
 z3:=Tryz.sizeOf3
 v3:=Tryz.zeroValue3
 t4:=Tryz.underlying4
 a4:=Tryz.isAgg4
 z4:=Tryz.sizeOf4
 v4:=Tryz.zeroValue4
 t5:=Tryz.underlying5
 a5:=Tryz.isAgg5
 z5:=Tryz.sizeOf5
 v5:=Tryz.zeroValue5
 t9:=Tryz.underlying9
 a9:=Tryz.isAgg9
 z9:=Tryz.sizeOf9
 v9:=Tryz.zeroValue9
 t21:=Tryz.underlying21
 a21:=Tryz.isAgg21
 z21:=Tryz.sizeOf21
 v21:=Tryz.zeroValue21
 t31:=Tryz.underlying68
 a31:=Tryz.isAgg68
 z31:=Tryz.sizeOf68
 v31:=Tryz.zeroValue68
 t46:=Tryz.underlying105
 a46:=Tryz.isAgg105
 z46:=Tryz.sizeOf105
 v46:=Tryz.zeroValue105
 t51:=Tryz.underlying237
 a51:=Tryz.isAgg237
 z51:=Tryz.sizeOf237
 v51:=Tryz.zeroValue237
 t105:=Tryz.underlying221
 a105:=Tryz.isAgg221
 z105:=Tryz.sizeOf221
 v105:=Tryz.zeroValue221
 t119:=Tryz.underlying260
 a119:=Tryz.isAgg260
 z119:=Tryz.sizeOf260
 t138:=Tryz.underlying262
 a138:=Tryz.isAgg262
 z138:=Tryz.sizeOf262
 v138:=Tryz.zeroValue262
 t139:=Tryz.underlying263
 a139:=Tryz.isAgg263
 z139:=Tryz.sizeOf263
 v139:=Tryz.zeroValue263
 t146:=Tryz.underlying238
 a146:=Tryz.isAgg238
 z146:=Tryz.sizeOf238
 v146:=Tryz.zeroValue238
 g1:=by kernel_rfl
 g3:=by kernel_rfl
 g4:=by kernel_rfl}
open Go.RowKit Go.Lib in
theorem Tryz.strings_Split (s sep:ByteArray)(m:Int)(w:World)(hs:s.size<4294967281)(hm:w.cell? ⟨0,0,none⟩=some (.int .i64 m))(h1:1≤sep.size):
  Calls Tryz.prog 67 #[.string s,.string sep] w fun e w'=>
   e=.returned (.slice (some ⟨w.heap.size,0,none⟩) (Lib.countB s sep+1) (Lib.countB s sep+1))∧w'=w.alloc (.cells ((Lib.splitB sep 0 (Lib.countB s sep) s).map Value.string).toArray 9):=Any.strings_Split Tryz.lays146 (by kernel_rfl) s sep m w hs hm h1
end Go.Proofs
end
namespace Go.Abs
def E7 {s:au}(h:s.findIdx? (fun c=>c==10)=none):gC s=[s]:=by
 have hs:ar s 10=[s]:=by have:=su 10 s [] h;simpa[ar]using this
 unfold gC lnS JV;rw[hs];rfl
def HL {s:au}{j:Nat}(h:s.findIdx? (fun c=>c==10)=some j):gC s=s.take (j+1)::gC (s.drop (j+1)):=by
 have hs:ar s 10=s.take j::ar (s.drop (j+1)) 10:=by have:=qt 10 s [] j h;simpa[ar]using this
 obtain⟨h1,h2,_⟩:=List.findIdx?_eq_some_iff_getElem.1 h;have ht:s.take (j+1)=s.take j++[10]:=by
  rw[List.take_add_one,List.getElem?_eq_getElem h1];have:s[j]=10:=by simpa using h2
  simp[this]
 obtain⟨A,b,hb⟩:∃A b,ar (s.drop (j+1)) 10=A++[b]:=⟨_,_,(List.dropLast_concat_getLast (FM _ _)).symm⟩
 unfold gC lnS JV;rw[hs,hb,ht];simp
def Gp:∀(k:Nat)(s:ByteArray),Lib.countB s ⟨⟨[10]⟩⟩=k->(Lib.splitB ⟨⟨[10]⟩⟩ 1 k s).map (fun t=>t.data.toList)=gC s.data.toList:=by
 intro k;induction k with
 |zero=>
  intro s h;rw[Lib.splitB_zero];have hi:Lib.indexB s ⟨⟨[10]⟩⟩=IV (s.data.toList.findIdx? (fun c=>c==10)):=rU _ 10;cases hq:s.data.toList.findIdx? (fun c=>c==10)with
  |none=>rw[E7 hq];rfl
  |some j=>
   rw[hq]at hi;have:=Lib.countB_hit s ⟨⟨[10]⟩⟩ j (aY 1) hi;omega
 |succ k ih=>
  intro s h;have hi:Lib.indexB s ⟨⟨[10]⟩⟩=IV (s.data.toList.findIdx? (fun c=>c==10)):=rU _ 10;cases hq:s.data.toList.findIdx? (fun c=>c==10)with
  |none=>
   rw[hq]at hi;have:=Lib.countB_miss s ⟨⟨[10]⟩⟩ hi;omega
  |some j=>
   rw[hq]at hi;have hc:=Lib.countB_hit s ⟨⟨[10]⟩⟩ j (aY 1) hi;have hl:(⟨⟨[10]⟩⟩:ByteArray).size=1:=rfl;rw[Lib.splitB_hit _ _ _ _ j hi,List.map_cons,ih _ ae,HL hq,Lib.extract_from_zero,Lib.extract_to_end];rfl
def J5 (s:au):(gC s).length<=s.length+1/\∀t∈gC s,t.length<=s.length+1:=by
 have hl:=er s 10;have hp:=fR 10 s [];refine⟨?_,fun t h1=>?_⟩
 ·unfold gC;simp only[bA,cI,fU,ay,az];unfold ar at hl⊢;omega
 ·unfold gC at h1;rcases List.mem_append.1 h1 with h2|h2
  ·obtain⟨u,hu,rfl⟩:=eI.1 h2;have:=gS s 10 (oQ hu);simp;omega
  ·rw[cJ.1 h2];have h3:=nv s 10 (i:=(ar s 10).length-1) (by unfold ar;omega);exact cW h3 (Nat.le_succ _)
def FN (s:au):(Lib.trimSuffix s [10],Lib.hasSuffix s [10])=bE s:=by
 unfold Lib.trimSuffix Lib.hasSuffix bE;cases hq:s.getLast? with
 |none=>
  have:s=[]:=List.getLast?_eq_none_iff.1 hq;subst this;rfl
 |some c=>
  obtain⟨r,rfl⟩:∃r,s=r++[c]:=by
   have hne:s≠[]:=by rintro rfl;cases hq
   refine⟨s.dropLast, ?_⟩;have:=List.dropLast_concat_getLast hne;rw[List.getLast?_eq_some_getLast hne]at hq;rw[<-bC hq];exact this.symm
  have e:([10]:au).isSuffixOf (r++[c])=decide (c=10):=by
   rw[Bool.eq_iff_iff,List.isSuffixOf_iff_suffix,aR];constructor
   ·rintro⟨q,hq⟩;have:=List.append_inj_right' hq rfl;simpa using this.symm
   ·rintro rfl;exact⟨r,rfl⟩
  rw[e];by_cases h:c=10
  ·subst h;simp
  ·simp[h]
section
open Go.Proofs Go.Shelf Go.RowKit
section
variable [c7] {P:Program}
def kA (U:TypeId)(w:World)(v:Value)(s:List UInt8):Prop:=
 (v=.slice none 0 0/\s=[])\/∃g t c,v=.slice (some ⟨g,0,none⟩) s.length t/\w.heap[g]? =some (.cells c U (0,0))/\c.size=t/\t<=maxLen/\s.length<=t/\∀i,i<s.length->c.getD i undef=.int .u8 (s.getD i 0).toNat
def eD (s:List UInt8):List Value:=s.map fun b=>Value.int .u8 b.toNat
def gI (s:List UInt8):(eD s).length=s.length:=by simp[eD]
def pS (s:List UInt8)(i:Nat)(h:i<s.length):(eD s).getD i undef=.int .u8 (s.getD i 0).toNat:=by simp[eD,List.getD,h]
def tZ (s:List UInt8):∀u∈eD s,u.oneCell'=true:=by
 intro u hu;obtain⟨b,_,rfl⟩:=eI.1 hu;rfl
def Dr {x y:List UInt8}{zs:Array Value}(i:Nat)(hi:i<(x++y).length):(((eD x++eD y).toArray++zs).getD i undef)=.int .u8 ((x++y).getD i 0).toNat:=by
 rw[<-bT];simp only[Array.toList_append];rw[cK,av (by simpa[eD]using hi)];have:eD x++eD y=eD (x++y):=by simp[eD]
 rw[this,pS _ _ hi]
def Ji {U t u ty:TypeId}{i:TypeInfo}{w:World}(ht:P.underlying t=some (.slice U))(hi:P.info? U=some i)(hz:i.zero=some (.int .u8 0))(hs:i.size=1)(hby:i.bytes=1){v xv:Value}{s s2:List UInt8}
  (hv:kA U w v s) (h0:s2≠[]) (hsrc:Go.Src P 1 u xv s2.length (eD s2) w) (hle:s.length+s2.length<=1099511627776):
  ∃g' t' w',(Builtin.append_ #[t,u] ty #[v,xv]).run P w=.ok (.slice (some ⟨g',0,none⟩) (s++s2).length t') w'/\kA U w' (.slice (some ⟨g',0,none⟩) (s++s2).length t') (s++s2)/\w.grownBy w' v.ownBlock/\(v.ownBlock=some g'\/w.heap.size<=g')/\g'<w'.heap.size:=by
 have hp:0<s2.length:=List.length_pos_iff.2 h0;have hm:maxLen=9223372036854775807:=rfl;rw[<-hs]at hsrc;rcases hv with⟨rfl,rfl⟩|⟨g,cap,c,rfl,hg,hcs,hcm,hle2,hc⟩
 ·have hr:=run_append_grow_src (P:=P) w t u ty U i _ ht hi hz none 0 0 [] (by simp[Builtin.firstCells,loadCells,loadCellsFrom]) xv s2.length (eD s2) hsrc ae (by simp only[az]at hle;omega) (by rw[hby];exact growslice_fits ae (by simp only[az]at hle;omega));have hge:=grownCap_ge w (0+s2.length) 0 U;have hcm2:grownCap w (0+s2.length) 0 U<=maxLen:=grownCap_le_maxLen w (0+s2.length) 0 U (by simp only[az]at hle;omega);simp only[cT,eG]at hr hge hcm2;refine⟨w.heap.size,_,_,hr,.inr ⟨w.heap.size,_,_,rfl,dS w.drew _, ?_,hcm2,hge,fun j hj=>?_⟩,⟨rfl,rfl,rfl, ?_,fun k hk _=>jT w.drew _ k hk⟩,.inr (aY _), ?_⟩
  ·have hz1:(Value.int IntKind.u8 0).cells.size=1:=rfl;simp only[eG,Array.size_append,List.size_toArray,gI,size_zeroCells,hz1];omega
  ·exact Dr (x:=[]) j hj
  ·show w.heap.size<=(w.drew.heap.push _).size;rw[Array.size_push];exact Nat.le_succ _
  ·show w.heap.size<(w.drew.heap.push _).size;rw[Array.size_push];exact Nat.lt_succ_self _
 ·by_cases hroom:s.length+s2.length<=cap
  ·have hr:=run_append_room_src (P:=P) w t u ty U i ht hi g 0 s.length cap xv s2.length (eD s2) hsrc hroom (fun j hj=>by
    rw[hs,cell_of_heap hg (by rw[gI]at hj;omega)];rfl) (fun j hj=>by simp[World.frozen?,hg])
   obtain⟨c',s1,s3,s4⟩:=jU g (eD s2) (0+s.length*i.size) w c U (0,0) hg (by rw[gI,hs];omega);obtain⟨f1,f2,f3,f4⟩:=jj g (eD s2) (0+s.length*i.size) w;have hlt:g<w.heap.size:=by
    rcases eJ g w.heap.size with h|h
    ·exact h
    ·simp[Array.getElem?_eq_none h]at hg
   refine⟨g,cap,_,by simpa using hr,.inr ⟨g,cap,c',aT,s1,ae,hcm,by rw[bA];exact hroom,fun j hj=>?_⟩,⟨f1,f2,f3,ae,fun k _ hk=>jk g _ _ _ k (fun e=>hk (by simp[Value.ownBlock,e]))⟩,.inl rfl,ae⟩;rw[s4,gI,hs];rw[bA]at hj;by_cases hj2:j<s.length
   ·rw[ai ae,hc j hj2,cK,av hj2]
   ·rw[av ae,pS _ _ ae,cK,ai hj2];congr 4;omega
  ·have hold:(Builtin.firstCells i.size s.length (.slice (some ⟨g,0,none⟩) s.length cap)).run P w.drew=.ok (eD s).toArray w.drew:=by
    refine run_firstCells_some w.drew i.size s.length _ s.length cap _ (by simp[gI,hs]) (fun j u' hj=>?_);have hj2:j<s.length:=by
     have:=(List.getElem?_eq_some_iff.1 hj).1;rwa [gI]at this
    have hg':w.drew.heap[g]? =some (.cells c U (0,0)):=hg;rw[Addr.sZ,cell_of_heap hg' ae,cT,hc j hj2,<-pS s j hj2];simp[List.getD,hj]
   have hr:=run_append_grow_src (P:=P) w t u ty U i _ ht hi hz (some ⟨g,0,none⟩) s.length cap (eD s) hold xv s2.length (eD s2) hsrc ae ae (by rw[hby];exact growslice_fits ae ae);have hge:=grownCap_ge w (s.length+s2.length) cap U;have hcm2:grownCap w (s.length+s2.length) cap U<=maxLen:=grownCap_le_maxLen w (s.length+s2.length) cap U ae;refine⟨w.heap.size,_,_,by simpa using hr,.inr ⟨w.heap.size,_,_,aT,dS w.drew _, ?_,hcm2,by simpa using hge,fun j hj=>?_⟩,⟨rfl,rfl,rfl, ?_,fun k hk _=>jT w.drew _ k hk⟩,.inr (aY _), ?_⟩
   ·have hz1:(Value.int IntKind.u8 0).cells.size=1:=rfl;simp only[Array.size_append,List.size_toArray,bA,gI,size_zeroCells,hz1];omega
   ·exact Dr j hj
   ·show w.heap.size<=(w.drew.heap.push _).size;rw[Array.size_push];exact Nat.le_succ _
   ·show w.heap.size<(w.drew.heap.push _).size;rw[Array.size_push];exact Nat.lt_succ_self _
def vK {ops:Array Oper}{rest:List Oper}{o:Oper}{a:Act}{Q:Exit->Act->World->Prop}(hgd:o.guard=none)(sl x:Operand)(t u:TypeId)
  (ho:o.op=.call {callee:=.builtin .append,args:=#[sl,x],argTypes:=#[t,u]}) {U:TypeId} {i:TypeInfo} {w:World}
  (ht:P.underlying t=some (.slice U)) (hi:P.info? U=some i) (hz:i.zero=some (.int .u8 0)) (hsz:i.size=1) (hby:i.bytes=1) {v xv:Value} {s s2:List UInt8} (hs:a.eval sl=v) (hx:a.eval x=xv)
  (hv:kA U w v s) (h0:s2≠[]) (hsrc:Go.Src P 1 u xv s2.length (eD s2) w) (hle:s.length+s2.length<=1099511627776)
  (h:∀g' t' w',kA U w' (.slice (some ⟨g',0,none⟩) (s++s2).length t') (s++s2)->w.grownBy w' v.ownBlock->(v.ownBlock=some g'\/w.heap.size<=g')->g'<w'.heap.size->wpList P ops Q rest (a.put o.dst (.slice (some ⟨g',0,none⟩) (s++s2).length t')) w'):wpList P ops Q (o::rest) a w:=by
 refine wpList_plain hgd fun K hK=>?_
 obtain⟨g',t',w',hr,h2,h3,h4,h5⟩:=Ji (P:=P) (ty:=o.type) ht hi hz hsz hby hv h0 hsrc hle;unfold Oper.wp execOp;simp only[ho,resolve,invoke,builtin,Sem.run_bind,Sem.run_pure,Result.andThen_ok,List.map_toArray,List.map_cons,List.map_nil,hs,hx,hr];exact hK _ _ (h g' t' w' h2 h3 h4 h5)
def BC (w:World)(g n:Nat):(w.drew.freeze ⟨g,0,none⟩ n).os=w.os/\(w.drew.freeze ⟨g,0,none⟩ n).tape=w.tape/\(w.drew.freeze ⟨g,0,none⟩ n).output=w.output/\(w.drew.freeze ⟨g,0,none⟩ n).heap.size=w.heap.size/\∀k,k≠g->(w.drew.freeze ⟨g,0,none⟩ n).heap[k]? =w.heap[k]? :=by
 unfold World.freeze;split
 ·exact⟨rfl,rfl,rfl,rfl,fun _ _=>rfl⟩
 ·refine⟨rfl,rfl,rfl,aT,fun k hk=>?_⟩;simp only[Array.getElem?_modify];rw[ai (fun e=>hk e.symm)];rfl
def pw (b:Nat)(u:Bool)(v:Value)(T:TypeId):Obj:=.cells #[.pointer (if u=true then some ⟨b,0,none⟩else none),v] T (0,0)
variable {J:Ren}
def wF (L:Lays.n240 P J)(X:Builder.X72 P J){b:Nat}{u:Bool}{v:Value}{w:World}(h:w.heap[b]? =some (pw b u v (J.t 72))):
  Calls P (J.f 240) #[.pointer (some ⟨b,0,none⟩)] w fun e w'=>e=.returned (.tuple #[])/\w'.heap[b]? =some (pw b true v (J.t 72))/\w.grownBy w' (some b):=by
 unfold pw at h;cases u with
 |true=>
  refine(Any.Builder_copyCheck_used L X b w (by rw[Lib.cell_of_heap h];rfl)).mono ?_;rintro e w' ⟨rfl,rfl⟩;exact⟨rfl,h,⟨rfl,rfl,rfl,aY _,fun _ _ _=>rfl⟩⟩
 |false=>
  refine(Any.Builder_copyCheck_fresh L X b w (by rw[Lib.cell_of_heap h];rfl) (by simp[World.shape?,h]) (Lib.frozen_of_heap h 0)).mono ?_;rintro e w' ⟨rfl,rfl⟩;exact⟨rfl,by simp[World.setCell,Array.getElem?_modify,h,pw],⟨rfl,rfl,rfl,by simp[World.setCell],fun k _ hk=>Below.heap_setCell _ _ _ _ (fun e=>hk (by simp[e]))⟩⟩
def ze (T U:TypeId)(b:Nat)(g:Option Nat)(s:List UInt8)(w w':World):Prop:=
 ∃g' t',w'.heap[b]? =some (pw b true (.slice (some ⟨g',0,none⟩) s.length t') T)/\kA U w' (.slice (some ⟨g',0,none⟩) s.length t') s/\(g=some g'\/w.heap.size<=g')/\g'<w'.heap.size/\g'≠b/\
  w'.os=w.os/\w'.tape=w.tape/\w'.output=w.output/\w.heap.size<=w'.heap.size/\∀k,k<w.heap.size->k≠b->some k≠g->w'.heap[k]? =w.heap[k]?
def kA.nN {U:TypeId}{w w':World}{v:Value}{s:List UInt8}(h:kA U w v s)(hk:∀g,v.ownBlock=some g->w'.heap[g]? =w.heap[g]?):kA U w' v s:=by
 rcases h with h|⟨g,t,c,rfl,hg,r⟩
 ·exact .inl h
 ·exact .inr ⟨g,t,c,rfl,(hk g rfl).trans hg,r⟩
def kA.lt {U:TypeId}{w:World}{v:Value}{s:List UInt8}(h:kA U w v s){g:Nat}(hg:v.ownBlock=some g):g<w.heap.size/\∃c,w.heap[g]? =some (.cells c U (0,0)):=by
 rcases h with⟨rfl,_⟩|⟨g',t,c,rfl,hg',r⟩
 ·cases hg
 ·simp only[Value.ownBlock,aQ]at hg;subst hg;refine⟨?_,c,hg'⟩;rcases eJ g' w.heap.size with h|h
  ·exact h
  ·simp[Array.getElem?_eq_none h]at hg'
set_option maxHeartbeats 2000000 in
set_option maxRecDepth 100000 in
theorem tc (L:Lays.n166 P J)(X:Builder.Extra P J){b:Nat}{u:Bool}{v:Value}{s s2:List UInt8}{w:World}(h:w.heap[b]? =some (pw b u v (J.t 72)))(hv:kA (J.t 5) w v s)(h0:s2≠[])(hm2:s2.length<=maxLen)(hle:s.length+s2.length<=1099511627776):
  Calls P (J.f 166) #[.pointer (some ⟨b,0,none⟩),.string ⟨⟨s2⟩⟩] w fun e w'=>(∃r,e=.returned r)/\ze (J.t 72) (J.t 5) b v.ownBlock (s++s2) w w':=by
 obtain⟨i0,hi,hz0,hz1,hz2⟩:=info_parts X.infoByte;have mixed:=L.mixed;have t72:=L.t72;have a72:=L.a72;have z72:=L.z72;have v72:=L.v72;have u72:=run_underlying L.t72;have t70:=L.t70;have a70:=L.a70;have z70:=L.z70;have v70:=L.v70;have u70:=run_underlying L.t70;have t37:=L.t37;have a37:=L.a37;have z37:=L.z37;have v37:=L.v37;have u37:=run_underlying L.t37;have t3:=L.t3;have a3:=L.a3;have z3:=L.z3;have v3:=L.v3;have u3:=run_underlying L.t3;have t9:=L.t9;have a9:=L.a9;have z9:=L.z9;have v9:=L.v9;have u9:=run_underlying L.t9;have t4:=L.t4;have a4:=L.a4;have z4:=L.z4;have v4:=L.v4;have u4:=run_underlying L.t4;have t164:=L.t164;have a164:=L.a164;have z164:=L.z164;have v164:=L.v164;have u164:=run_underlying L.t164;have t5:=X.t5;have a5:=X.a5;have z5:=X.z5;have v5:=X.v5;have u5:=run_underlying X.t5;have e240:∀args w,(callFunc (J.f 240) args).run P w=.ok (.enter (J.f 240) args) w:=enters_of L.f240 oR rfl
 have hne:∀g,v.ownBlock=some g->g≠b:=by
  rintro g hg rfl;obtain⟨_,c,hc⟩:=hv.lt hg;rw[h]at hc;simp only[pw,aQ,Obj.cells.injEq]at hc;exact X.neB5 hc.2.1
 go_enter L.f166,Body.n166_ntmps J
 go_wp2_with (go_at_fn (J.f 240);refine(wF {L with} X.toX72 h).mono ?_)
 rintro e w1 ⟨rfl,h1,hb1⟩;have hv1:kA (J.t 5) w1 v s:=hv.nN fun g hg=>hb1.block g (hv.lt hg).1 (fun e=>hne g hg (bC e))
 have c0:w1.cell? ⟨b,0,none⟩=some (.pointer (some ⟨b,0,none⟩)):=by rw[Lib.cell_of_heap h1];rfl
 have c1:w1.cell? ⟨b,1,none⟩=some v:=by rw[Lib.cell_of_heap h1];rfl
 have hsrc:Go.Src P 1 (J.t 9) (.string ⟨⟨s2⟩⟩) s2.length (eD s2) w1:=⟨.inr L.t9,fun _=>rfl,firstCells_string _ _,firstCells_string _ _,by rw[gI,Nat.mul_one],tZ s2⟩;have key:=fun ops rest o a Q hgd ho hs hx h=>vK (P:=P) (ops:=ops) (rest:=rest) (o:=o) (a:=a) (Q:=Q) hgd (.tmp 12) (.tmp 13) (J.t 37) (J.t 9) ho L.t37 hi hz0 hz1 hz2 (v:=v) (xv:=.string ⟨⟨s2⟩⟩) hs hx hv1 h0 hsrc hle h
 go_wp2_with (at_builtin;refine key _ _ _ _ _ rfl rfl rfl rfl ?_)
 clear key;intro g' t' w2 hown' hgrow hg' hlt';have hlt:b<w1.heap.size:=by
  rcases eJ b w1.heap.size with h'|h'
  ·exact h'
  ·simp[Array.getElem?_eq_none h']at h1
 have fV:w2.heap[b]? =some (pw b true v (J.t 72)):=by
  rw[hgrow.block b hlt (fun e=>hne b e.symm rfl)];exact h1
 have hgb:g'≠b:=by
  rcases hg' with h'|h'
  ·exact hne g' h'
  ·omega
 have d0:w2.cell? ⟨b,0,none⟩=some (.pointer (some ⟨b,0,none⟩)):=by rw[Lib.cell_of_heap fV];rfl
 have d1:w2.cell? ⟨b,1,none⟩=some v:=by rw[Lib.cell_of_heap fV];rfl
 have f1:w2.frozen? ⟨b,1,none⟩=false:=Lib.frozen_of_heap fV 1
 go_wp2
 go_ret2
 have hsz:=hb1.size;refine⟨⟨_,rfl⟩, ?_⟩;unfold ze;simp only[bA]at hown'⊢;refine⟨g',t',by simp[World.setCell,Array.getElem?_modify,fV,pw],hown'.nN fun g hg=>Below.heap_setCell w2 ⟨b,1,none⟩ _ g (fun e=>hgb ((bC hg).trans e)),hg'.imp id (fun h=>ae),by simpa[World.setCell]using hlt',hgb,hgrow.os.trans hb1.os,hgrow.tape.trans hb1.tape,hgrow.output.trans hb1.output,by have:=hgrow.size;simp[World.setCell];omega,fun k hk h1' h2'=>?_⟩;rw[Below.heap_setCell w2 ⟨b,1,none⟩ _ k h1',hgrow.block k ae h2',hb1.block k hk (fun e=>h1' (bC e))]
set_option maxHeartbeats 2000000 in
set_option maxRecDepth 100000 in
theorem vW (L:Lays.n167 P J)(X:Builder.Extra P J){b:Nat}{u:Bool}{v:Value}{s:List UInt8}{c:UInt8}{w:World}(h:w.heap[b]? =some (pw b u v (J.t 72)))(hv:kA (J.t 5) w v s)(hle:s.length+1<=1099511627776):
  Calls P (J.f 167) #[.pointer (some ⟨b,0,none⟩),.int .u8 c.toNat] w fun e w'=>(∃r,e=.returned r)/\ze (J.t 72) (J.t 5) b v.ownBlock (s++[c]) w w':=by
 obtain⟨i0,hi,hz0,hz1,hz2⟩:=info_parts X.infoByte;have mixed:=L.mixed;have t72:=L.t72;have a72:=L.a72;have z72:=L.z72;have v72:=L.v72;have u72:=run_underlying L.t72;have t70:=L.t70;have a70:=L.a70;have z70:=L.z70;have v70:=L.v70;have u70:=run_underlying L.t70;have t37:=L.t37;have a37:=L.a37;have z37:=L.z37;have v37:=L.v37;have u37:=run_underlying L.t37;have t9:=L.t9;have a9:=L.a9;have z9:=L.z9;have v9:=L.v9;have u9:=run_underlying L.t9;have t4:=L.t4;have a4:=L.a4;have z4:=L.z4;have v4:=L.v4;have u4:=run_underlying L.t4;have t164:=L.t164;have a164:=L.a164;have z164:=L.z164;have v164:=L.v164;have u164:=run_underlying L.t164;have t5:=L.t5;have a5:=L.a5;have z5:=L.z5;have v5:=L.v5;have u5:=run_underlying L.t5;have e240:∀args w,(callFunc (J.f 240) args).run P w=.ok (.enter (J.f 240) args) w:=enters_of L.f240 oR rfl
 have hne:∀g,v.ownBlock=some g->g≠b:=by
  rintro g hg rfl;obtain⟨_,c,hc⟩:=hv.lt hg;rw[h]at hc;simp only[pw,aQ,Obj.cells.injEq]at hc;exact X.neB5 hc.2.1
 go_enter L.f167,Body.n167_ntmps J
 go_wp2_with (go_at_fn (J.f 240);refine(wF {L with} X.toX72 h).mono ?_)
 rintro e w1 ⟨rfl,h1,hb1⟩;have hv1:kA (J.t 5) w1 v s:=hv.nN fun g hg=>hb1.block g (hv.lt hg).1 (fun e=>hne g hg (bC e))
 have c0:w1.cell? ⟨b,0,none⟩=some (.pointer (some ⟨b,0,none⟩)):=by rw[Lib.cell_of_heap h1];rfl
 have c1:w1.cell? ⟨b,1,none⟩=some v:=by rw[Lib.cell_of_heap h1];rfl
 have key:=fun ob ops rest o a Q sl x hgd ho hs hx hv2 hsrc h=>vK (P:=P) (w:=w1.alloc ob) (ops:=ops) (rest:=rest) (o:=o) (a:=a) (Q:=Q) hgd sl x (J.t 37) (J.t 37) ho L.t37 hi hz0 hz1 hz2 (v:=v) (xv:=.slice (some ⟨w1.heap.size,0,none⟩) 1 1) (s:=s) (s2:=[c]) hs hx hv2 (List.cons_ne_nil _ _) hsrc hle h
 go_wp2_with (at_builtin;refine key _ _ _ _ _ _ _ _ rfl rfl rfl rfl (hv1.nN fun g hg=>Lib.alloc_old w1 _ g (hv1.lt hg).1) ?hs ?_)
 case hs=>
  refine Go.Src.ofSlice _ L.t37 ⟨w1.heap.size,0,none⟩ 1 1 _ rfl (fun j u hj=>?_) (tZ [c])
  match j,hj with
  |0,hj=>simp[eD]at hj;subst hj;simp[Addr.add]
 clear key;intro g' t' w2 hown' hgrow hg' hlt';have hlt:b<w1.heap.size:=by
  rcases eJ b w1.heap.size with h'|h'
  ·exact h'
  ·simp[Array.getElem?_eq_none h']at h1
 have fV:w2.heap[b]? =some (pw b true v (J.t 72)):=by
  rw[hgrow.block b cz (fun e=>hne b e.symm rfl),Lib.alloc_old w1 _ b hlt];exact h1
 have hgb:g'≠b:=by
  rcases hg' with h'|h'
  ·exact hne g' h'
  ·omega
 have d0:w2.cell? ⟨b,0,none⟩=some (.pointer (some ⟨b,0,none⟩)):=by rw[Lib.cell_of_heap fV];rfl
 have d1:w2.cell? ⟨b,1,none⟩=some v:=by rw[Lib.cell_of_heap fV];rfl
 have f1:w2.frozen? ⟨b,1,none⟩=false:=Lib.frozen_of_heap fV 1
 go_wp2
 go_ret
 have hsz:=hb1.size;refine⟨⟨_,rfl⟩, ?_⟩;unfold ze;simp only[bA]at hown'⊢;refine⟨g',t',by simp[World.setCell,Array.getElem?_modify,fV,pw],hown'.nN fun g hg=>Below.heap_setCell w2 ⟨b,1,none⟩ _ g (fun e=>hgb ((bC hg).trans e)),hg'.imp id (fun h=>ae),by simpa[World.setCell]using hlt',hgb,hgrow.os.trans hb1.os,hgrow.tape.trans hb1.tape,hgrow.output.trans hb1.output,by have:=hgrow.size;simp at this;simp[World.setCell];omega,fun k hk h1' h2'=>?_⟩;rw[Below.heap_setCell w2 ⟨b,1,none⟩ _ k h1',hgrow.block k cz h2',Lib.alloc_old w1 _ k ae,hb1.block k hk (fun e=>h1' (bC e))]
set_option maxHeartbeats 1000000 in
set_option maxRecDepth 100000 in
theorem Bt (L:Lays.n169 P J)(X:Builder.Extra P J){b g t:Nat}{u:Bool}{s:List UInt8}{w:World}(h:w.heap[b]? =some (pw b u (.slice (some ⟨g,0,none⟩) s.length t) (J.t 72)))(hv:kA (J.t 5) w (.slice (some ⟨g,0,none⟩) s.length t) s)(h0:s≠[]):
  Calls P (J.f 169) #[.pointer (some ⟨b,0,none⟩)] w fun e w'=>e=.returned (.string ⟨⟨s⟩⟩)/\w'.os=w.os/\w'.tape=w.tape/\w'.output=w.output/\w'.heap.size=w.heap.size/\∀k,k≠g->w'.heap[k]? =w.heap[k]? :=by
 have hl0:s.length≠0:=by simpa using h0
 obtain⟨c,hg,hcs,hcm,hle,hc⟩:∃c,w.heap[g]? =some (.cells c (J.t 5) (0,0))/\c.size=t/\t<=maxLen/\s.length<=t/\∀i,i<s.length->c.getD i undef=.int .u8 (s.getD i 0).toNat:=by
  rcases hv with⟨h1,_⟩|⟨g',t',c,h1,r⟩
  ·cases h1
  ·simp only[Value.slice.injEq,aQ,Addr.mk.injEq]at h1;obtain⟨⟨rfl,_⟩,_,rfl⟩:=h1;exact⟨c,r⟩
 have c1:w.drew.cell? ⟨b,1,none⟩=some (.slice (some ⟨g,0,none⟩) s.length t):=by
  have:w.drew.heap[b]? =some (pw b u (.slice (some ⟨g,0,none⟩) s.length t) (J.t 72)):=h;rw[Lib.cell_of_heap this];rfl
 have hSD:(Builtin.unsafeSliceData_ #[(J.t 37)] (J.t 127) #[.slice (some ⟨g,0,none⟩) s.length t]).run P w.drew=.ok (.pointer (some ⟨g,0,none⟩)) w.drew:=
  Lib.run_unsafeSliceData_row _ _ _ _ _ _ ae
 have hUS:(Builtin.unsafeString_ #[(J.t 127),(J.t 3)] (J.t 9) #[.pointer (some ⟨g,0,none⟩),.int .i64 s.length]).run P w.drew=.ok (.string ⟨s.toArray⟩) (w.drew.freeze ⟨g,0,none⟩ s.length):=by
  refine Lib.run_unsafeString_row w.drew (J.t 127) (J.t 3) (J.t 9) (J.t 5) L.t127 X.cellsByte g c.size (by have hg':w.drew.heap[g]? =some (.cells c (J.t 5) (0,0)):=hg;simp[World.shape?,hg']) s h0 ae (by unfold maxLen at hcm;omega) ?_;intro j x hx;have hj:=(List.getElem?_eq_some_iff.1 hx).1;have hg':w.drew.heap[g]? =some (.cells c (J.t 5) (0,0)):=hg;rw[Addr.sZ,cell_of_heap hg' ae,cT,hc j hj];simp[List.getD,hx]
 have mixed:=L.mixed;have t72:=L.t72;have a72:=L.a72;have z72:=L.z72;have v72:=L.v72;have u72:=run_underlying L.t72;have t70:=L.t70;have a70:=L.a70;have z70:=L.z70;have v70:=L.v70;have u70:=run_underlying L.t70;have t37:=L.t37;have a37:=L.a37;have z37:=L.z37;have v37:=L.v37;have u37:=run_underlying L.t37;have t127:=L.t127;have a127:=L.a127;have z127:=L.z127;have v127:=L.v127;have u127:=run_underlying L.t127;have t3:=L.t3;have a3:=L.a3;have z3:=L.z3;have v3:=L.v3;have u3:=run_underlying L.t3;have t9:=L.t9;have a9:=L.a9;have z9:=L.z9;have v9:=L.v9;have u9:=run_underlying L.t9;have t5:=X.t5;have a5:=X.a5;have z5:=X.z5;have v5:=X.v5;have u5:=run_underlying X.t5
 go_enter L.f169,Body.n169_ntmps J
 go_wp2
 go_region_o
 all_goals (go_wp2;go_ret;exact⟨rfl,BC _ _ _⟩)
end
end
section
open Go.Proofs Go.Shelf Go.RowKit
section
variable [c7] {P:Program} {ν:List (Nat×Nat)} {cE:List Nat} {Y:Ctx} {x:X}
def Bs {m:List (Nat×bK)}{l:Nat}{t:List UInt8}{v:Value}(hs:ff ν x (look m))(hb:pD m l t)(hv:RD ν x v (.ptr l 2 0 0)):
  ∃b tot u w,v=.pointer (some ⟨b,0,none⟩)/\x.β l=some (b,0,tot)/\¬x.I b/\x.w.heap[b]? =some (pw b u w c7.tB)/\kA c7.tU x.w w t/\
   (w.ownBlock=none/\eR m l=m\/∃l2 g t2,w=.slice (some ⟨g,0,none⟩) t.length t2/\x.β l2=some (g,0,t2)/\¬x.I g/\look m l2=some (.row t)/\l2≠l/\eR m l=dH m l2):=by
 cases hv with
 |ptr _ _ _ _ b base tot at_ hβ hat=>
  rcases hb with⟨u,h1,rfl⟩|⟨l2,u,h1,h2⟩
  ·obtain⟨o1,rfl,w,o2,_,rfl⟩:=hs.own l _ b base tot h1 hβ;simp only[Nat.zero_mul,Nat.add_zero]at hat;subst hat;exact⟨b,tot,u,_,rfl,hβ,o1,o2,.inl ⟨rfl,rfl⟩,.inl ⟨rfl,by simp only[eR,h1]⟩⟩
  ·obtain⟨o1,rfl,w,o2,g,t2,rfl,o3,o4⟩:=hs.own l _ b base tot h1 hβ;simp only[Nat.zero_mul,Nat.add_zero]at hat;subst hat;obtain⟨p1,_,c,p2,p3,p4,p5,p6⟩:=hs.own l2 _ g 0 t2 h2 o4;have hne:l2≠l:=by rintro rfl;rw[h1]at h2;cases h2
   exact⟨b,tot,u,_,rfl,hβ,o1,o2,.inr ⟨g,t2,c,rfl,p2,p3,p4,p5,p6⟩,.inr ⟨l2,g,t2,rfl,o4,p1,h2,hne,by simp only[eR,h1]⟩⟩
def xJ {st:St}{l:Nat}{t s:List UInt8}{b tot:Nat}{w:Value}{w':World}(hs:ff ν x (look st.m))(hf:eV st x)(hlive:look st.m l≠none)(hl:l<st.nx)
  (hβ:x.β l=some (b,0,tot)) (hI:¬x.I b)
  (hrow:w.ownBlock=none/\eR st.m l=st.m\/∃l2 g t2,w=.slice (some ⟨g,0,none⟩) t.length t2/\x.β l2=some (g,0,t2)/\¬x.I g/\look st.m l2=some (.row t)/\l2≠l/\eR st.m l=dH st.m l2)
  (hw:ze c7.tB c7.tU b w.ownBlock s x.w w'):
  ∃x':X,x'.w=w'/\Step x x'/\ff ν x' (look (nY st.m l st.nx s))/\eV ⟨st.nx+1,nY st.m l st.nx s⟩ x':=by
 obtain⟨g',t',h1,h2,h3,h4,h5,k1,k2,k3,k4,k5⟩:=hw;have hn:=hf.β st.nx (aY _)

 have hg:∀g,w.ownBlock=some g->∃l2 t2,x.β l2=some (g,0,t2)/\¬x.I g/\look st.m l2=some (.row t)/\l2≠l/\eR st.m l=dH st.m l2:=by
  intro g hg;rcases hrow with⟨h,_⟩|⟨l2,g0,t2,rfl,q⟩
  ·rw[h]at hg;cases hg
  ·obtain rfl:=bC hg;exact⟨l2,t2,q⟩
 have hlook:∀l' blk,l'≠l->look (eR st.m l) l'=some blk->look st.m l'=some blk/\∀g,w.ownBlock=some g->∀p,x.β l'=some p->p.1≠g:=by
  intro l' blk hl' hk;rcases hrow with⟨h,e⟩|⟨l2,g0,t2,rfl,q1,q2,q3,q4,e⟩
  ·rw[e]at hk;exact⟨hk,fun g hg=>by rw[h]at hg;cases hg⟩
  ·rw[e,fG]at hk;split at hk
   ·cases hk
   ·rename_i hne;refine⟨hk,fun g hg p hp e=>?_⟩;obtain rfl:=bC hg;obtain⟨b',base',tot'⟩:=p;simp only at e;subst e;exact hne (hs.inj l' l2 _ _ _ _ _ (by rw[hk];simp) (by rw[q3];simp) hp q1)
 have hbg:∀l' p,x.β l'=some p->p.1<x.w.heap.size:=fun l' ⟨b',base',tot'⟩ hp=>hs.eg l' b' base' tot' hp
 have hkeep:∀k,k<x.w.heap.size->k≠b->some k≠w.ownBlock->w'.heap[k]? =x.w.heap[k]? :=k5
 let x':X:=⟨w',x.I,dP x.β st.nx (g',0,t')⟩
 have hst:Step x x':=by
  refine⟨k1,k2,k3,k4,fun _ h=>h,fun k hk=>hkeep k (hs.imm k hk) (fun e=>hI (e▸hk)) (fun e=>?_),fun l' p hp=>?_,fun k hk hn'=>hkeep k hk (fun e=>hn' l _ hβ e.symm) (fun e=>?_),fun _ h=>.inl h,fun l' p hp=>?_⟩
  ·obtain⟨l2,t2,q1,q2,_⟩:=hg k e.symm;exact q2 hk
  ·have:l'≠st.nx:=fun e=>by rw[e,hn]at hp;cases hp
   simp[x',dP,this,hp]
  ·obtain⟨l2,t2,q1,_⟩:=hg k e.symm;exact hn' l2 _ q1 rfl
  ·by_cases e1:l'=st.nx
   ·simp only[x',dP,e1,br,aQ]at hp;subst hp;rcases h3 with h3|h3
    ·obtain⟨l2,t2,q1,_⟩:=hg g' h3;exact .inr (.inr ⟨l2,_,q1,rfl⟩)
    ·exact .inr (.inl h3)
   ·simp only[x',dP,e1,bn]at hp;exact .inl hp
 have hle:=hst.le;have hlm:∀l',look (nY st.m l st.nx s) l'=if l'=st.nx then some (.row s)else if l'=l then some (.bld (some st.nx) s.length true)else look (eR st.m l) l':=by
  intro l';simp only[nY,look];by_cases e:l'=st.nx
  ·rw[av e.symm,av e]
  ·rw[ai (fun h=>e h.symm),ai e,cn]
 have hfr:∀l' p,l'≠st.nx->x.β l'=some p->l'≠l->look (eR st.m l) l'≠none->p.1≠g':=by
  intro l' p hl' hp hne hk e;cases hq:look (eR st.m l) l' with
  |none=>exact hk hq
  |some blk=>
   rcases h3 with h3|h3
   ·exact(hlook l' blk hne hq).2 g' h3 p hp e
   ·have:=hbg l' p hp;omega
 refine⟨x',rfl,hst,⟨fun l' blk b' base' tot' e1 e2=>?_,fun l1 l2 b' base1 tot1 base2 tot2 e1 e2 e3 e4=>?_,fun k hk=>en (hs.imm k hk) k4,fun l' b' base' tot' e=>?_,oe hle hs.gd⟩,⟨fun l' hl'=>?_,fun l' hl'=>?_⟩⟩
 ·rw[hlm]at e1;by_cases c1:l'=st.nx
  ·rw[av c1]at e1;simp only[x',dP,av c1,aQ,dU]at e2;obtain⟨rfl,rfl,rfl⟩:=e2;obtain rfl:=bC e1;refine⟨fun h=>?_,rfl, ?_⟩
   ·rcases h3 with h3|h3
    ·obtain⟨l2,t2,_,q2,_⟩:=hg g' h3;exact q2 h
    ·have:=hs.imm g' h;omega
   ·rcases h2 with⟨h2,_⟩|⟨g2,t2,c,h2,r⟩
    ·cases h2
    ·simp only[Value.slice.injEq,aQ,Addr.mk.injEq]at h2;obtain⟨⟨rfl,_⟩,_,rfl⟩:=h2;exact⟨c,r⟩
  ·rw[ai c1]at e1;simp only[x',dP,ai c1]at e2;by_cases c2:l'=l
   ·subst c2;rw[av rfl]at e1;rw[hβ]at e2;simp only[aQ,dU]at e2;obtain⟨rfl,rfl,rfl⟩:=e2;obtain rfl:=bC e1;refine⟨hI,rfl,_,h1,g',t',rfl, ?_,by simp[x',dP]⟩;rcases h2 with⟨h2,_⟩|⟨g2,t2,c,h2,_,_,_,r,_⟩
    ·cases h2
    ·simp only[Value.slice.injEq]at h2;obtain⟨_,_,rfl⟩:=h2;exact r
   ·rw[ai c2]at e1;obtain⟨q1,q2⟩:=hlook l' blk c2 e1;obtain⟨o1,o2⟩:=hs.own l' blk b' base' tot' q1 e2;refine⟨o1,o2.mono hle (hkeep b' (hs.eg _ _ _ _ e2) (fun e=>?_) (fun e=>q2 b' e.symm _ e2 rfl))⟩;subst e;exact c2 (hs.inj l' l _ _ _ _ _ (by rw[q1];simp) hlive e2 hβ)
 ·rw[hlm]at e1 e2;by_cases c1:l1=st.nx
  ·by_cases c2:l2=st.nx
   ·rw[c1,c2]
   ·exfalso;rw[ai c2]at e2;simp only[x',dP,av c1,aQ,dU]at e3;simp only[x',dP,ai c2]at e4;obtain⟨rfl,_⟩:=e3;by_cases c3:l2=l
    ·subst c3;rw[hβ]at e4;simp only[aQ,dU]at e4;exact h5 e4.1.symm
    ·rw[ai c3]at e2;exact hfr l2 _ c2 e4 c3 e2 rfl
  ·rw[ai c1]at e1;simp only[x',dP,ai c1]at e3;by_cases c2:l2=st.nx
   ·exfalso;simp only[x',dP,av c2,aQ,dU]at e4;obtain⟨rfl,_⟩:=e4;by_cases c3:l1=l
    ·subst c3;rw[hβ]at e3;simp only[aQ,dU]at e3;exact h5 e3.1.symm
    ·rw[ai c3]at e1;exact hfr l1 _ c1 e3 c3 e1 rfl
   ·rw[ai c2]at e2;simp only[x',dP,ai c2]at e4;have live:∀l',(if l'=l then some (bK.bld (some st.nx) s.length true)else look (eR st.m l) l')≠none->look st.m l'≠none:=by
     intro l' h;by_cases c:l'=l
     ·rw[c];exact hlive
     ·rw[ai c]at h;cases hq:look (eR st.m l) l' with
      |none=>exact absurd hq h
      |some blk=>rw[(hlook l' blk c hq).1];simp
    exact hs.inj l1 l2 b' base1 tot1 base2 tot2 (live l1 e1) (live l2 e2) e3 e4
 ·by_cases c1:l'=st.nx
  ·simp only[x',dP,av c1,aQ,dU]at e;obtain⟨rfl,_⟩:=e;exact h4
  ·simp only[x',dP,ai c1]at e;exact en (hs.eg _ _ _ _ e) k4
 ·have hl':st.nx+1<=l':=hl';simp only[x',dP,ai (show ¬l'=st.nx by omega)];exact hf.β l' ae
 ·show l'<st.nx+1;simp only[hlm]at hl';by_cases c1:l'=st.nx
  ·omega
  ·rw[ai c1]at hl';by_cases c2:l'=l
   ·omega
   ·rw[ai c2]at hl';cases hq:look (eR st.m l) l' with
    |none=>exact absurd hq hl'
    |some blk=>have:=hf.m l' (by rw[(hlook l' blk c2 hq).1];simp);omega
def pD.live {m:List (Nat×bK)}{l:Nat}{t:List UInt8}(h:pD m l t):look m l≠none:=by
 rcases h with⟨u,h,_⟩|⟨l2,u,h,_⟩<;>rw[h]<;>simp
variable {J:Ren}
def Gt {args:Array Value}(h:args.size=2):args=#[args.getD 0 undef,args.getD 1 undef]:=by
 apply Array.ext
 ·simpa using h
 ·intro i h1 h2
  match i,h1 with
  |0,h1=>simp[Array.getD,h1]
  |1,h1=>simp[Array.getD,h1]
  |i+2,h1=>omega
def Mm {args:Array Value}(h:args.size=1):args=#[args.getD 0 undef]:=by
 apply Array.ext
 ·simpa using h
 ·intro i h1 h2
  match i,h1 with
  |0,h1=>simp[Array.getD,h1]
  |i+1,h1=>omega
def JH (hB:c7.tB=J.t 72)(hU:c7.tU=J.t 5)(L:Lays.n166 P J)(X':Builder.Extra P J)(hen:∀args w,(callFunc (J.f 166) args).run P w=.ok (.enter (J.f 166) args) w):Gm P ν Y cE RM (J.f 166):=by
 rintro ds st K ⟨s,l,t,rfl,hb,hl,h0,hle,hK⟩ hok x args hl2 hargs hs hf;obtain⟨b,tot,u,w,e0,hβ,hI,hh,hv,hrow⟩:=Bs hs hb (hargs 0 aT);have h1:=hargs 1 aT;simp only[List.getD_cons_succ,ku]at h1;obtain⟨e1,hm⟩:=h1.iz;rw[hB]at hh;rw[hU]at hv;refine .inr ⟨J.f 166,args,hen args x.w, ?_⟩;rw[Gt (args:=args) (by simpa using hl2),e0,e1];refine(tc L X' hh hv h0 hm hle).mono ?_;rintro e w' ⟨⟨r,rfl⟩,hw⟩;rw[<-hB,<-hU]at hw;obtain⟨x',q1,q2,q3,q4⟩:=xJ hs hf hb.live hl hβ hI hrow hw;exact⟨x',q1,.any,_,hK,q2,.any _,q3,q4⟩
def JG (hB:c7.tB=J.t 72)(hU:c7.tU=J.t 5)(L:Lays.n167 P J)(X':Builder.Extra P J)(hen:∀args w,(callFunc (J.f 167) args).run P w=.ok (.enter (J.f 167) args) w):Gm P ν Y cE RL (J.f 167):=by
 rintro ds st K ⟨c,l,t,rfl,hb,hl,h0,hle,hK⟩ hok x args hl2 hargs hs hf;obtain⟨b,tot,u,w,e0,hβ,hI,hh,hv,hrow⟩:=Bs hs hb (hargs 0 aT);have h1:=hargs 1 aT;simp only[List.getD_cons_succ,ku]at h1;have e1:=h1.dA;rw[hB]at hh;rw[hU]at hv;refine .inr ⟨J.f 167,args,hen args x.w, ?_⟩;rw[Gt (args:=args) (by simpa using hl2),e0,e1];refine(vW L X' hh hv hle).mono ?_;rintro e w' ⟨⟨r,rfl⟩,hw⟩;rw[<-hB,<-hU]at hw;obtain⟨x',q1,q2,q3,q4⟩:=xJ hs hf hb.live hl hβ hI hrow hw;exact⟨x',q1,.any,_,hK,q2,.any _,q3,q4⟩
def JF (hB:c7.tB=J.t 72)(hU:c7.tU=J.t 5)(L:Lays.n169 P J)(X':Builder.Extra P J)(hen:∀args w,(callFunc (J.f 169) args).run P w=.ok (.enter (J.f 169) args) w):Gm P ν Y cE RJ (J.f 169):=by
 rintro ds st K ⟨l,t,rfl,hb,h0,hK⟩ hok x args hl2 hargs hs hf;obtain⟨b,tot,u,w,e0,hβ,hI,hh,hv,hrow⟩:=Bs hs hb (hargs 0 aT);rcases hrow with⟨hn,_⟩|⟨l2,g,t2,rfl,q1,q2,q3,q4,q5⟩
 ·exfalso;rcases hv with⟨_,h⟩|⟨g,t',c,rfl,_⟩
  ·exact h0 h
  ·cases hn
 rw[hB]at hh;rw[hU]at hv;have htm:t.length<=maxLen:=by
  rcases hv with⟨_,rfl⟩|⟨g',t',c,h1,_,_,h4,h5,_⟩
  ·exact absurd rfl h0
  ·omega
 refine .inr ⟨J.f 169,args,hen args x.w, ?_⟩;rw[Mm (args:=args) (by simpa using hl2),e0];refine(Bt L X' hh hv h0).mono ?_;rintro e w' ⟨rfl,k1,k2,k3,k4,k5⟩;have hkeep:∀k,(∀l' p,look (dH (eR st.m l) l) l'≠none->x.β l'=some p->p.1=k->False)->True:=fun _ _=>trivial
 have hst:Step x ⟨w',x.I,x.β⟩:=⟨k1,k2,k3,Nat.le_of_eq k4.symm,fun _ h=>h,fun k hk=>k5 k (fun e=>q2 (e▸hk)),fun _ _ h=>h,fun k hk hn=>k5 k (fun e=>hn l2 _ q1 e.symm),fun _ h=>.inl h,fun _ _ h=>.inl h⟩;have hlm:∀l',look (dH (eR st.m l) l) l'=if l'=l then none else if l'=l2 then none else look st.m l':=fun l'=>by rw[fG,q5,fG]
 refine⟨⟨w',x.I,x.β⟩,rfl,.str t,_,hK,hst,.str t htm,⟨fun l' blk b' base' tot' e1 e2=>?_,fun l1 l3 b' base1 tot1 base2 tot2 e1 e2 e3 e4=>?_,fun k hk=>by show k<w'.heap.size;rw[k4];exact hs.imm k hk,fun l' b' base' tot' e=>by show b'<w'.heap.size;rw[k4];exact hs.eg _ _ _ _ e,oe hst.le hs.gd⟩,⟨hf.β,fun l' hl'=>?_⟩⟩
 ·rw[hlm]at e1;split at e1
  ·cases e1
  split at e1
  ·cases e1
  rename_i c1 c2;obtain⟨o1,o2⟩:=hs.own l' blk b' base' tot' e1 e2;refine⟨o1,o2.mono hst.le (k5 b' (fun e=>c2 ?_))⟩;subst e;exact hs.inj l' l2 _ _ _ _ _ (by rw[e1];simp) (by rw[q3];simp) e2 q1
 ·have live:∀l',look (dH (eR st.m l) l) l'≠none->look st.m l'≠none:=by
   intro l' h;rw[hlm]at h;split at h
   ·exact absurd rfl h
   split at h
   ·exact absurd rfl h
   ·exact h
  exact hs.inj l1 l3 b' base1 tot1 base2 tot2 (live l1 e1) (live l3 e2) e3 e4
 ·simp only[hlm]at hl';split at hl'
  ·exact absurd rfl hl'
  split at hl'
  ·exact absurd rfl hl'
  ·exact hf.m l' hl'
end
end
section
open Go.Proofs
def HR:Nat:=3
def sR:Tryz.prog.globalNamed "internal/strconv.uint64pow10" =some HR:=oR
instance RG:c7 where
 tB:=60
 tU:=5
 gd x:=(x.I 0/\∃m,x.w.cell? ⟨0,0,none⟩=some (.int .i64 m))/\x.I HR/\Lib.TabIs Tryz.prog x.w "internal/strconv.uint64pow10" .u64 Lib.pow10Tab
 le x x' hI hk h:=by
  obtain⟨⟨h1,m,h2⟩,h3,h4⟩:=h;refine⟨⟨hI _ h1,m,mw (hk _ h1) h2⟩,hI _ h3, ?_⟩;unfold Lib.TabIs World.var? at h4⊢;rw[sR]at h4⊢;simp only[Option.bind_some]at h4⊢;rw[hk _ h3];exact h4
def wJ {fid:Nat}{x:X}{args:Array Value}{d:D}(hn:(Tryz.prog.funcs[fid]?).map (fun f=>f.name== "runtime.NumGoroutine" ||!f.body.isSome)=some false)
  (himm:∀b,x.I b->b<x.w.heap.size)
  (hc:Calls Tryz.prog fid args x.w fun e w'=>∃v,e=.returned v/\fN x.w w'/\∃I:Nat->Prop,(∀b,x.I b->I b)/\(∀b,I b->x.I b\/x.w.heap.size<=b/\b<w'.heap.size)/\RD uK ⟨w',I,x.β⟩ v d):
  iA Tryz.prog x (fun v x'=>lh x x'/\RD uK x' v d) ((callFunc fid args).run Tryz.prog x.w):=by
 cases h:Tryz.prog.funcs[fid]? with
 |none=>rw[h]at hn;cases hn
 |some fn=>
  rw[h]at hn;have h2:(fn.name== "runtime.NumGoroutine" ||!fn.body.isSome)=false:=bC hn;rw[dc,bY]at h2;refine .inr ⟨fid,args,iZ h h2.1 h2.2 args x.w,Calls.mono hc fun e w' he=>?_⟩;obtain⟨v,rfl,hg,I,h3,h4,hr⟩:=he;refine⟨⟨w',I,x.β⟩,rfl,⟨hg,h3,fun b hb=>(h4 b hb).imp id And.left,fun b hb=>?_,rfl⟩,hr⟩;rcases h4 b hb with h5|h5
  ·exact en (himm b h5) hg.size
  ·exact h5.2
def BF (w:World):∀n,fN w (w.drewN n)
 |n=>⟨rfl,rfl,rfl,aY _,fun _ _=>rfl⟩
def jD {fid:Nat}{x:X}{args:Array Value}{d:D}{v:Value}(hn:(Tryz.prog.funcs[fid]?).map (fun f=>f.name== "runtime.NumGoroutine" ||!f.body.isSome)=some false)
  (himm:∀b,x.I b->b<x.w.heap.size) (hc:Calls Tryz.prog fid args x.w fun e w'=>e=.returned v/\fN x.w w') (hr:∀x',RD uK x' v d):
  iA Tryz.prog x (fun v x'=>lh x x'/\RD uK x' v d) ((callFunc fid args).run Tryz.prog x.w):=
 wJ hn himm (Calls.mono hc fun e w' ⟨h1,h2⟩=>⟨v,h1,h2,x.I,fun _ h=>h,fun _ h=>.inl h,hr _⟩)
def fC {x:X}{v:Value}{s:au}(h:RD uK x v (.str s)):v=.string ⟨⟨s⟩⟩/\s.length<=maxLen:=by
 cases h with
 |str s h=>exact⟨rfl,h⟩
def yl {x:X}{v:Value}{k:IntKind}{n:Int}(h:RD uK x v (.int k n)):v=.int k n:=by
 cases h with
 |int k n=>rfl
def tR {args:Array Value}(h:args.size=2):args=#[args.getD 0 undef,args.getD 1 undef]:=by
 obtain⟨l⟩:=args
 match l,h with
 |[a,b],_=>rfl
def Q0 {args:Array Value}(h:args.size=1):args=#[args.getD 0 undef]:=by
 obtain⟨l⟩:=args
 match l,h with
 |[a],_=>rfl
def DH {x:X}{a b:Value}{d e:D}(h1:RD uK x a d)(h2:RD uK x b e):RD uK x (.tuple #[a,b]) (.tup [d,e]):=by
 refine .tup _ _ rfl fun i hi=>?_
 match i,hi with
 |0,_=>exact h1
 |1,_=>exact h2
def Kd {x:X}{a b c:Value}{d e f:D}(h1:RD uK x a d)(h2:RD uK x b e)(h3:RD uK x c f):RD uK x (.tuple #[a,b,c]) (.tup [d,e,f]):=by
 refine .tup _ _ rfl fun i hi=>?_
 match i,hi with
 |0,_=>exact h1
 |1,_=>exact h2
 |2,_=>exact h3
def qk {x:X}(s:au)(h:s.length<=4294967296):RD uK x (.string ⟨s.toArray⟩) (.str s):=.str s (by simp only[maxLen];omega)
def Er (s:au)(b:UInt8):(fE s b).2.1.length<=s.length:=by
 unfold fE;split<;>simp
def E487:Ow 69 487:=by
 refine bq rfl ?_;rintro s b hp hok x args hl hargs hnl himm ⟨⟨_,m,hm⟩,_⟩;obtain⟨h0,hs⟩:=fC (hargs 0 aT);obtain⟨h1,_⟩:=fC (hargs 1 aT);rw[tR hl,h0,h1];refine jD oR himm (Calls.mono (Tryz.strings_Cut ⟨⟨s⟩⟩ ⟨⟨[b]⟩⟩ m x.w (by show s.length<_;omega) hm) fun e w' ⟨h1,n,h2⟩=>⟨h1,h2▸BF _ n⟩) (fun x'=>?_);have hc:Lib.cut (⟨⟨s⟩⟩:ByteArray).data.toList (⟨⟨[b]⟩⟩:ByteArray).data.toList=fE s b:=Mu s b;rw[hc];have:=(GN s b).1;have:=Er s b;exact Kd (qk _ ae) (qk _ ae) (.bool _)
def E254:Ow 30 254:=by
 refine bq rfl ?_;rintro s p hp hp2 hok x args hl hargs hnl himm _;obtain⟨h0,hs⟩:=fC (hargs 0 aT);obtain⟨h1,_⟩:=fC (hargs 1 aT);rw[tR hl,h0,h1];refine jD oR himm (Calls.mono (Tryz.strings_CutPrefix ⟨⟨s⟩⟩ ⟨⟨p⟩⟩ x.w) fun e w' ⟨h1,h2⟩=>⟨h1,h2▸fN.refl _⟩) (fun x'=>?_);have hc:(Lib.trimPrefix s p,Lib.hasPrefix s p)=cO s p:=Es s p;have:=Bx s p;rw[<-hc]at this⊢;have h9:(Lib.trimPrefix s p).length<=s.length:=this;exact DH (qk (Lib.trimPrefix s p) ae) (.bool _)
def E336:Ow 183 336:=by
 refine bq rfl ?_;rintro n hp hok x args hl hargs hnl himm ⟨_,_,ht⟩;have h0:=yl (hargs 0 aT);rw[Q0 hl,h0];refine jD oR himm (Calls.mono (Tryz.strconv_Itoa n ae ae x.w ht) fun e w' ⟨h1,k,os,h2⟩=>⟨h1, ?_⟩) (fun x'=>?_)
 ·subst h2;refine⟨rfl,rfl,rfl,by simp[Sort.grow],fun b hb=>?_⟩;show(x.w.heap++os)[b]? =x.w.heap[b]?;rw[Array.getElem?_append,av hb]
 ·rw[JR hp.1];have:=dT 4 n.toNat ae ae;exact qk _ ae
def vy {fid:Nat}{x:X}{args:Array Value}{ts:List ByteArray}{cap:Nat}{ty:TypeId}{L:List au}(hn:(Tryz.prog.funcs[fid]?).map (fun f=>f.name== "runtime.NumGoroutine" ||!f.body.isSome)=some false)(himm:∀b,x.I b->b<x.w.heap.size)
  (hL:ts.map (fun t=>t.data.toList)=L) (hcap:ts.length<=cap) (hm:cap<=maxLen) (hs:∀t∈L,t.length<=maxLen)
  (hc:Calls Tryz.prog fid args x.w fun e w'=>e=.returned (.slice (some ⟨x.w.heap.size,0,none⟩) ts.length cap)/\w'=x.w.alloc (.cells (Lib.cellsOf ts cap) ty)):
  iA Tryz.prog x (fun v x'=>lh x x'/\RD uK x' v (.sl 1 (L.map D.str))) ((callFunc fid args).run Tryz.prog x.w):=by
 refine wJ hn himm (Calls.mono hc fun e w' ⟨h1,h2⟩=>?_);subst h2;refine⟨_,h1,fN.alloc _ _,fun q=>x.I q\/q=x.w.heap.size,fun _ h=>.inl h,fun q hq=>hq.imp id fun h=>⟨ae,by rw[h];show _<(x.w.heap.push _).size;simp⟩, ?_⟩;have hsl:L.length=ts.length:=by rw[<-hL];simp
 have hget:∀i,i<ts.length->(L.map D.str).getD i .any=.str (ts.getD i default).data.toList:=fun i hi=>by
  rw[<-hL];simp[hi]
 refine .sl _ x.w.heap.size 0 ts.length cap 1 _ (fun i _=>.string (ts.getD i default)) (by simp[hsl]) (.inr ⟨rfl,.inr rfl⟩) hcap hm (fun i hi=>by rw[hget i hi];rfl) (fun i hi=>by rw[hget i hi];rfl) (fun i j hi hj=>?_) (fun i j hi hj=>rfl) (fun i j hi hj=>?_)
 ·obtain rfl:j=0:=ae;have:=dS x.w (.cells (Lib.cellsOf ts cap) ty);refine(cell_of_heap (c:=Lib.cellsOf ts cap) (T:=ty) (fr:=(0,0)) this (by rw[Lib.cellsOf_size hcap];omega)).trans ?_;have hi2:i<(ts.map Value.string).length:=by simpa using hi
  simp only[Lib.cellsOf];simp[hi,List.getElem?_append_left hi2]
 ·obtain rfl:j=0:=ae;rw[hget i hi];show RD uK _ (.string (ts.getD i default)) (.str (ts.getD i default).data.toList);generalize hq:ts.getD i default=q;have hmem:q.data.toList∈L:=by
   rw[<-hL];refine eI.2 ⟨q, ?_,rfl⟩;rw[<-hq];simp[hi]
  have:=hs _ hmem;obtain⟨⟨ql⟩⟩:=q;exact .str ql this
def xt {x:X}{s p:au}{m:Int}{L:List au}(hL:∀ts,ts=Lib.splitB ⟨⟨p⟩⟩ 0 (Lib.countB ⟨⟨s⟩⟩ ⟨⟨p⟩⟩) ⟨⟨s⟩⟩->ts.map (fun t=>t.data.toList)=L)(himm:∀b,x.I b->b<x.w.heap.size)(h1:1<=p.length)(hs:s.length<=1048576)(hl:L.length<=1048577)(hb:∀t∈L,t.length<=1048576)
  (hm:x.w.cell? ⟨0,0,none⟩=some (.int .i64 m)):iA Tryz.prog x (fun v x'=>lh x x'/\RD uK x' v (.sl 1 (L.map D.str))) ((callFunc 67 #[.string ⟨⟨s⟩⟩,.string ⟨⟨p⟩⟩]).run Tryz.prog x.w):=by
 have h2:1<=(⟨⟨p⟩⟩:ByteArray).size:=h1;have hlen:=Lib.splitB_all ⟨⟨p⟩⟩ h2 0 _ (⟨⟨s⟩⟩:ByteArray) rfl;have hc:=Tryz.strings_Split ⟨⟨s⟩⟩ ⟨⟨p⟩⟩ m x.w (by show s.length<_;omega) hm h2;rw[<-hlen,<-Lib.cellsOf_full]at hc;have hL2:=hL _ rfl;have hle:(Lib.splitB ⟨⟨p⟩⟩ 0 (Lib.countB ⟨⟨s⟩⟩ ⟨⟨p⟩⟩) ⟨⟨s⟩⟩).length<=maxLen:=by
  have:L.length=(Lib.splitB ⟨⟨p⟩⟩ 0 (Lib.countB ⟨⟨s⟩⟩ ⟨⟨p⟩⟩) ⟨⟨s⟩⟩).length:=by rw[<-hL2];simp
  simp only[maxLen];omega
 exact vy oR himm hL2 (aY _) hle (fun t ht=>by have:=hb t ht;simp only[maxLen];omega) hc
def sr:∀(s cur:au),(aD s cur).length<=s.length+1/\∀t∈aD s cur,t.length<=cur.length+s.length
 |[],cur=>by simp[aD]
 |[c],cur=>by simp[aD]
 |c::d::r,cur=>by
  unfold aD;split
  ·obtain⟨h1,h2⟩:=sr r [];refine⟨by simp only[ay];omega,fun t ht=>?_⟩;rcases dy.1 ht with rfl|ht
   ·omega
   ·have:=h2 t ht;simp only[ay,az]at this⊢;omega
  ·obtain⟨h1,h2⟩:=sr (d::r) (cur++[c]);refine⟨by simp only[ay]at h1⊢;omega,fun t ht=>?_⟩;have:=h2 t ht;simp only[bA,ay,az]at this⊢;omega
def E124:Ow 67 124:=by
 refine bq rfl ⟨?_, ?_⟩
 ·rintro s b hp hok x args hl hargs hnl himm ⟨⟨_,m,hm⟩,_⟩;obtain⟨h0,hs⟩:=fC (hargs 0 aT);obtain⟨h1,_⟩:=fC (hargs 1 aT);rw[tR hl,h0,h1];have:=er s b.toNat;exact xt (fun ts e=>by rw[e];exact FK b _ (⟨⟨s⟩⟩:ByteArray) rfl) himm (aY 1) hp ae (fun t ht=>cW (gS s b.toNat ht) hp) hm
 ·rintro s hp hok x args hl hargs hnl himm ⟨⟨_,m,hm⟩,_⟩;obtain⟨h0,hs⟩:=fC (hargs 0 aT);obtain⟨h1,_⟩:=fC (hargs 1 aT);rw[tR hl,h0,h1];obtain⟨q1,q2⟩:=sr s [];exact xt (fun ts e=>by rw[e];exact FL _ (⟨⟨s⟩⟩:ByteArray) rfl) himm aM hp ae (fun t ht=>by have:=q2 t ht;simp only[az]at this;omega) hm
def Q3 {args:Array Value}(h:args.size=4):args=#[args.getD 0 undef,args.getD 1 undef,args.getD 2 undef,args.getD 3 undef]:=by
 obtain⟨l⟩:=args
 match l,h with
 |[a,b,c,d],_=>rfl
def E331:Ow 110 331:=by
 refine bq rfl ?_;rintro s hp hok x args hl hargs hnl himm ⟨⟨_,m,hm⟩,_⟩;obtain⟨h0,hs⟩:=fC (hargs 0 aT);obtain⟨h1,_⟩:=fC (hargs 1 aT);have h2:=yl (hargs 2 aT);have h3:=yl (hargs 3 aT);rw[Q3 hl,h0,h1,h2,h3];have hle:=Lib.countB_le ⟨⟨[10]⟩⟩ (aY 1) (⟨⟨s⟩⟩:ByteArray).size ⟨⟨s⟩⟩ (aY _);have hlen:=Lib.splitB_all ⟨⟨[10]⟩⟩ (aY 1) 1 _ (⟨⟨s⟩⟩:ByteArray) rfl;have hc:=Any.strings_genSplit Tryz.lays221 oR ⟨⟨s⟩⟩ ⟨⟨[10]⟩⟩ 1 (-1) (Lib.countB ⟨⟨s⟩⟩ ⟨⟨[10]⟩⟩+1) m x.w (by show s.length<_;omega) hm (aY 1) (aY 1) aM aM (by rw[av aM];omega);rw[Nat.add_sub_cancel]at hc;obtain⟨q1,q2⟩:=J5 s;have hL:=Gp _ (⟨⟨s⟩⟩:ByteArray) rfl;have hsz:(⟨⟨s⟩⟩:ByteArray).size=s.length:=rfl;exact vy oR himm hL ae (by simp only[maxLen];omega) (fun t ht=>by have:=q2 t ht;simp only[maxLen];omega) hc
def E244:Ow 65 244:=by
 refine bq rfl ?_;rintro s hp hok x args hl hargs hnl himm _;obtain⟨h0,hs⟩:=fC (hargs 0 aT);obtain⟨h1,_⟩:=fC (hargs 1 aT);rw[tR hl,h0,h1];refine jD oR himm (Calls.mono (Tryz.strings_CutSuffix ⟨⟨s⟩⟩ ⟨⟨[10]⟩⟩ x.w (by show s.length<=_;omega)) fun e w' ⟨h1,h2⟩=>⟨h1,h2▸fN.refl _⟩) (fun x'=>?_);have hc:(Lib.trimSuffix s [10],Lib.hasSuffix s [10])=bE s:=FN s;have:=qz s;rw[<-hc]at this⊢;have h9:(Lib.trimSuffix s [10]).length<=s.length:=this;exact DH (qk (Lib.trimSuffix s [10]) ae) (.bool _)
def E683:Ow 208 683:=by
 refine bq rfl ?_;rintro s b rfl hp hok x args hl hargs hnl himm _;obtain⟨h0,hs⟩:=fC (hargs 0 aT);obtain⟨h1,_⟩:=fC (hargs 1 aT);rw[tR hl,h0,h1];refine jD oR himm (Calls.mono (Tryz.strings_Trim_one ⟨⟨s⟩⟩ 32 aM x.w (by show s.length<=_;omega)) fun e w' ⟨h1,h2⟩=>⟨h1, ?_⟩) (fun x'=>?_)
 ·rcases h2 with rfl|rfl
  ·exact fN.refl _
  ·exact⟨rfl,rfl,rfl,aY _,fun _ _=>rfl⟩
 ·have:Lib.trimB (⟨⟨s⟩⟩:ByteArray).data.toList 32=dI s:=GB s;rw[this];have hb:(dI s).length<=s.length:=by
   unfold dI;have h1:=mq s;have h2:=mq (iW s).reverse;simp only[List.length_reverse]at h2⊢;omega
  exact qk _ ae
def E489:Ow 21 489:=nr rfl fun ds st K h hok=>JH rfl rfl Tryz.CV Tryz.Mq (Go.Proofs.enters_of Tryz.CV.f166 oR rfl) ds st K h hok
def E664:Ow 144 664:=nr rfl fun ds st K h hok=>JG rfl rfl Tryz.CW Tryz.Mq (Go.Proofs.enters_of Tryz.CW.f167 oR rfl) ds st K h hok
def E452:Ow 24 452:=nr rfl fun ds st K h hok=>JF rfl rfl Tryz.CX Tryz.Mq (Go.Proofs.enters_of Tryz.CX.f169 oR rfl) ds st K h hok
def uB (sep:au)(B:Nat):∀l:List au,(∀t∈l,t.length<=B)->(bc sep l).length<=l.length*(B+sep.length)
 |[],_=>by simp[bc]
 |[t],h=>by have:=h t (.head _);simp only[bc,ay,az];omega
 |t::u::r,h=>by
  have h1:=h t (.head _);have h2:=uB sep B (u::r) fun x hx=>h x (.tail _ hx)
  rw[jJ _ _ _ aT];rw[ay,Nat.succ_mul];simp only[bA];omega
def E242:Ow 35 242:=by
 refine bq rfl ?_;rintro l sep hp1 hp2 hp3 hok x args hl hargs hnl himm _;have h0:=hargs 0 aT;obtain⟨h1,_⟩:=fC (hargs 1 aT);rw[tR hl,h1];have hj:=uB sep 2097200 l hp3;have hj2:=ek (2097200+sep.length) hp1;have hj3:1048600*(2097200+sep.length)<=140737488355328:=by
  have:=Nat.mul_le_mul_left 1048600 (show 2097200+sep.length<=2097204 by omega);omega
 have hjm:(bc sep l).length<=140737488355328:=ae;simp only[ku]at h0;generalize args.getD 0 undef=v0 at h0⊢;cases h0 with
 |sl a b off len cap k es c hlen ha hcap hm hk hn hc h1 h=>
  simp only[cI]at hlen;subst hlen;rcases ha with he|⟨rfl,hI⟩
  ·have hnil:l=[]:=by simpa using he
   subst hnil;refine jD oR himm (Calls.mono (Tryz.strings_Join_none a cap ⟨⟨sep⟩⟩ x.w) fun e w' ⟨h1,h2⟩=>⟨h1,h2▸fN.refl _⟩) (fun x'=>?_);exact qk [] aT
  ·have hcell:∀i,(hi:i<l.length)->x.w.cell? ⟨b,off+i,none⟩=some (.string ⟨⟨l[i]⟩⟩):=fun i hi=>by
    have q1:=hc i 0 hi ae;have q2:=h i 0 hi ae;have e:((l.map D.str).getD i .any).cells.getD 0 .any=.str l[i]:=by simp[hi,D.cells]
    rw[e]at q2;rw[(fC q2).1]at q1;simpa using q1
   have e2:(l.map fun t=>(⟨⟨t⟩⟩:ByteArray)).map (fun t=>t.data.toList)=l:=by rw[List.map_map];exact List.map_id l
   have hjl:Lib.join ((l.map fun t=>(⟨⟨t⟩⟩:ByteArray)).map (fun t=>t.data.toList)) (⟨⟨sep⟩⟩:ByteArray).data.toList=bc sep l:=by rw[e2];exact(zM sep l).symm
   have key:=Tryz.strings_Join b off cap (l.map fun t=>⟨⟨t⟩⟩) ⟨⟨sep⟩⟩ x.w (fun j y hy=>by
    rw[List.getElem?_map,dj]at hy;obtain⟨t,ht,rfl⟩:=hy;obtain⟨hlt,rfl⟩:=List.getElem?_eq_some_iff.1 ht;exact hcell j hlt) (himm b hI) cz (by simpa using hcap) (by rw[hjl];exact hjm)
   rw[hjl,cI]at key;refine jD oR himm (Calls.mono key fun e w' ⟨h1,h2⟩=>⟨h1,h2.os,h2.tape,h2.output,h2.size,h2.block⟩) (fun x'=>?_);exact .str _ (by simp only[maxLen];omega)
end
section
section
variable [c7]
def H70:Ow 56 70:=bq rfl fun r hp0=>aO bm ck rfl (w70 (aH _ _ _ _) Gi Gj G210 PY PZ G213 G214 P0 r hp0)
def H85:Ow 10 85:=bq rfl (aO bm ck rfl (w85 (aH _ _ _ _) P2 Qs))
def H213:Ow 98 213:=bq rfl fun l hp0=>aO bm ck rfl (w213 (aH _ _ _ _) D6 G447 P6 G449 l hp0)
def H219:Ow 63 219:=bq rfl fun r hp0=>aO bm ck rfl (w219 (aH _ _ _ _) L6 G316 G461 G462 r hp0)
def H252:Ow 28 252:=bq rfl fun s hp0=>aO bm ck rfl (w252 (aH _ _ _ _) G239 s hp0)
def H349:Ow 137 349:=bq rfl fun s=>aO bm ck rfl (w349 (aH _ _ _ _) s)
def H441:Ow 134 441:=bq rfl fun s hp0=>aO bm ck rfl (w441 (aH _ _ _ _) P5 Jb L9 Qd s hp0)
def H447:Ow 141 447:=bq rfl fun l=>aO bm ck rfl (w447 (aH _ _ _ _) l)
def H454:Ow 103 454:=bq rfl fun c=>aO bm ck rfl (w454 (aH _ _ _ _) c)
def H460:Ow 152 460:=bq rfl fun r of hp0=>aO bm ck rfl (w460 (aH _ _ _ _) Qk G673 G674 r of hp0)
def H482:Ow 91 482:=bq rfl fun c hp0=>aO bm ck rfl (w482 (aH _ _ _ _) L6 Ql G677 Qm c hp0)
def H511:Ow 47 511:=bq rfl fun l nm v hp0=>aO bm ck rfl (w511 (aH _ _ _ _) G699 l nm v hp0)
def H534:Ow 123 534:=bq rfl fun a b=>aO bm ck rfl (w534 (aH _ _ _ _) G516 Qb L9 Qd a b)
def H658:Ow 162 658:=bq rfl fun s=>aO bm ck rfl (w658 (aH _ _ _ _) s)
def H665:Ow 145 665:=bq rfl fun n hp0=>aO bm ck rfl (w665 (aH _ _ _ _) G336 n hp0)
def H671:Ow 191 671:=bq rfl fun l of hp0=>aO bm ck rfl (w671 (aH _ _ _ _) Qk Qp G816 l of hp0)
def H678:Ow 132 678:=bq rfl fun op=>aO bm ck rfl (w678 (aH _ _ _ _) op)
def H700:Ow 82 700:=bq rfl fun x nm v hp0=>aO bm ck rfl (w700 (aH _ _ _ _) G701 x nm v hp0)
def H745:Ow 220 745:=bq rfl fun r hp0=>aO bm ck rfl (w745 (aH _ _ _ _) Md G901 r hp0)
def H812:Ow 216 812:=bq rfl fun l al=>aO bm ck rfl (w812 (aH _ _ _ _) D7 Qp l al)
def H827:Ow 237 827:=bq rfl fun c hp0=>aO bm ck rfl (w827 (aH _ _ _ _) Gj c hp0)
def H899:Ow 252 899:=bq rfl fun r hp0=>aO bm ck rfl (w899 (aH _ _ _ _) Ql r hp0)
def H948:Ow 241 948:=nr rfl fun x w nd b hp0 nx lp ln m K h1 h2 h3 h4 hK=>eU oA aM rfl (fun _=>rfl) bm ck rfl h1 h2 h3 h4 hK (w948 (aH _ _ _ _) x w nd b hp0)
def H954:Ow 248 954:=bq rfl fun l hp0=>aO bm ck rfl (w954 (aH _ _ _ _) PN l hp0)
def QC:Ow 273 1008:=bq rfl fun l=>aO bm ck rfl (RR (aH _ _ _ _) Ma l)
def QI:Ow 270 1036:=bq rfl fun l i hp0=>aO bm ck rfl (RY (aH _ _ _ _) KO PT l i (L3 (aY _)) hp0)
def QO:Ow 290 1126:=nr rfl fun W w nd hp0 hp1 nx lp ln m K h1 h2 h3 h4 hK=>eU (qj _) aM rfl (fun _=>rfl) bm ck rfl h1 h2 h3 h4 hK (R4 (aH _ _ _ _) W w nd D7 CM KO PV hp0 hp1)
def N76:Ow 34 76:=M1 rfl
def N256:Ow 33 256:=M1 rfl
def N257:Ow 36 257:=M1 rfl
end
end
section
section
variable [c7]
def H71:Ow 62 71:=bq rfl fun r hp0=>aO bm ck rfl (w71 (aH _ _ _ _) Gk Gl G218 P1 r hp0)
def H208:Ow 31 208:=bq rfl fun s=>aO bm ck rfl (w208 (aH _ _ _ _) s)
def H214:Ow 99 214:=bq rfl fun r s hp0=>aO bm ck rfl (w214 (aH _ _ _ _) P6 r s hp0)
def H220:Ow 80 220:=bq rfl fun s=>aO bm ck rfl (w220 (aH _ _ _ _) G463 s)
def H253:Ow 29 253:=bq rfl fun s hp0=>aO bm ck rfl (w253 (aH _ _ _ _) G244 s hp0)
def H353:Ow 20 353:=bq rfl fun s hp0=>aO bm ck rfl (w353 (aH _ _ _ _) G74 Gi G511 s hp0)
def H442:Ow 135 442:=bq rfl fun s hp0=>aO bm ck rfl (w442 (aH _ _ _ _) Jb s hp0)
def H448:Ow 142 448:=bq rfl fun s hp0=>aO bm ck rfl (w448 (aH _ _ _ _) Gi P4 D6 G487 s hp0)
def H455:Ow 147 455:=bq rfl fun n=>aO bm ck rfl (w455 (aH _ _ _ _) n)
def H461:Ow 108 461:=bq rfl fun w hp0=>aO bm ck rfl (w461 (aH _ _ _ _) L6 w hp0)
def H495:Ow 177 495:=bq rfl fun s hp0=>aO bm ck rfl (w495 (aH _ _ _ _) L4 G682 G683 Mb G685 Qt s hp0)
def H516:Ow 166 516:=bq rfl fun a b=>aO bm ck rfl (w516 (aH _ _ _ _) G704 a b)
def H554:Ow 153 554:=bq rfl fun v hp0=>aO bm ck rfl (w554 (aH _ _ _ _) Qn v hp0)
def H659:Ow 165 659:=bq rfl fun t=>aO bm ck rfl (w659 (aH _ _ _ _) t)
def H666:Ow 184 666:=bq rfl fun t=>aO bm ck rfl (w666 (aH _ _ _ _) t)
def H672:Ow 192 672:=bq rfl fun s hp0=>aO bm ck rfl (w672 (aH _ _ _ _) Gk D7 D8 s hp0)
def H682:Ow 207 682:=bq rfl fun s hp0=>aO bm ck rfl (w682 (aH _ _ _ _) G819 s hp0)
def H701:Ow 83 701:=bq rfl fun a b hp0=>aO bm ck rfl (w701 (aH _ _ _ _) Gj G295 a b hp0)
def H783:Ow 205 783:=bq rfl fun a b=>aO bm ck rfl (w783 (aH _ _ _ _) L8 Ma Qi G927 a b)
def H813:Ow 217 813:=bq rfl fun s=>aO bm ck rfl (w813 (aH _ _ _ _) D8 G952 Qx s)
def H828:Ow 238 828:=bq rfl fun c hp0=>aO bm ck rfl (w828 (aH _ _ _ _) Qh Mc Qz c hp0)
def H900:Ow 253 900:=bq rfl fun r hp0=>aO bm ck rfl (w900 (aH _ _ _ _) P9 r hp0)
def H949:Ow 242 949:=nr rfl fun w nd hp0 nx lp ln m K h1 h2 h3 h4 hK=>eU oA aM rfl (fun _=>rfl) bm ck rfl h1 h2 h3 h4 hK (w949 (aH _ _ _ _) w nd (Qe (Nat.le_of_eq (lA (c:=fun _=>0) h1).symm)) Jc Jd (KR (Nat.le_of_eq (lA (c:=fun _=>0) h1).symm)) PL hp0)
def H955:Ow 255 955:=bq rfl fun l nm=>aO bm ck rfl (w955 (aH _ _ _ _) l nm)
def QD:Ow 261 1031:=nr rfl fun k w nd b hp0 nx lp ln m K h1 h2 h3 h4 hK=>eU oA aM rfl (fun _=>rfl) bm ck rfl h1 h2 h3 h4 hK (RS (aH _ _ _ _) k w nd b D6 Jc Jd Qu hp0)
def QJ:Ow 285 1079:=bq rfl fun s w=>aO bm ck rfl (RZ (aH _ _ _ _) s w)
def QP:Ow 291 1141:=nr rfl fun W w nd b hp0 nx lp ln m K h1 h2 h3 h4 hK=>se (qj _) aM rfl (fun _=>rfl) bm ck rfl h1 h2 h3 h4 hK (R5 (aH _ _ _ _) W w nd b hp0)
end
end
section
section
variable [c7]
def H72:Ow 22 72:=bq rfl fun r hp0=>aO bm ck rfl (w72 (aH _ _ _ _) G70 P0 r hp0)
def H209:Ow 94 209:=bq rfl fun v hp0=>aO bm ck rfl (w209 (aH _ _ _ _) G440 G441 P5 v hp0)
def H215:Ow 57 215:=bq rfl fun r hp0=>aO bm ck rfl (w215 (aH _ _ _ _) L5 G450 G451 P7 r hp0)
def H221:Ow 104 221:=bq rfl fun s=>aO bm ck rfl (w221 (aH _ _ _ _) G464 s)
def H255:Ow 32 255:=bq rfl fun s hp0=>aO bm ck rfl (w255 (aH _ _ _ _) L4 P3 G499 s hp0)
def H357:Ow 189 357:=bq rfl fun s=>aO bm ck rfl (w357 (aH _ _ _ _) P8 L7 s)
def H443:Ow 136 443:=bq rfl fun r w al hp0=>aO bm ck rfl (w443 (aH _ _ _ _) PY D6 r w al hp0)
def H449:Ow 143 449:=bq rfl fun l nm=>aO bm ck rfl (w449 (aH _ _ _ _) G663 l nm)
def H456:Ow 148 456:=bq rfl fun s p hp0=>aO bm ck rfl (w456 (aH _ _ _ _) D8 G666 Ma Qi s p hp0)
def H462:Ow 109 462:=bq rfl fun s hp0=>aO bm ck rfl (w462 (aH _ _ _ _) s hp0)
def H496:Ow 178 496:=bq rfl fun r hp0=>aO bm ck rfl (w496 (aH _ _ _ _) Mb r hp0)
def H530:Ow 119 530:=bq rfl fun v=>aO bm ck rfl (w530 (aH _ _ _ _) v)
def H572:Ow 190 572:=bq rfl fun s hp0=>aO bm ck rfl (w572 (aH _ _ _ _) G744 G745 s hp0)
def H660:Ow 179 660:=nr rfl fun w nd hp0 nx lp ln m K h1 h2 h3 h4 hK=>eU oA aM rfl (fun _=>rfl) bm ck rfl h1 h2 h3 h4 hK (w660 (aH _ _ _ _) w nd (KP (Nat.le_of_eq (lA (c:=fun _=>4) h1).symm)) hp0)
def H667:Ow 185 667:=bq rfl fun s=>aO bm ck rfl (w667 (aH _ _ _ _) L7 s)
def H673:Ow 193 673:=bq rfl fun r x=>aO bm ck rfl (w673 (aH _ _ _ _) r x)
def H684:Ow 209 684:=bq rfl fun r hp0=>aO bm ck rfl (w684 (aH _ _ _ _) L5 Mc Qq r hp0)
def H704:Ow 203 704:=bq rfl fun x=>aO bm ck rfl (w704 (aH _ _ _ _) x)
def H808:Ow 211 808:=nr rfl ⟨fun w nd hp0 nx lp ln m K h1 h2 h3 h4 hK=>eU oA aM rfl (fun _=>rfl) bm ck rfl h1 h2 h3 h4 hK (R9 (aH _ _ _ _) iY 809 nS 4 w nd Me Jc Jd hp0 tX aM aM (fun w2 nd2 hl hp=>Qo (aY _) w2 nd2 hp (by rw[lA h1];exact(show 6*w2.length+2<6*w.length+3 by omega)))),fun w nd hp0 nx lp ln m K h1 h2 h3 h4 hK=>eU oA aM rfl (fun _=>rfl) bm ck rfl h1 h2 h3 h4 hK (R9 (aH _ _ _ _) iC 949 jB 3 w nd Me Jc Jd hp0 rR aM aM (fun w2 nd2 hl hp=>KR (aY _) w2 nd2 hp (by rw[lA h1];exact(show 6*w2.length+0<6*w.length+1 by omega))))⟩
def H814:Ow 218 814:=bq rfl fun m=>aO bm ck rfl (w814 (aH _ _ _ _) Qx Qy m)
def H882:Ow 206 882:=bq rfl fun n hp0=>aO bm ck rfl (w882 (aH _ _ _ _) n hp0)
def H901:Ow 254 901:=bq rfl fun r hp0=>aO bm ck rfl (w901 (aH _ _ _ _) Qr Md r hp0)
def H950:Ow 243 950:=bq rfl (aO bm ck rfl (w950 (aH _ _ _ _)))
def H956:Ow 256 956:=bq rfl fun s w=>aO bm ck rfl (w956 (aH _ _ _ _) s w)
def QE:Ow 266 1032:=nr rfl fun W w nd hp0 hp1 nx lp ln m K h1 h2 h3 h4 hK=>eU (qj _) aM rfl (fun _=>rfl) bm ck rfl h1 h2 h3 h4 hK (RU (aH _ _ _ _) W w nd Gf CM (Gg (Nat.le_of_eq (qc (c:=fun _=>1) hp0.1 h1).symm)) hp0 hp1)
def QK:Ow 281 1097:=nr rfl fun W w nd hp0 hp1 nx lp ln m K h1 h2 h3 h4 hK=>eU (qj _) aM rfl (fun _=>rfl) bm ck rfl h1 h2 h3 h4 hK (R0 (aH _ _ _ _) W w nd (Qw (Nat.le_of_eq (qc (c:=fun _=>0) hp0.1 h1).symm)) Gf CM (Gg (Nat.le_of_eq (qc (c:=fun _=>0) hp0.1 h1).symm)) PU hp0 hp1)
def QQ:Ow 3 1196:=bq rfl fun s hp0=>aO bm ck rfl (R6 (aH _ _ _ _) G85 P2 PW PX s hp0)
end
end
section
section
variable [c7]
def H73:Ow 26 73:=bq rfl fun r hp0=>aO bm ck rfl (w73 (aH _ _ _ _) G71 P1 r hp0)
def H210:Ow 95 210:=bq rfl fun r n hp0=>aO bm ck rfl (w210 (aH _ _ _ _) PZ D6 G443 r n hp0)
def H216:Ow 59 216:=bq rfl fun s=>aO bm ck rfl (w216 (aH _ _ _ _) P8 L7 s)
def H239:Ow 64 239:=bq rfl fun s hp0=>aO bm ck rfl (w239 (aH _ _ _ _) G331 s hp0)
def H295:Ow 72 295:=bq rfl fun a b hp0=>aO bm ck rfl (w295 (aH _ _ _ _) Gj G530 G531 Qb Jb G534 a b hp0)
def H358:Ow 25 358:=bq rfl fun s hp0=>aO bm ck rfl (w358 (aH _ _ _ _) G75 Gk G580 s hp0)
def H444:Ow 138 444:=bq rfl fun s hp0=>aO bm ck rfl (w444 (aH _ _ _ _) G495 G496 s hp0)
def H450:Ow 100 450:=nr rfl fun ws t l lw nx m K h1 h2 h3 h4 hp2 hK=>EN bm ck rfl h1 h2 h3 h4 hK fun m0 hp0 hp1=>w450 (aH _ _ _ _) ws t m0 L5 Qa G664 hp0 hp1 hp2
def H457:Ow 149 457:=bq rfl fun r n hp0=>aO bm ck rfl (w457 (aH _ _ _ _) D7 G669 Qj r n hp0)
def H463:Ow 129 463:=bq rfl fun h k hp0=>aO bm ck rfl (w463 (aH _ _ _ _) h k hp0)
def H497:Ow 23 497:=bq rfl fun n=>aO bm ck rfl (w497 (aH _ _ _ _) G686 n)
def H531:Ow 120 531:=bq rfl fun l=>aO bm ck rfl (w531 (aH _ _ _ _) l)
def H580:Ow 61 580:=bq rfl fun l nm v hp0=>aO bm ck rfl (w580 (aH _ _ _ _) G501 l nm v hp0)
def H661:Ow 180 661:=bq rfl fun m=>aO bm ck rfl (w661 (aH _ _ _ _) Qg G810 m)
def H668:Ow 186 668:=bq rfl fun t=>aO bm ck rfl (w668 (aH _ _ _ _) t)
def H674:Ow 194 674:=bq rfl fun r x=>aO bm ck rfl (w674 (aH _ _ _ _) r x)
def H685:Ow 210 685:=bq rfl fun r hp0=>aO bm ck rfl (w685 (aH _ _ _ _) Mb r hp0)
def H714:Ow 164 714:=bq rfl fun x=>aO bm ck rfl (w714 (aH _ _ _ _) x)
def H809:Ow 212 809:=nr rfl fun w nd hp0 nx lp ln m K h1 h2 h3 h4 hK=>eU oA aM rfl (fun _=>rfl) bm ck rfl h1 h2 h3 h4 hK (w809 (aH _ _ _ _) w nd (KP (Nat.le_of_eq (lA (c:=fun _=>2) h1).symm)) hp0)
def H815:Ow 221 815:=bq rfl fun l=>aO bm ck rfl (w815 (aH _ _ _ _) l)
def H896:Ow 249 896:=bq rfl fun s hp0=>aO bm ck rfl (w896 (aH _ _ _ _) s hp0)
def H927:Ow 228 927:=bq rfl fun a b=>aO bm ck rfl (w927 (aH _ _ _ _) a b)
def H951:Ow 244 951:=bq rfl fun l i b hp0=>aO bm ck rfl (w951 (aH _ _ _ _) l i b (KQ (aY _)) hp0)
def H957:Ow 257 957:=bq rfl fun op=>aO bm ck rfl (w957 (aH _ _ _ _) op)
def QF:Ow 267 1033:=nr rfl fun s W w nd b hp0 nx lp ln m K h1 h2 h3 h4 hK=>se (qj _) aM rfl (fun _=>rfl) bm ck rfl h1 h2 h3 h4 hK (RV (aH _ _ _ _) s W w nd b hp0)
def QL:Ow 282 1098:=bq rfl fun n=>aO bm ck rfl (R1 (aH _ _ _ _) D7 n)
def QR:Ow 9 1201:=bq rfl fun s=>aO bm ck rfl (R7 (aH _ _ _ _) s)
end
end
section
section
variable [c7]
def H74:Ow 46 74:=bq rfl fun r hp0=>aO bm ck rfl (w74 (aH _ _ _ _) G72 G220 r hp0)
def H211:Ow 96 211:=bq rfl fun r name nT hp0=>aO bm ck rfl (w211 (aH _ _ _ _) Gi G444 r name nT hp0)
def H217:Ow 105 217:=bq rfl fun v hp0=>aO bm ck rfl (w217 (aH _ _ _ _) G455 G456 v hp0)
def H249:Ow 77 249:=bq rfl fun l x hp0=>aO bm ck rfl (w249 (aH _ _ _ _) l x hp0)
def H313:Ow 27 313:=bq rfl fun n=>aO bm ck rfl (w313 (aH _ _ _ _) n)
def H424:Ow 126 424:=bq rfl fun a b hp0=>aO bm ck rfl (w424 (aH _ _ _ _) Gl L8 G631 a b hp0)
def H445:Ow 139 445:=bq rfl fun s=>aO bm ck rfl (w445 (aH _ _ _ _) L4 G660 Qf s)
def H451:Ow 101 451:=bq rfl fun v hp0=>aO bm ck rfl (w451 (aH _ _ _ _) Gj Qh v hp0)
def H458:Ow 150 458:=bq rfl fun r b hp0=>aO bm ck rfl (w458 (aH _ _ _ _) Gk Qc Qj r b hp0)
def H464:Ow 146 464:=bq rfl fun h n hp0=>aO bm ck rfl (w464 (aH _ _ _ _) h n hp0)
def H499:Ow 68 499:=bq rfl fun s=>aO bm ck rfl (w499 (aH _ _ _ _) s)
def H532:Ow 121 532:=bq rfl fun a b=>aO bm ck rfl (w532 (aH _ _ _ _) G714 a b)
def H630:Ow 173 630:=bq rfl fun a b=>aO bm ck rfl (w630 (aH _ _ _ _) a b)
def H662:Ow 181 662:=bq rfl fun l hp0=>aO bm ck rfl (w662 (aH _ _ _ _) G811 l hp0)
def H669:Ow 187 669:=bq rfl fun r w al hp0=>aO bm ck rfl (w669 (aH _ _ _ _) Gk Qc G812 r w al hp0)
def H676:Ow 130 676:=bq rfl fun c hp0=>aO bm ck rfl (w676 (aH _ _ _ _) Gl c hp0)
def H686:Ow 58 686:=bq rfl fun k hp0=>aO bm ck rfl (w686 (aH _ _ _ _) k hp0)
def H734:Ow 176 734:=bq rfl fun n hp0=>aO bm ck rfl (w734 (aH _ _ _ _) G882 n hp0)
def H810:Ow 213 810:=bq rfl fun l=>aO bm ck rfl (w810 (aH _ _ _ _) D6 l)
def H816:Ow 222 816:=bq rfl fun l nm=>aO bm ck rfl (w816 (aH _ _ _ _) G955 l nm)
def H897:Ow 250 897:=bq rfl fun s hp0=>aO bm ck rfl (w897 (aH _ _ _ _) D8 P9 PI PJ PK s hp0)
def H946:Ow 239 946:=bq rfl fun w es b=>aO bm ck rfl (w946 (aH _ _ _ _) w es b)
def H952:Ow 246 952:=nr rfl fun W w nd hp0 hp1 nx lp ln m K h1 h2 h3 h4 hK=>eU (qj _) aM rfl (fun _=>rfl) bm ck rfl h1 h2 h3 h4 hK (w952 (aH _ _ _ _) W w nd (L2 (Nat.le_of_eq (qc (c:=fun _=>2) hp0.1 h1).symm)) Gf CM hp0 hp1)
def QA:Ow 271 1006:=bq rfl fun s=>aO bm ck rfl (RP (aH _ _ _ _) Qm PQ s)
def QG:Ow 268 1034:=nr rfl fun x W w nd b hp0 nx lp ln m K h1 h2 h3 h4 hK=>eU (qj _) aM rfl (fun _=>rfl) bm ck rfl h1 h2 h3 h4 hK (RW (aH _ _ _ _) x W w nd b hp0)
def QM:Ow 283 1099:=bq rfl fun k hp0=>aO bm ck rfl (R2 (aH _ _ _ _) k hp0)
def QS:Ow 12 1202:=bq rfl fun s hp0=>aO bm ck rfl (R8 (aH _ _ _ _) G73 G313 G358 s hp0)
end
end
section
section
variable [c7]
def H75:Ow 60 75:=bq rfl fun r hp0=>aO bm ck rfl (w75 (aH _ _ _ _) G73 G221 r hp0)
def H212:Ow 97 212:=bq rfl fun s=>aO bm ck rfl (w212 (aH _ _ _ _) G445 G446 s)
def H218:Ow 106 218:=bq rfl fun r hp0=>aO bm ck rfl (w218 (aH _ _ _ _) G457 G458 G459 G460 r hp0)
def H251:Ow 11 251:=bq rfl fun s hp0=>aO bm ck rfl (w251 (aH _ _ _ _) G72 G353 P7 Qa G497 s hp0)
def H316:Ow 107 316:=bq rfl fun v hp0=>aO bm ck rfl (w316 (aH _ _ _ _) Gl G554 v hp0)
def H440:Ow 133 440:=bq rfl fun n=>aO bm ck rfl (w440 (aH _ _ _ _) n)
def H446:Ow 140 446:=bq rfl fun m=>aO bm ck rfl (w446 (aH _ _ _ _) Qf Qg m)
def H453:Ow 102 453:=bq rfl fun c=>aO bm ck rfl (w453 (aH _ _ _ _) c)
def H459:Ow 151 459:=bq rfl fun l hp0=>aO bm ck rfl (w459 (aH _ _ _ _) D7 G671 l hp0)
def H470:Ow 73 470:=bq rfl fun s b hp0=>aO bm ck rfl (w470 (aH _ _ _ _) s b hp0)
def H501:Ow 76 501:=bq rfl fun a b hp0=>aO bm ck rfl (w501 (aH _ _ _ _) Gl G424 a b hp0)
def H533:Ow 122 533:=bq rfl fun s b hp0=>aO bm ck rfl (w533 (aH _ _ _ _) s b hp0)
def H631:Ow 174 631:=bq rfl fun a b hp0=>aO bm ck rfl (w631 (aH _ _ _ _) D8 L8 G783 a b hp0)
def H663:Ow 182 663:=bq rfl fun l nm=>aO bm ck rfl (w663 (aH _ _ _ _) l nm)
def H670:Ow 188 670:=bq rfl fun s=>aO bm ck rfl (w670 (aH _ _ _ _) G813 G814 s)
def H677:Ow 131 677:=nr rfl fun c hp0 nx m K hK=>FR rfl rfl bm ck rfl rfl hK (w677 (aH _ _ _ _) c Qn hp0)
def H699:Ow 81 699:=bq rfl fun l nm v hp0=>aO bm ck rfl (w699 (aH _ _ _ _) G700 l nm v hp0)
def H744:Ow 219 744:=bq rfl fun s hp0=>aO bm ck rfl (w744 (aH _ _ _ _) D8 G896 G897 G898 Qr Md s hp0)
def H811:Ow 214 811:=bq rfl fun l i hp0=>aO bm ck rfl (w811 (aH _ _ _ _) Qu l i (KQ (aY _)) (Qv (aY _)) hp0)
def H819:Ow 229 819:=bq rfl fun s hp0=>aO bm ck rfl (w819 (aH _ _ _ _) Jb L9 Mc Qq G956 Qz s hp0)
def H898:Ow 251 898:=bq rfl fun s=>aO bm ck rfl (w898 (aH _ _ _ _) s)
def H947:Ow 240 947:=nr rfl fun w nd b nx lp ln m K h1 h2 h3 h4 hK=>se oA aM rfl (fun _=>rfl) bm ck rfl h1 h2 h3 h4 hK (w947 (aH _ _ _ _) w nd b Me)
def H953:Ow 247 953:=bq rfl fun m=>aO bm ck rfl (w953 (aH _ _ _ _) Qy PM m)
def QB:Ow 272 1007:=bq rfl fun s=>aO bm ck rfl (RQ (aH _ _ _ _) s)
def QH:Ow 269 1035:=bq rfl fun l hp0=>aO bm ck rfl (RX (aH _ _ _ _) PS l hp0)
def QN:Ow 284 1100:=bq rfl fun s b hp0=>aO bm ck rfl (R3 (aH _ _ _ _) s b hp0)
def QT:Ow 13 86:=bq rfl fun s hp0 hp1=>aO bm ck rfl (Sa (aH _ _ _ _) Gi G252 P3 P4 G255 s hp0 hp1)
end
end
def IY:List (Nat×Nat)->Prop
 |[]=>True
 |p::r=>Ow p.1 p.2/\IY r
def IY.mem:∀{l:List (Nat×Nat)},IY l->∀p∈l,Ow p.1 p.2
 |p::r,h,q,hq=>by
  rcases dy.1 hq with rfl|hq
  ·exact h.1
  ·exact h.2.mem q hq
def allY:IY uK:=⟨QQ,QR,H85,H251,QS,QT,H353,E489,H72,H497,E452,H358,H73,H313,H252,H253,E254,H208,H255,N256,N76,E242,N257,H74,H511,H70,H215,H686,H216,H75,H580,H71,H219,H239,E244,E124,H499,E487,H295,H470,H501,H249,H220,H699,H700,H701,H482,H209,H210,H211,H212,H213,H214,H450,H451,H453,H454,H221,H217,H218,H316,H461,H462,E331,H530,H531,H532,H533,H534,H424,H463,H676,H677,H678,H440,H441,H442,H443,H349,H444,H445,H446,H447,H448,H449,E664,H665,H464,H455,H456,H457,H458,H459,H460,H554,H658,H714,H659,H516,H630,H631,H734,H495,H496,H660,H661,H662,H663,E336,H666,H667,H668,H669,H670,H357,H572,H671,H672,H673,H674,H704,H783,H882,H682,E683,H684,H685,H808,H809,H810,H811,H812,H813,H814,H744,H745,H815,H816,H927,H819,H827,H828,H946,H947,H948,H949,H950,H951,H952,H953,H954,H896,H897,H898,H899,H900,H901,H955,H956,H957,QD,QE,QF,QG,QH,QI,QA,QB,QC,QK,QL,QM,QN,QJ,QO,QP,trivial⟩
def rF:∀{l:List (Nat×Nat)}{a b:Nat},ez l a=some b->(a,b)∈l
 |[],_,_,h=>by simp[ez]at h
 |(c,d)::r,a,b,h=>by
  simp only[ez]at h;split at h
  ·rename_i e;simp_all
  ·exact .tail _ (rF h)
def okY:Ok (Go.Proofs.Tryz.prog) uK GS (vZ aX):=okA (fun fid n hn=>(show ∀p∈uK,p.2<1000000 by decide+kernel) _ (rF hn)) (fun t ht=>by simp[GS]at ht;show t=60;omega) fun fid n hn=>allY.mem (fid,n) (rF hn)
section
open Go.RowKit Go.ChangeShapes
def fN.below {w w':World}(h:fN w w'):Below w.heap.size w w':=⟨h.os,h.tape,h.output,h.size,h.old⟩
section
variable {H:Type} {enc:TypeId×Value->H} {P:Program}
def wm {f:Func}{s:ChangeSpec}{apart fresh handsOn again:Bool}{W W':World}{args:Array Value}{v:Value}{ds gs:List (DataW H)}{before pa pv:List MemPlace}
  (hW:DataW.Whole enc P f.params.toList s.vars apart W args.toList ds gs before)
  (hres:∀(b:Nat) (sp:Nat->Bool) (hd:Bool),DataW.TrodAll enc P W' b sp hd f.resultTypes.toList (v.resultList f.resultTypes.size) (s.fn H (ds++gs)).results [])
  (hargs:∀sp:Nat->Bool,(∀p∈before,sp p.block=true)->DataW.TrodAll enc P W' 0 sp true f.params.toList args.toList (s.fn H (ds++gs)).args pa)
  (hvars:∀sp:Nat->Bool,(∀p∈before,sp p.block=true)->DataW.TrodVars enc P W' sp s.vars (s.fn H (ds++gs)).vars pv)
  (hps:before=pa++pv) (hb:Below W.heap.size W W')
  (hok:∀(j:Nat) (t:TypeId) (r:Value),f.resultTypes[j]? =some t->(v.resultList f.resultTypes.size)[j]? =some r->Value.okWide P W' .any 0 t r):
  s.post enc P f apart fresh handsOn again W args v W':=by
 have hold:∀p∈before,(fun b=>decide (b<W.heap.size)) p.block=true:=fun p hp=>by simpa using hW.lt p hp
 refine⟨ds,gs,before,[],pa,pv,hW,hres _ _ _,hargs _ hold,hvars _ hold,World.keptBut_mono (fun p hp=>⟨hp, ?_⟩) (hb.frame (· ∈before)),fun _=>?_⟩
 ·rw[hps,List.mem_append]at hp;exact Or.inr hp
 ·have hlt:=hW.lt;obtain⟨_,_,_,_,_,hz,hn⟩:=hW;refine⟨hok,_,_,([]++pa)++pv,⟨[]++pa,pv,trodAll_append (hargs _ (fun _ _=>rfl)) (hres _ _ _),hvars _ (fun _ _=>rfl),rfl, ?_, ?_⟩, ?_⟩
  ·intro b off hp;have hmem:MemPlace.cell b off∈before:=by rw[hps];simpa using hp
   have hq:=hz b off hmem;have hl:b<W.heap.size:=hlt _ hmem;simpa only[World.frozen?,hb.block b hl]using hq
  ·intro ha;have:=hn ha;rw[hps]at this;simpa using this
  ·intro p hp _;rw[hps];simpa using hp
end
end
end Go.Abs
