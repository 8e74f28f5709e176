/- A part of the proofs. -/
import Derived.Test.YtkmlboofmolbaaaGreatDoorP08
set_option linter.all false
set_option maxRecDepth 60000
set_option maxHeartbeats 2000000
namespace Go.Abs
def Ij (T:List D->D->Prop):Prop:=∀(w:bT),(w.sm)->T [bT.D w] (.int .i64 ((CG w.us:Nat):Int))
def C114 (Y:Ctx):Prop:=Ij (aG Y 114)
def Jg (T:List D->D->Prop):Prop:=∀(l:List iC) (p:iC),(l.length<=10000)->T [.sl 2 (l.map iC.D),iC.D p] (.tup [.sl 2 ((lD l p).1.map iC.D),.bool (lD l p).2])
def C581 (Y:Ctx):Prop:=Jg (aG Y 581)
def Il (T:List D->D->Prop):Prop:=∀(l:List gO),(vX l)->T [.sl 11 (l.map gO.D)] (.tup [.int .i64 0,.int .i64 0])
def UR (Y:Ctx):Prop:=Il (aG Y 143)
def DW (T:List D->D->Prop):Prop:=∀(l:List gO) (nm:av),(vX l)->T [.sl 11 (l.map gO.D),.str nm] (.int .i64 (lE l nm))
def ad7 (Y:Ctx):Prop:=DW (aG Y 1012)
def D4 (T:List D->D->Prop):Prop:=∀(s:bJ) (nm:av),T [bJ.D s,.str nm] (.bool (B6 nm s))
def aei (Y:Ctx):Prop:=D4 (aG Y 1121)
def C361 (Y:Ctx):Prop:=tC (aG Y 361)
def D3 (T:List D->D->Prop):Prop:=∀(l:List iC),T [.sl 2 (l.map iC.D)] (.bool (zJ l))
def aeh (Y:Ctx):Prop:=D3 (aG Y 1120)
def D1 (T:List D->D->Prop):Prop:=∀(shop:List bJ) (ps:List iC) (nm:av),(ja shop)->T [.sl 2 (shop.map bJ.D),.sl 2 (ps.map iC.D),.str nm] (.tup [.int .i64 (fS shop ps nm).1,.int .i64 (fS shop ps nm).2])
def aee (Y:Ctx):Prop:=D1 (aG Y 1083)
def D2 (T:List D->D->Prop):Prop:=∀(s:bJ) (nm:av),(∀x∈s.es,gZ x.r)->T [bJ.D s,.str nm] (.sl 1 ((j7 s nm).map (D.int .i64)))
def aef (Y:Ctx):Prop:=D2 (aG Y 1084)
def DX (T:List D->D->Prop):Prop:=∀(shop:List bJ) (ps:List iC) (nm:av),(ja shop)->T [.sl 2 (shop.map bJ.D),.sl 2 (ps.map iC.D),.str nm] (.tup [.int .i64 (cE shop ps nm).1,.sl 1 ((cE shop ps nm).2.1.map (D.int .i64)),.int .i64 (cE shop ps nm).2.2])
def ad8 (Y:Ctx):Prop:=DX (aG Y 1013)
def DY (T:List D->D->Prop):Prop:=∀(l:List gO) (nm:av),(vX l)->T [.sl 11 (l.map gO.D),.str nm] (.tup [cr.D (kC l nm),.int .i64 0])
def ad9 (Y:Ctx):Prop:=DY (aG Y 1014)
def DZ (T:List D->D->Prop):Prop:=∀(y:cx) (ns:List av) (r:Rec),((∀k∈y.keeps,k.v.sm)/\r.v.sm)->T [cx.D y (fdR y ns),Rec.D r] (.bool (K8 y.keeps r))
def aea (Y:Ctx):Prop:=DZ (aG Y 1015)
def C909 (Y:Ctx):Prop:=∀(y:cx) (ns:List av) (nm:av),pe y->Nr Y 909 y (fun f=>[cx.D y f,.str nm]) ns ns (uj (dE y nm))
def C755 (Y:Ctx):Prop:=∀(y:cx) (ns:List av) (nm:av),pe y->ns.length<=1000->Nr Y 755 y (fun f=>[cx.D y f,.str nm]) ns (eL ns nm) (uj (dE y nm))
def C752 (Y:Ctx):Prop:=∀(y:cx) (ns:List av) (k:Key),pe y->ns.length<=999->Nr Y 752 y (fun f=>[cx.D y f,Key.D k]) ns (eL ns k.n) (uj (eF y k))
def C751 (Y:Ctx):Prop:=∀(y:cx) (ns:List av),(∀m∈y.l,m.r.v∈bN)->y.l.length<=1000->Nr Y 751 y (fun f=>[cx.D y f]) ns ns (.sl 1 ((eC y.l).map dL))
def JM (T:List D->D->Prop):Prop:=∀(a:Key) (b:Key),T [Key.D a,Key.D b] (.bool (eP a b))
def C902 (Y:Ctx):Prop:=JM (aG Y 902)
def D0 (T:List D->D->Prop):Prop:=∀(x:cZ),(x.feats.length<=10000)->T [cZ.D x] (.sl 2 ((eV x).map Key.D))
def aed (Y:Ctx):Prop:=D0 (aG Y 1080)
def DV (T:List D->D->Prop):Prop:=∀(n:bj),(vW n/\n.sm)->T [bj.D n] (.sl 1 ((iA n).map dL))
def UO (Y:Ctx):Prop:=DV (aG Y 1009)
def JQ (T:List D->D->Prop):Prop:=∀(r:Rec) (e:Env) (nm:av) (ft:av),(Bz r/\kX e)->T [Rec.D r,Env.D e,.str nm,.str ft] (.sl 1 ((iN r.needs e nm ft).map dL))
def C906 (Y:Ctx):Prop:=JQ (aG Y 906)
def JO (T:List D->D->Prop):Prop:=∀(r:Rec) (e:Env) (o:av),(Bz r/\kX e)->T [Rec.D r,Env.D e,.str o] (.sl 1 ((qx r.needs e o).map dL))
def C904 (Y:Ctx):Prop:=JO (aG Y 904)
def JP (T:List D->D->Prop):Prop:=∀(l:List b6) (nm:av),T [.sl 2 (l.map b6.D),.str nm] (.sl 1 ((uC l nm).map D.str))
def C905 (Y:Ctx):Prop:=JP (aG Y 905)
def JB (T:List D->D->Prop):Prop:=∀(r:Rec) (e:Env) (ft:av),((Bz r/\r.v∈bN)/\kX e)->T [Rec.D r,Env.D e,.str ft] (.sl 1 ((cH r e ft).map dL))
def C753 (Y:Ctx):Prop:=JB (aG Y 753)
def JN (T:List D->D->Prop):Prop:=∀(l:List Key) (k:Key),T [.sl 2 (l.map Key.D),Key.D k] (.int .i64 (ec l k))
def C903 (Y:Ctx):Prop:=JN (aG Y 903)
def JA (T:List D->D->Prop):Prop:=∀(all:List Key) (l:List fJ),(l.length<=1000/\∀r∈l,r.length<=1000)->T [.sl 2 (all.map Key.D),.sl 1 (l.map dL)] (.sl 1 ((dy all l).map jv))
def C750 (Y:Ctx):Prop:=JA (aG Y 750)
def JC (T:List D->D->Prop):Prop:=∀(all:List Key) (r:Rec) (e:Env),(Bz r/\kX e)->T [.sl 2 (all.map Key.D),Rec.D r,Env.D e] (.sl 3 ((we all r e).map Want.D))
def C754 (Y:Ctx):Prop:=JC (aG Y 754)
def C583 (Y:Ctx):Prop:=∀(y:cx) (ns:List av) (all:List Key) (k:Key),(qa y/\kX y.e)->ns.length<=990->Nr Y 583 y (fun f=>[cx.D y f,.sl 2 (all.map Key.D),Key.D k]) ns (jk ns k) (rB y all k)
def C748 (Y:Ctx):Prop:=∀(y:cx) (ns:List av) (k:Key),(qa y/\kX y.e)->ns.length<=998->Nr Y 748 y (fun f=>[cx.D y f,Key.D k]) ns (jk ns k) (.sl 1 ((cT y k).map dL))
def Jz (T:List D->D->Prop):Prop:=∀(l:List Key) (k:Key),(l.length<=200000)->T [.sl 2 (l.map Key.D),Key.D k] (.sl 2 ((r9 l k).map Key.D))
def C749 (Y:Ctx):Prop:=Jz (aG Y 749)
def C582 (Y:Ctx):Prop:=∀(y:cx) (ns:List av),(qa y/\kX y.e)->ns.length<=900->Nr Y 582 y (fun f=>[cx.D y f]) ns (sb y 49 nq ns) (qA y)
def C362 (Y:Ctx):Prop:=∀(y:cx),(qa y/\kX y.e)->WldC Y 362 y (y2 y)
def IJ (T:List D->D->Prop):Prop:=∀(l:List gO),(vX l)->T [.sl 11 (l.map gO.D)] (.tup [.sl 2 ((gw l).map iC.D),.int .i64 0])
def C360 (Y:Ctx):Prop:=IJ (aG Y 360)
def Im (T:List D->D->Prop):Prop:=∀(l:List gO) (shop:List bJ) (e:Env) (ks:List Kp),(qa (xU l shop e ks)/\kX e)->T [.sl 11 (l.map gO.D),.sl 2 (shop.map bJ.D),Env.D e,.sl 6 (ks.map Kp.D)] (.tup [bT.D (gG l shop e ks).1,.int .i64 (gG l shop e ks).2])
def C147 (Y:Ctx):Prop:=Im (aG Y 147)
def I7 (T:List D->D->Prop):Prop:=∀(w:bT) (c:List Int),(w.sm)->T [bT.D w,.sl 1 (c.map (D.int .i64))] (.sl 1 ((ff w c).map D.bool))
def C506 (Y:Ctx):Prop:=I7 (aG Y 506)
def IB (T:List D->D->Prop):Prop:=∀(w:bT) (c:List Int),(w.sm)->(c.length<=1000)->T [bT.D w,.sl 1 (c.map (D.int .i64))] (.sl 1 ((rh w c).map (D.int .i64)))
def C269 (Y:Ctx):Prop:=IB (aG Y 269)
def PV (T:List D->D->Prop):Prop:=∀(m:gO) (shop:List bJ) (e:Env) (os:List Int),(qa (Ie m shop e)/\kX e)->T [.sl 11 ([m].map gO.D),.sl 2 (shop.map bJ.D),Env.D e,.sl 1 (os.map (D.int .i64))] (.tup [bT.D (dk m shop e os).1,.sl 1 ((dk m shop e os).2.1.map (D.int .i64)),.bool (dk m shop e os).2.2])
def C91 (Y:Ctx):Prop:=PV (aG Y 91)
def I8 (T:List D->D->Prop):Prop:=∀(w:bT) (c:List Int) (nm:av),((1<=w.us.length/\w.us.length<=1000)/\w.us.length<=c.length)->T [bT.D w,.sl 1 (c.map (D.int .i64)),.str nm] (.sl 1 ((fL w.us c nm w.us.length).map D.str))
def C507 (Y:Ctx):Prop:=I8 (aG Y 507)
def IC (T:List D->D->Prop):Prop:=∀(shop:List bJ) (e:Env) (w:bT) (c:List Int),(OfP shop w c)->T [.sl 2 (shop.map bJ.D),Env.D e,bT.D w,.sl 1 (c.map (D.int .i64))] (.tup [mB.D (EA shop e w c).1,.int .i64 (EA shop e w c).2])
def C270 (Y:Ctx):Prop:=IC (aG Y 270)
def PW (T:List D->D->Prop):Prop:=∀(shop:List bJ) (e:Env) (w:bT) (c:List Int),(OfP shop w c)->T [.sl 2 (shop.map bJ.D),Env.D e,bT.D w,.sl 1 (c.map (D.int .i64))] (.tup [mB.D (EA shop e w c).1,.bool (decide ((EA shop e w c).2=0))])
def C92 (Y:Ctx):Prop:=PW (aG Y 92)
def D5 (T:List D->D->Prop):Prop:=∀(ys:List Int) (ss:List Int) (os:List Int) (n:Int),T [.sl 1 (ys.map (D.int .i64)),.sl 1 (ss.map (D.int .i64)),.sl 1 (os.map (D.int .i64)),.int .i64 n] (.bool true)
def aN {p:Prop}(h:p:=by((repeat intro _);exact okp VU (.inl (by assumption)) fun T hT=>(by apply hT<;>assumption))):p:=h
def aI {t:List (Nat×mC)}{key u q:Nat}:((under t key u).at q).bV:=F3 t key u q
def dr {α:Type}{a:Option α}{b c:α}(h:a=some b)(e:b=c:=by kernel_rfl):a=some c:=h.trans (congrArg some e)
end Go.Abs
section
namespace Go.Abs
def zvI {a:D}{k:IntKind}{n:Int}(h:a=.int k n):a=.int k n:=h
def zvS {a:D}{s:List UInt8}(h:a=.str s):a=.str s:=h
def zvB {a:D}{s:Bool}(h:a=.bool s):a=.bool s:=h
def zvL {a:D}{k:Nat}{s:List D}(h:a=.sl k s):a=.sl k s:=h
def zvO {a:D}{l k i n:Nat}(h:a=.own l k i n):a=.own l k i n:=h
def zvP {a:D}{l k i n:Nat}(h:a=.ptr l k i n):a=.ptr l k i n:=h
def zvN {a:D}(h:a=.aK):a=.aK:=h
def y4 {α:Type}(q:α->D){a:D}{x:α}(h:a=q x):a=q x:=h
def zvW {e:D}{k n o:Nat}{ag:Bool}(h:kU e k n o ag=e):kU e k n o ag=e:=h
def fold {a v:D}(h:a=v:=by first|exact zvW rfl|exact zvI rfl|exact zvS rfl|exact zvB rfl|exact zvL rfl|exact zvO rfl|exact zvN rfl|exact zvP rfl|exact y4 bX.D rfl|exact y4 Cut.D rfl|exact y4 Span.D rfl|exact y4 cr.D rfl|exact y4 Want.D rfl|exact y4 Key.D rfl|exact y4 iC.D rfl|exact y4 ko.D rfl|exact y4 cZ.D rfl|exact y4 bj.D rfl|exact y4 mA.D rfl|exact y4 b6.D rfl|exact y4 Rec.D rfl|exact y4 ki.D rfl|exact y4 bJ.D rfl|exact y4 ub.D rfl|exact y4 gO.D rfl|exact y4 en.D rfl|exact y4 cL.D rfl|exact y4 bT.D rfl|exact y4 dR.D rfl|exact y4 jf.D rfl|exact y4 eg.D rfl|exact y4 mB.D rfl|exact y4 Env.D rfl|exact y4 Kp.D rfl|exact y4 je.D rfl):a=v:=h
def pA {F q R:Prop}(h:Hid (F->q) vR)(a:F)(k:Hid q vR->R):R:=k ⟨h.1 a⟩
structure Hol {α:Type}(a:α):Prop
section
variable {Y:Ctx} {draw:Bool} {r:List GI} {env rs:List aX} {nx:Nat} {m:List (Nat×bd)} {K:List aX->St->Prop} {g:Option (Nat×Bool)} {f:Bool}
def ajK {x:Src}{fx:Bool}{n l k o:Nat}{ag:Bool}{v:D}{d:D}(h:ay Y draw r env (⟨f,v⟩::rs) nx m K)(hg:GF rs g f:=by exact cA)(hx:bO env rs x=⟨fx,.ptr l k 0 o⟩:=by exact rfl)(kx:f=true->fx=true:=by exact bn)(hl:f=true->look m l=some (.buf k [d]):=by exact fun _=>rfl)(hv:kU d k n o ag=v:=by exact fold)(ho:o+n<=k:=by omega):ay Y draw (⟨.ld n ag x,g⟩::r) env rs nx m K:=pK v h hg hx kx hl (fun _=>hv) ho
def ajN {x:Src}{fx:Bool}{n k i o:Nat}{ag:Bool}{v:D}{α:Type} [Inhabited α]{q:α->D}{xs:List α}(h:ay Y draw r env (⟨f,v⟩::rs) nx m K)(hg:GF rs g f:=by exact cA)(hx:bO env rs x=⟨fx,.ref k (xs.map q) i o⟩:=by exact rfl)(kx:f=true->fx=true:=by exact bn)(hi:f=true->i<xs.length:=by exact rr)(hv:kU (q xs[i]!) k n o ag=v:=by exact fold)(ho:o+n<=k:=by omega):ay Y draw (⟨.ld n ag x,g⟩::r) env rs nx m K:=c7 v h hg hx kx hi (fun _=>hv) ho
def ajM {x:Src}{fx:Bool}{n k i o:Nat}{ag:Bool}{v:D}{es:List D}(h:ay Y draw r env (⟨f,v⟩::rs) nx m K)(hg:GF rs g f:=by exact cA)(hx:bO env rs x=⟨fx,.ref k es i o⟩:=by exact rfl)(kx:f=true->fx=true:=by exact bn)(hi:f=true->i<es.length:=by intro _;simp only[List.length_cons,List.length_nil];omega)(hv:kU (es.getD i .any) k n o ag=v:=by exact fold)(ho:o+n<=k:=by omega):ay Y draw (⟨.ld n ag x,g⟩::r) env rs nx m K:=r_ldQ v h hg hx kx hi (fun _=>hv) ho
def ajL {x:Src}{fx:Bool}{n l k i o:Nat}{ag:Bool}{v:D}{α:Type} [Inhabited α]{q:α->D}{xs:List α}(h:ay Y draw r env (⟨f,v⟩::rs) nx m K)(hg:GF rs g f:=by exact cA)(hx:bO env rs x=⟨fx,.ptr l k i o⟩:=by exact rfl)(kx:f=true->fx=true:=by exact bn)(hl:f=true->look m l=some (.buf k (xs.map q)):=by exact fun _=>rfl)(hi:f=true->i<xs.length:=by exact rr)(hv:kU (q xs[i]!) k n o ag=v:=by exact fold)(ho:o+n<=k:=by omega):ay Y draw (⟨.ld n ag x,g⟩::r) env rs nx m K:=xk v h hg hx kx hl hi (fun _=>hv) ho
def ajF {x:Src}{fx:Bool}{i:Nat}{ds:List D}{v:D}(h:ay Y draw r env (⟨f,v⟩::rs) nx m K)(hg:GF rs g f:=by exact cA)(hx:bO env rs x=⟨fx,.tup ds⟩:=by exact rfl)(kx:f=true->fx=true:=by exact bn)(hv:ds.getD i .any=v:=by simp only[List.getD_cons_zero,List.getD_cons_succ];exact rfl)(hb:f=true->i<ds.length:=by intro _;simp only[List.length_cons,List.length_nil];omega):ay Y draw (⟨.ext x i,g⟩::r) env rs nx m K:=kL v h hg hx kx (fun _=>hv) hb
def r_stW {n l k o:Nat}{x y:Src}{d v:D}{m2:List (Nat×bd)}(h:ay Y draw r env (⟨true,.any⟩::rs) nx m2 K)(hx:bO env rs x=⟨true,.ptr l k 0 o⟩:=by exact rfl)(hy:bO env rs y=⟨true,v⟩:=by exact rfl)(hl:look m l=some (.buf k [d]):=by exact rfl)(hc:v.cells.length=n:=by exact rfl)(he:su d k n o v=v:=by exact rfl)(ho:o+n<=k:=by omega)(hm:cO m l (.buf k [v])=m2:=by simp only[cO,cW,Nat.reduceEqDiff,if_true,if_false,Nat.reduceAdd,reduceCtorEq];exact rfl):ay Y draw (⟨.st n x y,none⟩::r) env rs nx m K:=cy v h hx hy hl hc he ho hm
def ajE {x y:Src}{fx fy:Bool}{ag:Bool}{ks:List CK}{a b:D}{v:Bool}(h:ay Y draw r env (⟨f,.bool (v)⟩::rs) nx m K)(hg:GF rs g f:=by exact cA)(hx:bO env rs x=⟨fx,a⟩:=by exact rfl)(hy:bO env rs y=⟨fy,b⟩:=by exact rfl)(kx:f=true->fx=true:=by exact bn)(ky:f=true->fy=true:=by exact bn)(hb:gV a.cells b.cells=v:=by first|exact bX.eq _ _|exact Key.eqD _ _|exact eqBb _ _|exact iC.eq _ _|exact Env.eq _ _|exact Kp.eq _ _|exact mA.eq _ _|exact dR.eq _ _)(h1:f=true->a.isAgg=ag/\b.isAgg=ag/\fA ks a.cells/\fA ks b.cells:=by exact uo):ay Y draw (⟨.eqA false ag ks x y,g⟩::r) env rs nx m K:=r_eqP h hb hg hx hy kx ky h1
def ajD {x y:Src}{fx fy:Bool}{ag:Bool}{ks:List CK}{a b:D}{v:Bool}(h:ay Y draw r env (⟨f,.bool (!v)⟩::rs) nx m K)(hg:GF rs g f:=by exact cA)(hx:bO env rs x=⟨fx,a⟩:=by exact rfl)(hy:bO env rs y=⟨fy,b⟩:=by exact rfl)(kx:f=true->fx=true:=by exact bn)(ky:f=true->fy=true:=by exact bn)(hb:gV a.cells b.cells=v:=by first|exact bX.eq _ _|exact Key.eqD _ _|exact eqBb _ _|exact iC.eq _ _|exact Env.eq _ _|exact Kp.eq _ _|exact mA.eq _ _|exact dR.eq _ _)(h1:f=true->a.isAgg=ag/\b.isAgg=ag/\fA ks a.cells/\fA ks b.cells:=by exact uo):ay Y draw (⟨.eqA true ag ks x y,g⟩::r) env rs nx m K:=r_eqN h hb hg hx hy kx ky h1
def adr {x y:Src}{fx fy:Bool}{a b:List UInt8}(h:ay Y draw r env (⟨f,.str (a++b)⟩::rs) nx m K)(hg:GF rs g f:=by exact cA)(hx:bO env rs x=⟨fx,.str a⟩:=by exact rfl)(hy:bO env rs y=⟨fy,.str b⟩:=by exact rfl)(kx:f=true->fx=true:=by exact bn)(ky:f=true->fy=true:=by exact bn)(hb:f=true->a.length+b.length<=9223372036854775807:=by intro _;simp only[List.length_append,List.length_cons,List.length_nil];omega):ay Y draw (⟨.bin .add x y,g⟩::r) env rs nx m K:=OJ h hg hx hy kx ky hb
def ads {n:Nat}{args:List Src}{sh:List (List Sh)}{v:D}(h:ay Y draw r env (⟨f,v⟩::rs) nx m K)(hg:GF rs g f:=by exact cA)(hc:f=true->Y.pre n (iY m sh (iG (bO env rs) args))/\Y.val n (iY m sh (iG (bO env rs) args))=v:=by intro hf;apply_assumption (transparency:=.default) (exfalso:=false) (symm:=false) only[*];(all_goals first|assumption|omega|(simp at hf;omega)|grind))(ho:f=true->Bh (bO env rs) args:=by exact uo)(hp:f=true->iO m sh (iG (bO env rs) args):=by exact uo)(hk:f=true->qd (iG (bO env rs) args) v=true:=by exact fun _=>rfl):ay Y draw (⟨.call n args sh,g⟩::r) env rs nx m K:=ct h hg hc (fun _=>rfl) ho hp hk
end
section
variable {Y:Ctx} {draw:Bool} {r:List GI} {env rs:List aX} {nx:Nat} {m:List (Nat×bd)} {K:List aX->St->Prop} {g:GI}
def tgW {a:AC}{Q:Ex->List aX->St->Prop}{st:St}(h:dn Y a Q env st):dn Y a Q env st:=h
def tgR (h:ay Y draw (g::r) env rs nx m K):ay Y draw (g::r) env rs nx m K:=h
def tgS {a:aj}{d:D}{ds:List D}(h:dn Y a.body (Nu a d) (fI a ds) ⟨0,[]⟩):dn Y a.body (Nu a d) (fI a ds) ⟨0,[]⟩:=h
def tgE (h:ay Y draw [] env rs nx m K):ay Y draw [] env rs nx m K:=h
def tgl1 {id:Nat}{a b:AC}{Q:Ex->List aX->St->Prop}{st:St}(h:dn Y (.seq (.block id (.loop a)) b) Q env st):dn Y (.seq (.block id (.loop a)) b) Q env st:=h
def tgl2 {id:Nat}{a:AC}{Q:Ex->List aX->St->Prop}{st:St}(h:dn Y (.block id (.loop a)) Q env st):dn Y (.block id (.loop a)) Q env st:=h
end
inductive Lc:List D->Nat->List aX->Prop
 |A {d:D} {ds:List D} {n:Nat} {e:List aX} (h:Lc ds n e):Lc (d::ds) n (⟨true,d⟩::e)
 |U {n n':Nat} {e:List aX} (hn:n=n'+1) (h:Lc [] n' e):Lc [] n (.un::e)
 |N {n:Nat} (hn:n=0):Lc [] n []
def Lc.eq {ds:List D}{n:Nat}{e:List aX}(h:Lc ds n e):(ds.map fun d=>⟨true,d⟩)++List.replicate n .un=e:=by
 induction h with
 |A _ ih=>simp[ih]
 |U hn _ ih=>subst hn;simpa[List.replicate_succ]using ih
 |N hn=>subst hn;rfl
def zst0 {Y:Ctx}{a:aj}{d:D}{ds:List D}{e:List aX}(h:dn (Y.at 0) a.body (Nu a d) e ⟨0,[]⟩)(he:Lc ds (a.ns-a.np) e:=by repeat(first|apply Lc.A|apply Lc.U (by exact rfl)|exact Lc.N (by exact rfl))):dn (Y.at 0) a.body (Nu a d) (fI a ds) ⟨0,[]⟩:=by
 unfold fI;rw[he.eq];exact h
def zsx {Y:Ctx}{a:aj}{d:D}{ds:List D}{q:Prop}(k:q)(h:Hid q vR->dn (Y.at 0) a.body (Nu a d) (fI a ds) ⟨0,[]⟩:=by intro h;refine zst0 ?_;(first|refine aP ?_|refine fO ?_|refine fP ?_|refine oY ?_|refine Ga ?_|refine wp_ret ?_|refine mw ?_ hm|refine lG ?_ hm|skip);exact h.1):dn (Y.at 0) a.body (Nu a d) (fI a ds) ⟨0,[]⟩:=h ⟨k⟩
def cV {p q:Prop}(k:q)(h:Hid q vR->p:=by
 intro h;first
 |((with_reducible refine tgR ?_);first|(refine bE ?_;exact h.1)|(refine mf ?_;exact h.1)|(refine ajK ?_;exact h.1)|(refine ajN ?_;exact h.1)|(refine ajM ?_;exact h.1)|(refine ajL ?_;exact h.1)|(refine yO ?_;exact h.1)|(refine ajQ ?_;exact h.1)|(refine OK ?_;exact h.1)|(refine Yt ?_;exact h.1)|(refine ads ?_;exact h.1)|(refine xh ?_;exact h.1)|(refine Ry ?_;exact h.1)|(refine zM ?_;exact h.1)|(refine uD ?_;exact h.1)|(refine LW ?_;exact h.1)|exact Hs fun a=>(h.1:_->_) (a rfl rfl)|exact ON fun a=>(h.1:_->_) (a rfl rfl)|exact Hs fun _=>h.1|exact ON fun _=>h.1|(refine ajO ?_;exact h.1)|exact cF _ h.1|exact ajI h.1|exact FA _ h.1|exact ajJ h.1|(refine RA ?_;exact h.1)|(refine lO ?_;exact h.1)|(refine adr ?_;exact h.1)|(refine Bn ?_;exact h.1)|(refine r_stW ?_;exact h.1)|exact cy _ h.1|(refine oS ?_;exact h.1)|(refine ajH ?_;exact h.1)|(refine oT ?_;exact h.1)|(refine ajR ?_;exact h.1)|(refine Ht ?_;exact h.1)|(refine ajP ?_;exact h.1)|(refine Hr ?_;exact h.1)|(refine ajG ?_;exact h.1)|(refine ajF ?_;exact h.1)|(refine ajS ?_;exact h.1)|(refine ajT ?_;exact h.1)|exact CT fun a=>(h.1:_->_) (a rfl rfl)|exact CT fun _=>h.1|exact zN _ h.1|exact Yw h.1|(refine cI ?_;exact h.1)|(refine ajE ?_;exact h.1)|(refine ajD ?_;exact h.1)|(refine r_rng ?_;exact h.1)|(refine r_s2b ?_;exact h.1)|(refine r_mkB ?_;exact h.1)|exact YA _ h.1|exact YD _ h.1|exact YC _ h.1|exact LX _ h.1|exact YB _ _ h.1|exact YE _ _ h.1|exact YF _ h.1|exact YH _ h.1|exact YG _ _ h.1)
 |((with_reducible refine tgW ?_);first|((with_reducible refine tgS ?_);exact zsx h.1)|with_reducible exact aP h.1|with_reducible exact fO h.1|with_reducible exact fP h.1|with_reducible exact oY h.1|with_reducible exact Ga h.1|with_reducible exact wp_ret h.1|with_reducible exact wp_skip h.1|with_reducible exact og h.1|with_reducible exact wp_exit h.1|((fail_if_success with_reducible refine tgl1 ?_);with_reducible exact mw h.1 hm)|((fail_if_success with_reducible refine tgl2 ?_);with_reducible exact lG h.1 hm))
 |((with_reducible refine tgE ?_);first|(refine rrrh ?_;exact h.1)|(refine rrrg ?_;exact h.1))
 |with_reducible exact BQ.normal h.1|with_reducible exact BQ.ret h.1|with_reducible exact LQ.normal h.1|with_reducible exact LQ.out h.1|with_reducible exact LQ.ret h.1|with_reducible exact BQ.out h.1|with_reducible exact Ni.normal h.1|with_reducible exact Ni.ret h.1|with_reducible exact AY.normal h.1|with_reducible exact AY.ret h.1|with_reducible exact Ni.out h.1|with_reducible exact AY.out h.1|with_reducible exact CQ.normal h.1|with_reducible exact CQ.ret h.1|with_reducible exact CQ.other h.1|((with_reducible refine BQ.other ?_ h.1);exact rfl)|((with_reducible refine LQ.other ?_ h.1);exact rfl)|((with_reducible refine Ni.other ?_ h.1);exact rfl)|((with_reducible refine AY.other ?_ h.1);exact rfl)):p:=h ⟨k⟩
def zg {p q:Prop}(k:q)(h:Hid q vR->p:=by intro h;(repeat(refine cV ?_;try(intro a;apply pA h a;intro h)));exact h.1):p:=h ⟨k⟩
def zc {p q1 q2 c1 c2:Prop}(k1:c1->q1)(k2:c2->q2)(h:Hid (c1->q1) vR->Hid (c2->q2) vR->p:=by intro h1 h2;(repeat(refine cV ?_;try intro _));first|exact dG h1.1 h2.1|exact A3 h1.1 h2.1):p:=h ⟨k1⟩ ⟨k2⟩
def WX (σ:List (Nat×Nat))(l:Nat):Option Nat:=match σ with
 |[]=>none
 |(a,b)::r=>bif Nat.beq b l then some a else WX r l
def bm.nlx {lo c l l' k:Nat}{σ:List (Nat×Nat)}{m r:List (Nat×bd)}{es es':List D}(h:bm lo c σ m r)(hi:WX σ l'=some l:=by exact rfl)(hl:mK lo σ l=some l':=by exact rfl)(hm:look m l=some (.buf k es):=by exact rfl)(he:es'=es:=by exact rfl)(hn:aL es=true:=by first|exact rfl|exact b7 (fun _=>rfl) _):bm lo c σ m ((l',.buf k es')::r):=.nl l hl hm he hn h
def bm.eqx {lo c l l' k:Nat}{σ:List (Nat×Nat)}{m r:List (Nat×bd)}{es es':List D}(h:bm lo c σ m r)(hi:WX σ l'=some l:=by exact rfl)(hl:mK lo σ l=some l':=by exact rfl)(hm:look m l=some (.buf k es):=by exact rfl)(he:qD lo σ es=some es':=by exact rfl):bm lo c σ m ((l',.buf k es')::r):=.eq l hl hm he h
def bm.rwx {lo c l l':Nat}{σ:List (Nat×Nat)}{m r:List (Nat×bd)}{s s':List UInt8}(h:bm lo c σ m r)(hi:WX σ l'=some l:=by exact rfl)(hl:mK lo σ l=some l':=by exact rfl)(hm:look m l=some (.row s):=by exact rfl)(hs:s'=s:=by exact rfl):bm lo c σ m ((l',.row s')::r):=.rw l hl hm hs h
def bm.blx {lo c l l' l1 l2 n n':Nat}{u u':Bool}{σ:List (Nat×Nat)}{m r:List (Nat×bd)}(h:bm lo c σ m r)(hi:WX σ l'=some l:=by exact rfl)(hl:mK lo σ l=some l':=by exact rfl)(hm:look m l=some (.bld (some l1) n u):=by exact rfl)(h1:mK lo σ l1=some l2:=by exact rfl)(hn:n'=n:=by exact rfl)(hu:u'=u:=by exact rfl):bm lo c σ m ((l',.bld (some l2) n' u')::r):=.bl l hl hm h1 hn hu h
def zge {lo:Nat}{σ:List (Nat×Nat)}{a b:List aX}(h:fq lo σ a b:=by repeat(first|exact fq.nil|refine fq.un ?_|refine fq.eq (by exact rfl) ?_|refine fq.nl (by exact rfl) (by exact rfl) ?_|refine fq.ni (Or.inr ⟨_,_,_,rfl⟩) ?_)):fq lo σ a b:=h
def zgm {lo c:Nat}{σ:List (Nat×Nat)}{m m':List (Nat×bd)}(h:bm lo c σ m m':=by repeat(first|exact bm.nil|refine bm.AA (by exact rfl) (by exact rfl) (by first|exact rfl|exact b7 (fun _=>rfl) _) ?_|refine bm.Nj (by exact rfl) (by exact rfl) (by exact rfl) ?_|refine bm.Nk (by exact rfl) (by exact rfl) (by exact rfl) (by exact rfl) ?_|refine bm.nlx ?_|refine bm.eqx ?_|refine bm.rwx ?_|refine bm.blx ?_|refine bm.mt (by exact rfl) (by exact rfl) (by exact rfl) (by exact rfl) ?_)):bm lo c σ m m':=h
def zl0 {lo c nx nx2:Nat}{env:List aX}{m:List (Nat×bd)}{ι:Type}{F:ι->List aX}{G:ι->List (Nat×bd)}{P:ι->Prop}{μ:ι->Nat}{i j:ι}{σ:List (Nat×Nat)}(_:Hol j)(_:Hol σ)(hP:P j)(hm:μ j<μ i:=by(try dsimp only);omega)(hc:nx2=c:=by exact rfl)(h:gE lo c σ=true:=by exact rfl)(he:fq lo σ env (F j):=by exact zge)(hg:bm lo c σ m (G j):=by exact zgm):∃j,P j/\μ j<μ i/\aY lo env ⟨nx,m⟩ (F j) ⟨nx2,G j⟩:=⟨j,hP,hm,aY.to σ hc h he hg⟩
def zl {p q:Prop}{ι:Type}(j:ι)(σ:List (Nat×Nat))(k:q)(h:Hid q vR->Hol j->Hol σ->p:=by intro h a b;(repeat(refine cV ?_;try intro _));exact zl0 a b h.1):p:=h ⟨k⟩ ⟨⟩ ⟨⟩
def gD {p q:Prop}{ι:Type}(j:ι)(σ:List (Nat×Nat))(k:q)(h:Hid q vR->Hol j->Hol σ->p:=by intro h a b;(repeat(refine cV ?_;try intro _));exact zl0 a b ⟨by(try dsimp only);omega,h.1⟩):p:=h ⟨k⟩ ⟨⟩ ⟨⟩
def ij {p:Prop}{ι:Type}(j:ι)(σ:List (Nat×Nat))(h:Hol j->Hol σ->p:=by intro a b;(repeat(refine cV ?_;try intro _));exact zl0 a b (by(try dsimp only);omega)):p:=h ⟨⟩ ⟨⟩
def zro {a:aj}{d d2:D}{e:Ex}{nx:Nat}{m:List (Nat×bd)}{env:List aX}(h:d2=d)(he:e.home:=by exact trivial)(h1:n8 m env a.res:=by repeat' first|exact trivial|exact rfl|exact Nat.le_refl _|refine And.intro ?_ ?_)(h2:Al a env m:=by repeat' first|exact trivial|exact rfl|refine And.intro ?_ ?_)(h3:Ng a env m=d2:=by exact rfl):Nu a d e env ⟨nx,m⟩:=Pr he h1 h2 (h3.trans h)
def zrb {a:aj}{d d2:Bool}{e:Ex}{nx:Nat}{m:List (Nat×bd)}{env:List aX}(h:d2=d)(he:e.home:=by exact trivial)(h1:n8 m env a.res:=by repeat' first|exact trivial|exact rfl|exact Nat.le_refl _|refine And.intro ?_ ?_)(h2:Al a env m:=by repeat' first|exact trivial|exact rfl|refine And.intro ?_ ?_)(h3:Ng a env m=.bool d2:=by exact rfl):Nu a (.bool d) e env ⟨nx,m⟩:=zro (congrArg _ h) he h1 h2 h3
def zrs {a:aj}{d d2:List UInt8}{e:Ex}{nx:Nat}{m:List (Nat×bd)}{env:List aX}(h:d2=d)(he:e.home:=by exact trivial)(h1:n8 m env a.res:=by repeat' first|exact trivial|exact rfl|exact Nat.le_refl _|refine And.intro ?_ ?_)(h2:Al a env m:=by repeat' first|exact trivial|exact rfl|refine And.intro ?_ ?_)(h3:Ng a env m=.str d2:=by exact rfl):Nu a (.str d) e env ⟨nx,m⟩:=zro (congrArg _ h) he h1 h2 h3
def zri {a:aj}{d d2:Int}{e:Ex}{nx:Nat}{m:List (Nat×bd)}{env:List aX}(h:d2=d)(he:e.home:=by exact trivial)(h1:n8 m env a.res:=by repeat' first|exact trivial|exact rfl|exact Nat.le_refl _|refine And.intro ?_ ?_)(h2:Al a env m:=by repeat' first|exact trivial|exact rfl|refine And.intro ?_ ?_)(h3:Ng a env m=.int .i64 d2:=by exact rfl):Nu a (.int .i64 d) e env ⟨nx,m⟩:=zro (congrArg _ h) he h1 h2 h3
def zr {p q:Prop}(k:q)(h:Hid q vR->p:=by intro h;(repeat(refine cV ?_;try intro _));first|exact zrb h.1|exact zrs h.1|exact zri h.1|exact zro h.1):p:=h ⟨k⟩
def my {p:Prop}(h:p:=by(repeat(refine cV ?_;try intro _));first|exact zrb rfl|exact zrs rfl|exact zri rfl|exact zro rfl):p:=h
def uns:Nat->List aX->List aX
 |0,r=>r
 |n+1,r=>.un::uns n r
def SE:=List aX->List aX
def SE.u (n:Nat):SE:=uns n
def SE.e (d:D):SE:=fun r=>⟨true,d⟩::r
def SE.i (n:Int):SE:=fun r=>⟨true,.int .i64 n⟩::r
def SE.p (l k:Nat):SE:=fun r=>⟨true,.ptr l k 0 0⟩::r
def SE.o (l k n:Nat):SE:=fun r=>⟨true,.own l k 0 n⟩::r
def SE.m {α:Type}(k:Nat)(xs:List α)(q:α->D):SE:=fun r=>⟨true,.sl k (xs.map q)⟩::r
def spE:List SE->List aX
 |[]=>[]
 |f::r=>f (spE r)
section
variable {Y:Ctx} {Q:Ex->List aX->St->Prop} {a r:AC} {id nx:Nat} {env:List aX} {m:List (Nat×bd)}
def zf (htr:Y.bV)(F:Nat->List SE)(G:Nat->List (Nat×bd))(c:Nat)(P:Nat->Prop)(μ:Nat->Nat)(hP:P 0)(σ:List (Nat×Nat)){F2:Nat->List aX}(hr:∀i,P i->dn Y a (LQ Y id r (fun env2 st2=>∃j,P j/\μ j<μ i/\aY Y.lo env2 st2 (F2 j) ⟨c,G j⟩) Q) (F2 i) ⟨c,G i⟩)(hF:∀i,spE (F i)=F2 i:=by intro i;simp only[spE,SE.u,SE.e,SE.i,SE.p,SE.o,SE.m,uns];exact rfl)(h:gE Y.lo c σ=true:=by exact rfl)(he:fq Y.lo σ env (F2 0):=by exact zge)(hg:bm Y.lo c σ m (G 0):=by exact zgm):dn Y (.seq (.block id (.loop a)) r) Q env ⟨nx,m⟩:=fX htr F2 G c P μ 0 hP (aY.to σ rfl h he hg) hr
def zfx (htr:Y.bV){ι:Type}(i0:ι)(F:ι->List SE)(G:ι->List (Nat×bd))(c:Nat)(P:ι->Prop)(μ:ι->Nat)(hP:P i0)(σ:List (Nat×Nat)){F2:ι->List aX}(hr:∀i,P i->dn Y a (LQ Y id r (fun env2 st2=>∃j,P j/\μ j<μ i/\aY Y.lo env2 st2 (F2 j) ⟨c,G j⟩) Q) (F2 i) ⟨c,G i⟩)(hF:∀i,spE (F i)=F2 i:=by intro i;simp only[spE,SE.u,SE.e,SE.i,SE.p,SE.o,SE.m,uns];exact rfl)(h:gE Y.lo c σ=true:=by exact rfl)(he:fq Y.lo σ env (F2 i0):=by exact zge)(hg:bm Y.lo c σ m (G i0):=by exact zgm):dn Y (.seq (.block id (.loop a)) r) Q env ⟨nx,m⟩:=fX htr F2 G c P μ i0 hP (aY.to σ rfl h he hg) hr
def ZT (htr:Y.bV)(F:Nat->List SE)(G:Nat->List (Nat×bd))(c:Nat)(P:Nat->Prop)(μ:Nat->Nat)(hP:P 0)(σ:List (Nat×Nat)){F2:Nat->List aX}(hr:∀i,P i->dn Y a (AY id (fun env2 st2=>∃j,P j/\μ j<μ i/\aY Y.lo env2 st2 (F2 j) ⟨c,G j⟩) Q) (F2 i) ⟨c,G i⟩)(hF:∀i,spE (F i)=F2 i:=by intro i;simp only[spE,SE.u,SE.e,SE.i,SE.p,SE.o,SE.m,uns];exact rfl)(h:gE Y.lo c σ=true:=by exact rfl)(he:fq Y.lo σ env (F2 0):=by exact zge)(hg:bm Y.lo c σ m (G 0):=by exact zgm):dn Y (.block id (.loop a)) Q env ⟨nx,m⟩:=Ic htr F2 G c P μ 0 hP (aY.to σ rfl h he hg) hr
def zfxL (htr:Y.bV){ι:Type}(i0:ι)(F:ι->List SE)(G:ι->List (Nat×bd))(c:Nat)(P:ι->Prop)(μ:ι->Nat)(hP:P i0)(σ:List (Nat×Nat)){F2:ι->List aX}(hr:∀i,P i->dn Y a (AY id (fun env2 st2=>∃j,P j/\μ j<μ i/\aY Y.lo env2 st2 (F2 j) ⟨c,G j⟩) Q) (F2 i) ⟨c,G i⟩)(hF:∀i,spE (F i)=F2 i:=by intro i;simp only[spE,SE.u,SE.e,SE.i,SE.p,SE.o,SE.m,uns];exact rfl)(h:gE Y.lo c σ=true:=by exact rfl)(he:fq Y.lo σ env (F2 i0):=by exact zge)(hg:bm Y.lo c σ m (G i0):=by exact zgm):dn Y (.block id (.loop a)) Q env ⟨nx,m⟩:=Ic htr F2 G c P μ i0 hP (aY.to σ rfl h he hg) hr
end
end Go.Abs
namespace Go.Abs
abbrev cq (Y:Ctx)(a:aj)(ds:List D)(d:D):Prop:=wkk Y a d ds
def zk1 {p q:Prop}(k:q)(h:Hid q vR->p:=by intro h;(iterate 1(refine cV ?_;try(intro a;apply pA h a;intro h)));exact h.1):p:=h ⟨k⟩
def cU {p q:Prop}(k:q)(h:Hid q vR->p:=by intro h;(iterate 2(refine cV ?_;try(intro a;apply pA h a;intro h)));exact h.1):p:=h ⟨k⟩
def dD {p q:Prop}(k:q)(h:Hid q vR->p:=by intro h;(iterate 3(refine cV ?_;try(intro a;apply pA h a;intro h)));exact h.1):p:=h ⟨k⟩
def fk {p q:Prop}(k:q)(h:Hid q vR->p:=by intro h;(iterate 4(refine cV ?_;try(intro a;apply pA h a;intro h)));exact h.1):p:=h ⟨k⟩
def kV {p q:Prop}(k:q)(h:Hid q vR->p:=by intro h;(iterate 5(refine cV ?_;try(intro a;apply pA h a;intro h)));exact h.1):p:=h ⟨k⟩
def kn {p q:Prop}(k:q)(h:Hid q vR->p:=by intro h;(iterate 6(refine cV ?_;try(intro a;apply pA h a;intro h)));exact h.1):p:=h ⟨k⟩
def qL {p q:Prop}(k:q)(h:Hid q vR->p:=by intro h;(iterate 7(refine cV ?_;try(intro a;apply pA h a;intro h)));exact h.1):p:=h ⟨k⟩
def p9 {p q:Prop}(k:q)(h:Hid q vR->p:=by intro h;(iterate 8(refine cV ?_;try(intro a;apply pA h a;intro h)));exact h.1):p:=h ⟨k⟩
def x9 {p q:Prop}(k:q)(h:Hid q vR->p:=by intro h;(iterate 9(refine cV ?_;try(intro a;apply pA h a;intro h)));exact h.1):p:=h ⟨k⟩
def uq {p q:Prop}(k:q)(h:Hid q vR->p:=by intro h;(iterate 10(refine cV ?_;try(intro a;apply pA h a;intro h)));exact h.1):p:=h ⟨k⟩
def Ih {p q:Prop}(k:q)(h:Hid q vR->p:=by intro h;(iterate 11(refine cV ?_;try(intro a;apply pA h a;intro h)));exact h.1):p:=h ⟨k⟩
def Ii {p q:Prop}(k:q)(h:Hid q vR->p:=by intro h;(iterate 12(refine cV ?_;try(intro a;apply pA h a;intro h)));exact h.1):p:=h ⟨k⟩
def EO {p q:Prop}(k:q)(h:Hid q vR->p:=by intro h;(iterate 13(refine cV ?_;try(intro a;apply pA h a;intro h)));exact h.1):p:=h ⟨k⟩
def ib {p q:Prop}(k:q)(h:Hid q vR->p:=by intro h;(iterate 14(refine cV ?_;try(intro a;apply pA h a;intro h)));exact h.1):p:=h ⟨k⟩
def DU {p q:Prop}(k:q)(h:Hid q vR->p:=by intro h;(iterate 15(refine cV ?_;try(intro a;apply pA h a;intro h)));exact h.1):p:=h ⟨k⟩
def zk17 {p q:Prop}(k:q)(h:Hid q vR->p:=by intro h;(iterate 17(refine cV ?_;try(intro a;apply pA h a;intro h)));exact h.1):p:=h ⟨k⟩
def zk18 {p q:Prop}(k:q)(h:Hid q vR->p:=by intro h;(iterate 18(refine cV ?_;try(intro a;apply pA h a;intro h)));exact h.1):p:=h ⟨k⟩
def zk20 {p q:Prop}(k:q)(h:Hid q vR->p:=by intro h;(iterate 20(refine cV ?_;try(intro a;apply pA h a;intro h)));exact h.1):p:=h ⟨k⟩
def zk21 {p q:Prop}(k:q)(h:Hid q vR->p:=by intro h;(iterate 21(refine cV ?_;try(intro a;apply pA h a;intro h)));exact h.1):p:=h ⟨k⟩
end Go.Abs
end
