/- A part of the proofs. -/
import Derived.Test.YtgnjlompgjhaaaaGreatDoorP05
set_option linter.all false
set_option maxRecDepth 4000
section
namespace Go.Abs
variable {Y:Ctx}(hm:(Y.at 0).cd)
def ah {p:Prop}(h:p:=by exact rfl):p:=h
def nW {p:Prop}(h:p:=by repeat(first|exact dE.nil|refine dE.un ?_|refine dE.eq bd ?_)):p:=h
def et {p:Prop}(h:p:=by first|exact rfl|exact cg (fun _=>rfl) _):p:=h
def dX {p:Prop}(h:p:=by repeat(first|exact dE.nil|refine dE.un ?_|refine dE.eq bd ?_|refine dE.nl bd bd ?_)):p:=h
def gL {p:Prop}(h:p:=by repeat' first|exact trivial|exact rfl|refine And.intro ?_ ?_):p:=h
def rD {p:Prop}(h:p:=by repeat' first|exact trivial|exact rfl|exact aP _|refine And.intro ?_ ?_):p:=h
def rC {p:Prop}(h:p:=by repeat(first|exact bm.nil|refine bm.gD bd bd (by first|exact rfl|exact cg (fun _=>rfl) _) ?_|refine bm.OH bd bd bd ?_|refine bm.idi bd bd bd bd ?_)):p:=h
def b0 {p:Prop} [Decidable p]:(decide p=true)=p:=aV
def b1 {p:Prop} [Decidable p]:decide p=false↔¬p:=bt
def b2 (b:Bool):((!b)=true)=(b=false):=bz b
def b3 (b:Bool):((!b)=false)=(b=true):=bP b
def b4 (b:Bool):(¬(b=false))=(b=true):=Bool.not_eq_false b
def b5 (a b:Bool):((a ||b)=true)=(a=true\/b=true):=cX a b
end Go.Abs
namespace Go.Abs
variable {Y:Ctx}(hm:(Y.at 0).cd)
abbrev de (Y:Ctx)(a:aF)(d:D)(ds:List D):Prop:=bG (Y.at 0) a.body (V7 a d) (gy a ds) ⟨0,[]⟩
def bM {a:aF}{d d2:D}{e:Ex}{nx:Nat}{m:List (Nat×bR)}{env:List bW}(h:d2=d)(he:e.home:=by exact trivial)(h1:qE m env a.res:=by exact rD)(h2:C2 a env m:=by exact gL)(h3:OB a env m=d2:=by exact rfl):V7 a d e env ⟨nx,m⟩:=Xk he h1 h2 (h3.trans h)
def bI {a:aF}{d d2:Bool}{e:Ex}{nx:Nat}{m:List (Nat×bR)}{env:List bW}(h:d2=d)(he:e.home:=by exact trivial)(h1:qE m env a.res:=by exact rD)(h2:C2 a env m:=by exact gL)(h3:OB a env m=.bool d2:=by exact rfl):V7 a (.bool d) e env ⟨nx,m⟩:=bM (ar _ h) he h1 h2 h3
def cU {a:aF}{d d2:List UInt8}{e:Ex}{nx:Nat}{m:List (Nat×bR)}{env:List bW}(h:d2=d)(he:e.home:=by exact trivial)(h1:qE m env a.res:=by exact rD)(h2:C2 a env m:=by exact gL)(h3:OB a env m=.str d2:=by exact rfl):V7 a (.str d) e env ⟨nx,m⟩:=bM (ar _ h) he h1 h2 h3
def cS {a:aF}{d d2:Int}{e:Ex}{nx:Nat}{m:List (Nat×bR)}{env:List bW}(h:d2=d)(he:e.home:=by exact trivial)(h1:qE m env a.res:=by exact rD)(h2:C2 a env m:=by exact gL)(h3:OB a env m=.int .i64 d2:=by exact rfl):V7 a (.int .i64 d) e env ⟨nx,m⟩:=bM (ar _ h) he h1 h2 h3
def dp {lo c nx nx2:Nat}{env env2:List bW}{m m2:List (Nat×bR)}(σ:List (Nat×Nat))(hc:nx2=c:=by exact ah)(h:iY lo c σ=true:=by exact ah)(he:dE lo σ env env2:=by exact dX)(hm:bm lo c σ m m2:=by exact rC):aX lo env ⟨nx,m⟩ env2 ⟨nx2,m2⟩:=aX.to σ hc h he hm
def fS {Y:Ctx}{draw f:Bool}{r:List GI}{env rs:List bW}{nx:Nat}{m:List (Nat×bR)}{K:List bW->St->Prop}{g:Option (Nat×Bool)}{x y:Src}{fx fy:Bool}{a b:List UInt8}(h:aJ Y draw r env (⟨f,.str (a++b)⟩::rs) nx m K)(hg:GF rs g f:=by first|exact rfl|exact⟨_,_,rfl,rfl⟩)(hx:cF env rs x=⟨fx,.str a⟩:=by exact rfl)(hy:cF env rs y=⟨fy,.str b⟩:=by exact rfl)(kx:f=true->fx=true:=by first|exact fun _=>rfl|exact fun h=>h|(intro h;simp_all))(ky:f=true->fy=true:=by first|exact fun _=>rfl|exact fun h=>h|(intro h;simp_all))(hb:f=true->a.length+b.length<=9223372036854775807:=by intro _;simp only[bF,az,aB];omega):aJ Y draw (⟨.bin .add x y,g⟩::r) env rs nx m K:=c9 h hg hx hy kx ky hb
end Go.Abs
namespace Go.Abs
variable {Y:Ctx}(hm:(Y.at 0).cd)
def e7 {lo c l:Nat}{σ:List (Nat×Nat)}{m r:List (Nat×bR)}{b:bR}(h:bm lo c σ m r)(hh:bm lo c σ m [(l,b)]:=by(first|refine bm.gD bd bd (by first|exact rfl|exact cg (fun _=>rfl) _) ?_|refine bm.OH bd bd bd ?_|refine bm.idi bd bd bd bd ?_)<;>exact bm.nil):bm lo c σ m ((l,b)::r):=⟨hh.1,h⟩
end Go.Abs
namespace Go.Abs
variable {Y:Ctx}(hm:(Y.at 0).cd)
section
variable {Y:Ctx} {Q:Ex->List bW->St->Prop}
def cmN {env rs:List bW}:Pq env rs []=env:=rfl
def cmC {s p:Nat}{r:List (Nat×Nat)}{env rs env1 env':List bW}{f:Bool}{d:D}(e:cF [] rs (.l p)=⟨f,d⟩)(hs:env.set s ⟨f,d⟩=env1)(h:Pq env1 rs r=env'):Pq env rs ((s,p)::r)=env':=by
 simp only[Pq,e,hs,h]
def rrrg {draw:Bool}{cm:List (Nat×Nat)}{b:AC}{nx nx':Nat}{m:List (Nat×bR)}{rs env gy env':List bW}(h:bG Y b Q env' ⟨nx',m⟩)
  (he:Pq env rs cm=env':=by repeat(first|apply cmC bd (by simp only[List.set_cons_zero,List.set_cons_succ];exact rfl)|with_reducible exact cmN)) (hn:nx+rs.length=nx':=by simp only[az,aB,Nat.reduceAdd];exact rfl):aJ Y draw [] gy rs nx m (fun vs st'=>bG Y b Q (iK env vs cm) st'):=
 TQ h he hn
def rrrh {draw:Bool}{cm:List (Nat×Nat)}{nx nx':Nat}{m:List (Nat×bR)}{rs env gy env':List bW}(h:Q .normal env' ⟨nx',m⟩)
  (he:Pq env rs cm=env':=by repeat(first|apply cmC bd (by simp only[List.set_cons_zero,List.set_cons_succ];exact rfl)|with_reducible exact cmN)) (hn:nx+rs.length=nx':=by simp only[az,aB,Nat.reduceAdd];exact rfl):aJ Y draw [] gy rs nx m (fun vs st'=>Q .normal (iK env vs cm) st'):=
 TR h he hn
end
def Fam (_:Prop):Type:=Unit
def uZ {q:Prop}:Fam q:=()
structure Hid (q:Prop)(f:Fam q):Prop where
 val:q
section
variable {Y:Ctx} {draw b1:Bool} {r:List GI} {env rs:List bW} {nx n0 n1:Nat} {m:List (Nat×bR)} {K:List bW->St->Prop} {g:Option (Nat×Bool)} {x0 x1 x2:Src}
def tg0 {Y:Ctx}{a:AC}{Q:Ex->List bW->St->Prop}{env:List bW}{st:St}(h:bG Y a Q env st):bG Y a Q env st:=h
def tg1 (h:aJ Y draw (⟨.mv x0,g⟩::r) env rs nx m K):aJ Y draw (⟨.mv x0,g⟩::r) env rs nx m K:=h
def tg2 (h:aJ Y draw [] env rs nx m K):aJ Y draw [] env rs nx m K:=h
def tg3 (h:aJ Y draw (⟨.fa n0 x1,g⟩::r) env rs nx m K):aJ Y draw (⟨.fa n0 x1,g⟩::r) env rs nx m K:=h
def tg4 (h:aJ Y draw (⟨.ld n0 b1 x2,g⟩::r) env rs nx m K):aJ Y draw (⟨.ld n0 b1 x2,g⟩::r) env rs nx m K:=h
def tg5 (h:aJ Y draw (⟨.bin .lss x0 x1,g⟩::r) env rs nx m K):aJ Y draw (⟨.bin .lss x0 x1,g⟩::r) env rs nx m K:=h
def tg6 (h:aJ Y draw (⟨.bin .eql x0 x1,g⟩::r) env rs nx m K):aJ Y draw (⟨.bin .eql x0 x1,g⟩::r) env rs nx m K:=h
def tg7 (h:aJ Y draw (⟨.bin .add x0 x1,g⟩::r) env rs nx m K):aJ Y draw (⟨.bin .add x0 x1,g⟩::r) env rs nx m K:=h
def tg8 (h:aJ Y draw (⟨.bin .gtr x0 x1,g⟩::r) env rs nx m K):aJ Y draw (⟨.bin .gtr x0 x1,g⟩::r) env rs nx m K:=h
def tg9 (h:aJ Y draw (⟨.bin .neq x0 x1,g⟩::r) env rs nx m K):aJ Y draw (⟨.bin .neq x0 x1,g⟩::r) env rs nx m K:=h
def tg10 (h:aJ Y draw (⟨.bin .leq x0 x1,g⟩::r) env rs nx m K):aJ Y draw (⟨.bin .leq x0 x1,g⟩::r) env rs nx m K:=h
def tg11 (h:aJ Y draw (⟨.bin .geq x0 x1,g⟩::r) env rs nx m K):aJ Y draw (⟨.bin .geq x0 x1,g⟩::r) env rs nx m K:=h
def tg12 (h:aJ Y draw (⟨.bin .sub x0 x1,g⟩::r) env rs nx m K):aJ Y draw (⟨.bin .sub x0 x1,g⟩::r) env rs nx m K:=h
def tg13 (h:aJ Y draw (⟨.ext x0 n1,g⟩::r) env rs nx m K):aJ Y draw (⟨.ext x0 n1,g⟩::r) env rs nx m K:=h
def tg14 (h:aJ Y draw (⟨.pick x0 x1 (.c (.bool false)),g⟩::r) env rs nx m K):aJ Y draw (⟨.pick x0 x1 (.c (.bool false)),g⟩::r) env rs nx m K:=h
def tg15 (h:aJ Y draw (⟨.pick x0 (.c (.bool true)) x1,g⟩::r) env rs nx m K):aJ Y draw (⟨.pick x0 (.c (.bool true)) x1,g⟩::r) env rs nx m K:=h
def tg16 (h:aJ Y draw (⟨.un .not x0,g⟩::r) env rs nx m K):aJ Y draw (⟨.un .not x0,g⟩::r) env rs nx m K:=h
def tg17 (h:aJ Y draw (⟨.nilck x0,g⟩::r) env rs nx m K):aJ Y draw (⟨.nilck x0,g⟩::r) env rs nx m K:=h
def tg18 (h:aJ Y draw (⟨.box n0 x1,g⟩::r) env rs nx m K):aJ Y draw (⟨.box n0 x1,g⟩::r) env rs nx m K:=h
def tg19 (h:aJ Y draw (⟨.ia n0 x1 x2,g⟩::r) env rs nx m K):aJ Y draw (⟨.ia n0 x1 x2,g⟩::r) env rs nx m K:=h
def tg20 (h:aJ Y draw (⟨.ixS x0 x1,g⟩::r) env rs nx m K):aJ Y draw (⟨.ixS x0 x1,g⟩::r) env rs nx m K:=h
def tg21 (h:aJ Y draw (⟨.st n0 x1 x2,g⟩::r) env rs nx m K):aJ Y draw (⟨.st n0 x1 x2,g⟩::r) env rs nx m K:=h
def tg22 (h:aJ Y draw (⟨.len x0,g⟩::r) env rs nx m K):aJ Y draw (⟨.len x0,g⟩::r) env rs nx m K:=h
def tg23 (h:aJ Y draw (⟨.lenS x0,g⟩::r) env rs nx m K):aJ Y draw (⟨.lenS x0,g⟩::r) env rs nx m K:=h
def tg24 (h:aJ Y draw (⟨.tO x0,g⟩::r) env rs nx m K):aJ Y draw (⟨.tO x0,g⟩::r) env rs nx m K:=h
def tg25 (h:aJ Y draw (⟨.s2b x0,g⟩::r) env rs nx m K):aJ Y draw (⟨.s2b x0,g⟩::r) env rs nx m K:=h
def tg26 (h:aJ Y draw (⟨.mkB,g⟩::r) env rs nx m K):aJ Y draw (⟨.mkB,g⟩::r) env rs nx m K:=h
def tg27 (h:aJ Y draw (⟨.app n0 x1 x2,g⟩::r) env rs nx m K):aJ Y draw (⟨.app n0 x1 x2,g⟩::r) env rs nx m K:=h
end
def aC {p q:Prop}(k:q)(h:Hid q uZ->p:=by
 intro h;first
 |((with_reducible refine tg0 ?_);first|with_reducible exact aq h.1|with_reducible exact RY h.1|with_reducible exact Jf h.1|with_reducible exact Xy h.1|with_reducible exact OA h.1|with_reducible exact wp_ret h.1|with_reducible exact wp_skip h.1|with_reducible exact Je h.1|with_reducible exact wp_exit h.1|with_reducible exact GX h.1 hm|with_reducible exact Oz h.1 hm)
 |((with_reducible refine tg1 ?_);(refine r_mv ?_;exact h.1))
 |((with_reducible refine tg2 ?_);first|(refine rrrh ?_;exact h.1)|(refine rrrg ?_;exact h.1))
 |((with_reducible refine tg3 ?_);first|(refine r_faP ?_;exact h.1)|(refine r_faR ?_;exact h.1))
 |((with_reducible refine tg4 ?_);first|exact bD (.int _ _) h.1|exact bD (.str _) h.1|(refine bS (v:=.str _) ?_;exact h.1)|(refine eK (v:=.str _) ?_;exact h.1)|(refine bS (v:=.int _ _) ?_;exact h.1)|(refine eK (v:=.int _ _) ?_;exact h.1)|exact bD (.sl _ _) h.1|exact bD (.own _ _ _ _) h.1|exact bD (.bool _) h.1|(refine bS (v:=.sl _ _) ?_;exact h.1)|(refine eK (v:=.sl _ _) ?_;exact h.1)|(refine bS (v:=.bool _) ?_;exact h.1)|(refine eK (v:=.bool _) ?_;exact h.1)|exact cy h.1|exact bD .aD h.1)
 |((with_reducible refine tg5 ?_);first|(refine Re ?_;exact h.1)|(refine Rf ?_;exact h.1))
 |((with_reducible refine tg6 ?_);first|(refine W4 ?_;exact h.1)|(refine W5 ?_;exact h.1))
 |((with_reducible refine tg7 ?_);(refine TN ?_;exact h.1))
 |((with_reducible refine tg8 ?_);first|(refine Iq ?_;exact h.1)|(refine Ir ?_;exact h.1))
 |((with_reducible refine tg9 ?_);first|(refine Xd ?_;exact h.1)|(refine Xe ?_;exact h.1))
 |((with_reducible refine tg10 ?_);first|(refine Xb ?_;exact h.1)|(refine Xc ?_;exact h.1))
 |((with_reducible refine tg11 ?_);first|(refine W6 ?_;exact h.1)|(refine W7 ?_;exact h.1))
 |((with_reducible refine tg12 ?_);(refine Kf ?_;exact h.1))
 |((with_reducible refine tg13 ?_);first|exact fX (.int _ _) h.1|exact fX (.str _) h.1|exact fX (.bool _) h.1)
 |((with_reducible refine tg14 ?_);(refine r_and ?_;exact h.1))
 |((with_reducible refine tg15 ?_);(refine r_or ?_;exact h.1))
 |((with_reducible refine tg16 ?_);(refine r_not ?_;exact h.1))
 |((with_reducible refine tg17 ?_);first|(refine Xf ?_;exact h.1)|(refine Xg ?_;exact h.1))
 |((with_reducible refine tg18 ?_);(refine r_box ?_;exact h.1))
 |((with_reducible refine tg19 ?_);first|exact cb _ h.1|exact Q8 h.1|exact kN _ h.1|exact W8 h.1)
 |((with_reducible refine tg20 ?_);first|exact ow _ h.1|exact W9 h.1)
 |((with_reducible refine tg21 ?_);exact aU _ h.1)
 |((with_reducible refine tg22 ?_);first|exact Rb fun a=>(h.1:_->_) (a rfl rfl)|exact Rc fun a=>(h.1:_->_) (a rfl rfl)|(refine Xa ?_;exact h.1))
 |((with_reducible refine tg23 ?_);exact Rd fun a=>(h.1:_->_) (a rfl rfl))
 |((with_reducible refine tg24 ?_);(refine r_rng ?_;exact h.1))
 |((with_reducible refine tg25 ?_);(refine r_s2b ?_;exact h.1))
 |((with_reducible refine tg26 ?_);(refine r_mkB ?_;exact h.1))
 |((with_reducible refine tg27 ?_);(refine jX ?_;exact h.1))
 |with_reducible exact BQ.normal h.1|with_reducible exact BQ.ret h.1|with_reducible exact LQ.normal h.1|with_reducible exact LQ.out h.1|with_reducible exact LQ.ret h.1|with_reducible exact BQ.out h.1|with_reducible exact Hb.normal h.1|with_reducible exact Hb.ret h.1|with_reducible exact Hd.normal h.1|with_reducible exact Hd.ret h.1|with_reducible exact Hb.out h.1|with_reducible exact Hd.out h.1|with_reducible exact CQ.normal h.1|with_reducible exact CQ.ret h.1|with_reducible exact CQ.other h.1|((with_reducible refine BQ.other ?_ h.1);exact rfl)|((with_reducible refine LQ.other ?_ h.1);exact rfl)|((with_reducible refine Hb.other ?_ h.1);exact rfl)|((with_reducible refine Hd.other ?_ h.1);exact rfl)):p:=h ⟨k⟩
def jI {p q:Prop}(k:q)(h:Hid q uZ->p:=by intro h;first|exact Rb fun _=>h.1|exact Rd fun _=>h.1|exact Rc fun _=>h.1):p:=h ⟨k⟩
section
variable {Y:Ctx} {Q:Ex->List bW->St->Prop}
end
def er:(∀{p:Prop} [Decidable p],(decide p=true)=p)/\(∀{p:Prop} [Decidable p],decide p=false↔¬p)/\(∀b:Bool,((!b)=true)=(b=false))/\(∀b:Bool,((!b)=false)=(b=true))/\(∀b:Bool,(¬(b=false))=(b=true))/\(∀a b:Bool,((a ||b)=true)=(a=true\/b=true))/\(∀{a b:Bool},(a ||b)=false↔a=false/\b=false)/\(∀a b:Bool,((a&&b)=true)=(a=true/\b=true))/\(∀{a b:Bool},(a&&b)=false↔a=false\/b=false)/\(∀b:Bool,(¬(b=true))=(b=false))/\(∀b:Bool,(true&&b)=b)/\∀b:Bool,(b&&true)=b:=
 ⟨aV,bt,bz,bP,Bool.not_eq_false,cX,dH,bx,dT,Bool.not_eq_true,gu,oO⟩
section
variable {Y:Ctx} {Q:Ex->List bW->St->Prop} {env:List bW} {st:St}
def cC {c:Src}{a b r:AC}{t:Bool}{c1 c2:Prop}(h1:c1->bG Y (.seq a r) Q env st)(h2:c2->bG Y (.seq b r) Q env st)(hc:cF env [] c=⟨true,.bool t⟩:=by exact rfl)(e1:t=true->c1:=by intro h;(try simp only[er]at h);exact h)(e2:t=false->c2:=by intro h;(try simp only[er]at h);exact h):bG Y (.seq (.cond c a b) r) Q env st:=av (fun h=>h1 (e1 h)) (fun h=>h2 (e2 h)) hc
def fH {c:Src}{a b:AC}{t:Bool}{c1 c2:Prop}(h1:c1->bG Y a Q env st)(h2:c2->bG Y b Q env st)(hc:cF env [] c=⟨true,.bool t⟩:=by exact rfl)(e1:t=true->c1:=by intro h;(try simp only[er]at h);exact h)(e2:t=false->c2:=by intro h;(try simp only[er]at h);exact h):bG Y (.cond c a b) Q env st:=wp_cond (fun h=>h1 (e1 h)) (fun h=>h2 (e2 h)) hc
end
end Go.Abs
namespace Go.Abs
variable {Y:Ctx}(hm:(Y.at 0).cd)
def ay {p q:Prop}(k:q)(h:Hid q uZ->p:=by intro h;(iterate 2 refine aC ?_);exact h.1):p:=h ⟨k⟩
def aA {p q:Prop}(k:q)(h:Hid q uZ->p:=by intro h;(iterate 3 refine aC ?_);exact h.1):p:=h ⟨k⟩
def aE {p q:Prop}(k:q)(h:Hid q uZ->p:=by intro h;(iterate 4 refine aC ?_);exact h.1):p:=h ⟨k⟩
def aI {p q:Prop}(k:q)(h:Hid q uZ->p:=by intro h;(iterate 5 refine aC ?_);exact h.1):p:=h ⟨k⟩
def aG {p q:Prop}(k:q)(h:Hid q uZ->p:=by intro h;(iterate 6 refine aC ?_);exact h.1):p:=h ⟨k⟩
def aY {p q:Prop}(k:q)(h:Hid q uZ->p:=by intro h;(iterate 7 refine aC ?_);exact h.1):p:=h ⟨k⟩
def bJ {p q:Prop}(k:q)(h:Hid q uZ->p:=by intro h;(iterate 8 refine aC ?_);exact h.1):p:=h ⟨k⟩
def c7 {p q:Prop}(k:q)(h:Hid q uZ->p:=by intro h;(iterate 9 refine aC ?_);exact h.1):p:=h ⟨k⟩
def hY {p q:Prop}(k:q)(h:Hid q uZ->p:=by intro h;(iterate 10 refine aC ?_);exact h.1):p:=h ⟨k⟩
def fT {p q:Prop}(k:q)(h:Hid q uZ->p:=by intro h;(iterate 11 refine aC ?_);exact h.1):p:=h ⟨k⟩
def fU {p q:Prop}(k:q)(h:Hid q uZ->p:=by intro h;(iterate 12 refine aC ?_);exact h.1):p:=h ⟨k⟩
def lz {p q:Prop}(k:q)(h:Hid q uZ->p:=by intro h;(iterate 13 refine aC ?_);exact h.1):p:=h ⟨k⟩
def xl {p q:Prop}(k:q)(h:Hid q uZ->p:=by intro h;(iterate 14 refine aC ?_);exact h.1):p:=h ⟨k⟩
def A1 {p q:Prop}(k:q)(h:Hid q uZ->p:=by intro h;(iterate 15 refine aC ?_);exact h.1):p:=h ⟨k⟩
def xm {p q:Prop}(k:q)(h:Hid q uZ->p:=by intro h;(iterate 16 refine aC ?_);exact h.1):p:=h ⟨k⟩
def A2 {p q:Prop}(k:q)(h:Hid q uZ->p:=by intro h;(iterate 17 refine aC ?_);exact h.1):p:=h ⟨k⟩
def U4 {p q:Prop}(k:q)(h:Hid q uZ->p:=by intro h;(iterate 18 refine aC ?_);exact h.1):p:=h ⟨k⟩
def U5 {p q:Prop}(k:q)(h:Hid q uZ->p:=by intro h;(iterate 20 refine aC ?_);exact h.1):p:=h ⟨k⟩
def zzz21 {p q:Prop}(k:q)(h:Hid q uZ->p:=by intro h;(iterate 21 refine aC ?_);exact h.1):p:=h ⟨k⟩
def Sa {p q:Prop}(k:q)(h:Hid q uZ->p:=by intro h;(iterate 22 refine aC ?_);exact h.1):p:=h ⟨k⟩
def zzz24 {p q:Prop}(k:q)(h:Hid q uZ->p:=by intro h;(iterate 24 refine aC ?_);exact h.1):p:=h ⟨k⟩
def U6 {p q:Prop}(k:q)(h:Hid q uZ->p:=by intro h;(iterate 25 refine aC ?_);exact h.1):p:=h ⟨k⟩
def zzz26 {p q:Prop}(k:q)(h:Hid q uZ->p:=by intro h;(iterate 26 refine aC ?_);exact h.1):p:=h ⟨k⟩
def Sb {p q:Prop}(k:q)(h:Hid q uZ->p:=by intro h;(iterate 28 refine aC ?_);exact h.1):p:=h ⟨k⟩
def zzz29 {p q:Prop}(k:q)(h:Hid q uZ->p:=by intro h;(iterate 29 refine aC ?_);exact h.1):p:=h ⟨k⟩
def U7 {p q:Prop}(k:q)(h:Hid q uZ->p:=by intro h;(iterate 36 refine aC ?_);exact h.1):p:=h ⟨k⟩
end Go.Abs
namespace Go.Abs
variable {Y:Ctx}(hm:(Y.at 0).cd)
abbrev s0:Src:=.s 0
abbrev s1:Src:=.s 1
abbrev s2:Src:=.s 2
abbrev s3:Src:=.s 3
abbrev s4:Src:=.s 4
abbrev s5:Src:=.s 5
abbrev s6:Src:=.s 6
abbrev s7:Src:=.s 7
abbrev s8:Src:=.s 8
abbrev s9:Src:=.s 9
abbrev jh:Src:=.s 10
abbrev lf:Src:=.s 11
abbrev j8:Src:=.s 12
abbrev qG:Src:=.s 13
abbrev qv:Src:=.s 14
abbrev xc:Src:=.s 15
abbrev A7:Src:=.s 16
abbrev Cw:Src:=.s 17
abbrev Hh:Src:=.s 18
abbrev UX:Src:=.s 19
abbrev Kq:Src:=.s 20
abbrev XK:Src:=.s 21
abbrev XL:Src:=.s 22
abbrev s23:Src:=.s 23
abbrev Xm:Src:=.s 24
abbrev XM:Src:=.s 25
abbrev s26:Src:=.s 26
abbrev s27:Src:=.s 27
abbrev s28:Src:=.s 28
abbrev s29:Src:=.s 29
abbrev UY:Src:=.s 30
abbrev s31:Src:=.s 31
abbrev s32:Src:=.s 32
abbrev s33:Src:=.s 33
abbrev s34:Src:=.s 34
abbrev s35:Src:=.s 35
abbrev s36:Src:=.s 36
abbrev s37:Src:=.s 37
abbrev s38:Src:=.s 38
abbrev l0:Src:=.l 0
abbrev l1:Src:=.l 1
abbrev l2:Src:=.l 2
abbrev l3:Src:=.l 3
abbrev l4:Src:=.l 4
abbrev l5:Src:=.l 5
abbrev l6:Src:=.l 6
abbrev l7:Src:=.l 7
abbrev l8:Src:=.l 8
abbrev l9:Src:=.l 9
abbrev l10:Src:=.l 10
abbrev gh:Src:=.l 11
abbrev iE:Src:=.l 12
abbrev jr:Src:=.l 13
abbrev j5:Src:=.l 14
abbrev lr:Src:=.l 15
abbrev mK:Src:=.l 16
abbrev pM:Src:=.l 17
abbrev qC:Src:=.l 18
abbrev rm:Src:=.l 19
abbrev va:Src:=.l 20
abbrev xB:Src:=.l 21
abbrev A5:Src:=.l 22
abbrev Ew:Src:=.l 23
abbrev Fz:Src:=.l 24
abbrev Hg:Src:=.l 25
abbrev OI:Src:=.l 26
abbrev Sf:Src:=.l 27
abbrev UM:Src:=.l 28
abbrev UN:Src:=.l 29
abbrev XH:Src:=.l 30
abbrev l31:Src:=.l 31
abbrev l32:Src:=.l 32
abbrev l33:Src:=.l 33
abbrev l34:Src:=.l 34
abbrev l35:Src:=.l 35
abbrev l36:Src:=.l 36
abbrev l37:Src:=.l 37
abbrev gm (x:Src):GI:=⟨.mv x,none⟩
abbrev gn (x:aN):GI:=⟨x,none⟩
abbrev i6 (n:Int):Src:=.c (.int .i64 n)
abbrev cs (s:List UInt8):Src:=.c (.str s)
abbrev gd (x:Src):GI:=⟨.ld 1 false x,none⟩
abbrev gk (n:Nat)(b:Bool)(x:Src):GI:=⟨.ld n b x,none⟩
abbrev gf (n:Nat)(x:Src):GI:=⟨.fa n x,none⟩
abbrev gl (x:Src):GI:=⟨.len x,none⟩
abbrev ga (n:Nat)(x y:Src):GI:=⟨.ia n x y,none⟩
abbrev ge (x:Src)(n:Nat):GI:=⟨.ext x n,none⟩
abbrev gb (n:Nat)(x:Src):GI:=⟨.box n x,none⟩
abbrev gc (x:Src):GI:=⟨.nilck x,none⟩
abbrev gt (n:Nat)(x y:Src):GI:=⟨.st n x y,none⟩
abbrev gx (n:Nat)(x:List Src)(y:List (List Sh)):GI:=⟨.call n x y,none⟩
abbrev rg (x:List GI)(y:List (Nat×Nat)):AC:=.reg false x y
abbrev rt (x:List GI)(y:List (Nat×Nat)):AC:=.reg true x y
abbrev nL (x y:Src):aN:=.bin .lss x y
abbrev cO (x y:Src):aN:=.bin .eql x y
abbrev zb (x y:Src):aN:=.bin .add x y
abbrev ew (x y:Src):aN:=.bin .gtr x y
abbrev ei (x y:Src):aN:=.bin .neq x y
abbrev mU (x y:Src):aN:=.bin .leq x y
abbrev sP (x y:Src):aN:=.bin .geq x y
abbrev kA (x y:Src):aN:=.bin .sub x y
abbrev Pf (x y:Src):aN:=.bin .and x y
abbrev dk:Src:=.c (.bool false)
abbrev oS:Src:=.c (.bool true)
abbrev cse:Src:=.c (.str [])
abbrev bp:Src:=.c (.int .i64 0)
abbrev bV:Src:=.c (.int .i64 1)
abbrev kr:Src:=.c (.int .i64 2)
abbrev ko:Src:=.c (.int .i64 3)
abbrev sE:Src:=.c (.int .i64 4)
abbrev Hf:Src:=.c (.int .i64 5)
abbrev vI:Src:=.c (.int .i64 6)
abbrev OG:Src:=.c (.int .i64 7)
abbrev Eu:Src:=.c (.int .i64 8)
abbrev Ev:Src:=.c (.int .i64 9)
abbrev gmt (n:Nat)(x:Src):GI:=⟨.mv x,some (n,true)⟩
abbrev kn (n:Nat)(x:Src):GI:=⟨.ld 1 false x,some (n,true)⟩
abbrev k9 (n o:Nat)(x:Src):GI:=⟨.fa o x,some (n,true)⟩
abbrev bZ (n:Nat)(x:aN):GI:=⟨x,some (n,true)⟩
abbrev eO (n:Nat)(x:Src):GI:=⟨.mv x,some (n,false)⟩
abbrev iD (n:Nat)(x:Src):GI:=⟨.ld 1 false x,some (n,false)⟩
abbrev gJ (n o:Nat)(x:Src):GI:=⟨.fa o x,some (n,false)⟩
abbrev cl (n:Nat)(x:aN):GI:=⟨x,some (n,false)⟩
abbrev sq (a b:AC):AC:=.seq a b
abbrev xx (x:Src):AC:=.seq (.reg false [⟨.mv x,none⟩] [(1,0)]) .ret
abbrev mj (c x:Src):AC:=.cond c (.seq (.reg false [⟨.mv x,none⟩] [(1,0)]) .ret) .skip
abbrev bQ:List (List Sh):=[[.a]]
abbrev ha2:List (List Sh):=[[.a,.a]]
abbrev zH:List (List Sh):=[[.a,.a,.a,.a,.a]]
abbrev Sd:List (List Sh):=[[.a,.a,.a,.a,.a,.a,.a]]
abbrev fQ:List (List Sh):=[[.a],[.a]]
abbrev Se:List (List Sh):=[[.a],[.a],[.a]]
abbrev hb4:List (List Sh):=[[.a],[.a],[.a],[.a]]
abbrev eW (c x:Src):GI:=⟨.pick c (.c (.bool true)) x,none⟩
abbrev eG (c x:Src):GI:=⟨.pick c x (.c (.bool false)),none⟩
abbrev Wy (n:Nat)(c x:Src):GI:=⟨.pick c (.c (.bool true)) x,some (n,true)⟩
abbrev Et (n:Nat)(c x:Src):GI:=⟨.pick c x (.c (.bool false)),some (n,false)⟩
abbrev aO (x y:Src):GI:=⟨.bin .lss x y,none⟩
abbrev aL (x y:Src):GI:=⟨.bin .eql x y,none⟩
abbrev aw (x y:Src):GI:=⟨.bin .add x y,none⟩
abbrev dd (x y:Src):GI:=⟨.bin .gtr x y,none⟩
abbrev bO (x y:Src):GI:=⟨.bin .neq x y,none⟩
abbrev DF (x y:Src):GI:=⟨.bin .leq x y,none⟩
abbrev gp (x y:Src):GI:=⟨.bin .geq x y,none⟩
abbrev ee (x y:Src):GI:=⟨.bin .sub x y,none⟩
abbrev Qj (x y:Src):GI:=⟨.bin .and x y,none⟩
abbrev JU (x y:Src):GI:=⟨.bin .or x y,none⟩
abbrev fh (c:Src)(n:Nat):AC:=.cond c .skip (.exit n)
abbrev i8 (n:Int):Src:=.c (.int .u8 n)
abbrev i3 (n:Int):Src:=.c (.int .i32 n)
abbrev iu (n:Int):Src:=.c (.int .u64 n)
abbrev pg (x:Src):GI:=⟨.lenS x,none⟩
abbrev jJ (x:Src):GI:=⟨.un .not x,none⟩
abbrev HP (x y:Src):GI:=⟨.ixS x y,none⟩
abbrev r1 (x:List GI)(a b:Nat):AC:=.reg false x [(a,b)]
abbrev r2 (x:List GI)(a b:Nat):AC:=.reg true x [(a,b)]
abbrev gQ:List Hi:=[⟨1,none⟩]
end Go.Abs
end
namespace Go.Abs
variable {Y:Ctx}(hm:(Y.at 0).cd)
def NO:aF:=⟨2,7,[⟨2,none⟩],bQ,(sq (r1 [gm cse] 2 0) (sq (r1 [gm cse] 6 0) (sq (sq (r1 [gm bp] 3 0) (.block 0 (.loop (sq (sq (r1 [gm s3,gm s0,gl l1,aO l0 l2] 4 3) (fh s4 0)) (sq (.block 1 (sq (sq (r1 [gm s3,dd l0 bp] 5 1) (.cond s5 (r1 [gm s6,gm s1,gn (.bsl 1 (.int .u8 0) 1 [(0,l1)]),gn (.b2s l2),aw l0 l3,gm l4] 6 5) .skip)) (r1 [gm s6,gm s0,gm s3,ga 1 l1 l2,gd l3,aw l0 l4,gm l5] 6 6))) (r1 [gm s3,aw l0 bV,gm l1] 3 2)))))) (sq (r1 [gm s6,gm l0] 2 1) .ret))))⟩
def w249  (l:List au)(x:UInt8)  (hp0:(aS [x] l).length<=1099511627776):de Y NO (.str (aS [x] l)) [.sl 1 (l.map D.str),.int .u8 (x.toNat:Nat)]:=by
 show bG _ _ _ [⟨_,_⟩,⟨_,_⟩,_,_,_,_,_] _;refine aq ?_;refine c7 ?_;refine a7 hm (ι:=Nat) (fun i=>[⟨true,.sl 1 (l.map D.str)⟩,⟨true,.int .u8 (x.toNat:Nat)⟩,.un,⟨true,.int .i64 (i:Nat)⟩,.un,.un,⟨true,.str (aS [x] (l.take i))⟩]) (fun i=>[]) 3 (fun i=>i<=l.length) (fun i=>l.length-i) 0 ae (dp []) ?_;intro i hi;refine aI ?_;intro u0;refine ay ?_;refine cC (fun hc0=>?_) fun hc0=>?_
 .refine aE ?_;have hj:=se [x] l (i+1);refine aA ?_;refine av (fun hc1=>?_) (fun hc1=>?_)
  .simp only[aV]at hc1;have ht:=p7 [x] l i ae;rw[ax ae]at ht;have htl:=ar List.length ht;simp only[bF,List.length_singleton]at htl;refine aA ?_;refine dh [.int .u8 _] ?_;refine J8 [x] (he:=fun _=>sX.all ah rfl) (hs:=fun _=>rfl) ?_;refine c9 (hb:=fun _=>by simp only[List.length_singleton];omega) ?_;refine bJ ?_;refine c9 (hb:=fun _=>by first|(simp only[bF,List.length_singleton];omega)|(subst hi0;simp only[List.take_zero,aS,aB]at htl⊢;omega)) ?_;refine c7 ?_;exact⟨i+1,ae,ae,(aX.to [] ah ah (by repeat(first|exact dE.nil|refine dE.un ?_|refine dE.eq ah ?_|refine dE.nl (ar D.str (by rw[ht])) ah ?_)) rC)⟩
  simp only[bt]at hc1;have ht:=p7 [x] l i ae;rw[aj ae]at ht;have htl:=ar List.length ht;simp only[bF,aB]at htl;have hi0:i=0:=ae;refine aY ?_;refine c9 (hb:=fun _=>by first|(simp only[bF,List.length_singleton];omega)|(subst hi0;simp only[List.take_zero,aS,aB]at htl⊢;omega)) ?_;refine c7 ?_;exact⟨i+1,ae,ae,(aX.to [] ah ah (by repeat(first|exact dE.nil|refine dE.un ?_|refine dE.eq ah ?_|refine dE.nl (ar D.str (by rw[ht];subst hi0;rfl)) ah ?_)) rC)⟩
 refine aY ?_;refine cU ?_;rw[ek ae]
def KZ (T:List D->D->Prop):Prop:=∀(l:List au) (x:UInt8),((aS [x] l).length<=1099511627776)->T [.sl 1 (l.map D.str),.int .u8 (x.toNat:Nat)] (.str (aS [x] l))
def Si (Y:Ctx):Prop:=KZ (br Y 249)
def Ay:aF:=⟨2,7,[⟨2,none⟩],bQ,(sq (r1 [gm dk] 2 0) (sq (sq (r1 [gm s0,gl l0,gm s1,gl l2,bO l1 l3] 3 4) (.cond s3 (sq (r1 [gm dk] 2 0) .ret) .skip)) (sq (sq (r1 [gm bp] 4 0) (.block 0 (.loop (sq (sq (r1 [gm s4,gm s0,gl l1,aO l0 l2] 5 3) (fh s5 0)) (sq (.block 1 (sq (r2 [gm s0,gm s4,ga 1 l0 l1,gd l2,gm s1,gm s4,ga 1 l4 l5,gd l6,bO l3 l7] 6 8) (.cond s6 (sq (r1 [gm dk] 2 0) .ret) .skip))) (r1 [gm s4,aw l0 bV,gm l1] 4 2)))))) (sq (r1 [gm oS] 2 0) .ret))))⟩
def w226  (a:List au)(b:List au)   :de Y Ay (.bool (decide (a=b))) [.sl 1 (a.map D.str),.sl 1 (b.map D.str)]:=by
 show bG _ _ _ [⟨_,_⟩,⟨_,_⟩,_,_,_,_,_] _;refine aq ?_;refine aG ?_;intro u0;refine ay ?_;intro u1;refine ay ?_;refine cC (fun hc0=>?_) fun hc0=>?_
 .refine aI ?_;refine bI ?_;symm;rw[bt];rintro rfl;exact hc0 rfl
 refine aI ?_;have hab:a.length=b.length:=ae;have hb:=pE hab;refine a7 hm (ι:=Nat) (fun i=>[⟨true,.sl 1 (a.map D.str)⟩,⟨true,.sl 1 (b.map D.str)⟩,.un,.un,⟨true,.int .i64 (i:Nat)⟩,.un,.un]) (fun i=>[]) 7 (fun i=>i<=a.length/\decide (a=b)=cP (fun i=>decide (a[i]! =b[i]!)) i a.length) (fun i=>a.length-i) 0 ⟨ae,hb⟩ (dp []) ?_;rintro i ⟨hi,hr⟩;refine aI ?_;intro u2;refine ay ?_;refine cC (fun hc1=>?_) fun hc1=>?_
 .refine lz ?_;refine wp_cond (fun hc2=>?_) (fun hc2=>?_)
  .simp only[bz,bt]at hc2;refine aG ?_;refine bI ?_;rw[hr,aR ae,cT hc2];rfl
  simp only[bP,aV]at hc2;refine bJ ?_;exact⟨i+1,⟨ae,by rw[hr,aR ae,cj hc2];rfl⟩,ae,(dp [])⟩
 refine aG ?_;refine bI ?_;rw[hr,ca ae]
def KN (T:List D->D->Prop):Prop:=∀(a:List au) (b:List au),T [.sl 1 (a.map D.str),.sl 1 (b.map D.str)] (.bool (decide (a=b)))
def Vd (Y:Ctx):Prop:=KN (br Y 226)
def Gg:aF:=⟨1,5,gQ,bQ,(sq (r1 [gm dk] 1 0) (sq (sq (r1 [gm bV] 2 0) (.block 0 (.loop (sq (sq (r1 [gm s2,gm s0,gl l1,aO l0 l2] 3 3) (fh s3 0)) (sq (.block 1 (sq (r2 [gm s0,gm s2,ee l1 bV,ga 1 l0 l2,gd l3,gm s0,gm s2,ga 1 l5 l6,gd l7,gp l4 l8] 4 9) (mj s4 dk))) (r1 [gm s2,aw l0 bV,gm l1] 2 2)))))) (xx oS)))⟩
def w815  (l:List au)   :de Y Gg (.bool (rising l)) [.sl 1 (l.map D.str)]:=by
 show bG _ _ _ [⟨_,_⟩,_,_,_,_] _;refine aq ?_;refine aG ?_;refine a7 hm (ι:=Nat) (fun i=>[⟨true,.sl 1 (l.map D.str)⟩,.un,⟨true,.int .i64 (i:Nat)⟩,.un,.un]) (fun i=>[]) 2 (fun i=>1<=i/\(i<=l.length\/i=1)/\rising l=cP (fun i=>Op.bytesLess l[i-1]! l[i]!) i l.length) (fun i=>l.length-i) 1 ⟨ae,ae,rfl⟩ (dp []) ?_;rintro i ⟨h1,hi,hr⟩;refine aI ?_;intro u0;refine ay ?_;refine cC (fun hc0=>?_) fun hc0=>?_
 .refine aG ?_;refine cb (i-1) ?_;refine aY ?_;refine wp_cond (fun hc1=>?_) (fun hc1=>?_)
  .simp only[bz]at hc1;refine aG ?_;refine bI ?_;rw[hr,aR ae,hc1];rfl
  simp only[bP]at hc1;refine bJ ?_;exact⟨i+1,⟨ae,ae,by rw[hr,aR ae,hc1];rfl⟩,ae,(dp [])⟩
 refine aG ?_;refine bI ?_;rw[hr,ca ae]
def yW (T:List D->D->Prop):Prop:=∀(l:List au),T [.sl 1 (l.map D.str)] (.bool (rising l))
def VJ (Y:Ctx):Prop:=yW (br Y 815)
def Be:aF:=⟨1,5,gQ,bQ,(sq (r1 [gm dk] 1 0) (sq (sq (r1 [gm bV] 2 0) (.block 0 (.loop (sq (sq (r1 [gm s2,gm s0,gl l1,aO l0 l2] 3 3) (fh s3 0)) (sq (.block 1 (sq (r2 [gm s0,gm s2,ee l1 bV,ga 1 l0 l2,gd l3,gm s0,gm s2,ga 1 l5 l6,gd l7,gp l4 l8] 4 9) (mj s4 dk))) (r1 [gm s2,aw l0 bV,gm l1] 2 2)))))) (xx oS)))⟩
def w447  (l:List au)   :de Y Be (.bool (rising l)) [.sl 1 (l.map D.str)]:=by
 show bG _ _ _ [⟨_,_⟩,_,_,_,_] _;refine aq ?_;refine aG ?_;refine a7 hm (ι:=Nat) (fun i=>[⟨true,.sl 1 (l.map D.str)⟩,.un,⟨true,.int .i64 (i:Nat)⟩,.un,.un]) (fun i=>[]) 2 (fun i=>1<=i/\(i<=l.length\/i=1)/\rising l=cP (fun i=>Op.bytesLess l[i-1]! l[i]!) i l.length) (fun i=>l.length-i) 1 ⟨ae,ae,rfl⟩ (dp []) ?_;rintro i ⟨h1,hi,hr⟩;refine aI ?_;intro u0;refine ay ?_;refine cC (fun hc0=>?_) fun hc0=>?_
 .refine aG ?_;refine cb (i-1) ?_;refine aY ?_;refine wp_cond (fun hc1=>?_) (fun hc1=>?_)
  .simp only[bz]at hc1;refine aG ?_;refine bI ?_;rw[hr,aR ae,hc1];rfl
  simp only[bP]at hc1;refine bJ ?_;exact⟨i+1,⟨ae,ae,by rw[hr,aR ae,hc1];rfl⟩,ae,(dp [])⟩
 refine aG ?_;refine bI ?_;rw[hr,ca ae]
def Yo (Y:Ctx):Prop:=yW (br Y 447)
def HX:aF:=⟨1,8,gQ,bQ,(sq (r1 [gm dk] 1 0) (sq (sq (r1 [gm s0,aL l0 cse,gm l1,eO 2 s0,cl 2 (.lenS l3),cl 2 (ew l4 (i6 12)),eW l2 l5] 2 6) (mj s2 dk)) (sq (sq (r1 [gm s0,gn (.tO l0)] 3 1) (.block 0 (.loop (sq (rg [gn (.A6 s3),ge l0 0] [(5,0),(4,1)]) (sq (fh s4 0) (.block 1 (sq (r1 [ge s5 2,gm l0] 6 1) (.block 2 (sq (sq (r1 [gm s6,gp l0 (i3 97),gm l1,gmt 2 s6,bZ 2 (mU l3 (i3 122)),eG l2 l4,gm l5] 7 6) (.cond s7 .skip (sq (r1 [gm s6,gp l0 (i3 48),gm l1,gmt 2 s6,bZ 2 (mU l3 (i3 57)),eG l2 l4,gm l5] 7 6) (.cond s7 .skip (r1 [gm s6,aL l0 (i3 95),gm l1] 7 2))))) (.cond s7 .skip (xx dk))))))))))) (xx oS))))⟩
def w349  (s:au)   :de Y HX (.bool (cI s)) [.str s]:=by
 show bG _ _ _ [⟨_,_⟩,_,_,_,_,_,_,_] _;refine aq ?_;refine bJ ?_;refine jI ?_;refine aA ?_;refine cC (fun hc0=>?_) fun hc0=>?_
 .refine aI ?_;refine bI ?_;symm;simp only[cI,dT,bt];rcases hc0 with h|h
  .subst h;exact Or.inl (Or.inl aT)
  .exact Or.inl ae
 refine aG ?_;have hP:cI s=cP (fun i=>yo (at8 s i)) 0 s.length:=by
  have:=List.length_pos_iff.2 hc0.1;simp only[cI];rw[cj ae,cj ae];rfl
 refine a7 hm (ι:=Nat) (fun i=>[⟨true,.str s⟩,.un,.un,⟨true,.it 9⟩,.un,.un,.un,.un]) (fun i=>[(9,.iter s i)]) 10 (fun i=>i<=s.length/\cI s=cP (fun i=>yo (at8 s i)) i s.length) (fun i=>s.length-i) 0 ⟨ae,hP⟩ (dp [(9,9)]) ?_;rintro i ⟨hi,hr⟩;refine aC ?_;by_cases hnx:i<s.length
 .obtain⟨c,w,hdec,hw,hcw⟩:=uq s i hnx;refine DU c w (hp:=hnx) (hc:=hdec) ?_;refine ay ?_;refine av (t:=true) (fun _=>?_) (fun h=>by cases h);refine A2 ?_;refine cC (fun hc2=>?_) fun hc2=>?_
  .refine aC ?_;refine fH (fun hc4=>?_) fun hc4=>?_
   .refine aE ?_;obtain⟨rfl,hat,-⟩:w=1/\(c:Int)=at8 s i/\c<128:=by
     rcases hcw with h|h
     .exact h
     .omega
    have hz:yo (at8 s i)=true:=by
     simp only[yo,ik,bo,cX,bx,aV];omega
    exact⟨i+1,⟨ae,by rw[hr,aR hnx,hz];rfl⟩,ae,(dp [(9,9)])⟩
   refine aY ?_;refine bI ?_;first
    |(exfalso;omega)
    |(rw[hr,ca ae];done)
    |(
     have hz:yo (at8 s i)=false:=by
      rcases hcw with⟨_,h,_⟩|⟨_,h⟩<;>(simp only[yo,ik,bo,dH,dT,bt];omega)
     rw[hr,aR hnx,hz];rfl)
  refine hY ?_;refine cC (fun hc3=>?_) fun hc3=>?_
  .refine aC ?_;refine fH (fun hc4=>?_) fun hc4=>?_
   .refine aE ?_;obtain⟨rfl,hat,-⟩:w=1/\(c:Int)=at8 s i/\c<128:=by
     rcases hcw with h|h
     .exact h
     .omega
    have hz:yo (at8 s i)=true:=by
     simp only[yo,ik,bo,cX,bx,aV];omega
    exact⟨i+1,⟨ae,by rw[hr,aR hnx,hz];rfl⟩,ae,(dp [(9,9)])⟩
   refine aY ?_;refine bI ?_;first
    |(exfalso;omega)
    |(rw[hr,ca ae];done)
    |(
     have hz:yo (at8 s i)=false:=by
      rcases hcw with⟨_,h,_⟩|⟨_,h⟩<;>(simp only[yo,ik,bo,dH,dT,bt];omega)
     rw[hr,aR hnx,hz];rfl)
  refine aI ?_;refine fH (fun hc4=>?_) fun hc4=>?_
  .refine aE ?_;obtain⟨rfl,hat,-⟩:w=1/\(c:Int)=at8 s i/\c<128:=by
    rcases hcw with h|h
    .exact h
    .omega
   have hz:yo (at8 s i)=true:=by
    simp only[yo,ik,bo,cX,bx,aV];omega
   exact⟨i+1,⟨ae,by rw[hr,aR hnx,hz];rfl⟩,ae,(dp [(9,9)])⟩
  refine aY ?_;refine bI ?_;first
   |(exfalso;omega)
   |(rw[hr,ca ae];done)
   |(
    have hz:yo (at8 s i)=false:=by
     rcases hcw with⟨_,h,_⟩|⟨_,h⟩<;>(simp only[yo,ik,bo,dH,dT,bt];omega)
    rw[hr,aR hnx,hz];rfl)
 .refine DT (hp:=hnx) ?_;refine ay ?_;refine av (t:=false) (fun h=>by cases h) (fun _=>?_);refine aG ?_;refine bI ?_;first
   |(exfalso;omega)
   |(rw[hr,ca ae];done)
   |(
    have hz:yo (at8 s i)=false:=by
     rcases hcw with⟨_,h,_⟩|⟨_,h⟩<;>(simp only[yo,ik,bo,dH,dT,bt];omega)
    rw[hr,aR hnx,hz];rfl)
def yx (T:List D->D->Prop):Prop:=∀(s:au),T [.str s] (.bool (cI s))
def Hm (Y:Ctx):Prop:=yx (br Y 349)
def HW:aF:=⟨1,13,gQ,bQ,(sq (r1 [gm dk] 1 0) (sq (sq (r1 [gm s0,aL l0 cse,gm l1,eO 2 s0,cl 2 (.lenS l3),cl 2 (ew l4 (i6 16)),eW l2 l5] 2 6) (mj s2 dk)) (sq (sq (r1 [gm s0,gn (.tO l0)] 3 1) (.block 0 (.loop (sq (rg [gn (.A6 s3),ge l0 0] [(5,0),(4,1)]) (sq (fh s4 0) (.block 1 (sq (rg [ge s5 1,ge s5 2,gm l0,gm l1] [(9,2),(6,3)]) (.block 2 (sq (r1 [gm s6,gp l0 (i3 97),gm l1,gmt 2 s6,bZ 2 (mU l3 (i3 122)),eG l2 l4,gm l5] 7 6) (.cond s7 .skip (sq (r1 [gm s6,gp l0 (i3 48),gm l1,gmt 2 s6,bZ 2 (mU l3 (i3 57)),eG l2 l4,gm l5] 8 6) (.cond s8 (sq (r1 [gm s9,aL l0 bp] 10 1) (mj jh dk)) (sq (r1 [gm s6,aL l0 (i3 45),gm l1] 11 2) (.cond lf (sq (r1 [gm s9,aL l0 bp,gm l1,eO 2 s9,eO 2 s0,cl 2 (.lenS l4),cl 2 (kA l5 bV),cl 2 (cO l3 l6),eW l2 l7,gm l8,eO 9 s0,eO 9 s9,cl 9 (kA gh bV),cl 9 (.ixS l10 iE),cl 9 (cO jr (i8 45)),eW l9 j5] 12 15) (mj j8 dk)) (xx dk))))))))))))))) (xx oS))))⟩
def w208  (s:au)   :de Y HW (.bool (dN s)) [.str s]:=by
 show bG _ _ _ [⟨_,_⟩,_,_,_,_,_,_,_,_,_,_,_,_] _;refine aq ?_;refine bJ ?_;refine jI ?_;refine aA ?_;refine cC (fun hc0=>?_) fun hc0=>?_
 .refine aI ?_;refine bI ?_;symm;simp only[dN];rcases hc0 with h|h
  .subst h;simp
  .rw[cT (by omega:¬s.length<=16)];simp
 refine aG ?_;have h0:=List.length_pos_iff.2 hc0.1;have hP:=Tv s ae ae;refine a7 hm (ι:=Nat) (fun i=>[⟨true,.str s⟩,.un,.un,⟨true,.it 9⟩,.un,.un,.un,.un,.un,.un,.un,.un,.un]) (fun i=>[(9,.iter s i)]) 10 (fun i=>i<=s.length/\dN s=cP (oM s) i s.length) (fun i=>s.length-i) 0 ⟨ae,hP⟩ (dp [(9,9)]) ?_;rintro i ⟨hi,hr⟩;refine aC ?_;by_cases hnx:i<s.length
 .obtain⟨c,w,hdec,hw,hcw⟩:=uq s i hnx;refine DU c w (hp:=hnx) (hc:=hdec) ?_;refine ay ?_;refine av (t:=true) (fun _=>?_) (fun h=>by cases h);refine U4 ?_;refine fH (fun hc2=>?_) fun hc2=>?_
  .refine aE ?_;obtain⟨rfl,hat,-⟩:w=1/\(c:Int)=at8 s i/\c<128:=by
    rcases hcw with h|h
    .exact h
    .omega
   have hz:oM s i=true:=by
    simp only[oM,ik,bo,cX,bx,bz,aV,bt];omega
   exact⟨i+1,⟨ae,by rw[hr,aR hnx,hz];rfl⟩,ae,(dp [(9,9)])⟩
  refine c7 ?_;refine fH (fun hc3=>?_) fun hc3=>?_
  .refine aE ?_;refine fH (fun hc4=>?_) fun hc4=>?_
   .refine aY ?_;refine bI ?_;first
     |(exfalso;omega)
     |(rw[hr,ca ae];done)
     |(have hz:oM s i=false:=by
        rcases hcw with⟨_,h,_⟩|⟨_,h⟩<;>(simp only[oM,ik,bo,dH,dT,bP,aV,bt];omega)
       rw[hr,aR hnx,hz];rfl)
   refine aE ?_;obtain⟨rfl,hat,-⟩:w=1/\(c:Int)=at8 s i/\c<128:=by
    rcases hcw with h|h
    .exact h
    .omega
   have hz:oM s i=true:=by
    simp only[oM,ik,bo,cX,bx,bz,aV,bt];omega
   exact⟨i+1,⟨ae,by rw[hr,aR hnx,hz];rfl⟩,ae,(dp [(9,9)])⟩
  refine aI ?_;refine fH (fun hc5=>?_) fun hc5=>?_
  .refine aG ?_;refine jI ?_;refine aY ?_;refine ow (i-1) ?_;refine aA ?_;refine fH (fun hc6=>?_) fun hc6=>?_
   .refine aY ?_;refine bI ?_;first
     |(exfalso;omega)
     |(rw[hr,ca ae];done)
     |(have hz:oM s i=false:=by
        rcases hcw with⟨_,h,_⟩|⟨_,h⟩<;>(simp only[oM,ik,bo,dH,dT,bP,aV,bt];omega)
       rw[hr,aR hnx,hz];rfl)
   refine aE ?_;obtain⟨rfl,hat,-⟩:w=1/\(c:Int)=at8 s i/\c<128:=by
    rcases hcw with h|h
    .exact h
    .omega
   have hz:oM s i=true:=by
    simp only[oM,ik,bo,cX,bx,bz,aV,bt];omega
   exact⟨i+1,⟨ae,by rw[hr,aR hnx,hz];rfl⟩,ae,(dp [(9,9)])⟩
  refine aY ?_;refine bI ?_;first
   |(exfalso;omega)
   |(rw[hr,ca ae];done)
   |(have hz:oM s i=false:=by
      rcases hcw with⟨_,h,_⟩|⟨_,h⟩<;>(simp only[oM,ik,bo,dH,dT,bP,aV,bt];omega)
     rw[hr,aR hnx,hz];rfl)
 .refine DT (hp:=hnx) ?_;refine ay ?_;refine av (t:=false) (fun h=>by cases h) (fun _=>?_);refine aG ?_;refine bI ?_;first
   |(exfalso;omega)
   |(rw[hr,ca ae];done)
   |(have hz:oM s i=false:=by
      rcases hcw with⟨_,h,_⟩|⟨_,h⟩<;>(simp only[oM,ik,bo,dH,dT,bP,aV,bt];omega)
     rw[hr,aR hnx,hz];rfl)
def yp (T:List D->D->Prop):Prop:=∀(s:au),T [.str s] (.bool (dN s))
def L6 (Y:Ctx):Prop:=yp (br Y 208)
def Dv:aF:=⟨1,10,[⟨1,none⟩,⟨2,none⟩],fQ,(sq (rg [gm bp,gm dk] [(1,0),(2,1)]) (sq (sq (r1 [gm s0,aL l0 cse,gm l1,eO 2 s0,cl 2 (.lenS l3),cl 2 (ew l4 sE),eW l2 l5,gm l6,eO 7 s0,cl 7 (.ixS l8 bp),cl 7 (cO l9 (i8 48)),eO 7 l10,gmt 11 s0,bZ 11 (.lenS iE),bZ 11 (ew jr bV),Et 7 gh j5,eW l7 lr] 3 16) (.cond s3 (sq (rg [gm bp,gm dk] [(1,0),(2,1)]) .ret) .skip)) (sq (r1 [gm bp] 9 0) (sq (sq (r1 [gm s0,gn (.tO l0)] 4 1) (.block 0 (.loop (sq (rg [gn (.A6 s4),ge l0 0] [(6,0),(5,1)]) (sq (fh s5 0) (.block 1 (sq (r1 [ge s6 2,gm l0] 7 1) (.block 2 (sq (r1 [gm s7,gp l0 (i3 48),gm l1,gmt 2 s7,bZ 2 (mU l3 (i3 57)),eG l2 l4,gm l5] 8 6) (.cond s8 (r1 [gm s9,gn (.bin .mul (i6 10) l0),gm s7,ee l2 (i3 48),gn (.cvi .i64 l3),aw l1 l4,gm l5] 9 6) (sq (rg [gm bp,gm dk] [(1,0),(2,1)]) .ret))))))))))) (sq (rg [gm s9,gm s9,DF l1 (i6 9999),gm l0,gm l2] [(1,3),(2,4)]) .ret)))))⟩
def w658  (s:au)   :de Y Dv (.tup [.int .i64 (eY s),.bool (gX s)]) [.str s]:=by
 show bG _ _ _ [⟨_,_⟩,_,_,_,_,_,_,_,_,_] _;refine aq ?_;refine c7 ?_;refine jI ?_;refine aE ?_;refine ow 0 (hb:=fun h=>by simp at h;exact List.length_pos_iff.2 h.1) ?_;refine aA ?_;refine jI ?_;refine aE ?_;refine cC (fun hc0=>?_) fun hc0=>?_
 .refine aG ?_;refine bM (aM (ar (D.int .i64) ?_) (ar D.bool ?_));all_goals
   have:gX s=false:=by
    rw[DG];rcases hc0 with(h|h)|h
    .subst h;simp
    .rw[cT (by omega:¬s.length<=4)];simp
    .rw[cj (by omega:1<s.length),cj h.1];simp
   simp[eY,this]
 refine c7 ?_;have h0:=List.length_pos_iff.2 hc0.1.1;have hP:gX s=cP (fun i=>bo (at8 s i)) 0 s.length:=by
  rw[DG,cj (by omega:1<=s.length),cj (by omega:s.length<=4)];rcases hc0.2 with h|h
  .rw[cT h,Bool.and_false];rfl
  .rw[cT (by omega:¬1<s.length)];rfl
 refine a7 hm (ι:=Nat) (fun i=>[⟨true,.str s⟩,.un,.un,.un,⟨true,.it 21⟩,.un,.un,.un,.un,⟨true,.int .i64 (ef (s.take i):Nat)⟩]) (fun i=>[(21,.iter s i)]) 22 (fun i=>i<=s.length/\s.length<=4/\gX s=cP (fun i=>bo (at8 s i)) i s.length) (fun i=>s.length-i) 0 ⟨ae,ae,hP⟩ (dp [(21,21)]) ?_;rintro i ⟨hi,h9,hr⟩;refine aC ?_;by_cases hnx:i<s.length
 .obtain⟨c,w,hdec,hw,hcw⟩:=uq s i hnx;refine DU c w (hp:=hnx) (hc:=hdec) ?_;refine ay ?_;refine av (t:=true) (fun _=>?_) (fun h=>by cases h);refine xm ?_;refine fH (fun hc2=>?_) fun hc2=>?_
  .refine aC ?_;obtain⟨rfl,hat,-⟩:w=1/\(c:Int)=at8 s i/\c<128:=by
    rcases hcw with h|h
    .exact h
    .omega
   have hn:=uK s i ae;have hn2:=wV s i ae;have h256:=vn s i;refine aC ?_;refine ox ?_;refine aC ?_;refine tK ((c:Int) -48) (hb:=fun _=>IntWalk.i32_in _ ae) ?_;refine ov ((c:Int) -48) (hb:=fun _=>IntWalk.i64_in _ ae) ?_;refine aA ?_;rw[show 10*(ef (s.take i):Int)+((c:Int) -48)=(ef (s.take (i+1)):Nat)by omega];refine aA ?_;have hz:bo (at8 s i)=true:=by
    simp only[bo,bx,aV];omega
   exact⟨i+1,⟨ae,h9,by rw[hr,aR ae,hz];rfl⟩,ae,(dp [(21,21)])⟩
  refine bJ ?_;refine bM (aM (ar (D.int .i64) ?_) (ar D.bool ?_));all_goals
   have hz:bo (at8 s i)=false:=by
    rcases hcw with⟨_,h,_⟩|⟨_,h⟩<;>(simp only[bo,dT,bt];omega)
   have:gX s=false:=by rw[hr,aR ae,hz];rfl
   simp[eY,this]
 .refine DT (hp:=hnx) ?_;refine ay ?_;refine av (t:=false) (fun h=>by cases h) (fun _=>?_);refine hY ?_;refine bM (aM (ar (D.int .i64) ?_) (ar D.bool ?_));all_goals
   have this:gX s=true:=by rw[hr,ca ae]
   have ht:s.take i=s:=ek ae;have h9:=this;simp only[gX,bx,aV]at h9;have h99:=h9.2;rw[ht];first
   |(simp only[eY,this];rfl)
   |(rw[this,aV];omega)
def yL (T:List D->D->Prop):Prop:=∀(s:au),T [.str s] (.tup [.int .i64 (eY s),.bool (gX s)])
def OS (Y:Ctx):Prop:=yL (br Y 658)
def Df:aF:=⟨1,3,gQ,bQ,(sq (r1 [gm (i8 0)] 1 0) (sq (sq (r1 [gm s0,aO l0 (i8 10)] 2 1) (.cond s2 (sq (r1 [gm s0,aw (i8 48) l0,gm l1] 1 2) .ret) .skip)) (sq (r1 [gm s0,aw (i8 97) l0,ee l1 (i8 10),gm l2] 1 3) .ret)))⟩
def w686 {Y:Ctx}(hm:(Y.at 0).cd)  (k:Nat)  (hp0:k<16):de Y Df (.int .u8 ((sD k).toNat:Nat)) [.int .u8 (k:Nat)]:=by
 show bG _ _ _ [⟨_,_⟩,_,_] _;refine aq ?_;refine aI ?_;first|refine Re ?_|refine Rf ?_
 refine aC ?_;refine cC (fun hc0=>?_) fun hc0=>?_
 .refine aA ?_;refine Ao (48+(k:Int)) (hb:=fun _=>IntWalk.u8_in _ ae) ?_;refine aA ?_;refine bM (ar (D.int .u8) ?_);exact(Tg k ae).symm
 refine aA ?_;refine Ao (97+(k:Int)) (hb:=fun _=>IntWalk.u8_in _ ae) ?_;refine tK (87+(k:Int)) (hb:=fun _=>by rw[show 97+(k:Int) -10=87+k by omega];exact IntWalk.u8_in _ ae) ?_;refine aA ?_;refine bM (ar (D.int .u8) ?_);exact(Tf k ae hp0).symm
def LM (T:List D->D->Prop):Prop:=∀(k:Nat),(k<16)->T [.int .u8 (k:Nat)] (.int .u8 ((sD k).toNat:Nat))
def Y2 (Y:Ctx):Prop:=LM (br Y 686)
def EY:aF:=⟨1,7,gQ,bQ,(sq (r1 [gm cse] 1 0) (sq (r1 [gn (.mks 1 (.int .u8 0) (i6 16) (i6 16)),gm l0] 2 1) (sq (sq (rg [gm s2,gl l0,gm bp] [(4,1),(3,2)]) (.block 0 (.loop (sq (r1 [aO s3 s4] 5 0) (sq (fh s5 0) (sq (.block 1 (sq (r1 [gm s3,gm l0] 6 1) (rg [gm s2,gm s6,ee (i6 15) l1,gm s0,gm s6,gn (.bin .mul sE l4),gn (.bin .shr l3 l5),Qj l6 (iu 15),gn (.cvi .u8 l7),gx 686 [l8] bQ,ga 1 l0 l2,gt 1 l10 l9] []))) (r1 [aw s3 bV,gm l0] 3 1))))))) (sq (r1 [gm s2,gn (.b2s l0),gm l1] 1 2) .ret))))⟩
def w497 (h686:Y2 Y)(n:Int)   :de Y EY (.str (gI n)) [.int .u64 n]:=by
 show bG _ _ _ [⟨_,_⟩,_,_,_,_,_,_] _;refine aq ?_;refine aA ?_;refine UW _ ?_;refine aG ?_;intro u0;refine ay ?_;refine a7 hm (ι:=Nat) (fun i=>[⟨true,.int .u64 n⟩,.un,⟨true,.own 1 1 0 16⟩,⟨true,.int .i64 (i:Nat)⟩,⟨true,.int .i64 (16:Nat)⟩,.un,.un]) (fun i=>[(1,.buf 1 ((uV n i).map fun b=>D.int .u8 b.toNat))]) 6 (fun i=>i<=16) (fun i=>16-i) 0 ae (dp [(1,1)]) ?_;intro i hi;have hlen:=sx n i;refine aA ?_;refine cC (fun hc0=>?_) fun hc0=>?_
 .refine fU ?_;refine ox ?_;refine uL (sT n (4*i)) (hb:=fun _=>by rw[show min (Int.toNat (4*(i:Int))) (IntKind.bits .u64)=4*i by simp[IntKind.bits];omega];rfl) ?_;refine we ((Np n i:Nat):Int) (hb:=fun _=>Qo n i) ?_;have hnib:=zW n i;refine ov ((Np n i:Nat):Int) (hb:=fun _=>IntWalk.u8_in _ ae) ?_;refine ai (hc:=h686 (Np n i) hnib) ?_;refine kN (15-i) ?_;refine Cq ((uV n (i+1)).map fun b=>D.int .u8 b.toNat) (hi:=cM) (he:=by rw[Om n i ae,getD_map ae];simp[uT,D.isAgg]) ?_;refine aY ?_;exact⟨i+1,ae,ae,(dp [(1,1)])⟩
 refine aA ?_;have h16:i=16:=ae;subst h16;refine aC ?_;refine J8 (gI n) (he:=fun _=>sX.all ah (by simp[sx])) (hs:=fun _=>by rw[Ol]) ?_;refine aA ?_;exact cU rfl
def Lx (T:List D->D->Prop):Prop:=∀(n:Int),T [.int .u64 n] (.str (gI n))
def YI (Y:Ctx):Prop:=Lx (br Y 497)
def Fl:aF:=⟨2,10,[⟨2,none⟩],[[.sl 1 [.a]]],(sq (r1 [gm (.c (.aD))] 2 0) (sq (r1 [gm (.c (.aD))] 8 0) (sq (r1 [gm bp] 9 0) (sq (sq (rg [gm s0,pg l0,gm bp] [(4,1),(3,2)]) (.block 0 (.loop (sq (r1 [aO s3 s4] 5 0) (sq (fh s5 0) (sq (.block 1 (sq (r1 [gm s3,gm l0] 6 1) (sq (r1 [gm s0,gm s6,HP l0 l1,gm s1,aL l2 l3] 7 4) (.cond s7 (sq (r1 [gm s8,gm s0,gm s9,gm s6,gn (.slS l1 (some l2) (some l3)),gn (.bsl 1 (.str []) 1 [(0,l4)]),gn (.app 1 l0 l5),gm l6] 8 7) (r1 [gm s6,aw l0 bV,gm l1] 9 2)) .skip)))) (r1 [aw s3 bV,gm l0] 3 1))))))) (sq (r1 [gm s8,gm s0,gm s9,gn (.slS l1 (some l2) none),gn (.bsl 1 (.str []) 1 [(0,l3)]),gn (.app 1 l0 l4),gm l5] 2 6) .ret)))))⟩
def w533  (s:au)(b:Int)  (hp0:s.length<=1048576):de Y Fl (.sl 1 ((ak s b).map D.str)) [.str s,.int .u8 b]:=by
 show bG _ _ _ [⟨_,_⟩,⟨_,_⟩,_,_,_,_,_,_,_,_] _;refine aq ?_;refine fU ?_;intro u0;refine ay ?_;refine a7 hm (ι:=(Nat×Nat×List au)) (fun p:Nat×Nat×List au=>[⟨true,.str s⟩,⟨true,.int .u8 b⟩,.un,⟨true,.int .i64 (p.1:Nat)⟩,⟨true,.int .i64 (s.length:Nat)⟩,.un,.un,.un,⟨true,.own 0 1 0 p.2.2.length⟩,⟨true,.int .i64 (p.2.1:Nat)⟩]) (fun p=>[(0,.buf 1 (p.2.2.map D.str))]) 6 (fun p=>p.1<=s.length/\p.2.1<=p.1/\p.2.2.length<=p.1/\ak s b=p.2.2++cq b (s.drop p.1) ((s.take p.1).drop p.2.1)) (fun p=>s.length-p.1) (0,0,[]) ⟨aT,aT,aT,rfl⟩ (aX.to [] ah ah (by repeat(first|exact dE.nil|refine dE.un ?_|refine dE.eq ah ?_|refine dE.nl ah ah ?_|refine dE.ni (Or.inr ⟨0,1,0,rfl⟩) ?_)) (by repeat(first|exact bm.nil|refine bm.mt ah ah ah ah ?_))) ?_;rintro⟨i,fr,acc⟩ ⟨hi,hf,ha,hr⟩;dsimp only at hi hf ha hr⊢;refine aA ?_;refine cC (fun hc0=>?_) fun hc0=>?_
 .refine lz ?_;refine wp_cond (fun hc1=>?_) (fun hc1=>?_)
  .try simp only[er]at hc1
   refine aI ?_;refine Ar _ _ ?_;refine dh [(.str _)] ?_;refine xl ?_;exact⟨(i+1,i+1,acc++[(s.take i).drop fr]),⟨dy,dy,cM,by rw[hr,CB ae hc1];simp⟩,dy,(aX.to [(20,0)] ah ah nW (by refine bm.nl 20 ah ah ah et ?_;exact bm.nil))⟩
  simp only[bt]at hc1;refine aY ?_;exact⟨(i+1,fr,acc),⟨dy,dy,dy,by rw[hr,CD ae ae hc1]⟩,dy,(aX.to [(0,0)] ah ah nW (by refine bm.nl 0 ah ah ah et ?_;exact bm.nil))⟩
 refine aG ?_;refine iy _ ?_;refine dh [(.str _)] ?_;refine aA ?_;refine fu 12 ?_;refine aC ?_;refine bM (?_);have hs:ak s b=acc++[s.drop fr]:=by rw[hr,AK ae]
 rw[hs];exact rfl
def yI (T:List D->D->Prop):Prop:=∀(s:au) (b:Int),(s.length<=1048576)->T [.str s,.int .u8 b] (.sl 1 ((ak s b).map D.str))
def L9 (Y:Ctx):Prop:=yI (br Y 533)
def xN:aF:=⟨1,7,gQ,bQ,(sq (r1 [gm dk] 1 0) (sq (sq (rg [gm s0,pg l0,gm bp] [(3,1),(2,2)]) (.block 0 (.loop (sq (r1 [aO s2 s3] 4 0) (sq (fh s4 0) (sq (.block 1 (sq (r1 [gm s2,gm l0] 5 1) (sq (r1 [gm s0,gm s5,HP l0 l1,aO l2 (i8 48),gm l3,eO 4 s0,eO 4 s5,cl 4 (.ixS l5 l6),cl 4 (ew l7 (i8 57)),eW l4 l8] 6 9) (mj s6 dk)))) (r1 [aw s2 bV,gm l0] 2 1))))))) (sq (r1 [gm s0,bO l0 cse,gm l1] 1 2) .ret)))⟩
def w659  (t:au)   :de Y xN (.bool (cR t)) [.str t]:=by
 show bG _ _ _ [⟨_,_⟩,_,_,_,_,_,_] _;refine aq ?_;refine aG ?_;intro u0;refine ay ?_;refine a7 hm (ι:=Nat) (fun i=>[⟨true,.str t⟩,.un,⟨true,.int .i64 (i:Nat)⟩,⟨true,.int .i64 (t.length:Nat)⟩,.un,.un,.un]) (fun i=>[]) 4 (fun i=>i<=t.length/\cP (fun i=>bo (at8 t i)) 0 t.length=cP (fun i=>bo (at8 t i)) i t.length) (fun i=>t.length-i) 0 ⟨ae,rfl⟩ (dp []) ?_;rintro i ⟨hi,hr⟩;refine aA ?_;refine cC (fun hc0=>?_) fun hc0=>?_
 .refine U4 ?_;refine fH (fun hc1=>?_) fun hc1=>?_
  .refine aG ?_;refine bI ?_;simp only[cR];rw[hr,aR ae];rcases hc1 with h|h<;>simp[bo]<;>omega
  refine aY ?_;exact⟨i+1,⟨ae,by rw[hr,aR ae];rw[show bo (at8 t i)=true by simp only[bo,bx,aV];omega];rfl⟩,ae,(dp [])⟩
 refine bJ ?_;refine bI ?_;simp only[cR];rw[hr,ca ae];cases t<;>simp
def yM (T:List D->D->Prop):Prop:=∀(t:au),T [.str t] (.bool (cR t))
def Vw (Y:Ctx):Prop:=yM (br Y 659)
def Ei:aF:=⟨1,2,gQ,bQ,(sq (r1 [gm dk] 1 0) (sq (r1 [gm s0,gp l0 bp,gm l1,gmt 2 s0,bZ 2 (mU l3 (i6 9999)),eG l2 l4,gm l5] 1 6) .ret))⟩
def w440 {Y:Ctx}(hm:(Y.at 0).cd)  (n:Int)   :de Y Ei (.bool (pV n)) [.int .i64 n]:=by
 show bG _ _ _ [⟨_,_⟩,_] _;refine aq ?_;refine fU ?_;exact bI rfl
def yz (T:List D->D->Prop):Prop:=∀(n:Int),T [.int .i64 n] (.bool (pV n))
def Yi (Y:Ctx):Prop:=yz (br Y 440)
def AS:aF:=⟨2,9,[⟨2,none⟩,⟨3,none⟩],fQ,(sq (rg [gm cse,gm cse] [(2,0),(3,1)]) (sq (sq (rg [gm s0,pg l0,gm bp] [(5,1),(4,2)]) (.block 0 (.loop (sq (r1 [aO s4 s5] 6 0) (sq (fh s6 0) (sq (.block 1 (sq (r1 [gm s4,gm l0] 7 1) (sq (r1 [gm s0,gm s7,HP l0 l1,gm s1,aL l2 l3] 8 4) (.cond s8 (sq (rt [gm s0,gm s7,aw l1 bV,gn (.slS l0 (some l2) none),gm s0,gm s7,gn (.slS l4 none (some l5)),gm l3,gm l6] [(2,7),(3,8)]) .ret) .skip)))) (r1 [aw s4 bV,gm l0] 4 1))))))) (sq (rg [gm s0,gm cse,gm l0] [(2,1),(3,2)]) .ret)))⟩
def w675  (s:au)(b:Int)   :de Y AS (.tup [.str (fm s b).1,.str (fm s b).2]) [.str s,.int .u8 b]:=by
 show bG _ _ _ [⟨_,_⟩,⟨_,_⟩,_,_,_,_,_,_,_] _;refine aq ?_;refine aY ?_;intro u0;refine ay ?_;refine a7 hm (ι:=Nat) (fun i=>[⟨true,.str s⟩,⟨true,.int .u8 b⟩,.un,.un,⟨true,.int .i64 (i:Nat)⟩,⟨true,.int .i64 (s.length:Nat)⟩,.un,.un,.un]) (fun i=>[]) 5 (fun i=>i<=s.length/\fm s b=jO s b i) (fun i=>s.length-i) 0 ⟨ae,rfl⟩ (dp []) ?_;rintro i ⟨hi,hr⟩;refine aA ?_;refine cC (fun hc0=>?_) fun hc0=>?_
 .refine lz ?_;refine fH (fun hc1=>?_) fun hc1=>?_
  .refine aE ?_;refine iy (i+1) ?_;refine ay ?_;refine pC _ ?_;refine aG ?_;refine bM (aM (ar D.str ?_) (ar D.str ?_));all_goals rw[hr,Hv ae hc1]
  refine aY ?_;exact⟨i+1,⟨ae,by rw[hr,Hw ae hc1]⟩,ae,(dp [])⟩
 refine bJ ?_;refine bM (aM (ar D.str ?_) (ar D.str ?_));all_goals rw[hr,ER ae]
def LI (T:List D->D->Prop):Prop:=∀(s:au) (b:Int),T [.str s,.int .u8 b] (.tup [.str (fm s b).1,.str (fm s b).2])
def YY (Y:Ctx):Prop:=LI (br Y 675)
def Ej:aF:=⟨1,15,gQ,bQ,(sq (r1 [gm dk] 1 0) (sq (r1 [gm s0,gx 533 [l0,(i8 46)] fQ,gm l1] 2 2) (sq (r1 [gm s2,gl l0,DF l1 sE,gm l2] 14 3) (sq .skip (sq (sq (rg [gm s2,gl l0,gm bp] [(6,0),(4,1),(3,2)]) (.block 0 (.loop (sq (r1 [aO s3 s4] 5 0) (sq (fh s5 0) (sq (.block 1 (sq (r1 [ga 1 s6 s3,gd l0,gm l1] 7 2) (sq (sq (r1 [gm s7,aL l0 cse,gm l1,eO 2 s7,cl 2 (.lenS l3),cl 2 (ew l4 Eu),eW l2 l5] 8 6) (.cond s8 (sq (r1 [gm dk] 14 0) (.exit 0)) .skip)) (sq (r1 [gm s7,gn (.tO l0)] 9 1) (.block 2 (.loop (sq (rg [gn (.A6 s9),ge l0 0] [(11,0),(10,1)]) (sq (fh jh 2) (.block 3 (sq (r1 [ge lf 2,gm l0] 12 1) (sq (r1 [gm j8,aO l0 (i3 97),gm l1,eO 2 j8,cl 2 (ew l3 (i3 122)),eW l2 l4,gm l5,gmt 6 j8,bZ 6 (nL l7 (i3 48)),gmt 6 l8,eO 9 j8,cl 9 (ew l10 (i3 57)),Wy 6 l9 gh,eG l6 iE,gm jr,gmt 14 j8,bZ 14 (ei lr (i3 45)),eG j5 mK] 13 17) (.cond qG (sq (r1 [gm dk] 14 0) (.exit 0)) .skip)))))))))))) (r1 [aw s3 bV,gm l0] 3 1))))))) (sq (r1 [gm qv,gm l0] 1 1) .ret))))))⟩
def w442 (h533:L9 Y)(s:au)  (hp0:s.length<=1048576):de Y Ej (.bool (oA s false)) [.str s]:=by
 show bG _ _ _ [⟨_,_⟩,_,_,_,_,_,_,_,_,_,_,_,_,_,_] _;refine aq ?_;refine aE ?_;refine ai (hc:=h533 _ _ ?_) ?_;rotate_left;first|assumption|omega;have hlen:=dG s 46
 refine aI ?_;intro u0;refine bJ ?_;intro u1;refine ay ?_;refine a7 hm (ι:=Nat) (fun i=>[.un,.un,⟨true,.sl 1 ((ak s 46).map D.str)⟩,⟨true,.int .i64 (i:Nat)⟩,⟨true,.int .i64 ((ak s 46).length:Nat)⟩,.un,⟨true,.sl 1 ((ak s 46).map D.str)⟩,.un,.un,.un,.un,.un,.un,.un,⟨true,.bool (decide (((ak s 46).length:Int)<=4))⟩]) (fun i=>[]) 11 (fun i=>i<=(ak s 46).length/\oA s false=(decide ((ak s 46).length<=4)&&cP (fun i=>iC false (ak s 46)[i]!) i (ak s 46).length)) (fun i=>(ak s 46).length-i) 0 ⟨ae,rfl⟩ (dp []) ?_;rintro i ⟨hi,hr⟩;refine aA ?_;refine cC (fun hc0=>?_) fun hc0=>?_
 .refine c7 ?_;generalize ht:(ak s 46)[i]! =t;refine aE ?_;refine jI ?_;refine aA ?_;refine cC (fun hc1=>?_) fun hc1=>?_
  .refine fU ?_;refine bI ?_;first
    |(rw[hr,ca ae,oO];exact iv.2 ae)
    |(have hb:rS t=false:=by
       first
       |(simp only[rS];rcases hc1 with h|h
         .subst h;simp
         .rw[cT (by omega:¬t.length<=8)];simp)
       |(have hz:nt (at8 t j)=false:=by
          rcases hcw with⟨_,h,_⟩|⟨_,h⟩<;>(simp only[nt,ik,bo,dH,dT,bt];omega)
         rw[hj,aR hnx,hz];rfl)
      rw[hr,aR ae,show iC false (ak s 46)[i]! =false from(by simp only[iC,ht,hb,Bool.false_and])];simp)
  refine aI ?_;have hT:rS t=cP (fun i=>nt (at8 t i)) 0 t.length:=by
   have:=List.length_pos_iff.2 hc1.1;simp only[rS];rw[cj ae,cj ae];rfl
  refine qm hm (ι:=Nat) (fun j=>[.un,.un,⟨true,.sl 1 ((ak s 46).map D.str)⟩,⟨true,.int .i64 (i:Nat)⟩,⟨true,.int .i64 ((ak s 46).length:Nat)⟩,.un,⟨true,.sl 1 ((ak s 46).map D.str)⟩,.un,.un,⟨true,.it 23⟩,.un,.un,.un,.un,⟨true,.bool (decide (((ak s 46).length:Int)<=4))⟩]) (fun j=>[(23,.iter t j)]) 24 (fun j=>j<=t.length/\rS t=cP (fun i=>nt (at8 t i)) j t.length) (fun j=>t.length-j) 0 ⟨ae,hT⟩ (dp [(23,23)]) ?_;rintro j ⟨hj0,hj⟩;refine aC ?_;by_cases hnx:j<t.length
  .obtain⟨c,w,hdec,hw,hcw⟩:=uq t j hnx;refine DU c w (hp:=hnx) (hc:=hdec) ?_;refine ay ?_;refine av (t:=true) (fun _=>?_) (fun h=>by cases h);refine zzz26 ?_;refine fH (fun hc3=>?_) fun hc3=>?_
   .refine lz ?_;refine bI ?_;first
     |(rw[hr,ca ae,oO];exact iv.2 ae)
     |(have hb:rS t=false:=by
        first
        |(simp only[rS];rcases hc1 with h|h
          .subst h;simp
          .rw[cT (by omega:¬t.length<=8)];simp)
        |(have hz:nt (at8 t j)=false:=by
           rcases hcw with⟨_,h,_⟩|⟨_,h⟩<;>(simp only[nt,ik,bo,dH,dT,bt];omega)
          rw[hj,aR hnx,hz];rfl)
       rw[hr,aR ae,show iC false (ak s 46)[i]! =false from(by simp only[iC,ht,hb,Bool.false_and])];simp)
   refine aA ?_;obtain⟨rfl,hat,-⟩:w=1/\(c:Int)=at8 t j/\c<128:=by
    rcases hcw with h|h
    .exact h
    .omega
   have hz:nt (at8 t j)=true:=by
    simp only[nt,ik,bo,cX,bx,aV];omega
   exact⟨j+1,⟨ae,by rw[hj,aR hnx,hz];rfl⟩,ae,(dp [(23,23)])⟩
  .refine DT (hp:=hnx) ?_;refine ay ?_;refine av (t:=false) (fun h=>by cases h) (fun _=>?_);refine bJ ?_;exact⟨i+1,⟨ae,by rw[hr,aR ae];rw[show iC false (ak s 46)[i]! =true from(by simp only[iC,Bool.false_and,Bool.not_false,oO];rw[ht,hj,ca ae])];rfl⟩,ae,(dp [])⟩
 refine aY ?_;refine bI ?_;first
  |(rw[hr,ca ae,oO];exact iv.2 ae)
  |(have hb:rS t=false:=by
     first
     |(simp only[rS];rcases hc1 with h|h
       .subst h;simp
       .rw[cT (by omega:¬t.length<=8)];simp)
     |(have hz:nt (at8 t j)=false:=by
        rcases hcw with⟨_,h,_⟩|⟨_,h⟩<;>(simp only[nt,ik,bo,dH,dT,bt];omega)
       rw[hj,aR hnx,hz];rfl)
    rw[hr,aR ae,show iC false (ak s 46)[i]! =false from(by simp only[iC,ht,hb,Bool.false_and])];simp)
def La (T:List D->D->Prop):Prop:=∀(s:au),(s.length<=1048576)->T [.str s] (.bool (oA s false))
def Vk (Y:Ctx):Prop:=La (br Y 442)
def sz (T:List D->D->Prop):Prop:=∀(n:Int),(0<=n/\n<=9999)->T [.int .i64 n] (.str (dF n.toNat))
def Ye (Y:Ctx):Prop:=sz (br Y 336)
def KV (T:List D->D->Prop):Prop:=∀(l:List au) (sep:au),(l.length<=1048600)->(sep.length<=4)->(∀t∈l,t.length<=2097200)->T [.sl 1 (l.map D.str),.str sep] (.str (aS sep l))
def OQ (Y:Ctx):Prop:=KV (br Y 242)
def KI (T:List D->D->Prop):Prop:=∀(s:au) (b:UInt8),(s.length<=1048576)->T [.str s,.str [b]] (.sl 1 ((ak s b.toNat).map D.str))
def L5 (Y:Ctx):Prop:=KI (br Y 124)
def Lv (T:List D->D->Prop):Prop:=∀(s:au) (b:UInt8),(s.length<=1048576)->T [.str s,.str [b]] (.tup [.str (ie s b).1,.str (ie s b).2.1,.bool (ie s b).2.2])
def Vr (Y:Ctx):Prop:=Lv (br Y 487)
def K3 (T:List D->D->Prop):Prop:=∀(s:au) (p:au),(s.length<=1048576)->(p.length<=1048576)->T [.str s,.str p] (.tup [.str (cG s p).1,.bool (cG s p).2])
def Vi (Y:Ctx):Prop:=K3 (br Y 254)
def GP:aF:=⟨1,10,gQ,bQ,(sq (r1 [gm dk] 1 0) (sq (sq (r1 [gm s0,gx 442 [l0] bQ,jJ l1] 2 2) (mj s2 dk)) (sq (sq (rg [gm s0,gx 533 [l0,(i8 46)] fQ,gl l1,gm bp] [(6,1),(4,2),(3,3)]) (.block 0 (.loop (sq (r1 [aO s3 s4] 5 0) (sq (fh s5 0) (sq (.block 1 (sq (r1 [ga 1 s6 s3,gd l0,gm l1] 7 2) (sq (r1 [gm s7,gx 658 [l0] bQ,gm l1,ge l2 0,ge l2 1,gm l3,gm l4] 8 6) (sq (r1 [gm s7,gx 659 [l0] bQ,gm l1,gmt 2 s8,bZ 2 (.un .not l3),eG l2 l4] 9 5) (mj s9 dk))))) (r1 [aw s3 bV,gm l0] 3 1))))))) (xx oS))))⟩
def w441 (h442:Vk Y)(h533:L9 Y)(h658:OS Y)(h659:Vw Y)(s:au)  (hp0:s.length<=1048576):de Y GP (.bool (oA s true)) [.str s]:=by
 show bG _ _ _ [⟨_,_⟩,_,_,_,_,_,_,_,_,_] _;refine aq ?_;refine aI ?_;refine ai (hc:=h442 _ ?_) ?_;rotate_left;first|assumption|omega
 refine ay ?_;refine av (fun hc0=>?_) (fun hc0=>?_)
 .simp only[bz]at hc0;refine aI ?_;refine bI ?_;symm;simp only[oA]at hc0⊢;rw[dT]at hc0⊢;rcases hc0 with h|h
  .exact Or.inl h
  .right;rw[Bool.eq_false_iff]at h⊢;intro h2;apply h;rw[eF]at h2⊢;intro j a b;have:=h2 j a b;simp only[iC,bx]at this⊢;exact⟨this.1,rfl⟩
 simp only[bP]at hc0;refine aE ?_;refine ai (hc:=h533 _ _ ?_) ?_;rotate_left;first|assumption|omega;have hlen:=dG s 46
 refine aC ?_;intro u0;refine ay ?_;have hT:=hc0;simp only[oA,bx,aV]at hT;obtain⟨hT4,hTa⟩:=hT;rw[eF]at hTa;have hP:oA s true=cP (fun i=>iC true (ak s 46)[i]!) 0 (ak s 46).length:=by
  simp only[oA];rw[cj hT4];rfl
 refine a7 hm (ι:=Nat) (fun i=>[.un,.un,.un,⟨true,.int .i64 (i:Nat)⟩,⟨true,.int .i64 ((ak s 46).length:Nat)⟩,.un,⟨true,.sl 1 ((ak s 46).map D.str)⟩,.un,.un,.un]) (fun i=>[]) 8 (fun i=>i<=(ak s 46).length/\oA s true=cP (fun i=>iC true (ak s 46)[i]!) i (ak s 46).length) (fun i=>(ak s 46).length-i) 0 ⟨ae,hP⟩ (dp []) ?_;rintro i ⟨hi,hr⟩;refine aA ?_;refine cC (fun hc1=>?_) fun hc1=>?_
 .refine c7 ?_;refine ai (hc:=h658 _) ?_;refine bJ ?_;refine ai (hc:=h659 _) ?_;refine aI ?_;refine wp_cond (fun hc2=>?_) (fun hc2=>?_)
  .skip
   refine aG ?_;refine bI ?_;have hz:iC true (ak s 46)[i]! =false:=by
    simp only[iC];revert hc2;generalize rS (ak s 46)[i]! =c;generalize cR (ak s 46)[i]! =a;generalize gX (ak s 46)[i]! =b;cases a<;>cases b<;>cases c<;>simp
   rw[hr,aR ae,hz];rfl
  skip
  refine aY ?_;have hz:iC true (ak s 46)[i]! =true:=by
   have:=hTa i ae ae;simp only[iC,Bool.false_and,Bool.not_false,oO]at this;simp only[iC,this];revert hc2;generalize cR (ak s 46)[i]! =a;generalize gX (ak s 46)[i]! =b;cases a<;>cases b<;>simp
  exact⟨i+1,⟨ae,by rw[hr,aR ae,hz];rfl⟩,ae,(dp [])⟩
 refine aG ?_;refine bI ?_;rw[hr,ca ae]
def K9 (T:List D->D->Prop):Prop:=∀(s:au),(s.length<=1048576)->T [.str s] (.bool (oA s true))
def Yj (Y:Ctx):Prop:=K9 (br Y 441)
def GO:aF:=⟨1,3,gQ,bQ,(sq (rg [gb 5 s0,gm dk] [(2,0),(1,1)]) (sq (r1 [gf 0 s2,gd l0,gx 440 [l1] bQ,gm l2,k9 3 1 s2,kn 3 l4,bZ 3 (.call 440 [l5] bQ),eG l3 l6,gm l7,k9 8 2 s2,kn 8 l9,bZ 8 (.call 440 [l10] bQ),eG l8 gh,gm iE,k9 13 3 s2,kn 13 j5,bZ 13 (cO lr cse),gmt 13 mK,gJ 17 3 s2,iD 17 qC,cl 17 (.call 441 [rm] bQ),Wy 13 pM va,eG jr xB,gm A5,k9 23 4 s2,kn 23 Fz,bZ 23 (cO Hg cse),gmt 23 OI,gJ 27 4 s2,iD 27 UM,cl 27 (.call 442 [UN] bQ),Wy 23 Sf XH,eG Ew l31,gm l32] 1 33) .ret))⟩
def w209 {Y:Ctx}(hm:(Y.at 0).cd)(h440:Yi Y)(h441:Yj Y)(h442:Vk Y)(v:cZ)  (hp0:v.sm):de Y GO (.bool (fe v)) [cZ.D v]:=by
 show bG _ _ _ [⟨_,_⟩,_,_] _;refine aq ?_;refine aG ?_;refine ai (hc:=h440 _) ?_;refine aA ?_;refine ai (hc:=h440 _) ?_;refine aE ?_;refine ai (hc:=h440 _) ?_;refine bJ ?_;refine cV (hc:=fun hf=>h441 v.pre hp0.1) ?_;refine c7 ?_;refine cV (hc:=fun hf=>h442 v.build hp0.2) ?_;refine aI ?_;exact bI rfl
def yq (T:List D->D->Prop):Prop:=∀(v:cZ),(v.sm)->T [cZ.D v] (.bool (fe v))
def Hk (Y:Ctx):Prop:=yq (br Y 209)
def Du:aF:=⟨1,2,gQ,bQ,(sq (r1 [gm cse] 1 0) (sq (r1 [gm s0,gx 336 [l0] bQ,gm l1] 1 2) .ret))⟩
def w665 {Y:Ctx}(hm:(Y.at 0).cd)(h336:Ye Y)(n:Int)  (hp0:0<=n/\n<=9999):de Y Du (.str (dF n.toNat)) [.int .i64 n]:=by
 show bG _ _ _ [⟨_,_⟩,_] _;refine aq ?_;refine aE ?_;refine ai (hc:=h336 _ ?_) ?_;rotate_left;first|assumption|omega
 refine aA ?_;exact cU rfl
def VB (Y:Ctx):Prop:=sz (br Y 665)
def Bt:aF:=⟨1,7,gQ,bQ,(sq (rg [gb 5 s0,gm cse] [(2,0),(1,1)]) (sq (sq (r1 [gk 5 true s2,gx 209 [l0] zH,jJ l1] 3 2) (mj s3 cse)) (sq (r2 [gf 0 s2,gd l0,gx 665 [l1] bQ,aw l2 (cs [46]),gf 1 s2,gd l4,gx 665 [l5] bQ,aw l3 l6,aw l7 (cs [46]),gf 2 s2,gd l9,gx 665 [l10] bQ,aw l8 gh,gm iE] 5 13) (sq (sq (r1 [gf 3 s2,gd l0,bO l1 cse] 4 2) (.cond s4 (r1 [gm s5,gf 3 s2,gd l1,aw (cs [45]) l2,aw l0 l3,gm l4] 5 5) .skip)) (sq (sq (r1 [gf 4 s2,gd l0,bO l1 cse] 6 2) (.cond s6 (r1 [gm s5,gf 4 s2,gd l1,aw (cs [43]) l2,aw l0 l3,gm l4] 5 5) .skip)) (sq (r1 [gm s5,gm l0] 1 1) .ret))))))⟩
def w451 {Y:Ctx}(hm:(Y.at 0).cd)(h209:Hk Y)(h665:VB Y)(v:cZ)  (hp0:v.sm):de Y Bt (.str (j3 v)) [cZ.D v]:=by
 show bG _ _ _ [⟨_,_⟩,_,_,_,_,_,_] _;obtain⟨hs1,hs2⟩:=hp0;have hp0:v.sm:=⟨hs1,hs2⟩;refine aq ?_;refine aG ?_;refine ai (hc:=h209 _ ?_) ?_;rotate_left;first|assumption|omega
 refine ay ?_;refine av (fun hc0=>?_) (fun hc0=>?_)
 .simp only[bz]at hc0;refine aI ?_;refine cU ?_;simp[j3,hc0]
 simp only[bP]at hc0;refine ay ?_;have hv:=hc0;simp only[fe,bx]at hv;obtain⟨⟨⟨⟨hv1,hv2⟩,hv3⟩,_⟩,_⟩:=hv;have hq1:=hv1;have hq2:=hv2;have hq3:=hv3;simp only[pV,bx,aV]at hq1 hq2 hq3;have hl1:=ep 4 v.major.toNat ae ae;have hl2:=ep 4 v.minor.toNat ae ae;have hl3:=ep 4 v.patch.toNat ae ae;refine ay ?_;refine ai (hc:=h665 _ ?_) ?_;rotate_left;first|assumption|omega
 refine c9 (hb:=fun _=>cM) ?_;refine ay ?_;refine ai (hc:=h665 _ ?_) ?_;rotate_left;first|assumption|omega
 refine c9 (hb:=fun _=>cM) ?_;refine c9 (hb:=fun _=>cM) ?_;refine ay ?_;refine ai (hc:=h665 _ ?_) ?_;rotate_left;first|assumption|omega
 refine c9 (hb:=fun _=>cM) ?_;refine bJ ?_;refine cC (fun hc1=>?_) fun hc1=>?_
 .refine aE ?_;refine c9 (hb:=fun _=>cM) ?_;refine c9 (hb:=fun _=>cM) ?_;refine bJ ?_;refine cC (fun hc2=>?_) fun hc2=>?_
  .refine aE ?_;refine c9 (hb:=fun _=>cM) ?_;refine c9 (hb:=fun _=>cM) ?_;refine aY ?_;refine cU ?_;simp[j3,sL,hc0,hc1,hc2]
  refine aG ?_;refine cU ?_;simp[j3,sL,hc0,hc1,hc2]
 refine aY ?_;refine cC (fun hc2=>?_) fun hc2=>?_
 .refine aE ?_;refine c9 (hb:=fun _=>cM) ?_;refine c9 (hb:=fun _=>cM) ?_;refine aY ?_;refine cU ?_;simp[j3,sL,hc0,hc1,hc2]
 refine aG ?_;refine cU ?_;simp[j3,sL,hc0,hc1,hc2]
def yD (T:List D->D->Prop):Prop:=∀(v:cZ),(v.sm)->T [cZ.D v] (.str (j3 v))
def Vn (Y:Ctx):Prop:=yD (br Y 451)
def qb:aF:=⟨2,4,[⟨2,none⟩],bQ,(sq (r1 [gm (iu 0)] 2 0) (sq (r1 [gm s1,gn (.cvi .u64 l0),Qj l1 (iu 63),gm l2] 3 3) (sq (r1 [gm s0,gm s3,gn (.bin .shl l0 l1),gm s0,gm s3,ee (iu 64) l4,gn (.bin .shr l3 l5),JU l2 l6,gm l7] 2 8) .ret)))⟩
def w463 {Y:Ctx}(hm:(Y.at 0).cd)  (h:Int)(k:Nat)  (hp0:k=13):de Y qb (.int .u64 (Xl h k)) [.int .u64 h,.int .i64 (k:Nat)]:=by
 show bG _ _ _ [⟨_,_⟩,⟨_,_⟩,_,_] _;subst hp0;refine aq ?_;refine aE ?_;refine ov 13 (hb:=fun _=>by rw[IntKind.wrap_u64];rfl) ?_;refine we 13 (hb:=fun _=>by rw[IntKind.wrap_u64];rfl) ?_;refine aI ?_;refine Ke (uS h 13) (hb:=fun _=>by rw[show min (Int.toNat (13:Int)) (IntKind.bits .u64)=13 by simp[IntKind.bits]];rfl) ?_;refine ay ?_;refine tK 51 (hb:=fun _=>by rw[IntKind.wrap_u64];rfl) ?_;refine uL (sT h 51) (hb:=fun _=>by rw[show min (Int.toNat (51:Int)) (IntKind.bits .u64)=51 by simp[IntKind.bits]];rfl) ?_;refine J9 (Xl h 13) (hb:=fun _=>rfl) ?_;refine aA ?_;refine bM (ar (D.int .u64) ?_);rfl
def Ll (T:List D->D->Prop):Prop:=∀(h:Int) (k:Nat),(k=13)->T [.int .u64 h,.int .i64 (k:Nat)] (.int .u64 (Xl h k))
def Yy (Y:Ctx):Prop:=Ll (br Y 463)
def HG:aF:=⟨1,8,gQ,bQ,(sq (r1 [gm (iu 0)] 1 0) (sq (r1 [gm (iu 11400714819323198485)] 6 0) (sq (sq (rg [gm s0,gl l0,gm bp] [(5,0),(3,1),(2,2)]) (.block 0 (.loop (sq (r1 [aO s2 s3] 4 0) (sq (fh s4 0) (sq (.block 1 (sq (r1 [ga 1 s5 s2,gd l0,gm l1] 7 2) (r1 [gm s6,gm s7,gn (.cvi .u64 l1),gn (.bin .xor l0 l2),gx 463 [l3,(i6 13)] fQ,gn (.bin .mul l4 (iu 18397679294719823053)),gm l5] 6 6))) (r1 [aw s2 bV,gm l0] 2 1))))))) (sq (r1 [gm s6,gm s6,gn (.bin .shr l1 (iu 29)),gn (.bin .xor l0 l2),gm l3] 1 4) .ret))))⟩
def w220 (h463:Yy Y)(s:au)   :de Y HG (.int .u64 (GB s)) [.sl 1 ((s).map fun b=>D.int .u8 b.toNat)]:=by
 show bG _ _ _ [⟨_,_⟩,_,_,_,_,_,_,_] _;refine aq ?_;refine c7 ?_;intro u0;refine ay ?_;refine a7 hm (ι:=Nat) (fun i=>[.un,.un,⟨true,.int .i64 (i:Nat)⟩,⟨true,.int .i64 (s.length:Nat)⟩,.un,⟨true,.sl 1 (s.map fun b=>D.int .u8 b.toNat)⟩,⟨true,.int .u64 (wu (s.take i))⟩,.un]) (fun i=>[]) 5 (fun i=>i<=s.length) (fun i=>s.length-i) 0 ae (dp []) ?_;intro i hi;refine aA ?_;refine cC (fun hc0=>?_) fun hc0=>?_
 .refine aE ?_;refine bS (v:=.int .u8 (at8 s i)) (hv:=fun _=>ld8 s i) ?_;refine aI ?_;refine ov (at8 s i) (hb:=fun _=>by have:=vn s i;rw[IntKind.wrap_u64];omega) ?_;refine DR (AZ (wu (s.take i)) (at8 s i)) (hb:=fun _=>rfl) ?_;refine ai (hc:=h463 _ 13 rfl) ?_;refine Rg (wu (s.take (i+1))) (hb:=fun _=>by rw[CJ s i ae];rfl) ?_;refine bJ ?_;exact⟨i+1,ae,ae,(dp [])⟩
 refine aA ?_;have ht:s.take i=s:=ek ae;rw[ht];refine ay ?_;refine uL (sT (wu s) 29) (hb:=fun _=>rfl) ?_;refine DR (GB s) (hb:=fun _=>rfl) ?_;refine aA ?_;refine bM (ar (D.int .u64) ?_);rfl
def yv (T:List D->D->Prop):Prop:=∀(s:au),T [.sl 1 ((s).map fun b=>D.int .u8 b.toNat)] (.int .u64 (GB s))
def XX (Y:Ctx):Prop:=yv (br Y 220)
def IJ:aF:=⟨1,4,gQ,bQ,(sq (r1 [gm cse] 1 0) (sq (r1 [gm s0,gn (.bin .rem l0 (iu 10)),gn (.cvi .u8 l1),aw (i8 48) l2,gn (.bsl 1 (.int .u8 0) 1 [(0,l3)]),gn (.b2s l4),gm l5] 3 6) (sq (.block 0 (.loop (sq (sq (r1 [gm s0,dd l0 (iu 9)] 2 1) (fh s2 0)) (.block 1 (sq (r1 [gm s0,gn (.bin .quo l0 (iu 10)),gm l1] 0 2) (r1 [gm s0,gn (.bin .rem l0 (iu 10)),gn (.cvi .u8 l1),aw (i8 48) l2,gn (.bsl 1 (.int .u8 0) 1 [(0,l3)]),gn (.b2s l4),gm s3,aw l5 l6,gm l7] 3 8)))))) (sq (r1 [gm s3,gm l0] 1 1) .ret))))⟩
def w882  (n:Nat)  (hp0:n<=9999):de Y IJ (.str (dF n)) [.int .u64 (n:Nat)]:=by
 show bG _ _ _ [⟨_,_⟩,_,_,_] _;refine aq ?_;refine aE ?_;refine Kd ((n%10:Nat):Int) (hn:=by intro _;omega) (hb:=fun _=>rfl) ?_;refine ov ((n%10:Nat):Int) (hb:=fun _=>IntWalk.u8_in _ ae) ?_;refine Ao (((dg (n%10)).toNat:Nat):Int) (hb:=fun _=>by rw[BN ae];exact IntWalk.u8_in _ ae) ?_;refine dh [.int .u8 _] ?_;refine J8 [dg (n%10)] (he:=fun _=>sX.all ah rfl) (hs:=fun _=>rfl) ?_;refine ay ?_;have h0:dF n=(if n<10 then []else dF (n/10))++[dg (n%10)]:=by
  split
  .rename_i h;rw[nb h,Nat.mod_eq_of_lt h];rfl
  .rw[om ae]
 refine a7 hm (ι:=(Nat×au)) (fun p=>[⟨true,.int .u64 (p.1:Nat)⟩,.un,.un,⟨true,.str p.2⟩]) (fun p=>[]) 8 (fun p=>p.1<=9999/\p.2.length<=9999-p.1+1/\dF n=(if p.1<10 then []else dF (p.1/10))++p.2) (fun p=>p.1) (n,[dg (n%10)]) ⟨hp0,aT,h0⟩ (dp []) ?_;rintro⟨k,s⟩ ⟨hk,hs,hr⟩;dsimp only at hk hs hr⊢;refine aI ?_;refine cC (fun hc0=>?_) fun hc0=>?_
 .refine aE ?_;refine r_quo ((k/10:Nat):Int) (hn:=by intro _;omega) (hb:=fun _=>by rw[show((k:Int).tdiv 10)=((k/10:Nat):Int)from rfl,IntKind.wrap_u64];omega) ?_;refine aE ?_;refine Kd (((k/10)%10:Nat):Int) (hn:=by intro _;omega) (hb:=fun _=>rfl) ?_;refine ov (((k/10)%10:Nat):Int) (hb:=fun _=>IntWalk.u8_in _ ae) ?_;refine Ao (((dg ((k/10)%10)).toNat:Nat):Int) (hb:=fun _=>by rw[BN ae];exact IntWalk.u8_in _ ae) ?_;refine dh [.int .u8 _] ?_;refine J8 [dg ((k/10)%10)] (he:=fun _=>sX.all ah rfl) (hs:=fun _=>rfl) ?_;refine aC ?_;refine c9 (hb:=fun _=>cM) ?_;refine aE ?_;have h1:dF n=(if k/10<10 then []else dF (k/10/10))++([dg (k/10%10)]++s):=by
   rw[hr,aj ae];split
   .rename_i h;rw[nb h,Nat.mod_eq_of_lt h];rfl
   .rw[om ae,dY]
  exact⟨(k/10,[dg (k/10%10)]++s),⟨dy,cM,h1⟩,dy,(dp [])⟩
 refine aY ?_;refine cU ?_;rw[hr,ax ae];rfl
def LX (T:List D->D->Prop):Prop:=∀(n:Nat),(n<=9999)->T [.int .u64 (n:Nat)] (.str (dF n))
def Zj (Y:Ctx):Prop:=LX (br Y 882)
def Ge:aF:=⟨1,3,gQ,bQ,(sq (r1 [gm cse] 1 0) (sq (sq (r1 [gm s0,aO l0 bp] 2 1) (.cond s2 (sq (r1 [gm s0,aw l0 bV,gn (.un .neg l1),gn (.cvi .u64 l2),aw l3 (iu 1),gx 882 [l4] bQ,aw (cs [45]) l5,gm l6] 1 7) .ret) .skip)) (sq (r1 [gm s0,gn (.cvi .u64 l0),gx 882 [l1] bQ,gm l2] 1 3) .ret)))⟩
def w734 {Y:Ctx}(hm:(Y.at 0).cd)(h882:Zj Y)(n:Int)  (hp0:0<=n/\n<=9999):de Y Ge (.str (dF n.toNat)) [.int .i64 n]:=by
 show bG _ _ _ [⟨_,_⟩,_,_] _;refine aq ?_;refine aY ?_;refine cC (fun hc0=>?_) fun hc0=>?_
 .omega
 refine ay ?_;obtain⟨k,rfl⟩:∃k:Nat,n=k:=⟨n.toNat,ae⟩
 refine aC ?_;refine ov (k:Int) (hb:=fun _=>by rw[IntKind.wrap_u64];omega) ?_;refine ai (hc:=h882 _ ?_) ?_;rotate_left;first|assumption|omega
 refine aA ?_;exact cU rfl
def VI (Y:Ctx):Prop:=sz (br Y 734)
def IH:aF:=⟨2,8,[⟨2,none⟩],[[.sl 1 [.a]]],(sq (r1 [gm (.c (.aD))] 2 0) (sq (r1 [gm (.c (.aD))] 6 0) (sq (r1 [gm bp] 7 0) (sq (sq (r1 [gm bp] 3 0) (.block 0 (.loop (sq (sq (r1 [gm s3,gm s0,pg l1,aO l0 l2] 4 3) (fh s4 0)) (sq (.block 1 (sq (r1 [gm s0,gm s3,HP l0 l1,gm s1,aL l2 l3] 5 4) (.cond s5 (sq (r1 [gm s6,gm s0,gm s7,gm s3,gn (.slS l1 (some l2) (some l3)),gn (.bsl 1 (.str []) 1 [(0,l4)]),gn (.app 1 l0 l5),gm l6] 6 7) (r1 [gm s3,aw l0 bV,gm l1] 7 2)) .skip))) (r1 [gm s3,aw l0 bV,gm l1] 3 2)))))) (sq (r1 [gm s6,gm s0,gm s7,gn (.slS l1 (some l2) none),gn (.bsl 1 (.str []) 1 [(0,l3)]),gn (.app 1 l0 l4),gm l5] 2 6) .ret)))))⟩
def w470  (s:au)(b:Int)  (hp0:s.length<=1048576):de Y IH (.sl 1 ((ak s b).map D.str)) [.str s,.int .u8 b]:=by
 show bG _ _ _ [⟨_,_⟩,⟨_,_⟩,_,_,_,_,_,_] _;refine aq ?_;refine fU ?_;refine a7 hm (ι:=(Nat×Nat×List au)) (fun p:Nat×Nat×List au=>[⟨true,.str s⟩,⟨true,.int .u8 b⟩,.un,⟨true,.int .i64 (p.1:Nat)⟩,.un,.un,⟨true,.own 0 1 0 p.2.2.length⟩,⟨true,.int .i64 (p.2.1:Nat)⟩]) (fun p=>[(0,.buf 1 (p.2.2.map D.str))]) 4 (fun p=>p.1<=s.length/\p.2.1<=p.1/\p.2.2.length<=p.1/\ak s b=p.2.2++cq b (s.drop p.1) ((s.take p.1).drop p.2.1)) (fun p=>s.length-p.1) (0,0,[]) ⟨aT,aT,aT,rfl⟩ (aX.to [] ah ah (by repeat(first|exact dE.nil|refine dE.un ?_|refine dE.eq ah ?_|refine dE.nl ah ah ?_|refine dE.ni (Or.inr ⟨0,1,0,rfl⟩) ?_)) (by repeat(first|exact bm.nil|refine bm.mt ah ah ah ah ?_))) ?_;rintro⟨i,fr,acc⟩ ⟨hi,hf,ha,hr⟩;dsimp only at hi hf ha hr⊢;refine aI ?_;intro u0;refine ay ?_;refine cC (fun hc0=>?_) fun hc0=>?_
 .refine c7 ?_;refine wp_cond (fun hc1=>?_) (fun hc1=>?_)
  .try simp only[er]at hc1
   refine aI ?_;refine Ar _ _ ?_;refine dh [(.str _)] ?_;refine A1 ?_;exact⟨(i+1,i+1,acc++[(s.take i).drop fr]),⟨dy,dy,cM,by rw[hr,CB ae hc1];simp⟩,dy,(aX.to [(19,0)] ah ah nW (by refine bm.nl 19 ah ah ah et ?_;exact bm.nil))⟩
  simp only[bt]at hc1;refine bJ ?_;exact⟨(i+1,fr,acc),⟨dy,dy,dy,by rw[hr,CD ae ae hc1]⟩,dy,(aX.to [(0,0)] ah ah nW (by refine bm.nl 0 ah ah ah et ?_;exact bm.nil))⟩
 refine aG ?_;refine iy _ ?_;refine dh [(.str _)] ?_;refine aA ?_;refine fu 13 ?_;refine aC ?_;refine bM (?_);have hs:ak s b=acc++[s.drop fr]:=by rw[hr,AK ae]
 rw[hs];exact rfl
def Ho (Y:Ctx):Prop:=yI (br Y 470)
def Rn:aF:=⟨1,2,gQ,bQ,(sq (r1 [gm dk] 1 0) (sq (r1 [gm s0,gp l0 (i8 97),gm l1,gmt 2 s0,bZ 2 (mU l3 (i8 122)),eG l2 l4,gm l5] 1 6) .ret))⟩
def w453 {Y:Ctx}(hm:(Y.at 0).cd)  (c:Int)   :de Y Rn (.bool (ik c)) [.int .u8 c]:=by
 show bG _ _ _ [⟨_,_⟩,_] _;refine aq ?_;refine fU ?_;exact bI rfl
def Lb (T:List D->D->Prop):Prop:=∀(c:Int),T [.int .u8 c] (.bool (ik c))
def Vo (Y:Ctx):Prop:=Lb (br Y 453)
def II:aF:=⟨1,2,gQ,bQ,(sq (r1 [gm dk] 1 0) (sq (r1 [gm s0,gp l0 (i8 48),gm l1,gmt 2 s0,bZ 2 (mU l3 (i8 57)),eG l2 l4,gm l5] 1 6) .ret))⟩
def w454 {Y:Ctx}(hm:(Y.at 0).cd)  (c:Int)   :de Y II (.bool (bo c)) [.int .u8 c]:=by
 show bG _ _ _ [⟨_,_⟩,_] _;refine aq ?_;refine fU ?_;exact bI rfl
def Lc (T:List D->D->Prop):Prop:=∀(c:Int),T [.int .u8 c] (.bool (bo c))
def Sl (Y:Ctx):Prop:=Lc (br Y 454)
def NQ:aF:=⟨1,6,gQ,bQ,(sq (r1 [gm dk] 1 0) (sq (sq (r1 [gm s0,pg l0,aO l1 bV,gm l2,eO 3 s0,cl 3 (.lenS l4),cl 3 (ew l5 (i6 12)),eW l3 l6] 2 7) (mj s2 dk)) (sq (sq (r1 [gm bp] 3 0) (.block 0 (.loop (sq (sq (r1 [gm s3,gm s0,pg l1,aO l0 l2] 4 3) (fh s4 0)) (sq (.block 1 (sq (r1 [gm s0,gm s3,HP l0 l1,gx 453 [l2] bQ,jJ l3,gm l4,gmt 5 s0,gmt 5 s3,bZ 5 (.ixS l6 l7),bZ 5 (.call 454 [l8] bQ),bZ 5 (.un .not l9),eG l5 l10,gm gh,gmt 12 s0,gmt 12 s3,bZ 12 (.ixS jr j5),bZ 12 (ei lr (i8 95)),eG iE mK] 5 17) (mj s5 dk))) (r1 [gm s3,aw l0 bV,gm l1] 3 2)))))) (xx oS))))⟩
def w357 (h453:Vo Y)(h454:Sl Y)(s:au)   :de Y NQ (.bool (cI s)) [.str s]:=by
 show bG _ _ _ [⟨_,_⟩,_,_,_,_,_] _;refine aq ?_;refine aG ?_;intro u0;refine aA ?_;refine jI ?_;refine aA ?_;refine cC (fun hc0=>?_) fun hc0=>?_
 .refine aI ?_;refine bI ?_;symm;simp only[cI,dT,bt];exact Or.inl ae
 refine aI ?_;refine a7 hm (ι:=Nat) (fun i=>[⟨true,.str s⟩,.un,.un,⟨true,.int .i64 (i:Nat)⟩,.un,.un]) (fun i=>[]) 10 (fun i=>i<=s.length/\cI s=cP (fun i=>yo (at8 s i)) i s.length) (fun i=>s.length-i) 0 ⟨ae,by simp only[cI];rw[cj ae,cj ae];rfl⟩ (dp []) ?_;rintro i ⟨hi,hr⟩;refine aI ?_;intro u1;refine ay ?_;refine cC (fun hc1=>?_) fun hc1=>?_
 .refine aG ?_;refine ai (hc:=h453 _) ?_;refine aI ?_;refine ai (hc:=h454 _) ?_;refine c7 ?_;refine fH (fun hc2=>?_) fun hc2=>?_
  .refine aG ?_;refine bI ?_;rw[hr,aR ae];simp[yo,hc2]
  refine bJ ?_;exact⟨i+1,⟨ae,by rw[hr,aR ae];simp[yo,hc2]⟩,ae,(dp [])⟩
 refine aG ?_;refine bI ?_;rw[hr,ca ae]
def Hn (Y:Ctx):Prop:=yx (br Y 357)
def NP:aF:=⟨1,6,gQ,bQ,(sq (r1 [gm dk] 1 0) (sq (sq (r1 [gm s0,pg l0,aO l1 bV,gm l2,eO 3 s0,cl 3 (.lenS l4),cl 3 (ew l5 (i6 16)),eW l3 l6,gm l7,eO 8 s0,cl 8 (.ixS l9 bp),cl 8 (.call 453 [l10] bQ),cl 8 (.un .not gh),eW l8 iE,gm jr,eO 14 s0,eO 14 s0,cl 14 (.lenS mK),cl 14 (kA pM bV),cl 14 (.ixS lr qC),cl 14 (cO rm (i8 45)),eW j5 va] 2 21) (mj s2 dk)) (sq (sq (r1 [gm bV] 3 0) (.block 0 (.loop (sq (sq (r1 [gm s3,gm s0,pg l1,aO l0 l2] 4 3) (fh s4 0)) (sq (.block 1 (sq (r1 [gm s0,gm s3,HP l0 l1,gx 453 [l2] bQ,jJ l3,gm l4,gmt 5 s0,gmt 5 s3,bZ 5 (.ixS l6 l7),bZ 5 (.call 454 [l8] bQ),bZ 5 (.un .not l9),eG l5 l10,gm gh,gmt 12 s0,gmt 12 s3,bZ 12 (.ixS jr j5),bZ 12 (ei lr (i8 45)),eG iE mK,gm pM,eO 18 s0,eO 18 s3,cl 18 (.ixS rm va),cl 18 (cO xB (i8 45)),eO 18 A5,gmt 23 s0,gmt 23 s3,bZ 23 (kA Hg bV),bZ 23 (.ixS Fz OI),bZ 23 (cO Sf (i8 45)),Et 18 Ew UM,eW qC UN] 5 30) (mj s5 dk))) (r1 [gm s3,aw l0 bV,gm l1] 3 2)))))) (xx oS))))⟩
def w216 (h453:Vo Y)(h454:Sl Y)(s:au)   :de Y NP (.bool (dN s)) [.str s]:=by
 show bG _ _ _ [⟨_,_⟩,_,_,_,_,_] _;refine aq ?_;refine aG ?_;intro u0;refine aA ?_;refine jI ?_;refine aE ?_;refine ow 0 ?_;refine ai (hc:=h453 _) ?_;refine aI ?_;refine jI ?_;refine aC ?_;refine ow (s.length-1) ?_;refine aA ?_;refine cC (fun hc0=>?_) fun hc0=>?_
 .refine aI ?_;refine bI ?_;symm;simp only[dN];rcases hc0 with(h|h)|h
  .rcases h with h|h<;>simp<;>omega
  .simp[h]
  .simp[h]
 refine aI ?_;refine a7 hm (ι:=Nat) (fun i=>[⟨true,.str s⟩,.un,.un,⟨true,.int .i64 (i:Nat)⟩,.un,.un]) (fun i=>[]) 24 (fun i=>i<=s.length/\1<=i/\dN s=cP (WK s) i s.length) (fun i=>s.length-i) 1 ⟨ae,ae,by simp only[dN];rw[cj ae,cj ae,hc0.1.2,cT hc0.2];rfl⟩ (dp []) ?_;rintro i ⟨hi,hi1,hr⟩;refine aI ?_;intro u1;refine ay ?_;refine cC (fun hc1=>?_) fun hc1=>?_
 .refine aG ?_;refine ai (hc:=h453 _) ?_;refine aI ?_;refine ai (hc:=h454 _) ?_;refine A2 ?_;refine ow (i-1) ?_;refine aE ?_;refine fH (fun hc2=>?_) fun hc2=>?_
  .refine aG ?_;refine bI ?_;rw[hr,aR ae];simp only[WK];revert hc2;generalize ik (at8 s i)=x;generalize bo (at8 s i)=y;by_cases h1:at8 s i=45<;>by_cases h2:at8 s (i-1)=45<;>cases x<;>cases y<;>simp_all
  refine bJ ?_;exact⟨i+1,⟨ae,ae,by rw[hr,aR ae];simp only[WK];revert hc2;generalize ik (at8 s i)=x;generalize bo (at8 s i)=y;by_cases h1:at8 s i=45<;>by_cases h2:at8 s (i-1)=45<;>cases x<;>cases y<;>simp_all⟩,ae,(dp [])⟩
 refine aG ?_;refine bI ?_;rw[hr,ca ae]
def L7 (Y:Ctx):Prop:=yp (br Y 216)
def Gf:aF:=⟨1,9,[⟨1,none⟩,⟨2,none⟩],fQ,(sq (rg [gm bp,gm dk] [(1,0),(2,1)]) (sq (sq (r1 [gm s0,pg l0,aO l1 bV,gm l2,eO 3 s0,cl 3 (.lenS l4),cl 3 (ew l5 Ev),eW l3 l6,gm l7,eO 8 s0,cl 8 (.lenS l9),cl 8 (ew l10 bV),eO 8 gh,gmt 12 s0,bZ 12 (.ixS jr bp),bZ 12 (cO j5 (i8 48)),Et 8 iE lr,eW l8 mK] 3 17) (.cond s3 (sq (rg [gm bp,gm dk] [(1,0),(2,1)]) .ret) .skip)) (sq (r1 [gm bp] 7 0) (sq (sq (r1 [gm bp] 4 0) (.block 0 (.loop (sq (sq (r1 [gm s4,gm s0,pg l1,aO l0 l2] 5 3) (fh s5 0)) (sq (.block 1 (sq (sq (r1 [gm s0,gm s4,HP l0 l1,gx 454 [l2] bQ,jJ l3] 6 4) (.cond s6 (sq (rg [gm bp,gm dk] [(1,0),(2,1)]) .ret) .skip)) (r1 [gm s7,gn (.bin .mul l0 (i6 10)),gm s0,gm s4,HP l2 l3,ee l4 (i8 48),gn (.cvi .i64 l5),aw l1 l6,gm l7] 7 8))) (r1 [gm s4,aw l0 bV,gm l1] 4 2)))))) (sq (sq (r1 [gm s7,dd l0 (i6 9999)] 8 1) (.cond s8 (sq (rg [gm bp,gm dk] [(1,0),(2,1)]) .ret) .skip)) (sq (rg [gm s7,gm l0,gm oS] [(1,1),(2,2)]) .ret))))))⟩
def w667 (h454:Sl Y)(s:au)   :de Y Gf (.tup [.int .i64 (eY s),.bool (gX s)]) [.str s]:=by
 show bG _ _ _ [⟨_,_⟩,_,_,_,_,_,_,_,_] _;refine aq ?_;refine aY ?_;intro u0;refine aA ?_;refine jI ?_;refine aE ?_;refine jI ?_;refine aA ?_;refine ow 0 ?_;refine aE ?_;refine cC (fun hc0=>?_) fun hc0=>?_
 .refine aG ?_;refine bM (aM (ar (D.int .i64) ?_) (ar D.bool ?_));all_goals
   have:gX s=false:=by
    simp only[gX];rcases hc0 with(h|h)|h
    .rw[cT (by omega:¬1<=s.length)];rfl
    .rw[cT (by omega:¬s.length<=9)];simp
    .rw[cj (by omega:1<s.length),cj h.2];simp
   simp[eY,this]
 refine bJ ?_;have hP:gX s=(cP (fun i=>bo (at8 s i)) 0 s.length&&decide (ef s<=9999)):=by
  simp only[gX];rw[cj (by omega:1<=s.length),cj (by omega:s.length<=9)];rcases hc0.2 with h|h
  .rw[cT (by omega:¬1<s.length)];rfl
  .rw[cT h,Bool.and_false];rfl
 refine a7 hm (ι:=Nat) (fun i=>[⟨true,.str s⟩,.un,.un,.un,⟨true,.int .i64 (i:Nat)⟩,.un,.un,⟨true,.int .i64 (ef (s.take i):Nat)⟩,.un]) (fun i=>[]) 22 (fun i=>i<=s.length/\s.length<=9/\gX s=(cP (fun i=>bo (at8 s i)) i s.length&&decide (ef s<=9999))) (fun i=>s.length-i) 0 ⟨ae,ae,hP⟩ (dp []) ?_;rintro i ⟨hi,h9,hr⟩;refine aI ?_;intro u1;refine ay ?_;refine cC (fun hc1=>?_) fun hc1=>?_
 .refine aY ?_;refine ai (hc:=h454 _) ?_;refine ay ?_;refine av (fun hc2=>?_) (fun hc2=>?_)
  .try simp only[er]at hc2
   refine bJ ?_;refine bM (aM (ar (D.int .i64) ?_) (ar D.bool ?_));all_goals
    have:gX s=false:=by rw[hr,aR ae,hc2];rfl
    simp[eY,this]
  simp only[bP]at hc2;refine ay ?_;have h48:=hc2;simp only[bo,bx,aV]at h48;have hn:=uK s i ae;have hn2:=wV s i ae;have h256:=vn s i;refine aC ?_;refine ox ?_;refine aA ?_;refine tK (at8 s i-48) (hb:=fun _=>IntWalk.u8_in _ ae) ?_;refine ov (at8 s i-48) (hb:=fun _=>IntWalk.i64_in _ ae) ?_;refine aA ?_;rw[show(ef (s.take i):Int)*10+(at8 s i-48)=(ef (s.take (i+1)):Nat)by omega];refine aY ?_;exact⟨i+1,⟨ae,h9,by rw[hr,aR ae,hc2];rfl⟩,ae,(dp [])⟩
 refine aE ?_;have ht:s.take i=s:=ek ae;rw[ht];refine aA ?_;refine cC (fun hc3=>?_) fun hc3=>?_
 .refine aG ?_;refine bM (aM (ar (D.int .i64) ?_) (ar D.bool ?_));all_goals
   have:gX s=false:=by rw[hr,cT ae,Bool.and_false]
   simp[eY,this]
 refine aY ?_;refine bM (aM (ar (D.int .i64) ?_) (ar D.bool ?_));all_goals
  have:gX s=true:=by rw[hr,ca ae,cj ae];rfl
  simp[eY,this]
def Ss (Y:Ctx):Prop:=yL (br Y 667)
def D3:aF:=⟨1,5,gQ,bQ,(sq (r1 [gm dk] 1 0) (sq (sq (r1 [gm bp] 2 0) (.block 0 (.loop (sq (sq (r1 [gm s2,gm s0,pg l1,aO l0 l2] 3 3) (fh s3 0)) (sq (.block 1 (sq (r1 [gm s0,gm s2,HP l0 l1,aO l2 (i8 48),gm l3,eO 4 s0,eO 4 s2,cl 4 (.ixS l5 l6),cl 4 (ew l7 (i8 57)),eW l4 l8] 4 9) (mj s4 dk))) (r1 [gm s2,aw l0 bV,gm l1] 2 2)))))) (sq (r1 [gm s0,pg l0,dd l1 bp,gm l2] 1 3) .ret)))⟩
def w668  (t:au)   :de Y D3 (.bool (cR t)) [.str t]:=by
 show bG _ _ _ [⟨_,_⟩,_,_,_,_] _;refine aq ?_;refine aG ?_;refine a7 hm (ι:=Nat) (fun i=>[⟨true,.str t⟩,.un,⟨true,.int .i64 (i:Nat)⟩,.un,.un]) (fun i=>[]) 2 (fun i=>i<=t.length/\cP (fun i=>bo (at8 t i)) 0 t.length=cP (fun i=>bo (at8 t i)) i t.length) (fun i=>t.length-i) 0 ⟨ae,rfl⟩ (dp []) ?_;rintro i ⟨hi,hr⟩;refine aI ?_;intro u0;refine ay ?_;refine cC (fun hc0=>?_) fun hc0=>?_
 .refine xl ?_;refine fH (fun hc1=>?_) fun hc1=>?_
  .refine aG ?_;refine bI ?_;simp only[cR];rw[hr,aR ae];rcases hc1 with h|h<;>simp[bo]<;>omega
  refine bJ ?_;exact⟨i+1,⟨ae,by rw[hr,aR ae];rw[show bo (at8 t i)=true by simp only[bo,bx,aV];omega];rfl⟩,ae,(dp [])⟩
 refine aI ?_;intro u1;refine aE ?_;refine bI ?_;simp only[cR];rw[hr,ca ae];simp
def VC (Y:Ctx):Prop:=yM (br Y 668)
def Rr:aF:=⟨1,7,gQ,bQ,(sq (r1 [gm dk] 1 0) (sq (sq (r1 [gm s0,pg l0,aO l1 bV,gm l2,eO 3 s0,cl 3 (.lenS l4),cl 3 (ew l5 Eu),eW l3 l6] 2 7) (mj s2 dk)) (sq (sq (r1 [gm bp] 3 0) (.block 0 (.loop (sq (sq (r1 [gm s3,gm s0,pg l1,aO l0 l2] 4 3) (fh s4 0)) (sq (.block 1 (sq (r1 [gm s0,gm s3,HP l0 l1,gm l2] 5 3) (sq (r1 [gm s5,aO l0 (i8 97),gm l1,eO 2 s5,cl 2 (ew l3 (i8 122)),eW l2 l4,gm l5,gmt 6 s5,bZ 6 (nL l7 (i8 48)),gmt 6 l8,eO 9 s5,cl 9 (ew l10 (i8 57)),Wy 6 l9 gh,eG l6 iE,gm jr,gmt 14 s5,bZ 14 (ei lr (i8 45)),eG j5 mK] 6 17) (mj s6 dk)))) (r1 [gm s3,aw l0 bV,gm l1] 3 2)))))) (xx oS))))⟩
def w666  (t:au)   :de Y Rr (.bool (rS t)) [.str t]:=by
 show bG _ _ _ [⟨_,_⟩,_,_,_,_,_,_] _;refine aq ?_;refine aG ?_;intro u0;refine aA ?_;refine jI ?_;refine aA ?_;refine cC (fun hc0=>?_) fun hc0=>?_
 .refine aI ?_;refine bI ?_;symm;simp only[rS,dT,bt];exact Or.inl ae
 refine aI ?_;refine a7 hm (ι:=Nat) (fun i=>[⟨true,.str t⟩,.un,.un,⟨true,.int .i64 (i:Nat)⟩,.un,.un,.un]) (fun i=>[]) 10 (fun i=>i<=t.length/\rS t=cP (fun i=>nt (at8 t i)) i t.length) (fun i=>t.length-i) 0 ⟨ae,by simp only[rS];rw[cj ae,cj ae];rfl⟩ (dp []) ?_;rintro i ⟨hi,hr⟩;refine aI ?_;intro u1;refine ay ?_;refine cC (fun hc1=>?_) fun hc1=>?_
 .refine Sb ?_;refine fH (fun hc2=>?_) fun hc2=>?_
  .refine aG ?_;refine bI ?_;rw[hr,aR ae];have:nt (at8 t i)=false:=(by simp only[nt,ik,bo,dH,dT,bt];omega);rw[this];rfl
  refine bJ ?_;exact⟨i+1,⟨ae,by rw[hr,aR ae];have:nt (at8 t i)=true:=(by simp only[nt,ik,bo,cX,bx,aV];omega);rw[this];rfl⟩,ae,(dp [])⟩
 refine aG ?_;refine bI ?_;rw[hr,ca ae]
def LD (T:List D->D->Prop):Prop:=∀(t:au),T [.str t] (.bool (rS t))
def YT (Y:Ctx):Prop:=LD (br Y 666)
def NT:aF:=⟨2,11,[⟨2,none⟩],bQ,(sq (r1 [gm dk] 2 0) (sq (sq (r1 [gm s0,aL l0 cse] 3 1) (.cond s3 (sq (r1 [gm oS] 2 0) .ret) .skip)) (sq (r1 [gm s0,gx 470 [l0,(i8 46)] fQ,gm l1] 4 2) (sq (sq (r1 [gm s4,gl l0,dd l1 sE] 5 2) (.cond s5 (sq (r1 [gm dk] 2 0) .ret) .skip)) (sq (sq (r1 [gm bp] 6 0) (.block 0 (.loop (sq (sq (r1 [gm s6,gm s4,gl l1,aO l0 l2] 7 3) (fh s7 0)) (sq (.block 1 (sq (sq (r1 [gm s4,gm s6,ga 1 l0 l1,gd l2,gx 666 [l3] bQ,jJ l4] 8 5) (.cond s8 (sq (r1 [gm dk] 2 0) .ret) .skip)) (sq (r1 [gm s4,gm s6,ga 1 l0 l1,gd l2,gx 667 [l3] bQ,gm l4,ge l5 0,ge l5 1,gm l6,gm l7] 9 9) (sq (r1 [gm s1,gm l0,gmt 1 s4,gmt 1 s6,bZ 1 (.ia 1 l2 l3),kn 1 l4,bZ 1 (.call 668 [l5] bQ),eG l1 l6,gm l7,gmt 8 s9,bZ 8 (.un .not l9),eG l8 l10] 10 11) (.cond jh (sq (r1 [gm dk] 2 0) .ret) .skip))))) (r1 [gm s6,aw l0 bV,gm l1] 6 2)))))) (sq (r1 [gm oS] 2 0) .ret))))))⟩
def w456 (h470:Ho Y)(h666:YT Y)(h667:Ss Y)(h668:VC Y)(s:au)(p:Bool)  (hp0:s.length<=1048576):de Y NT (.bool (rT s p)) [.str s,.bool p]:=by
 show bG _ _ _ [⟨_,_⟩,⟨_,_⟩,_,_,_,_,_,_,_,_,_] _;refine aq ?_;refine aY ?_;refine cC (fun hc0=>?_) fun hc0=>?_
 .refine aI ?_;refine bI ?_;simp[rT,hc0]
 refine aA ?_;refine ai (hc:=h470 _ _ ?_) ?_;rotate_left;first|assumption|omega;have hlen:=dG s 46
 refine aG ?_;intro u0;refine ay ?_;refine av (fun hc1=>?_) (fun hc1=>?_)
 .try simp only[er]at hc1
  refine aI ?_;refine bI ?_;simp only[rT,oA];rw[cT hc0,cT ae];rfl
 simp only[bt]at hc1;refine aI ?_;refine a7 hm (ι:=Nat) (fun i=>[⟨true,.str s⟩,⟨true,.bool p⟩,.un,.un,⟨true,.sl 1 ((ak s 46).map D.str)⟩,.un,⟨true,.int .i64 (i:Nat)⟩,.un,.un,.un,.un]) (fun i=>[]) 10 (fun i=>i<=(ak s 46).length/\rT s p=cP (fun i=>iC p (ak s 46)[i]!) i (ak s 46).length) (fun i=>(ak s 46).length-i) 0 ⟨ae,by simp only[rT,oA];rw[cT hc0,cj ae];rfl⟩ (dp []) ?_;rintro i ⟨hi,hr⟩;refine aI ?_;intro u1;refine ay ?_;refine cC (fun hc2=>?_) fun hc2=>?_
 .refine bJ ?_;refine ai (hc:=h666 _) ?_;refine ay ?_;refine av (fun hc3=>?_) (fun hc3=>?_)
  .simp only[bz]at hc3;refine aY ?_;refine bI ?_;rw[hr,aR ae];simp only[iC,hc3];rfl
  simp only[bP]at hc3;refine aG ?_;refine ai (hc:=h667 _) ?_;refine lz ?_;refine ai (hc:=h668 _) ?_;refine aG ?_;refine wp_cond (fun hc4=>?_) (fun hc4=>?_)
  .skip
   refine aG ?_;refine bI ?_;have h5:iC p (ak s 46)[i]! =false:=(by simp only[iC,hc3];revert hc4;generalize cR (ak s 46)[i]! =a;generalize gX (ak s 46)[i]! =b;cases p<;>cases a<;>cases b<;>simp);rw[hr,aR ae,h5];rfl
  skip
  refine bJ ?_;exact⟨i+1,⟨ae,by rw[hr,aR ae];have h5:iC p (ak s 46)[i]! =true:=(by simp only[iC,hc3];revert hc4;generalize cR (ak s 46)[i]! =a;generalize gX (ak s 46)[i]! =b;cases p<;>cases a<;>cases b<;>simp);rw[h5];rfl⟩,ae,(dp [])⟩
 refine aG ?_;refine bI ?_;rw[hr,ca ae]
def Lg (T:List D->D->Prop):Prop:=∀(s:au) (p:Bool),(s.length<=1048576)->T [.str s,.bool p] (.bool (rT s p))
def Yr (Y:Ctx):Prop:=Lg (br Y 456)
def Rp:aF:=⟨1,2,gQ,bQ,(sq (r1 [gm dk] 1 0) (sq (r1 [gm s0,gp l0 bp,gm l1,gmt 2 s0,bZ 2 (mU l3 (i6 9999)),eG l2 l4,gm l5] 1 6) .ret))⟩
def w455 {Y:Ctx}(hm:(Y.at 0).cd)  (n:Int)   :de Y Rp (.bool (pV n)) [.int .i64 n]:=by
 show bG _ _ _ [⟨_,_⟩,_] _;refine aq ?_;refine fU ?_;exact bI rfl
def Yq (Y:Ctx):Prop:=yz (br Y 455)
def Ro:aF:=⟨1,3,gQ,bQ,(sq (rg [gb 5 s0,gm dk] [(2,0),(1,1)]) (sq (r1 [gf 0 s2,gd l0,gx 455 [l1] bQ,gm l2,k9 3 1 s2,kn 3 l4,bZ 3 (.call 455 [l5] bQ),eG l3 l6,gm l7,k9 8 2 s2,kn 8 l9,bZ 8 (.call 455 [l10] bQ),eG l8 gh,gm iE,k9 13 3 s2,kn 13 j5,bZ 13 (.call 456 [lr,oS] fQ),eG jr mK,gm pM,k9 18 4 s2,kn 18 rm,bZ 18 (.call 456 [va,dk] fQ),eG qC xB,gm A5] 1 23) .ret))⟩
def w217 {Y:Ctx}(hm:(Y.at 0).cd)(h455:Yq Y)(h456:Yr Y)(v:cZ)  (hp0:v.sm):de Y Ro (.bool (fe v)) [cZ.D v]:=by
 show bG _ _ _ [⟨_,_⟩,_,_] _;refine aq ?_;refine aG ?_;refine ai (hc:=h455 _) ?_;refine aA ?_;refine ai (hc:=h455 _) ?_;refine aE ?_;refine ai (hc:=h455 _) ?_;refine aE ?_;refine cV (hc:=fun hf=>h456 v.pre true hp0.1) ?_;refine aE ?_;refine cV (hc:=fun hf=>h456 v.build false hp0.2) ?_;refine aE ?_;exact bI rfl
def L8 (Y:Ctx):Prop:=yq (br Y 217)
def D2:aF:=⟨1,4,gQ,bQ,(sq (rg [gb 5 s0,gm cse] [(2,0),(1,1)]) (sq (r2 [gf 0 s2,gd l0,gx 734 [l1] bQ,aw l2 (cs [46]),gf 1 s2,gd l4,gx 734 [l5] bQ,aw l3 l6,gm l7] 3 8) (sq (r1 [gm s3,aw l0 (cs [46]),gf 2 s2,gd l2,gx 734 [l3] bQ,aw l1 l4,gm l5] 1 6) .ret)))⟩
def w554 {Y:Ctx}(hm:(Y.at 0).cd)(h734:VI Y)(v:cZ)  (hp0:pV v.major=true/\pV v.minor=true/\pV v.patch=true):de Y D2 (.str (dF v.major.toNat++[46]++dF v.minor.toNat++[46]++dF v.patch.toNat)) [cZ.D v]:=by
 show bG _ _ _ [⟨_,_⟩,_,_,_] _;obtain⟨hq1,hq2,hq3⟩:=hp0;simp only[pV,bx,aV]at hq1 hq2 hq3;have hl1:=ep 4 v.major.toNat ae ae;have hl2:=ep 4 v.minor.toNat ae ae;have hl3:=ep 4 v.patch.toNat ae ae;refine aq ?_;refine aG ?_;refine ai (hc:=h734 _ ?_) ?_;rotate_left;first|assumption|omega
 refine c9 (hb:=fun _=>cM) ?_;refine ay ?_;refine ai (hc:=h734 _ ?_) ?_;rotate_left;first|assumption|omega
 refine c9 (hb:=fun _=>cM) ?_;refine aE ?_;refine c9 (hb:=fun _=>cM) ?_;refine ay ?_;refine ai (hc:=h734 _ ?_) ?_;rotate_left;first|assumption|omega
 refine c9 (hb:=fun _=>cM) ?_;refine aA ?_;exact cU rfl
def LB (T:List D->D->Prop):Prop:=∀(v:cZ),(pV v.major=true/\pV v.minor=true/\pV v.patch=true)->T [cZ.D v] (.str (dF v.major.toNat++[46]++dF v.minor.toNat++[46]++dF v.patch.toNat))
def YQ (Y:Ctx):Prop:=LB (br Y 554)
def IK:aF:=⟨1,7,gQ,bQ,(sq (rg [gb 5 s0,gm cse] [(2,0),(1,1)]) (sq (sq (r1 [gk 5 true s2,gx 217 [l0] zH,jJ l1] 3 2) (mj s3 cse)) (sq (r1 [gk 5 true s2,gx 554 [l0] zH,gm l1] 5 2) (sq (sq (r1 [gf 3 s2,gd l0,bO l1 cse] 4 2) (.cond s4 (r1 [gm s5,aw l0 (cs [45]),gf 3 s2,gd l2,aw l1 l3,gm l4] 5 5) .skip)) (sq (sq (r1 [gf 4 s2,gd l0,bO l1 cse] 6 2) (.cond s6 (r1 [gm s5,aw l0 (cs [43]),gf 4 s2,gd l2,aw l1 l3,gm l4] 5 5) .skip)) (sq (r1 [gm s5,gm l0] 1 1) .ret))))))⟩
def w316 {Y:Ctx}(hm:(Y.at 0).cd)(h217:L8 Y)(h554:YQ Y)(v:cZ)  (hp0:v.sm):de Y IK (.str (j3 v)) [cZ.D v]:=by
 show bG _ _ _ [⟨_,_⟩,_,_,_,_,_,_] _;obtain⟨hs1,hs2⟩:=hp0;have hp0:v.sm:=⟨hs1,hs2⟩;refine aq ?_;refine aG ?_;refine ai (hc:=h217 _ ?_) ?_;rotate_left;first|assumption|omega
 refine ay ?_;refine av (fun hc0=>?_) (fun hc0=>?_)
 .simp only[bz]at hc0;refine aI ?_;refine cU ?_;simp[j3,hc0]
 simp only[bP]at hc0;refine ay ?_;have hv:=hc0;simp only[fe,bx]at hv;obtain⟨⟨⟨⟨hv1,hv2⟩,hv3⟩,_⟩,_⟩:=hv;have hq1:=hv1;have hq2:=hv2;have hq3:=hv3;simp only[pV,bx,aV]at hq1 hq2 hq3;have hl1:=ep 4 v.major.toNat ae ae;have hl2:=ep 4 v.minor.toNat ae ae;have hl3:=ep 4 v.patch.toNat ae ae;refine aC ?_;refine ai (hc:=h554 v ⟨hv1,hv2,hv3⟩) ?_;refine bJ ?_;refine cC (fun hc1=>?_) fun hc1=>?_
 .refine ay ?_;refine c9 (hb:=fun _=>cM) ?_;refine ay ?_;refine c9 (hb:=fun _=>cM) ?_;refine bJ ?_;refine cC (fun hc2=>?_) fun hc2=>?_
  .refine ay ?_;refine c9 (hb:=fun _=>cM) ?_;refine ay ?_;refine c9 (hb:=fun _=>cM) ?_;refine aY ?_;refine cU ?_;simp[j3,sL,hc0,hc1,hc2]
  refine aG ?_;refine cU ?_;simp[j3,sL,hc0,hc1,hc2]
 refine aY ?_;refine cC (fun hc2=>?_) fun hc2=>?_
 .refine ay ?_;refine c9 (hb:=fun _=>cM) ?_;refine ay ?_;refine c9 (hb:=fun _=>cM) ?_;refine aY ?_;refine cU ?_;simp[j3,sL,hc0,hc1,hc2]
 refine aG ?_;refine cU ?_;simp[j3,sL,hc0,hc1,hc2]
def Yc (Y:Ctx):Prop:=yD (br Y 316)
def NY:aF:=⟨2,3,[⟨2,none⟩],bQ,(sq (r1 [gm (iu 0)] 2 0) (sq (r1 [gm s0,gm s1,gn (.bin .shl l0 l1),gm s0,gm s1,ee (iu 64) l4,gn (.bin .shr l3 l5),JU l2 l6,gm l7] 2 8) .ret))⟩
def w464 {Y:Ctx}(hm:(Y.at 0).cd)  (h:Int)(n:Nat)  (hp0:n<=63):de Y NY (.int .u64 (Xl h n)) [.int .u64 h,.int .u64 (n:Nat)]:=by
 show bG _ _ _ [⟨_,_⟩,⟨_,_⟩,_] _;refine aq ?_;refine aI ?_;refine Ke (uS h n) (hb:=fun _=>by rw[show min (Int.toNat (n:Int)) (IntKind.bits .u64)=n by simp[IntKind.bits];omega];rfl) ?_;refine ay ?_;refine tK ((64-n:Nat):Int) (hb:=fun _=>by rw[IntKind.wrap_u64];omega) ?_;refine uL (sT h (64-n)) (hb:=fun _=>by rw[show min (Int.toNat ((64-n:Nat):Int)) (IntKind.bits .u64)=64-n by simp[IntKind.bits]];rfl) ?_;refine J9 (Xl h n) (hb:=fun _=>rfl) ?_;refine aA ?_;refine bM (ar (D.int .u64) ?_);rfl
def Lm (T:List D->D->Prop):Prop:=∀(h:Int) (n:Nat),(n<=63)->T [.int .u64 h,.int .u64 (n:Nat)] (.int .u64 (Xl h n))
def Yz (Y:Ctx):Prop:=Lm (br Y 464)
def Rw:aF:=⟨1,5,gQ,bQ,(sq (r1 [gm (iu 0)] 1 0) (sq (r1 [gm (iu 11400714819323198485)] 4 0) (sq (sq (r1 [gm bp] 2 0) (.block 0 (.loop (sq (sq (r1 [gm s2,gm s0,gl l1,aO l0 l2] 3 3) (fh s3 0)) (sq (.block 1 (r1 [gm s4,gm s0,gm s2,ga 1 l1 l2,gd l3,gn (.cvi .u64 l4),gn (.bin .xor l0 l5),gx 464 [l6,(iu 13)] fQ,gn (.bin .mul l7 (iu 18397679294719823053)),gm l8] 4 9)) (r1 [gm s2,aw l0 bV,gm l1] 2 2)))))) (sq (r1 [gm s4,gm s4,gn (.bin .shr l1 (iu 29)),gn (.bin .xor l0 l2),gm l3] 1 4) .ret))))⟩
def w221 (h464:Yz Y)(s:au)   :de Y Rw (.int .u64 (GB s)) [.sl 1 ((s).map fun b=>D.int .u8 b.toNat)]:=by
 show bG _ _ _ [⟨_,_⟩,_,_,_,_] _;refine aq ?_;refine c7 ?_;refine a7 hm (ι:=Nat) (fun i=>[⟨true,.sl 1 (s.map fun b=>D.int .u8 b.toNat)⟩,.un,⟨true,.int .i64 (i:Nat)⟩,.un,⟨true,.int .u64 (wu (s.take i))⟩]) (fun i=>[]) 3 (fun i=>i<=s.length) (fun i=>s.length-i) 0 ae (dp []) ?_;intro i hi;refine aI ?_;intro u0;refine ay ?_;refine cC (fun hc0=>?_) fun hc0=>?_
 .refine aY ?_;refine bS (v:=.int .u8 (at8 s i)) (hv:=fun _=>ld8 s i) ?_;refine ov (at8 s i) (hb:=fun _=>by have:=vn s i;rw[IntKind.wrap_u64];omega) ?_;refine DR (AZ (wu (s.take i)) (at8 s i)) (hb:=fun _=>rfl) ?_;refine ai (hc:=h464 _ 13 ae) ?_;refine Rg (wu (s.take (i+1))) (hb:=fun _=>by rw[CJ s i ae];rfl) ?_;refine c7 ?_;exact⟨i+1,ae,ae,(dp [])⟩
 refine aA ?_;have ht:s.take i=s:=ek ae;rw[ht];refine ay ?_;refine uL (sT (wu s) 29) (hb:=fun _=>rfl) ?_;refine DR (GB s) (hb:=fun _=>rfl) ?_;refine aA ?_;refine bM (ar (D.int .u64) ?_);rfl
def XY (Y:Ctx):Prop:=yv (br Y 221)
def EX:aF:=⟨1,12,[⟨1,none⟩,⟨2,none⟩],fQ,(sq (rg [gm (iu 0),gm dk] [(1,0),(2,1)]) (sq (sq (r1 [gm s0,pg l0,bO l1 (i6 16)] 3 2) (.cond s3 (sq (rg [gm (iu 0),gm dk] [(1,0),(2,1)]) .ret) .skip)) (sq (r1 [gm (iu 0)] 10 0) (sq (sq (rg [gm s0,pg l0,gm bp] [(5,1),(4,2)]) (.block 0 (.loop (sq (r1 [aO s4 s5] 6 0) (sq (fh s6 0) (sq (.block 1 (sq (r1 [gm s4,gm l0] 7 1) (sq (r1 [gm s0,gm s7,HP l0 l1,gm l2] 8 3) (.block 2 (sq (r1 [gm s8,gp l0 (i8 48),gm l1,gmt 2 s8,bZ 2 (mU l3 (i8 57)),eG l2 l4,gm l5] 9 6) (.cond s9 (r1 [gm jh,gn (.bin .shl l0 (iu 4)),gm s8,ee l2 (i8 48),gn (.cvi .u64 l3),JU l1 l4,gm l5] 10 6) (sq (r1 [gm s8,gp l0 (i8 97),gm l1,gmt 2 s8,bZ 2 (mU l3 (i8 102)),eG l2 l4,gm l5] 11 6) (.cond lf (r1 [gm jh,gn (.bin .shl l0 (iu 4)),gm s8,ee l2 (i8 97),aw l3 (i8 10),gn (.cvi .u64 l4),JU l1 l5,gm l6] 10 7) (sq (rg [gm (iu 0),gm dk] [(1,0),(2,1)]) .ret))))))))) (r1 [aw s4 bV,gm l0] 4 1))))))) (sq (rg [gm jh,gm l0,gm oS] [(1,1),(2,2)]) .ret)))))⟩
def w499  (s:au)   :de Y EX (.tup [.int .u64 (uN s),.bool (m7 s)]) [.str s]:=by
 show bG _ _ _ [⟨_,_⟩,_,_,_,_,_,_,_,_,_,_,_] _;refine aq ?_;refine aY ?_;intro u0;refine ay ?_;refine cC (fun hc0=>?_) fun hc0=>?_
 .refine aG ?_;refine bM (aM (ar (D.int .u64) ?_) (ar D.bool ?_));all_goals
   have:m7 s=false:=by simp only[m7];rw[cT (by omega:¬s.length=16)];rfl
   simp[uN,this]
 refine bJ ?_;intro u1;refine ay ?_;have h16:s.length=16:=ae;have hP:m7 s=cP (fun i=>ph (at8 s i)) 0 s.length:=by simp only[m7];rw[cj h16];rfl
 refine a7 hm (ι:=Nat) (fun i=>[⟨true,.str s⟩,.un,.un,.un,⟨true,.int .i64 (i:Nat)⟩,⟨true,.int .i64 (s.length:Nat)⟩,.un,.un,.un,.un,⟨true,.int .u64 (qu (s.take i))⟩,.un]) (fun i=>[]) 9 (fun i=>i<=s.length/\s.length=16/\m7 s=cP (fun i=>ph (at8 s i)) i s.length) (fun i=>s.length-i) 0 ⟨ae,h16,hP⟩ (dp []) ?_;rintro i ⟨hi,h16,hr⟩;refine aA ?_;refine cC (fun hc1=>?_) fun hc1=>?_
 .refine Sa ?_;refine fH (fun hc2=>?_) fun hc2=>?_
  .refine aC ?_;have h256:=vn s i;have hz:ph (at8 s i)=true:=by simp only[ph,bo,cX,bx,aV];omega
   have hv:HS (at8 s i)=at8 s i-48:=by unfold HS;rw[ax (by simp only[bo,bx,aV];omega)]
   refine aC ?_;refine Ke (uS (qu (s.take i)) 4) (hb:=fun _=>by rw[show min (Int.toNat (4:Int)) (IntKind.bits .u64)=4 by simp[IntKind.bits]];rfl) ?_;refine aC ?_;refine tK (at8 s i-48) (hb:=fun _=>IntWalk.u8_in _ ae) ?_;refine ov (at8 s i-48) (hb:=fun _=>by rw[IntKind.wrap_u64];omega) ?_;refine J9 (qu (s.take (i+1))) (hb:=fun _=>by rw[Au s i ae];unfold rJ;rw[hv];rfl) ?_;refine c7 ?_;exact⟨i+1,⟨ae,h16,by rw[hr,aR ae,hz];rfl⟩,ae,(dp [])⟩
  refine c7 ?_;refine fH (fun hc3=>?_) fun hc3=>?_
  .refine aC ?_;have h256:=vn s i;have hz:ph (at8 s i)=true:=by simp only[ph,bo,cX,bx,aV];omega
   have hv:HS (at8 s i)=at8 s i-87:=by unfold HS;rw[aj (by simp only[bo,bx,aV];omega)]
   refine aC ?_;refine Ke (uS (qu (s.take i)) 4) (hb:=fun _=>by rw[show min (Int.toNat (4:Int)) (IntKind.bits .u64)=4 by simp[IntKind.bits]];rfl) ?_;refine aC ?_;refine tK (at8 s i-97) (hb:=fun _=>IntWalk.u8_in _ ae) ?_;refine Ao (at8 s i-87) (hb:=fun _=>by rw[show at8 s i-97+10=at8 s i-87 by omega];exact IntWalk.u8_in _ ae) ?_;refine ov (at8 s i-87) (hb:=fun _=>by rw[IntKind.wrap_u64];omega) ?_;refine J9 (qu (s.take (i+1))) (hb:=fun _=>by rw[Au s i ae];unfold rJ;rw[hv];rfl) ?_;refine c7 ?_;exact⟨i+1,⟨ae,h16,by rw[hr,aR ae,hz];rfl⟩,ae,(dp [])⟩
  refine bJ ?_;refine bM (aM (ar (D.int .u64) ?_) (ar D.bool ?_));all_goals
   have hz:ph (at8 s i)=false:=by simp only[ph,bo,dH,dT,bt];omega
   have:m7 s=false:=by rw[hr,aR ae,hz];rfl
   simp[uN,this]
 refine bJ ?_;refine bM (aM (ar (D.int .u64) ?_) (ar D.bool ?_));all_goals
  have:m7 s=true:=by rw[hr,ca ae]
  have ht:s.take i=s:=ek ae;simp[uN,this,ht]
def Ly (T:List D->D->Prop):Prop:=∀(s:au),T [.str s] (.tup [.int .u64 (uN s),.bool (m7 s)])
def YJ (Y:Ctx):Prop:=Ly (br Y 499)
def Bs:aF:=⟨1,18,[⟨1,some (5,true)⟩,⟨2,none⟩],[[.a,.a,.a,.a,.a],[.a]],(sq (rg [gb 5 (.c (.agg [.int .i64 0,.int .i64 0,.int .i64 0,.str [],.str []])),gm bp] [(1,0),(2,1)]) (sq (r1 [gb 5 (.c (.agg [.int .i64 0,.int .i64 0,.int .i64 0,.str [],.str []]))] 4 0) (sq (r1 [gm s0,gm l0] 3 1) (sq (r1 [gm s3,gx 675 [l0,(i8 43)] fQ,gm l1,ge l2 0,ge l2 1,gf 4 s4,gt 1 l5 l3,gm l4] 3 7) (sq (r1 [gm s3,gx 675 [l0,(i8 45)] fQ,gm l1,ge l2 0,ge l2 1,gf 3 s4,gt 1 l5 l3,gm l4] 3 7) (sq (r1 [gm s3,gx 533 [l0,(i8 46)] fQ,gm l1] 5 2) (sq (sq (r1 [gm s5,gl l0,bO l1 ko] 6 2) (.cond s6 (sq (r1 [gn (.build [.int .i64 0,.int .i64 0,.int .i64 0,.str [],.str []] []),gt 5 s1 l0,gm Hf] 2 2) .ret) .skip)) (sq (r1 [gb 3 (.c (.agg [.int .i64 0,.int .i64 0,.int .i64 0]))] 16 0) (sq (sq (rg [gm s5,gl l0,gm bp] [(10,0),(8,1),(7,2)]) (.block 0 (.loop (sq (r1 [aO s7 s8] 9 0) (sq (fh s9 0) (sq (.block 1 (sq (rg [gm s7,ga 1 jh s7,gd l1,gm l0,gm l2] [(14,3),(11,4)]) (sq (rg [gm lf,gx 658 [l0] bQ,gm l1,ge l2 0,ge l2 1,gm l3,gm l4] [(15,5),(12,6)]) (sq (sq (r1 [gm j8,jJ l0] 13 1) (.cond qG (sq (r1 [gn (.build [.int .i64 0,.int .i64 0,.int .i64 0,.str [],.str []] []),gt 5 s1 l0,gm Hf] 2 2) .ret) .skip)) (rg [gm qv,gm xc,gn (.iaP 3 1 A7 l0),gt 1 l2 l1] []))))) (r1 [aw s7 bV,gm l0] 7 1))))))) (sq (rt [gn (.iaP 3 1 A7 bp),gd l0,gn (.iaP 3 1 A7 bV),gn (.ldI 1 false l2),gn (.iaP 3 1 A7 kr),gn (.ldI 1 false l4),gf 0 s4,gt 1 l6 l1,gf 1 s4,gt 1 l8 l3,gf 2 s4,gt 1 l10 l5] []) (sq (sq (r1 [gk 5 true s4,gx 209 [l0] zH,jJ l1,gm l2,cl 3 (.ld 5 true s4),cl 3 (.call 451 [l4] zH),eO 3 s0,cl 3 (ei l5 l6),eW l3 l7] 17 8) (.cond Cw (sq (r1 [gn (.build [.int .i64 0,.int .i64 0,.int .i64 0,.str [],.str []] []),gt 5 s1 l0,gm Hf] 2 2) .ret) .skip)) (sq (r1 [gk 5 true s4,gt 5 s1 l0,gm bp] 2 2) .ret))))))))))))⟩
def w466 (h209:Hk Y)(h451:Vn Y)(h533:L9 Y)(h658:OS Y)(h675:YY Y)(s:au)  (hp0:s.length<=1048576):de Y Bs (.tup [cZ.D ((pJ s).getD ll),.int .i64 (Br s)]) [.str s]:=by
 show bG _ _ _ [⟨_,_⟩,_,_,_,_,_,_,_,_,_,_,_,_,_,_,_,_,_] _;have hb1:=og s 43;have fQ:=og (fm s 43).2 45;generalize hA:fm s 43=A at hb1 fQ;generalize hB:fm A.2 45=B at fQ;have hsl:=dG B.2 46;generalize hL:ak B.2 46=L at hsl;have hq0:pJ s=if L.length=3/\gX L[0]! =true/\gX L[1]! =true/\gX L[2]! =true then(if fe ⟨eY L[0]!,eY L[1]!,eY L[2]!,B.1,A.1⟩=true/\j3 ⟨eY L[0]!,eY L[1]!,eY L[2]!,B.1,A.1⟩=s then some ⟨eY L[0]!,eY L[1]!,eY L[2]!,B.1,A.1⟩else none)else none:=by subst hA;subst hB;subst hL;rfl
 refine aq ?_;refine fU ?_;refine ai (hc:=h675 s 43) ?_;rw[hA];refine aE ?_;refine aU (cZ.D ⟨0,0,0,[],A.1⟩) (he:=bd) ?_;refine aE ?_;refine ai (hc:=h675 A.2 45) ?_;rw[hB];refine aE ?_;refine aU (cZ.D ⟨0,0,0,B.1,A.1⟩) (he:=bd) ?_;refine aE ?_;refine ai (hc:=h533 B.2 46 ae) ?_;rw[hL];refine aG ?_;intro u0;refine ay ?_;refine cC (fun hc0=>?_) fun hc0=>?_
 .refine ay ?_;refine bA (cZ.D ll) ?_;refine aE ?_;refine bM (aM ?_ (ar (D.int .i64) ?_));all_goals
   have hq:pJ s=none:=by rw[hq0,aj (fun h=>by have:=h.1;omega)]
   simp only[Br,hq];rfl
 refine bJ ?_;intro u1;refine ay ?_;refine a7 hm (ι:=Nat) (fun i=>[⟨true,.str s⟩,⟨true,.ptr 0 5 0 0⟩,.un,.un,⟨true,.ptr 2 5 0 0⟩,.un,.un,⟨true,.int .i64 (i:Nat)⟩,⟨true,.int .i64 (L.length:Nat)⟩,.un,⟨true,.sl 1 (L.map D.str)⟩,.un,.un,.un,.un,.un,⟨true,.ptr 27 3 0 0⟩,.un]) (fun i=>[(0,.buf 5 [cZ.D ll]),(2,.buf 5 [cZ.D ⟨0,0,0,B.1,A.1⟩]),(27,.buf 3 [Ni L i])]) 31 (fun i=>i<=3/\∀j,j<i->gX L[j]! =true) (fun i=>3-i) 0 ⟨ae,fun j hj=>ae⟩ (dp [(0,0),(2,2),(27,27)]) ?_;rintro i ⟨hi,hr⟩;refine aA ?_;refine cC (fun hc1=>?_) fun hc1=>?_
 .refine fT ?_;refine ai (hc:=h658 L[i]!) ?_;refine fT ?_;refine av (fun hc2=>?_) (fun hc2=>?_)
  .simp only[bz]at hc2;refine ay ?_;refine bA (cZ.D ll) ?_;refine aG ?_;refine bM (aM ?_ (ar (D.int .i64) ?_));all_goals
    have hq:pJ s=none:=by
     rw[hq0,aj];rintro⟨_,h1,h2,h3⟩;rcases(show i=0\/i=1\/i=2 by omega)with rfl|rfl|rfl
     .rw[h1]at hc2;cases hc2
     .rw[h2]at hc2;cases hc2
     .rw[h3]at hc2;cases hc2
    simp only[Br,hq];rfl
  simp only[bP]at hc2;refine aE ?_;refine rE i ?_;refine aU (Ni L (i+1)) (he:=FI L i ae) ?_;refine aY ?_;have hr2:∀j,j<i+1->gX L[j]! =true:=by
   intro j hj;rcases Nat.eq_or_lt_of_le (Nat.lt_succ_iff.1 hj)with rfl|h
   .exact hc2
   .exact hr j h
  exact⟨i+1,⟨ae,hr2⟩,ae,(dp [(0,0),(2,2),(27,27)])⟩
 refine ay ?_;refine fu 27 ?_;refine aC ?_;have h3:i=3:=ae;subst h3;refine Is 0 ?_;refine eK (v:=.int .i64 (eY L[0]!)) ?_;refine Is 1 ?_;refine DS (v:=.int .i64 (eY L[1]!)) ?_;refine Is 2 ?_;refine DS (v:=.int .i64 (eY L[2]!)) ?_;refine aC ?_;refine aU (cZ.D ⟨eY L[0]!,0,0,B.1,A.1⟩) (he:=bd) ?_;refine aC ?_;refine aU (cZ.D ⟨eY L[0]!,eY L[1]!,0,B.1,A.1⟩) (he:=bd) ?_;refine aC ?_;refine aU (cZ.D ⟨eY L[0]!,eY L[1]!,eY L[2]!,B.1,A.1⟩) (he:=bd) ?_;refine aA ?_;have hsm:cZ.sm ⟨eY L[0]!,eY L[1]!,eY L[2]!,B.1,A.1⟩:=⟨by simp only;omega,by simp only;omega⟩;generalize hV:(⟨eY L[0]!,eY L[1]!,eY L[2]!,B.1,A.1⟩:cZ)=V at hsm hq0⊢;refine aC ?_;refine ai (hc:=h209 V hsm) ?_;refine aA ?_;refine cV (hc:=fun _=>h451 V hsm) ?_;refine aE ?_;refine av (fun hc3=>?_) (fun hc3=>?_)
 .simp only[cX,bz,bt]at hc3;refine ay ?_;refine bA (cZ.D ll) ?_;refine aE ?_;refine bM (aM ?_ (ar (D.int .i64) ?_));all_goals
   have hq:pJ s=none:=by
    rw[hq0];split
    .rw[aj];rintro⟨h1,h2⟩;rcases hc3 with h|h
     .rw[h1]at h;cases h
     .exact h h2
    .rfl
   simp only[Br,hq];rfl
 simp only[dH,bP,aV]at hc3;refine aY ?_;refine bM (aM ?_ (ar (D.int .i64) ?_));all_goals
  have hq:pJ s=some V:=by
   rw[hq0,ax ⟨ae,hr 0 ae,hr 1 ae,hr 2 ae⟩,ax hc3]
  simp only[Br,hq];rfl
def Ln (T:List D->D->Prop):Prop:=∀(s:au),(s.length<=1048576)->T [.str s] (.tup [cZ.D ((pJ s).getD ll),.int .i64 (Br s)])
def YA (Y:Ctx):Prop:=Ln (br Y 466)
def Iz:aF:=⟨2,6,[⟨2,none⟩],bQ,(sq (r1 [gm bp] 2 0) (sq (sq (r1 [gm bp] 3 0) (.block 0 (.loop (sq (sq (r1 [gm s3,gm s0,gl l1,aO l0 l2] 4 3) (fh s4 0)) (sq (.block 1 (sq (r1 [gm s0,gm s3,ga 2 l0 l1,gf 0 l2,gd l3,gm s1,aL l4 l5] 5 6) (.cond s5 (sq (r1 [gm s3,gm l0] 2 1) .ret) .skip))) (r1 [gm s3,aw l0 bV,gm l1] 3 2)))))) (sq (r1 [gn (.mv (.c (.int .i64 (-1))))] 2 0) .ret)))⟩
def w955  (l:List cu)(nm:au)   :de Y Iz (.int .i64 (findF l nm 0)) [.sl 2 (l.map cu.D),.str nm]:=by
 show bG _ _ _ [⟨_,_⟩,⟨_,_⟩,_,_,_,_] _;refine aq ?_;refine aG ?_;refine a7 hm (ι:=Nat) (fun i=>[⟨true,.sl 2 (l.map cu.D)⟩,⟨true,.str nm⟩,.un,⟨true,.int .i64 (i:Nat)⟩,.un,.un]) (fun i=>[]) 2 (fun i=>i<=l.length/\findF l nm 0=findF l nm i) (fun i=>l.length-i) 0 ⟨ae,rfl⟩ (dp []) ?_;rintro i ⟨hi,hr⟩;refine aI ?_;intro u0;refine ay ?_;refine cC (fun hc0=>?_) fun hc0=>?_
 .refine fT ?_;refine fH (fun hc1=>?_) fun hc1=>?_
  .refine aY ?_;refine cS ?_;rw[hr,E5 ae hc1]
  refine bJ ?_;exact⟨i+1,⟨ae,by rw[hr,E6 ae hc1]⟩,ae,(dp [])⟩
 refine aG ?_;refine cS ?_;rw[hr,BV ae]
def y0 (T:List D->D->Prop):Prop:=∀(l:List cu) (nm:au),T [.sl 2 (l.map cu.D),.str nm] (.int .i64 (findF l nm 0))
def Zp (Y:Ctx):Prop:=y0 (br Y 955)
def Di:aF:=⟨2,10,[⟨2,none⟩],bQ,(sq (r1 [gm bp] 2 0) (sq (sq (rg [gm s0,gl l0,gm bp] [(6,0),(4,1),(3,2)]) (.block 0 (.loop (sq (r1 [aO s3 s4] 5 0) (sq (fh s5 0) (sq (.block 1 (sq (rg [gm s3,ga 2 s6 s3,gk 2 true l1,gb 2 (.c (.agg [.str [],.aD])),gm l0,gt 2 l3 l2] [(7,3),(9,4)]) (sq (r1 [gf 0 s7,gd l0,gm s1,aL l1 l2] 8 3) (.cond s8 (sq (r1 [gm s9,gm l0] 2 1) .ret) .skip)))) (r1 [aw s3 bV,gm l0] 3 1))))))) (sq (r1 [gn (.mv (.c (.int .i64 (-1))))] 2 0) .ret)))⟩
def w663  (l:List cu)(nm:au)   :de Y Di (.int .i64 (findF l nm 0)) [.sl 2 (l.map cu.D),.str nm]:=by
 show bG _ _ _ [⟨_,_⟩,⟨_,_⟩,_,_,_,_,_,_,_,_] _;refine aq ?_;refine aG ?_;intro u0;refine ay ?_;refine a7 hm (ι:=Nat) (fun i=>[⟨true,.sl 2 (l.map cu.D)⟩,⟨true,.str nm⟩,.un,⟨true,.int .i64 (i:Nat)⟩,⟨true,.int .i64 (l.length:Nat)⟩,.un,⟨true,.sl 2 (l.map cu.D)⟩,.un,.un,.un]) (fun i=>[]) 4 (fun i=>i<=l.length/\findF l nm 0=findF l nm i) (fun i=>l.length-i) 0 ⟨ae,rfl⟩ (dp []) ?_;rintro i ⟨hi,hr⟩;refine aA ?_;refine cC (fun hc0=>?_) fun hc0=>?_
 .refine aI ?_;first|refine bS (v:=(cu.D _)) ?_|refine eK (v:=(cu.D _)) ?_
  refine ay ?_;refine aU (cu.D l[i]!) (he:=bd) ?_;refine aY ?_;refine fH (fun hc1=>?_) fun hc1=>?_
  .refine aY ?_;refine cS ?_;rw[hr,E5 ae hc1]
  refine aY ?_;exact⟨i+1,⟨ae,by rw[hr,E6 ae hc1]⟩,ae,(dp [])⟩
 refine aG ?_;refine cS ?_;rw[hr,BV ae]
def YS (Y:Ctx):Prop:=y0 (br Y 663)
def Rm:aF:=⟨2,3,[⟨2,none⟩],bQ,(sq (r1 [gm dk] 2 0) (sq (r1 [gm s1,aL l0 (cs [100,101,102,97,117,108,116]),gm l1,eO 2 s0,eO 2 s1,cl 2 (.call 955 [l3,l4] [[.sl 2 [.a,.sl 1 [.a]]],[.a]]),cl 2 (sP l5 bp),eW l2 l6,gm l7] 2 8) .ret))⟩
def w816 {Y:Ctx}(hm:(Y.at 0).cd)(h955:Zp Y)(l:List cu)(nm:au)   :de Y Rm (.bool (XG l nm)) [.sl 2 (l.map cu.D),.str nm]:=by
 show bG _ _ _ [⟨_,_⟩,⟨_,_⟩,_] _;refine aq ?_;refine bJ ?_;refine ai (hc:=h955 _ _) ?_;refine aI ?_;exact bI rfl
def yX (T:List D->D->Prop):Prop:=∀(l:List cu) (nm:au),T [.sl 2 (l.map cu.D),.str nm] (.bool (XG l nm))
def Zh (Y:Ctx):Prop:=yX (br Y 816)
def Bd:aF:=⟨2,3,[⟨2,none⟩],bQ,(sq (r1 [gm dk] 2 0) (sq (r1 [gm s1,aL l0 (cs [100,101,102,97,117,108,116]),gm l1,eO 2 s0,eO 2 s1,cl 2 (.call 663 [l3,l4] [[.sl 2 [.a,.sl 1 [.a]]],[.a]]),cl 2 (sP l5 bp),eW l2 l6,gm l7] 2 8) .ret))⟩
def w449 {Y:Ctx}(hm:(Y.at 0).cd)(h663:YS Y)(l:List cu)(nm:au)   :de Y Bd (.bool (XG l nm)) [.sl 2 (l.map cu.D),.str nm]:=by
 show bG _ _ _ [⟨_,_⟩,⟨_,_⟩,_] _;refine aq ?_;refine bJ ?_;refine ai (hc:=h663 _ _) ?_;refine aI ?_;exact bI rfl
def Yp (Y:Ctx):Prop:=yX (br Y 449)
def IA:aF:=⟨1,8,[⟨1,none⟩,⟨2,none⟩,⟨3,none⟩],Se,(sq (rg [gm bp,gm cse,gm cse] [(1,0),(2,1),(3,2)]) (sq (sq (r1 [gm s0,gx 357 [l0] bQ] 4 1) (.cond s4 (sq (rg [gm s0,gm bV,gm l0,gm cse] [(1,1),(2,2),(3,3)]) .ret) .skip)) (sq (sq (r1 [gm s0,pg l0,dd l1 bp,gm l2,gmt 3 s0,bZ 3 (.ixS l4 bp),bZ 3 (cO l5 (i8 63)),eG l3 l6,gm l7,gmt 8 s0,bZ 8 (.slS l9 (some bV) none),bZ 8 (.call 357 [l10] bQ),eG l8 gh] 5 12) (.cond s5 (sq (rt [gm s0,gn (.slS l0 (some bV) none),gm kr,gm l1,gm cse] [(1,2),(2,3),(3,4)]) .ret) .skip)) (sq (r1 [gm s0,gx 470 [l0,(i8 47)] fQ,gm l1] 6 2) (sq (sq (r1 [gm s6,gl l0,aL l1 kr,gm l2,gmt 3 s6,bZ 3 (.ia 1 l4 bp),kn 3 l5,bZ 3 (.call 216 [l6] bQ),eG l3 l7,gm l8,gmt 9 s6,bZ 9 (.ia 1 l10 bV),kn 9 gh,bZ 9 (.call 357 [iE] bQ),eG l9 jr] 7 14) (.cond s7 (sq (rt [gm s6,ga 1 l0 bp,gd l1,gm s6,ga 1 l3 bV,gd l4,gm ko,gm l2,gm l5] [(1,6),(2,7),(3,8)]) .ret) .skip)) (sq (rg [gm bp,gm cse,gm cse] [(1,0),(2,1),(3,2)]) .ret))))))⟩
def w672 {Y:Ctx}(hm:(Y.at 0).cd)(h216:L7 Y)(h357:Hn Y)(h470:Ho Y)(s:au)  (hp0:s.length<=1048576):de Y IA (.tup [.int .i64 (dt s).1,.str (dt s).2.1,.str (dt s).2.2]) [.str s]:=by
 show bG _ _ _ [⟨_,_⟩,_,_,_,_,_,_,_] _;refine aq ?_;refine aY ?_;refine ai (hc:=h357 _) ?_;refine aC ?_;refine cC (fun hc0=>?_) fun hc0=>?_
 .refine bJ ?_;refine bM (eZ (ar (D.int .i64) ?_) (ar D.str ?_) (ar D.str ?_));all_goals rw[JG hc0]
 refine aI ?_;intro u0;refine aA ?_;refine ow 0 ?_;refine aE ?_;refine iy 1 (hb:=fun h=>by simp at h;omega) ?_;refine ai (hc:=h357 _) ?_;refine ay ?_;refine cC (fun hc1=>?_) fun hc1=>?_
 .refine aA ?_;refine iy 1 (hb:=fun h=>ae) ?_;refine aI ?_;refine bM (eZ (ar (D.int .i64) ?_) (ar D.str ?_) (ar D.str ?_));all_goals rw[JH hc0 hc1]
 refine aA ?_;refine ai (hc:=h470 _ _ ?_) ?_;rotate_left;first|assumption|omega
 refine aG ?_;intro u1;refine aA ?_;refine cb 0 ?_;refine aC ?_;refine ai (hc:=h216 _) ?_;refine aA ?_;refine cb 1 ?_;refine aC ?_;refine ai (hc:=h357 _) ?_;refine ay ?_;refine cC (fun hc2=>?_) fun hc2=>?_
 .refine aA ?_;refine cb 0 ?_;refine ay ?_;refine cb 1 ?_;refine aG ?_;refine bM (eZ (ar (D.int .i64) ?_) (ar D.str ?_) (ar D.str ?_));all_goals rw[JI hc0 hc1 hc2]
 refine aY ?_;refine bM (eZ (ar (D.int .i64) ?_) (ar D.str ?_) (ar D.str ?_));all_goals rw[JF hc0 hc1 hc2]
def yP (T:List D->D->Prop):Prop:=∀(s:au),(s.length<=1048576)->T [.str s] (.tup [.int .i64 (dt s).1,.str (dt s).2.1,.str (dt s).2.2])
def VE (Y:Ctx):Prop:=yP (br Y 672)
def F8:aF:=⟨2,9,[⟨2,none⟩],bQ,(sq (r1 [gm dk] 2 0) (sq (sq (r1 [gm s1,gl l0,dd l1 vI,gm l2,eO 3 s1,cl 3 (.call 815 [l4] [[.sl 1 [.a]]]),cl 3 (.un .not l5),eW l3 l6] 3 7) (.cond s3 (sq (r1 [gm dk] 2 0) .ret) .skip)) (sq (sq (r1 [gm bp] 4 0) (.block 0 (.loop (sq (sq (r1 [gm s4,gm s1,gl l1,aO l0 l2] 5 3) (fh s5 0)) (sq (.block 1 (sq (rg [gm s1,gm s4,ga 1 l0 l1,gd l2,gx 672 [l3] bQ,gm l4,ge l5 0,ge l5 1,ge l5 2,gm l6,gm l7,gm l8] [(6,9),(7,10)]) (sq (r1 [gm s6,aL l0 bp,gm l1,eO 2 s6,cl 2 (cO l3 bV),eO 2 l4,gmt 5 s0,gmt 5 s7,bZ 5 (.call 816 [l6,l7] [[.sl 2 [.a,.sl 1 [.a]]],[.a]]),bZ 5 (.un .not l8),Et 2 l5 l9,eW l2 l10] 8 11) (.cond s8 (sq (r1 [gm dk] 2 0) .ret) .skip)))) (r1 [gm s4,aw l0 bV,gm l1] 4 2)))))) (sq (r1 [gm oS] 2 0) .ret))))⟩
def w671 (h672:VE Y)(h815:VJ Y)(h816:Zh Y)(l:List cu)(of:List au)  (hp0:∀t∈of,t.length<=1048576):de Y F8 (.bool (lF l of)) [.sl 2 (l.map cu.D),.sl 1 (of.map D.str)]:=by
 show bG _ _ _ [⟨_,_⟩,⟨_,_⟩,_,_,_,_,_,_,_] _;refine aq ?_;refine aG ?_;intro u0;refine aA ?_;refine ai (hc:=h815 _) ?_;refine aA ?_;refine av (fun hc0=>?_) (fun hc0=>?_)
 .simp only[cX,aV,bz]at hc0;refine aI ?_;refine bI ?_;symm;simp only[lF];rcases hc0 with h|h
  .rw[cT ae];rfl
  .rw[h,Bool.and_false];rfl
 simp only[dH,bt,bP]at hc0;refine aI ?_;have hb:lF l of=cP (fun i=>iM l of[i]!) 0 of.length:=by simp only[lF,hc0.2];rw[cj ae];rfl
 refine a7 hm (ι:=Nat) (fun i=>[⟨true,.sl 2 (l.map cu.D)⟩,⟨true,.sl 1 (of.map D.str)⟩,.un,.un,⟨true,.int .i64 (i:Nat)⟩,.un,.un,.un,.un]) (fun i=>[]) 10 (fun i=>i<=of.length/\lF l of=cP (fun i=>iM l of[i]!) i of.length) (fun i=>of.length-i) 0 ⟨ae,hb⟩ (dp []) ?_;rintro i ⟨hi,hr⟩;refine aI ?_;intro u1;refine ay ?_;refine cC (fun hc1=>?_) fun hc1=>?_
 .refine aY ?_;refine ai (hc:=h672 of[i]! (hp0 _ (bB ae))) ?_;refine A2 ?_;refine ai (hc:=h816 _ _) ?_;refine aE ?_;refine wp_cond (fun hc2=>?_) (fun hc2=>?_)
  .have hz:iM l of[i]! =false:=by simp only[iM,hc2];rfl
   refine aG ?_;refine bI ?_;rw[hr,aR ae,hz];rfl
  have hz:iM l of[i]! =true:=by simp only[iM,hc2];rfl
  refine bJ ?_;exact⟨i+1,⟨ae,by rw[hr,aR ae,hz];rfl⟩,ae,(dp [])⟩
 refine aG ?_;refine bI ?_;rw[hr,ca ae]
def LF (T:List D->D->Prop):Prop:=∀(l:List cu) (of:List au),(∀t∈of,t.length<=1048576)->T [.sl 2 (l.map cu.D),.sl 1 (of.map D.str)] (.bool (lF l of))
def YV (Y:Ctx):Prop:=LF (br Y 671)
def NJ:aF:=⟨1,6,gQ,bQ,(sq (r1 [gm dk] 1 0) (sq (sq (r1 [gm s0,gl l0,dd l1 Eu] 2 2) (mj s2 dk)) (sq (sq (r1 [gm bp] 3 0) (.block 0 (.loop (sq (sq (r1 [gm s3,gm s0,gl l1,aO l0 l2] 4 3) (fh s4 0)) (sq (.block 1 (sq (r2 [gm s0,gm s3,ga 2 l0 l1,gf 0 l2,gd l3,gx 357 [l4] bQ,jJ l5,gm l6,eO 7 s3,cl 7 (ew l8 bp),eO 7 l9,gmt 10 s0,gmt 10 s3,bZ 10 (kA iE bV),bZ 10 (.ia 2 gh jr),k9 10 0 j5,kn 10 lr,gmt 10 s0,gmt 10 s3,bZ 10 (.ia 2 pM qC),k9 10 0 rm,kn 10 va,bZ 10 (sP mK xB),Et 7 l10 A5,eW l7 Ew,gm Fz,eO 25 s0,eO 25 s0,eO 25 s3,cl 25 (.ia 2 Sf UM),gJ 25 1 UN,iD 25 XH,cl 25 (.call 671 [OI,l31] [[.sl 2 [.a,.sl 1 [.a]]],[.sl 1 [.a]]]),cl 25 (.un .not l32),eW Hg l33] 5 34) (mj s5 dk))) (r1 [gm s3,aw l0 bV,gm l1] 3 2)))))) (xx oS))))⟩
def w459 (h357:Hn Y)(h671:YV Y)(l:List cu)  (hp0:x5 l):de Y NJ (.bool (ig l)) [.sl 2 (l.map cu.D)]:=by
 show bG _ _ _ [⟨_,_⟩,_,_,_,_,_] _;refine aq ?_;refine aG ?_;intro u0;refine ay ?_;refine cC (fun hc0=>?_) fun hc0=>?_
 .refine aI ?_;refine bI ?_;symm;simp only[ig];rw[cT ae];rfl
 refine aI ?_;have hb:ig l=cP (jC l) 0 l.length:=by simp only[ig];rw[cj ae];rfl
 refine a7 hm (ι:=Nat) (fun i=>[⟨true,.sl 2 (l.map cu.D)⟩,.un,.un,⟨true,.int .i64 (i:Nat)⟩,.un,.un]) (fun i=>[]) 5 (fun i=>i<=l.length/\ig l=cP (jC l) i l.length) (fun i=>l.length-i) 0 ⟨ae,hb⟩ (dp []) ?_;rintro i ⟨hi,hr⟩;refine aI ?_;intro u1;refine ay ?_;refine cC (fun hc1=>?_) fun hc1=>?_
 .refine bJ ?_;refine ai (hc:=h357 _) ?_;refine bJ ?_;refine cb (i-1) ?_;refine A2 ?_;refine ai (hc:=h671 l l[i]!.of (hp0 _ (bB ae)).2.2) ?_;refine aA ?_;refine fH (fun hc2=>?_) fun hc2=>?_
  .refine aG ?_;refine bI ?_;have hz:jC l i=false:=by
    simp only[jC];revert hc2;generalize cI l[i]!.name=z0;generalize Op.bytesLess l[i-1]!.name l[i]!.name=z1;generalize lF l l[i]!.of=z2;by_cases e0:0<i<;>cases z0<;>cases z1<;>cases z2<;>simp_all
   rw[hr,aR ae,hz];rfl
  refine bJ ?_;have hz:jC l i=true:=by
   simp only[jC];revert hc2;generalize cI l[i]!.name=z0;generalize Op.bytesLess l[i-1]!.name l[i]!.name=z1;generalize lF l l[i]!.of=z2;by_cases e0:0<i<;>cases z0<;>cases z1<;>cases z2<;>simp_all
  exact⟨i+1,⟨ae,by rw[hr,aR ae,hz];rfl⟩,ae,(dp [])⟩
 refine aG ?_;refine bI ?_;rw[hr,ca ae]
def yE (T:List D->D->Prop):Prop:=∀(l:List cu),(x5 l)->T [.sl 2 (l.map cu.D)] (.bool (ig l))
def Yu (Y:Ctx):Prop:=yE (br Y 459)
def Dj:aF:=⟨1,12,[⟨1,none⟩,⟨2,none⟩,⟨3,none⟩],Se,(sq (rg [gm bp,gm cse,gm cse] [(1,0),(2,1),(3,2)]) (sq (sq (r1 [gm s0,gx 349 [l0] bQ] 4 1) (.cond s4 (sq (rg [gm s0,gm bV,gm l0,gm cse] [(1,1),(2,2),(3,3)]) .ret) .skip)) (sq (sq (rg [gm s0,gx 254 [l0,(cs [63])] fQ,gm l1,ge l2 0,ge l2 1,gm l3,gm l4] [(6,5),(5,6)]) (sq (r1 [gm s5,gm l0,gmt 1 s6,bZ 1 (.call 349 [l2] bQ),eG l1 l3] 7 4) (.cond s7 (sq (rg [gm s6,gm kr,gm l0,gm cse] [(1,1),(2,2),(3,3)]) .ret) .skip))) (sq (sq (rg [gm s0,gx 487 [l0,(cs [47])] fQ,gm l1,ge l2 0,ge l2 1,ge l2 2,gm l3,gm l4,gm l5] [(9,6),(10,7),(8,8)]) (sq (r1 [gm s8,gm l0,gmt 1 s9,bZ 1 (.call 208 [l2] bQ),eG l1 l3,gm l4,gmt 5 jh,bZ 5 (.call 349 [l6] bQ),eG l5 l7] 11 8) (.cond lf (sq (rg [gm s9,gm jh,gm ko,gm l0,gm l1] [(1,2),(2,3),(3,4)]) .ret) .skip))) (sq (rg [gm bp,gm cse,gm cse] [(1,0),(2,1),(3,2)]) .ret)))))⟩
def w448 {Y:Ctx}(hm:(Y.at 0).cd)(h208:L6 Y)(h254:Vi Y)(h349:Hm Y)(h487:Vr Y)(s:au)  (hp0:s.length<=1048576):de Y Dj (.tup [.int .i64 (dt s).1,.str (dt s).2.1,.str (dt s).2.2]) [.str s]:=by
 show bG _ _ _ [⟨_,_⟩,_,_,_,_,_,_,_,_,_,_,_] _;refine aq ?_;refine aY ?_;refine ai (hc:=h349 _) ?_;refine aC ?_;refine cC (fun hc0=>?_) fun hc0=>?_
 .refine bJ ?_;refine bM (eZ (ar (D.int .i64) ?_) (ar D.str ?_) (ar D.str ?_));all_goals rw[JG hc0]
 refine aE ?_;refine ai (hc:=h254 s [63] hp0 aH) ?_;refine fT ?_;refine ai (hc:=h349 _) ?_;refine ay ?_;refine cC (fun hc1=>?_) fun hc1=>?_
 .refine bJ ?_;refine bM (eZ (ar (D.int .i64) ?_) (ar D.str ?_) (ar D.str ?_));all_goals rw[To hc0 hc1]
 refine aE ?_;refine ai (hc:=h487 s 47 hp0) ?_;refine lz ?_;refine ai (hc:=h208 _) ?_;refine aA ?_;refine ai (hc:=h349 _) ?_;refine ay ?_;refine cC (fun hc2=>?_) fun hc2=>?_
 .refine c7 ?_;refine bM (eZ (ar (D.int .i64) ?_) (ar D.str ?_) (ar D.str ?_));all_goals rw[Tp hc0 hc1 hc2]
 refine aY ?_;refine bM (eZ (ar (D.int .i64) ?_) (ar D.str ?_) (ar D.str ?_));all_goals rw[Tn hc0 hc1 hc2]
def Vl (Y:Ctx):Prop:=yP (br Y 448)
def E3:aF:=⟨1,18,gQ,bQ,(sq (r1 [gm dk] 1 0) (sq (sq (r1 [gm s0,gl l0,dd l1 Eu] 2 2) (mj s2 dk)) (sq (sq (rg [gm s0,gl l0,gm bp] [(6,0),(4,1),(3,2)]) (.block 0 (.loop (sq (r1 [aO s3 s4] 5 0) (sq (fh s5 0) (sq (.block 1 (sq (rg [gm s3,ga 2 s6 s3,gk 2 true l1,gb 2 (.c (.agg [.str [],.aD])),gm l0,gt 2 l3 l2] [(7,3),(8,4)]) (sq (sq (r2 [gf 0 s7,gd l0,gx 349 [l1] bQ,jJ l2,gm l3,eO 4 s8,cl 4 (ew l5 bp),eO 4 l6,gmt 7 s0,gmt 7 s8,bZ 7 (kA l9 bV),bZ 7 (.ia 2 l8 l10),k9 7 0 gh,kn 7 iE,k9 7 0 s7,kn 7 j5,bZ 7 (sP jr lr),Et 4 l7 mK,eW l4 pM,gm qC,gJ 19 1 s7,iD 19 va,cl 19 (.len xB),cl 19 (ew A5 vI),eW rm Ew,gm Fz,gJ 25 1 s7,iD 25 OI,cl 25 (.call 447 [Sf] [[.sl 1 [.a]]]),cl 25 (.un .not UM),eW Hg UN] 9 30) (mj s9 dk)) (sq (rg [gf 1 s7,gd l0,gl l1,gm bp] [(13,1),(11,2),(10,3)]) (.block 2 (.loop (sq (r1 [aO jh lf] 12 0) (sq (fh j8 2) (sq (.block 3 (sq (r1 [ga 1 qG jh,gd l0,gm l1] 14 2) (sq (rg [gm qv,gx 448 [l0] bQ,gm l1,ge l2 0,ge l2 1,ge l2 2,gm l3,gm l4,gm l5] [(15,6),(16,7)]) (sq (r1 [gm xc,aL l0 bp,gm l1,eO 2 xc,cl 2 (cO l3 bV),eO 2 l4,gmt 5 s0,gmt 5 A7,bZ 5 (.call 449 [l6,l7] [[.sl 2 [.a,.sl 1 [.a]]],[.a]]),bZ 5 (.un .not l8),Et 2 l5 l9,eW l2 l10] 17 11) (mj Cw dk))))) (r1 [aw jh bV,gm l0] 10 1)))))))))) (r1 [aw s3 bV,gm l0] 3 1))))))) (xx oS))))⟩
def w213 (h349:Hm Y)(h447:Yo Y)(h448:Vl Y)(h449:Yp Y)(l:List cu)  (hp0:x5 l):de Y E3 (.bool (ig l)) [.sl 2 (l.map cu.D)]:=by
 show bG _ _ _ [⟨_,_⟩,_,_,_,_,_,_,_,_,_,_,_,_,_,_,_,_,_] _;refine aq ?_;refine aG ?_;intro u0;refine ay ?_;refine cC (fun hc0=>?_) fun hc0=>?_
 .refine aI ?_;refine bI ?_;symm;simp only[ig];rw[cT ae];rfl
 refine aI ?_;intro u1;refine ay ?_;have hb:ig l=cP (jC l) 0 l.length:=by simp only[ig];rw[cj ae];rfl
 refine a7 hm (ι:=Nat) (fun i=>[⟨true,.sl 2 (l.map cu.D)⟩,.un,.un,⟨true,.int .i64 (i:Nat)⟩,⟨true,.int .i64 (l.length:Nat)⟩,.un,⟨true,.sl 2 (l.map cu.D)⟩,.un,.un,.un,.un,.un,.un,.un,.un,.un,.un,.un]) (fun i=>[]) 7 (fun i=>i<=l.length/\ig l=cP (jC l) i l.length) (fun i=>l.length-i) 0 ⟨ae,hb⟩ (dp []) ?_;rintro i ⟨hi,hr⟩;refine aA ?_;refine cC (fun hc1=>?_) fun hc1=>?_
 .refine aI ?_;first|refine bS (v:=(cu.D _)) ?_|refine eK (v:=(cu.D _)) ?_
  refine ay ?_;refine aU (cu.D l[i]!) (he:=bd) ?_;refine aI ?_;refine ai (hc:=h349 _) ?_;refine bJ ?_;refine cb (i-1) ?_;refine hY ?_;refine jI ?_;refine aI ?_;refine ai (hc:=h447 _) ?_;refine aA ?_;refine av (fun hc2=>?_) (fun hc2=>?_)
  .have hfo:=MC hc2;refine aY ?_;refine bI ?_;rw[hr,aR ae,hfo];rfl
  have hfo:=MD hc2;refine aI ?_;intro u2;refine ay ?_;refine qm hm (ι:=Nat) (fun j=>[⟨true,.sl 2 (l.map cu.D)⟩,.un,.un,⟨true,.int .i64 (i:Nat)⟩,⟨true,.int .i64 (l.length:Nat)⟩,.un,⟨true,.sl 2 (l.map cu.D)⟩,.un,.un,.un,⟨true,.int .i64 (j:Nat)⟩,⟨true,.int .i64 (l[i]!.of.length:Nat)⟩,.un,⟨true,.sl 1 (l[i]!.of.map D.str)⟩,.un,.un,.un,.un]) (fun j=>[]) 49 (fun j=>j<=l[i]!.of.length/\jC l i=cP (fun j=>iM l l[i]!.of[j]!) j l[i]!.of.length) (fun j=>l[i]!.of.length-j) 0 ⟨ae,hfo⟩ (dp []) ?_;rintro j ⟨hj,hjr⟩;refine aA ?_;refine cC (fun hc3=>?_) fun hc3=>?_
  .refine c7 ?_;refine ai (hc:=h448 l[i]!.of[j]! ((hp0 _ (bB ae)).2.2 _ (bB ae))) ?_;refine A2 ?_;refine ai (hc:=h449 _ _) ?_;refine aE ?_;refine wp_cond (fun hc4=>?_) (fun hc4=>?_)
   .have hz:iM l l[i]!.of[j]! =false:=by simp only[iM,hc4];rfl
    refine bJ ?_;refine bI ?_;rw[hr,aR ae,hjr,aR ae,hz];rfl
   have hz:iM l l[i]!.of[j]! =true:=by simp only[iM,hc4];rfl
   refine aY ?_;exact⟨j+1,⟨ae,by rw[hjr,aR ae,hz];rfl⟩,ae,(dp [])⟩
  refine bJ ?_;exact⟨i+1,⟨ae,by rw[hr,aR ae,hjr,ca ae];rfl⟩,ae,(dp [])⟩
 refine aG ?_;refine bI ?_;rw[hr,ca ae]
def XU (Y:Ctx):Prop:=yE (br Y 213)
def NU:aF:=⟨1,11,gQ,bQ,(sq (r1 [gm cse] 1 0) (sq (sq (r1 [gm s0] 2 0) (.block 0 (sq (r1 [aL s2 bV,gm l0] 3 1) (.cond s3 (sq (r1 [gm (cs [61])] 1 0) .ret) (sq (r1 [aL s2 kr,gm l0] 4 1) (.cond s4 (sq (r1 [gm (cs [33,61])] 1 0) .ret) (sq (r1 [aL s2 ko,gm l0] 5 1) (.cond s5 (sq (r1 [gm (cs [60])] 1 0) .ret) (sq (r1 [aL s2 sE,gm l0] 6 1) (.cond s6 (sq (r1 [gm (cs [60,61])] 1 0) .ret) (sq (r1 [aL s2 Hf,gm l0] 7 1) (.cond s7 (sq (r1 [gm (cs [62])] 1 0) .ret) (sq (r1 [aL s2 vI,gm l0] 8 1) (.cond s8 (sq (r1 [gm (cs [62,61])] 1 0) .ret) (sq (r1 [aL s2 OG,gm l0] 9 1) (.cond s9 (sq (r1 [gm (cs [94])] 1 0) .ret) (sq (r1 [aL s2 Eu,gm l0] 10 1) (.cond jh (sq (r1 [gm (cs [126])] 1 0) .ret) .skip)))))))))))))))))) (xx cse)))⟩
def w678 {Y:Ctx}(hm:(Y.at 0).cd)  (op:Int)   :de Y NU (.str (dA op)) [.int .i64 op]:=by
 show bG _ _ _ [⟨_,_⟩,_,_,_,_,_,_,_,_,_,_] _;refine aq ?_;refine fT ?_;refine fH (fun hc0=>?_) fun hc0=>?_
 .refine aI ?_;refine cU ?_;unfold dA;simp_all
 refine aE ?_;refine fH (fun hc1=>?_) fun hc1=>?_
 .refine aI ?_;refine cU ?_;unfold dA;simp_all
 refine aE ?_;refine fH (fun hc2=>?_) fun hc2=>?_
 .refine aI ?_;refine cU ?_;unfold dA;simp_all
 refine aE ?_;refine fH (fun hc3=>?_) fun hc3=>?_
 .refine aI ?_;refine cU ?_;unfold dA;simp_all
 refine aE ?_;refine fH (fun hc4=>?_) fun hc4=>?_
 .refine aI ?_;refine cU ?_;unfold dA;simp_all
 refine aE ?_;refine fH (fun hc5=>?_) fun hc5=>?_
 .refine aI ?_;refine cU ?_;unfold dA;simp_all
 refine aE ?_;refine fH (fun hc6=>?_) fun hc6=>?_
 .refine aI ?_;refine cU ?_;unfold dA;simp_all
 refine aE ?_;refine fH (fun hc7=>?_) fun hc7=>?_
 .refine aI ?_;refine cU ?_;unfold dA;simp_all
 refine aG ?_;refine cU ?_;unfold dA;simp_all
def yR (T:List D->D->Prop):Prop:=∀(op:Int),T [.int .i64 op] (.str (dA op))
def VH (Y:Ctx):Prop:=yR (br Y 678)
def Mu:aF:=⟨1,11,gQ,bQ,(sq (r1 [gm cse] 1 0) (sq (sq (r1 [gm s0] 2 0) (.block 0 (sq (r1 [aL s2 bV,gm l0] 3 1) (.cond s3 (sq (r1 [gm (cs [61])] 1 0) .ret) (sq (r1 [aL s2 kr,gm l0] 4 1) (.cond s4 (sq (r1 [gm (cs [33,61])] 1 0) .ret) (sq (r1 [aL s2 ko,gm l0] 5 1) (.cond s5 (sq (r1 [gm (cs [60])] 1 0) .ret) (sq (r1 [aL s2 sE,gm l0] 6 1) (.cond s6 (sq (r1 [gm (cs [60,61])] 1 0) .ret) (sq (r1 [aL s2 Hf,gm l0] 7 1) (.cond s7 (sq (r1 [gm (cs [62])] 1 0) .ret) (sq (r1 [aL s2 vI,gm l0] 8 1) (.cond s8 (sq (r1 [gm (cs [62,61])] 1 0) .ret) (sq (r1 [aL s2 OG,gm l0] 9 1) (.cond s9 (sq (r1 [gm (cs [94])] 1 0) .ret) (sq (r1 [aL s2 Eu,gm l0] 10 1) (.cond jh (sq (r1 [gm (cs [126])] 1 0) .ret) .skip)))))))))))))))))) (xx cse)))⟩
def w957 {Y:Ctx}(hm:(Y.at 0).cd)  (op:Int)   :de Y Mu (.str (dA op)) [.int .i64 op]:=by
 show bG _ _ _ [⟨_,_⟩,_,_,_,_,_,_,_,_,_,_] _;refine aq ?_;refine fT ?_;refine fH (fun hc0=>?_) fun hc0=>?_
 .refine aI ?_;refine cU ?_;unfold dA;simp_all
 refine aE ?_;refine fH (fun hc1=>?_) fun hc1=>?_
 .refine aI ?_;refine cU ?_;unfold dA;simp_all
 refine aE ?_;refine fH (fun hc2=>?_) fun hc2=>?_
 .refine aI ?_;refine cU ?_;unfold dA;simp_all
 refine aE ?_;refine fH (fun hc3=>?_) fun hc3=>?_
 .refine aI ?_;refine cU ?_;unfold dA;simp_all
 refine aE ?_;refine fH (fun hc4=>?_) fun hc4=>?_
 .refine aI ?_;refine cU ?_;unfold dA;simp_all
 refine aE ?_;refine fH (fun hc5=>?_) fun hc5=>?_
 .refine aI ?_;refine cU ?_;unfold dA;simp_all
 refine aE ?_;refine fH (fun hc6=>?_) fun hc6=>?_
 .refine aI ?_;refine cU ?_;unfold dA;simp_all
 refine aE ?_;refine fH (fun hc7=>?_) fun hc7=>?_
 .refine aI ?_;refine cU ?_;unfold dA;simp_all
 refine aG ?_;refine cU ?_;unfold dA;simp_all
def VR (Y:Ctx):Prop:=yR (br Y 957)
def Gi:aF:=⟨2,3,[⟨2,none⟩],bQ,(sq (r1 [gm dk] 2 0) (sq (r1 [gm s0,pg l0,gm s1,pg l2,gp l1 l3,gm l4,gmt 5 s0,gmt 5 s1,bZ 5 (.lenS l7),bZ 5 (.slS l6 none (some l8)),gmt 5 s1,bZ 5 (cO l9 l10),eG l5 gh,gm iE] 2 13) .ret))⟩
def w1079 {Y:Ctx}(hm:(Y.at 0).cd)  (s:au)(w:au)   :de Y Gi (.bool (sZ s w)) [.str s,.str w]:=by
 show bG _ _ _ [⟨_,_⟩,⟨_,_⟩,_] _;refine aq ?_;refine aI ?_;intro u0;refine ay ?_;intro u1;refine aE ?_;refine jI ?_;refine pC w.length (hj:=fun _=>rfl) (hb:=fun h=>by simp at h;omega) ?_;refine aG ?_;refine bI ?_;unfold sZ;rw[show decide ((w.length:Int)<=(s.length:Int))=decide (w.length<=s.length)from iv.2 ae]
def uY (T:List D->D->Prop):Prop:=∀(s:au) (w:au),T [.str s,.str w] (.bool (sZ s w))
def Uh (Y:Ctx):Prop:=uY (br Y 1079)
def ET:aF:=⟨2,3,[⟨2,none⟩],bQ,(sq (r1 [gm dk] 2 0) (sq (r1 [gm s0,pg l0,gm s1,pg l2,gp l1 l3,gm l4,gmt 5 s0,gmt 5 s1,bZ 5 (.lenS l7),bZ 5 (.slS l6 none (some l8)),gmt 5 s1,bZ 5 (cO l9 l10),eG l5 gh,gm iE] 2 13) .ret))⟩
def w956 {Y:Ctx}(hm:(Y.at 0).cd)  (s:au)(w:au)   :de Y ET (.bool (sZ s w)) [.str s,.str w]:=by
 show bG _ _ _ [⟨_,_⟩,⟨_,_⟩,_] _;refine aq ?_;refine aI ?_;intro u0;refine ay ?_;intro u1;refine aE ?_;refine jI ?_;refine pC w.length (hj:=fun _=>rfl) (hb:=fun h=>by simp at h;omega) ?_;refine aG ?_;refine bI ?_;unfold sZ;rw[show decide ((w.length:Int)<=(s.length:Int))=decide (w.length<=s.length)from iv.2 ae]
def Zq (Y:Ctx):Prop:=uY (br Y 956)
def Rs:aF:=⟨1,8,gQ,bQ,(sq (rg [gb 7 s0,gm dk] [(2,0),(1,1)]) (sq (sq (r1 [gf 0 s2,gd l0,aO l1 bV,gm l2,gJ 3 0 s2,iD 3 l4,cl 3 (ew l5 Ev),eW l3 l6,gm l7,gJ 8 2 s2,cl 8 (.ld 5 true l9),cl 8 (.call 217 [l10] zH),cl 8 (.un .not gh),eW l8 iE,gm jr,gJ 14 2 s2,gJ 14 4 lr,iD 14 mK,cl 14 (ei pM cse),eW j5 qC] 3 19) (mj s3 dk)) (sq (rg [gm bV,gm ko] [(5,0),(6,1)]) (sq (sq (r1 [gf 0 s2,gd l0,aL l1 Ev] 4 2) (.cond s4 (rg [gm bp,gm kr] [(5,0),(6,1)]) .skip)) (sq (sq (r1 [gf 1 s2,gd l0,gm s5,aO l1 l2,gm l3,gJ 4 1 s2,iD 4 l5,eO 4 s6,cl 4 (ew l6 l7),eW l4 l8,gm l9,gJ 10 1 s2,iD 10 gh,cl 10 (nL iE ko),eO 10 jr,k9 14 2 s2,k9 14 3 lr,kn 14 mK,bZ 14 (ei pM cse),Et 10 j5 qC,eW l10 rm] 7 20) (mj s7 dk)) (sq (r1 [gf 1 s2,gd l0,dd l1 bp,gm l2,gJ 3 2 s2,gJ 3 0 l4,iD 3 l5,cl 3 (cO l6 bp),eW l3 l7,gm l8,k9 9 1 s2,kn 9 l10,bZ 9 (ew gh bV),gmt 9 iE,gJ 13 2 s2,gJ 13 1 j5,iD 13 lr,cl 13 (cO mK bp),Wy 9 jr pM,eG l9 qC,gm rm,k9 20 1 s2,kn 20 xB,bZ 20 (ew A5 kr),gmt 20 Ew,gJ 24 2 s2,gJ 24 2 Hg,iD 24 OI,cl 24 (cO Sf bp),Wy 20 Fz UM,eG va UN,gm XH] 1 31) .ret))))))⟩
def w676 {Y:Ctx}(hm:(Y.at 0).cd)(h217:L8 Y)(c:dr)  (hp0:c.v.sm):de Y Rs (.bool (m9 c)) [dr.D c]:=by
 show bG _ _ _ [⟨_,_⟩,_,_,_,_,_,_,_] _;refine aq ?_;refine A1 ?_;refine bD (v:=cZ.D c.v) ?_;refine cV (hc:=fun hf=>h217 c.v hp0) ?_;refine c7 ?_;refine av (fun hc0=>?_) (fun hc0=>?_)
 .have hq:=ES hc0;refine aI ?_;refine bI ?_;rw[hq]
 have hy:=BJ hc0;refine fT ?_;refine av (fun hc1=>?_) (fun hc1=>?_)
 .simp only[aV]at hc1;have hz:=r7 hy (lo:=0) (hi:=2) (ax hc1) (ax hc1);refine Sb ?_;refine av (fun hc2=>?_) (fun hc2=>?_)
  .rw[hc2]at hz;refine aI ?_;refine bI ?_;rw[hz];rfl
  rw[hc2]at hz;refine U7 ?_;refine bI ?_;rw[hz];rfl
 simp only[bt]at hc1;have hz:=r7 hy (lo:=1) (hi:=3) (aj hc1) (aj hc1);refine U6 ?_;refine av (fun hc2=>?_) (fun hc2=>?_)
 .rw[hc2]at hz;refine aI ?_;refine bI ?_;rw[hz];rfl
 rw[hc2]at hz;refine U7 ?_;refine bI ?_;rw[hz];rfl
def yQ (T:List D->D->Prop):Prop:=∀(c:dr),(c.v.sm)->T [dr.D c] (.bool (m9 c))
def VF (Y:Ctx):Prop:=yQ (br Y 676)
def Pu:aF:=⟨1,14,gQ,bQ,(sq (rg [gb 7 s0,gm dk] [(2,0),(1,1)]) (sq (sq (r1 [gf 0 s2,gd l0,aO l1 bV,gm l2,gJ 3 0 s2,iD 3 l4,cl 3 (ew l5 Ev),eW l3 l6,gm l7,gJ 8 2 s2,cl 8 (.ld 5 true l9),cl 8 (.call 209 [l10] zH),cl 8 (.un .not gh),eW l8 iE,gm jr,gJ 14 2 s2,gJ 14 4 lr,iD 14 mK,cl 14 (ei pM cse),eW j5 qC] 3 19) (mj s3 dk)) (sq (rg [gm bV,gm ko] [(5,0),(6,1)]) (sq (sq (r1 [gf 0 s2,gd l0,aL l1 Ev] 4 2) (.cond s4 (rg [gm bp,gm kr] [(5,0),(6,1)]) .skip)) (sq (sq (r1 [gf 1 s2,gd l0,gm s5,aO l1 l2,gm l3,gJ 4 1 s2,iD 4 l5,eO 4 s6,cl 4 (ew l6 l7),eW l4 l8,gm l9,gJ 10 2 s2,gJ 10 3 gh,iD 10 iE,cl 10 (ei jr cse),eO 10 j5,k9 15 1 s2,kn 15 mK,bZ 15 (nL pM ko),Et 10 lr qC,eW l10 rm] 7 20) (mj s7 dk)) (sq (sq (r1 [gf 1 s2,gd l0] 8 1) (.block 0 (sq (.block 3 (sq (.block 2 (sq (.block 1 (sq (sq (sq (r1 [aL s8 bp,gm l0] 9 1) (.cond s9 (.exit 1) .skip)) (sq (sq (r1 [aL s8 bV,gm l0] 10 1) (.cond jh (.exit 2) .skip)) (sq (r1 [aL s8 kr,gm l0] 11 1) (.cond lf (.exit 3) .skip)))) (.exit 0))) (sq (r1 [gf 2 s2,gf 0 l0,gd l1,bO l2 bp] 12 3) (mj j8 dk)))) (sq (r1 [gf 2 s2,gf 1 l0,gd l1,bO l2 bp] 13 3) (mj qG dk)))) (sq (sq (r1 [gf 2 s2,gf 2 l0,gd l1,aL l2 bp,gm l3] 1 4) .ret) (.exit 0))))) (xx oS)))))))⟩
def w827 {Y:Ctx}(hm:(Y.at 0).cd)(h209:Hk Y)(c:dr)  (hp0:c.v.sm):de Y Pu (.bool (m9 c)) [dr.D c]:=by
 show bG _ _ _ [⟨_,_⟩,_,_,_,_,_,_,_,_,_,_,_,_,_] _;refine aq ?_;refine A1 ?_;refine bD (v:=cZ.D c.v) ?_;refine cV (hc:=fun hf=>h209 c.v hp0) ?_;refine c7 ?_;refine av (fun hc0=>?_) (fun hc0=>?_)
 .have hq:=ES hc0;refine aI ?_;refine bI ?_;rw[hq]
 have hy:=BJ hc0;refine fT ?_;refine av (fun hc1=>?_) (fun hc1=>?_)
 .simp only[aV]at hc1;have hz:=r7 hy (lo:=0) (hi:=2) (ax hc1) (ax hc1);refine Sb ?_;refine av (fun hc2=>?_) (fun hc2=>?_)
  .rw[Bool.and_comm (!decide (c.v.pre=[]))]at hc2;rw[hc2]at hz;refine aI ?_;refine bI ?_;rw[hz];simp[qy]<;>simp_all<;>omega
  rw[Bool.and_comm (!decide (c.v.pre=[]))]at hc2;rw[hc2]at hz;refine xm ?_;refine cC (fun hc3=>?_) fun hc3=>?_
  .refine bJ ?_;refine fH (fun hc6=>?_) fun hc6=>?_
   .refine aY ?_;refine bI ?_;rw[hz];simp[qy]<;>simp_all<;>omega
   refine bJ ?_;refine fH (fun hc7=>?_) fun hc7=>?_
   .refine aG ?_;refine bI ?_;rw[hz];simp[qy]<;>simp_all<;>omega
   refine fU ?_;refine bI ?_;rw[hz];simp[qy]<;>simp_all<;>omega
  refine aY ?_;refine cC (fun hc4=>?_) fun hc4=>?_
  .refine c7 ?_;refine fH (fun hc7=>?_) fun hc7=>?_
   .refine aG ?_;refine bI ?_;rw[hz];simp[qy]<;>simp_all<;>omega
   refine fU ?_;refine bI ?_;rw[hz];simp[qy]<;>simp_all<;>omega
  refine aG ?_;refine cC (fun hc5=>?_) fun hc5=>?_
  .refine xl ?_;refine bI ?_;rw[hz];simp[qy]<;>simp_all<;>omega
  refine hY ?_;refine bI ?_;rw[hz];simp[qy]<;>simp_all<;>omega
 simp only[bt]at hc1;have hz:=r7 hy (lo:=1) (hi:=3) (aj hc1) (aj hc1);refine U6 ?_;refine av (fun hc2=>?_) (fun hc2=>?_)
 .rw[Bool.and_comm (!decide (c.v.pre=[]))]at hc2;rw[hc2]at hz;refine aI ?_;refine bI ?_;rw[hz];simp[qy]<;>simp_all<;>omega
 rw[Bool.and_comm (!decide (c.v.pre=[]))]at hc2;rw[hc2]at hz;refine xm ?_;refine cC (fun hc3=>?_) fun hc3=>?_
 .refine bJ ?_;refine fH (fun hc6=>?_) fun hc6=>?_
  .refine aY ?_;refine bI ?_;rw[hz];simp[qy]<;>simp_all<;>omega
  refine bJ ?_;refine fH (fun hc7=>?_) fun hc7=>?_
  .refine aG ?_;refine bI ?_;rw[hz];simp[qy]<;>simp_all<;>omega
  refine fU ?_;refine bI ?_;rw[hz];simp[qy]<;>simp_all<;>omega
 refine aY ?_;refine cC (fun hc4=>?_) fun hc4=>?_
 .refine c7 ?_;refine fH (fun hc7=>?_) fun hc7=>?_
  .refine aG ?_;refine bI ?_;rw[hz];simp[qy]<;>simp_all<;>omega
  refine fU ?_;refine bI ?_;rw[hz];simp[qy]<;>simp_all<;>omega
 refine aG ?_;refine cC (fun hc5=>?_) fun hc5=>?_
 .refine xl ?_;refine bI ?_;rw[hz];simp[qy]<;>simp_all<;>omega
 refine hY ?_;refine bI ?_;rw[hz];simp[qy]<;>simp_all<;>omega
def Sv (Y:Ctx):Prop:=yQ (br Y 827)
end Go.Abs
