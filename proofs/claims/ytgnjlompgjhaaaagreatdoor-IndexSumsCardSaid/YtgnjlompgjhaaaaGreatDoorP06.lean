/- A part of the proofs. -/
import Derived.Test.YtgnjlompgjhaaaaGreatDoorP05
set_option linter.all false
set_option maxRecDepth 4000
section
namespace Go.Abs
def ah {p:Prop}(h:p:=by exact rfl):p:=h
def n4 {p:Prop}(h:p:=by repeat(first|exact dA.nil|refine dA.un ?_|refine dA.eq bj ?_)):p:=h
def ch {p:Prop}(h:p:=by first|exact rfl|exact cg (fun _=>rfl) _):p:=h
def eg {p:Prop}(h:p:=by repeat(first|exact dA.nil|refine dA.un ?_|refine dA.eq bj ?_|refine dA.nl bj bj ?_)):p:=h
def gI {p:Prop}(h:p:=by repeat' first|exact trivial|exact rfl|refine And.intro ?_ ?_):p:=h
def rD {p:Prop}(h:p:=by repeat' first|exact trivial|exact rfl|exact aQ _|refine And.intro ?_ ?_):p:=h
def rC {p:Prop}(h:p:=by repeat(first|exact aO.nil|refine aO.dY bj bj (by first|exact rfl|exact cg (fun _=>rfl) _) ?_|refine aO.jG bj bj bj ?_|refine aO.lG bj bj bj bj ?_)):p:=h
def b0 {p:Prop} [Decidable p]:(decide p=true)=p:=aW
def b1 {p:Prop} [Decidable p]:decide p=false↔¬p:=bD
def b2 (b:Bool):((!b)=true)=(b=false):=bE b
def b3 (b:Bool):((!b)=false)=(b=true):=b6 b
def b4 (b:Bool):(¬(b=false))=(b=true):=Bool.not_eq_false b
def b5 (a b:Bool):((a ||b)=true)=(a=true\/b=true):=dh a b
end Go.Abs
namespace Go.Abs
abbrev dj (Y:Ctx)(a:aF)(d:D)(ds:List D):Prop:=bH (Y.at 0) a.body (VW a d) (gw a ds) ⟨0,[]⟩
def bL {a:aF}{d d2:D}{e:Ex}{nx:Nat}{m:List (Nat×bO)}{env:List bR}(h:d2=d)(he:e.home:=by exact trivial)(h1:qD m env a.res:=by exact rD)(h2:CZ a env m:=by exact gI)(h3:Om a env m=d2:=by exact rfl):VW a d e env ⟨nx,m⟩:=W8 he h1 h2 (h3.trans h)
def bS {a:aF}{d d2:Bool}{e:Ex}{nx:Nat}{m:List (Nat×bO)}{env:List bR}(h:d2=d)(he:e.home:=by exact trivial)(h1:qD m env a.res:=by exact rD)(h2:CZ a env m:=by exact gI)(h3:Om a env m=.bool d2:=by exact rfl):VW a (.bool d) e env ⟨nx,m⟩:=bL (ar _ h) he h1 h2 h3
def cT {a:aF}{d d2:List UInt8}{e:Ex}{nx:Nat}{m:List (Nat×bO)}{env:List bR}(h:d2=d)(he:e.home:=by exact trivial)(h1:qD m env a.res:=by exact rD)(h2:CZ a env m:=by exact gI)(h3:Om a env m=.str d2:=by exact rfl):VW a (.str d) e env ⟨nx,m⟩:=bL (ar _ h) he h1 h2 h3
def cS {a:aF}{d d2:Int}{e:Ex}{nx:Nat}{m:List (Nat×bO)}{env:List bR}(h:d2=d)(he:e.home:=by exact trivial)(h1:qD m env a.res:=by exact rD)(h2:CZ a env m:=by exact gI)(h3:Om a env m=.int .i64 d2:=by exact rfl):VW a (.int .i64 d) e env ⟨nx,m⟩:=bL (ar _ h) he h1 h2 h3
def dL {lo c nx nx2:Nat}{env env2:List bR}{m m2:List (Nat×bO)}(σ:List (Nat×Nat))(hc:nx2=c:=by exact ah)(h:iU lo c σ=true:=by exact ah)(he:dA lo σ env env2:=by exact eg)(hm:aO lo c σ m m2:=by exact rC):aZ lo env ⟨nx,m⟩ env2 ⟨nx2,m2⟩:=aZ.to σ hc h he hm
def fR {Y:Ctx}{draw f:Bool}{r:List GI}{env rs:List bR}{nx:Nat}{m:List (Nat×bO)}{K:List bR->St->Prop}{g:Option (Nat×Bool)}{x y:Src}{fx fy:Bool}{a b:List UInt8}(h:aI Y draw r env (⟨f,.str (a++b)⟩::rs) nx m K)(hg:GF rs g f:=by first|exact rfl|exact⟨_,_,rfl,rfl⟩)(hx:cB env rs x=⟨fx,.str a⟩:=by exact rfl)(hy:cB env rs y=⟨fy,.str b⟩:=by exact rfl)(kx:f=true->fx=true:=by first|exact fun _=>rfl|exact fun h=>h|(intro h;simp_all))(ky:f=true->fy=true:=by first|exact fun _=>rfl|exact fun h=>h|(intro h;simp_all))(hb:f=true->a.length+b.length<=9223372036854775807:=by intro _;simp only[bG,ay,aB];omega):aI Y draw (⟨.bin .add x y,g⟩::r) env rs nx m K:=c8 h hg hx hy kx ky hb
end Go.Abs
namespace Go.Abs
section
variable {Y:Ctx} {Q:Ex->List bR->St->Prop}
def cmN {env rs:List bR}:Pd env rs []=env:=rfl
def cmC {s p:Nat}{r:List (Nat×Nat)}{env rs env1 env':List bR}{f:Bool}{d:D}(e:cB [] rs (.l p)=⟨f,d⟩)(hs:env.set s ⟨f,d⟩=env1)(h:Pd env1 rs r=env'):Pd env rs ((s,p)::r)=env':=by
 simp only[Pd,e,hs,h]
def rrrg {draw:Bool}{cm:List (Nat×Nat)}{b:AC}{nx nx':Nat}{m:List (Nat×bO)}{rs env gw env':List bR}(h:bH Y b Q env' ⟨nx',m⟩)
  (he:Pd env rs cm=env':=by repeat(first|apply cmC bj (by simp only[List.set_cons_zero,List.set_cons_succ];exact rfl)|with_reducible exact cmN)) (hn:nx+rs.length=nx':=by simp only[ay,aB,Nat.reduceAdd];exact rfl):aI Y draw [] gw rs nx m (fun vs st'=>bH Y b Q (iE env vs cm) st'):=
 TH h he hn
def rrrh {draw:Bool}{cm:List (Nat×Nat)}{nx nx':Nat}{m:List (Nat×bO)}{rs env gw env':List bR}(h:Q .normal env' ⟨nx',m⟩)
  (he:Pd env rs cm=env':=by repeat(first|apply cmC bj (by simp only[List.set_cons_zero,List.set_cons_succ];exact rfl)|with_reducible exact cmN)) (hn:nx+rs.length=nx':=by simp only[ay,aB,Nat.reduceAdd];exact rfl):aI Y draw [] gw rs nx m (fun vs st'=>Q .normal (iE env vs cm) st'):=
 TI h he hn
end
def Fam (_:Prop):Type:=Unit
def wQ {q:Prop}:Fam q:=()
structure Hid (q:Prop)(f:Fam q):Prop where
 val:q
section
variable {Y:Ctx} {draw b1:Bool} {r:List GI} {env rs:List bR} {nx n0 n1:Nat} {m:List (Nat×bO)} {K:List bR->St->Prop} {g:Option (Nat×Bool)} {x0 x1 x2:Src}
def tg0 {Y:Ctx}{a:AC}{Q:Ex->List bR->St->Prop}{env:List bR}{st:St}(h:bH Y a Q env st):bH Y a Q env st:=h
def tg1 (h:aI Y draw (⟨.mv x0,g⟩::r) env rs nx m K):aI Y draw (⟨.mv x0,g⟩::r) env rs nx m K:=h
def tg2 (h:aI Y draw [] env rs nx m K):aI Y draw [] env rs nx m K:=h
def tg3 (h:aI Y draw (⟨.fa n0 x1,g⟩::r) env rs nx m K):aI Y draw (⟨.fa n0 x1,g⟩::r) env rs nx m K:=h
def tg4 (h:aI Y draw (⟨.ld n0 b1 x2,g⟩::r) env rs nx m K):aI Y draw (⟨.ld n0 b1 x2,g⟩::r) env rs nx m K:=h
def tg5 (h:aI Y draw (⟨.bin .lss x0 x1,g⟩::r) env rs nx m K):aI Y draw (⟨.bin .lss x0 x1,g⟩::r) env rs nx m K:=h
def tg6 (h:aI Y draw (⟨.bin .eql x0 x1,g⟩::r) env rs nx m K):aI Y draw (⟨.bin .eql x0 x1,g⟩::r) env rs nx m K:=h
def tg7 (h:aI Y draw (⟨.bin .add x0 x1,g⟩::r) env rs nx m K):aI Y draw (⟨.bin .add x0 x1,g⟩::r) env rs nx m K:=h
def tg8 (h:aI Y draw (⟨.bin .gtr x0 x1,g⟩::r) env rs nx m K):aI Y draw (⟨.bin .gtr x0 x1,g⟩::r) env rs nx m K:=h
def tg9 (h:aI Y draw (⟨.bin .neq x0 x1,g⟩::r) env rs nx m K):aI Y draw (⟨.bin .neq x0 x1,g⟩::r) env rs nx m K:=h
def tg10 (h:aI Y draw (⟨.bin .leq x0 x1,g⟩::r) env rs nx m K):aI Y draw (⟨.bin .leq x0 x1,g⟩::r) env rs nx m K:=h
def tg11 (h:aI Y draw (⟨.bin .geq x0 x1,g⟩::r) env rs nx m K):aI Y draw (⟨.bin .geq x0 x1,g⟩::r) env rs nx m K:=h
def tg12 (h:aI Y draw (⟨.bin .sub x0 x1,g⟩::r) env rs nx m K):aI Y draw (⟨.bin .sub x0 x1,g⟩::r) env rs nx m K:=h
def tg13 (h:aI Y draw (⟨.ext x0 n1,g⟩::r) env rs nx m K):aI Y draw (⟨.ext x0 n1,g⟩::r) env rs nx m K:=h
def tg14 (h:aI Y draw (⟨.pick x0 x1 (.c (.bool false)),g⟩::r) env rs nx m K):aI Y draw (⟨.pick x0 x1 (.c (.bool false)),g⟩::r) env rs nx m K:=h
def tg15 (h:aI Y draw (⟨.pick x0 (.c (.bool true)) x1,g⟩::r) env rs nx m K):aI Y draw (⟨.pick x0 (.c (.bool true)) x1,g⟩::r) env rs nx m K:=h
def tg16 (h:aI Y draw (⟨.un .not x0,g⟩::r) env rs nx m K):aI Y draw (⟨.un .not x0,g⟩::r) env rs nx m K:=h
def tg17 (h:aI Y draw (⟨.nilck x0,g⟩::r) env rs nx m K):aI Y draw (⟨.nilck x0,g⟩::r) env rs nx m K:=h
def tg18 (h:aI Y draw (⟨.box n0 x1,g⟩::r) env rs nx m K):aI Y draw (⟨.box n0 x1,g⟩::r) env rs nx m K:=h
def tg19 (h:aI Y draw (⟨.ia n0 x1 x2,g⟩::r) env rs nx m K):aI Y draw (⟨.ia n0 x1 x2,g⟩::r) env rs nx m K:=h
def tg20 (h:aI Y draw (⟨.ixS x0 x1,g⟩::r) env rs nx m K):aI Y draw (⟨.ixS x0 x1,g⟩::r) env rs nx m K:=h
def tg21 (h:aI Y draw (⟨.st n0 x1 x2,g⟩::r) env rs nx m K):aI Y draw (⟨.st n0 x1 x2,g⟩::r) env rs nx m K:=h
def tg22 (h:aI Y draw (⟨.len x0,g⟩::r) env rs nx m K):aI Y draw (⟨.len x0,g⟩::r) env rs nx m K:=h
def tg23 (h:aI Y draw (⟨.lenS x0,g⟩::r) env rs nx m K):aI Y draw (⟨.lenS x0,g⟩::r) env rs nx m K:=h
def tg24 (h:aI Y draw (⟨.ui x0,g⟩::r) env rs nx m K):aI Y draw (⟨.ui x0,g⟩::r) env rs nx m K:=h
def tg25 (h:aI Y draw (⟨.s2b x0,g⟩::r) env rs nx m K):aI Y draw (⟨.s2b x0,g⟩::r) env rs nx m K:=h
def tg26 (h:aI Y draw (⟨.mkB,g⟩::r) env rs nx m K):aI Y draw (⟨.mkB,g⟩::r) env rs nx m K:=h
def tg27 (h:aI Y draw (⟨.app n0 x1 x2,g⟩::r) env rs nx m K):aI Y draw (⟨.app n0 x1 x2,g⟩::r) env rs nx m K:=h
end
def aD {p q:Prop}(k:q)(h:Hid q wQ->p:=by
 intro h;first
 |((with_reducible refine tg0 ?_);first|with_reducible exact aq h.1|with_reducible exact RQ h.1|with_reducible exact Ja h.1|with_reducible exact Xl h.1|with_reducible exact Ol h.1|with_reducible exact wp_ret h.1|with_reducible exact wp_skip h.1|with_reducible exact I9 h.1|with_reducible exact wp_exit h.1|with_reducible exact GX h.1 hm|with_reducible exact Oj h.1 hm)
 |((with_reducible refine tg1 ?_);(refine r_mv ?_;exact h.1))
 |((with_reducible refine tg2 ?_);first|(refine rrrh ?_;exact h.1)|(refine rrrg ?_;exact h.1))
 |((with_reducible refine tg3 ?_);first|(refine r_faP ?_;exact h.1)|(refine r_faR ?_;exact h.1))
 |((with_reducible refine tg4 ?_);first|exact bI (.int _ _) h.1|exact bI (.str _) h.1|(refine b8 (v:=.str _) ?_;exact h.1)|(refine fF (v:=.str _) ?_;exact h.1)|(refine b8 (v:=.int _ _) ?_;exact h.1)|(refine fF (v:=.int _ _) ?_;exact h.1)|exact bI (.sl _ _) h.1|exact bI (.own _ _ _ _) h.1|exact bI (.bool _) h.1|(refine b8 (v:=.sl _ _) ?_;exact h.1)|(refine fF (v:=.sl _ _) ?_;exact h.1)|(refine b8 (v:=.bool _) ?_;exact h.1)|(refine fF (v:=.bool _) ?_;exact h.1)|exact cJ h.1|exact bI .aC h.1)
 |((with_reducible refine tg5 ?_);first|(refine Q6 ?_;exact h.1)|(refine Q7 ?_;exact h.1))
 |((with_reducible refine tg6 ?_);first|(refine WS ?_;exact h.1)|(refine WT ?_;exact h.1))
 |((with_reducible refine tg7 ?_);(refine TE ?_;exact h.1))
 |((with_reducible refine tg8 ?_);first|(refine Im ?_;exact h.1)|(refine Io ?_;exact h.1))
 |((with_reducible refine tg9 ?_);first|(refine W1 ?_;exact h.1)|(refine W2 ?_;exact h.1))
 |((with_reducible refine tg10 ?_);first|(refine WZ ?_;exact h.1)|(refine W0 ?_;exact h.1))
 |((with_reducible refine tg11 ?_);first|(refine WU ?_;exact h.1)|(refine WV ?_;exact h.1))
 |((with_reducible refine tg12 ?_);(refine J9 ?_;exact h.1))
 |((with_reducible refine tg13 ?_);first|exact gB (.int _ _) h.1|exact gB (.str _) h.1|exact gB (.bool _) h.1)
 |((with_reducible refine tg14 ?_);(refine r_and ?_;exact h.1))
 |((with_reducible refine tg15 ?_);(refine r_or ?_;exact h.1))
 |((with_reducible refine tg16 ?_);(refine r_not ?_;exact h.1))
 |((with_reducible refine tg17 ?_);first|(refine W3 ?_;exact h.1)|(refine W4 ?_;exact h.1))
 |((with_reducible refine tg18 ?_);(refine r_box ?_;exact h.1))
 |((with_reducible refine tg19 ?_);first|exact ca _ h.1|exact QY h.1|exact jJ _ h.1|exact WW h.1)
 |((with_reducible refine tg20 ?_);first|exact oB _ h.1|exact WX h.1)
 |((with_reducible refine tg21 ?_);exact aU _ h.1)
 |((with_reducible refine tg22 ?_);first|exact Q3 fun a=>(h.1:_->_) (a rfl rfl)|exact Q4 fun a=>(h.1:_->_) (a rfl rfl)|(refine WY ?_;exact h.1))
 |((with_reducible refine tg23 ?_);exact Q5 fun a=>(h.1:_->_) (a rfl rfl))
 |((with_reducible refine tg24 ?_);(refine r_rng ?_;exact h.1))
 |((with_reducible refine tg25 ?_);(refine r_s2b ?_;exact h.1))
 |((with_reducible refine tg26 ?_);(refine r_mkB ?_;exact h.1))
 |((with_reducible refine tg27 ?_);(refine jX ?_;exact h.1))
 |with_reducible exact BQ.normal h.1|with_reducible exact BQ.ret h.1|with_reducible exact LQ.normal h.1|with_reducible exact LQ.out h.1|with_reducible exact LQ.ret h.1|with_reducible exact BQ.out h.1|with_reducible exact Hb.normal h.1|with_reducible exact Hb.ret h.1|with_reducible exact Hd.normal h.1|with_reducible exact Hd.ret h.1|with_reducible exact Hb.out h.1|with_reducible exact Hd.out h.1|with_reducible exact CQ.normal h.1|with_reducible exact CQ.ret h.1|with_reducible exact CQ.other h.1|((with_reducible refine BQ.other ?_ h.1);exact rfl)|((with_reducible refine LQ.other ?_ h.1);exact rfl)|((with_reducible refine Hb.other ?_ h.1);exact rfl)|((with_reducible refine Hd.other ?_ h.1);exact rfl)):p:=h ⟨k⟩
def ll {p q:Prop}(k:q)(h:Hid q wQ->p:=by intro h;first|exact Q3 fun _=>h.1|exact Q5 fun _=>h.1|exact Q4 fun _=>h.1):p:=h ⟨k⟩
section
variable {Y:Ctx} {Q:Ex->List bR->St->Prop}
end
def eE:(∀{p:Prop} [Decidable p],(decide p=true)=p)/\(∀{p:Prop} [Decidable p],decide p=false↔¬p)/\(∀b:Bool,((!b)=true)=(b=false))/\(∀b:Bool,((!b)=false)=(b=true))/\(∀b:Bool,(¬(b=false))=(b=true))/\(∀a b:Bool,((a ||b)=true)=(a=true\/b=true))/\(∀{a b:Bool},(a ||b)=false↔a=false/\b=false)/\(∀a b:Bool,((a&&b)=true)=(a=true/\b=true))/\(∀{a b:Bool},(a&&b)=false↔a=false\/b=false)/\(∀b:Bool,(¬(b=true))=(b=false))/\(∀b:Bool,(true&&b)=b)/\∀b:Bool,(b&&true)=b:=
 ⟨aW,bD,bE,b6,Bool.not_eq_false,dh,dW,bw,dT,Bool.not_eq_true,gp,oS⟩
section
variable {Y:Ctx} {Q:Ex->List bR->St->Prop} {env:List bR} {st:St}
def cI {c:Src}{a b r:AC}{t:Bool}{c1 c2:Prop}(h1:c1->bH Y (.seq a r) Q env st)(h2:c2->bH Y (.seq b r) Q env st)(hc:cB env [] c=⟨true,.bool t⟩:=by exact rfl)(e1:t=true->c1:=by intro h;(try simp only[eE]at h);exact h)(e2:t=false->c2:=by intro h;(try simp only[eE]at h);exact h):bH Y (.seq (.cond c a b) r) Q env st:=av (fun h=>h1 (e1 h)) (fun h=>h2 (e2 h)) hc
def fA {c:Src}{a b:AC}{t:Bool}{c1 c2:Prop}(h1:c1->bH Y a Q env st)(h2:c2->bH Y b Q env st)(hc:cB env [] c=⟨true,.bool t⟩:=by exact rfl)(e1:t=true->c1:=by intro h;(try simp only[eE]at h);exact h)(e2:t=false->c2:=by intro h;(try simp only[eE]at h);exact h):bH Y (.cond c a b) Q env st:=wp_cond (fun h=>h1 (e1 h)) (fun h=>h2 (e2 h)) hc
end
end Go.Abs
namespace Go.Abs
def az {p q:Prop}(k:q)(h:Hid q wQ->p:=by intro h;(iterate 2 refine aD ?_);exact h.1):p:=h ⟨k⟩
def aA {p q:Prop}(k:q)(h:Hid q wQ->p:=by intro h;(iterate 3 refine aD ?_);exact h.1):p:=h ⟨k⟩
def aE {p q:Prop}(k:q)(h:Hid q wQ->p:=by intro h;(iterate 4 refine aD ?_);exact h.1):p:=h ⟨k⟩
def aJ {p q:Prop}(k:q)(h:Hid q wQ->p:=by intro h;(iterate 5 refine aD ?_);exact h.1):p:=h ⟨k⟩
def aH {p q:Prop}(k:q)(h:Hid q wQ->p:=by intro h;(iterate 6 refine aD ?_);exact h.1):p:=h ⟨k⟩
def aY {p q:Prop}(k:q)(h:Hid q wQ->p:=by intro h;(iterate 7 refine aD ?_);exact h.1):p:=h ⟨k⟩
def bM {p q:Prop}(k:q)(h:Hid q wQ->p:=by intro h;(iterate 8 refine aD ?_);exact h.1):p:=h ⟨k⟩
def cW {p q:Prop}(k:q)(h:Hid q wQ->p:=by intro h;(iterate 9 refine aD ?_);exact h.1):p:=h ⟨k⟩
def hX {p q:Prop}(k:q)(h:Hid q wQ->p:=by intro h;(iterate 10 refine aD ?_);exact h.1):p:=h ⟨k⟩
def fS {p q:Prop}(k:q)(h:Hid q wQ->p:=by intro h;(iterate 11 refine aD ?_);exact h.1):p:=h ⟨k⟩
def gG {p q:Prop}(k:q)(h:Hid q wQ->p:=by intro h;(iterate 12 refine aD ?_);exact h.1):p:=h ⟨k⟩
def na {p q:Prop}(k:q)(h:Hid q wQ->p:=by intro h;(iterate 13 refine aD ?_);exact h.1):p:=h ⟨k⟩
def AZ {p q:Prop}(k:q)(h:Hid q wQ->p:=by intro h;(iterate 14 refine aD ?_);exact h.1):p:=h ⟨k⟩
def A0 {p q:Prop}(k:q)(h:Hid q wQ->p:=by intro h;(iterate 15 refine aD ?_);exact h.1):p:=h ⟨k⟩
def A1 {p q:Prop}(k:q)(h:Hid q wQ->p:=by intro h;(iterate 16 refine aD ?_);exact h.1):p:=h ⟨k⟩
def A2 {p q:Prop}(k:q)(h:Hid q wQ->p:=by intro h;(iterate 17 refine aD ?_);exact h.1):p:=h ⟨k⟩
def UT {p q:Prop}(k:q)(h:Hid q wQ->p:=by intro h;(iterate 18 refine aD ?_);exact h.1):p:=h ⟨k⟩
def UU {p q:Prop}(k:q)(h:Hid q wQ->p:=by intro h;(iterate 20 refine aD ?_);exact h.1):p:=h ⟨k⟩
def R1 {p q:Prop}(k:q)(h:Hid q wQ->p:=by intro h;(iterate 22 refine aD ?_);exact h.1):p:=h ⟨k⟩
def zzz24 {p q:Prop}(k:q)(h:Hid q wQ->p:=by intro h;(iterate 24 refine aD ?_);exact h.1):p:=h ⟨k⟩
def UW {p q:Prop}(k:q)(h:Hid q wQ->p:=by intro h;(iterate 25 refine aD ?_);exact h.1):p:=h ⟨k⟩
def zzz26 {p q:Prop}(k:q)(h:Hid q wQ->p:=by intro h;(iterate 26 refine aD ?_);exact h.1):p:=h ⟨k⟩
def R2 {p q:Prop}(k:q)(h:Hid q wQ->p:=by intro h;(iterate 28 refine aD ?_);exact h.1):p:=h ⟨k⟩
def UX {p q:Prop}(k:q)(h:Hid q wQ->p:=by intro h;(iterate 36 refine aD ?_);exact h.1):p:=h ⟨k⟩
end Go.Abs
namespace Go.Abs
abbrev s0:Src:=.s 0
abbrev s1:Src:=.s 1
abbrev s2:Src:=.s 2
abbrev s3:Src:=.s 3
abbrev s4:Src:=.s 4
abbrev s5:Src:=.s 5
abbrev s6:Src:=.s 6
abbrev s7:Src:=.s 7
abbrev s8:Src:=.s 8
abbrev s9:Src:=.s 9
abbrev jf:Src:=.s 10
abbrev k9:Src:=.s 11
abbrev lv:Src:=.s 12
abbrev qG:Src:=.s 13
abbrev rN:Src:=.s 14
abbrev xI:Src:=.s 15
abbrev Bo:Src:=.s 16
abbrev D9:Src:=.s 17
abbrev Hg:Src:=.s 18
abbrev UN:Src:=.s 19
abbrev Ki:Src:=.s 20
abbrev Xw:Src:=.s 21
abbrev Xx:Src:=.s 22
abbrev s23:Src:=.s 23
abbrev Xa:Src:=.s 24
abbrev Xy:Src:=.s 25
abbrev s26:Src:=.s 26
abbrev s27:Src:=.s 27
abbrev s28:Src:=.s 28
abbrev s29:Src:=.s 29
abbrev UO:Src:=.s 30
abbrev s31:Src:=.s 31
abbrev s32:Src:=.s 32
abbrev s33:Src:=.s 33
abbrev s34:Src:=.s 34
abbrev s35:Src:=.s 35
abbrev s36:Src:=.s 36
abbrev s37:Src:=.s 37
abbrev s38:Src:=.s 38
abbrev l0:Src:=.l 0
abbrev l1:Src:=.l 1
abbrev l2:Src:=.l 2
abbrev l3:Src:=.l 3
abbrev l4:Src:=.l 4
abbrev l5:Src:=.l 5
abbrev l6:Src:=.l 6
abbrev l7:Src:=.l 7
abbrev l8:Src:=.l 8
abbrev l9:Src:=.l 9
abbrev l10:Src:=.l 10
abbrev gH:Src:=.l 11
abbrev jm:Src:=.l 12
abbrev jV:Src:=.l 13
abbrev lg:Src:=.l 14
abbrev mM:Src:=.l 15
abbrev og:Src:=.l 16
abbrev rl:Src:=.l 17
abbrev sX:Src:=.l 18
abbrev uh:Src:=.l 19
abbrev zJ:Src:=.l 20
abbrev Bf:Src:=.l 21
abbrev Ey:Src:=.l 22
abbrev JF:Src:=.l 23
abbrev MT:Src:=.l 24
abbrev Ou:Src:=.l 25
abbrev R6:Src:=.l 26
abbrev UF:Src:=.l 27
abbrev Ws:Src:=.l 28
abbrev Wt:Src:=.l 29
abbrev l30:Src:=.l 30
abbrev l31:Src:=.l 31
abbrev l32:Src:=.l 32
abbrev l33:Src:=.l 33
abbrev l34:Src:=.l 34
abbrev gm (x:Src):GI:=⟨.mv x,none⟩
abbrev gn (x:aN):GI:=⟨x,none⟩
abbrev i6 (n:Int):Src:=.c (.int .i64 n)
abbrev cs (s:List UInt8):Src:=.c (.str s)
abbrev gd (x:Src):GI:=⟨.ld 1 false x,none⟩
abbrev gk (n:Nat)(b:Bool)(x:Src):GI:=⟨.ld n b x,none⟩
abbrev gf (n:Nat)(x:Src):GI:=⟨.fa n x,none⟩
abbrev gl (x:Src):GI:=⟨.len x,none⟩
abbrev ga (n:Nat)(x y:Src):GI:=⟨.ia n x y,none⟩
abbrev ge (x:Src)(n:Nat):GI:=⟨.ext x n,none⟩
abbrev gb (n:Nat)(x:Src):GI:=⟨.box n x,none⟩
abbrev gc (x:Src):GI:=⟨.nilck x,none⟩
abbrev gt (n:Nat)(x y:Src):GI:=⟨.st n x y,none⟩
abbrev gx (n:Nat)(x:List Src)(y:List (List Sh)):GI:=⟨.call n x y,none⟩
abbrev rg (x:List GI)(y:List (Nat×Nat)):AC:=.reg false x y
abbrev rt (x:List GI)(y:List (Nat×Nat)):AC:=.reg true x y
abbrev nO (x y:Src):aN:=.bin .lss x y
abbrev cQ (x y:Src):aN:=.bin .eql x y
abbrev zb (x y:Src):aN:=.bin .add x y
abbrev et (x y:Src):aN:=.bin .gtr x y
abbrev eX (x y:Src):aN:=.bin .neq x y
abbrev mX (x y:Src):aN:=.bin .leq x y
abbrev sT (x y:Src):aN:=.bin .geq x y
abbrev ku (x y:Src):aN:=.bin .sub x y
abbrev O4 (x y:Src):aN:=.bin .and x y
abbrev dM:Src:=.c (.bool false)
abbrev qx:Src:=.c (.bool true)
abbrev cse:Src:=.c (.str [])
abbrev bq:Src:=.c (.int .i64 0)
abbrev bX:Src:=.c (.int .i64 1)
abbrev kl:Src:=.c (.int .i64 2)
abbrev kn:Src:=.c (.int .i64 3)
abbrev sg:Src:=.c (.int .i64 4)
abbrev Hf:Src:=.c (.int .i64 5)
abbrev wV:Src:=.c (.int .i64 6)
abbrev Ot:Src:=.c (.int .i64 7)
abbrev Fj:Src:=.c (.int .i64 8)
abbrev Ew:Src:=.c (.int .i64 9)
abbrev gmt (n:Nat)(x:Src):GI:=⟨.mv x,some (n,true)⟩
abbrev lr (n:Nat)(x:Src):GI:=⟨.ld 1 false x,some (n,true)⟩
abbrev mL (n o:Nat)(x:Src):GI:=⟨.fa o x,some (n,true)⟩
abbrev bY (n:Nat)(x:aN):GI:=⟨x,some (n,true)⟩
abbrev eP (n:Nat)(x:Src):GI:=⟨.mv x,some (n,false)⟩
abbrev lF (n:Nat)(x:Src):GI:=⟨.ld 1 false x,some (n,false)⟩
abbrev j5 (n o:Nat)(x:Src):GI:=⟨.fa o x,some (n,false)⟩
abbrev cD (n:Nat)(x:aN):GI:=⟨x,some (n,false)⟩
abbrev sq (a b:AC):AC:=.seq a b
abbrev xx (x:Src):AC:=.seq (.reg false [⟨.mv x,none⟩] [(1,0)]) .ret
abbrev mI (c x:Src):AC:=.cond c (.seq (.reg false [⟨.mv x,none⟩] [(1,0)]) .ret) .skip
abbrev bQ:List (List Sh):=[[.a]]
abbrev ha2:List (List Sh):=[[.a,.a]]
abbrev zF:List (List Sh):=[[.a,.a,.a,.a,.a]]
abbrev R4:List (List Sh):=[[.a,.a,.a,.a,.a,.a,.a]]
abbrev fH:List (List Sh):=[[.a],[.a]]
abbrev R5:List (List Sh):=[[.a],[.a],[.a]]
abbrev hb4:List (List Sh):=[[.a],[.a],[.a],[.a]]
abbrev fE (c x:Src):GI:=⟨.pick c (.c (.bool true)) x,none⟩
abbrev eL (c x:Src):GI:=⟨.pick c x (.c (.bool false)),none⟩
abbrev Uy (n:Nat)(c x:Src):GI:=⟨.pick c (.c (.bool true)) x,some (n,true)⟩
abbrev gat (n:Nat)(c x:Src):GI:=⟨.pick c x (.c (.bool false)),some (n,true)⟩
abbrev BW (n:Nat)(c x:Src):GI:=⟨.pick c x (.c (.bool false)),some (n,false)⟩
abbrev aS (x y:Src):GI:=⟨.bin .lss x y,none⟩
abbrev aL (x y:Src):GI:=⟨.bin .eql x y,none⟩
abbrev aw (x y:Src):GI:=⟨.bin .add x y,none⟩
abbrev cZ (x y:Src):GI:=⟨.bin .gtr x y,none⟩
abbrev b7 (x y:Src):GI:=⟨.bin .neq x y,none⟩
abbrev DF (x y:Src):GI:=⟨.bin .leq x y,none⟩
abbrev fY (x y:Src):GI:=⟨.bin .geq x y,none⟩
abbrev ed (x y:Src):GI:=⟨.bin .sub x y,none⟩
abbrev Qb (x y:Src):GI:=⟨.bin .and x y,none⟩
abbrev JO (x y:Src):GI:=⟨.bin .or x y,none⟩
abbrev fB (c:Src)(n:Nat):AC:=.cond c .skip (.exit n)
abbrev i8 (n:Int):Src:=.c (.int .u8 n)
abbrev i3 (n:Int):Src:=.c (.int .i32 n)
abbrev iu (n:Int):Src:=.c (.int .u64 n)
abbrev pM (x:Src):GI:=⟨.lenS x,none⟩
abbrev jU (x:Src):GI:=⟨.un .not x,none⟩
abbrev HN (x y:Src):GI:=⟨.ixS x y,none⟩
abbrev r1 (x:List GI)(a b:Nat):AC:=.reg false x [(a,b)]
abbrev r2 (x:List GI)(a b:Nat):AC:=.reg true x [(a,b)]
abbrev gV:List Hh:=[⟨1,none⟩]
end Go.Abs
end
namespace Go.Abs
def ND:aF:=⟨2,7,[⟨2,none⟩],bQ,(sq (r1 [gm cse] 2 0) (sq (r1 [gm cse] 6 0) (sq (sq (r1 [gm bq] 3 0) (.block 0 (.loop (sq (sq (r1 [gm s3,gm s0,gl l1,aS l0 l2] 4 3) (fB s4 0)) (sq (.block 1 (sq (sq (r1 [gm s3,cZ l0 bq] 5 1) (.cond s5 (r1 [gm s6,gm s1,gn (.bsl 1 (.int .u8 0) 1 [(0,l1)]),gn (.b2s l2),aw l0 l3,gm l4] 6 5) .skip)) (r1 [gm s6,gm s0,gm s3,ga 1 l1 l2,gd l3,aw l0 l4,gm l5] 6 6))) (r1 [gm s3,aw l0 bX,gm l1] 3 2)))))) (sq (r1 [gm s6,gm l0] 2 1) .ret))))⟩
def w249 {Y:Ctx}(hm:(Y.at 0).bd)  (l:List au)(x:UInt8)  (hp0:(aP [x] l).length<=1099511627776):dj Y ND (.str (aP [x] l)) [.sl 1 (l.map D.str),.int .u8 (x.toNat:Nat)]:=by
 show bH _ _ _ [⟨_,_⟩,⟨_,_⟩,_,_,_,_,_] _;refine aq ?_;refine cW ?_;refine bh hm (ι:=Nat) (fun i=>[⟨true,.sl 1 (l.map D.str)⟩,⟨true,.int .u8 (x.toNat:Nat)⟩,.un,⟨true,.int .i64 (i:Nat)⟩,.un,.un,⟨true,.str (aP [x] (l.take i))⟩]) (fun i=>[]) 3 (fun i=>i<=l.length) (fun i=>l.length-i) 0 ae (dL []) ?_;intro i hi;refine aJ ?_;intro u0;refine az ?_;refine cI (fun hc0=>?_) fun hc0=>?_
 ·refine aE ?_;have hj:=si [x] l (i+1);refine aA ?_;refine av (fun hc1=>?_) (fun hc1=>?_)
  ·simp only[aW]at hc1;have ht:=p7 [x] l i ae;rw[ax ae]at ht;have htl:=ar List.length ht;simp only[bG,List.length_singleton]at htl;refine aA ?_;refine de [.int .u8 _] ?_;refine FW [x] (he:=fun _=>sQ.all ah rfl) (hs:=fun _=>rfl) ?_;refine c8 (hb:=fun _=>by simp only[List.length_singleton];omega) ?_;refine bM ?_;refine c8 (hb:=fun _=>by first|(simp only[bG,List.length_singleton];omega)|(subst hi0;simp only[List.take_zero,aP,aB]at htl⊢;omega)) ?_;refine cW ?_;exact⟨i+1,ae,ae,(aZ.to [] ah ah (by repeat(first|exact dA.nil|refine dA.un ?_|refine dA.eq ah ?_|refine dA.nl (ar D.str (by rw[ht])) ah ?_)) rC)⟩
  simp only[bD]at hc1;have ht:=p7 [x] l i ae;rw[aj ae]at ht;have htl:=ar List.length ht;simp only[bG,aB]at htl;have hi0:i=0:=ae;refine aY ?_;refine c8 (hb:=fun _=>by first|(simp only[bG,List.length_singleton];omega)|(subst hi0;simp only[List.take_zero,aP,aB]at htl⊢;omega)) ?_;refine cW ?_;exact⟨i+1,ae,ae,(aZ.to [] ah ah (by repeat(first|exact dA.nil|refine dA.un ?_|refine dA.eq ah ?_|refine dA.nl (ar D.str (by rw[ht];subst hi0;rfl)) ah ?_)) rC)⟩
 refine aY ?_;refine cT ?_;rw[ek ae]
def KR (T:List D->D->Prop):Prop:=∀(l:List au) (x:UInt8),((aP [x] l).length<=1099511627776)->T [.sl 1 (l.map D.str),.int .u8 (x.toNat:Nat)] (.str (aP [x] l))
def R8 (Y:Ctx):Prop:=KR (bt Y 249)
def Gg:aF:=⟨1,5,gV,bQ,(sq (r1 [gm dM] 1 0) (sq (sq (r1 [gm bX] 2 0) (.block 0 (.loop (sq (sq (r1 [gm s2,gm s0,gl l1,aS l0 l2] 3 3) (fB s3 0)) (sq (.block 1 (sq (r2 [gm s0,gm s2,ed l1 bX,ga 1 l0 l2,gd l3,gm s0,gm s2,ga 1 l5 l6,gd l7,fY l4 l8] 4 9) (mI s4 dM))) (r1 [gm s2,aw l0 bX,gm l1] 2 2)))))) (xx qx)))⟩
def w815 {Y:Ctx}(hm:(Y.at 0).bd)  (l:List au)   :dj Y Gg (.bool (rising l)) [.sl 1 (l.map D.str)]:=by
 show bH _ _ _ [⟨_,_⟩,_,_,_,_] _;refine aq ?_;refine aH ?_;refine bh hm (ι:=Nat) (fun i=>[⟨true,.sl 1 (l.map D.str)⟩,.un,⟨true,.int .i64 (i:Nat)⟩,.un,.un]) (fun i=>[]) 2 (fun i=>1<=i/\(i<=l.length\/i=1)/\rising l=cV (fun i=>Op.bytesLess l[i-1]! l[i]!) i l.length) (fun i=>l.length-i) 1 ⟨ae,ae,rfl⟩ (dL []) ?_;rintro i ⟨h1,hi,hr⟩;refine aJ ?_;intro u0;refine az ?_;refine cI (fun hc0=>?_) fun hc0=>?_
 ·refine aH ?_;refine ca (i-1) ?_;refine aY ?_;refine wp_cond (fun hc1=>?_) (fun hc1=>?_)
  ·simp only[bE]at hc1;refine aH ?_;refine bS ?_;rw[hr,aV ae,hc1];rfl
  simp only[b6]at hc1;refine bM ?_;exact⟨i+1,⟨ae,ae,by rw[hr,aV ae,hc1];rfl⟩,ae,(dL [])⟩
 refine aH ?_;refine bS ?_;rw[hr,cr ae]
def yW (T:List D->D->Prop):Prop:=∀(l:List au),T [.sl 1 (l.map D.str)] (.bool (rising l))
def Vy (Y:Ctx):Prop:=yW (bt Y 815)
def Bc:aF:=⟨1,5,gV,bQ,(sq (r1 [gm dM] 1 0) (sq (sq (r1 [gm bX] 2 0) (.block 0 (.loop (sq (sq (r1 [gm s2,gm s0,gl l1,aS l0 l2] 3 3) (fB s3 0)) (sq (.block 1 (sq (r2 [gm s0,gm s2,ed l1 bX,ga 1 l0 l2,gd l3,gm s0,gm s2,ga 1 l5 l6,gd l7,fY l4 l8] 4 9) (mI s4 dM))) (r1 [gm s2,aw l0 bX,gm l1] 2 2)))))) (xx qx)))⟩
def w447 {Y:Ctx}(hm:(Y.at 0).bd)  (l:List au)   :dj Y Bc (.bool (rising l)) [.sl 1 (l.map D.str)]:=by
 show bH _ _ _ [⟨_,_⟩,_,_,_,_] _;refine aq ?_;refine aH ?_;refine bh hm (ι:=Nat) (fun i=>[⟨true,.sl 1 (l.map D.str)⟩,.un,⟨true,.int .i64 (i:Nat)⟩,.un,.un]) (fun i=>[]) 2 (fun i=>1<=i/\(i<=l.length\/i=1)/\rising l=cV (fun i=>Op.bytesLess l[i-1]! l[i]!) i l.length) (fun i=>l.length-i) 1 ⟨ae,ae,rfl⟩ (dL []) ?_;rintro i ⟨h1,hi,hr⟩;refine aJ ?_;intro u0;refine az ?_;refine cI (fun hc0=>?_) fun hc0=>?_
 ·refine aH ?_;refine ca (i-1) ?_;refine aY ?_;refine wp_cond (fun hc1=>?_) (fun hc1=>?_)
  ·simp only[bE]at hc1;refine aH ?_;refine bS ?_;rw[hr,aV ae,hc1];rfl
  simp only[b6]at hc1;refine bM ?_;exact⟨i+1,⟨ae,ae,by rw[hr,aV ae,hc1];rfl⟩,ae,(dL [])⟩
 refine aH ?_;refine bS ?_;rw[hr,cr ae]
def X8 (Y:Ctx):Prop:=yW (bt Y 447)
def HU:aF:=⟨1,8,gV,bQ,(sq (r1 [gm dM] 1 0) (sq (sq (r1 [gm s0,aL l0 cse,gm l1,eP 2 s0,cD 2 (.lenS l3),cD 2 (et l4 (i6 12)),fE l2 l5] 2 6) (mI s2 dM)) (sq (sq (r1 [gm s0,gn (.ui l0)] 3 1) (.block 0 (.loop (sq (rg [gn (.A5 s3),ge l0 0] [(5,0),(4,1)]) (sq (fB s4 0) (.block 1 (sq (r1 [ge s5 2,gm l0] 6 1) (.block 2 (sq (sq (r1 [gm s6,fY l0 (i3 97),gm l1,gmt 2 s6,bY 2 (mX l3 (i3 122)),eL l2 l4,gm l5] 7 6) (.cond s7 .skip (sq (r1 [gm s6,fY l0 (i3 48),gm l1,gmt 2 s6,bY 2 (mX l3 (i3 57)),eL l2 l4,gm l5] 7 6) (.cond s7 .skip (r1 [gm s6,aL l0 (i3 95),gm l1] 7 2))))) (.cond s7 .skip (xx dM))))))))))) (xx qx))))⟩
def w349 {Y:Ctx}(hm:(Y.at 0).bd)  (s:au)   :dj Y HU (.bool (cG s)) [.str s]:=by
 show bH _ _ _ [⟨_,_⟩,_,_,_,_,_,_,_] _;refine aq ?_;refine bM ?_;refine ll ?_;refine aA ?_;refine cI (fun hc0=>?_) fun hc0=>?_
 ·refine aJ ?_;refine bS ?_;symm;simp only[cG,dT,bD];rcases hc0 with h|h
  ·subst h;exact Or.inl (Or.inl aT)
  ·exact Or.inl ae
 refine aH ?_;have hP:cG s=cV (fun i=>yo (at8 s i)) 0 s.length:=by
  have:=List.length_pos_iff.2 hc0.1;simp only[cG];rw[cz ae,cz ae];rfl
 refine bh hm (ι:=Nat) (fun i=>[⟨true,.str s⟩,.un,.un,⟨true,.it 9⟩,.un,.un,.un,.un]) (fun i=>[(9,.iter s i)]) 10 (fun i=>i<=s.length/\cG s=cV (fun i=>yo (at8 s i)) i s.length) (fun i=>s.length-i) 0 ⟨ae,hP⟩ (dL [(9,9)]) ?_;rintro i ⟨hi,hr⟩;refine aD ?_;by_cases hnx:i<s.length
 ·obtain⟨c,w,hdec,hw,hcw⟩:=uz s i hnx;refine DV c w (hp:=hnx) (hc:=hdec) ?_;refine az ?_;refine av (t:=true) (fun _=>?_) (fun h=>by cases h);refine A2 ?_;refine cI (fun hc2=>?_) fun hc2=>?_
  ·refine aD ?_;refine fA (fun hc4=>?_) fun hc4=>?_
   ·refine aE ?_;obtain⟨rfl,hat,-⟩:w=1/\(c:Int)=at8 s i/\c<128:=by
     rcases hcw with h|h
     ·exact h
     ·omega
    have hz:yo (at8 s i)=true:=by
     simp only[yo,ij,bm,dh,bw,aW];omega
    exact⟨i+1,⟨ae,by rw[hr,aV hnx,hz];rfl⟩,ae,(dL [(9,9)])⟩
   refine aY ?_;refine bS ?_;first
    |(exfalso;omega)
    |(rw[hr,cr ae];done)
    |(
     have hz:yo (at8 s i)=false:=by
      rcases hcw with⟨_,h,_⟩|⟨_,h⟩<;>(simp only[yo,ij,bm,dW,dT,bD];omega)
     rw[hr,aV hnx,hz];rfl)
  refine hX ?_;refine cI (fun hc3=>?_) fun hc3=>?_
  ·refine aD ?_;refine fA (fun hc4=>?_) fun hc4=>?_
   ·refine aE ?_;obtain⟨rfl,hat,-⟩:w=1/\(c:Int)=at8 s i/\c<128:=by
     rcases hcw with h|h
     ·exact h
     ·omega
    have hz:yo (at8 s i)=true:=by
     simp only[yo,ij,bm,dh,bw,aW];omega
    exact⟨i+1,⟨ae,by rw[hr,aV hnx,hz];rfl⟩,ae,(dL [(9,9)])⟩
   refine aY ?_;refine bS ?_;first
    |(exfalso;omega)
    |(rw[hr,cr ae];done)
    |(
     have hz:yo (at8 s i)=false:=by
      rcases hcw with⟨_,h,_⟩|⟨_,h⟩<;>(simp only[yo,ij,bm,dW,dT,bD];omega)
     rw[hr,aV hnx,hz];rfl)
  refine aJ ?_;refine fA (fun hc4=>?_) fun hc4=>?_
  ·refine aE ?_;obtain⟨rfl,hat,-⟩:w=1/\(c:Int)=at8 s i/\c<128:=by
    rcases hcw with h|h
    ·exact h
    ·omega
   have hz:yo (at8 s i)=true:=by
    simp only[yo,ij,bm,dh,bw,aW];omega
   exact⟨i+1,⟨ae,by rw[hr,aV hnx,hz];rfl⟩,ae,(dL [(9,9)])⟩
  refine aY ?_;refine bS ?_;first
   |(exfalso;omega)
   |(rw[hr,cr ae];done)
   |(
    have hz:yo (at8 s i)=false:=by
     rcases hcw with⟨_,h,_⟩|⟨_,h⟩<;>(simp only[yo,ij,bm,dW,dT,bD];omega)
    rw[hr,aV hnx,hz];rfl)
 ·refine DU (hp:=hnx) ?_;refine az ?_;refine av (t:=false) (fun h=>by cases h) (fun _=>?_);refine aH ?_;refine bS ?_;first
   |(exfalso;omega)
   |(rw[hr,cr ae];done)
   |(
    have hz:yo (at8 s i)=false:=by
     rcases hcw with⟨_,h,_⟩|⟨_,h⟩<;>(simp only[yo,ij,bm,dW,dT,bD];omega)
    rw[hr,aV hnx,hz];rfl)
def yx (T:List D->D->Prop):Prop:=∀(s:au),T [.str s] (.bool (cG s))
def Hl (Y:Ctx):Prop:=yx (bt Y 349)
def HT:aF:=⟨1,13,gV,bQ,(sq (r1 [gm dM] 1 0) (sq (sq (r1 [gm s0,aL l0 cse,gm l1,eP 2 s0,cD 2 (.lenS l3),cD 2 (et l4 (i6 16)),fE l2 l5] 2 6) (mI s2 dM)) (sq (sq (r1 [gm s0,gn (.ui l0)] 3 1) (.block 0 (.loop (sq (rg [gn (.A5 s3),ge l0 0] [(5,0),(4,1)]) (sq (fB s4 0) (.block 1 (sq (rg [ge s5 1,ge s5 2,gm l0,gm l1] [(9,2),(6,3)]) (.block 2 (sq (r1 [gm s6,fY l0 (i3 97),gm l1,gmt 2 s6,bY 2 (mX l3 (i3 122)),eL l2 l4,gm l5] 7 6) (.cond s7 .skip (sq (r1 [gm s6,fY l0 (i3 48),gm l1,gmt 2 s6,bY 2 (mX l3 (i3 57)),eL l2 l4,gm l5] 8 6) (.cond s8 (sq (r1 [gm s9,aL l0 bq] 10 1) (mI jf dM)) (sq (r1 [gm s6,aL l0 (i3 45),gm l1] 11 2) (.cond k9 (sq (r1 [gm s9,aL l0 bq,gm l1,eP 2 s9,eP 2 s0,cD 2 (.lenS l4),cD 2 (ku l5 bX),cD 2 (cQ l3 l6),fE l2 l7,gm l8,eP 9 s0,eP 9 s9,cD 9 (ku gH bX),cD 9 (.ixS l10 jm),cD 9 (cQ jV (i8 45)),fE l9 lg] 12 15) (mI lv dM)) (xx dM))))))))))))))) (xx qx))))⟩
def w208 {Y:Ctx}(hm:(Y.at 0).bd)  (s:au)   :dj Y HT (.bool (dJ s)) [.str s]:=by
 show bH _ _ _ [⟨_,_⟩,_,_,_,_,_,_,_,_,_,_,_,_] _;refine aq ?_;refine bM ?_;refine ll ?_;refine aA ?_;refine cI (fun hc0=>?_) fun hc0=>?_
 ·refine aJ ?_;refine bS ?_;symm;simp only[dJ];rcases hc0 with h|h
  ·subst h;simp
  ·rw[dk (by omega:¬s.length<=16)];simp
 refine aH ?_;have h0:=List.length_pos_iff.2 hc0.1;have hP:=To s ae ae;refine bh hm (ι:=Nat) (fun i=>[⟨true,.str s⟩,.un,.un,⟨true,.it 9⟩,.un,.un,.un,.un,.un,.un,.un,.un,.un]) (fun i=>[(9,.iter s i)]) 10 (fun i=>i<=s.length/\dJ s=cV (oQ s) i s.length) (fun i=>s.length-i) 0 ⟨ae,hP⟩ (dL [(9,9)]) ?_;rintro i ⟨hi,hr⟩;refine aD ?_;by_cases hnx:i<s.length
 ·obtain⟨c,w,hdec,hw,hcw⟩:=uz s i hnx;refine DV c w (hp:=hnx) (hc:=hdec) ?_;refine az ?_;refine av (t:=true) (fun _=>?_) (fun h=>by cases h);refine UT ?_;refine fA (fun hc2=>?_) fun hc2=>?_
  ·refine aE ?_;obtain⟨rfl,hat,-⟩:w=1/\(c:Int)=at8 s i/\c<128:=by
    rcases hcw with h|h
    ·exact h
    ·omega
   have hz:oQ s i=true:=by
    simp only[oQ,ij,bm,dh,bw,bE,aW,bD];omega
   exact⟨i+1,⟨ae,by rw[hr,aV hnx,hz];rfl⟩,ae,(dL [(9,9)])⟩
  refine cW ?_;refine fA (fun hc3=>?_) fun hc3=>?_
  ·refine aE ?_;refine fA (fun hc4=>?_) fun hc4=>?_
   ·refine aY ?_;refine bS ?_;first
     |(exfalso;omega)
     |(rw[hr,cr ae];done)
     |(have hz:oQ s i=false:=by
        rcases hcw with⟨_,h,_⟩|⟨_,h⟩<;>(simp only[oQ,ij,bm,dW,dT,b6,aW,bD];omega)
       rw[hr,aV hnx,hz];rfl)
   refine aE ?_;obtain⟨rfl,hat,-⟩:w=1/\(c:Int)=at8 s i/\c<128:=by
    rcases hcw with h|h
    ·exact h
    ·omega
   have hz:oQ s i=true:=by
    simp only[oQ,ij,bm,dh,bw,bE,aW,bD];omega
   exact⟨i+1,⟨ae,by rw[hr,aV hnx,hz];rfl⟩,ae,(dL [(9,9)])⟩
  refine aJ ?_;refine fA (fun hc5=>?_) fun hc5=>?_
  ·refine aH ?_;refine ll ?_;refine aY ?_;refine oB (i-1) ?_;refine aA ?_;refine fA (fun hc6=>?_) fun hc6=>?_
   ·refine aY ?_;refine bS ?_;first
     |(exfalso;omega)
     |(rw[hr,cr ae];done)
     |(have hz:oQ s i=false:=by
        rcases hcw with⟨_,h,_⟩|⟨_,h⟩<;>(simp only[oQ,ij,bm,dW,dT,b6,aW,bD];omega)
       rw[hr,aV hnx,hz];rfl)
   refine aE ?_;obtain⟨rfl,hat,-⟩:w=1/\(c:Int)=at8 s i/\c<128:=by
    rcases hcw with h|h
    ·exact h
    ·omega
   have hz:oQ s i=true:=by
    simp only[oQ,ij,bm,dh,bw,bE,aW,bD];omega
   exact⟨i+1,⟨ae,by rw[hr,aV hnx,hz];rfl⟩,ae,(dL [(9,9)])⟩
  refine aY ?_;refine bS ?_;first
   |(exfalso;omega)
   |(rw[hr,cr ae];done)
   |(have hz:oQ s i=false:=by
      rcases hcw with⟨_,h,_⟩|⟨_,h⟩<;>(simp only[oQ,ij,bm,dW,dT,b6,aW,bD];omega)
     rw[hr,aV hnx,hz];rfl)
 ·refine DU (hp:=hnx) ?_;refine az ?_;refine av (t:=false) (fun h=>by cases h) (fun _=>?_);refine aH ?_;refine bS ?_;first
   |(exfalso;omega)
   |(rw[hr,cr ae];done)
   |(have hz:oQ s i=false:=by
      rcases hcw with⟨_,h,_⟩|⟨_,h⟩<;>(simp only[oQ,ij,bm,dW,dT,b6,aW,bD];omega)
     rw[hr,aV hnx,hz];rfl)
def yp (T:List D->D->Prop):Prop:=∀(s:au),T [.str s] (.bool (dJ s))
def LW (Y:Ctx):Prop:=yp (bt Y 208)
def Dx:aF:=⟨1,10,[⟨1,none⟩,⟨2,none⟩],fH,(sq (rg [gm bq,gm dM] [(1,0),(2,1)]) (sq (sq (r1 [gm s0,aL l0 cse,gm l1,eP 2 s0,cD 2 (.lenS l3),cD 2 (et l4 sg),fE l2 l5,gm l6,eP 7 s0,cD 7 (.ixS l8 bq),cD 7 (cQ l9 (i8 48)),eP 7 l10,gmt 11 s0,bY 11 (.lenS jm),bY 11 (et jV bX),BW 7 gH lg,fE l7 mM] 3 16) (.cond s3 (sq (rg [gm bq,gm dM] [(1,0),(2,1)]) .ret) .skip)) (sq (r1 [gm bq] 9 0) (sq (sq (r1 [gm s0,gn (.ui l0)] 4 1) (.block 0 (.loop (sq (rg [gn (.A5 s4),ge l0 0] [(6,0),(5,1)]) (sq (fB s5 0) (.block 1 (sq (r1 [ge s6 2,gm l0] 7 1) (.block 2 (sq (r1 [gm s7,fY l0 (i3 48),gm l1,gmt 2 s7,bY 2 (mX l3 (i3 57)),eL l2 l4,gm l5] 8 6) (.cond s8 (r1 [gm s9,gn (.bin .mul (i6 10) l0),gm s7,ed l2 (i3 48),gn (.cvi .i64 l3),aw l1 l4,gm l5] 9 6) (sq (rg [gm bq,gm dM] [(1,0),(2,1)]) .ret))))))))))) (sq (rg [gm s9,gm s9,DF l1 (i6 9999),gm l0,gm l2] [(1,3),(2,4)]) .ret)))))⟩
def w658 {Y:Ctx}(hm:(Y.at 0).bd)  (s:au)   :dj Y Dx (.tup [.int .i64 (eV s),.bool (gW s)]) [.str s]:=by
 show bH _ _ _ [⟨_,_⟩,_,_,_,_,_,_,_,_,_] _;refine aq ?_;refine cW ?_;refine ll ?_;refine aE ?_;refine oB 0 (hb:=fun h=>by simp at h;exact List.length_pos_iff.2 h.1) ?_;refine aA ?_;refine ll ?_;refine aE ?_;refine cI (fun hc0=>?_) fun hc0=>?_
 ·refine aH ?_;refine bL (aM (ar (D.int .i64) ?_) (ar D.bool ?_));all_goals
   have:gW s=false:=by
    rw[DG];rcases hc0 with(h|h)|h
    ·subst h;simp
    ·rw[dk (by omega:¬s.length<=4)];simp
    ·rw[cz (by omega:1<s.length),cz h.1];simp
   simp[eV,this]
 refine cW ?_;have h0:=List.length_pos_iff.2 hc0.1.1;have hP:gW s=cV (fun i=>bm (at8 s i)) 0 s.length:=by
  rw[DG,cz (by omega:1<=s.length),cz (by omega:s.length<=4)];rcases hc0.2 with h|h
  ·rw[dk h,Bool.and_false];rfl
  ·rw[dk (by omega:¬1<s.length)];rfl
 refine bh hm (ι:=Nat) (fun i=>[⟨true,.str s⟩,.un,.un,.un,⟨true,.it 21⟩,.un,.un,.un,.un,⟨true,.int .i64 (ee (s.take i):Nat)⟩]) (fun i=>[(21,.iter s i)]) 22 (fun i=>i<=s.length/\s.length<=4/\gW s=cV (fun i=>bm (at8 s i)) i s.length) (fun i=>s.length-i) 0 ⟨ae,ae,hP⟩ (dL [(21,21)]) ?_;rintro i ⟨hi,h9,hr⟩;refine aD ?_;by_cases hnx:i<s.length
 ·obtain⟨c,w,hdec,hw,hcw⟩:=uz s i hnx;refine DV c w (hp:=hnx) (hc:=hdec) ?_;refine az ?_;refine av (t:=true) (fun _=>?_) (fun h=>by cases h);refine A1 ?_;refine fA (fun hc2=>?_) fun hc2=>?_
  ·refine aD ?_;obtain⟨rfl,hat,-⟩:w=1/\(c:Int)=at8 s i/\c<128:=by
    rcases hcw with h|h
    ·exact h
    ·omega
   have hn:=uR s i ae;have hn2:=w9 s i ae;have h256:=vu s i;refine aD ?_;refine oC ?_;refine aD ?_;refine tP ((c:Int) -48) (hb:=fun _=>IntWalk.i32_in _ ae) ?_;refine oA ((c:Int) -48) (hb:=fun _=>IntWalk.i64_in _ ae) ?_;refine aA ?_;rw[show 10*(ee (s.take i):Int)+((c:Int) -48)=(ee (s.take (i+1)):Nat)by omega];refine aA ?_;have hz:bm (at8 s i)=true:=by
    simp only[bm,bw,aW];omega
   exact⟨i+1,⟨ae,h9,by rw[hr,aV ae,hz];rfl⟩,ae,(dL [(21,21)])⟩
  refine bM ?_;refine bL (aM (ar (D.int .i64) ?_) (ar D.bool ?_));all_goals
   have hz:bm (at8 s i)=false:=by
    rcases hcw with⟨_,h,_⟩|⟨_,h⟩<;>(simp only[bm,dT,bD];omega)
   have:gW s=false:=by rw[hr,aV ae,hz];rfl
   simp[eV,this]
 ·refine DU (hp:=hnx) ?_;refine az ?_;refine av (t:=false) (fun h=>by cases h) (fun _=>?_);refine hX ?_;refine bL (aM (ar (D.int .i64) ?_) (ar D.bool ?_));all_goals
   have this:gW s=true:=by rw[hr,cr ae]
   have ht:s.take i=s:=ek ae;have h9:=this;simp only[gW,bw,aW]at h9;have h99:=h9.2;rw[ht];first
   |(simp only[eV,this];rfl)
   |(rw[this,aW];omega)
def yL (T:List D->D->Prop):Prop:=∀(s:au),T [.str s] (.tup [.int .i64 (eV s),.bool (gW s)])
def OE (Y:Ctx):Prop:=yL (bt Y 658)
def Dc:aF:=⟨1,3,gV,bQ,(sq (r1 [gm (i8 0)] 1 0) (sq (sq (r1 [gm s0,aS l0 (i8 10)] 2 1) (.cond s2 (sq (r1 [gm s0,aw (i8 48) l0,gm l1] 1 2) .ret) .skip)) (sq (r1 [gm s0,aw (i8 97) l0,ed l1 (i8 10),gm l2] 1 3) .ret)))⟩
def w686 {Y:Ctx}(hm:(Y.at 0).bd)  (k:Nat)  (hp0:k<16):dj Y Dc (.int .u8 ((iG k).toNat:Nat)) [.int .u8 (k:Nat)]:=by
 show bH _ _ _ [⟨_,_⟩,_,_] _;refine aq ?_;refine aJ ?_;first|refine Q6 ?_|refine Q7 ?_
 refine aD ?_;refine cI (fun hc0=>?_) fun hc0=>?_
 ·refine aA ?_;refine An (48+(k:Int)) (hb:=fun _=>IntWalk.u8_in _ ae) ?_;refine aA ?_;refine bL (ar (D.int .u8) ?_);exact(S9 k ae).symm
 refine aA ?_;refine An (97+(k:Int)) (hb:=fun _=>IntWalk.u8_in _ ae) ?_;refine tP (87+(k:Int)) (hb:=fun _=>by rw[show 97+(k:Int) -10=87+k by omega];exact IntWalk.u8_in _ ae) ?_;refine aA ?_;refine bL (ar (D.int .u8) ?_);exact(S6 k ae hp0).symm
def LB (T:List D->D->Prop):Prop:=∀(k:Nat),(k<16)->T [.int .u8 (k:Nat)] (.int .u8 ((iG k).toNat:Nat))
def YL (Y:Ctx):Prop:=LB (bt Y 686)
def EX:aF:=⟨1,7,gV,bQ,(sq (r1 [gm cse] 1 0) (sq (r1 [gn (.mks 1 (.int .u8 0) (i6 16) (i6 16)),gm l0] 2 1) (sq (sq (rg [gm s2,gl l0,gm bq] [(4,1),(3,2)]) (.block 0 (.loop (sq (r1 [aS s3 s4] 5 0) (sq (fB s5 0) (sq (.block 1 (sq (r1 [gm s3,gm l0] 6 1) (rg [gm s2,gm s6,ed (i6 15) l1,gm s0,gm s6,gn (.bin .mul sg l4),gn (.bin .shr l3 l5),Qb l6 (iu 15),gn (.cvi .u8 l7),gx 686 [l8] bQ,ga 1 l0 l2,gt 1 l10 l9] []))) (r1 [aw s3 bX,gm l0] 3 1))))))) (sq (r1 [gm s2,gn (.b2s l0),gm l1] 1 2) .ret))))⟩
def w497 {Y:Ctx}(hm:(Y.at 0).bd)(h686:YL Y)(n:Int)   :dj Y EX (.str (ei n)) [.int .u64 n]:=by
 show bH _ _ _ [⟨_,_⟩,_,_,_,_,_,_] _;refine aq ?_;refine aA ?_;refine UM _ ?_;refine aH ?_;intro u0;refine az ?_;refine bh hm (ι:=Nat) (fun i=>[⟨true,.int .u64 n⟩,.un,⟨true,.own 1 1 0 16⟩,⟨true,.int .i64 (i:Nat)⟩,⟨true,.int .i64 (16:Nat)⟩,.un,.un]) (fun i=>[(1,.buf 1 ((va n i).map fun b=>D.int .u8 b.toNat))]) 6 (fun i=>i<=16) (fun i=>16-i) 0 ae (dL [(1,1)]) ?_;intro i hi;have hlen:=sB n i;refine aA ?_;refine cI (fun hc0=>?_) fun hc0=>?_
 ·refine gG ?_;refine oC ?_;refine uS (sY n (4*i)) (hb:=fun _=>by rw[show min (Int.toNat (4*(i:Int))) (IntKind.bits .u64)=4*i by simp[IntKind.bits];omega];rfl) ?_;refine wh ((JS n i:Nat):Int) (hb:=fun _=>Qg n i) ?_;have hnib:=zV n i;refine oA ((JS n i:Nat):Int) (hb:=fun _=>IntWalk.u8_in _ ae) ?_;refine ai (hc:=h686 (JS n i) hnib) ?_;refine jJ (15-i) ?_;refine Ar ((va n (i+1)).map fun b=>D.int .u8 b.toNat) (hi:=cH) (he:=by rw[Ob n i ae,getD_map ae];simp[tZ,D.isAgg]) ?_;refine aY ?_;exact⟨i+1,ae,ae,(dL [(1,1)])⟩
 refine aA ?_;have h16:i=16:=ae;subst h16;refine aD ?_;refine FW (ei n) (he:=fun _=>sQ.all ah (by simp[sB])) (hs:=fun _=>by rw[Oa]) ?_;refine aA ?_;exact cT rfl
def Ln (T:List D->D->Prop):Prop:=∀(n:Int),T [.int .u64 n] (.str (ei n))
def Yr (Y:Ctx):Prop:=Ln (bt Y 497)
def Fk:aF:=⟨2,10,[⟨2,none⟩],[[.sl 1 [.a]]],(sq (r1 [gm (.c (.aC))] 2 0) (sq (r1 [gm (.c (.aC))] 8 0) (sq (r1 [gm bq] 9 0) (sq (sq (rg [gm s0,pM l0,gm bq] [(4,1),(3,2)]) (.block 0 (.loop (sq (r1 [aS s3 s4] 5 0) (sq (fB s5 0) (sq (.block 1 (sq (r1 [gm s3,gm l0] 6 1) (sq (r1 [gm s0,gm s6,HN l0 l1,gm s1,aL l2 l3] 7 4) (.cond s7 (sq (r1 [gm s8,gm s0,gm s9,gm s6,gn (.slS l1 (some l2) (some l3)),gn (.bsl 1 (.str []) 1 [(0,l4)]),gn (.app 1 l0 l5),gm l6] 8 7) (r1 [gm s6,aw l0 bX,gm l1] 9 2)) .skip)))) (r1 [aw s3 bX,gm l0] 3 1))))))) (sq (r1 [gm s8,gm s0,gm s9,gn (.slS l1 (some l2) none),gn (.bsl 1 (.str []) 1 [(0,l3)]),gn (.app 1 l0 l4),gm l5] 2 6) .ret)))))⟩
def w533 {Y:Ctx}(hm:(Y.at 0).bd)  (s:au)(b:Int)  (hp0:s.length<=1048576):dj Y Fk (.sl 1 ((ak s b).map D.str)) [.str s,.int .u8 b]:=by
 show bH _ _ _ [⟨_,_⟩,⟨_,_⟩,_,_,_,_,_,_,_,_] _;refine aq ?_;refine gG ?_;intro u0;refine az ?_;refine bh hm (ι:=(Nat×Nat×List au)) (fun p:Nat×Nat×List au=>[⟨true,.str s⟩,⟨true,.int .u8 b⟩,.un,⟨true,.int .i64 (p.1:Nat)⟩,⟨true,.int .i64 (s.length:Nat)⟩,.un,.un,.un,⟨true,.own 0 1 0 p.2.2.length⟩,⟨true,.int .i64 (p.2.1:Nat)⟩]) (fun p=>[(0,.buf 1 (p.2.2.map D.str))]) 6 (fun p=>p.1<=s.length/\p.2.1<=p.1/\p.2.2.length<=p.1/\ak s b=p.2.2++cj b (s.drop p.1) ((s.take p.1).drop p.2.1)) (fun p=>s.length-p.1) (0,0,[]) ⟨aT,aT,aT,rfl⟩ (aZ.to [] ah ah (by repeat(first|exact dA.nil|refine dA.un ?_|refine dA.eq ah ?_|refine dA.nl ah ah ?_|refine dA.ni (Or.inr ⟨0,1,0,rfl⟩) ?_)) (by repeat(first|exact aO.nil|refine aO.mt ah ah ah ah ?_))) ?_;rintro⟨i,fr,acc⟩ ⟨hi,hf,ha,hr⟩;dsimp only at hi hf ha hr⊢;refine aA ?_;refine cI (fun hc0=>?_) fun hc0=>?_
 ·refine na ?_;refine wp_cond (fun hc1=>?_) (fun hc1=>?_)
  ·try simp only[eE]at hc1
   refine aJ ?_;refine Aq _ _ ?_;refine de [(.str _)] ?_;refine AZ ?_;exact⟨(i+1,i+1,acc++[(s.take i).drop fr]),⟨dN,dN,cH,by rw[hr,Cz ae hc1];simp⟩,dN,(aZ.to [(20,0)] ah ah n4 (by refine aO.nl 20 ah ah ah ch ?_;exact aO.nil))⟩
  simp only[bD]at hc1;refine aY ?_;exact⟨(i+1,fr,acc),⟨dN,dN,dN,by rw[hr,CA ae ae hc1]⟩,dN,(aZ.to [(0,0)] ah ah n4 (by refine aO.nl 0 ah ah ah ch ?_;exact aO.nil))⟩
 refine aH ?_;refine jd _ ?_;refine de [(.str _)] ?_;refine aA ?_;refine ff 12 ?_;refine aD ?_;refine bL (?_);have hs:ak s b=acc++[s.drop fr]:=by rw[hr,AJ ae]
 rw[hs];exact rfl
def yI (T:List D->D->Prop):Prop:=∀(s:au) (b:Int),(s.length<=1048576)->T [.str s,.int .u8 b] (.sl 1 ((ak s b).map D.str))
def L0 (Y:Ctx):Prop:=yI (bt Y 533)
def xM:aF:=⟨1,7,gV,bQ,(sq (r1 [gm dM] 1 0) (sq (sq (rg [gm s0,pM l0,gm bq] [(3,1),(2,2)]) (.block 0 (.loop (sq (r1 [aS s2 s3] 4 0) (sq (fB s4 0) (sq (.block 1 (sq (r1 [gm s2,gm l0] 5 1) (sq (r1 [gm s0,gm s5,HN l0 l1,aS l2 (i8 48),gm l3,eP 4 s0,eP 4 s5,cD 4 (.ixS l5 l6),cD 4 (et l7 (i8 57)),fE l4 l8] 6 9) (mI s6 dM)))) (r1 [aw s2 bX,gm l0] 2 1))))))) (sq (r1 [gm s0,b7 l0 cse,gm l1] 1 2) .ret)))⟩
def w659 {Y:Ctx}(hm:(Y.at 0).bd)  (t:au)   :dj Y xM (.bool (cR t)) [.str t]:=by
 show bH _ _ _ [⟨_,_⟩,_,_,_,_,_,_] _;refine aq ?_;refine aH ?_;intro u0;refine az ?_;refine bh hm (ι:=Nat) (fun i=>[⟨true,.str t⟩,.un,⟨true,.int .i64 (i:Nat)⟩,⟨true,.int .i64 (t.length:Nat)⟩,.un,.un,.un]) (fun i=>[]) 4 (fun i=>i<=t.length/\cV (fun i=>bm (at8 t i)) 0 t.length=cV (fun i=>bm (at8 t i)) i t.length) (fun i=>t.length-i) 0 ⟨ae,rfl⟩ (dL []) ?_;rintro i ⟨hi,hr⟩;refine aA ?_;refine cI (fun hc0=>?_) fun hc0=>?_
 ·refine UT ?_;refine fA (fun hc1=>?_) fun hc1=>?_
  ·refine aH ?_;refine bS ?_;simp only[cR];rw[hr,aV ae];rcases hc1 with h|h<;>simp[bm]<;>omega
  refine aY ?_;exact⟨i+1,⟨ae,by rw[hr,aV ae];rw[show bm (at8 t i)=true by simp only[bm,bw,aW];omega];rfl⟩,ae,(dL [])⟩
 refine bM ?_;refine bS ?_;simp only[cR];rw[hr,cr ae];cases t<;>simp
def yM (T:List D->D->Prop):Prop:=∀(t:au),T [.str t] (.bool (cR t))
def Vl (Y:Ctx):Prop:=yM (bt Y 659)
def El:aF:=⟨1,2,gV,bQ,(sq (r1 [gm dM] 1 0) (sq (r1 [gm s0,fY l0 bq,gm l1,gmt 2 s0,bY 2 (mX l3 (i6 9999)),eL l2 l4,gm l5] 1 6) .ret))⟩
def w440 {Y:Ctx}(hm:(Y.at 0).bd)  (n:Int)   :dj Y El (.bool (pW n)) [.int .i64 n]:=by
 show bH _ _ _ [⟨_,_⟩,_] _;refine aq ?_;refine gG ?_;exact bS rfl
def yz (T:List D->D->Prop):Prop:=∀(n:Int),T [.int .i64 n] (.bool (pW n))
def X2 (Y:Ctx):Prop:=yz (bt Y 440)
def AR:aF:=⟨2,9,[⟨2,none⟩,⟨3,none⟩],fH,(sq (rg [gm cse,gm cse] [(2,0),(3,1)]) (sq (sq (rg [gm s0,pM l0,gm bq] [(5,1),(4,2)]) (.block 0 (.loop (sq (r1 [aS s4 s5] 6 0) (sq (fB s6 0) (sq (.block 1 (sq (r1 [gm s4,gm l0] 7 1) (sq (r1 [gm s0,gm s7,HN l0 l1,gm s1,aL l2 l3] 8 4) (.cond s8 (sq (rt [gm s0,gm s7,aw l1 bX,gn (.slS l0 (some l2) none),gm s0,gm s7,gn (.slS l4 none (some l5)),gm l3,gm l6] [(2,7),(3,8)]) .ret) .skip)))) (r1 [aw s4 bX,gm l0] 4 1))))))) (sq (rg [gm s0,gm cse,gm l0] [(2,1),(3,2)]) .ret)))⟩
def w675 {Y:Ctx}(hm:(Y.at 0).bd)  (s:au)(b:Int)   :dj Y AR (.tup [.str (e7 s b).1,.str (e7 s b).2]) [.str s,.int .u8 b]:=by
 show bH _ _ _ [⟨_,_⟩,⟨_,_⟩,_,_,_,_,_,_,_] _;refine aq ?_;refine aY ?_;intro u0;refine az ?_;refine bh hm (ι:=Nat) (fun i=>[⟨true,.str s⟩,⟨true,.int .u8 b⟩,.un,.un,⟨true,.int .i64 (i:Nat)⟩,⟨true,.int .i64 (s.length:Nat)⟩,.un,.un,.un]) (fun i=>[]) 5 (fun i=>i<=s.length/\e7 s b=jM s b i) (fun i=>s.length-i) 0 ⟨ae,rfl⟩ (dL []) ?_;rintro i ⟨hi,hr⟩;refine aA ?_;refine cI (fun hc0=>?_) fun hc0=>?_
 ·refine na ?_;refine fA (fun hc1=>?_) fun hc1=>?_
  ·refine aE ?_;refine jd (i+1) ?_;refine az ?_;refine pC _ ?_;refine aH ?_;refine bL (aM (ar D.str ?_) (ar D.str ?_));all_goals rw[hr,Hu ae hc1]
  refine aY ?_;exact⟨i+1,⟨ae,by rw[hr,Hv ae hc1]⟩,ae,(dL [])⟩
 refine bM ?_;refine bL (aM (ar D.str ?_) (ar D.str ?_));all_goals rw[hr,ER ae]
def Lx (T:List D->D->Prop):Prop:=∀(s:au) (b:Int),T [.str s,.int .u8 b] (.tup [.str (e7 s b).1,.str (e7 s b).2])
def YH (Y:Ctx):Prop:=Lx (bt Y 675)
def Em:aF:=⟨1,15,gV,bQ,(sq (r1 [gm dM] 1 0) (sq (r1 [gm s0,gx 533 [l0,(i8 46)] fH,gm l1] 2 2) (sq (r1 [gm s2,gl l0,DF l1 sg,gm l2] 14 3) (sq .skip (sq (sq (rg [gm s2,gl l0,gm bq] [(6,0),(4,1),(3,2)]) (.block 0 (.loop (sq (r1 [aS s3 s4] 5 0) (sq (fB s5 0) (sq (.block 1 (sq (r1 [ga 1 s6 s3,gd l0,gm l1] 7 2) (sq (sq (r1 [gm s7,aL l0 cse,gm l1,eP 2 s7,cD 2 (.lenS l3),cD 2 (et l4 Fj),fE l2 l5] 8 6) (.cond s8 (sq (r1 [gm dM] 14 0) (.exit 0)) .skip)) (sq (r1 [gm s7,gn (.ui l0)] 9 1) (.block 2 (.loop (sq (rg [gn (.A5 s9),ge l0 0] [(11,0),(10,1)]) (sq (fB jf 2) (.block 3 (sq (r1 [ge k9 2,gm l0] 12 1) (sq (r1 [gm lv,aS l0 (i3 97),gm l1,eP 2 lv,cD 2 (et l3 (i3 122)),fE l2 l4,gm l5,gmt 6 lv,bY 6 (nO l7 (i3 48)),gmt 6 l8,eP 9 lv,cD 9 (et l10 (i3 57)),Uy 6 l9 gH,eL l6 jm,gm jV,gmt 14 lv,bY 14 (eX mM (i3 45)),eL lg og] 13 17) (.cond qG (sq (r1 [gm dM] 14 0) (.exit 0)) .skip)))))))))))) (r1 [aw s3 bX,gm l0] 3 1))))))) (sq (r1 [gm rN,gm l0] 1 1) .ret))))))⟩
def w442 {Y:Ctx}(hm:(Y.at 0).bd)(h533:L0 Y)(s:au)  (hp0:s.length<=1048576):dj Y Em (.bool (oF s false)) [.str s]:=by
 show bH _ _ _ [⟨_,_⟩,_,_,_,_,_,_,_,_,_,_,_,_,_,_] _;refine aq ?_;refine aE ?_;refine ai (hc:=h533 _ _ ?_) ?_;rotate_left;first|assumption|omega;have hlen:=dD s 46
 refine aJ ?_;intro u0;refine bM ?_;intro u1;refine az ?_;refine bh hm (ι:=Nat) (fun i=>[.un,.un,⟨true,.sl 1 ((ak s 46).map D.str)⟩,⟨true,.int .i64 (i:Nat)⟩,⟨true,.int .i64 ((ak s 46).length:Nat)⟩,.un,⟨true,.sl 1 ((ak s 46).map D.str)⟩,.un,.un,.un,.un,.un,.un,.un,⟨true,.bool (decide (((ak s 46).length:Int)<=4))⟩]) (fun i=>[]) 11 (fun i=>i<=(ak s 46).length/\oF s false=(decide ((ak s 46).length<=4)&&cV (fun i=>iz false (ak s 46)[i]!) i (ak s 46).length)) (fun i=>(ak s 46).length-i) 0 ⟨ae,rfl⟩ (dL []) ?_;rintro i ⟨hi,hr⟩;refine aA ?_;refine cI (fun hc0=>?_) fun hc0=>?_
 ·refine cW ?_;generalize ht:(ak s 46)[i]! =t;refine aE ?_;refine ll ?_;refine aA ?_;refine cI (fun hc1=>?_) fun hc1=>?_
  ·refine gG ?_;refine bS ?_;first
    |(rw[hr,cr ae,oS];exact gT.2 ae)
    |(have hb:rS t=false:=by
       first
       |(simp only[rS];rcases hc1 with h|h
         ·subst h;simp
         ·rw[dk (by omega:¬t.length<=8)];simp)
       |(have hz:nw (at8 t j)=false:=by
          rcases hcw with⟨_,h,_⟩|⟨_,h⟩<;>(simp only[nw,ij,bm,dW,dT,bD];omega)
         rw[hj,aV hnx,hz];rfl)
      rw[hr,aV ae,show iz false (ak s 46)[i]! =false from(by simp only[iz,ht,hb,Bool.false_and])];simp)
  refine aJ ?_;have hT:rS t=cV (fun i=>nw (at8 t i)) 0 t.length:=by
   have:=List.length_pos_iff.2 hc1.1;simp only[rS];rw[cz ae,cz ae];rfl
  refine qk hm (ι:=Nat) (fun j=>[.un,.un,⟨true,.sl 1 ((ak s 46).map D.str)⟩,⟨true,.int .i64 (i:Nat)⟩,⟨true,.int .i64 ((ak s 46).length:Nat)⟩,.un,⟨true,.sl 1 ((ak s 46).map D.str)⟩,.un,.un,⟨true,.it 23⟩,.un,.un,.un,.un,⟨true,.bool (decide (((ak s 46).length:Int)<=4))⟩]) (fun j=>[(23,.iter t j)]) 24 (fun j=>j<=t.length/\rS t=cV (fun i=>nw (at8 t i)) j t.length) (fun j=>t.length-j) 0 ⟨ae,hT⟩ (dL [(23,23)]) ?_;rintro j ⟨hj0,hj⟩;refine aD ?_;by_cases hnx:j<t.length
  ·obtain⟨c,w,hdec,hw,hcw⟩:=uz t j hnx;refine DV c w (hp:=hnx) (hc:=hdec) ?_;refine az ?_;refine av (t:=true) (fun _=>?_) (fun h=>by cases h);refine zzz26 ?_;refine fA (fun hc3=>?_) fun hc3=>?_
   ·refine na ?_;refine bS ?_;first
     |(rw[hr,cr ae,oS];exact gT.2 ae)
     |(have hb:rS t=false:=by
        first
        |(simp only[rS];rcases hc1 with h|h
          ·subst h;simp
          ·rw[dk (by omega:¬t.length<=8)];simp)
        |(have hz:nw (at8 t j)=false:=by
           rcases hcw with⟨_,h,_⟩|⟨_,h⟩<;>(simp only[nw,ij,bm,dW,dT,bD];omega)
          rw[hj,aV hnx,hz];rfl)
       rw[hr,aV ae,show iz false (ak s 46)[i]! =false from(by simp only[iz,ht,hb,Bool.false_and])];simp)
   refine aA ?_;obtain⟨rfl,hat,-⟩:w=1/\(c:Int)=at8 t j/\c<128:=by
    rcases hcw with h|h
    ·exact h
    ·omega
   have hz:nw (at8 t j)=true:=by
    simp only[nw,ij,bm,dh,bw,aW];omega
   exact⟨j+1,⟨ae,by rw[hj,aV hnx,hz];rfl⟩,ae,(dL [(23,23)])⟩
  ·refine DU (hp:=hnx) ?_;refine az ?_;refine av (t:=false) (fun h=>by cases h) (fun _=>?_);refine bM ?_;exact⟨i+1,⟨ae,by rw[hr,aV ae];rw[show iz false (ak s 46)[i]! =true from(by simp only[iz,Bool.false_and,Bool.not_false,oS];rw[ht,hj,cr ae])];rfl⟩,ae,(dL [])⟩
 refine aY ?_;refine bS ?_;first
  |(rw[hr,cr ae,oS];exact gT.2 ae)
  |(have hb:rS t=false:=by
     first
     |(simp only[rS];rcases hc1 with h|h
       ·subst h;simp
       ·rw[dk (by omega:¬t.length<=8)];simp)
     |(have hz:nw (at8 t j)=false:=by
        rcases hcw with⟨_,h,_⟩|⟨_,h⟩<;>(simp only[nw,ij,bm,dW,dT,bD];omega)
       rw[hj,aV hnx,hz];rfl)
    rw[hr,aV ae,show iz false (ak s 46)[i]! =false from(by simp only[iz,ht,hb,Bool.false_and])];simp)
def K1 (T:List D->D->Prop):Prop:=∀(s:au),(s.length<=1048576)->T [.str s] (.bool (oF s false))
def U8 (Y:Ctx):Prop:=K1 (bt Y 442)
def sE (T:List D->D->Prop):Prop:=∀(n:Int),(0<=n/\n<=9999)->T [.int .i64 n] (.str (dC n.toNat))
def XY (Y:Ctx):Prop:=sE (bt Y 336)
def KN (T:List D->D->Prop):Prop:=∀(l:List au) (sep:au),(l.length<=1048600)->(sep.length<=4)->(∀t∈l,t.length<=2097200)->T [.sl 1 (l.map D.str),.str sep] (.str (aP sep l))
def OD (Y:Ctx):Prop:=KN (bt Y 242)
def KC (T:List D->D->Prop):Prop:=∀(s:au) (b:UInt8),(s.length<=1048576)->T [.str s,.str [b]] (.sl 1 ((ak s b.toNat).map D.str))
def LV (Y:Ctx):Prop:=KC (bt Y 124)
def Ll (T:List D->D->Prop):Prop:=∀(s:au) (b:UInt8),(s.length<=1048576)->T [.str s,.str [b]] (.tup [.str (ic s b).1,.str (ic s b).2.1,.bool (ic s b).2.2])
def Vg (Y:Ctx):Prop:=Ll (bt Y 487)
def KV (T:List D->D->Prop):Prop:=∀(s:au) (p:au),(s.length<=1048576)->(p.length<=1048576)->T [.str s,.str p] (.tup [.str (cE s p).1,.bool (cE s p).2])
def U6 (Y:Ctx):Prop:=KV (bt Y 254)
def GP:aF:=⟨1,10,gV,bQ,(sq (r1 [gm dM] 1 0) (sq (sq (r1 [gm s0,gx 442 [l0] bQ,jU l1] 2 2) (mI s2 dM)) (sq (sq (rg [gm s0,gx 533 [l0,(i8 46)] fH,gl l1,gm bq] [(6,1),(4,2),(3,3)]) (.block 0 (.loop (sq (r1 [aS s3 s4] 5 0) (sq (fB s5 0) (sq (.block 1 (sq (r1 [ga 1 s6 s3,gd l0,gm l1] 7 2) (sq (r1 [gm s7,gx 658 [l0] bQ,gm l1,ge l2 0,ge l2 1,gm l3,gm l4] 8 6) (sq (r1 [gm s7,gx 659 [l0] bQ,gm l1,gmt 2 s8,bY 2 (.un .not l3),eL l2 l4] 9 5) (mI s9 dM))))) (r1 [aw s3 bX,gm l0] 3 1))))))) (xx qx))))⟩
def w441 {Y:Ctx}(hm:(Y.at 0).bd)(h442:U8 Y)(h533:L0 Y)(h658:OE Y)(h659:Vl Y)(s:au)  (hp0:s.length<=1048576):dj Y GP (.bool (oF s true)) [.str s]:=by
 show bH _ _ _ [⟨_,_⟩,_,_,_,_,_,_,_,_,_] _;refine aq ?_;refine aJ ?_;refine ai (hc:=h442 _ ?_) ?_;rotate_left;first|assumption|omega
 refine az ?_;refine av (fun hc0=>?_) (fun hc0=>?_)
 ·simp only[bE]at hc0;refine aJ ?_;refine bS ?_;symm;simp only[oF]at hc0⊢;rw[dT]at hc0⊢;rcases hc0 with h|h
  ·exact Or.inl h
  ·right;rw[Bool.eq_false_iff]at h⊢;intro h2;apply h;rw[eD]at h2⊢;intro j a b;have:=h2 j a b;simp only[iz,bw]at this⊢;exact⟨this.1,rfl⟩
 simp only[b6]at hc0;refine aE ?_;refine ai (hc:=h533 _ _ ?_) ?_;rotate_left;first|assumption|omega;have hlen:=dD s 46
 refine aD ?_;intro u0;refine az ?_;have hT:=hc0;simp only[oF,bw,aW]at hT;obtain⟨hT4,hTa⟩:=hT;rw[eD]at hTa;have hP:oF s true=cV (fun i=>iz true (ak s 46)[i]!) 0 (ak s 46).length:=by
  simp only[oF];rw[cz hT4];rfl
 refine bh hm (ι:=Nat) (fun i=>[.un,.un,.un,⟨true,.int .i64 (i:Nat)⟩,⟨true,.int .i64 ((ak s 46).length:Nat)⟩,.un,⟨true,.sl 1 ((ak s 46).map D.str)⟩,.un,.un,.un]) (fun i=>[]) 8 (fun i=>i<=(ak s 46).length/\oF s true=cV (fun i=>iz true (ak s 46)[i]!) i (ak s 46).length) (fun i=>(ak s 46).length-i) 0 ⟨ae,hP⟩ (dL []) ?_;rintro i ⟨hi,hr⟩;refine aA ?_;refine cI (fun hc1=>?_) fun hc1=>?_
 ·refine cW ?_;refine ai (hc:=h658 _) ?_;refine bM ?_;refine ai (hc:=h659 _) ?_;refine aJ ?_;refine wp_cond (fun hc2=>?_) (fun hc2=>?_)
  ·skip
   refine aH ?_;refine bS ?_;have hz:iz true (ak s 46)[i]! =false:=by
    simp only[iz];revert hc2;generalize rS (ak s 46)[i]! =c;generalize cR (ak s 46)[i]! =a;generalize gW (ak s 46)[i]! =b;cases a<;>cases b<;>cases c<;>simp
   rw[hr,aV ae,hz];rfl
  skip
  refine aY ?_;have hz:iz true (ak s 46)[i]! =true:=by
   have:=hTa i ae ae;simp only[iz,Bool.false_and,Bool.not_false,oS]at this;simp only[iz,this];revert hc2;generalize cR (ak s 46)[i]! =a;generalize gW (ak s 46)[i]! =b;cases a<;>cases b<;>simp
  exact⟨i+1,⟨ae,by rw[hr,aV ae,hz];rfl⟩,ae,(dL [])⟩
 refine aH ?_;refine bS ?_;rw[hr,cr ae]
def K0 (T:List D->D->Prop):Prop:=∀(s:au),(s.length<=1048576)->T [.str s] (.bool (oF s true))
def X3 (Y:Ctx):Prop:=K0 (bt Y 441)
def GO:aF:=⟨1,3,gV,bQ,(sq (rg [gb 5 s0,gm dM] [(2,0),(1,1)]) (sq (r1 [gf 0 s2,gd l0,gx 440 [l1] bQ,gm l2,mL 3 1 s2,lr 3 l4,bY 3 (.call 440 [l5] bQ),eL l3 l6,gm l7,mL 8 2 s2,lr 8 l9,bY 8 (.call 440 [l10] bQ),eL l8 gH,gm jm,mL 13 3 s2,lr 13 lg,bY 13 (cQ mM cse),gmt 13 og,j5 17 3 s2,lF 17 sX,cD 17 (.call 441 [uh] bQ),Uy 13 rl zJ,eL jV Bf,gm Ey,mL 23 4 s2,lr 23 MT,bY 23 (cQ Ou cse),gmt 23 R6,j5 27 4 s2,lF 27 Ws,cD 27 (.call 442 [Wt] bQ),Uy 23 UF l30,eL JF l31,gm l32] 1 33) .ret))⟩
def w209 {Y:Ctx}(hm:(Y.at 0).bd)(h440:X2 Y)(h441:X3 Y)(h442:U8 Y)(v:cY)  (hp0:v.sm):dj Y GO (.bool (eY v)) [cY.D v]:=by
 show bH _ _ _ [⟨_,_⟩,_,_] _;refine aq ?_;refine aH ?_;refine ai (hc:=h440 _) ?_;refine aA ?_;refine ai (hc:=h440 _) ?_;refine aE ?_;refine ai (hc:=h440 _) ?_;refine bM ?_;refine dc (hc:=fun hf=>h441 v.pre hp0.1) ?_;refine cW ?_;refine dc (hc:=fun hf=>h442 v.build hp0.2) ?_;refine aJ ?_;exact bS rfl
def yq (T:List D->D->Prop):Prop:=∀(v:cY),(v.sm)->T [cY.D v] (.bool (eY v))
def Hj (Y:Ctx):Prop:=yq (bt Y 209)
def Dw:aF:=⟨1,2,gV,bQ,(sq (r1 [gm cse] 1 0) (sq (r1 [gm s0,gx 336 [l0] bQ,gm l1] 1 2) .ret))⟩
def w665 {Y:Ctx}(hm:(Y.at 0).bd)(h336:XY Y)(n:Int)  (hp0:0<=n/\n<=9999):dj Y Dw (.str (dC n.toNat)) [.int .i64 n]:=by
 show bH _ _ _ [⟨_,_⟩,_] _;refine aq ?_;refine aE ?_;refine ai (hc:=h336 _ ?_) ?_;rotate_left;first|assumption|omega
 refine aA ?_;exact cT rfl
def Vq (Y:Ctx):Prop:=sE (bt Y 665)
def Bt:aF:=⟨1,7,gV,bQ,(sq (rg [gb 5 s0,gm cse] [(2,0),(1,1)]) (sq (sq (r1 [gk 5 true s2,gx 209 [l0] zF,jU l1] 3 2) (mI s3 cse)) (sq (r2 [gf 0 s2,gd l0,gx 665 [l1] bQ,aw l2 (cs [46]),gf 1 s2,gd l4,gx 665 [l5] bQ,aw l3 l6,aw l7 (cs [46]),gf 2 s2,gd l9,gx 665 [l10] bQ,aw l8 gH,gm jm] 5 13) (sq (sq (r1 [gf 3 s2,gd l0,b7 l1 cse] 4 2) (.cond s4 (r1 [gm s5,gf 3 s2,gd l1,aw (cs [45]) l2,aw l0 l3,gm l4] 5 5) .skip)) (sq (sq (r1 [gf 4 s2,gd l0,b7 l1 cse] 6 2) (.cond s6 (r1 [gm s5,gf 4 s2,gd l1,aw (cs [43]) l2,aw l0 l3,gm l4] 5 5) .skip)) (sq (r1 [gm s5,gm l0] 1 1) .ret))))))⟩
def w451 {Y:Ctx}(hm:(Y.at 0).bd)(h209:Hj Y)(h665:Vq Y)(v:cY)  (hp0:v.sm):dj Y Bt (.str (j3 v)) [cY.D v]:=by
 show bH _ _ _ [⟨_,_⟩,_,_,_,_,_,_] _;obtain⟨hs1,hs2⟩:=hp0;have hp0:v.sm:=⟨hs1,hs2⟩;refine aq ?_;refine aH ?_;refine ai (hc:=h209 _ ?_) ?_;rotate_left;first|assumption|omega
 refine az ?_;refine av (fun hc0=>?_) (fun hc0=>?_)
 ·simp only[bE]at hc0;refine aJ ?_;refine cT ?_;simp[j3,hc0]
 simp only[b6]at hc0;refine az ?_;have hv:=hc0;simp only[eY,bw]at hv;obtain⟨⟨⟨⟨hv1,hv2⟩,hv3⟩,_⟩,_⟩:=hv;have hq1:=hv1;have hq2:=hv2;have hq3:=hv3;simp only[pW,bw,aW]at hq1 hq2 hq3;have hl1:=eo 4 v.major.toNat ae ae;have hl2:=eo 4 v.minor.toNat ae ae;have hl3:=eo 4 v.patch.toNat ae ae;refine az ?_;refine ai (hc:=h665 _ ?_) ?_;rotate_left;first|assumption|omega
 refine c8 (hb:=fun _=>cH) ?_;refine az ?_;refine ai (hc:=h665 _ ?_) ?_;rotate_left;first|assumption|omega
 refine c8 (hb:=fun _=>cH) ?_;refine c8 (hb:=fun _=>cH) ?_;refine az ?_;refine ai (hc:=h665 _ ?_) ?_;rotate_left;first|assumption|omega
 refine c8 (hb:=fun _=>cH) ?_;refine bM ?_;refine cI (fun hc1=>?_) fun hc1=>?_
 ·refine aE ?_;refine c8 (hb:=fun _=>cH) ?_;refine c8 (hb:=fun _=>cH) ?_;refine bM ?_;refine cI (fun hc2=>?_) fun hc2=>?_
  ·refine aE ?_;refine c8 (hb:=fun _=>cH) ?_;refine c8 (hb:=fun _=>cH) ?_;refine aY ?_;refine cT ?_;simp[j3,sO,hc0,hc1,hc2]
  refine aH ?_;refine cT ?_;simp[j3,sO,hc0,hc1,hc2]
 refine aY ?_;refine cI (fun hc2=>?_) fun hc2=>?_
 ·refine aE ?_;refine c8 (hb:=fun _=>cH) ?_;refine c8 (hb:=fun _=>cH) ?_;refine aY ?_;refine cT ?_;simp[j3,sO,hc0,hc1,hc2]
 refine aH ?_;refine cT ?_;simp[j3,sO,hc0,hc1,hc2]
def yD (T:List D->D->Prop):Prop:=∀(v:cY),(v.sm)->T [cY.D v] (.str (j3 v))
def Vc (Y:Ctx):Prop:=yD (bt Y 451)
def qb:aF:=⟨2,4,[⟨2,none⟩],bQ,(sq (r1 [gm (iu 0)] 2 0) (sq (r1 [gm s1,gn (.cvi .u64 l0),Qb l1 (iu 63),gm l2] 3 3) (sq (r1 [gm s0,gm s3,gn (.bin .shl l0 l1),gm s0,gm s3,ed (iu 64) l4,gn (.bin .shr l3 l5),JO l2 l6,gm l7] 2 8) .ret)))⟩
def w463 {Y:Ctx}(hm:(Y.at 0).bd)  (h:Int)(k:Nat)  (hp0:k=13):dj Y qb (.int .u64 (W9 h k)) [.int .u64 h,.int .i64 (k:Nat)]:=by
 show bH _ _ _ [⟨_,_⟩,⟨_,_⟩,_,_] _;subst hp0;refine aq ?_;refine aE ?_;refine oA 13 (hb:=fun _=>by rw[IntKind.wrap_u64];rfl) ?_;refine wh 13 (hb:=fun _=>by rw[IntKind.wrap_u64];rfl) ?_;refine aJ ?_;refine J8 (uY h 13) (hb:=fun _=>by rw[show min (Int.toNat (13:Int)) (IntKind.bits .u64)=13 by simp[IntKind.bits]];rfl) ?_;refine az ?_;refine tP 51 (hb:=fun _=>by rw[IntKind.wrap_u64];rfl) ?_;refine uS (sY h 51) (hb:=fun _=>by rw[show min (Int.toNat (51:Int)) (IntKind.bits .u64)=51 by simp[IntKind.bits]];rfl) ?_;refine J4 (W9 h 13) (hb:=fun _=>rfl) ?_;refine aA ?_;refine bL (ar (D.int .u64) ?_);rfl
def K9 (T:List D->D->Prop):Prop:=∀(h:Int) (k:Nat),(k=13)->T [.int .u64 h,.int .i64 (k:Nat)] (.int .u64 (W9 h k))
def Yi (Y:Ctx):Prop:=K9 (bt Y 463)
def HF:aF:=⟨1,8,gV,bQ,(sq (r1 [gm (iu 0)] 1 0) (sq (r1 [gm (iu 11400714819323198485)] 6 0) (sq (sq (rg [gm s0,gl l0,gm bq] [(5,0),(3,1),(2,2)]) (.block 0 (.loop (sq (r1 [aS s2 s3] 4 0) (sq (fB s4 0) (sq (.block 1 (sq (r1 [ga 1 s5 s2,gd l0,gm l1] 7 2) (r1 [gm s6,gm s7,gn (.cvi .u64 l1),gn (.bin .xor l0 l2),gx 463 [l3,(i6 13)] fH,gn (.bin .mul l4 (iu 18397679294719823053)),gm l5] 6 6))) (r1 [aw s2 bX,gm l0] 2 1))))))) (sq (r1 [gm s6,gm s6,gn (.bin .shr l1 (iu 29)),gn (.bin .xor l0 l2),gm l3] 1 4) .ret))))⟩
def w220 {Y:Ctx}(hm:(Y.at 0).bd)(h463:Yi Y)(s:au)   :dj Y HF (.int .u64 (GA s)) [.sl 1 ((s).map fun b=>D.int .u8 b.toNat)]:=by
 show bH _ _ _ [⟨_,_⟩,_,_,_,_,_,_,_] _;refine aq ?_;refine cW ?_;intro u0;refine az ?_;refine bh hm (ι:=Nat) (fun i=>[.un,.un,⟨true,.int .i64 (i:Nat)⟩,⟨true,.int .i64 (s.length:Nat)⟩,.un,⟨true,.sl 1 (s.map fun b=>D.int .u8 b.toNat)⟩,⟨true,.int .u64 (wy (s.take i))⟩,.un]) (fun i=>[]) 5 (fun i=>i<=s.length) (fun i=>s.length-i) 0 ae (dL []) ?_;intro i hi;refine aA ?_;refine cI (fun hc0=>?_) fun hc0=>?_
 ·refine aE ?_;refine b8 (v:=.int .u8 (at8 s i)) (hv:=fun _=>ld8 s i) ?_;refine aJ ?_;refine oA (at8 s i) (hb:=fun _=>by have:=vu s i;rw[IntKind.wrap_u64];omega) ?_;refine DS (AX (wy (s.take i)) (at8 s i)) (hb:=fun _=>rfl) ?_;refine ai (hc:=h463 _ 13 rfl) ?_;refine Q8 (wy (s.take (i+1))) (hb:=fun _=>by rw[CH s i ae];rfl) ?_;refine bM ?_;exact⟨i+1,ae,ae,(dL [])⟩
 refine aA ?_;have ht:s.take i=s:=ek ae;rw[ht];refine az ?_;refine uS (sY (wy s) 29) (hb:=fun _=>rfl) ?_;refine DS (GA s) (hb:=fun _=>rfl) ?_;refine aA ?_;refine bL (ar (D.int .u64) ?_);rfl
def yv (T:List D->D->Prop):Prop:=∀(s:au),T [.sl 1 ((s).map fun b=>D.int .u8 b.toNat)] (.int .u64 (GA s))
def XJ (Y:Ctx):Prop:=yv (bt Y 220)
def IE:aF:=⟨1,4,gV,bQ,(sq (r1 [gm cse] 1 0) (sq (r1 [gm s0,gn (.bin .rem l0 (iu 10)),gn (.cvi .u8 l1),aw (i8 48) l2,gn (.bsl 1 (.int .u8 0) 1 [(0,l3)]),gn (.b2s l4),gm l5] 3 6) (sq (.block 0 (.loop (sq (sq (r1 [gm s0,cZ l0 (iu 9)] 2 1) (fB s2 0)) (.block 1 (sq (r1 [gm s0,gn (.bin .quo l0 (iu 10)),gm l1] 0 2) (r1 [gm s0,gn (.bin .rem l0 (iu 10)),gn (.cvi .u8 l1),aw (i8 48) l2,gn (.bsl 1 (.int .u8 0) 1 [(0,l3)]),gn (.b2s l4),gm s3,aw l5 l6,gm l7] 3 8)))))) (sq (r1 [gm s3,gm l0] 1 1) .ret))))⟩
def w882 {Y:Ctx}(hm:(Y.at 0).bd)  (n:Nat)  (hp0:n<=9999):dj Y IE (.str (dC n)) [.int .u64 (n:Nat)]:=by
 show bH _ _ _ [⟨_,_⟩,_,_,_] _;refine aq ?_;refine aE ?_;refine J7 ((n%10:Nat):Int) (hn:=by intro _;omega) (hb:=fun _=>rfl) ?_;refine oA ((n%10:Nat):Int) (hb:=fun _=>IntWalk.u8_in _ ae) ?_;refine An (((dg (n%10)).toNat:Nat):Int) (hb:=fun _=>by rw[BL ae];exact IntWalk.u8_in _ ae) ?_;refine de [.int .u8 _] ?_;refine FW [dg (n%10)] (he:=fun _=>sQ.all ah rfl) (hs:=fun _=>rfl) ?_;refine az ?_;have h0:dC n=(if n<10 then []else dC (n/10))++[dg (n%10)]:=by
  split
  ·rename_i h;rw[nk h,Nat.mod_eq_of_lt h];rfl
  ·rw[ov ae]
 refine bh hm (ι:=(Nat×au)) (fun p=>[⟨true,.int .u64 (p.1:Nat)⟩,.un,.un,⟨true,.str p.2⟩]) (fun p=>[]) 8 (fun p=>p.1<=9999/\p.2.length<=9999-p.1+1/\dC n=(if p.1<10 then []else dC (p.1/10))++p.2) (fun p=>p.1) (n,[dg (n%10)]) ⟨hp0,aT,h0⟩ (dL []) ?_;rintro⟨k,s⟩ ⟨hk,hs,hr⟩;dsimp only at hk hs hr⊢;refine aJ ?_;refine cI (fun hc0=>?_) fun hc0=>?_
 ·refine aE ?_;refine r_quo ((k/10:Nat):Int) (hn:=by intro _;omega) (hb:=fun _=>by rw[show((k:Int).tdiv 10)=((k/10:Nat):Int)from rfl,IntKind.wrap_u64];omega) ?_;refine aE ?_;refine J7 (((k/10)%10:Nat):Int) (hn:=by intro _;omega) (hb:=fun _=>rfl) ?_;refine oA (((k/10)%10:Nat):Int) (hb:=fun _=>IntWalk.u8_in _ ae) ?_;refine An (((dg ((k/10)%10)).toNat:Nat):Int) (hb:=fun _=>by rw[BL ae];exact IntWalk.u8_in _ ae) ?_;refine de [.int .u8 _] ?_;refine FW [dg ((k/10)%10)] (he:=fun _=>sQ.all ah rfl) (hs:=fun _=>rfl) ?_;refine aD ?_;refine c8 (hb:=fun _=>cH) ?_;refine aE ?_;have h1:dC n=(if k/10<10 then []else dC (k/10/10))++([dg (k/10%10)]++s):=by
   rw[hr,aj ae];split
   ·rename_i h;rw[nk h,Nat.mod_eq_of_lt h];rfl
   ·rw[ov ae,dS]
  exact⟨(k/10,[dg (k/10%10)]++s),⟨dN,cH,h1⟩,dN,(dL [])⟩
 refine aY ?_;refine cT ?_;rw[hr,ax ae];rfl
def LK (T:List D->D->Prop):Prop:=∀(n:Nat),(n<=9999)->T [.int .u64 (n:Nat)] (.str (dC n))
def Y2 (Y:Ctx):Prop:=LK (bt Y 882)
def Ge:aF:=⟨1,3,gV,bQ,(sq (r1 [gm cse] 1 0) (sq (sq (r1 [gm s0,aS l0 bq] 2 1) (.cond s2 (sq (r1 [gm s0,aw l0 bX,gn (.un .neg l1),gn (.cvi .u64 l2),aw l3 (iu 1),gx 882 [l4] bQ,aw (cs [45]) l5,gm l6] 1 7) .ret) .skip)) (sq (r1 [gm s0,gn (.cvi .u64 l0),gx 882 [l1] bQ,gm l2] 1 3) .ret)))⟩
def w734 {Y:Ctx}(hm:(Y.at 0).bd)(h882:Y2 Y)(n:Int)  (hp0:0<=n/\n<=9999):dj Y Ge (.str (dC n.toNat)) [.int .i64 n]:=by
 show bH _ _ _ [⟨_,_⟩,_,_] _;refine aq ?_;refine aY ?_;refine cI (fun hc0=>?_) fun hc0=>?_
 ·omega
 refine az ?_;obtain⟨k,rfl⟩:∃k:Nat,n=k:=⟨n.toNat,ae⟩
 refine aD ?_;refine oA (k:Int) (hb:=fun _=>by rw[IntKind.wrap_u64];omega) ?_;refine ai (hc:=h882 _ ?_) ?_;rotate_left;first|assumption|omega
 refine aA ?_;exact cT rfl
def Vx (Y:Ctx):Prop:=sE (bt Y 734)
def IC:aF:=⟨2,8,[⟨2,none⟩],[[.sl 1 [.a]]],(sq (r1 [gm (.c (.aC))] 2 0) (sq (r1 [gm (.c (.aC))] 6 0) (sq (r1 [gm bq] 7 0) (sq (sq (r1 [gm bq] 3 0) (.block 0 (.loop (sq (sq (r1 [gm s3,gm s0,pM l1,aS l0 l2] 4 3) (fB s4 0)) (sq (.block 1 (sq (r1 [gm s0,gm s3,HN l0 l1,gm s1,aL l2 l3] 5 4) (.cond s5 (sq (r1 [gm s6,gm s0,gm s7,gm s3,gn (.slS l1 (some l2) (some l3)),gn (.bsl 1 (.str []) 1 [(0,l4)]),gn (.app 1 l0 l5),gm l6] 6 7) (r1 [gm s3,aw l0 bX,gm l1] 7 2)) .skip))) (r1 [gm s3,aw l0 bX,gm l1] 3 2)))))) (sq (r1 [gm s6,gm s0,gm s7,gn (.slS l1 (some l2) none),gn (.bsl 1 (.str []) 1 [(0,l3)]),gn (.app 1 l0 l4),gm l5] 2 6) .ret)))))⟩
def w470 {Y:Ctx}(hm:(Y.at 0).bd)  (s:au)(b:Int)  (hp0:s.length<=1048576):dj Y IC (.sl 1 ((ak s b).map D.str)) [.str s,.int .u8 b]:=by
 show bH _ _ _ [⟨_,_⟩,⟨_,_⟩,_,_,_,_,_,_] _;refine aq ?_;refine gG ?_;refine bh hm (ι:=(Nat×Nat×List au)) (fun p:Nat×Nat×List au=>[⟨true,.str s⟩,⟨true,.int .u8 b⟩,.un,⟨true,.int .i64 (p.1:Nat)⟩,.un,.un,⟨true,.own 0 1 0 p.2.2.length⟩,⟨true,.int .i64 (p.2.1:Nat)⟩]) (fun p=>[(0,.buf 1 (p.2.2.map D.str))]) 4 (fun p=>p.1<=s.length/\p.2.1<=p.1/\p.2.2.length<=p.1/\ak s b=p.2.2++cj b (s.drop p.1) ((s.take p.1).drop p.2.1)) (fun p=>s.length-p.1) (0,0,[]) ⟨aT,aT,aT,rfl⟩ (aZ.to [] ah ah (by repeat(first|exact dA.nil|refine dA.un ?_|refine dA.eq ah ?_|refine dA.nl ah ah ?_|refine dA.ni (Or.inr ⟨0,1,0,rfl⟩) ?_)) (by repeat(first|exact aO.nil|refine aO.mt ah ah ah ah ?_))) ?_;rintro⟨i,fr,acc⟩ ⟨hi,hf,ha,hr⟩;dsimp only at hi hf ha hr⊢;refine aJ ?_;intro u0;refine az ?_;refine cI (fun hc0=>?_) fun hc0=>?_
 ·refine cW ?_;refine wp_cond (fun hc1=>?_) (fun hc1=>?_)
  ·try simp only[eE]at hc1
   refine aJ ?_;refine Aq _ _ ?_;refine de [(.str _)] ?_;refine A0 ?_;exact⟨(i+1,i+1,acc++[(s.take i).drop fr]),⟨dN,dN,cH,by rw[hr,Cz ae hc1];simp⟩,dN,(aZ.to [(19,0)] ah ah n4 (by refine aO.nl 19 ah ah ah ch ?_;exact aO.nil))⟩
  simp only[bD]at hc1;refine bM ?_;exact⟨(i+1,fr,acc),⟨dN,dN,dN,by rw[hr,CA ae ae hc1]⟩,dN,(aZ.to [(0,0)] ah ah n4 (by refine aO.nl 0 ah ah ah ch ?_;exact aO.nil))⟩
 refine aH ?_;refine jd _ ?_;refine de [(.str _)] ?_;refine aA ?_;refine ff 13 ?_;refine aD ?_;refine bL (?_);have hs:ak s b=acc++[s.drop fr]:=by rw[hr,AJ ae]
 rw[hs];exact rfl
def Hn (Y:Ctx):Prop:=yI (bt Y 470)
def Rf:aF:=⟨1,2,gV,bQ,(sq (r1 [gm dM] 1 0) (sq (r1 [gm s0,fY l0 (i8 97),gm l1,gmt 2 s0,bY 2 (mX l3 (i8 122)),eL l2 l4,gm l5] 1 6) .ret))⟩
def w453 {Y:Ctx}(hm:(Y.at 0).bd)  (c:Int)   :dj Y Rf (.bool (ij c)) [.int .u8 c]:=by
 show bH _ _ _ [⟨_,_⟩,_] _;refine aq ?_;refine gG ?_;exact bS rfl
def K2 (T:List D->D->Prop):Prop:=∀(c:Int),T [.int .u8 c] (.bool (ij c))
def Vd (Y:Ctx):Prop:=K2 (bt Y 453)
def ID:aF:=⟨1,2,gV,bQ,(sq (r1 [gm dM] 1 0) (sq (r1 [gm s0,fY l0 (i8 48),gm l1,gmt 2 s0,bY 2 (mX l3 (i8 57)),eL l2 l4,gm l5] 1 6) .ret))⟩
def w454 {Y:Ctx}(hm:(Y.at 0).bd)  (c:Int)   :dj Y ID (.bool (bm c)) [.int .u8 c]:=by
 show bH _ _ _ [⟨_,_⟩,_] _;refine aq ?_;refine gG ?_;exact bS rfl
def K3 (T:List D->D->Prop):Prop:=∀(c:Int),T [.int .u8 c] (.bool (bm c))
def Sb (Y:Ctx):Prop:=K3 (bt Y 454)
def NG:aF:=⟨1,6,gV,bQ,(sq (r1 [gm dM] 1 0) (sq (sq (r1 [gm s0,pM l0,aS l1 bX,gm l2,eP 3 s0,cD 3 (.lenS l4),cD 3 (et l5 (i6 12)),fE l3 l6] 2 7) (mI s2 dM)) (sq (sq (r1 [gm bq] 3 0) (.block 0 (.loop (sq (sq (r1 [gm s3,gm s0,pM l1,aS l0 l2] 4 3) (fB s4 0)) (sq (.block 1 (sq (r1 [gm s0,gm s3,HN l0 l1,gx 453 [l2] bQ,jU l3,gm l4,gmt 5 s0,gmt 5 s3,bY 5 (.ixS l6 l7),bY 5 (.call 454 [l8] bQ),bY 5 (.un .not l9),eL l5 l10,gm gH,gmt 12 s0,gmt 12 s3,bY 12 (.ixS jV lg),bY 12 (eX mM (i8 95)),eL jm og] 5 17) (mI s5 dM))) (r1 [gm s3,aw l0 bX,gm l1] 3 2)))))) (xx qx))))⟩
def w357 {Y:Ctx}(hm:(Y.at 0).bd)(h453:Vd Y)(h454:Sb Y)(s:au)   :dj Y NG (.bool (cG s)) [.str s]:=by
 show bH _ _ _ [⟨_,_⟩,_,_,_,_,_] _;refine aq ?_;refine aH ?_;intro u0;refine aA ?_;refine ll ?_;refine aA ?_;refine cI (fun hc0=>?_) fun hc0=>?_
 ·refine aJ ?_;refine bS ?_;symm;simp only[cG,dT,bD];exact Or.inl ae
 refine aJ ?_;refine bh hm (ι:=Nat) (fun i=>[⟨true,.str s⟩,.un,.un,⟨true,.int .i64 (i:Nat)⟩,.un,.un]) (fun i=>[]) 10 (fun i=>i<=s.length/\cG s=cV (fun i=>yo (at8 s i)) i s.length) (fun i=>s.length-i) 0 ⟨ae,by simp only[cG];rw[cz ae,cz ae];rfl⟩ (dL []) ?_;rintro i ⟨hi,hr⟩;refine aJ ?_;intro u1;refine az ?_;refine cI (fun hc1=>?_) fun hc1=>?_
 ·refine aH ?_;refine ai (hc:=h453 _) ?_;refine aJ ?_;refine ai (hc:=h454 _) ?_;refine cW ?_;refine fA (fun hc2=>?_) fun hc2=>?_
  ·refine aH ?_;refine bS ?_;rw[hr,aV ae];simp[yo,hc2]
  refine bM ?_;exact⟨i+1,⟨ae,by rw[hr,aV ae];simp[yo,hc2]⟩,ae,(dL [])⟩
 refine aH ?_;refine bS ?_;rw[hr,cr ae]
def Hm (Y:Ctx):Prop:=yx (bt Y 357)
def NF:aF:=⟨1,6,gV,bQ,(sq (r1 [gm dM] 1 0) (sq (sq (r1 [gm s0,pM l0,aS l1 bX,gm l2,eP 3 s0,cD 3 (.lenS l4),cD 3 (et l5 (i6 16)),fE l3 l6,gm l7,eP 8 s0,cD 8 (.ixS l9 bq),cD 8 (.call 453 [l10] bQ),cD 8 (.un .not gH),fE l8 jm,gm jV,eP 14 s0,eP 14 s0,cD 14 (.lenS og),cD 14 (ku rl bX),cD 14 (.ixS mM sX),cD 14 (cQ uh (i8 45)),fE lg zJ] 2 21) (mI s2 dM)) (sq (sq (r1 [gm bX] 3 0) (.block 0 (.loop (sq (sq (r1 [gm s3,gm s0,pM l1,aS l0 l2] 4 3) (fB s4 0)) (sq (.block 1 (sq (r1 [gm s0,gm s3,HN l0 l1,gx 453 [l2] bQ,jU l3,gm l4,gmt 5 s0,gmt 5 s3,bY 5 (.ixS l6 l7),bY 5 (.call 454 [l8] bQ),bY 5 (.un .not l9),eL l5 l10,gm gH,gmt 12 s0,gmt 12 s3,bY 12 (.ixS jV lg),bY 12 (eX mM (i8 45)),eL jm og,gm rl,eP 18 s0,eP 18 s3,cD 18 (.ixS uh zJ),cD 18 (cQ Bf (i8 45)),eP 18 Ey,gmt 23 s0,gmt 23 s3,bY 23 (ku Ou bX),bY 23 (.ixS MT R6),bY 23 (cQ UF (i8 45)),BW 18 JF Ws,fE sX Wt] 5 30) (mI s5 dM))) (r1 [gm s3,aw l0 bX,gm l1] 3 2)))))) (xx qx))))⟩
def w216 {Y:Ctx}(hm:(Y.at 0).bd)(h453:Vd Y)(h454:Sb Y)(s:au)   :dj Y NF (.bool (dJ s)) [.str s]:=by
 show bH _ _ _ [⟨_,_⟩,_,_,_,_,_] _;refine aq ?_;refine aH ?_;intro u0;refine aA ?_;refine ll ?_;refine aE ?_;refine oB 0 ?_;refine ai (hc:=h453 _) ?_;refine aJ ?_;refine ll ?_;refine aD ?_;refine oB (s.length-1) ?_;refine aA ?_;refine cI (fun hc0=>?_) fun hc0=>?_
 ·refine aJ ?_;refine bS ?_;symm;simp only[dJ];rcases hc0 with(h|h)|h
  ·rcases h with h|h<;>simp<;>omega
  ·simp[h]
  ·simp[h]
 refine aJ ?_;refine bh hm (ι:=Nat) (fun i=>[⟨true,.str s⟩,.un,.un,⟨true,.int .i64 (i:Nat)⟩,.un,.un]) (fun i=>[]) 24 (fun i=>i<=s.length/\1<=i/\dJ s=cV (Wx s) i s.length) (fun i=>s.length-i) 1 ⟨ae,ae,by simp only[dJ];rw[cz ae,cz ae,hc0.1.2,dk hc0.2];rfl⟩ (dL []) ?_;rintro i ⟨hi,hi1,hr⟩;refine aJ ?_;intro u1;refine az ?_;refine cI (fun hc1=>?_) fun hc1=>?_
 ·refine aH ?_;refine ai (hc:=h453 _) ?_;refine aJ ?_;refine ai (hc:=h454 _) ?_;refine A2 ?_;refine oB (i-1) ?_;refine aE ?_;refine fA (fun hc2=>?_) fun hc2=>?_
  ·refine aH ?_;refine bS ?_;rw[hr,aV ae];simp only[Wx];revert hc2;generalize ij (at8 s i)=x;generalize bm (at8 s i)=y;by_cases h1:at8 s i=45<;>by_cases h2:at8 s (i-1)=45<;>cases x<;>cases y<;>simp_all
  refine bM ?_;exact⟨i+1,⟨ae,ae,by rw[hr,aV ae];simp only[Wx];revert hc2;generalize ij (at8 s i)=x;generalize bm (at8 s i)=y;by_cases h1:at8 s i=45<;>by_cases h2:at8 s (i-1)=45<;>cases x<;>cases y<;>simp_all⟩,ae,(dL [])⟩
 refine aH ?_;refine bS ?_;rw[hr,cr ae]
def LX (Y:Ctx):Prop:=yp (bt Y 216)
def Gf:aF:=⟨1,9,[⟨1,none⟩,⟨2,none⟩],fH,(sq (rg [gm bq,gm dM] [(1,0),(2,1)]) (sq (sq (r1 [gm s0,pM l0,aS l1 bX,gm l2,eP 3 s0,cD 3 (.lenS l4),cD 3 (et l5 Ew),fE l3 l6,gm l7,eP 8 s0,cD 8 (.lenS l9),cD 8 (et l10 bX),eP 8 gH,gmt 12 s0,bY 12 (.ixS jV bq),bY 12 (cQ lg (i8 48)),BW 8 jm mM,fE l8 og] 3 17) (.cond s3 (sq (rg [gm bq,gm dM] [(1,0),(2,1)]) .ret) .skip)) (sq (r1 [gm bq] 7 0) (sq (sq (r1 [gm bq] 4 0) (.block 0 (.loop (sq (sq (r1 [gm s4,gm s0,pM l1,aS l0 l2] 5 3) (fB s5 0)) (sq (.block 1 (sq (sq (r1 [gm s0,gm s4,HN l0 l1,gx 454 [l2] bQ,jU l3] 6 4) (.cond s6 (sq (rg [gm bq,gm dM] [(1,0),(2,1)]) .ret) .skip)) (r1 [gm s7,gn (.bin .mul l0 (i6 10)),gm s0,gm s4,HN l2 l3,ed l4 (i8 48),gn (.cvi .i64 l5),aw l1 l6,gm l7] 7 8))) (r1 [gm s4,aw l0 bX,gm l1] 4 2)))))) (sq (sq (r1 [gm s7,cZ l0 (i6 9999)] 8 1) (.cond s8 (sq (rg [gm bq,gm dM] [(1,0),(2,1)]) .ret) .skip)) (sq (rg [gm s7,gm l0,gm qx] [(1,1),(2,2)]) .ret))))))⟩
def w667 {Y:Ctx}(hm:(Y.at 0).bd)(h454:Sb Y)(s:au)   :dj Y Gf (.tup [.int .i64 (eV s),.bool (gW s)]) [.str s]:=by
 show bH _ _ _ [⟨_,_⟩,_,_,_,_,_,_,_,_] _;refine aq ?_;refine aY ?_;intro u0;refine aA ?_;refine ll ?_;refine aE ?_;refine ll ?_;refine aA ?_;refine oB 0 ?_;refine aE ?_;refine cI (fun hc0=>?_) fun hc0=>?_
 ·refine aH ?_;refine bL (aM (ar (D.int .i64) ?_) (ar D.bool ?_));all_goals
   have:gW s=false:=by
    simp only[gW];rcases hc0 with(h|h)|h
    ·rw[dk (by omega:¬1<=s.length)];rfl
    ·rw[dk (by omega:¬s.length<=9)];simp
    ·rw[cz (by omega:1<s.length),cz h.2];simp
   simp[eV,this]
 refine bM ?_;have hP:gW s=(cV (fun i=>bm (at8 s i)) 0 s.length&&decide (ee s<=9999)):=by
  simp only[gW];rw[cz (by omega:1<=s.length),cz (by omega:s.length<=9)];rcases hc0.2 with h|h
  ·rw[dk (by omega:¬1<s.length)];rfl
  ·rw[dk h,Bool.and_false];rfl
 refine bh hm (ι:=Nat) (fun i=>[⟨true,.str s⟩,.un,.un,.un,⟨true,.int .i64 (i:Nat)⟩,.un,.un,⟨true,.int .i64 (ee (s.take i):Nat)⟩,.un]) (fun i=>[]) 22 (fun i=>i<=s.length/\s.length<=9/\gW s=(cV (fun i=>bm (at8 s i)) i s.length&&decide (ee s<=9999))) (fun i=>s.length-i) 0 ⟨ae,ae,hP⟩ (dL []) ?_;rintro i ⟨hi,h9,hr⟩;refine aJ ?_;intro u1;refine az ?_;refine cI (fun hc1=>?_) fun hc1=>?_
 ·refine aY ?_;refine ai (hc:=h454 _) ?_;refine az ?_;refine av (fun hc2=>?_) (fun hc2=>?_)
  ·try simp only[eE]at hc2
   refine bM ?_;refine bL (aM (ar (D.int .i64) ?_) (ar D.bool ?_));all_goals
    have:gW s=false:=by rw[hr,aV ae,hc2];rfl
    simp[eV,this]
  simp only[b6]at hc2;refine az ?_;have h48:=hc2;simp only[bm,bw,aW]at h48;have hn:=uR s i ae;have hn2:=w9 s i ae;have h256:=vu s i;refine aD ?_;refine oC ?_;refine aA ?_;refine tP (at8 s i-48) (hb:=fun _=>IntWalk.u8_in _ ae) ?_;refine oA (at8 s i-48) (hb:=fun _=>IntWalk.i64_in _ ae) ?_;refine aA ?_;rw[show(ee (s.take i):Int)*10+(at8 s i-48)=(ee (s.take (i+1)):Nat)by omega];refine aY ?_;exact⟨i+1,⟨ae,h9,by rw[hr,aV ae,hc2];rfl⟩,ae,(dL [])⟩
 refine aE ?_;have ht:s.take i=s:=ek ae;rw[ht];refine aA ?_;refine cI (fun hc3=>?_) fun hc3=>?_
 ·refine aH ?_;refine bL (aM (ar (D.int .i64) ?_) (ar D.bool ?_));all_goals
   have:gW s=false:=by rw[hr,dk ae,Bool.and_false]
   simp[eV,this]
 refine aY ?_;refine bL (aM (ar (D.int .i64) ?_) (ar D.bool ?_));all_goals
  have:gW s=true:=by rw[hr,cr ae,cz ae];rfl
  simp[eV,this]
def Sj (Y:Ctx):Prop:=yL (bt Y 667)
def D5:aF:=⟨1,5,gV,bQ,(sq (r1 [gm dM] 1 0) (sq (sq (r1 [gm bq] 2 0) (.block 0 (.loop (sq (sq (r1 [gm s2,gm s0,pM l1,aS l0 l2] 3 3) (fB s3 0)) (sq (.block 1 (sq (r1 [gm s0,gm s2,HN l0 l1,aS l2 (i8 48),gm l3,eP 4 s0,eP 4 s2,cD 4 (.ixS l5 l6),cD 4 (et l7 (i8 57)),fE l4 l8] 4 9) (mI s4 dM))) (r1 [gm s2,aw l0 bX,gm l1] 2 2)))))) (sq (r1 [gm s0,pM l0,cZ l1 bq,gm l2] 1 3) .ret)))⟩
def w668 {Y:Ctx}(hm:(Y.at 0).bd)  (t:au)   :dj Y D5 (.bool (cR t)) [.str t]:=by
 show bH _ _ _ [⟨_,_⟩,_,_,_,_] _;refine aq ?_;refine aH ?_;refine bh hm (ι:=Nat) (fun i=>[⟨true,.str t⟩,.un,⟨true,.int .i64 (i:Nat)⟩,.un,.un]) (fun i=>[]) 2 (fun i=>i<=t.length/\cV (fun i=>bm (at8 t i)) 0 t.length=cV (fun i=>bm (at8 t i)) i t.length) (fun i=>t.length-i) 0 ⟨ae,rfl⟩ (dL []) ?_;rintro i ⟨hi,hr⟩;refine aJ ?_;intro u0;refine az ?_;refine cI (fun hc0=>?_) fun hc0=>?_
 ·refine AZ ?_;refine fA (fun hc1=>?_) fun hc1=>?_
  ·refine aH ?_;refine bS ?_;simp only[cR];rw[hr,aV ae];rcases hc1 with h|h<;>simp[bm]<;>omega
  refine bM ?_;exact⟨i+1,⟨ae,by rw[hr,aV ae];rw[show bm (at8 t i)=true by simp only[bm,bw,aW];omega];rfl⟩,ae,(dL [])⟩
 refine aJ ?_;intro u1;refine aE ?_;refine bS ?_;simp only[cR];rw[hr,cr ae];simp
def Vr (Y:Ctx):Prop:=yM (bt Y 668)
def Rj:aF:=⟨1,7,gV,bQ,(sq (r1 [gm dM] 1 0) (sq (sq (r1 [gm s0,pM l0,aS l1 bX,gm l2,eP 3 s0,cD 3 (.lenS l4),cD 3 (et l5 Fj),fE l3 l6] 2 7) (mI s2 dM)) (sq (sq (r1 [gm bq] 3 0) (.block 0 (.loop (sq (sq (r1 [gm s3,gm s0,pM l1,aS l0 l2] 4 3) (fB s4 0)) (sq (.block 1 (sq (r1 [gm s0,gm s3,HN l0 l1,gm l2] 5 3) (sq (r1 [gm s5,aS l0 (i8 97),gm l1,eP 2 s5,cD 2 (et l3 (i8 122)),fE l2 l4,gm l5,gmt 6 s5,bY 6 (nO l7 (i8 48)),gmt 6 l8,eP 9 s5,cD 9 (et l10 (i8 57)),Uy 6 l9 gH,eL l6 jm,gm jV,gmt 14 s5,bY 14 (eX mM (i8 45)),eL lg og] 6 17) (mI s6 dM)))) (r1 [gm s3,aw l0 bX,gm l1] 3 2)))))) (xx qx))))⟩
def w666 {Y:Ctx}(hm:(Y.at 0).bd)  (t:au)   :dj Y Rj (.bool (rS t)) [.str t]:=by
 show bH _ _ _ [⟨_,_⟩,_,_,_,_,_,_] _;refine aq ?_;refine aH ?_;intro u0;refine aA ?_;refine ll ?_;refine aA ?_;refine cI (fun hc0=>?_) fun hc0=>?_
 ·refine aJ ?_;refine bS ?_;symm;simp only[rS,dT,bD];exact Or.inl ae
 refine aJ ?_;refine bh hm (ι:=Nat) (fun i=>[⟨true,.str t⟩,.un,.un,⟨true,.int .i64 (i:Nat)⟩,.un,.un,.un]) (fun i=>[]) 10 (fun i=>i<=t.length/\rS t=cV (fun i=>nw (at8 t i)) i t.length) (fun i=>t.length-i) 0 ⟨ae,by simp only[rS];rw[cz ae,cz ae];rfl⟩ (dL []) ?_;rintro i ⟨hi,hr⟩;refine aJ ?_;intro u1;refine az ?_;refine cI (fun hc1=>?_) fun hc1=>?_
 ·refine R2 ?_;refine fA (fun hc2=>?_) fun hc2=>?_
  ·refine aH ?_;refine bS ?_;rw[hr,aV ae];have:nw (at8 t i)=false:=(by simp only[nw,ij,bm,dW,dT,bD];omega);rw[this];rfl
  refine bM ?_;exact⟨i+1,⟨ae,by rw[hr,aV ae];have:nw (at8 t i)=true:=(by simp only[nw,ij,bm,dh,bw,aW];omega);rw[this];rfl⟩,ae,(dL [])⟩
 refine aH ?_;refine bS ?_;rw[hr,cr ae]
def Lt (T:List D->D->Prop):Prop:=∀(t:au),T [.str t] (.bool (rS t))
def YC (Y:Ctx):Prop:=Lt (bt Y 666)
def NJ:aF:=⟨2,11,[⟨2,none⟩],bQ,(sq (r1 [gm dM] 2 0) (sq (sq (r1 [gm s0,aL l0 cse] 3 1) (.cond s3 (sq (r1 [gm qx] 2 0) .ret) .skip)) (sq (r1 [gm s0,gx 470 [l0,(i8 46)] fH,gm l1] 4 2) (sq (sq (r1 [gm s4,gl l0,cZ l1 sg] 5 2) (.cond s5 (sq (r1 [gm dM] 2 0) .ret) .skip)) (sq (sq (r1 [gm bq] 6 0) (.block 0 (.loop (sq (sq (r1 [gm s6,gm s4,gl l1,aS l0 l2] 7 3) (fB s7 0)) (sq (.block 1 (sq (sq (r1 [gm s4,gm s6,ga 1 l0 l1,gd l2,gx 666 [l3] bQ,jU l4] 8 5) (.cond s8 (sq (r1 [gm dM] 2 0) .ret) .skip)) (sq (r1 [gm s4,gm s6,ga 1 l0 l1,gd l2,gx 667 [l3] bQ,gm l4,ge l5 0,ge l5 1,gm l6,gm l7] 9 9) (sq (r1 [gm s1,gm l0,gmt 1 s4,gmt 1 s6,bY 1 (.ia 1 l2 l3),lr 1 l4,bY 1 (.call 668 [l5] bQ),eL l1 l6,gm l7,gmt 8 s9,bY 8 (.un .not l9),eL l8 l10] 10 11) (.cond jf (sq (r1 [gm dM] 2 0) .ret) .skip))))) (r1 [gm s6,aw l0 bX,gm l1] 6 2)))))) (sq (r1 [gm qx] 2 0) .ret))))))⟩
def w456 {Y:Ctx}(hm:(Y.at 0).bd)(h470:Hn Y)(h666:YC Y)(h667:Sj Y)(h668:Vr Y)(s:au)(p:Bool)  (hp0:s.length<=1048576):dj Y NJ (.bool (rT s p)) [.str s,.bool p]:=by
 show bH _ _ _ [⟨_,_⟩,⟨_,_⟩,_,_,_,_,_,_,_,_,_] _;refine aq ?_;refine aY ?_;refine cI (fun hc0=>?_) fun hc0=>?_
 ·refine aJ ?_;refine bS ?_;simp[rT,hc0]
 refine aA ?_;refine ai (hc:=h470 _ _ ?_) ?_;rotate_left;first|assumption|omega;have hlen:=dD s 46
 refine aH ?_;intro u0;refine az ?_;refine av (fun hc1=>?_) (fun hc1=>?_)
 ·try simp only[eE]at hc1
  refine aJ ?_;refine bS ?_;simp only[rT,oF];rw[dk hc0,dk ae];rfl
 simp only[bD]at hc1;refine aJ ?_;refine bh hm (ι:=Nat) (fun i=>[⟨true,.str s⟩,⟨true,.bool p⟩,.un,.un,⟨true,.sl 1 ((ak s 46).map D.str)⟩,.un,⟨true,.int .i64 (i:Nat)⟩,.un,.un,.un,.un]) (fun i=>[]) 10 (fun i=>i<=(ak s 46).length/\rT s p=cV (fun i=>iz p (ak s 46)[i]!) i (ak s 46).length) (fun i=>(ak s 46).length-i) 0 ⟨ae,by simp only[rT,oF];rw[dk hc0,cz ae];rfl⟩ (dL []) ?_;rintro i ⟨hi,hr⟩;refine aJ ?_;intro u1;refine az ?_;refine cI (fun hc2=>?_) fun hc2=>?_
 ·refine bM ?_;refine ai (hc:=h666 _) ?_;refine az ?_;refine av (fun hc3=>?_) (fun hc3=>?_)
  ·simp only[bE]at hc3;refine aY ?_;refine bS ?_;rw[hr,aV ae];simp only[iz,hc3];rfl
  simp only[b6]at hc3;refine aH ?_;refine ai (hc:=h667 _) ?_;refine na ?_;refine ai (hc:=h668 _) ?_;refine aH ?_;refine wp_cond (fun hc4=>?_) (fun hc4=>?_)
  ·skip
   refine aH ?_;refine bS ?_;have h5:iz p (ak s 46)[i]! =false:=(by simp only[iz,hc3];revert hc4;generalize cR (ak s 46)[i]! =a;generalize gW (ak s 46)[i]! =b;cases p<;>cases a<;>cases b<;>simp);rw[hr,aV ae,h5];rfl
  skip
  refine bM ?_;exact⟨i+1,⟨ae,by rw[hr,aV ae];have h5:iz p (ak s 46)[i]! =true:=(by simp only[iz,hc3];revert hc4;generalize cR (ak s 46)[i]! =a;generalize gW (ak s 46)[i]! =b;cases p<;>cases a<;>cases b<;>simp);rw[h5];rfl⟩,ae,(dL [])⟩
 refine aH ?_;refine bS ?_;rw[hr,cr ae]
def K4 (T:List D->D->Prop):Prop:=∀(s:au) (p:Bool),(s.length<=1048576)->T [.str s,.bool p] (.bool (rT s p))
def Yb (Y:Ctx):Prop:=K4 (bt Y 456)
def Rh:aF:=⟨1,2,gV,bQ,(sq (r1 [gm dM] 1 0) (sq (r1 [gm s0,fY l0 bq,gm l1,gmt 2 s0,bY 2 (mX l3 (i6 9999)),eL l2 l4,gm l5] 1 6) .ret))⟩
def w455 {Y:Ctx}(hm:(Y.at 0).bd)  (n:Int)   :dj Y Rh (.bool (pW n)) [.int .i64 n]:=by
 show bH _ _ _ [⟨_,_⟩,_] _;refine aq ?_;refine gG ?_;exact bS rfl
def Ya (Y:Ctx):Prop:=yz (bt Y 455)
def Rg:aF:=⟨1,3,gV,bQ,(sq (rg [gb 5 s0,gm dM] [(2,0),(1,1)]) (sq (r1 [gf 0 s2,gd l0,gx 455 [l1] bQ,gm l2,mL 3 1 s2,lr 3 l4,bY 3 (.call 455 [l5] bQ),eL l3 l6,gm l7,mL 8 2 s2,lr 8 l9,bY 8 (.call 455 [l10] bQ),eL l8 gH,gm jm,mL 13 3 s2,lr 13 lg,bY 13 (.call 456 [mM,qx] fH),eL jV og,gm rl,mL 18 4 s2,lr 18 uh,bY 18 (.call 456 [zJ,dM] fH),eL sX Bf,gm Ey] 1 23) .ret))⟩
def w217 {Y:Ctx}(hm:(Y.at 0).bd)(h455:Ya Y)(h456:Yb Y)(v:cY)  (hp0:v.sm):dj Y Rg (.bool (eY v)) [cY.D v]:=by
 show bH _ _ _ [⟨_,_⟩,_,_] _;refine aq ?_;refine aH ?_;refine ai (hc:=h455 _) ?_;refine aA ?_;refine ai (hc:=h455 _) ?_;refine aE ?_;refine ai (hc:=h455 _) ?_;refine aE ?_;refine dc (hc:=fun hf=>h456 v.pre true hp0.1) ?_;refine aE ?_;refine dc (hc:=fun hf=>h456 v.build false hp0.2) ?_;refine aE ?_;exact bS rfl
def LY (Y:Ctx):Prop:=yq (bt Y 217)
def D4:aF:=⟨1,4,gV,bQ,(sq (rg [gb 5 s0,gm cse] [(2,0),(1,1)]) (sq (r2 [gf 0 s2,gd l0,gx 734 [l1] bQ,aw l2 (cs [46]),gf 1 s2,gd l4,gx 734 [l5] bQ,aw l3 l6,gm l7] 3 8) (sq (r1 [gm s3,aw l0 (cs [46]),gf 2 s2,gd l2,gx 734 [l3] bQ,aw l1 l4,gm l5] 1 6) .ret)))⟩
def w554 {Y:Ctx}(hm:(Y.at 0).bd)(h734:Vx Y)(v:cY)  (hp0:pW v.major=true/\pW v.minor=true/\pW v.patch=true):dj Y D4 (.str (dC v.major.toNat++[46]++dC v.minor.toNat++[46]++dC v.patch.toNat)) [cY.D v]:=by
 show bH _ _ _ [⟨_,_⟩,_,_,_] _;obtain⟨hq1,hq2,hq3⟩:=hp0;simp only[pW,bw,aW]at hq1 hq2 hq3;have hl1:=eo 4 v.major.toNat ae ae;have hl2:=eo 4 v.minor.toNat ae ae;have hl3:=eo 4 v.patch.toNat ae ae;refine aq ?_;refine aH ?_;refine ai (hc:=h734 _ ?_) ?_;rotate_left;first|assumption|omega
 refine c8 (hb:=fun _=>cH) ?_;refine az ?_;refine ai (hc:=h734 _ ?_) ?_;rotate_left;first|assumption|omega
 refine c8 (hb:=fun _=>cH) ?_;refine aE ?_;refine c8 (hb:=fun _=>cH) ?_;refine az ?_;refine ai (hc:=h734 _ ?_) ?_;rotate_left;first|assumption|omega
 refine c8 (hb:=fun _=>cH) ?_;refine aA ?_;exact cT rfl
def Lr (T:List D->D->Prop):Prop:=∀(v:cY),(pW v.major=true/\pW v.minor=true/\pW v.patch=true)->T [cY.D v] (.str (dC v.major.toNat++[46]++dC v.minor.toNat++[46]++dC v.patch.toNat))
def Yz (Y:Ctx):Prop:=Lr (bt Y 554)
def IF:aF:=⟨1,7,gV,bQ,(sq (rg [gb 5 s0,gm cse] [(2,0),(1,1)]) (sq (sq (r1 [gk 5 true s2,gx 217 [l0] zF,jU l1] 3 2) (mI s3 cse)) (sq (r1 [gk 5 true s2,gx 554 [l0] zF,gm l1] 5 2) (sq (sq (r1 [gf 3 s2,gd l0,b7 l1 cse] 4 2) (.cond s4 (r1 [gm s5,aw l0 (cs [45]),gf 3 s2,gd l2,aw l1 l3,gm l4] 5 5) .skip)) (sq (sq (r1 [gf 4 s2,gd l0,b7 l1 cse] 6 2) (.cond s6 (r1 [gm s5,aw l0 (cs [43]),gf 4 s2,gd l2,aw l1 l3,gm l4] 5 5) .skip)) (sq (r1 [gm s5,gm l0] 1 1) .ret))))))⟩
def w316 {Y:Ctx}(hm:(Y.at 0).bd)(h217:LY Y)(h554:Yz Y)(v:cY)  (hp0:v.sm):dj Y IF (.str (j3 v)) [cY.D v]:=by
 show bH _ _ _ [⟨_,_⟩,_,_,_,_,_,_] _;obtain⟨hs1,hs2⟩:=hp0;have hp0:v.sm:=⟨hs1,hs2⟩;refine aq ?_;refine aH ?_;refine ai (hc:=h217 _ ?_) ?_;rotate_left;first|assumption|omega
 refine az ?_;refine av (fun hc0=>?_) (fun hc0=>?_)
 ·simp only[bE]at hc0;refine aJ ?_;refine cT ?_;simp[j3,hc0]
 simp only[b6]at hc0;refine az ?_;have hv:=hc0;simp only[eY,bw]at hv;obtain⟨⟨⟨⟨hv1,hv2⟩,hv3⟩,_⟩,_⟩:=hv;have hq1:=hv1;have hq2:=hv2;have hq3:=hv3;simp only[pW,bw,aW]at hq1 hq2 hq3;have hl1:=eo 4 v.major.toNat ae ae;have hl2:=eo 4 v.minor.toNat ae ae;have hl3:=eo 4 v.patch.toNat ae ae;refine aD ?_;refine ai (hc:=h554 v ⟨hv1,hv2,hv3⟩) ?_;refine bM ?_;refine cI (fun hc1=>?_) fun hc1=>?_
 ·refine az ?_;refine c8 (hb:=fun _=>cH) ?_;refine az ?_;refine c8 (hb:=fun _=>cH) ?_;refine bM ?_;refine cI (fun hc2=>?_) fun hc2=>?_
  ·refine az ?_;refine c8 (hb:=fun _=>cH) ?_;refine az ?_;refine c8 (hb:=fun _=>cH) ?_;refine aY ?_;refine cT ?_;simp[j3,sO,hc0,hc1,hc2]
  refine aH ?_;refine cT ?_;simp[j3,sO,hc0,hc1,hc2]
 refine aY ?_;refine cI (fun hc2=>?_) fun hc2=>?_
 ·refine az ?_;refine c8 (hb:=fun _=>cH) ?_;refine az ?_;refine c8 (hb:=fun _=>cH) ?_;refine aY ?_;refine cT ?_;simp[j3,sO,hc0,hc1,hc2]
 refine aH ?_;refine cT ?_;simp[j3,sO,hc0,hc1,hc2]
def XW (Y:Ctx):Prop:=yD (bt Y 316)
def NO:aF:=⟨2,3,[⟨2,none⟩],bQ,(sq (r1 [gm (iu 0)] 2 0) (sq (r1 [gm s0,gm s1,gn (.bin .shl l0 l1),gm s0,gm s1,ed (iu 64) l4,gn (.bin .shr l3 l5),JO l2 l6,gm l7] 2 8) .ret))⟩
def w464 {Y:Ctx}(hm:(Y.at 0).bd)  (h:Int)(n:Nat)  (hp0:n<=63):dj Y NO (.int .u64 (W9 h n)) [.int .u64 h,.int .u64 (n:Nat)]:=by
 show bH _ _ _ [⟨_,_⟩,⟨_,_⟩,_] _;refine aq ?_;refine aJ ?_;refine J8 (uY h n) (hb:=fun _=>by rw[show min (Int.toNat (n:Int)) (IntKind.bits .u64)=n by simp[IntKind.bits];omega];rfl) ?_;refine az ?_;refine tP ((64-n:Nat):Int) (hb:=fun _=>by rw[IntKind.wrap_u64];omega) ?_;refine uS (sY h (64-n)) (hb:=fun _=>by rw[show min (Int.toNat ((64-n:Nat):Int)) (IntKind.bits .u64)=64-n by simp[IntKind.bits]];rfl) ?_;refine J4 (W9 h n) (hb:=fun _=>rfl) ?_;refine aA ?_;refine bL (ar (D.int .u64) ?_);rfl
def La (T:List D->D->Prop):Prop:=∀(h:Int) (n:Nat),(n<=63)->T [.int .u64 h,.int .u64 (n:Nat)] (.int .u64 (W9 h n))
def Yj (Y:Ctx):Prop:=La (bt Y 464)
def Ro:aF:=⟨1,5,gV,bQ,(sq (r1 [gm (iu 0)] 1 0) (sq (r1 [gm (iu 11400714819323198485)] 4 0) (sq (sq (r1 [gm bq] 2 0) (.block 0 (.loop (sq (sq (r1 [gm s2,gm s0,gl l1,aS l0 l2] 3 3) (fB s3 0)) (sq (.block 1 (r1 [gm s4,gm s0,gm s2,ga 1 l1 l2,gd l3,gn (.cvi .u64 l4),gn (.bin .xor l0 l5),gx 464 [l6,(iu 13)] fH,gn (.bin .mul l7 (iu 18397679294719823053)),gm l8] 4 9)) (r1 [gm s2,aw l0 bX,gm l1] 2 2)))))) (sq (r1 [gm s4,gm s4,gn (.bin .shr l1 (iu 29)),gn (.bin .xor l0 l2),gm l3] 1 4) .ret))))⟩
def w221 {Y:Ctx}(hm:(Y.at 0).bd)(h464:Yj Y)(s:au)   :dj Y Ro (.int .u64 (GA s)) [.sl 1 ((s).map fun b=>D.int .u8 b.toNat)]:=by
 show bH _ _ _ [⟨_,_⟩,_,_,_,_] _;refine aq ?_;refine cW ?_;refine bh hm (ι:=Nat) (fun i=>[⟨true,.sl 1 (s.map fun b=>D.int .u8 b.toNat)⟩,.un,⟨true,.int .i64 (i:Nat)⟩,.un,⟨true,.int .u64 (wy (s.take i))⟩]) (fun i=>[]) 3 (fun i=>i<=s.length) (fun i=>s.length-i) 0 ae (dL []) ?_;intro i hi;refine aJ ?_;intro u0;refine az ?_;refine cI (fun hc0=>?_) fun hc0=>?_
 ·refine aY ?_;refine b8 (v:=.int .u8 (at8 s i)) (hv:=fun _=>ld8 s i) ?_;refine oA (at8 s i) (hb:=fun _=>by have:=vu s i;rw[IntKind.wrap_u64];omega) ?_;refine DS (AX (wy (s.take i)) (at8 s i)) (hb:=fun _=>rfl) ?_;refine ai (hc:=h464 _ 13 ae) ?_;refine Q8 (wy (s.take (i+1))) (hb:=fun _=>by rw[CH s i ae];rfl) ?_;refine cW ?_;exact⟨i+1,ae,ae,(dL [])⟩
 refine aA ?_;have ht:s.take i=s:=ek ae;rw[ht];refine az ?_;refine uS (sY (wy s) 29) (hb:=fun _=>rfl) ?_;refine DS (GA s) (hb:=fun _=>rfl) ?_;refine aA ?_;refine bL (ar (D.int .u64) ?_);rfl
def XK (Y:Ctx):Prop:=yv (bt Y 221)
def EW:aF:=⟨1,12,[⟨1,none⟩,⟨2,none⟩],fH,(sq (rg [gm (iu 0),gm dM] [(1,0),(2,1)]) (sq (sq (r1 [gm s0,pM l0,b7 l1 (i6 16)] 3 2) (.cond s3 (sq (rg [gm (iu 0),gm dM] [(1,0),(2,1)]) .ret) .skip)) (sq (r1 [gm (iu 0)] 10 0) (sq (sq (rg [gm s0,pM l0,gm bq] [(5,1),(4,2)]) (.block 0 (.loop (sq (r1 [aS s4 s5] 6 0) (sq (fB s6 0) (sq (.block 1 (sq (r1 [gm s4,gm l0] 7 1) (sq (r1 [gm s0,gm s7,HN l0 l1,gm l2] 8 3) (.block 2 (sq (r1 [gm s8,fY l0 (i8 48),gm l1,gmt 2 s8,bY 2 (mX l3 (i8 57)),eL l2 l4,gm l5] 9 6) (.cond s9 (r1 [gm jf,gn (.bin .shl l0 (iu 4)),gm s8,ed l2 (i8 48),gn (.cvi .u64 l3),JO l1 l4,gm l5] 10 6) (sq (r1 [gm s8,fY l0 (i8 97),gm l1,gmt 2 s8,bY 2 (mX l3 (i8 102)),eL l2 l4,gm l5] 11 6) (.cond k9 (r1 [gm jf,gn (.bin .shl l0 (iu 4)),gm s8,ed l2 (i8 97),aw l3 (i8 10),gn (.cvi .u64 l4),JO l1 l5,gm l6] 10 7) (sq (rg [gm (iu 0),gm dM] [(1,0),(2,1)]) .ret))))))))) (r1 [aw s4 bX,gm l0] 4 1))))))) (sq (rg [gm jf,gm l0,gm qx] [(1,1),(2,2)]) .ret)))))⟩
def w499 {Y:Ctx}(hm:(Y.at 0).bd)  (s:au)   :dj Y EW (.tup [.int .u64 (n6 s),.bool (kN s)]) [.str s]:=by
 show bH _ _ _ [⟨_,_⟩,_,_,_,_,_,_,_,_,_,_,_] _;refine aq ?_;refine aY ?_;intro u0;refine az ?_;refine cI (fun hc0=>?_) fun hc0=>?_
 ·refine aH ?_;refine bL (aM (ar (D.int .u64) ?_) (ar D.bool ?_));all_goals
   have:kN s=false:=by simp only[kN];rw[dk (by omega:¬s.length=16)];rfl
   simp[n6,this]
 refine bM ?_;intro u1;refine az ?_;have h16:s.length=16:=ae;have hP:kN s=cV (fun i=>nU (at8 s i)) 0 s.length:=by simp only[kN];rw[cz h16];rfl
 refine bh hm (ι:=Nat) (fun i=>[⟨true,.str s⟩,.un,.un,.un,⟨true,.int .i64 (i:Nat)⟩,⟨true,.int .i64 (s.length:Nat)⟩,.un,.un,.un,.un,⟨true,.int .u64 (qu (s.take i))⟩,.un]) (fun i=>[]) 9 (fun i=>i<=s.length/\s.length=16/\kN s=cV (fun i=>nU (at8 s i)) i s.length) (fun i=>s.length-i) 0 ⟨ae,h16,hP⟩ (dL []) ?_;rintro i ⟨hi,h16,hr⟩;refine aA ?_;refine cI (fun hc1=>?_) fun hc1=>?_
 ·refine R1 ?_;refine fA (fun hc2=>?_) fun hc2=>?_
  ·refine aD ?_;have h256:=vu s i;have hz:nU (at8 s i)=true:=by simp only[nU,bm,dh,bw,aW];omega
   have hv:HP (at8 s i)=at8 s i-48:=by unfold HP;rw[ax (by simp only[bm,bw,aW];omega)]
   refine aD ?_;refine J8 (uY (qu (s.take i)) 4) (hb:=fun _=>by rw[show min (Int.toNat (4:Int)) (IntKind.bits .u64)=4 by simp[IntKind.bits]];rfl) ?_;refine aD ?_;refine tP (at8 s i-48) (hb:=fun _=>IntWalk.u8_in _ ae) ?_;refine oA (at8 s i-48) (hb:=fun _=>by rw[IntKind.wrap_u64];omega) ?_;refine J4 (qu (s.take (i+1))) (hb:=fun _=>by rw[Au s i ae];unfold rI;rw[hv];rfl) ?_;refine cW ?_;exact⟨i+1,⟨ae,h16,by rw[hr,aV ae,hz];rfl⟩,ae,(dL [])⟩
  refine cW ?_;refine fA (fun hc3=>?_) fun hc3=>?_
  ·refine aD ?_;have h256:=vu s i;have hz:nU (at8 s i)=true:=by simp only[nU,bm,dh,bw,aW];omega
   have hv:HP (at8 s i)=at8 s i-87:=by unfold HP;rw[aj (by simp only[bm,bw,aW];omega)]
   refine aD ?_;refine J8 (uY (qu (s.take i)) 4) (hb:=fun _=>by rw[show min (Int.toNat (4:Int)) (IntKind.bits .u64)=4 by simp[IntKind.bits]];rfl) ?_;refine aD ?_;refine tP (at8 s i-97) (hb:=fun _=>IntWalk.u8_in _ ae) ?_;refine An (at8 s i-87) (hb:=fun _=>by rw[show at8 s i-97+10=at8 s i-87 by omega];exact IntWalk.u8_in _ ae) ?_;refine oA (at8 s i-87) (hb:=fun _=>by rw[IntKind.wrap_u64];omega) ?_;refine J4 (qu (s.take (i+1))) (hb:=fun _=>by rw[Au s i ae];unfold rI;rw[hv];rfl) ?_;refine cW ?_;exact⟨i+1,⟨ae,h16,by rw[hr,aV ae,hz];rfl⟩,ae,(dL [])⟩
  refine bM ?_;refine bL (aM (ar (D.int .u64) ?_) (ar D.bool ?_));all_goals
   have hz:nU (at8 s i)=false:=by simp only[nU,bm,dW,dT,bD];omega
   have:kN s=false:=by rw[hr,aV ae,hz];rfl
   simp[n6,this]
 refine bM ?_;refine bL (aM (ar (D.int .u64) ?_) (ar D.bool ?_));all_goals
  have:kN s=true:=by rw[hr,cr ae]
  have ht:s.take i=s:=ek ae;simp[n6,this,ht]
def Lo (T:List D->D->Prop):Prop:=∀(s:au),T [.str s] (.tup [.int .u64 (n6 s),.bool (kN s)])
def Ys (Y:Ctx):Prop:=Lo (bt Y 499)
def Bs:aF:=⟨1,18,[⟨1,some (5,true)⟩,⟨2,none⟩],[[.a,.a,.a,.a,.a],[.a]],(sq (rg [gb 5 (.c (.agg [.int .i64 0,.int .i64 0,.int .i64 0,.str [],.str []])),gm bq] [(1,0),(2,1)]) (sq (r1 [gb 5 (.c (.agg [.int .i64 0,.int .i64 0,.int .i64 0,.str [],.str []]))] 4 0) (sq (r1 [gm s0,gm l0] 3 1) (sq (r1 [gm s3,gx 675 [l0,(i8 43)] fH,gm l1,ge l2 0,ge l2 1,gf 4 s4,gt 1 l5 l3,gm l4] 3 7) (sq (r1 [gm s3,gx 675 [l0,(i8 45)] fH,gm l1,ge l2 0,ge l2 1,gf 3 s4,gt 1 l5 l3,gm l4] 3 7) (sq (r1 [gm s3,gx 533 [l0,(i8 46)] fH,gm l1] 5 2) (sq (sq (r1 [gm s5,gl l0,b7 l1 kn] 6 2) (.cond s6 (sq (r1 [gn (.build [.int .i64 0,.int .i64 0,.int .i64 0,.str [],.str []] []),gt 5 s1 l0,gm Hf] 2 2) .ret) .skip)) (sq (r1 [gb 3 (.c (.agg [.int .i64 0,.int .i64 0,.int .i64 0]))] 16 0) (sq (sq (rg [gm s5,gl l0,gm bq] [(10,0),(8,1),(7,2)]) (.block 0 (.loop (sq (r1 [aS s7 s8] 9 0) (sq (fB s9 0) (sq (.block 1 (sq (rg [gm s7,ga 1 jf s7,gd l1,gm l0,gm l2] [(14,3),(11,4)]) (sq (rg [gm k9,gx 658 [l0] bQ,gm l1,ge l2 0,ge l2 1,gm l3,gm l4] [(15,5),(12,6)]) (sq (sq (r1 [gm lv,jU l0] 13 1) (.cond qG (sq (r1 [gn (.build [.int .i64 0,.int .i64 0,.int .i64 0,.str [],.str []] []),gt 5 s1 l0,gm Hf] 2 2) .ret) .skip)) (rg [gm rN,gm xI,gn (.iaP 3 1 Bo l0),gt 1 l2 l1] []))))) (r1 [aw s7 bX,gm l0] 7 1))))))) (sq (rt [gn (.iaP 3 1 Bo bq),gd l0,gn (.iaP 3 1 Bo bX),gn (.ldI 1 false l2),gn (.iaP 3 1 Bo kl),gn (.ldI 1 false l4),gf 0 s4,gt 1 l6 l1,gf 1 s4,gt 1 l8 l3,gf 2 s4,gt 1 l10 l5] []) (sq (sq (r1 [gk 5 true s4,gx 209 [l0] zF,jU l1,gm l2,cD 3 (.ld 5 true s4),cD 3 (.call 451 [l4] zF),eP 3 s0,cD 3 (eX l5 l6),fE l3 l7] 17 8) (.cond D9 (sq (r1 [gn (.build [.int .i64 0,.int .i64 0,.int .i64 0,.str [],.str []] []),gt 5 s1 l0,gm Hf] 2 2) .ret) .skip)) (sq (r1 [gk 5 true s4,gt 5 s1 l0,gm bq] 2 2) .ret))))))))))))⟩
def w466 {Y:Ctx}(hm:(Y.at 0).bd)(h209:Hj Y)(h451:Vc Y)(h533:L0 Y)(h658:OE Y)(h675:YH Y)(s:au)  (hp0:s.length<=1048576):dj Y Bs (.tup [cY.D ((pJ s).getD lj),.int .i64 (Br s)]) [.str s]:=by
 show bH _ _ _ [⟨_,_⟩,_,_,_,_,_,_,_,_,_,_,_,_,_,_,_,_,_] _;have hb1:=ou s 43;have fH:=ou (e7 s 43).2 45;generalize hA:e7 s 43=A at hb1 fH;generalize hB:e7 A.2 45=B at fH;have hsl:=dD B.2 46;generalize hL:ak B.2 46=L at hsl;have hq0:pJ s=if L.length=3/\gW L[0]! =true/\gW L[1]! =true/\gW L[2]! =true then(if eY ⟨eV L[0]!,eV L[1]!,eV L[2]!,B.1,A.1⟩=true/\j3 ⟨eV L[0]!,eV L[1]!,eV L[2]!,B.1,A.1⟩=s then some ⟨eV L[0]!,eV L[1]!,eV L[2]!,B.1,A.1⟩else none)else none:=by subst hA;subst hB;subst hL;rfl
 refine aq ?_;refine gG ?_;refine ai (hc:=h675 s 43) ?_;rw[hA];refine aE ?_;refine aU (cY.D ⟨0,0,0,[],A.1⟩) (he:=bj) ?_;refine aE ?_;refine ai (hc:=h675 A.2 45) ?_;rw[hB];refine aE ?_;refine aU (cY.D ⟨0,0,0,B.1,A.1⟩) (he:=bj) ?_;refine aE ?_;refine ai (hc:=h533 B.2 46 ae) ?_;rw[hL];refine aH ?_;intro u0;refine az ?_;refine cI (fun hc0=>?_) fun hc0=>?_
 ·refine az ?_;refine bz (cY.D lj) ?_;refine aE ?_;refine bL (aM ?_ (ar (D.int .i64) ?_));all_goals
   have hq:pJ s=none:=by rw[hq0,aj (fun h=>by have:=h.1;omega)]
   simp only[Br,hq];rfl
 refine bM ?_;intro u1;refine az ?_;refine bh hm (ι:=Nat) (fun i=>[⟨true,.str s⟩,⟨true,.ptr 0 5 0 0⟩,.un,.un,⟨true,.ptr 2 5 0 0⟩,.un,.un,⟨true,.int .i64 (i:Nat)⟩,⟨true,.int .i64 (L.length:Nat)⟩,.un,⟨true,.sl 1 (L.map D.str)⟩,.un,.un,.un,.un,.un,⟨true,.ptr 27 3 0 0⟩,.un]) (fun i=>[(0,.buf 5 [cY.D lj]),(2,.buf 5 [cY.D ⟨0,0,0,B.1,A.1⟩]),(27,.buf 3 [Na L i])]) 31 (fun i=>i<=3/\∀j,j<i->gW L[j]! =true) (fun i=>3-i) 0 ⟨ae,fun j hj=>ae⟩ (dL [(0,0),(2,2),(27,27)]) ?_;rintro i ⟨hi,hr⟩;refine aA ?_;refine cI (fun hc1=>?_) fun hc1=>?_
 ·refine fS ?_;refine ai (hc:=h658 L[i]!) ?_;refine fS ?_;refine av (fun hc2=>?_) (fun hc2=>?_)
  ·simp only[bE]at hc2;refine az ?_;refine bz (cY.D lj) ?_;refine aH ?_;refine bL (aM ?_ (ar (D.int .i64) ?_));all_goals
    have hq:pJ s=none:=by
     rw[hq0,aj];rintro⟨_,h1,h2,h3⟩;rcases(show i=0\/i=1\/i=2 by omega)with rfl|rfl|rfl
     ·rw[h1]at hc2;cases hc2
     ·rw[h2]at hc2;cases hc2
     ·rw[h3]at hc2;cases hc2
    simp only[Br,hq];rfl
  simp only[b6]at hc2;refine aE ?_;refine rE i ?_;refine aU (Na L (i+1)) (he:=FG L i ae) ?_;refine aY ?_;have hr2:∀j,j<i+1->gW L[j]! =true:=by
   intro j hj;rcases Nat.eq_or_lt_of_le (Nat.lt_succ_iff.1 hj)with rfl|h
   ·exact hc2
   ·exact hr j h
  exact⟨i+1,⟨ae,hr2⟩,ae,(dL [(0,0),(2,2),(27,27)])⟩
 refine az ?_;refine ff 27 ?_;refine aD ?_;have h3:i=3:=ae;subst h3;refine Ip 0 ?_;refine fF (v:=.int .i64 (eV L[0]!)) ?_;refine Ip 1 ?_;refine DT (v:=.int .i64 (eV L[1]!)) ?_;refine Ip 2 ?_;refine DT (v:=.int .i64 (eV L[2]!)) ?_;refine aD ?_;refine aU (cY.D ⟨eV L[0]!,0,0,B.1,A.1⟩) (he:=bj) ?_;refine aD ?_;refine aU (cY.D ⟨eV L[0]!,eV L[1]!,0,B.1,A.1⟩) (he:=bj) ?_;refine aD ?_;refine aU (cY.D ⟨eV L[0]!,eV L[1]!,eV L[2]!,B.1,A.1⟩) (he:=bj) ?_;refine aA ?_;have hsm:cY.sm ⟨eV L[0]!,eV L[1]!,eV L[2]!,B.1,A.1⟩:=⟨by simp only;omega,by simp only;omega⟩;generalize hV:(⟨eV L[0]!,eV L[1]!,eV L[2]!,B.1,A.1⟩:cY)=V at hsm hq0⊢;refine aD ?_;refine ai (hc:=h209 V hsm) ?_;refine aA ?_;refine dc (hc:=fun _=>h451 V hsm) ?_;refine aE ?_;refine av (fun hc3=>?_) (fun hc3=>?_)
 ·simp only[dh,bE,bD]at hc3;refine az ?_;refine bz (cY.D lj) ?_;refine aE ?_;refine bL (aM ?_ (ar (D.int .i64) ?_));all_goals
   have hq:pJ s=none:=by
    rw[hq0];split
    ·rw[aj];rintro⟨h1,h2⟩;rcases hc3 with h|h
     ·rw[h1]at h;cases h
     ·exact h h2
    ·rfl
   simp only[Br,hq];rfl
 simp only[dW,b6,aW]at hc3;refine aY ?_;refine bL (aM ?_ (ar (D.int .i64) ?_));all_goals
  have hq:pJ s=some V:=by
   rw[hq0,ax ⟨ae,hr 0 ae,hr 1 ae,hr 2 ae⟩,ax hc3]
  simp only[Br,hq];rfl
def Lb (T:List D->D->Prop):Prop:=∀(s:au),(s.length<=1048576)->T [.str s] (.tup [cY.D ((pJ s).getD lj),.int .i64 (Br s)])
def Yk (Y:Ctx):Prop:=Lb (bt Y 466)
def Iw:aF:=⟨2,6,[⟨2,none⟩],bQ,(sq (r1 [gm bq] 2 0) (sq (sq (r1 [gm bq] 3 0) (.block 0 (.loop (sq (sq (r1 [gm s3,gm s0,gl l1,aS l0 l2] 4 3) (fB s4 0)) (sq (.block 1 (sq (r1 [gm s0,gm s3,ga 2 l0 l1,gf 0 l2,gd l3,gm s1,aL l4 l5] 5 6) (.cond s5 (sq (r1 [gm s3,gm l0] 2 1) .ret) .skip))) (r1 [gm s3,aw l0 bX,gm l1] 3 2)))))) (sq (r1 [gn (.mv (.c (.int .i64 (-1))))] 2 0) .ret)))⟩
def w955 {Y:Ctx}(hm:(Y.at 0).bd)  (l:List cu)(nm:au)   :dj Y Iw (.int .i64 (findF l nm 0)) [.sl 2 (l.map cu.D),.str nm]:=by
 show bH _ _ _ [⟨_,_⟩,⟨_,_⟩,_,_,_,_] _;refine aq ?_;refine aH ?_;refine bh hm (ι:=Nat) (fun i=>[⟨true,.sl 2 (l.map cu.D)⟩,⟨true,.str nm⟩,.un,⟨true,.int .i64 (i:Nat)⟩,.un,.un]) (fun i=>[]) 2 (fun i=>i<=l.length/\findF l nm 0=findF l nm i) (fun i=>l.length-i) 0 ⟨ae,rfl⟩ (dL []) ?_;rintro i ⟨hi,hr⟩;refine aJ ?_;intro u0;refine az ?_;refine cI (fun hc0=>?_) fun hc0=>?_
 ·refine fS ?_;refine fA (fun hc1=>?_) fun hc1=>?_
  ·refine aY ?_;refine cS ?_;rw[hr,E3 ae hc1]
  refine bM ?_;exact⟨i+1,⟨ae,by rw[hr,E4 ae hc1]⟩,ae,(dL [])⟩
 refine aH ?_;refine cS ?_;rw[hr,BT ae]
def y0 (T:List D->D->Prop):Prop:=∀(l:List cu) (nm:au),T [.sl 2 (l.map cu.D),.str nm] (.int .i64 (findF l nm 0))
def Y8 (Y:Ctx):Prop:=y0 (bt Y 955)
def Di:aF:=⟨2,10,[⟨2,none⟩],bQ,(sq (r1 [gm bq] 2 0) (sq (sq (rg [gm s0,gl l0,gm bq] [(6,0),(4,1),(3,2)]) (.block 0 (.loop (sq (r1 [aS s3 s4] 5 0) (sq (fB s5 0) (sq (.block 1 (sq (rg [gm s3,ga 2 s6 s3,gk 2 true l1,gb 2 (.c (.agg [.str [],.aC])),gm l0,gt 2 l3 l2] [(7,3),(9,4)]) (sq (r1 [gf 0 s7,gd l0,gm s1,aL l1 l2] 8 3) (.cond s8 (sq (r1 [gm s9,gm l0] 2 1) .ret) .skip)))) (r1 [aw s3 bX,gm l0] 3 1))))))) (sq (r1 [gn (.mv (.c (.int .i64 (-1))))] 2 0) .ret)))⟩
def w663 {Y:Ctx}(hm:(Y.at 0).bd)  (l:List cu)(nm:au)   :dj Y Di (.int .i64 (findF l nm 0)) [.sl 2 (l.map cu.D),.str nm]:=by
 show bH _ _ _ [⟨_,_⟩,⟨_,_⟩,_,_,_,_,_,_,_,_] _;refine aq ?_;refine aH ?_;intro u0;refine az ?_;refine bh hm (ι:=Nat) (fun i=>[⟨true,.sl 2 (l.map cu.D)⟩,⟨true,.str nm⟩,.un,⟨true,.int .i64 (i:Nat)⟩,⟨true,.int .i64 (l.length:Nat)⟩,.un,⟨true,.sl 2 (l.map cu.D)⟩,.un,.un,.un]) (fun i=>[]) 4 (fun i=>i<=l.length/\findF l nm 0=findF l nm i) (fun i=>l.length-i) 0 ⟨ae,rfl⟩ (dL []) ?_;rintro i ⟨hi,hr⟩;refine aA ?_;refine cI (fun hc0=>?_) fun hc0=>?_
 ·refine aJ ?_;first|refine b8 (v:=(cu.D _)) ?_|refine fF (v:=(cu.D _)) ?_
  refine az ?_;refine aU (cu.D l[i]!) (he:=bj) ?_;refine aY ?_;refine fA (fun hc1=>?_) fun hc1=>?_
  ·refine aY ?_;refine cS ?_;rw[hr,E3 ae hc1]
  refine aY ?_;exact⟨i+1,⟨ae,by rw[hr,E4 ae hc1]⟩,ae,(dL [])⟩
 refine aH ?_;refine cS ?_;rw[hr,BT ae]
def YB (Y:Ctx):Prop:=y0 (bt Y 663)
def Re:aF:=⟨2,3,[⟨2,none⟩],bQ,(sq (r1 [gm dM] 2 0) (sq (r1 [gm s1,aL l0 (cs [100,101,102,97,117,108,116]),gm l1,eP 2 s0,eP 2 s1,cD 2 (.call 955 [l3,l4] [[.sl 2 [.a,.sl 1 [.a]]],[.a]]),cD 2 (sT l5 bq),fE l2 l6,gm l7] 2 8) .ret))⟩
def w816 {Y:Ctx}(hm:(Y.at 0).bd)(h955:Y8 Y)(l:List cu)(nm:au)   :dj Y Re (.bool (Xt l nm)) [.sl 2 (l.map cu.D),.str nm]:=by
 show bH _ _ _ [⟨_,_⟩,⟨_,_⟩,_] _;refine aq ?_;refine bM ?_;refine ai (hc:=h955 _ _) ?_;refine aJ ?_;exact bS rfl
def yX (T:List D->D->Prop):Prop:=∀(l:List cu) (nm:au),T [.sl 2 (l.map cu.D),.str nm] (.bool (Xt l nm))
def Y0 (Y:Ctx):Prop:=yX (bt Y 816)
def Bb:aF:=⟨2,3,[⟨2,none⟩],bQ,(sq (r1 [gm dM] 2 0) (sq (r1 [gm s1,aL l0 (cs [100,101,102,97,117,108,116]),gm l1,eP 2 s0,eP 2 s1,cD 2 (.call 663 [l3,l4] [[.sl 2 [.a,.sl 1 [.a]]],[.a]]),cD 2 (sT l5 bq),fE l2 l6,gm l7] 2 8) .ret))⟩
def w449 {Y:Ctx}(hm:(Y.at 0).bd)(h663:YB Y)(l:List cu)(nm:au)   :dj Y Bb (.bool (Xt l nm)) [.sl 2 (l.map cu.D),.str nm]:=by
 show bH _ _ _ [⟨_,_⟩,⟨_,_⟩,_] _;refine aq ?_;refine bM ?_;refine ai (hc:=h663 _ _) ?_;refine aJ ?_;exact bS rfl
def X9 (Y:Ctx):Prop:=yX (bt Y 449)
def Ix:aF:=⟨1,8,[⟨1,none⟩,⟨2,none⟩,⟨3,none⟩],R5,(sq (rg [gm bq,gm cse,gm cse] [(1,0),(2,1),(3,2)]) (sq (sq (r1 [gm s0,gx 357 [l0] bQ] 4 1) (.cond s4 (sq (rg [gm s0,gm bX,gm l0,gm cse] [(1,1),(2,2),(3,3)]) .ret) .skip)) (sq (sq (r1 [gm s0,pM l0,cZ l1 bq,gm l2,gmt 3 s0,bY 3 (.ixS l4 bq),bY 3 (cQ l5 (i8 63)),eL l3 l6,gm l7,gmt 8 s0,bY 8 (.slS l9 (some bX) none),bY 8 (.call 357 [l10] bQ),eL l8 gH] 5 12) (.cond s5 (sq (rt [gm s0,gn (.slS l0 (some bX) none),gm kl,gm l1,gm cse] [(1,2),(2,3),(3,4)]) .ret) .skip)) (sq (r1 [gm s0,gx 470 [l0,(i8 47)] fH,gm l1] 6 2) (sq (sq (r1 [gm s6,gl l0,aL l1 kl,gm l2,gmt 3 s6,bY 3 (.ia 1 l4 bq),lr 3 l5,bY 3 (.call 216 [l6] bQ),eL l3 l7,gm l8,gmt 9 s6,bY 9 (.ia 1 l10 bX),lr 9 gH,bY 9 (.call 357 [jm] bQ),eL l9 jV] 7 14) (.cond s7 (sq (rt [gm s6,ga 1 l0 bq,gd l1,gm s6,ga 1 l3 bX,gd l4,gm kn,gm l2,gm l5] [(1,6),(2,7),(3,8)]) .ret) .skip)) (sq (rg [gm bq,gm cse,gm cse] [(1,0),(2,1),(3,2)]) .ret))))))⟩
def w672 {Y:Ctx}(hm:(Y.at 0).bd)(h216:LX Y)(h357:Hm Y)(h470:Hn Y)(s:au)  (hp0:s.length<=1048576):dj Y Ix (.tup [.int .i64 (dq s).1,.str (dq s).2.1,.str (dq s).2.2]) [.str s]:=by
 show bH _ _ _ [⟨_,_⟩,_,_,_,_,_,_,_] _;refine aq ?_;refine aY ?_;refine ai (hc:=h357 _) ?_;refine aD ?_;refine cI (fun hc0=>?_) fun hc0=>?_
 ·refine bM ?_;refine bL (eW (ar (D.int .i64) ?_) (ar D.str ?_) (ar D.str ?_));all_goals rw[Jz hc0]
 refine aJ ?_;intro u0;refine aA ?_;refine oB 0 ?_;refine aE ?_;refine jd 1 (hb:=fun h=>by simp at h;omega) ?_;refine ai (hc:=h357 _) ?_;refine az ?_;refine cI (fun hc1=>?_) fun hc1=>?_
 ·refine aA ?_;refine jd 1 (hb:=fun h=>ae) ?_;refine aJ ?_;refine bL (eW (ar (D.int .i64) ?_) (ar D.str ?_) (ar D.str ?_));all_goals rw[JA hc0 hc1]
 refine aA ?_;refine ai (hc:=h470 _ _ ?_) ?_;rotate_left;first|assumption|omega
 refine aH ?_;intro u1;refine aA ?_;refine ca 0 ?_;refine aD ?_;refine ai (hc:=h216 _) ?_;refine aA ?_;refine ca 1 ?_;refine aD ?_;refine ai (hc:=h357 _) ?_;refine az ?_;refine cI (fun hc2=>?_) fun hc2=>?_
 ·refine aA ?_;refine ca 0 ?_;refine az ?_;refine ca 1 ?_;refine aH ?_;refine bL (eW (ar (D.int .i64) ?_) (ar D.str ?_) (ar D.str ?_));all_goals rw[JB hc0 hc1 hc2]
 refine aY ?_;refine bL (eW (ar (D.int .i64) ?_) (ar D.str ?_) (ar D.str ?_));all_goals rw[Jy hc0 hc1 hc2]
def yP (T:List D->D->Prop):Prop:=∀(s:au),(s.length<=1048576)->T [.str s] (.tup [.int .i64 (dq s).1,.str (dq s).2.1,.str (dq s).2.2])
def Vt (Y:Ctx):Prop:=yP (bt Y 672)
def F8:aF:=⟨2,9,[⟨2,none⟩],bQ,(sq (r1 [gm dM] 2 0) (sq (sq (r1 [gm s1,gl l0,cZ l1 wV,gm l2,eP 3 s1,cD 3 (.call 815 [l4] [[.sl 1 [.a]]]),cD 3 (.un .not l5),fE l3 l6] 3 7) (.cond s3 (sq (r1 [gm dM] 2 0) .ret) .skip)) (sq (sq (r1 [gm bq] 4 0) (.block 0 (.loop (sq (sq (r1 [gm s4,gm s1,gl l1,aS l0 l2] 5 3) (fB s5 0)) (sq (.block 1 (sq (rg [gm s1,gm s4,ga 1 l0 l1,gd l2,gx 672 [l3] bQ,gm l4,ge l5 0,ge l5 1,ge l5 2,gm l6,gm l7,gm l8] [(6,9),(7,10)]) (sq (r1 [gm s6,aL l0 bq,gm l1,eP 2 s6,cD 2 (cQ l3 bX),eP 2 l4,gmt 5 s0,gmt 5 s7,bY 5 (.call 816 [l6,l7] [[.sl 2 [.a,.sl 1 [.a]]],[.a]]),bY 5 (.un .not l8),BW 2 l5 l9,fE l2 l10] 8 11) (.cond s8 (sq (r1 [gm dM] 2 0) .ret) .skip)))) (r1 [gm s4,aw l0 bX,gm l1] 4 2)))))) (sq (r1 [gm qx] 2 0) .ret))))⟩
def w671 {Y:Ctx}(hm:(Y.at 0).bd)(h672:Vt Y)(h815:Vy Y)(h816:Y0 Y)(l:List cu)(of:List au)  (hp0:∀t∈of,t.length<=1048576):dj Y F8 (.bool (lH l of)) [.sl 2 (l.map cu.D),.sl 1 (of.map D.str)]:=by
 show bH _ _ _ [⟨_,_⟩,⟨_,_⟩,_,_,_,_,_,_,_] _;refine aq ?_;refine aH ?_;intro u0;refine aA ?_;refine ai (hc:=h815 _) ?_;refine aA ?_;refine av (fun hc0=>?_) (fun hc0=>?_)
 ·simp only[dh,aW,bE]at hc0;refine aJ ?_;refine bS ?_;symm;simp only[lH];rcases hc0 with h|h
  ·rw[dk ae];rfl
  ·rw[h,Bool.and_false];rfl
 simp only[dW,bD,b6]at hc0;refine aJ ?_;have hb:lH l of=cV (fun i=>iH l of[i]!) 0 of.length:=by simp only[lH,hc0.2];rw[cz ae];rfl
 refine bh hm (ι:=Nat) (fun i=>[⟨true,.sl 2 (l.map cu.D)⟩,⟨true,.sl 1 (of.map D.str)⟩,.un,.un,⟨true,.int .i64 (i:Nat)⟩,.un,.un,.un,.un]) (fun i=>[]) 10 (fun i=>i<=of.length/\lH l of=cV (fun i=>iH l of[i]!) i of.length) (fun i=>of.length-i) 0 ⟨ae,hb⟩ (dL []) ?_;rintro i ⟨hi,hr⟩;refine aJ ?_;intro u1;refine az ?_;refine cI (fun hc1=>?_) fun hc1=>?_
 ·refine aY ?_;refine ai (hc:=h672 of[i]! (hp0 _ (bA ae))) ?_;refine A2 ?_;refine ai (hc:=h816 _ _) ?_;refine aE ?_;refine wp_cond (fun hc2=>?_) (fun hc2=>?_)
  ·have hz:iH l of[i]! =false:=by simp only[iH,hc2];rfl
   refine aH ?_;refine bS ?_;rw[hr,aV ae,hz];rfl
  have hz:iH l of[i]! =true:=by simp only[iH,hc2];rfl
  refine bM ?_;exact⟨i+1,⟨ae,by rw[hr,aV ae,hz];rfl⟩,ae,(dL [])⟩
 refine aH ?_;refine bS ?_;rw[hr,cr ae]
def Lu (T:List D->D->Prop):Prop:=∀(l:List cu) (of:List au),(∀t∈of,t.length<=1048576)->T [.sl 2 (l.map cu.D),.sl 1 (of.map D.str)] (.bool (lH l of))
def YE (Y:Ctx):Prop:=Lu (bt Y 671)
def Ny:aF:=⟨1,6,gV,bQ,(sq (r1 [gm dM] 1 0) (sq (sq (r1 [gm s0,gl l0,cZ l1 Fj] 2 2) (mI s2 dM)) (sq (sq (r1 [gm bq] 3 0) (.block 0 (.loop (sq (sq (r1 [gm s3,gm s0,gl l1,aS l0 l2] 4 3) (fB s4 0)) (sq (.block 1 (sq (r2 [gm s0,gm s3,ga 2 l0 l1,gf 0 l2,gd l3,gx 357 [l4] bQ,jU l5,gm l6,eP 7 s3,cD 7 (et l8 bq),eP 7 l9,gmt 10 s0,gmt 10 s3,bY 10 (ku jm bX),bY 10 (.ia 2 gH jV),mL 10 0 lg,lr 10 mM,gmt 10 s0,gmt 10 s3,bY 10 (.ia 2 rl sX),mL 10 0 uh,lr 10 zJ,bY 10 (sT og Bf),BW 7 l10 Ey,fE l7 JF,gm MT,eP 25 s0,eP 25 s0,eP 25 s3,cD 25 (.ia 2 UF Ws),j5 25 1 Wt,lF 25 l30,cD 25 (.call 671 [R6,l31] [[.sl 2 [.a,.sl 1 [.a]]],[.sl 1 [.a]]]),cD 25 (.un .not l32),fE Ou l33] 5 34) (mI s5 dM))) (r1 [gm s3,aw l0 bX,gm l1] 3 2)))))) (xx qx))))⟩
def w459 {Y:Ctx}(hm:(Y.at 0).bd)(h357:Hm Y)(h671:YE Y)(l:List cu)  (hp0:x5 l):dj Y Ny (.bool (ie l)) [.sl 2 (l.map cu.D)]:=by
 show bH _ _ _ [⟨_,_⟩,_,_,_,_,_] _;refine aq ?_;refine aH ?_;intro u0;refine az ?_;refine cI (fun hc0=>?_) fun hc0=>?_
 ·refine aJ ?_;refine bS ?_;symm;simp only[ie];rw[dk ae];rfl
 refine aJ ?_;have hb:ie l=cV (jz l) 0 l.length:=by simp only[ie];rw[cz ae];rfl
 refine bh hm (ι:=Nat) (fun i=>[⟨true,.sl 2 (l.map cu.D)⟩,.un,.un,⟨true,.int .i64 (i:Nat)⟩,.un,.un]) (fun i=>[]) 5 (fun i=>i<=l.length/\ie l=cV (jz l) i l.length) (fun i=>l.length-i) 0 ⟨ae,hb⟩ (dL []) ?_;rintro i ⟨hi,hr⟩;refine aJ ?_;intro u1;refine az ?_;refine cI (fun hc1=>?_) fun hc1=>?_
 ·refine bM ?_;refine ai (hc:=h357 _) ?_;refine bM ?_;refine ca (i-1) ?_;refine A2 ?_;refine ai (hc:=h671 l l[i]!.of (hp0 _ (bA ae)).2.2) ?_;refine aA ?_;refine fA (fun hc2=>?_) fun hc2=>?_
  ·refine aH ?_;refine bS ?_;have hz:jz l i=false:=by
    simp only[jz];revert hc2;generalize cG l[i]!.name=z0;generalize Op.bytesLess l[i-1]!.name l[i]!.name=z1;generalize lH l l[i]!.of=z2;by_cases e0:0<i<;>cases z0<;>cases z1<;>cases z2<;>simp_all
   rw[hr,aV ae,hz];rfl
  refine bM ?_;have hz:jz l i=true:=by
   simp only[jz];revert hc2;generalize cG l[i]!.name=z0;generalize Op.bytesLess l[i-1]!.name l[i]!.name=z1;generalize lH l l[i]!.of=z2;by_cases e0:0<i<;>cases z0<;>cases z1<;>cases z2<;>simp_all
  exact⟨i+1,⟨ae,by rw[hr,aV ae,hz];rfl⟩,ae,(dL [])⟩
 refine aH ?_;refine bS ?_;rw[hr,cr ae]
def yE (T:List D->D->Prop):Prop:=∀(l:List cu),(x5 l)->T [.sl 2 (l.map cu.D)] (.bool (ie l))
def Ye (Y:Ctx):Prop:=yE (bt Y 459)
def Dj:aF:=⟨1,12,[⟨1,none⟩,⟨2,none⟩,⟨3,none⟩],R5,(sq (rg [gm bq,gm cse,gm cse] [(1,0),(2,1),(3,2)]) (sq (sq (r1 [gm s0,gx 349 [l0] bQ] 4 1) (.cond s4 (sq (rg [gm s0,gm bX,gm l0,gm cse] [(1,1),(2,2),(3,3)]) .ret) .skip)) (sq (sq (rg [gm s0,gx 254 [l0,(cs [63])] fH,gm l1,ge l2 0,ge l2 1,gm l3,gm l4] [(6,5),(5,6)]) (sq (r1 [gm s5,gm l0,gmt 1 s6,bY 1 (.call 349 [l2] bQ),eL l1 l3] 7 4) (.cond s7 (sq (rg [gm s6,gm kl,gm l0,gm cse] [(1,1),(2,2),(3,3)]) .ret) .skip))) (sq (sq (rg [gm s0,gx 487 [l0,(cs [47])] fH,gm l1,ge l2 0,ge l2 1,ge l2 2,gm l3,gm l4,gm l5] [(9,6),(10,7),(8,8)]) (sq (r1 [gm s8,gm l0,gmt 1 s9,bY 1 (.call 208 [l2] bQ),eL l1 l3,gm l4,gmt 5 jf,bY 5 (.call 349 [l6] bQ),eL l5 l7] 11 8) (.cond k9 (sq (rg [gm s9,gm jf,gm kn,gm l0,gm l1] [(1,2),(2,3),(3,4)]) .ret) .skip))) (sq (rg [gm bq,gm cse,gm cse] [(1,0),(2,1),(3,2)]) .ret)))))⟩
def w448 {Y:Ctx}(hm:(Y.at 0).bd)(h208:LW Y)(h254:U6 Y)(h349:Hl Y)(h487:Vg Y)(s:au)  (hp0:s.length<=1048576):dj Y Dj (.tup [.int .i64 (dq s).1,.str (dq s).2.1,.str (dq s).2.2]) [.str s]:=by
 show bH _ _ _ [⟨_,_⟩,_,_,_,_,_,_,_,_,_,_,_] _;refine aq ?_;refine aY ?_;refine ai (hc:=h349 _) ?_;refine aD ?_;refine cI (fun hc0=>?_) fun hc0=>?_
 ·refine bM ?_;refine bL (eW (ar (D.int .i64) ?_) (ar D.str ?_) (ar D.str ?_));all_goals rw[Jz hc0]
 refine aE ?_;refine ai (hc:=h254 s [63] hp0 aG) ?_;refine fS ?_;refine ai (hc:=h349 _) ?_;refine az ?_;refine cI (fun hc1=>?_) fun hc1=>?_
 ·refine bM ?_;refine bL (eW (ar (D.int .i64) ?_) (ar D.str ?_) (ar D.str ?_));all_goals rw[Tg hc0 hc1]
 refine aE ?_;refine ai (hc:=h487 s 47 hp0) ?_;refine na ?_;refine ai (hc:=h208 _) ?_;refine aA ?_;refine ai (hc:=h349 _) ?_;refine az ?_;refine cI (fun hc2=>?_) fun hc2=>?_
 ·refine cW ?_;refine bL (eW (ar (D.int .i64) ?_) (ar D.str ?_) (ar D.str ?_));all_goals rw[Th hc0 hc1 hc2]
 refine aY ?_;refine bL (eW (ar (D.int .i64) ?_) (ar D.str ?_) (ar D.str ?_));all_goals rw[Tf hc0 hc1 hc2]
def U9 (Y:Ctx):Prop:=yP (bt Y 448)
def E1:aF:=⟨1,18,gV,bQ,(sq (r1 [gm dM] 1 0) (sq (sq (r1 [gm s0,gl l0,cZ l1 Fj] 2 2) (mI s2 dM)) (sq (sq (rg [gm s0,gl l0,gm bq] [(6,0),(4,1),(3,2)]) (.block 0 (.loop (sq (r1 [aS s3 s4] 5 0) (sq (fB s5 0) (sq (.block 1 (sq (rg [gm s3,ga 2 s6 s3,gk 2 true l1,gb 2 (.c (.agg [.str [],.aC])),gm l0,gt 2 l3 l2] [(7,3),(8,4)]) (sq (sq (r2 [gf 0 s7,gd l0,gx 349 [l1] bQ,jU l2,gm l3,eP 4 s8,cD 4 (et l5 bq),eP 4 l6,gmt 7 s0,gmt 7 s8,bY 7 (ku l9 bX),bY 7 (.ia 2 l8 l10),mL 7 0 gH,lr 7 jm,mL 7 0 s7,lr 7 lg,bY 7 (sT jV mM),BW 4 l7 og,fE l4 rl,gm sX,j5 19 1 s7,lF 19 zJ,cD 19 (.len Bf),cD 19 (et Ey wV),fE uh JF,gm MT,j5 25 1 s7,lF 25 R6,cD 25 (.call 447 [UF] [[.sl 1 [.a]]]),cD 25 (.un .not Ws),fE Ou Wt] 9 30) (mI s9 dM)) (sq (rg [gf 1 s7,gd l0,gl l1,gm bq] [(13,1),(11,2),(10,3)]) (.block 2 (.loop (sq (r1 [aS jf k9] 12 0) (sq (fB lv 2) (sq (.block 3 (sq (r1 [ga 1 qG jf,gd l0,gm l1] 14 2) (sq (rg [gm rN,gx 448 [l0] bQ,gm l1,ge l2 0,ge l2 1,ge l2 2,gm l3,gm l4,gm l5] [(15,6),(16,7)]) (sq (r1 [gm xI,aL l0 bq,gm l1,eP 2 xI,cD 2 (cQ l3 bX),eP 2 l4,gmt 5 s0,gmt 5 Bo,bY 5 (.call 449 [l6,l7] [[.sl 2 [.a,.sl 1 [.a]]],[.a]]),bY 5 (.un .not l8),BW 2 l5 l9,fE l2 l10] 17 11) (mI D9 dM))))) (r1 [aw jf bX,gm l0] 10 1)))))))))) (r1 [aw s3 bX,gm l0] 3 1))))))) (xx qx))))⟩
def w213 {Y:Ctx}(hm:(Y.at 0).bd)(h349:Hl Y)(h447:X8 Y)(h448:U9 Y)(h449:X9 Y)(l:List cu)  (hp0:x5 l):dj Y E1 (.bool (ie l)) [.sl 2 (l.map cu.D)]:=by
 show bH _ _ _ [⟨_,_⟩,_,_,_,_,_,_,_,_,_,_,_,_,_,_,_,_,_] _;refine aq ?_;refine aH ?_;intro u0;refine az ?_;refine cI (fun hc0=>?_) fun hc0=>?_
 ·refine aJ ?_;refine bS ?_;symm;simp only[ie];rw[dk ae];rfl
 refine aJ ?_;intro u1;refine az ?_;have hb:ie l=cV (jz l) 0 l.length:=by simp only[ie];rw[cz ae];rfl
 refine bh hm (ι:=Nat) (fun i=>[⟨true,.sl 2 (l.map cu.D)⟩,.un,.un,⟨true,.int .i64 (i:Nat)⟩,⟨true,.int .i64 (l.length:Nat)⟩,.un,⟨true,.sl 2 (l.map cu.D)⟩,.un,.un,.un,.un,.un,.un,.un,.un,.un,.un,.un]) (fun i=>[]) 7 (fun i=>i<=l.length/\ie l=cV (jz l) i l.length) (fun i=>l.length-i) 0 ⟨ae,hb⟩ (dL []) ?_;rintro i ⟨hi,hr⟩;refine aA ?_;refine cI (fun hc1=>?_) fun hc1=>?_
 ·refine aJ ?_;first|refine b8 (v:=(cu.D _)) ?_|refine fF (v:=(cu.D _)) ?_
  refine az ?_;refine aU (cu.D l[i]!) (he:=bj) ?_;refine aJ ?_;refine ai (hc:=h349 _) ?_;refine bM ?_;refine ca (i-1) ?_;refine hX ?_;refine ll ?_;refine aJ ?_;refine ai (hc:=h447 _) ?_;refine aA ?_;refine av (fun hc2=>?_) (fun hc2=>?_)
  ·have hfo:=Mu hc2;refine aY ?_;refine bS ?_;rw[hr,aV ae,hfo];rfl
  have hfo:=Mv hc2;refine aJ ?_;intro u2;refine az ?_;refine qk hm (ι:=Nat) (fun j=>[⟨true,.sl 2 (l.map cu.D)⟩,.un,.un,⟨true,.int .i64 (i:Nat)⟩,⟨true,.int .i64 (l.length:Nat)⟩,.un,⟨true,.sl 2 (l.map cu.D)⟩,.un,.un,.un,⟨true,.int .i64 (j:Nat)⟩,⟨true,.int .i64 (l[i]!.of.length:Nat)⟩,.un,⟨true,.sl 1 (l[i]!.of.map D.str)⟩,.un,.un,.un,.un]) (fun j=>[]) 49 (fun j=>j<=l[i]!.of.length/\jz l i=cV (fun j=>iH l l[i]!.of[j]!) j l[i]!.of.length) (fun j=>l[i]!.of.length-j) 0 ⟨ae,hfo⟩ (dL []) ?_;rintro j ⟨hj,hjr⟩;refine aA ?_;refine cI (fun hc3=>?_) fun hc3=>?_
  ·refine cW ?_;refine ai (hc:=h448 l[i]!.of[j]! ((hp0 _ (bA ae)).2.2 _ (bA ae))) ?_;refine A2 ?_;refine ai (hc:=h449 _ _) ?_;refine aE ?_;refine wp_cond (fun hc4=>?_) (fun hc4=>?_)
   ·have hz:iH l l[i]!.of[j]! =false:=by simp only[iH,hc4];rfl
    refine bM ?_;refine bS ?_;rw[hr,aV ae,hjr,aV ae,hz];rfl
   have hz:iH l l[i]!.of[j]! =true:=by simp only[iH,hc4];rfl
   refine aY ?_;exact⟨j+1,⟨ae,by rw[hjr,aV ae,hz];rfl⟩,ae,(dL [])⟩
  refine bM ?_;exact⟨i+1,⟨ae,by rw[hr,aV ae,hjr,cr ae];rfl⟩,ae,(dL [])⟩
 refine aH ?_;refine bS ?_;rw[hr,cr ae]
def XG (Y:Ctx):Prop:=yE (bt Y 213)
def NK:aF:=⟨1,11,gV,bQ,(sq (r1 [gm cse] 1 0) (sq (sq (r1 [gm s0] 2 0) (.block 0 (sq (r1 [aL s2 bX,gm l0] 3 1) (.cond s3 (sq (r1 [gm (cs [61])] 1 0) .ret) (sq (r1 [aL s2 kl,gm l0] 4 1) (.cond s4 (sq (r1 [gm (cs [33,61])] 1 0) .ret) (sq (r1 [aL s2 kn,gm l0] 5 1) (.cond s5 (sq (r1 [gm (cs [60])] 1 0) .ret) (sq (r1 [aL s2 sg,gm l0] 6 1) (.cond s6 (sq (r1 [gm (cs [60,61])] 1 0) .ret) (sq (r1 [aL s2 Hf,gm l0] 7 1) (.cond s7 (sq (r1 [gm (cs [62])] 1 0) .ret) (sq (r1 [aL s2 wV,gm l0] 8 1) (.cond s8 (sq (r1 [gm (cs [62,61])] 1 0) .ret) (sq (r1 [aL s2 Ot,gm l0] 9 1) (.cond s9 (sq (r1 [gm (cs [94])] 1 0) .ret) (sq (r1 [aL s2 Fj,gm l0] 10 1) (.cond jf (sq (r1 [gm (cs [126])] 1 0) .ret) .skip)))))))))))))))))) (xx cse)))⟩
def w678 {Y:Ctx}(hm:(Y.at 0).bd)  (op:Int)   :dj Y NK (.str (dx op)) [.int .i64 op]:=by
 show bH _ _ _ [⟨_,_⟩,_,_,_,_,_,_,_,_,_,_] _;refine aq ?_;refine fS ?_;refine fA (fun hc0=>?_) fun hc0=>?_
 ·refine aJ ?_;refine cT ?_;unfold dx;simp_all
 refine aE ?_;refine fA (fun hc1=>?_) fun hc1=>?_
 ·refine aJ ?_;refine cT ?_;unfold dx;simp_all
 refine aE ?_;refine fA (fun hc2=>?_) fun hc2=>?_
 ·refine aJ ?_;refine cT ?_;unfold dx;simp_all
 refine aE ?_;refine fA (fun hc3=>?_) fun hc3=>?_
 ·refine aJ ?_;refine cT ?_;unfold dx;simp_all
 refine aE ?_;refine fA (fun hc4=>?_) fun hc4=>?_
 ·refine aJ ?_;refine cT ?_;unfold dx;simp_all
 refine aE ?_;refine fA (fun hc5=>?_) fun hc5=>?_
 ·refine aJ ?_;refine cT ?_;unfold dx;simp_all
 refine aE ?_;refine fA (fun hc6=>?_) fun hc6=>?_
 ·refine aJ ?_;refine cT ?_;unfold dx;simp_all
 refine aE ?_;refine fA (fun hc7=>?_) fun hc7=>?_
 ·refine aJ ?_;refine cT ?_;unfold dx;simp_all
 refine aH ?_;refine cT ?_;unfold dx;simp_all
def yR (T:List D->D->Prop):Prop:=∀(op:Int),T [.int .i64 op] (.str (dx op))
def Vw (Y:Ctx):Prop:=yR (bt Y 678)
def Mm:aF:=⟨1,11,gV,bQ,(sq (r1 [gm cse] 1 0) (sq (sq (r1 [gm s0] 2 0) (.block 0 (sq (r1 [aL s2 bX,gm l0] 3 1) (.cond s3 (sq (r1 [gm (cs [61])] 1 0) .ret) (sq (r1 [aL s2 kl,gm l0] 4 1) (.cond s4 (sq (r1 [gm (cs [33,61])] 1 0) .ret) (sq (r1 [aL s2 kn,gm l0] 5 1) (.cond s5 (sq (r1 [gm (cs [60])] 1 0) .ret) (sq (r1 [aL s2 sg,gm l0] 6 1) (.cond s6 (sq (r1 [gm (cs [60,61])] 1 0) .ret) (sq (r1 [aL s2 Hf,gm l0] 7 1) (.cond s7 (sq (r1 [gm (cs [62])] 1 0) .ret) (sq (r1 [aL s2 wV,gm l0] 8 1) (.cond s8 (sq (r1 [gm (cs [62,61])] 1 0) .ret) (sq (r1 [aL s2 Ot,gm l0] 9 1) (.cond s9 (sq (r1 [gm (cs [94])] 1 0) .ret) (sq (r1 [aL s2 Fj,gm l0] 10 1) (.cond jf (sq (r1 [gm (cs [126])] 1 0) .ret) .skip)))))))))))))))))) (xx cse)))⟩
def w957 {Y:Ctx}(hm:(Y.at 0).bd)  (op:Int)   :dj Y Mm (.str (dx op)) [.int .i64 op]:=by
 show bH _ _ _ [⟨_,_⟩,_,_,_,_,_,_,_,_,_,_] _;refine aq ?_;refine fS ?_;refine fA (fun hc0=>?_) fun hc0=>?_
 ·refine aJ ?_;refine cT ?_;unfold dx;simp_all
 refine aE ?_;refine fA (fun hc1=>?_) fun hc1=>?_
 ·refine aJ ?_;refine cT ?_;unfold dx;simp_all
 refine aE ?_;refine fA (fun hc2=>?_) fun hc2=>?_
 ·refine aJ ?_;refine cT ?_;unfold dx;simp_all
 refine aE ?_;refine fA (fun hc3=>?_) fun hc3=>?_
 ·refine aJ ?_;refine cT ?_;unfold dx;simp_all
 refine aE ?_;refine fA (fun hc4=>?_) fun hc4=>?_
 ·refine aJ ?_;refine cT ?_;unfold dx;simp_all
 refine aE ?_;refine fA (fun hc5=>?_) fun hc5=>?_
 ·refine aJ ?_;refine cT ?_;unfold dx;simp_all
 refine aE ?_;refine fA (fun hc6=>?_) fun hc6=>?_
 ·refine aJ ?_;refine cT ?_;unfold dx;simp_all
 refine aE ?_;refine fA (fun hc7=>?_) fun hc7=>?_
 ·refine aJ ?_;refine cT ?_;unfold dx;simp_all
 refine aH ?_;refine cT ?_;unfold dx;simp_all
def VG (Y:Ctx):Prop:=yR (bt Y 957)
def Gi:aF:=⟨2,3,[⟨2,none⟩],bQ,(sq (r1 [gm dM] 2 0) (sq (r1 [gm s0,pM l0,gm s1,pM l2,fY l1 l3,gm l4,gmt 5 s0,gmt 5 s1,bY 5 (.lenS l7),bY 5 (.slS l6 none (some l8)),gmt 5 s1,bY 5 (cQ l9 l10),eL l5 gH,gm jm] 2 13) .ret))⟩
def w1079 {Y:Ctx}(hm:(Y.at 0).bd)  (s:au)(w:au)   :dj Y Gi (.bool (te s w)) [.str s,.str w]:=by
 show bH _ _ _ [⟨_,_⟩,⟨_,_⟩,_] _;refine aq ?_;refine aJ ?_;intro u0;refine az ?_;intro u1;refine aE ?_;refine ll ?_;refine pC w.length (hj:=fun _=>rfl) (hb:=fun h=>by simp at h;omega) ?_;refine aH ?_;refine bS ?_;unfold te;rw[show decide ((w.length:Int)<=(s.length:Int))=decide (w.length<=s.length)from gT.2 ae]
def ve (T:List D->D->Prop):Prop:=∀(s:au) (w:au),T [.str s,.str w] (.bool (te s w))
def T9 (Y:Ctx):Prop:=ve (bt Y 1079)
def ET:aF:=⟨2,3,[⟨2,none⟩],bQ,(sq (r1 [gm dM] 2 0) (sq (r1 [gm s0,pM l0,gm s1,pM l2,fY l1 l3,gm l4,gmt 5 s0,gmt 5 s1,bY 5 (.lenS l7),bY 5 (.slS l6 none (some l8)),gmt 5 s1,bY 5 (cQ l9 l10),eL l5 gH,gm jm] 2 13) .ret))⟩
def w956 {Y:Ctx}(hm:(Y.at 0).bd)  (s:au)(w:au)   :dj Y ET (.bool (te s w)) [.str s,.str w]:=by
 show bH _ _ _ [⟨_,_⟩,⟨_,_⟩,_] _;refine aq ?_;refine aJ ?_;intro u0;refine az ?_;intro u1;refine aE ?_;refine ll ?_;refine pC w.length (hj:=fun _=>rfl) (hb:=fun h=>by simp at h;omega) ?_;refine aH ?_;refine bS ?_;unfold te;rw[show decide ((w.length:Int)<=(s.length:Int))=decide (w.length<=s.length)from gT.2 ae]
def Y9 (Y:Ctx):Prop:=ve (bt Y 956)
def Rk:aF:=⟨1,8,gV,bQ,(sq (rg [gb 7 s0,gm dM] [(2,0),(1,1)]) (sq (sq (r1 [gf 0 s2,gd l0,aS l1 bX,gm l2,j5 3 0 s2,lF 3 l4,cD 3 (et l5 Ew),fE l3 l6,gm l7,j5 8 2 s2,cD 8 (.ld 5 true l9),cD 8 (.call 217 [l10] zF),cD 8 (.un .not gH),fE l8 jm,gm jV,j5 14 2 s2,j5 14 4 mM,lF 14 og,cD 14 (eX rl cse),fE lg sX] 3 19) (mI s3 dM)) (sq (rg [gm bX,gm kn] [(5,0),(6,1)]) (sq (sq (r1 [gf 0 s2,gd l0,aL l1 Ew] 4 2) (.cond s4 (rg [gm bq,gm kl] [(5,0),(6,1)]) .skip)) (sq (sq (r1 [gf 1 s2,gd l0,gm s5,aS l1 l2,gm l3,j5 4 1 s2,lF 4 l5,eP 4 s6,cD 4 (et l6 l7),fE l4 l8,gm l9,j5 10 1 s2,lF 10 gH,cD 10 (nO jm kn),eP 10 jV,mL 14 2 s2,mL 14 3 mM,lr 14 og,bY 14 (eX rl cse),BW 10 lg sX,fE l10 uh] 7 20) (mI s7 dM)) (sq (r1 [gf 1 s2,gd l0,cZ l1 bq,gm l2,j5 3 2 s2,j5 3 0 l4,lF 3 l5,cD 3 (cQ l6 bq),fE l3 l7,gm l8,mL 9 1 s2,lr 9 l10,bY 9 (et gH bX),gmt 9 jm,j5 13 2 s2,j5 13 1 lg,lF 13 mM,cD 13 (cQ og bq),Uy 9 jV rl,eL l9 sX,gm uh,mL 20 1 s2,lr 20 Bf,bY 20 (et Ey kl),gmt 20 JF,j5 24 2 s2,j5 24 2 Ou,lF 24 R6,cD 24 (cQ UF bq),Uy 20 MT Ws,eL zJ Wt,gm l30] 1 31) .ret))))))⟩
def w676 {Y:Ctx}(hm:(Y.at 0).bd)(h217:LY Y)(c:dp)  (hp0:c.v.sm):dj Y Rk (.bool (ng c)) [dp.D c]:=by
 show bH _ _ _ [⟨_,_⟩,_,_,_,_,_,_,_] _;refine aq ?_;refine A0 ?_;refine bI (v:=cY.D c.v) ?_;refine dc (hc:=fun hf=>h217 c.v hp0) ?_;refine cW ?_;refine av (fun hc0=>?_) (fun hc0=>?_)
 ·have hq:=ES hc0;refine aJ ?_;refine bS ?_;rw[hq]
 have hy:=BJ hc0;refine fS ?_;refine av (fun hc1=>?_) (fun hc1=>?_)
 ·simp only[aW]at hc1;have hz:=r8 hy (lo:=0) (hi:=2) (ax hc1) (ax hc1);refine R2 ?_;refine av (fun hc2=>?_) (fun hc2=>?_)
  ·rw[hc2]at hz;refine aJ ?_;refine bS ?_;rw[hz];rfl
  rw[hc2]at hz;refine UX ?_;refine bS ?_;rw[hz];rfl
 simp only[bD]at hc1;have hz:=r8 hy (lo:=1) (hi:=3) (aj hc1) (aj hc1);refine UW ?_;refine av (fun hc2=>?_) (fun hc2=>?_)
 ·rw[hc2]at hz;refine aJ ?_;refine bS ?_;rw[hz];rfl
 rw[hc2]at hz;refine UX ?_;refine bS ?_;rw[hz];rfl
def yQ (T:List D->D->Prop):Prop:=∀(c:dp),(c.v.sm)->T [dp.D c] (.bool (ng c))
def Vu (Y:Ctx):Prop:=yQ (bt Y 676)
def Ph:aF:=⟨1,14,gV,bQ,(sq (rg [gb 7 s0,gm dM] [(2,0),(1,1)]) (sq (sq (r1 [gf 0 s2,gd l0,aS l1 bX,gm l2,j5 3 0 s2,lF 3 l4,cD 3 (et l5 Ew),fE l3 l6,gm l7,j5 8 2 s2,cD 8 (.ld 5 true l9),cD 8 (.call 209 [l10] zF),cD 8 (.un .not gH),fE l8 jm,gm jV,j5 14 2 s2,j5 14 4 mM,lF 14 og,cD 14 (eX rl cse),fE lg sX] 3 19) (mI s3 dM)) (sq (rg [gm bX,gm kn] [(5,0),(6,1)]) (sq (sq (r1 [gf 0 s2,gd l0,aL l1 Ew] 4 2) (.cond s4 (rg [gm bq,gm kl] [(5,0),(6,1)]) .skip)) (sq (sq (r1 [gf 1 s2,gd l0,gm s5,aS l1 l2,gm l3,j5 4 1 s2,lF 4 l5,eP 4 s6,cD 4 (et l6 l7),fE l4 l8,gm l9,j5 10 2 s2,j5 10 3 gH,lF 10 jm,cD 10 (eX jV cse),eP 10 lg,mL 15 1 s2,lr 15 og,bY 15 (nO rl kn),BW 10 mM sX,fE l10 uh] 7 20) (mI s7 dM)) (sq (sq (r1 [gf 1 s2,gd l0] 8 1) (.block 0 (sq (.block 3 (sq (.block 2 (sq (.block 1 (sq (sq (sq (r1 [aL s8 bq,gm l0] 9 1) (.cond s9 (.exit 1) .skip)) (sq (sq (r1 [aL s8 bX,gm l0] 10 1) (.cond jf (.exit 2) .skip)) (sq (r1 [aL s8 kl,gm l0] 11 1) (.cond k9 (.exit 3) .skip)))) (.exit 0))) (sq (r1 [gf 2 s2,gf 0 l0,gd l1,b7 l2 bq] 12 3) (mI lv dM)))) (sq (r1 [gf 2 s2,gf 1 l0,gd l1,b7 l2 bq] 13 3) (mI qG dM)))) (sq (sq (r1 [gf 2 s2,gf 2 l0,gd l1,aL l2 bq,gm l3] 1 4) .ret) (.exit 0))))) (xx qx)))))))⟩
def w827 {Y:Ctx}(hm:(Y.at 0).bd)(h209:Hj Y)(c:dp)  (hp0:c.v.sm):dj Y Ph (.bool (ng c)) [dp.D c]:=by
 show bH _ _ _ [⟨_,_⟩,_,_,_,_,_,_,_,_,_,_,_,_,_] _;refine aq ?_;refine A0 ?_;refine bI (v:=cY.D c.v) ?_;refine dc (hc:=fun hf=>h209 c.v hp0) ?_;refine cW ?_;refine av (fun hc0=>?_) (fun hc0=>?_)
 ·have hq:=ES hc0;refine aJ ?_;refine bS ?_;rw[hq]
 have hy:=BJ hc0;refine fS ?_;refine av (fun hc1=>?_) (fun hc1=>?_)
 ·simp only[aW]at hc1;have hz:=r8 hy (lo:=0) (hi:=2) (ax hc1) (ax hc1);refine R2 ?_;refine av (fun hc2=>?_) (fun hc2=>?_)
  ·rw[Bool.and_comm (!decide (c.v.pre=[]))]at hc2;rw[hc2]at hz;refine aJ ?_;refine bS ?_;rw[hz];simp[qy]<;>simp_all<;>omega
  rw[Bool.and_comm (!decide (c.v.pre=[]))]at hc2;rw[hc2]at hz;refine A1 ?_;refine cI (fun hc3=>?_) fun hc3=>?_
  ·refine bM ?_;refine fA (fun hc6=>?_) fun hc6=>?_
   ·refine aY ?_;refine bS ?_;rw[hz];simp[qy]<;>simp_all<;>omega
   refine bM ?_;refine fA (fun hc7=>?_) fun hc7=>?_
   ·refine aH ?_;refine bS ?_;rw[hz];simp[qy]<;>simp_all<;>omega
   refine gG ?_;refine bS ?_;rw[hz];simp[qy]<;>simp_all<;>omega
  refine aY ?_;refine cI (fun hc4=>?_) fun hc4=>?_
  ·refine cW ?_;refine fA (fun hc7=>?_) fun hc7=>?_
   ·refine aH ?_;refine bS ?_;rw[hz];simp[qy]<;>simp_all<;>omega
   refine gG ?_;refine bS ?_;rw[hz];simp[qy]<;>simp_all<;>omega
  refine aH ?_;refine cI (fun hc5=>?_) fun hc5=>?_
  ·refine AZ ?_;refine bS ?_;rw[hz];simp[qy]<;>simp_all<;>omega
  refine hX ?_;refine bS ?_;rw[hz];simp[qy]<;>simp_all<;>omega
 simp only[bD]at hc1;have hz:=r8 hy (lo:=1) (hi:=3) (aj hc1) (aj hc1);refine UW ?_;refine av (fun hc2=>?_) (fun hc2=>?_)
 ·rw[Bool.and_comm (!decide (c.v.pre=[]))]at hc2;rw[hc2]at hz;refine aJ ?_;refine bS ?_;rw[hz];simp[qy]<;>simp_all<;>omega
 rw[Bool.and_comm (!decide (c.v.pre=[]))]at hc2;rw[hc2]at hz;refine A1 ?_;refine cI (fun hc3=>?_) fun hc3=>?_
 ·refine bM ?_;refine fA (fun hc6=>?_) fun hc6=>?_
  ·refine aY ?_;refine bS ?_;rw[hz];simp[qy]<;>simp_all<;>omega
  refine bM ?_;refine fA (fun hc7=>?_) fun hc7=>?_
  ·refine aH ?_;refine bS ?_;rw[hz];simp[qy]<;>simp_all<;>omega
  refine gG ?_;refine bS ?_;rw[hz];simp[qy]<;>simp_all<;>omega
 refine aY ?_;refine cI (fun hc4=>?_) fun hc4=>?_
 ·refine cW ?_;refine fA (fun hc7=>?_) fun hc7=>?_
  ·refine aH ?_;refine bS ?_;rw[hz];simp[qy]<;>simp_all<;>omega
  refine gG ?_;refine bS ?_;rw[hz];simp[qy]<;>simp_all<;>omega
 refine aH ?_;refine cI (fun hc5=>?_) fun hc5=>?_
 ·refine AZ ?_;refine bS ?_;rw[hz];simp[qy]<;>simp_all<;>omega
 refine hX ?_;refine bS ?_;rw[hz];simp[qy]<;>simp_all<;>omega
def Sl (Y:Ctx):Prop:=yQ (bt Y 827)
end Go.Abs
