/- A part of the proofs of the statements: LQ, U1, T6, T7, LExt, T8, T9, T10, T1, T2, T3, T4, T5, T11, T12, T13, T14, T15, T16, T17, T18, T19, T20, T21, T22, T23, LPlain4, LPlain5, T24, T25, U2, U3, U4, U5, U6, U7, U8, U8b, U9, U10, U11, U12, U13, U14, U15, U16. -/
import Derived.Test.YtpdlhpamcaocgaaGreatDoorP05
set_option linter.all false
set_option maxRecDepth 4000
section
namespace Go.Abs
def ae {p:Prop}(h:p:=by exact rfl):p:=h
def kV {p:Prop}(h:p:=by repeat(first|exact cV.nil|refine cV.un ?_|refine cV.eq (by exact rfl) ?_)):p:=h
def bT {p:Prop}(h:p:=by first|exact rfl|exact bn (fun _=>rfl) _):p:=h
def dM {p:Prop}(h:p:=by repeat(first|exact cV.nil|refine cV.un ?_|refine cV.eq (by exact rfl) ?_|refine cV.nl (by exact rfl) (by exact rfl) ?_)):p:=h
def ik {p:Prop}(h:p:=by repeat' first|exact trivial|exact rfl|refine And.intro ?_ ?_):p:=h
def rj {p:Prop}(h:p:=by repeat' first|exact trivial|exact rfl|exact Nat.le_refl _|refine And.intro ?_ ?_):p:=h
def yi {p:Prop}(h:p:=by repeat(first|exact aC.nil|refine aC.cZ (by exact rfl) (by exact rfl) (by first|exact rfl|exact bn (fun _=>rfl) _) ?_|refine aC.lK (by exact rfl) (by exact rfl) (by exact rfl) ?_|refine aC.py (by exact rfl) (by exact rfl) (by exact rfl) (by exact rfl) ?_)):p:=h
def b0 {p:Prop} [Decidable p]:(decide p=true)=p:=decide_eq_true_eq
def b1 {p:Prop} [Decidable p]:decide p=false↔¬p:=decide_eq_false_iff_not
def b2 (b:Bool):((!b)=true)=(b=false):=Bool.not_eq_true' b
def b3 (b:Bool):((!b)=false)=(b=true):=Bool.not_eq_false' b
def b4 (b:Bool):(¬(b=false))=(b=true):=Bool.not_eq_false b
def b5 (a b:Bool):((a ||b)=true)=(a=true∨b=true):=Bool.or_eq_true a b
end Go.Abs
namespace Go.Abs
abbrev dS (Γ:Ctx)(a:aB)(d:D)(ds:List D):Prop:=bx (Γ.at 0) a.body (I4 a d) (eu a ds) ⟨0,[]⟩
def bX {a:aB}{d d2:D}{e:Ex}{nx:Nat}{m:List (Nat×aV)}{env:List aW}(h:d2=d)(he:e.home:=by exact trivial)(h1:lG m env a.res:=by exact rj)(h2:vI a env m:=by exact ik)(h3:C9 a env m=d2:=by exact rfl):I4 a d e env ⟨nx,m⟩:=Kc he h1 h2 (h3.trans h)
def bL {a:aB}{d d2:Bool}{e:Ex}{nx:Nat}{m:List (Nat×aV)}{env:List aW}(h:d2=d)(he:e.home:=by exact trivial)(h1:lG m env a.res:=by exact rj)(h2:vI a env m:=by exact ik)(h3:C9 a env m=.bool d2:=by exact rfl):I4 a (.bool d) e env ⟨nx,m⟩:=bX (congrArg _ h) he h1 h2 h3
def cu {a:aB}{d d2:List UInt8}{e:Ex}{nx:Nat}{m:List (Nat×aV)}{env:List aW}(h:d2=d)(he:e.home:=by exact trivial)(h1:lG m env a.res:=by exact rj)(h2:vI a env m:=by exact ik)(h3:C9 a env m=.str d2:=by exact rfl):I4 a (.str d) e env ⟨nx,m⟩:=bX (congrArg _ h) he h1 h2 h3
def gU {a:aB}{d d2:Int}{e:Ex}{nx:Nat}{m:List (Nat×aV)}{env:List aW}(h:d2=d)(he:e.home:=by exact trivial)(h1:lG m env a.res:=by exact rj)(h2:vI a env m:=by exact ik)(h3:C9 a env m=.int .i64 d2:=by exact rfl):I4 a (.int .i64 d) e env ⟨nx,m⟩:=bX (congrArg _ h) he h1 h2 h3
def ef {lo c nx nx2:Nat}{env env2:List aW}{m m2:List (Nat×aV)}(σ:List (Nat×Nat))(hc:nx2=c:=by exact ae)(h:eD lo c σ=true:=by exact ae)(he:cV lo σ env env2:=by exact dM)(hm:aC lo c σ m m2:=by exact yi):aL lo env ⟨nx,m⟩ env2 ⟨nx2,m2⟩:=aL.to σ hc h he hm
def qQ {Γ:Ctx}{draw f:Bool}{r:List GI}{env rs:List aW}{nx:Nat}{m:List (Nat×aV)}{K:List aW→St→Prop}{g:Option (Nat×Bool)}{x y:Src}{fx fy:Bool}{a b:List UInt8}(h:ar Γ draw r env (⟨f,.str (a++b)⟩::rs) nx m K)(hg:GF rs g f:=by first|exact rfl|exact⟨_,_,rfl,rfl⟩)(hx:bB env rs x=⟨fx,.str a⟩:=by exact rfl)(hy:bB env rs y=⟨fy,.str b⟩:=by exact rfl)(kx:f=true→fx=true:=by first|exact fun _=>rfl|exact fun h=>h|(intro h;simp_all))(ky:f=true→fy=true:=by first|exact fun _=>rfl|exact fun h=>h|(intro h;simp_all))(hb:f=true→a.length+b.length≤9223372036854775807:=by intro _;simp only[List.length_append,List.length_cons,List.length_nil];omega):ar Γ draw (⟨.bin .add x y,g⟩::r) env rs nx m K:=cX h hg hx hy kx ky hb
end Go.Abs
namespace Go.Abs
section
variable {Γ:Ctx} {Q:Ex→List aW→St→Prop}
def cmN {env rs:List aW}:DE env rs []=env:=rfl
def cmC {s p:Nat}{r:List (Nat×Nat)}{env rs env1 env':List aW}{f:Bool}{d:D}(e:bB [] rs (.l p)=⟨f,d⟩)(hs:env.set s ⟨f,d⟩=env1)(h:DE env1 rs r=env'):DE env rs ((s,p)::r)=env':=by
 simp only[DE,e,hs,h]
def rrrg {draw:Bool}{cm:List (Nat×Nat)}{b:AC}{nx nx':Nat}{m:List (Nat×aV)}{rs env eu env':List aW}(h:bx Γ b Q env' ⟨nx',m⟩)
  (he:DE env rs cm=env':=by repeat(first|apply cmC (by exact rfl) (by simp only[List.set_cons_zero,List.set_cons_succ];exact rfl)|with_reducible exact cmN)) (hn:nx+rs.length=nx':=by simp only[List.length_cons,List.length_nil,Nat.reduceAdd];exact rfl):ar Γ draw [] eu rs nx m (fun vs st'=>bx Γ b Q (et env vs cm) st'):=
 Hs h he hn
def rrrh {draw:Bool}{cm:List (Nat×Nat)}{nx nx':Nat}{m:List (Nat×aV)}{rs env eu env':List aW}(h:Q .normal env' ⟨nx',m⟩)
  (he:DE env rs cm=env':=by repeat(first|apply cmC (by exact rfl) (by simp only[List.set_cons_zero,List.set_cons_succ];exact rfl)|with_reducible exact cmN)) (hn:nx+rs.length=nx':=by simp only[List.length_cons,List.length_nil,Nat.reduceAdd];exact rfl):ar Γ draw [] eu rs nx m (fun vs st'=>Q .normal (et env vs cm) st'):=
 Ht h he hn
end
def Fam (_:Prop):Type:=Unit
def rC {q:Prop}:Fam q:=()
structure Hid (q:Prop)(f:Fam q):Prop where
 val:q
section
variable {Γ:Ctx} {draw b1:Bool} {r:List GI} {env rs:List aW} {nx n0 n1:Nat} {m:List (Nat×aV)} {K:List aW→St→Prop} {g:Option (Nat×Bool)} {x0 x1 x2:Src}
def tg0 {Γ:Ctx}{a:AC}{Q:Ex→List aW→St→Prop}{env:List aW}{st:St}(h:bx Γ a Q env st):bx Γ a Q env st:=h
def tg1 (h:ar Γ draw (⟨.mv x0,g⟩::r) env rs nx m K):ar Γ draw (⟨.mv x0,g⟩::r) env rs nx m K:=h
def tg2 (h:ar Γ draw [] env rs nx m K):ar Γ draw [] env rs nx m K:=h
def tg3 (h:ar Γ draw (⟨.fa n0 x1,g⟩::r) env rs nx m K):ar Γ draw (⟨.fa n0 x1,g⟩::r) env rs nx m K:=h
def tg4 (h:ar Γ draw (⟨.ld n0 b1 x2,g⟩::r) env rs nx m K):ar Γ draw (⟨.ld n0 b1 x2,g⟩::r) env rs nx m K:=h
def tg5 (h:ar Γ draw (⟨.bin .lss x0 x1,g⟩::r) env rs nx m K):ar Γ draw (⟨.bin .lss x0 x1,g⟩::r) env rs nx m K:=h
def tg6 (h:ar Γ draw (⟨.bin .eql x0 x1,g⟩::r) env rs nx m K):ar Γ draw (⟨.bin .eql x0 x1,g⟩::r) env rs nx m K:=h
def tg7 (h:ar Γ draw (⟨.bin .add x0 x1,g⟩::r) env rs nx m K):ar Γ draw (⟨.bin .add x0 x1,g⟩::r) env rs nx m K:=h
def tg8 (h:ar Γ draw (⟨.bin .gtr x0 x1,g⟩::r) env rs nx m K):ar Γ draw (⟨.bin .gtr x0 x1,g⟩::r) env rs nx m K:=h
def tg9 (h:ar Γ draw (⟨.bin .neq x0 x1,g⟩::r) env rs nx m K):ar Γ draw (⟨.bin .neq x0 x1,g⟩::r) env rs nx m K:=h
def tg10 (h:ar Γ draw (⟨.bin .leq x0 x1,g⟩::r) env rs nx m K):ar Γ draw (⟨.bin .leq x0 x1,g⟩::r) env rs nx m K:=h
def tg11 (h:ar Γ draw (⟨.bin .geq x0 x1,g⟩::r) env rs nx m K):ar Γ draw (⟨.bin .geq x0 x1,g⟩::r) env rs nx m K:=h
def tg12 (h:ar Γ draw (⟨.bin .sub x0 x1,g⟩::r) env rs nx m K):ar Γ draw (⟨.bin .sub x0 x1,g⟩::r) env rs nx m K:=h
def tg13 (h:ar Γ draw (⟨.ext x0 n1,g⟩::r) env rs nx m K):ar Γ draw (⟨.ext x0 n1,g⟩::r) env rs nx m K:=h
def tg14 (h:ar Γ draw (⟨.pick x0 x1 (.c (.bool false)),g⟩::r) env rs nx m K):ar Γ draw (⟨.pick x0 x1 (.c (.bool false)),g⟩::r) env rs nx m K:=h
def tg15 (h:ar Γ draw (⟨.pick x0 (.c (.bool true)) x1,g⟩::r) env rs nx m K):ar Γ draw (⟨.pick x0 (.c (.bool true)) x1,g⟩::r) env rs nx m K:=h
def tg16 (h:ar Γ draw (⟨.un .not x0,g⟩::r) env rs nx m K):ar Γ draw (⟨.un .not x0,g⟩::r) env rs nx m K:=h
def tg17 (h:ar Γ draw (⟨.nilck x0,g⟩::r) env rs nx m K):ar Γ draw (⟨.nilck x0,g⟩::r) env rs nx m K:=h
def tg18 (h:ar Γ draw (⟨.box n0 x1,g⟩::r) env rs nx m K):ar Γ draw (⟨.box n0 x1,g⟩::r) env rs nx m K:=h
def tg19 (h:ar Γ draw (⟨.ia n0 x1 x2,g⟩::r) env rs nx m K):ar Γ draw (⟨.ia n0 x1 x2,g⟩::r) env rs nx m K:=h
def tg20 (h:ar Γ draw (⟨.ixS x0 x1,g⟩::r) env rs nx m K):ar Γ draw (⟨.ixS x0 x1,g⟩::r) env rs nx m K:=h
def tg21 (h:ar Γ draw (⟨.st n0 x1 x2,g⟩::r) env rs nx m K):ar Γ draw (⟨.st n0 x1 x2,g⟩::r) env rs nx m K:=h
def tg22 (h:ar Γ draw (⟨.len x0,g⟩::r) env rs nx m K):ar Γ draw (⟨.len x0,g⟩::r) env rs nx m K:=h
def tg23 (h:ar Γ draw (⟨.lenS x0,g⟩::r) env rs nx m K):ar Γ draw (⟨.lenS x0,g⟩::r) env rs nx m K:=h
def tg24 (h:ar Γ draw (⟨.rng x0,g⟩::r) env rs nx m K):ar Γ draw (⟨.rng x0,g⟩::r) env rs nx m K:=h
def tg25 (h:ar Γ draw (⟨.s2b x0,g⟩::r) env rs nx m K):ar Γ draw (⟨.s2b x0,g⟩::r) env rs nx m K:=h
def tg26 (h:ar Γ draw (⟨.mkB,g⟩::r) env rs nx m K):ar Γ draw (⟨.mkB,g⟩::r) env rs nx m K:=h
def tg27 (h:ar Γ draw (⟨.app n0 x1 x2,g⟩::r) env rs nx m K):ar Γ draw (⟨.app n0 x1 x2,g⟩::r) env rs nx m K:=h
end
def ax {p q:Prop}(k:q)(h:Hid q rC→p:=by
 intro h;first
 |((with_reducible refine tg0 ?_);first|with_reducible exact ak h.1|with_reducible exact FF h.1|with_reducible exact AB h.1|with_reducible exact Kr h.1|with_reducible exact C8 h.1|with_reducible exact wp_ret h.1|with_reducible exact wp_skip h.1|with_reducible exact AA h.1|with_reducible exact wp_exit h.1|with_reducible exact yS h.1 hm|with_reducible exact C7 h.1 hm)
 |((with_reducible refine tg1 ?_);(refine r_mv ?_;exact h.1))
 |((with_reducible refine tg2 ?_);first|(refine rrrh ?_;exact h.1)|(refine rrrg ?_;exact h.1))
 |((with_reducible refine tg3 ?_);first|(refine MH ?_;exact h.1)|(refine MI ?_;exact h.1))
 |((with_reducible refine tg4 ?_);first|exact ch (.int _ _) h.1|exact ch (.str _) h.1|(refine ca (v:=.str _) ?_;exact h.1)|(refine gB (v:=.str _) ?_;exact h.1)|(refine ca (v:=.int _ _) ?_;exact h.1)|(refine gB (v:=.int _ _) ?_;exact h.1)|exact ch (.sl _ _) h.1|exact ch (.own _ _ _ _) h.1|exact ch (.bool _) h.1|(refine ca (v:=.sl _ _) ?_;exact h.1)|(refine gB (v:=.sl _ _) ?_;exact h.1)|(refine ca (v:=.bool _) ?_;exact h.1)|(refine gB (v:=.bool _) ?_;exact h.1)|exact cy h.1|exact ch .au h.1)
 |((with_reducible refine tg5 ?_);first|(refine J3 ?_;exact h.1)|(refine J4 ?_;exact h.1))
 |((with_reducible refine tg6 ?_);first|(refine JU ?_;exact h.1)|(refine JV ?_;exact h.1))
 |((with_reducible refine tg7 ?_);(refine Hm ?_;exact h.1))
 |((with_reducible refine tg8 ?_);first|(refine Ab ?_;exact h.1)|(refine Ac ?_;exact h.1))
 |((with_reducible refine tg9 ?_);first|(refine J6 ?_;exact h.1)|(refine J7 ?_;exact h.1))
 |((with_reducible refine tg10 ?_);first|(refine J1 ?_;exact h.1)|(refine J2 ?_;exact h.1))
 |((with_reducible refine tg11 ?_);first|(refine JW ?_;exact h.1)|(refine JX ?_;exact h.1))
 |((with_reducible refine tg12 ?_);(refine Ho ?_;exact h.1))
 |((with_reducible refine tg13 ?_);first|exact fG (.int _ _) h.1|exact fG (.str _) h.1|exact fG (.bool _) h.1)
 |((with_reducible refine tg14 ?_);(refine ME ?_;exact h.1))
 |((with_reducible refine tg15 ?_);(refine r_or ?_;exact h.1))
 |((with_reducible refine tg16 ?_);(refine MM ?_;exact h.1))
 |((with_reducible refine tg17 ?_);first|(refine J8 ?_;exact h.1)|(refine J9 ?_;exact h.1))
 |((with_reducible refine tg18 ?_);(refine MG ?_;exact h.1))
 |((with_reducible refine tg19 ?_);first|exact cD _ h.1|exact E6 h.1|exact kA _ h.1|exact JY h.1)
 |((with_reducible refine tg20 ?_);first|exact Bf _ h.1|exact JZ h.1)
 |((with_reducible refine tg21 ?_);exact aF _ h.1)
 |((with_reducible refine tg22 ?_);first|exact E9 fun a=>(h.1:_→_) (a rfl rfl)|exact Fa fun a=>(h.1:_→_) (a rfl rfl)|(refine J0 ?_;exact h.1))
 |((with_reducible refine tg23 ?_);exact Fb fun a=>(h.1:_→_) (a rfl rfl))
 |((with_reducible refine tg24 ?_);(refine MO ?_;exact h.1))
 |((with_reducible refine tg25 ?_);(refine MP ?_;exact h.1))
 |((with_reducible refine tg26 ?_);(refine MJ ?_;exact h.1))
 |((with_reducible refine tg27 ?_);(refine iH ?_;exact h.1))
 |with_reducible exact BQ.normal h.1|with_reducible exact BQ.ret h.1|with_reducible exact LQ.normal h.1|with_reducible exact LQ.out h.1|with_reducible exact LQ.ret h.1|with_reducible exact BQ.out h.1|with_reducible exact yX.normal h.1|with_reducible exact yX.ret h.1|with_reducible exact yY.normal h.1|with_reducible exact yY.ret h.1|with_reducible exact yX.out h.1|with_reducible exact yY.out h.1|with_reducible exact CQ.normal h.1|with_reducible exact CQ.ret h.1|with_reducible exact CQ.other h.1|((with_reducible refine BQ.other ?_ h.1);exact rfl)|((with_reducible refine LQ.other ?_ h.1);exact rfl)|((with_reducible refine yX.other ?_ h.1);exact rfl)|((with_reducible refine yY.other ?_ h.1);exact rfl)):p:=h ⟨k⟩
def ny {p q:Prop}(k:q)(h:Hid q rC→p:=by intro h;first|exact E9 fun _=>h.1|exact Fb fun _=>h.1|exact Fa fun _=>h.1):p:=h ⟨k⟩
section
variable {Γ:Ctx} {Q:Ex→List aW→St→Prop}
end
def hO:(∀{p:Prop} [Decidable p],(decide p=true)=p)∧(∀{p:Prop} [Decidable p],decide p=false↔¬p)∧(∀b:Bool,((!b)=true)=(b=false))∧(∀b:Bool,((!b)=false)=(b=true))∧(∀b:Bool,(¬(b=false))=(b=true))∧(∀a b:Bool,((a ||b)=true)=(a=true∨b=true))∧(∀{a b:Bool},(a ||b)=false↔a=false∧b=false)∧(∀a b:Bool,((a&&b)=true)=(a=true∧b=true))∧(∀{a b:Bool},(a&&b)=false↔a=false∨b=false)∧(∀b:Bool,(¬(b=true))=(b=false))∧(∀b:Bool,(true&&b)=b)∧∀b:Bool,(b&&true)=b:=
 ⟨decide_eq_true_eq,decide_eq_false_iff_not,Bool.not_eq_true',Bool.not_eq_false',Bool.not_eq_false,Bool.or_eq_true,Bool.or_eq_false_iff,Bool.and_eq_true,Bool.and_eq_false_iff,Bool.not_eq_true,Bool.true_and,Bool.and_true⟩
section
variable {Γ:Ctx} {Q:Ex→List aW→St→Prop} {env:List aW} {st:St}
def cF {c:Src}{a b r:AC}{t:Bool}{c1 c2:Prop}(h1:c1→bx Γ (.seq a r) Q env st)(h2:c2→bx Γ (.seq b r) Q env st)(hc:bB env [] c=⟨true,.bool t⟩:=by exact rfl)(e1:t=true→c1:=by intro h;(try simp only[hO]at h);exact h)(e2:t=false→c2:=by intro h;(try simp only[hO]at h);exact h):bx Γ (.seq (.cond c a b) r) Q env st:=aq (fun h=>h1 (e1 h)) (fun h=>h2 (e2 h)) hc
def fQ {c:Src}{a b:AC}{t:Bool}{c1 c2:Prop}(h1:c1→bx Γ a Q env st)(h2:c2→bx Γ b Q env st)(hc:bB env [] c=⟨true,.bool t⟩:=by exact rfl)(e1:t=true→c1:=by intro h;(try simp only[hO]at h);exact h)(e2:t=false→c2:=by intro h;(try simp only[hO]at h);exact h):bx Γ (.cond c a b) Q env st:=wp_cond (fun h=>h1 (e1 h)) (fun h=>h2 (e2 h)) hc
end
end Go.Abs
namespace Go.Abs
def ay {p q:Prop}(k:q)(h:Hid q rC→p:=by intro h;(iterate 2 refine ax ?_);exact h.1):p:=h ⟨k⟩
def az {p q:Prop}(k:q)(h:Hid q rC→p:=by intro h;(iterate 3 refine ax ?_);exact h.1):p:=h ⟨k⟩
def aA {p q:Prop}(k:q)(h:Hid q rC→p:=by intro h;(iterate 4 refine ax ?_);exact h.1):p:=h ⟨k⟩
def aR {p q:Prop}(k:q)(h:Hid q rC→p:=by intro h;(iterate 5 refine ax ?_);exact h.1):p:=h ⟨k⟩
def aT {p q:Prop}(k:q)(h:Hid q rC→p:=by intro h;(iterate 6 refine ax ?_);exact h.1):p:=h ⟨k⟩
def ba {p q:Prop}(k:q)(h:Hid q rC→p:=by intro h;(iterate 7 refine ax ?_);exact h.1):p:=h ⟨k⟩
def b6 {p q:Prop}(k:q)(h:Hid q rC→p:=by intro h;(iterate 8 refine ax ?_);exact h.1):p:=h ⟨k⟩
def dh {p q:Prop}(k:q)(h:Hid q rC→p:=by intro h;(iterate 9 refine ax ?_);exact h.1):p:=h ⟨k⟩
def iT {p q:Prop}(k:q)(h:Hid q rC→p:=by intro h;(iterate 10 refine ax ?_);exact h.1):p:=h ⟨k⟩
def fK {p q:Prop}(k:q)(h:Hid q rC→p:=by intro h;(iterate 11 refine ax ?_);exact h.1):p:=h ⟨k⟩
def ix {p q:Prop}(k:q)(h:Hid q rC→p:=by intro h;(iterate 12 refine ax ?_);exact h.1):p:=h ⟨k⟩
def lB {p q:Prop}(k:q)(h:Hid q rC→p:=by intro h;(iterate 13 refine ax ?_);exact h.1):p:=h ⟨k⟩
def vL {p q:Prop}(k:q)(h:Hid q rC→p:=by intro h;(iterate 14 refine ax ?_);exact h.1):p:=h ⟨k⟩
def yW {p q:Prop}(k:q)(h:Hid q rC→p:=by intro h;(iterate 15 refine ax ?_);exact h.1):p:=h ⟨k⟩
def tH {p q:Prop}(k:q)(h:Hid q rC→p:=by intro h;(iterate 16 refine ax ?_);exact h.1):p:=h ⟨k⟩
def FI {p q:Prop}(k:q)(h:Hid q rC→p:=by intro h;(iterate 17 refine ax ?_);exact h.1):p:=h ⟨k⟩
def Ip {p q:Prop}(k:q)(h:Hid q rC→p:=by intro h;(iterate 18 refine ax ?_);exact h.1):p:=h ⟨k⟩
def M3 {p q:Prop}(k:q)(h:Hid q rC→p:=by intro h;(iterate 24 refine ax ?_);exact h.1):p:=h ⟨k⟩
def Iq {p q:Prop}(k:q)(h:Hid q rC→p:=by intro h;(iterate 25 refine ax ?_);exact h.1):p:=h ⟨k⟩
def M4 {p q:Prop}(k:q)(h:Hid q rC→p:=by intro h;(iterate 26 refine ax ?_);exact h.1):p:=h ⟨k⟩
def FJ {p q:Prop}(k:q)(h:Hid q rC→p:=by intro h;(iterate 28 refine ax ?_);exact h.1):p:=h ⟨k⟩
def Ir {p q:Prop}(k:q)(h:Hid q rC→p:=by intro h;(iterate 36 refine ax ?_);exact h.1):p:=h ⟨k⟩
end Go.Abs
namespace Go.Abs
abbrev s0:Src:=.s 0
abbrev s1:Src:=.s 1
abbrev s2:Src:=.s 2
abbrev s3:Src:=.s 3
abbrev s4:Src:=.s 4
abbrev s5:Src:=.s 5
abbrev s6:Src:=.s 6
abbrev s7:Src:=.s 7
abbrev s8:Src:=.s 8
abbrev s9:Src:=.s 9
abbrev lx:Src:=.s 10
abbrev oz:Src:=.s 11
abbrev m8:Src:=.s 12
abbrev tn:Src:=.s 13
abbrev rS:Src:=.s 14
abbrev vc:Src:=.s 15
abbrev Bn:Src:=.s 16
abbrev wY:Src:=.s 17
abbrev CU:Src:=.s 18
abbrev Kd:Src:=.s 19
abbrev FN:Src:=.s 20
abbrev s21:Src:=.s 21
abbrev s22:Src:=.s 22
abbrev s23:Src:=.s 23
abbrev KD:Src:=.s 24
abbrev KE:Src:=.s 25
abbrev MR:Src:=.s 26
abbrev s27:Src:=.s 27
abbrev s28:Src:=.s 28
abbrev s29:Src:=.s 29
abbrev Ii:Src:=.s 30
abbrev s31:Src:=.s 31
abbrev s32:Src:=.s 32
abbrev s33:Src:=.s 33
abbrev s34:Src:=.s 34
abbrev s35:Src:=.s 35
abbrev s36:Src:=.s 36
abbrev s37:Src:=.s 37
abbrev s38:Src:=.s 38
abbrev l0:Src:=.l 0
abbrev l1:Src:=.l 1
abbrev l2:Src:=.l 2
abbrev l3:Src:=.l 3
abbrev l4:Src:=.l 4
abbrev l5:Src:=.l 5
abbrev l6:Src:=.l 6
abbrev l7:Src:=.l 7
abbrev l8:Src:=.l 8
abbrev l9:Src:=.l 9
abbrev l10:Src:=.l 10
abbrev jK:Src:=.l 11
abbrev lu:Src:=.l 12
abbrev nu:Src:=.l 13
abbrev n7:Src:=.l 14
abbrev oY:Src:=.l 15
abbrev q9:Src:=.l 16
abbrev wo:Src:=.l 17
abbrev wX:Src:=.l 18
abbrev y5:Src:=.l 19
abbrev A3:Src:=.l 20
abbrev Ch:Src:=.l 21
abbrev Ee:Src:=.l 22
abbrev Ia:Src:=.l 23
abbrev Ib:Src:=.l 24
abbrev Jv:Src:=.l 25
abbrev Kz:Src:=.l 26
abbrev Mv:Src:=.l 27
abbrev Mw:Src:=.l 28
abbrev Mx:Src:=.l 29
abbrev l30:Src:=.l 30
abbrev l31:Src:=.l 31
abbrev l32:Src:=.l 32
abbrev l33:Src:=.l 33
abbrev l34:Src:=.l 34
abbrev gm (x:Src):GI:=⟨.mv x,none⟩
abbrev gn (x:aw):GI:=⟨x,none⟩
abbrev i6 (n:Int):Src:=.c (.int .i64 n)
abbrev cs (s:List UInt8):Src:=.c (.str s)
abbrev gd (x:Src):GI:=⟨.ld 1 false x,none⟩
abbrev gk (n:Nat)(b:Bool)(x:Src):GI:=⟨.ld n b x,none⟩
abbrev gf (n:Nat)(x:Src):GI:=⟨.fa n x,none⟩
abbrev gl (x:Src):GI:=⟨.len x,none⟩
abbrev ga (n:Nat)(x y:Src):GI:=⟨.ia n x y,none⟩
abbrev ge (x:Src)(n:Nat):GI:=⟨.ext x n,none⟩
abbrev gb (n:Nat)(x:Src):GI:=⟨.box n x,none⟩
abbrev gc (x:Src):GI:=⟨.nilck x,none⟩
abbrev gt (n:Nat)(x y:Src):GI:=⟨.st n x y,none⟩
abbrev gx (n:Nat)(x:List Src)(y:List (List Sh)):GI:=⟨.call n x y,none⟩
abbrev rg (x:List GI)(y:List (Nat×Nat)):AC:=.reg false x y
abbrev rt (x:List GI)(y:List (Nat×Nat)):AC:=.reg true x y
abbrev oD (x y:Src):aw:=.bin .lss x y
abbrev cP (x y:Src):aw:=.bin .eql x y
abbrev AJ (x y:Src):aw:=.bin .add x y
abbrev dj (x y:Src):aw:=.bin .gtr x y
abbrev eJ (x y:Src):aw:=.bin .neq x y
abbrev lN (x y:Src):aw:=.bin .leq x y
abbrev xj (x y:Src):aw:=.bin .geq x y
abbrev lO (x y:Src):aw:=.bin .sub x y
abbrev Dw (x y:Src):aw:=.bin .and x y
abbrev dx:Src:=.c (.bool false)
abbrev tO:Src:=.c (.bool true)
abbrev cse:Src:=.c (.str [])
abbrev bD:Src:=.c (.int .i64 0)
abbrev b9:Src:=.c (.int .i64 1)
abbrev kn:Src:=.c (.int .i64 2)
abbrev j7:Src:=.c (.int .i64 3)
abbrev tJ:Src:=.c (.int .i64 4)
abbrev AZ:Src:=.c (.int .i64 5)
abbrev zJ:Src:=.c (.int .i64 6)
abbrev Jr:Src:=.c (.int .i64 7)
abbrev GK:Src:=.c (.int .i64 8)
abbrev A0:Src:=.c (.int .i64 9)
abbrev gmt (n:Nat)(x:Src):GI:=⟨.mv x,some (n,true)⟩
abbrev px (n:Nat)(x:Src):GI:=⟨.ld 1 false x,some (n,true)⟩
abbrev rJ (n o:Nat)(x:Src):GI:=⟨.fa o x,some (n,true)⟩
abbrev cE (n:Nat)(x:aw):GI:=⟨x,some (n,true)⟩
abbrev eW (n:Nat)(x:Src):GI:=⟨.mv x,some (n,false)⟩
abbrev lF (n:Nat)(x:Src):GI:=⟨.ld 1 false x,some (n,false)⟩
abbrev kl (n o:Nat)(x:Src):GI:=⟨.fa o x,some (n,false)⟩
abbrev cA (n:Nat)(x:aw):GI:=⟨x,some (n,false)⟩
abbrev sq (a b:AC):AC:=.seq a b
abbrev zH (x:Src):AC:=.seq (.reg false [⟨.mv x,none⟩] [(1,0)]) .ret
abbrev nG (c x:Src):AC:=.cond c (.seq (.reg false [⟨.mv x,none⟩] [(1,0)]) .ret) .skip
abbrev cn:List (List Sh):=[[.a]]
abbrev Jo:List (List Sh):=[[.a,.a,.a,.a,.a]]
abbrev Jp:List (List Sh):=[[.a,.a,.a,.a,.a,.a,.a]]
abbrev iz:List (List Sh):=[[.a],[.a]]
abbrev Mq:List (List Sh):=[[.a],[.a],[.a]]
abbrev fM (c x:Src):GI:=⟨.pick c (.c (.bool true)) x,none⟩
abbrev gp (c x:Src):GI:=⟨.pick c x (.c (.bool false)),none⟩
abbrev Kw (n:Nat)(c x:Src):GI:=⟨.pick c (.c (.bool true)) x,some (n,true)⟩
abbrev Dd (n:Nat)(c x:Src):GI:=⟨.pick c x (.c (.bool false)),some (n,false)⟩
abbrev aU (x y:Src):GI:=⟨.bin .lss x y,none⟩
abbrev aE (x y:Src):GI:=⟨.bin .eql x y,none⟩
abbrev av (x y:Src):GI:=⟨.bin .add x y,none⟩
abbrev dz (x y:Src):GI:=⟨.bin .gtr x y,none⟩
abbrev cl (x y:Src):GI:=⟨.bin .neq x y,none⟩
abbrev Ep (x y:Src):GI:=⟨.bin .leq x y,none⟩
abbrev gL (x y:Src):GI:=⟨.bin .geq x y,none⟩
abbrev eQ (x y:Src):GI:=⟨.bin .sub x y,none⟩
abbrev JA (x y:Src):GI:=⟨.bin .and x y,none⟩
abbrev Mz (x y:Src):GI:=⟨.bin .or x y,none⟩
abbrev iN (c:Src)(n:Nat):AC:=.cond c .skip (.exit n)
abbrev i8 (n:Int):Src:=.c (.int .u8 n)
abbrev i3 (n:Int):Src:=.c (.int .i32 n)
abbrev iu (n:Int):Src:=.c (.int .u64 n)
abbrev wW (x:Src):GI:=⟨.lenS x,none⟩
abbrev oy (x:Src):GI:=⟨.un .not x,none⟩
abbrev GA (x y:Src):GI:=⟨.ixS x y,none⟩
abbrev r1 (x:List GI)(a b:Nat):AC:=.reg false x [(a,b)]
abbrev r2 (x:List GI)(a b:Nat):AC:=.reg true x [(a,b)]
abbrev jN:List y7:=[⟨1,none⟩]
end Go.Abs
end
section
namespace Go.Abs
open Go
def CO:aB:=⟨2,7,[⟨2,none⟩],cn,(sq (r1 [gm cse] 2 0) (sq (r1 [gm cse] 6 0) (sq (sq (r1 [gm bD] 3 0) (.block 0 (.loop (sq (sq (r1 [gm s3,gm s0,gl l1,aU l0 l2] 4 3) (iN s4 0)) (sq (.block 1 (sq (sq (r1 [gm s3,dz l0 bD] 5 1) (.cond s5 (r1 [gm s6,gm s1,gn (.bsl 1 (.int .u8 0) 1 [(0,l1)]),gn (.b2s l2),av l0 l3,gm l4] 6 5) .skip)) (r1 [gm s6,gm s0,gm s3,ga 1 l1 l2,gd l3,av l0 l4,gm l5] 6 6))) (r1 [gm s3,av l0 b9,gm l1] 3 2)))))) (sq (r1 [gm s6,gm l0] 2 1) .ret))))⟩
def w249 {Γ:Ctx}(hm:(Γ.at 0).bm)  (l:List ah)(x:UInt8)  (hp0:(aP [x] l).length≤1099511627776):dS Γ CO (.str (aP [x] l)) [.sl 1 (l.map D.str),.int .u8 (x.toNat:Nat)]:=by
 show bx _ _ _ [⟨_,_⟩,⟨_,_⟩,_,_,_,_,_] _;refine ak ?_;refine dh ?_;refine bq hm (ι:=Nat) (fun i=>[⟨true,.sl 1 (l.map D.str)⟩,⟨true,.int .u8 (x.toNat:Nat)⟩,.un,⟨true,.int .i64 (i:Nat)⟩,.un,.un,⟨true,.str (aP [x] (l.take i))⟩]) (fun i=>[]) 3 (fun i=>i≤l.length) (fun i=>l.length-i) 0 (by omega) (ef []) ?_;intro i hi;refine aR ?_;intro u0;refine ay ?_;refine cF (fun hc0=>?_) fun hc0=>?_
 ·refine aA ?_;have hj:=uI [x] l (i+1);refine az ?_;refine aq (fun hc1=>?_) (fun hc1=>?_)
  ·simp only[decide_eq_true_eq]at hc1;have ht:=n6 [x] l i (by omega);rw[if_pos (by omega)]at ht;have htl:=congrArg List.length ht;simp only[List.length_append,List.length_singleton]at htl;refine az ?_;refine ct [.int .u8 _] ?_;refine E3 [x] (he:=fun _=>qR.all ae rfl) (hs:=fun _=>rfl) ?_;refine cX (hb:=fun _=>by simp only[List.length_singleton];omega) ?_;refine b6 ?_;refine cX (hb:=fun _=>by first|(simp only[List.length_append,List.length_singleton];omega)|(subst hi0;simp only[List.take_zero,aP,List.length_nil]at htl⊢;omega)) ?_;refine dh ?_;exact⟨i+1,(by omega),by omega,(aL.to [] ae ae (by repeat(first|exact cV.nil|refine cV.un ?_|refine cV.eq ae ?_|refine cV.nl (congrArg D.str (by rw[ht])) ae ?_)) yi)⟩
  simp only[decide_eq_false_iff_not]at hc1;have ht:=n6 [x] l i (by omega);rw[if_neg (by omega)]at ht;have htl:=congrArg List.length ht;simp only[List.length_append,List.length_nil]at htl;have hi0:i=0:=by omega
  refine ba ?_;refine cX (hb:=fun _=>by first|(simp only[List.length_append,List.length_singleton];omega)|(subst hi0;simp only[List.take_zero,aP,List.length_nil]at htl⊢;omega)) ?_;refine dh ?_;exact⟨i+1,(by omega),by omega,(aL.to [] ae ae (by repeat(first|exact cV.nil|refine cV.un ?_|refine cV.eq ae ?_|refine cV.nl (congrArg D.str (by rw[ht];subst hi0;rfl)) ae ?_)) yi)⟩
 refine ba ?_;refine cu ?_;rw[List.take_of_length_le (by omega)]
def KU (Γ:Ctx):Prop:=∀(l:List ah)(x:UInt8),((aP [x] l).length≤1099511627776)→Γ.pre 249 [.sl 1 (l.map D.str),.int .u8 (x.toNat:Nat)]∧Γ.val 249 [.sl 1 (l.map D.str),.int .u8 (x.toNat:Nat)]=.str (aP [x] l)
def tR:aB:=⟨1,5,jN,cn,(sq (r1 [gm dx] 1 0) (sq (sq (r1 [gm b9] 2 0) (.block 0 (.loop (sq (sq (r1 [gm s2,gm s0,gl l1,aU l0 l2] 3 3) (iN s3 0)) (sq (.block 1 (sq (r2 [gm s0,gm s2,eQ l1 b9,ga 1 l0 l2,gd l3,gm s0,gm s2,ga 1 l5 l6,gd l7,gL l4 l8] 4 9) (nG s4 dx))) (r1 [gm s2,av l0 b9,gm l1] 2 2)))))) (zH tO)))⟩
def w447 {Γ:Ctx}(hm:(Γ.at 0).bm)  (l:List ah)   :dS Γ tR (.bool (rising l)) [.sl 1 (l.map D.str)]:=by
 show bx _ _ _ [⟨_,_⟩,_,_,_,_] _;refine ak ?_;refine aT ?_;refine bq hm (ι:=Nat) (fun i=>[⟨true,.sl 1 (l.map D.str)⟩,.un,⟨true,.int .i64 (i:Nat)⟩,.un,.un]) (fun i=>[]) 2 (fun i=>1≤i∧(i≤l.length∨i=1)∧rising l=cj (fun i=>Op.bytesLess l[i-1]! l[i]!) i l.length) (fun i=>l.length-i) 1 ⟨by omega,by omega,rfl⟩ (ef []) ?_;rintro i ⟨h1,hi,hr⟩;refine aR ?_;intro u0;refine ay ?_;refine cF (fun hc0=>?_) fun hc0=>?_
 ·refine aT ?_;refine cD (i-1) ?_;refine ba ?_;refine wp_cond (fun hc1=>?_) (fun hc1=>?_)
  ·simp only[Bool.not_eq_true']at hc1;refine aT ?_;refine bL ?_;rw[hr,aK (by omega),hc1];rfl
  simp only[Bool.not_eq_false']at hc1;refine b6 ?_;exact⟨i+1,⟨by omega,by omega,by rw[hr,aK (by omega),hc1];rfl⟩,by omega,(ef [])⟩
 refine aT ?_;refine bL ?_;rw[hr,bY (by omega)]
def K3 (Γ:Ctx):Prop:=∀(l:List ah),Γ.pre 447 [.sl 1 (l.map D.str)]∧Γ.val 447 [.sl 1 (l.map D.str)]=.bool (rising l)
end Go.Abs
end
section
namespace Go.Abs
open Go
def zL:aB:=⟨1,8,jN,cn,(sq (r1 [gm dx] 1 0) (sq (sq (r1 [gm s0,aE l0 cse,gm l1,eW 2 s0,cA 2 (.lenS l3),cA 2 (dj l4 (i6 12)),fM l2 l5] 2 6) (nG s2 dx)) (sq (sq (r1 [gm s0,gn (.rng l0)] 3 1) (.block 0 (.loop (sq (rg [gn (.tK s3),ge l0 0] [(5,0),(4,1)]) (sq (iN s4 0) (.block 1 (sq (r1 [ge s5 2,gm l0] 6 1) (.block 2 (sq (sq (r1 [gm s6,gL l0 (i3 97),gm l1,gmt 2 s6,cE 2 (lN l3 (i3 122)),gp l2 l4,gm l5] 7 6) (.cond s7 .skip (sq (r1 [gm s6,gL l0 (i3 48),gm l1,gmt 2 s6,cE 2 (lN l3 (i3 57)),gp l2 l4,gm l5] 7 6) (.cond s7 .skip (r1 [gm s6,aE l0 (i3 95),gm l1] 7 2))))) (.cond s7 .skip (zH dx))))))))))) (zH tO))))⟩
def w349 {Γ:Ctx}(hm:(Γ.at 0).bm)  (s:ah)   :dS Γ zL (.bool (bI s)) [.str s]:=by
 show bx _ _ _ [⟨_,_⟩,_,_,_,_,_,_,_] _;refine ak ?_;refine b6 ?_;refine ny ?_;refine az ?_;refine cF (fun hc0=>?_) fun hc0=>?_
 ·refine aR ?_;refine bL ?_;symm;simp only[bI,Bool.and_eq_false_iff,decide_eq_false_iff_not];rcases hc0 with h|h
  ·subst h;exact Or.inl (Or.inl (by simp))
  ·exact Or.inl (by omega)
 refine aT ?_;have hP:bI s=cj (fun i=>vy (at8 s i)) 0 s.length:=by
  have:=List.length_pos_iff.2 hc0.1;simp only[bI];rw[decide_eq_true (by omega),decide_eq_true (by omega)];rfl
 refine bq hm (ι:=Nat) (fun i=>[⟨true,.str s⟩,.un,.un,⟨true,.it 9⟩,.un,.un,.un,.un]) (fun i=>[(9,.iter s i)]) 10 (fun i=>i≤s.length∧bI s=cj (fun i=>vy (at8 s i)) i s.length) (fun i=>s.length-i) 0 ⟨by omega,hP⟩ (ef [(9,9)]) ?_;rintro i ⟨hi,hr⟩;refine ax ?_;by_cases hnx:i<s.length
 ·obtain⟨c,w,hdec,hw,hcw⟩:=oM s i hnx;refine wF c w (hp:=hnx) (hc:=hdec) ?_;refine ay ?_;refine aq (t:=true) (fun _=>?_) (fun h=>by cases h);refine FI ?_;refine cF (fun hc2=>?_) fun hc2=>?_
  ·refine ax ?_;refine fQ (fun hc4=>?_) fun hc4=>?_
   ·refine aA ?_;obtain⟨rfl,hat,-⟩:w=1∧(c:Int)=at8 s i∧c<128:=by
     rcases hcw with h|h
     ·exact h
     ·omega
    have hz:vy (at8 s i)=true:=by
     simp only[vy,fN,aM,Bool.or_eq_true,Bool.and_eq_true,decide_eq_true_eq];omega
    exact⟨i+1,⟨by omega,by rw[hr,aK hnx,hz];rfl⟩,by omega,(ef [(9,9)])⟩
   refine ba ?_;refine bL ?_;first
    |(exfalso;omega)
    |(rw[hr,bY (by omega)];done)
    |(
     have hz:vy (at8 s i)=false:=by
      rcases hcw with⟨_,h,_⟩|⟨_,h⟩<;>(simp only[vy,fN,aM,Bool.or_eq_false_iff,Bool.and_eq_false_iff,decide_eq_false_iff_not];omega)
     rw[hr,aK hnx,hz];rfl)
  refine iT ?_;refine cF (fun hc3=>?_) fun hc3=>?_
  ·refine ax ?_;refine fQ (fun hc4=>?_) fun hc4=>?_
   ·refine aA ?_;obtain⟨rfl,hat,-⟩:w=1∧(c:Int)=at8 s i∧c<128:=by
     rcases hcw with h|h
     ·exact h
     ·omega
    have hz:vy (at8 s i)=true:=by
     simp only[vy,fN,aM,Bool.or_eq_true,Bool.and_eq_true,decide_eq_true_eq];omega
    exact⟨i+1,⟨by omega,by rw[hr,aK hnx,hz];rfl⟩,by omega,(ef [(9,9)])⟩
   refine ba ?_;refine bL ?_;first
    |(exfalso;omega)
    |(rw[hr,bY (by omega)];done)
    |(
     have hz:vy (at8 s i)=false:=by
      rcases hcw with⟨_,h,_⟩|⟨_,h⟩<;>(simp only[vy,fN,aM,Bool.or_eq_false_iff,Bool.and_eq_false_iff,decide_eq_false_iff_not];omega)
     rw[hr,aK hnx,hz];rfl)
  refine aR ?_;refine fQ (fun hc4=>?_) fun hc4=>?_
  ·refine aA ?_;obtain⟨rfl,hat,-⟩:w=1∧(c:Int)=at8 s i∧c<128:=by
    rcases hcw with h|h
    ·exact h
    ·omega
   have hz:vy (at8 s i)=true:=by
    simp only[vy,fN,aM,Bool.or_eq_true,Bool.and_eq_true,decide_eq_true_eq];omega
   exact⟨i+1,⟨by omega,by rw[hr,aK hnx,hz];rfl⟩,by omega,(ef [(9,9)])⟩
  refine ba ?_;refine bL ?_;first
   |(exfalso;omega)
   |(rw[hr,bY (by omega)];done)
   |(
    have hz:vy (at8 s i)=false:=by
     rcases hcw with⟨_,h,_⟩|⟨_,h⟩<;>(simp only[vy,fN,aM,Bool.or_eq_false_iff,Bool.and_eq_false_iff,decide_eq_false_iff_not];omega)
    rw[hr,aK hnx,hz];rfl)
 ·refine wE (hp:=hnx) ?_;refine ay ?_;refine aq (t:=false) (fun h=>by cases h) (fun _=>?_);refine aT ?_;refine bL ?_;first
   |(exfalso;omega)
   |(rw[hr,bY (by omega)];done)
   |(
    have hz:vy (at8 s i)=false:=by
     rcases hcw with⟨_,h,_⟩|⟨_,h⟩<;>(simp only[vy,fN,aM,Bool.or_eq_false_iff,Bool.and_eq_false_iff,decide_eq_false_iff_not];omega)
    rw[hr,aK hnx,hz];rfl)
def y8 (Γ:Ctx):Prop:=∀(s:ah),Γ.pre 349 [.str s]∧Γ.val 349 [.str s]=.bool (bI s)
def zK:aB:=⟨1,13,jN,cn,(sq (r1 [gm dx] 1 0) (sq (sq (r1 [gm s0,aE l0 cse,gm l1,eW 2 s0,cA 2 (.lenS l3),cA 2 (dj l4 (i6 16)),fM l2 l5] 2 6) (nG s2 dx)) (sq (sq (r1 [gm s0,gn (.rng l0)] 3 1) (.block 0 (.loop (sq (rg [gn (.tK s3),ge l0 0] [(5,0),(4,1)]) (sq (iN s4 0) (.block 1 (sq (rg [ge s5 1,ge s5 2,gm l0,gm l1] [(9,2),(6,3)]) (.block 2 (sq (r1 [gm s6,gL l0 (i3 97),gm l1,gmt 2 s6,cE 2 (lN l3 (i3 122)),gp l2 l4,gm l5] 7 6) (.cond s7 .skip (sq (r1 [gm s6,gL l0 (i3 48),gm l1,gmt 2 s6,cE 2 (lN l3 (i3 57)),gp l2 l4,gm l5] 8 6) (.cond s8 (sq (r1 [gm s9,aE l0 bD] 10 1) (nG lx dx)) (sq (r1 [gm s6,aE l0 (i3 45),gm l1] 11 2) (.cond oz (sq (r1 [gm s9,aE l0 bD,gm l1,eW 2 s9,eW 2 s0,cA 2 (.lenS l4),cA 2 (lO l5 b9),cA 2 (cP l3 l6),fM l2 l7,gm l8,eW 9 s0,eW 9 s9,cA 9 (lO jK b9),cA 9 (.ixS l10 lu),cA 9 (cP nu (i8 45)),fM l9 n7] 12 15) (nG m8 dx)) (zH dx))))))))))))))) (zH tO))))⟩
def w208 {Γ:Ctx}(hm:(Γ.at 0).bm)  (s:ah)   :dS Γ zK (.bool (ek s)) [.str s]:=by
 show bx _ _ _ [⟨_,_⟩,_,_,_,_,_,_,_,_,_,_,_,_] _;refine ak ?_;refine b6 ?_;refine ny ?_;refine az ?_;refine cF (fun hc0=>?_) fun hc0=>?_
 ·refine aR ?_;refine bL ?_;symm;simp only[ek];rcases hc0 with h|h
  ·subst h;simp
  ·rw[decide_eq_false (by omega:¬s.length≤16)];simp
 refine aT ?_;have h0:=List.length_pos_iff.2 hc0.1;have hP:=G3 s (by omega) (by omega);refine bq hm (ι:=Nat) (fun i=>[⟨true,.str s⟩,.un,.un,⟨true,.it 9⟩,.un,.un,.un,.un,.un,.un,.un,.un,.un]) (fun i=>[(9,.iter s i)]) 10 (fun i=>i≤s.length∧ek s=cj (jZ s) i s.length) (fun i=>s.length-i) 0 ⟨by omega,hP⟩ (ef [(9,9)]) ?_;rintro i ⟨hi,hr⟩;refine ax ?_;by_cases hnx:i<s.length
 ·obtain⟨c,w,hdec,hw,hcw⟩:=oM s i hnx;refine wF c w (hp:=hnx) (hc:=hdec) ?_;refine ay ?_;refine aq (t:=true) (fun _=>?_) (fun h=>by cases h);refine Ip ?_;refine fQ (fun hc2=>?_) fun hc2=>?_
  ·refine aA ?_;obtain⟨rfl,hat,-⟩:w=1∧(c:Int)=at8 s i∧c<128:=by
    rcases hcw with h|h
    ·exact h
    ·omega
   have hz:jZ s i=true:=by
    simp only[jZ,fN,aM,Bool.or_eq_true,Bool.and_eq_true,Bool.not_eq_true',decide_eq_true_eq,decide_eq_false_iff_not];omega
   exact⟨i+1,⟨by omega,by rw[hr,aK hnx,hz];rfl⟩,by omega,(ef [(9,9)])⟩
  refine dh ?_;refine fQ (fun hc3=>?_) fun hc3=>?_
  ·refine aA ?_;refine fQ (fun hc4=>?_) fun hc4=>?_
   ·refine ba ?_;refine bL ?_;first
     |(exfalso;omega)
     |(rw[hr,bY (by omega)];done)
     |(have hz:jZ s i=false:=by
        rcases hcw with⟨_,h,_⟩|⟨_,h⟩<;>(simp only[jZ,fN,aM,Bool.or_eq_false_iff,Bool.and_eq_false_iff,Bool.not_eq_false',decide_eq_true_eq,decide_eq_false_iff_not];omega)
       rw[hr,aK hnx,hz];rfl)
   refine aA ?_;obtain⟨rfl,hat,-⟩:w=1∧(c:Int)=at8 s i∧c<128:=by
    rcases hcw with h|h
    ·exact h
    ·omega
   have hz:jZ s i=true:=by
    simp only[jZ,fN,aM,Bool.or_eq_true,Bool.and_eq_true,Bool.not_eq_true',decide_eq_true_eq,decide_eq_false_iff_not];omega
   exact⟨i+1,⟨by omega,by rw[hr,aK hnx,hz];rfl⟩,by omega,(ef [(9,9)])⟩
  refine aR ?_;refine fQ (fun hc5=>?_) fun hc5=>?_
  ·refine aT ?_;refine ny ?_;refine ba ?_;refine Bf (i-1) ?_;refine az ?_;refine fQ (fun hc6=>?_) fun hc6=>?_
   ·refine ba ?_;refine bL ?_;first
     |(exfalso;omega)
     |(rw[hr,bY (by omega)];done)
     |(have hz:jZ s i=false:=by
        rcases hcw with⟨_,h,_⟩|⟨_,h⟩<;>(simp only[jZ,fN,aM,Bool.or_eq_false_iff,Bool.and_eq_false_iff,Bool.not_eq_false',decide_eq_true_eq,decide_eq_false_iff_not];omega)
       rw[hr,aK hnx,hz];rfl)
   refine aA ?_;obtain⟨rfl,hat,-⟩:w=1∧(c:Int)=at8 s i∧c<128:=by
    rcases hcw with h|h
    ·exact h
    ·omega
   have hz:jZ s i=true:=by
    simp only[jZ,fN,aM,Bool.or_eq_true,Bool.and_eq_true,Bool.not_eq_true',decide_eq_true_eq,decide_eq_false_iff_not];omega
   exact⟨i+1,⟨by omega,by rw[hr,aK hnx,hz];rfl⟩,by omega,(ef [(9,9)])⟩
  refine ba ?_;refine bL ?_;first
   |(exfalso;omega)
   |(rw[hr,bY (by omega)];done)
   |(have hz:jZ s i=false:=by
      rcases hcw with⟨_,h,_⟩|⟨_,h⟩<;>(simp only[jZ,fN,aM,Bool.or_eq_false_iff,Bool.and_eq_false_iff,Bool.not_eq_false',decide_eq_true_eq,decide_eq_false_iff_not];omega)
     rw[hr,aK hnx,hz];rfl)
 ·refine wE (hp:=hnx) ?_;refine ay ?_;refine aq (t:=false) (fun h=>by cases h) (fun _=>?_);refine aT ?_;refine bL ?_;first
   |(exfalso;omega)
   |(rw[hr,bY (by omega)];done)
   |(have hz:jZ s i=false:=by
      rcases hcw with⟨_,h,_⟩|⟨_,h⟩<;>(simp only[jZ,fN,aM,Bool.or_eq_false_iff,Bool.and_eq_false_iff,Bool.not_eq_false',decide_eq_true_eq,decide_eq_false_iff_not];omega)
     rw[hr,aK hnx,hz];rfl)
def FR (Γ:Ctx):Prop:=∀(s:ah),Γ.pre 208 [.str s]∧Γ.val 208 [.str s]=.bool (ek s)
def wg:aB:=⟨1,10,[⟨1,none⟩,⟨2,none⟩],iz,(sq (rg [gm bD,gm dx] [(1,0),(2,1)]) (sq (sq (r1 [gm s0,aE l0 cse,gm l1,eW 2 s0,cA 2 (.lenS l3),cA 2 (dj l4 tJ),fM l2 l5,gm l6,eW 7 s0,cA 7 (.ixS l8 bD),cA 7 (cP l9 (i8 48)),eW 7 l10,gmt 11 s0,cE 11 (.lenS lu),cE 11 (dj nu b9),Dd 7 jK n7,fM l7 oY] 3 16) (.cond s3 (sq (rg [gm bD,gm dx] [(1,0),(2,1)]) .ret) .skip)) (sq (r1 [gm bD] 9 0) (sq (sq (r1 [gm s0,gn (.rng l0)] 4 1) (.block 0 (.loop (sq (rg [gn (.tK s4),ge l0 0] [(6,0),(5,1)]) (sq (iN s5 0) (.block 1 (sq (r1 [ge s6 2,gm l0] 7 1) (.block 2 (sq (r1 [gm s7,gL l0 (i3 48),gm l1,gmt 2 s7,cE 2 (lN l3 (i3 57)),gp l2 l4,gm l5] 8 6) (.cond s8 (r1 [gm s9,gn (.bin .mul (i6 10) l0),gm s7,eQ l2 (i3 48),gn (.cvi .i64 l3),av l1 l4,gm l5] 9 6) (sq (rg [gm bD,gm dx] [(1,0),(2,1)]) .ret))))))))))) (sq (rg [gm s9,gm s9,Ep l1 (i6 9999),gm l0,gm l2] [(1,3),(2,4)]) .ret)))))⟩
def w658 {Γ:Ctx}(hm:(Γ.at 0).bm)  (s:ah)   :dS Γ wg (.tup [.int .i64 (cT s),.bool (dL s)]) [.str s]:=by
 show bx _ _ _ [⟨_,_⟩,_,_,_,_,_,_,_,_,_] _;refine ak ?_;refine dh ?_;refine ny ?_;refine aA ?_;refine Bf 0 (hb:=fun h=>by simp at h;exact List.length_pos_iff.2 h.1) ?_;refine az ?_;refine ny ?_;refine aA ?_;refine cF (fun hc0=>?_) fun hc0=>?_
 ·refine aT ?_;refine bX (aO (congrArg (D.int .i64) ?_) (congrArg D.bool ?_));all_goals
   have:dL s=false:=by
    rw[zZ];rcases hc0 with(h|h)|h
    ·subst h;simp
    ·rw[decide_eq_false (by omega:¬s.length≤4)];simp
    ·rw[decide_eq_true (by omega:1<s.length),decide_eq_true h.1];simp
   simp[cT,this]
 refine dh ?_;have h0:=List.length_pos_iff.2 hc0.1.1;have hP:dL s=cj (fun i=>aM (at8 s i)) 0 s.length:=by
  rw[zZ,decide_eq_true (by omega:1≤s.length),decide_eq_true (by omega:s.length≤4)];rcases hc0.2 with h|h
  ·rw[decide_eq_false h,Bool.and_false];rfl
  ·rw[decide_eq_false (by omega:¬1<s.length)];rfl
 refine bq hm (ι:=Nat) (fun i=>[⟨true,.str s⟩,.un,.un,.un,⟨true,.it 21⟩,.un,.un,.un,.un,⟨true,.int .i64 (cQ (s.take i):Nat)⟩]) (fun i=>[(21,.iter s i)]) 22 (fun i=>i≤s.length∧s.length≤4∧dL s=cj (fun i=>aM (at8 s i)) i s.length) (fun i=>s.length-i) 0 ⟨by omega,by omega,hP⟩ (ef [(21,21)]) ?_;rintro i ⟨hi,h9,hr⟩;refine ax ?_;by_cases hnx:i<s.length
 ·obtain⟨c,w,hdec,hw,hcw⟩:=oM s i hnx;refine wF c w (hp:=hnx) (hc:=hdec) ?_;refine ay ?_;refine aq (t:=true) (fun _=>?_) (fun h=>by cases h);refine tH ?_;refine fQ (fun hc2=>?_) fun hc2=>?_
  ·refine ax ?_;obtain⟨rfl,hat,-⟩:w=1∧(c:Int)=at8 s i∧c<128:=by
    rcases hcw with h|h
    ·exact h
    ·omega
   have hn:=pd s i (by omega);have hn2:=qG s i (by omega);have h256:=zg s i;refine ax ?_;refine rR ?_;refine ax ?_;refine Af ((c:Int) -48) (hb:=fun _=>IntWalk.i32_in _ (by omega)) ?_;refine nI ((c:Int) -48) (hb:=fun _=>IntWalk.i64_in _ (by omega)) ?_;refine az ?_;rw[show 10*(cQ (s.take i):Int)+((c:Int) -48)=(cQ (s.take (i+1)):Nat)by omega];refine az ?_;have hz:aM (at8 s i)=true:=by
    simp only[aM,Bool.and_eq_true,decide_eq_true_eq];omega
   exact⟨i+1,⟨by omega,h9,by rw[hr,aK (by omega),hz];rfl⟩,by omega,(ef [(21,21)])⟩
  refine b6 ?_;refine bX (aO (congrArg (D.int .i64) ?_) (congrArg D.bool ?_));all_goals
   have hz:aM (at8 s i)=false:=by
    rcases hcw with⟨_,h,_⟩|⟨_,h⟩<;>(simp only[aM,Bool.and_eq_false_iff,decide_eq_false_iff_not];omega)
   have:dL s=false:=by rw[hr,aK (by omega),hz];rfl
   simp[cT,this]
 ·refine wE (hp:=hnx) ?_;refine ay ?_;refine aq (t:=false) (fun h=>by cases h) (fun _=>?_);refine iT ?_;refine bX (aO (congrArg (D.int .i64) ?_) (congrArg D.bool ?_));all_goals
   have this:dL s=true:=by rw[hr,bY (by omega)]
   have ht:s.take i=s:=List.take_of_length_le (by omega);have h9:=this;simp only[dL,Bool.and_eq_true,decide_eq_true_eq]at h9;have h99:=h9.2;rw[ht];first
   |(simp only[cT,this];rfl)
   |(rw[this,decide_eq_true_eq];omega)
def FY (Γ:Ctx):Prop:=∀(s:ah),Γ.pre 658 [.str s]∧Γ.val 658 [.str s]=.tup [.int .i64 (cT s),.bool (dL s)]
end Go.Abs
end
section
namespace Go.Abs
open Go
def xP:aB:=⟨2,10,[⟨2,none⟩],[[.sl 1 [.a]]],(sq (r1 [gm (.c (.au))] 2 0) (sq (r1 [gm (.c (.au))] 8 0) (sq (r1 [gm bD] 9 0) (sq (sq (rg [gm s0,wW l0,gm bD] [(4,1),(3,2)]) (.block 0 (.loop (sq (r1 [aU s3 s4] 5 0) (sq (iN s5 0) (sq (.block 1 (sq (r1 [gm s3,gm l0] 6 1) (sq (r1 [gm s0,gm s6,GA l0 l1,gm s1,aE l2 l3] 7 4) (.cond s7 (sq (r1 [gm s8,gm s0,gm s9,gm s6,gn (.slS l1 (some l2) (some l3)),gn (.bsl 1 (.str []) 1 [(0,l4)]),gn (.app 1 l0 l5),gm l6] 8 7) (r1 [gm s6,av l0 b9,gm l1] 9 2)) .skip)))) (r1 [av s3 b9,gm l0] 3 1))))))) (sq (r1 [gm s8,gm s0,gm s9,gn (.slS l1 (some l2) none),gn (.bsl 1 (.str []) 1 [(0,l3)]),gn (.app 1 l0 l4),gm l5] 2 6) .ret)))))⟩
def w533 {Γ:Ctx}(hm:(Γ.at 0).bm)  (s:ah)(b:Int)  (hp0:s.length≤1048576):dS Γ xP (.sl 1 ((ai s b).map D.str)) [.str s,.int .u8 b]:=by
 show bx _ _ _ [⟨_,_⟩,⟨_,_⟩,_,_,_,_,_,_,_,_] _;refine ak ?_;refine ix ?_;intro u0;refine ay ?_;refine bq hm (ι:=(Nat×Nat×List ah)) (fun p:Nat×Nat×List ah=>[⟨true,.str s⟩,⟨true,.int .u8 b⟩,.un,⟨true,.int .i64 (p.1:Nat)⟩,⟨true,.int .i64 (s.length:Nat)⟩,.un,.un,.un,⟨true,.own 0 1 0 p.2.2.length⟩,⟨true,.int .i64 (p.2.1:Nat)⟩]) (fun p=>[(0,.buf 1 (p.2.2.map D.str))]) 6 (fun p=>p.1≤s.length∧p.2.1≤p.1∧p.2.2.length≤p.1∧ai s b=p.2.2++bc b (s.drop p.1) ((s.take p.1).drop p.2.1)) (fun p=>s.length-p.1) (0,0,[]) ⟨by simp,by simp,by simp,rfl⟩ (aL.to [] ae ae (by repeat(first|exact cV.nil|refine cV.un ?_|refine cV.eq ae ?_|refine cV.nl ae ae ?_|refine cV.ni (Or.inr ⟨0,1,0,rfl⟩) ?_)) (by repeat(first|exact aC.nil|refine aC.mt ae ae ae ae ?_))) ?_;rintro⟨i,fr,acc⟩ ⟨hi,hf,ha,hr⟩;dsimp only at hi hf ha hr⊢;refine az ?_;refine cF (fun hc0=>?_) fun hc0=>?_
 ·refine lB ?_;refine wp_cond (fun hc1=>?_) (fun hc1=>?_)
  ·try simp only[hO]at hc1
   refine aR ?_;refine yl _ _ ?_;refine ct [(.str _)] ?_;refine vL ?_;exact⟨(i+1,i+1,acc++[(s.take i).drop fr]),⟨by dsimp only;omega,by dsimp only;omega,by simp;omega,by rw[hr,vl (by omega) hc1];simp⟩,by dsimp only;omega,(aL.to [(20,0)] ae ae kV (by refine aC.nl 20 ae ae ae bT ?_;exact aC.nil))⟩
  simp only[decide_eq_false_iff_not]at hc1;refine ba ?_;exact⟨(i+1,fr,acc),⟨by dsimp only;omega,by dsimp only;omega,by dsimp only;omega,by rw[hr,vn (by omega) (by omega) hc1]⟩,by dsimp only;omega,(aL.to [(0,0)] ae ae kV (by refine aC.nl 0 ae ae ae bT ?_;exact aC.nil))⟩
 refine aT ?_;refine mA _ ?_;refine ct [(.str _)] ?_;refine az ?_;refine ee 12 ?_;refine ax ?_;refine bX (?_);have hs:ai s b=acc++[s.drop fr]:=by rw[hr,tq (by omega)]
 rw[hs];exact rfl
def Dk (Γ:Ctx):Prop:=∀(s:ah)(b:Int),(s.length≤1048576)→Γ.pre 533 [.str s,.int .u8 b]∧Γ.val 533 [.str s,.int .u8 b]=.sl 1 ((ai s b).map D.str)
def rm:aB:=⟨1,7,jN,cn,(sq (r1 [gm dx] 1 0) (sq (sq (rg [gm s0,wW l0,gm bD] [(3,1),(2,2)]) (.block 0 (.loop (sq (r1 [aU s2 s3] 4 0) (sq (iN s4 0) (sq (.block 1 (sq (r1 [gm s2,gm l0] 5 1) (sq (r1 [gm s0,gm s5,GA l0 l1,aU l2 (i8 48),gm l3,eW 4 s0,eW 4 s5,cA 4 (.ixS l5 l6),cA 4 (dj l7 (i8 57)),fM l4 l8] 6 9) (nG s6 dx)))) (r1 [av s2 b9,gm l0] 2 1))))))) (sq (r1 [gm s0,cl l0 cse,gm l1] 1 2) .ret)))⟩
def w659 {Γ:Ctx}(hm:(Γ.at 0).bm)  (t:ah)   :dS Γ rm (.bool (dc t)) [.str t]:=by
 show bx _ _ _ [⟨_,_⟩,_,_,_,_,_,_] _;refine ak ?_;refine aT ?_;intro u0;refine ay ?_;refine bq hm (ι:=Nat) (fun i=>[⟨true,.str t⟩,.un,⟨true,.int .i64 (i:Nat)⟩,⟨true,.int .i64 (t.length:Nat)⟩,.un,.un,.un]) (fun i=>[]) 4 (fun i=>i≤t.length∧cj (fun i=>aM (at8 t i)) 0 t.length=cj (fun i=>aM (at8 t i)) i t.length) (fun i=>t.length-i) 0 ⟨by omega,rfl⟩ (ef []) ?_;rintro i ⟨hi,hr⟩;refine az ?_;refine cF (fun hc0=>?_) fun hc0=>?_
 ·refine Ip ?_;refine fQ (fun hc1=>?_) fun hc1=>?_
  ·refine aT ?_;refine bL ?_;simp only[dc];rw[hr,aK (by omega)];rcases hc1 with h|h<;>simp[aM]<;>omega
  refine ba ?_;exact⟨i+1,⟨by omega,by rw[hr,aK (by omega)];rw[show aM (at8 t i)=true by simp only[aM,Bool.and_eq_true,decide_eq_true_eq];omega];rfl⟩,by omega,(ef [])⟩
 refine b6 ?_;refine bL ?_;simp only[dc];rw[hr,bY (by omega)];cases t<;>simp
def Lm (Γ:Ctx):Prop:=∀(t:ah),Γ.pre 659 [.str t]∧Γ.val 659 [.str t]=.bool (dc t)
def wO:aB:=⟨1,2,jN,cn,(sq (r1 [gm dx] 1 0) (sq (r1 [gm s0,gL l0 bD,gm l1,gmt 2 s0,cE 2 (lN l3 (i6 9999)),gp l2 l4,gm l5] 1 6) .ret))⟩
def w440 {Γ:Ctx}(hm:(Γ.at 0).bm)  (n:Int)   :dS Γ wO (.bool (pR n)) [.int .i64 n]:=by
 show bx _ _ _ [⟨_,_⟩,_] _;refine ak ?_;refine ix ?_;exact bL rfl
def KX (Γ:Ctx):Prop:=∀(n:Int),Γ.pre 440 [.int .i64 n]∧Γ.val 440 [.int .i64 n]=.bool (pR n)
def tE:aB:=⟨2,9,[⟨2,none⟩,⟨3,none⟩],iz,(sq (rg [gm cse,gm cse] [(2,0),(3,1)]) (sq (sq (rg [gm s0,wW l0,gm bD] [(5,1),(4,2)]) (.block 0 (.loop (sq (r1 [aU s4 s5] 6 0) (sq (iN s6 0) (sq (.block 1 (sq (r1 [gm s4,gm l0] 7 1) (sq (r1 [gm s0,gm s7,GA l0 l1,gm s1,aE l2 l3] 8 4) (.cond s8 (sq (rt [gm s0,gm s7,av l1 b9,gn (.slS l0 (some l2) none),gm s0,gm s7,gn (.slS l4 none (some l5)),gm l3,gm l6] [(2,7),(3,8)]) .ret) .skip)))) (r1 [av s4 b9,gm l0] 4 1))))))) (sq (rg [gm s0,gm cse,gm l0] [(2,1),(3,2)]) .ret)))⟩
def w675 {Γ:Ctx}(hm:(Γ.at 0).bm)  (s:ah)(b:Int)   :dS Γ tE (.tup [.str (dE s b).1,.str (dE s b).2]) [.str s,.int .u8 b]:=by
 show bx _ _ _ [⟨_,_⟩,⟨_,_⟩,_,_,_,_,_,_,_] _;refine ak ?_;refine ba ?_;intro u0;refine ay ?_;refine bq hm (ι:=Nat) (fun i=>[⟨true,.str s⟩,⟨true,.int .u8 b⟩,.un,.un,⟨true,.int .i64 (i:Nat)⟩,⟨true,.int .i64 (s.length:Nat)⟩,.un,.un,.un]) (fun i=>[]) 5 (fun i=>i≤s.length∧dE s b=gV s b i) (fun i=>s.length-i) 0 ⟨by omega,rfl⟩ (ef []) ?_;rintro i ⟨hi,hr⟩;refine az ?_;refine cF (fun hc0=>?_) fun hc0=>?_
 ·refine lB ?_;refine fQ (fun hc1=>?_) fun hc1=>?_
  ·refine aA ?_;refine mA (i+1) ?_;refine ay ?_;refine tf _ ?_;refine aT ?_;refine bX (aO (congrArg D.str ?_) (congrArg D.str ?_));all_goals rw[hr,zk (by omega) hc1]
  refine ba ?_;exact⟨i+1,⟨by omega,by rw[hr,zl (by omega) hc1]⟩,by omega,(ef [])⟩
 refine b6 ?_;refine bX (aO (congrArg D.str ?_) (congrArg D.str ?_));all_goals rw[hr,xm (by omega)]
def Lr (Γ:Ctx):Prop:=∀(s:ah)(b:Int),Γ.pre 675 [.str s,.int .u8 b]∧Γ.val 675 [.str s,.int .u8 b]=.tup [.str (dE s b).1,.str (dE s b).2]
def wP:aB:=⟨1,15,jN,cn,(sq (r1 [gm dx] 1 0) (sq (r1 [gm s0,gx 533 [l0,(i8 46)] iz,gm l1] 2 2) (sq (r1 [gm s2,gl l0,Ep l1 tJ,gm l2] 14 3) (sq .skip (sq (sq (rg [gm s2,gl l0,gm bD] [(6,0),(4,1),(3,2)]) (.block 0 (.loop (sq (r1 [aU s3 s4] 5 0) (sq (iN s5 0) (sq (.block 1 (sq (r1 [ga 1 s6 s3,gd l0,gm l1] 7 2) (sq (sq (r1 [gm s7,aE l0 cse,gm l1,eW 2 s7,cA 2 (.lenS l3),cA 2 (dj l4 GK),fM l2 l5] 8 6) (.cond s8 (sq (r1 [gm dx] 14 0) (.exit 0)) .skip)) (sq (r1 [gm s7,gn (.rng l0)] 9 1) (.block 2 (.loop (sq (rg [gn (.tK s9),ge l0 0] [(11,0),(10,1)]) (sq (iN lx 2) (.block 3 (sq (r1 [ge oz 2,gm l0] 12 1) (sq (r1 [gm m8,aU l0 (i3 97),gm l1,eW 2 m8,cA 2 (dj l3 (i3 122)),fM l2 l4,gm l5,gmt 6 m8,cE 6 (oD l7 (i3 48)),gmt 6 l8,eW 9 m8,cA 9 (dj l10 (i3 57)),Kw 6 l9 jK,gp l6 lu,gm nu,gmt 14 m8,cE 14 (eJ oY (i3 45)),gp n7 q9] 13 17) (.cond tn (sq (r1 [gm dx] 14 0) (.exit 0)) .skip)))))))))))) (r1 [av s3 b9,gm l0] 3 1))))))) (sq (r1 [gm rS,gm l0] 1 1) .ret))))))⟩
def w442 {Γ:Ctx}(hm:(Γ.at 0).bm)(h533:Dk Γ)(s:ah)  (hp0:s.length≤1048576):dS Γ wP (.bool (iR s false)) [.str s]:=by
 show bx _ _ _ [⟨_,_⟩,_,_,_,_,_,_,_,_,_,_,_,_,_,_] _;refine ak ?_;refine aA ?_;refine aj (hc:=h533 _ _ ?_) ?_;rotate_left;first|assumption|omega;have hlen:=cM s 46
 refine aR ?_;intro u0;refine b6 ?_;intro u1;refine ay ?_;refine bq hm (ι:=Nat) (fun i=>[.un,.un,⟨true,.sl 1 ((ai s 46).map D.str)⟩,⟨true,.int .i64 (i:Nat)⟩,⟨true,.int .i64 ((ai s 46).length:Nat)⟩,.un,⟨true,.sl 1 ((ai s 46).map D.str)⟩,.un,.un,.un,.un,.un,.un,.un,⟨true,.bool (decide (((ai s 46).length:Int)≤4))⟩]) (fun i=>[]) 11 (fun i=>i≤(ai s 46).length∧iR s false=(decide ((ai s 46).length≤4)&&cj (fun i=>ed false (ai s 46)[i]!) i (ai s 46).length)) (fun i=>(ai s 46).length-i) 0 ⟨by omega,rfl⟩ (ef []) ?_;rintro i ⟨hi,hr⟩;refine az ?_;refine cF (fun hc0=>?_) fun hc0=>?_
 ·refine dh ?_;generalize ht:(ai s 46)[i]! =t;refine aA ?_;refine ny ?_;refine az ?_;refine cF (fun hc1=>?_) fun hc1=>?_
  ·refine ix ?_;refine bL ?_;first
    |(rw[hr,bY (by omega),Bool.and_true];exact decide_eq_decide.2 (by omega))
    |(have hb:lI t=false:=by
       first
       |(simp only[lI];rcases hc1 with h|h
         ·subst h;simp
         ·rw[decide_eq_false (by omega:¬t.length≤8)];simp)
       |(have hz:ji (at8 t j)=false:=by
          rcases hcw with⟨_,h,_⟩|⟨_,h⟩<;>(simp only[ji,fN,aM,Bool.or_eq_false_iff,Bool.and_eq_false_iff,decide_eq_false_iff_not];omega)
         rw[hj,aK hnx,hz];rfl)
      rw[hr,aK (by omega),show ed false (ai s 46)[i]! =false from(by simp only[ed,ht,hb,Bool.false_and])];simp)
  refine aR ?_;have hT:lI t=cj (fun i=>ji (at8 t i)) 0 t.length:=by
   have:=List.length_pos_iff.2 hc1.1;simp only[lI];rw[decide_eq_true (by omega),decide_eq_true (by omega)];rfl
  refine pw hm (ι:=Nat) (fun j=>[.un,.un,⟨true,.sl 1 ((ai s 46).map D.str)⟩,⟨true,.int .i64 (i:Nat)⟩,⟨true,.int .i64 ((ai s 46).length:Nat)⟩,.un,⟨true,.sl 1 ((ai s 46).map D.str)⟩,.un,.un,⟨true,.it 23⟩,.un,.un,.un,.un,⟨true,.bool (decide (((ai s 46).length:Int)≤4))⟩]) (fun j=>[(23,.iter t j)]) 24 (fun j=>j≤t.length∧lI t=cj (fun i=>ji (at8 t i)) j t.length) (fun j=>t.length-j) 0 ⟨by omega,hT⟩ (ef [(23,23)]) ?_;rintro j ⟨hj0,hj⟩;refine ax ?_;by_cases hnx:j<t.length
  ·obtain⟨c,w,hdec,hw,hcw⟩:=oM t j hnx;refine wF c w (hp:=hnx) (hc:=hdec) ?_;refine ay ?_;refine aq (t:=true) (fun _=>?_) (fun h=>by cases h);refine M4 ?_;refine fQ (fun hc3=>?_) fun hc3=>?_
   ·refine lB ?_;refine bL ?_;first
     |(rw[hr,bY (by omega),Bool.and_true];exact decide_eq_decide.2 (by omega))
     |(have hb:lI t=false:=by
        first
        |(simp only[lI];rcases hc1 with h|h
          ·subst h;simp
          ·rw[decide_eq_false (by omega:¬t.length≤8)];simp)
        |(have hz:ji (at8 t j)=false:=by
           rcases hcw with⟨_,h,_⟩|⟨_,h⟩<;>(simp only[ji,fN,aM,Bool.or_eq_false_iff,Bool.and_eq_false_iff,decide_eq_false_iff_not];omega)
          rw[hj,aK hnx,hz];rfl)
       rw[hr,aK (by omega),show ed false (ai s 46)[i]! =false from(by simp only[ed,ht,hb,Bool.false_and])];simp)
   refine az ?_;obtain⟨rfl,hat,-⟩:w=1∧(c:Int)=at8 t j∧c<128:=by
    rcases hcw with h|h
    ·exact h
    ·omega
   have hz:ji (at8 t j)=true:=by
    simp only[ji,fN,aM,Bool.or_eq_true,Bool.and_eq_true,decide_eq_true_eq];omega
   exact⟨j+1,⟨by omega,by rw[hj,aK hnx,hz];rfl⟩,by omega,(ef [(23,23)])⟩
  ·refine wE (hp:=hnx) ?_;refine ay ?_;refine aq (t:=false) (fun h=>by cases h) (fun _=>?_);refine b6 ?_;exact⟨i+1,⟨by omega,by rw[hr,aK (by omega)];rw[show ed false (ai s 46)[i]! =true from(by simp only[ed,Bool.false_and,Bool.not_false,Bool.and_true];rw[ht,hj,bY (by omega)])];rfl⟩,by omega,(ef [])⟩
 refine ba ?_;refine bL ?_;first
  |(rw[hr,bY (by omega),Bool.and_true];exact decide_eq_decide.2 (by omega))
  |(have hb:lI t=false:=by
     first
     |(simp only[lI];rcases hc1 with h|h
       ·subst h;simp
       ·rw[decide_eq_false (by omega:¬t.length≤8)];simp)
     |(have hz:ji (at8 t j)=false:=by
        rcases hcw with⟨_,h,_⟩|⟨_,h⟩<;>(simp only[ji,fN,aM,Bool.or_eq_false_iff,Bool.and_eq_false_iff,decide_eq_false_iff_not];omega)
       rw[hj,aK hnx,hz];rfl)
    rw[hr,aK (by omega),show ed false (ai s 46)[i]! =false from(by simp only[ed,ht,hb,Bool.false_and])];simp)
def Iz (Γ:Ctx):Prop:=∀(s:ah),(s.length≤1048576)→Γ.pre 442 [.str s]∧Γ.val 442 [.str s]=.bool (iR s false)
end Go.Abs
end
section
namespace Go.Abs
open Go
def KW (Γ:Ctx):Prop:=∀(n:Int),(0≤n∧n≤9999)→Γ.pre 336 [.int .i64 n]∧Γ.val 336 [.int .i64 n]=.str (cv n.toNat)
def FU (Γ:Ctx):Prop:=∀(l:List ah)(sep:ah),(l.length≤1048600)→(sep.length≤4)→(∀t∈l,t.length≤2097200)→Γ.pre 242 [.sl 1 (l.map D.str),.str sep]∧Γ.val 242 [.sl 1 (l.map D.str),.str sep]=.str (aP sep l)
def Dh (Γ:Ctx):Prop:=∀(s:ah)(b:UInt8),(s.length≤1048576)→Γ.pre 124 [.str s,.str [b]]∧Γ.val 124 [.str s,.str [b]]=.sl 1 ((ai s b.toNat).map D.str)
def Li (Γ:Ctx):Prop:=∀(s:ah)(b:UInt8),(s.length≤1048576)→Γ.pre 487 [.str s,.str [b]]∧Γ.val 487 [.str s,.str [b]]=.tup [.str (dQ s b).1,.str (dQ s b).2.1,.bool (dQ s b).2.2]
def KV (Γ:Ctx):Prop:=∀(s:ah)(p:ah),(s.length≤1048576)→(p.length≤1048576)→Γ.pre 254 [.str s,.str p]∧Γ.val 254 [.str s,.str p]=.tup [.str (cS s p).1,.bool (cS s p).2]
end Go.Abs
end
section
namespace Go.Abs
open Go
def yM:aB:=⟨1,10,jN,cn,(sq (r1 [gm dx] 1 0) (sq (sq (r1 [gm s0,gx 442 [l0] cn,oy l1] 2 2) (nG s2 dx)) (sq (sq (rg [gm s0,gx 533 [l0,(i8 46)] iz,gl l1,gm bD] [(6,1),(4,2),(3,3)]) (.block 0 (.loop (sq (r1 [aU s3 s4] 5 0) (sq (iN s5 0) (sq (.block 1 (sq (r1 [ga 1 s6 s3,gd l0,gm l1] 7 2) (sq (r1 [gm s7,gx 658 [l0] cn,gm l1,ge l2 0,ge l2 1,gm l3,gm l4] 8 6) (sq (r1 [gm s7,gx 659 [l0] cn,gm l1,gmt 2 s8,cE 2 (.un .not l3),gp l2 l4] 9 5) (nG s9 dx))))) (r1 [av s3 b9,gm l0] 3 1))))))) (zH tO))))⟩
def w441 {Γ:Ctx}(hm:(Γ.at 0).bm)(h442:Iz Γ)(h533:Dk Γ)(h658:FY Γ)(h659:Lm Γ)(s:ah)  (hp0:s.length≤1048576):dS Γ yM (.bool (iR s true)) [.str s]:=by
 show bx _ _ _ [⟨_,_⟩,_,_,_,_,_,_,_,_,_] _;refine ak ?_;refine aR ?_;refine aj (hc:=h442 _ ?_) ?_;rotate_left;first|assumption|omega
 refine ay ?_;refine aq (fun hc0=>?_) (fun hc0=>?_)
 ·simp only[Bool.not_eq_true']at hc0;refine aR ?_;refine bL ?_;symm;simp only[iR]at hc0⊢;rw[Bool.and_eq_false_iff]at hc0⊢;rcases hc0 with h|h
  ·exact Or.inl h
  ·right;rw[Bool.eq_false_iff]at h⊢;intro h2;apply h;rw[dr]at h2⊢;intro j a b;have:=h2 j a b;simp only[ed,Bool.and_eq_true]at this⊢;exact⟨this.1,rfl⟩
 simp only[Bool.not_eq_false']at hc0;refine aA ?_;refine aj (hc:=h533 _ _ ?_) ?_;rotate_left;first|assumption|omega;have hlen:=cM s 46
 refine ax ?_;intro u0;refine ay ?_;have hT:=hc0;simp only[iR,Bool.and_eq_true,decide_eq_true_eq]at hT;obtain⟨hT4,hTa⟩:=hT;rw[dr]at hTa;have hP:iR s true=cj (fun i=>ed true (ai s 46)[i]!) 0 (ai s 46).length:=by
  simp only[iR];rw[decide_eq_true hT4];rfl
 refine bq hm (ι:=Nat) (fun i=>[.un,.un,.un,⟨true,.int .i64 (i:Nat)⟩,⟨true,.int .i64 ((ai s 46).length:Nat)⟩,.un,⟨true,.sl 1 ((ai s 46).map D.str)⟩,.un,.un,.un]) (fun i=>[]) 8 (fun i=>i≤(ai s 46).length∧iR s true=cj (fun i=>ed true (ai s 46)[i]!) i (ai s 46).length) (fun i=>(ai s 46).length-i) 0 ⟨by omega,hP⟩ (ef []) ?_;rintro i ⟨hi,hr⟩;refine az ?_;refine cF (fun hc1=>?_) fun hc1=>?_
 ·refine dh ?_;refine aj (hc:=h658 _) ?_;refine b6 ?_;refine aj (hc:=h659 _) ?_;refine aR ?_;refine wp_cond (fun hc2=>?_) (fun hc2=>?_)
  ·skip
   refine aT ?_;refine bL ?_;have hz:ed true (ai s 46)[i]! =false:=by
    simp only[ed];revert hc2;generalize lI (ai s 46)[i]! =c;generalize dc (ai s 46)[i]! =a;generalize dL (ai s 46)[i]! =b;cases a<;>cases b<;>cases c<;>simp
   rw[hr,aK (by omega),hz];rfl
  skip
  refine ba ?_;have hz:ed true (ai s 46)[i]! =true:=by
   have:=hTa i (by omega) (by omega);simp only[ed,Bool.false_and,Bool.not_false,Bool.and_true]at this;simp only[ed,this];revert hc2;generalize dc (ai s 46)[i]! =a;generalize dL (ai s 46)[i]! =b;cases a<;>cases b<;>simp
  exact⟨i+1,⟨by omega,by rw[hr,aK (by omega),hz];rfl⟩,by omega,(ef [])⟩
 refine aT ?_;refine bL ?_;rw[hr,bY (by omega)]
def KY (Γ:Ctx):Prop:=∀(s:ah),(s.length≤1048576)→Γ.pre 441 [.str s]∧Γ.val 441 [.str s]=.bool (iR s true)
def yL:aB:=⟨1,3,jN,cn,(sq (rg [gb 5 s0,gm dx] [(2,0),(1,1)]) (sq (r1 [gf 0 s2,gd l0,gx 440 [l1] cn,gm l2,rJ 3 1 s2,px 3 l4,cE 3 (.call 440 [l5] cn),gp l3 l6,gm l7,rJ 8 2 s2,px 8 l9,cE 8 (.call 440 [l10] cn),gp l8 jK,gm lu,rJ 13 3 s2,px 13 n7,cE 13 (cP oY cse),gmt 13 q9,kl 17 3 s2,lF 17 wX,cA 17 (.call 441 [y5] cn),Kw 13 wo A3,gp nu Ch,gm Ee,rJ 23 4 s2,px 23 Ib,cE 23 (cP Jv cse),gmt 23 Kz,kl 27 4 s2,lF 27 Mw,cA 27 (.call 442 [Mx] cn),Kw 23 Mv l30,gp Ia l31,gm l32] 1 33) .ret))⟩
def w209 {Γ:Ctx}(hm:(Γ.at 0).bm)(h440:KX Γ)(h441:KY Γ)(h442:Iz Γ)(v:dq)  (hp0:v.sm):dS Γ yL (.bool (eh v)) [dq.D v]:=by
 show bx _ _ _ [⟨_,_⟩,_,_] _;refine ak ?_;refine aT ?_;refine aj (hc:=h440 _) ?_;refine az ?_;refine aj (hc:=h440 _) ?_;refine aA ?_;refine aj (hc:=h440 _) ?_;refine b6 ?_;refine en (hc:=fun hf=>h441 v.pre hp0.1) ?_;refine dh ?_;refine en (hc:=fun hf=>h442 v.build hp0.2) ?_;refine aR ?_;exact bL rfl
def Di (Γ:Ctx):Prop:=∀(v:dq),(v.sm)→Γ.pre 209 [dq.D v]∧Γ.val 209 [dq.D v]=.bool (eh v)
def we:aB:=⟨1,2,jN,cn,(sq (r1 [gm cse] 1 0) (sq (r1 [gm s0,gx 336 [l0] cn,gm l1] 1 2) .ret))⟩
def w665 {Γ:Ctx}(hm:(Γ.at 0).bm)(h336:KW Γ)(n:Int)  (hp0:0≤n∧n≤9999):dS Γ we (.str (cv n.toNat)) [.int .i64 n]:=by
 show bx _ _ _ [⟨_,_⟩,_] _;refine ak ?_;refine aA ?_;refine aj (hc:=h336 _ ?_) ?_;rotate_left;first|assumption|omega
 refine az ?_;exact cu rfl
def IL (Γ:Ctx):Prop:=∀(n:Int),(0≤n∧n≤9999)→Γ.pre 665 [.int .i64 n]∧Γ.val 665 [.int .i64 n]=.str (cv n.toNat)
def uj:aB:=⟨1,7,jN,cn,(sq (rg [gb 5 s0,gm cse] [(2,0),(1,1)]) (sq (sq (r1 [gk 5 true s2,gx 209 [l0] Jo,oy l1] 3 2) (nG s3 cse)) (sq (r2 [gf 0 s2,gd l0,gx 665 [l1] cn,av l2 (cs [46]),gf 1 s2,gd l4,gx 665 [l5] cn,av l3 l6,av l7 (cs [46]),gf 2 s2,gd l9,gx 665 [l10] cn,av l8 jK,gm lu] 5 13) (sq (sq (r1 [gf 3 s2,gd l0,cl l1 cse] 4 2) (.cond s4 (r1 [gm s5,gf 3 s2,gd l1,av (cs [45]) l2,av l0 l3,gm l4] 5 5) .skip)) (sq (sq (r1 [gf 4 s2,gd l0,cl l1 cse] 6 2) (.cond s6 (r1 [gm s5,gf 4 s2,gd l1,av (cs [43]) l2,av l0 l3,gm l4] 5 5) .skip)) (sq (r1 [gm s5,gm l0] 1 1) .ret))))))⟩
def w451 {Γ:Ctx}(hm:(Γ.at 0).bm)(h209:Di Γ)(h665:IL Γ)(v:dq)  (hp0:v.sm):dS Γ uj (.str (kY v)) [dq.D v]:=by
 show bx _ _ _ [⟨_,_⟩,_,_,_,_,_,_] _;obtain⟨hs1,hs2⟩:=hp0;have hp0:v.sm:=⟨hs1,hs2⟩;refine ak ?_;refine aT ?_;refine aj (hc:=h209 _ ?_) ?_;rotate_left;first|assumption|omega
 refine ay ?_;refine aq (fun hc0=>?_) (fun hc0=>?_)
 ·simp only[Bool.not_eq_true']at hc0;refine aR ?_;refine cu ?_;simp[kY,hc0]
 simp only[Bool.not_eq_false']at hc0;refine ay ?_;have hv:=hc0;simp only[eh,Bool.and_eq_true]at hv;obtain⟨⟨⟨⟨hv1,hv2⟩,hv3⟩,_⟩,_⟩:=hv;have hq1:=hv1;have hq2:=hv2;have hq3:=hv3;simp only[pR,Bool.and_eq_true,decide_eq_true_eq]at hq1 hq2 hq3;have hl1:=dJ 4 v.major.toNat (by omega) (by omega);have hl2:=dJ 4 v.minor.toNat (by omega) (by omega);have hl3:=dJ 4 v.patch.toNat (by omega) (by omega);refine ay ?_;refine aj (hc:=h665 _ ?_) ?_;rotate_left;first|assumption|omega
 refine cX (hb:=fun _=>by simp;omega) ?_;refine ay ?_;refine aj (hc:=h665 _ ?_) ?_;rotate_left;first|assumption|omega
 refine cX (hb:=fun _=>by simp;omega) ?_;refine cX (hb:=fun _=>by simp;omega) ?_;refine ay ?_;refine aj (hc:=h665 _ ?_) ?_;rotate_left;first|assumption|omega
 refine cX (hb:=fun _=>by simp;omega) ?_;refine b6 ?_;refine cF (fun hc1=>?_) fun hc1=>?_
 ·refine aA ?_;refine cX (hb:=fun _=>by simp;omega) ?_;refine cX (hb:=fun _=>by simp;omega) ?_;refine b6 ?_;refine cF (fun hc2=>?_) fun hc2=>?_
  ·refine aA ?_;refine cX (hb:=fun _=>by simp;omega) ?_;refine cX (hb:=fun _=>by simp;omega) ?_;refine ba ?_;refine cu ?_;simp[kY,Aw,hc0,hc1,hc2]
  refine aT ?_;refine cu ?_;simp[kY,Aw,hc0,hc1,hc2]
 refine ba ?_;refine cF (fun hc2=>?_) fun hc2=>?_
 ·refine aA ?_;refine cX (hb:=fun _=>by simp;omega) ?_;refine cX (hb:=fun _=>by simp;omega) ?_;refine ba ?_;refine cu ?_;simp[kY,Aw,hc0,hc1,hc2]
 refine aT ?_;refine cu ?_;simp[kY,Aw,hc0,hc1,hc2]
def IC (Γ:Ctx):Prop:=∀(v:dq),(v.sm)→Γ.pre 451 [dq.D v]∧Γ.val 451 [dq.D v]=.str (kY v)
def kS:aB:=⟨2,4,[⟨2,none⟩],cn,(sq (r1 [gm (iu 0)] 2 0) (sq (r1 [gm s1,gn (.cvi .u64 l0),JA l1 (iu 63),gm l2] 3 3) (sq (r1 [gm s0,gm s3,gn (.bin .shl l0 l1),gm s0,gm s3,eQ (iu 64) l4,gn (.bin .shr l3 l5),Mz l2 l6,gm l7] 2 8) .ret)))⟩
def w463 {Γ:Ctx}(hm:(Γ.at 0).bm)  (h:Int)(k:Nat)  (hp0:k=13):dS Γ kS (.int .u64 (KC h k)) [.int .u64 h,.int .i64 (k:Nat)]:=by
 show bx _ _ _ [⟨_,_⟩,⟨_,_⟩,_,_] _;subst hp0;refine ak ?_;refine aA ?_;refine nI 13 (hb:=fun _=>by rw[IntKind.wrap_u64];rfl) ?_;refine tc 13 (hb:=fun _=>by rw[IntKind.wrap_u64];rfl) ?_;refine aR ?_;refine MQ (Bo h 13) (hb:=fun _=>by rw[show min (Int.toNat (13:Int)) (IntKind.bits .u64)=13 by simp[IntKind.bits]];rfl) ?_;refine ay ?_;refine Af 51 (hb:=fun _=>by rw[IntKind.wrap_u64];rfl) ?_;refine uW (ve h 51) (hb:=fun _=>by rw[show min (Int.toNat (51:Int)) (IntKind.bits .u64)=51 by simp[IntKind.bits]];rfl) ?_;refine MF (KC h 13) (hb:=fun _=>rfl) ?_;refine az ?_;refine bX (congrArg (D.int .u64) ?_);rfl
def K8 (Γ:Ctx):Prop:=∀(h:Int)(k:Nat),(k=13)→Γ.pre 463 [.int .u64 h,.int .i64 (k:Nat)]∧Γ.val 463 [.int .u64 h,.int .i64 (k:Nat)]=.int .u64 (KC h k)
def zz:aB:=⟨1,8,jN,cn,(sq (r1 [gm (iu 0)] 1 0) (sq (r1 [gm (iu 11400714819323198485)] 6 0) (sq (sq (rg [gm s0,gl l0,gm bD] [(5,0),(3,1),(2,2)]) (.block 0 (.loop (sq (r1 [aU s2 s3] 4 0) (sq (iN s4 0) (sq (.block 1 (sq (r1 [ga 1 s5 s2,gd l0,gm l1] 7 2) (r1 [gm s6,gm s7,gn (.cvi .u64 l1),gn (.bin .xor l0 l2),gx 463 [l3,(i6 13)] iz,gn (.bin .mul l4 (iu 18397679294719823053)),gm l5] 6 6))) (r1 [av s2 b9,gm l0] 2 1))))))) (sq (r1 [gm s6,gm s6,gn (.bin .shr l1 (iu 29)),gn (.bin .xor l0 l2),gm l3] 1 4) .ret))))⟩
def w220 {Γ:Ctx}(hm:(Γ.at 0).bm)(h463:K8 Γ)(s:ah)   :dS Γ zz (.int .u64 (ou s)) [.sl 1 ((s).map fun b=>D.int .u8 b.toNat)]:=by
 show bx _ _ _ [⟨_,_⟩,_,_,_,_,_,_,_] _;refine ak ?_;refine dh ?_;intro u0;refine ay ?_;refine bq hm (ι:=Nat) (fun i=>[.un,.un,⟨true,.int .i64 (i:Nat)⟩,⟨true,.int .i64 (s.length:Nat)⟩,.un,⟨true,.sl 1 (s.map fun b=>D.int .u8 b.toNat)⟩,⟨true,.int .u64 (pr (s.take i))⟩,.un]) (fun i=>[]) 5 (fun i=>i≤s.length) (fun i=>s.length-i) 0 (by omega) (ef []) ?_;intro i hi;refine az ?_;refine cF (fun hc0=>?_) fun hc0=>?_
 ·refine aA ?_;refine ca (v:=.int .u8 (at8 s i)) (hv:=fun _=>ld8 s i) ?_;refine aR ?_;refine nI (at8 s i) (hb:=fun _=>by have:=zg s i;rw[IntKind.wrap_u64];omega) ?_;refine E5 (vH (pr (s.take i)) (at8 s i)) (hb:=fun _=>rfl) ?_;refine aj (hc:=h463 _ 13 rfl) ?_;refine J5 (pr (s.take (i+1))) (hb:=fun _=>by rw[CZ s i (by omega)];rfl) ?_;refine b6 ?_;exact⟨i+1,(by omega),by omega,(ef [])⟩
 refine az ?_;have ht:s.take i=s:=List.take_of_length_le (by omega);rw[ht];refine ay ?_;refine uW (ve (pr s) 29) (hb:=fun _=>rfl) ?_;refine E5 (ou s) (hb:=fun _=>rfl) ?_;refine az ?_;refine bX (congrArg (D.int .u64) ?_);rfl
def Iv (Γ:Ctx):Prop:=∀(s:ah),Γ.pre 220 [.sl 1 ((s).map fun b=>D.int .u8 b.toNat)]∧Γ.val 220 [.sl 1 ((s).map fun b=>D.int .u8 b.toNat)]=.int .u64 (ou s)
end Go.Abs
end
section
namespace Go.Abs
open Go
end Go.Abs
end
section
namespace Go.Abs
open Go
end Go.Abs
end
section
namespace Go.Abs
open Go
def Ak:aB:=⟨1,4,jN,cn,(sq (r1 [gm cse] 1 0) (sq (r1 [gm s0,gn (.bin .rem l0 (iu 10)),gn (.cvi .u8 l1),av (i8 48) l2,gn (.bsl 1 (.int .u8 0) 1 [(0,l3)]),gn (.b2s l4),gm l5] 3 6) (sq (.block 0 (.loop (sq (sq (r1 [gm s0,dz l0 (iu 9)] 2 1) (iN s2 0)) (.block 1 (sq (r1 [gm s0,gn (.bin .quo l0 (iu 10)),gm l1] 0 2) (r1 [gm s0,gn (.bin .rem l0 (iu 10)),gn (.cvi .u8 l1),av (i8 48) l2,gn (.bsl 1 (.int .u8 0) 1 [(0,l3)]),gn (.b2s l4),gm s3,av l5 l6,gm l7] 3 8)))))) (sq (r1 [gm s3,gm l0] 1 1) .ret))))⟩
def w882 {Γ:Ctx}(hm:(Γ.at 0).bm)  (n:Nat)  (hp0:n≤9999):dS Γ Ak (.str (cv n)) [.int .u64 (n:Nat)]:=by
 show bx _ _ _ [⟨_,_⟩,_,_,_] _;refine ak ?_;refine aA ?_;refine yj ((n%10:Nat):Int) (hn:=by intro _;omega) (hb:=fun _=>rfl) ?_;refine nI ((n%10:Nat):Int) (hb:=fun _=>IntWalk.u8_in _ (by omega)) ?_;refine E2 (((dg (n%10)).toNat:Nat):Int) (hb:=fun _=>by rw[DK (by omega)];exact IntWalk.u8_in _ (by omega)) ?_;refine ct [.int .u8 _] ?_;refine E3 [dg (n%10)] (he:=fun _=>qR.all ae rfl) (hs:=fun _=>rfl) ?_;refine ay ?_;have h0:cv n=(if n<10 then []else cv (n/10))++[dg (n%10)]:=by
  split
  ·rename_i h;rw[mS h,Nat.mod_eq_of_lt h];rfl
  ·rw[mR (by omega)]
 refine bq hm (ι:=(Nat×ah)) (fun p=>[⟨true,.int .u64 (p.1:Nat)⟩,.un,.un,⟨true,.str p.2⟩]) (fun p=>[]) 8 (fun p=>p.1≤9999∧p.2.length≤9999-p.1+1∧cv n=(if p.1<10 then []else cv (p.1/10))++p.2) (fun p=>p.1) (n,[dg (n%10)]) ⟨hp0,by simp,h0⟩ (ef []) ?_;rintro⟨k,s⟩ ⟨hk,hs,hr⟩;dsimp only at hk hs hr⊢;refine aR ?_;refine cF (fun hc0=>?_) fun hc0=>?_
 ·refine aA ?_;refine MN ((k/10:Nat):Int) (hn:=by intro _;omega) (hb:=fun _=>by rw[show((k:Int).tdiv 10)=((k/10:Nat):Int)from rfl,IntKind.wrap_u64];omega) ?_;refine aA ?_;refine yj (((k/10)%10:Nat):Int) (hn:=by intro _;omega) (hb:=fun _=>rfl) ?_;refine nI (((k/10)%10:Nat):Int) (hb:=fun _=>IntWalk.u8_in _ (by omega)) ?_;refine E2 (((dg ((k/10)%10)).toNat:Nat):Int) (hb:=fun _=>by rw[DK (by omega)];exact IntWalk.u8_in _ (by omega)) ?_;refine ct [.int .u8 _] ?_;refine E3 [dg ((k/10)%10)] (he:=fun _=>qR.all ae rfl) (hs:=fun _=>rfl) ?_;refine ax ?_;refine cX (hb:=fun _=>by simp;omega) ?_;refine aA ?_;have h1:cv n=(if k/10<10 then []else cv (k/10/10))++([dg (k/10%10)]++s):=by
   rw[hr,if_neg (by omega)];split
   ·rename_i h;rw[mS h,Nat.mod_eq_of_lt h];rfl
   ·rw[mR (by omega),List.append_assoc]
  exact⟨(k/10,[dg (k/10%10)]++s),⟨by dsimp only;omega,by simp;omega,h1⟩,by dsimp only;omega,(ef [])⟩
 refine ba ?_;refine cu ?_;rw[hr,if_pos (by omega)];rfl
def LC (Γ:Ctx):Prop:=∀(n:Nat),(n≤9999)→Γ.pre 882 [.int .u64 (n:Nat)]∧Γ.val 882 [.int .u64 (n:Nat)]=.str (cv n)
def yt:aB:=⟨1,3,jN,cn,(sq (r1 [gm cse] 1 0) (sq (sq (r1 [gm s0,aU l0 bD] 2 1) (.cond s2 (sq (r1 [gm s0,av l0 b9,gn (.un .neg l1),gn (.cvi .u64 l2),av l3 (iu 1),gx 882 [l4] cn,av (cs [45]) l5,gm l6] 1 7) .ret) .skip)) (sq (r1 [gm s0,gn (.cvi .u64 l0),gx 882 [l1] cn,gm l2] 1 3) .ret)))⟩
def w734 {Γ:Ctx}(hm:(Γ.at 0).bm)(h882:LC Γ)(n:Int)  (hp0:0≤n∧n≤9999):dS Γ yt (.str (cv n.toNat)) [.int .i64 n]:=by
 show bx _ _ _ [⟨_,_⟩,_,_] _;refine ak ?_;refine ba ?_;refine cF (fun hc0=>?_) fun hc0=>?_
 ·omega
 refine ay ?_;obtain⟨k,rfl⟩:∃k:Nat,n=k:=⟨n.toNat,by omega⟩
 refine ax ?_;refine nI (k:Int) (hb:=fun _=>by rw[IntKind.wrap_u64];omega) ?_;refine aj (hc:=h882 _ ?_) ?_;rotate_left;first|assumption|omega
 refine az ?_;exact cu rfl
def Lx (Γ:Ctx):Prop:=∀(n:Int),(0≤n∧n≤9999)→Γ.pre 734 [.int .i64 n]∧Γ.val 734 [.int .i64 n]=.str (cv n.toNat)
def Ai:aB:=⟨2,8,[⟨2,none⟩],[[.sl 1 [.a]]],(sq (r1 [gm (.c (.au))] 2 0) (sq (r1 [gm (.c (.au))] 6 0) (sq (r1 [gm bD] 7 0) (sq (sq (r1 [gm bD] 3 0) (.block 0 (.loop (sq (sq (r1 [gm s3,gm s0,wW l1,aU l0 l2] 4 3) (iN s4 0)) (sq (.block 1 (sq (r1 [gm s0,gm s3,GA l0 l1,gm s1,aE l2 l3] 5 4) (.cond s5 (sq (r1 [gm s6,gm s0,gm s7,gm s3,gn (.slS l1 (some l2) (some l3)),gn (.bsl 1 (.str []) 1 [(0,l4)]),gn (.app 1 l0 l5),gm l6] 6 7) (r1 [gm s3,av l0 b9,gm l1] 7 2)) .skip))) (r1 [gm s3,av l0 b9,gm l1] 3 2)))))) (sq (r1 [gm s6,gm s0,gm s7,gn (.slS l1 (some l2) none),gn (.bsl 1 (.str []) 1 [(0,l3)]),gn (.app 1 l0 l4),gm l5] 2 6) .ret)))))⟩
def w470 {Γ:Ctx}(hm:(Γ.at 0).bm)  (s:ah)(b:Int)  (hp0:s.length≤1048576):dS Γ Ai (.sl 1 ((ai s b).map D.str)) [.str s,.int .u8 b]:=by
 show bx _ _ _ [⟨_,_⟩,⟨_,_⟩,_,_,_,_,_,_] _;refine ak ?_;refine ix ?_;refine bq hm (ι:=(Nat×Nat×List ah)) (fun p:Nat×Nat×List ah=>[⟨true,.str s⟩,⟨true,.int .u8 b⟩,.un,⟨true,.int .i64 (p.1:Nat)⟩,.un,.un,⟨true,.own 0 1 0 p.2.2.length⟩,⟨true,.int .i64 (p.2.1:Nat)⟩]) (fun p=>[(0,.buf 1 (p.2.2.map D.str))]) 4 (fun p=>p.1≤s.length∧p.2.1≤p.1∧p.2.2.length≤p.1∧ai s b=p.2.2++bc b (s.drop p.1) ((s.take p.1).drop p.2.1)) (fun p=>s.length-p.1) (0,0,[]) ⟨by simp,by simp,by simp,rfl⟩ (aL.to [] ae ae (by repeat(first|exact cV.nil|refine cV.un ?_|refine cV.eq ae ?_|refine cV.nl ae ae ?_|refine cV.ni (Or.inr ⟨0,1,0,rfl⟩) ?_)) (by repeat(first|exact aC.nil|refine aC.mt ae ae ae ae ?_))) ?_;rintro⟨i,fr,acc⟩ ⟨hi,hf,ha,hr⟩;dsimp only at hi hf ha hr⊢;refine aR ?_;intro u0;refine ay ?_;refine cF (fun hc0=>?_) fun hc0=>?_
 ·refine dh ?_;refine wp_cond (fun hc1=>?_) (fun hc1=>?_)
  ·try simp only[hO]at hc1
   refine aR ?_;refine yl _ _ ?_;refine ct [(.str _)] ?_;refine yW ?_;exact⟨(i+1,i+1,acc++[(s.take i).drop fr]),⟨by dsimp only;omega,by dsimp only;omega,by simp;omega,by rw[hr,vl (by omega) hc1];simp⟩,by dsimp only;omega,(aL.to [(19,0)] ae ae kV (by refine aC.nl 19 ae ae ae bT ?_;exact aC.nil))⟩
  simp only[decide_eq_false_iff_not]at hc1;refine b6 ?_;exact⟨(i+1,fr,acc),⟨by dsimp only;omega,by dsimp only;omega,by dsimp only;omega,by rw[hr,vn (by omega) (by omega) hc1]⟩,by dsimp only;omega,(aL.to [(0,0)] ae ae kV (by refine aC.nl 0 ae ae ae bT ?_;exact aC.nil))⟩
 refine aT ?_;refine mA _ ?_;refine ct [(.str _)] ?_;refine az ?_;refine ee 13 ?_;refine ax ?_;refine bX (?_);have hs:ai s b=acc++[s.drop fr]:=by rw[hr,tq (by omega)]
 rw[hs];exact rfl
def Lb (Γ:Ctx):Prop:=∀(s:ah)(b:Int),(s.length≤1048576)→Γ.pre 470 [.str s,.int .u8 b]∧Γ.val 470 [.str s,.int .u8 b]=.sl 1 ((ai s b).map D.str)
end Go.Abs
end
section
namespace Go.Abs
open Go
def Aj:aB:=⟨1,2,jN,cn,(sq (r1 [gm dx] 1 0) (sq (r1 [gm s0,gL l0 (i8 48),gm l1,gmt 2 s0,cE 2 (lN l3 (i8 57)),gp l2 l4,gm l5] 1 6) .ret))⟩
def w454 {Γ:Ctx}(hm:(Γ.at 0).bm)  (c:Int)   :dS Γ Aj (.bool (aM c)) [.int .u8 c]:=by
 show bx _ _ _ [⟨_,_⟩,_] _;refine ak ?_;refine ix ?_;exact bL rfl
def K5 (Γ:Ctx):Prop:=∀(c:Int),Γ.pre 454 [.int .u8 c]∧Γ.val 454 [.int .u8 c]=.bool (aM c)
def yu:aB:=⟨1,9,[⟨1,none⟩,⟨2,none⟩],iz,(sq (rg [gm bD,gm dx] [(1,0),(2,1)]) (sq (sq (r1 [gm s0,wW l0,aU l1 b9,gm l2,eW 3 s0,cA 3 (.lenS l4),cA 3 (dj l5 A0),fM l3 l6,gm l7,eW 8 s0,cA 8 (.lenS l9),cA 8 (dj l10 b9),eW 8 jK,gmt 12 s0,cE 12 (.ixS nu bD),cE 12 (cP n7 (i8 48)),Dd 8 lu oY,fM l8 q9] 3 17) (.cond s3 (sq (rg [gm bD,gm dx] [(1,0),(2,1)]) .ret) .skip)) (sq (r1 [gm bD] 7 0) (sq (sq (r1 [gm bD] 4 0) (.block 0 (.loop (sq (sq (r1 [gm s4,gm s0,wW l1,aU l0 l2] 5 3) (iN s5 0)) (sq (.block 1 (sq (sq (r1 [gm s0,gm s4,GA l0 l1,gx 454 [l2] cn,oy l3] 6 4) (.cond s6 (sq (rg [gm bD,gm dx] [(1,0),(2,1)]) .ret) .skip)) (r1 [gm s7,gn (.bin .mul l0 (i6 10)),gm s0,gm s4,GA l2 l3,eQ l4 (i8 48),gn (.cvi .i64 l5),av l1 l6,gm l7] 7 8))) (r1 [gm s4,av l0 b9,gm l1] 4 2)))))) (sq (sq (r1 [gm s7,dz l0 (i6 9999)] 8 1) (.cond s8 (sq (rg [gm bD,gm dx] [(1,0),(2,1)]) .ret) .skip)) (sq (rg [gm s7,gm l0,gm tO] [(1,1),(2,2)]) .ret))))))⟩
def w667 {Γ:Ctx}(hm:(Γ.at 0).bm)(h454:K5 Γ)(s:ah)   :dS Γ yu (.tup [.int .i64 (cT s),.bool (dL s)]) [.str s]:=by
 show bx _ _ _ [⟨_,_⟩,_,_,_,_,_,_,_,_] _;refine ak ?_;refine ba ?_;intro u0;refine az ?_;refine ny ?_;refine aA ?_;refine ny ?_;refine az ?_;refine Bf 0 ?_;refine aA ?_;refine cF (fun hc0=>?_) fun hc0=>?_
 ·refine aT ?_;refine bX (aO (congrArg (D.int .i64) ?_) (congrArg D.bool ?_));all_goals
   have:dL s=false:=by
    simp only[dL];rcases hc0 with(h|h)|h
    ·rw[decide_eq_false (by omega:¬1≤s.length)];rfl
    ·rw[decide_eq_false (by omega:¬s.length≤9)];simp
    ·rw[decide_eq_true (by omega:1<s.length),decide_eq_true h.2];simp
   simp[cT,this]
 refine b6 ?_;have hP:dL s=(cj (fun i=>aM (at8 s i)) 0 s.length&&decide (cQ s≤9999)):=by
  simp only[dL];rw[decide_eq_true (by omega:1≤s.length),decide_eq_true (by omega:s.length≤9)];rcases hc0.2 with h|h
  ·rw[decide_eq_false (by omega:¬1<s.length)];rfl
  ·rw[decide_eq_false h,Bool.and_false];rfl
 refine bq hm (ι:=Nat) (fun i=>[⟨true,.str s⟩,.un,.un,.un,⟨true,.int .i64 (i:Nat)⟩,.un,.un,⟨true,.int .i64 (cQ (s.take i):Nat)⟩,.un]) (fun i=>[]) 22 (fun i=>i≤s.length∧s.length≤9∧dL s=(cj (fun i=>aM (at8 s i)) i s.length&&decide (cQ s≤9999))) (fun i=>s.length-i) 0 ⟨by omega,by omega,hP⟩ (ef []) ?_;rintro i ⟨hi,h9,hr⟩;refine aR ?_;intro u1;refine ay ?_;refine cF (fun hc1=>?_) fun hc1=>?_
 ·refine ba ?_;refine aj (hc:=h454 _) ?_;refine ay ?_;refine aq (fun hc2=>?_) (fun hc2=>?_)
  ·try simp only[hO]at hc2
   refine b6 ?_;refine bX (aO (congrArg (D.int .i64) ?_) (congrArg D.bool ?_));all_goals
    have:dL s=false:=by rw[hr,aK (by omega),hc2];rfl
    simp[cT,this]
  simp only[Bool.not_eq_false']at hc2;refine ay ?_;have h48:=hc2;simp only[aM,Bool.and_eq_true,decide_eq_true_eq]at h48;have hn:=pd s i (by omega);have hn2:=qG s i (by omega);have h256:=zg s i;refine ax ?_;refine rR ?_;refine az ?_;refine Af (at8 s i-48) (hb:=fun _=>IntWalk.u8_in _ (by omega)) ?_;refine nI (at8 s i-48) (hb:=fun _=>IntWalk.i64_in _ (by omega)) ?_;refine az ?_;rw[show(cQ (s.take i):Int)*10+(at8 s i-48)=(cQ (s.take (i+1)):Nat)by omega];refine ba ?_;exact⟨i+1,⟨by omega,h9,by rw[hr,aK (by omega),hc2];rfl⟩,by omega,(ef [])⟩
 refine aA ?_;have ht:s.take i=s:=List.take_of_length_le (by omega);rw[ht];refine az ?_;refine cF (fun hc3=>?_) fun hc3=>?_
 ·refine aT ?_;refine bX (aO (congrArg (D.int .i64) ?_) (congrArg D.bool ?_));all_goals
   have:dL s=false:=by rw[hr,decide_eq_false (by omega),Bool.and_false]
   simp[cT,this]
 refine ba ?_;refine bX (aO (congrArg (D.int .i64) ?_) (congrArg D.bool ?_));all_goals
  have:dL s=true:=by rw[hr,bY (by omega),decide_eq_true (by omega)];rfl
  simp[cT,this]
def Lp (Γ:Ctx):Prop:=∀(s:ah),Γ.pre 667 [.str s]∧Γ.val 667 [.str s]=.tup [.int .i64 (cT s),.bool (dL s)]
def wJ:aB:=⟨1,5,jN,cn,(sq (r1 [gm dx] 1 0) (sq (sq (r1 [gm bD] 2 0) (.block 0 (.loop (sq (sq (r1 [gm s2,gm s0,wW l1,aU l0 l2] 3 3) (iN s3 0)) (sq (.block 1 (sq (r1 [gm s0,gm s2,GA l0 l1,aU l2 (i8 48),gm l3,eW 4 s0,eW 4 s2,cA 4 (.ixS l5 l6),cA 4 (dj l7 (i8 57)),fM l4 l8] 4 9) (nG s4 dx))) (r1 [gm s2,av l0 b9,gm l1] 2 2)))))) (sq (r1 [gm s0,wW l0,dz l1 bD,gm l2] 1 3) .ret)))⟩
def w668 {Γ:Ctx}(hm:(Γ.at 0).bm)  (t:ah)   :dS Γ wJ (.bool (dc t)) [.str t]:=by
 show bx _ _ _ [⟨_,_⟩,_,_,_,_] _;refine ak ?_;refine aT ?_;refine bq hm (ι:=Nat) (fun i=>[⟨true,.str t⟩,.un,⟨true,.int .i64 (i:Nat)⟩,.un,.un]) (fun i=>[]) 2 (fun i=>i≤t.length∧cj (fun i=>aM (at8 t i)) 0 t.length=cj (fun i=>aM (at8 t i)) i t.length) (fun i=>t.length-i) 0 ⟨by omega,rfl⟩ (ef []) ?_;rintro i ⟨hi,hr⟩;refine aR ?_;intro u0;refine ay ?_;refine cF (fun hc0=>?_) fun hc0=>?_
 ·refine vL ?_;refine fQ (fun hc1=>?_) fun hc1=>?_
  ·refine aT ?_;refine bL ?_;simp only[dc];rw[hr,aK (by omega)];rcases hc1 with h|h<;>simp[aM]<;>omega
  refine b6 ?_;exact⟨i+1,⟨by omega,by rw[hr,aK (by omega)];rw[show aM (at8 t i)=true by simp only[aM,Bool.and_eq_true,decide_eq_true_eq];omega];rfl⟩,by omega,(ef [])⟩
 refine aR ?_;intro u1;refine aA ?_;refine bL ?_;simp only[dc];rw[hr,bY (by omega)];simp
def Lq (Γ:Ctx):Prop:=∀(t:ah),Γ.pre 668 [.str t]∧Γ.val 668 [.str t]=.bool (dc t)
def Fg:aB:=⟨1,7,jN,cn,(sq (r1 [gm dx] 1 0) (sq (sq (r1 [gm s0,wW l0,aU l1 b9,gm l2,eW 3 s0,cA 3 (.lenS l4),cA 3 (dj l5 GK),fM l3 l6] 2 7) (nG s2 dx)) (sq (sq (r1 [gm bD] 3 0) (.block 0 (.loop (sq (sq (r1 [gm s3,gm s0,wW l1,aU l0 l2] 4 3) (iN s4 0)) (sq (.block 1 (sq (r1 [gm s0,gm s3,GA l0 l1,gm l2] 5 3) (sq (r1 [gm s5,aU l0 (i8 97),gm l1,eW 2 s5,cA 2 (dj l3 (i8 122)),fM l2 l4,gm l5,gmt 6 s5,cE 6 (oD l7 (i8 48)),gmt 6 l8,eW 9 s5,cA 9 (dj l10 (i8 57)),Kw 6 l9 jK,gp l6 lu,gm nu,gmt 14 s5,cE 14 (eJ oY (i8 45)),gp n7 q9] 6 17) (nG s6 dx)))) (r1 [gm s3,av l0 b9,gm l1] 3 2)))))) (zH tO))))⟩
def w666 {Γ:Ctx}(hm:(Γ.at 0).bm)  (t:ah)   :dS Γ Fg (.bool (lI t)) [.str t]:=by
 show bx _ _ _ [⟨_,_⟩,_,_,_,_,_,_] _;refine ak ?_;refine aT ?_;intro u0;refine az ?_;refine ny ?_;refine az ?_;refine cF (fun hc0=>?_) fun hc0=>?_
 ·refine aR ?_;refine bL ?_;symm;simp only[lI,Bool.and_eq_false_iff,decide_eq_false_iff_not];exact Or.inl (by omega)
 refine aR ?_;refine bq hm (ι:=Nat) (fun i=>[⟨true,.str t⟩,.un,.un,⟨true,.int .i64 (i:Nat)⟩,.un,.un,.un]) (fun i=>[]) 10 (fun i=>i≤t.length∧lI t=cj (fun i=>ji (at8 t i)) i t.length) (fun i=>t.length-i) 0 ⟨by omega,by simp only[lI];rw[decide_eq_true (by omega),decide_eq_true (by omega)];rfl⟩ (ef []) ?_;rintro i ⟨hi,hr⟩;refine aR ?_;intro u1;refine ay ?_;refine cF (fun hc1=>?_) fun hc1=>?_
 ·refine FJ ?_;refine fQ (fun hc2=>?_) fun hc2=>?_
  ·refine aT ?_;refine bL ?_;rw[hr,aK (by omega)];have:ji (at8 t i)=false:=(by simp only[ji,fN,aM,Bool.or_eq_false_iff,Bool.and_eq_false_iff,decide_eq_false_iff_not];omega);rw[this];rfl
  refine b6 ?_;exact⟨i+1,⟨by omega,by rw[hr,aK (by omega)];have:ji (at8 t i)=true:=(by simp only[ji,fN,aM,Bool.or_eq_true,Bool.and_eq_true,decide_eq_true_eq];omega);rw[this];rfl⟩,by omega,(ef [])⟩
 refine aT ?_;refine bL ?_;rw[hr,bY (by omega)]
def Lo (Γ:Ctx):Prop:=∀(t:ah),Γ.pre 666 [.str t]∧Γ.val 666 [.str t]=.bool (lI t)
def CP:aB:=⟨2,11,[⟨2,none⟩],cn,(sq (r1 [gm dx] 2 0) (sq (sq (r1 [gm s0,aE l0 cse] 3 1) (.cond s3 (sq (r1 [gm tO] 2 0) .ret) .skip)) (sq (r1 [gm s0,gx 470 [l0,(i8 46)] iz,gm l1] 4 2) (sq (sq (r1 [gm s4,gl l0,dz l1 tJ] 5 2) (.cond s5 (sq (r1 [gm dx] 2 0) .ret) .skip)) (sq (sq (r1 [gm bD] 6 0) (.block 0 (.loop (sq (sq (r1 [gm s6,gm s4,gl l1,aU l0 l2] 7 3) (iN s7 0)) (sq (.block 1 (sq (sq (r1 [gm s4,gm s6,ga 1 l0 l1,gd l2,gx 666 [l3] cn,oy l4] 8 5) (.cond s8 (sq (r1 [gm dx] 2 0) .ret) .skip)) (sq (r1 [gm s4,gm s6,ga 1 l0 l1,gd l2,gx 667 [l3] cn,gm l4,ge l5 0,ge l5 1,gm l6,gm l7] 9 9) (sq (r1 [gm s1,gm l0,gmt 1 s4,gmt 1 s6,cE 1 (.ia 1 l2 l3),px 1 l4,cE 1 (.call 668 [l5] cn),gp l1 l6,gm l7,gmt 8 s9,cE 8 (.un .not l9),gp l8 l10] 10 11) (.cond lx (sq (r1 [gm dx] 2 0) .ret) .skip))))) (r1 [gm s6,av l0 b9,gm l1] 6 2)))))) (sq (r1 [gm tO] 2 0) .ret))))))⟩
def w456 {Γ:Ctx}(hm:(Γ.at 0).bm)(h470:Lb Γ)(h666:Lo Γ)(h667:Lp Γ)(h668:Lq Γ)(s:ah)(p:Bool)  (hp0:s.length≤1048576):dS Γ CP (.bool (mG s p)) [.str s,.bool p]:=by
 show bx _ _ _ [⟨_,_⟩,⟨_,_⟩,_,_,_,_,_,_,_,_,_] _;refine ak ?_;refine ba ?_;refine cF (fun hc0=>?_) fun hc0=>?_
 ·refine aR ?_;refine bL ?_;simp[mG,hc0]
 refine az ?_;refine aj (hc:=h470 _ _ ?_) ?_;rotate_left;first|assumption|omega;have hlen:=cM s 46
 refine aT ?_;intro u0;refine ay ?_;refine aq (fun hc1=>?_) (fun hc1=>?_)
 ·try simp only[hO]at hc1
  refine aR ?_;refine bL ?_;simp only[mG,iR];rw[decide_eq_false hc0,decide_eq_false (by omega)];rfl
 simp only[decide_eq_false_iff_not]at hc1;refine aR ?_;refine bq hm (ι:=Nat) (fun i=>[⟨true,.str s⟩,⟨true,.bool p⟩,.un,.un,⟨true,.sl 1 ((ai s 46).map D.str)⟩,.un,⟨true,.int .i64 (i:Nat)⟩,.un,.un,.un,.un]) (fun i=>[]) 10 (fun i=>i≤(ai s 46).length∧mG s p=cj (fun i=>ed p (ai s 46)[i]!) i (ai s 46).length) (fun i=>(ai s 46).length-i) 0 ⟨by omega,by simp only[mG,iR];rw[decide_eq_false hc0,decide_eq_true (by omega)];rfl⟩ (ef []) ?_;rintro i ⟨hi,hr⟩;refine aR ?_;intro u1;refine ay ?_;refine cF (fun hc2=>?_) fun hc2=>?_
 ·refine b6 ?_;refine aj (hc:=h666 _) ?_;refine ay ?_;refine aq (fun hc3=>?_) (fun hc3=>?_)
  ·simp only[Bool.not_eq_true']at hc3;refine ba ?_;refine bL ?_;rw[hr,aK (by omega)];simp only[ed,hc3];rfl
  simp only[Bool.not_eq_false']at hc3;refine aT ?_;refine aj (hc:=h667 _) ?_;refine lB ?_;refine aj (hc:=h668 _) ?_;refine aT ?_;refine wp_cond (fun hc4=>?_) (fun hc4=>?_)
  ·skip
   refine aT ?_;refine bL ?_;have h5:ed p (ai s 46)[i]! =false:=(by simp only[ed,hc3];revert hc4;generalize dc (ai s 46)[i]! =a;generalize dL (ai s 46)[i]! =b;cases p<;>cases a<;>cases b<;>simp);rw[hr,aK (by omega),h5];rfl
  skip
  refine b6 ?_;exact⟨i+1,⟨by omega,by rw[hr,aK (by omega)];have h5:ed p (ai s 46)[i]! =true:=(by simp only[ed,hc3];revert hc4;generalize dc (ai s 46)[i]! =a;generalize dL (ai s 46)[i]! =b;cases p<;>cases a<;>cases b<;>simp);rw[h5];rfl⟩,by omega,(ef [])⟩
 refine aT ?_;refine bL ?_;rw[hr,bY (by omega)]
def K7 (Γ:Ctx):Prop:=∀(s:ah)(p:Bool),(s.length≤1048576)→Γ.pre 456 [.str s,.bool p]∧Γ.val 456 [.str s,.bool p]=.bool (mG s p)
def Ff:aB:=⟨1,2,jN,cn,(sq (r1 [gm dx] 1 0) (sq (r1 [gm s0,gL l0 bD,gm l1,gmt 2 s0,cE 2 (lN l3 (i6 9999)),gp l2 l4,gm l5] 1 6) .ret))⟩
def w455 {Γ:Ctx}(hm:(Γ.at 0).bm)  (n:Int)   :dS Γ Ff (.bool (pR n)) [.int .i64 n]:=by
 show bx _ _ _ [⟨_,_⟩,_] _;refine ak ?_;refine ix ?_;exact bL rfl
def K6 (Γ:Ctx):Prop:=∀(n:Int),Γ.pre 455 [.int .i64 n]∧Γ.val 455 [.int .i64 n]=.bool (pR n)
def Fe:aB:=⟨1,3,jN,cn,(sq (rg [gb 5 s0,gm dx] [(2,0),(1,1)]) (sq (r1 [gf 0 s2,gd l0,gx 455 [l1] cn,gm l2,rJ 3 1 s2,px 3 l4,cE 3 (.call 455 [l5] cn),gp l3 l6,gm l7,rJ 8 2 s2,px 8 l9,cE 8 (.call 455 [l10] cn),gp l8 jK,gm lu,rJ 13 3 s2,px 13 n7,cE 13 (.call 456 [oY,tO] iz),gp nu q9,gm wo,rJ 18 4 s2,px 18 y5,cE 18 (.call 456 [A3,dx] iz),gp wX Ch,gm Ee] 1 23) .ret))⟩
def w217 {Γ:Ctx}(hm:(Γ.at 0).bm)(h455:K6 Γ)(h456:K7 Γ)(v:dq)  (hp0:v.sm):dS Γ Fe (.bool (eh v)) [dq.D v]:=by
 show bx _ _ _ [⟨_,_⟩,_,_] _;refine ak ?_;refine aT ?_;refine aj (hc:=h455 _) ?_;refine az ?_;refine aj (hc:=h455 _) ?_;refine aA ?_;refine aj (hc:=h455 _) ?_;refine aA ?_;refine en (hc:=fun hf=>h456 v.pre true hp0.1) ?_;refine aA ?_;refine en (hc:=fun hf=>h456 v.build false hp0.2) ?_;refine aA ?_;exact bL rfl
def KO (Γ:Ctx):Prop:=∀(v:dq),(v.sm)→Γ.pre 217 [dq.D v]∧Γ.val 217 [dq.D v]=.bool (eh v)
end Go.Abs
end
section
namespace Go.Abs
open Go
end Go.Abs
end
section
namespace Go.Abs
open Go
end Go.Abs
end
section
namespace Go.Abs
open Go
end Go.Abs
end
section
namespace Go.Abs
open Go
end Go.Abs
end
section
namespace Go.Abs
open Go
end Go.Abs
end
section
namespace Go.Abs
open Go
end Go.Abs
end
section
namespace Go.Abs
open Go
def ui:aB:=⟨1,18,[⟨1,some (5,true)⟩,⟨2,none⟩],[[.a,.a,.a,.a,.a],[.a]],(sq (rg [gb 5 (.c (.agg [.int .i64 0,.int .i64 0,.int .i64 0,.str [],.str []])),gm bD] [(1,0),(2,1)]) (sq (r1 [gb 5 (.c (.agg [.int .i64 0,.int .i64 0,.int .i64 0,.str [],.str []]))] 4 0) (sq (r1 [gm s0,gm l0] 3 1) (sq (r1 [gm s3,gx 675 [l0,(i8 43)] iz,gm l1,ge l2 0,ge l2 1,gf 4 s4,gt 1 l5 l3,gm l4] 3 7) (sq (r1 [gm s3,gx 675 [l0,(i8 45)] iz,gm l1,ge l2 0,ge l2 1,gf 3 s4,gt 1 l5 l3,gm l4] 3 7) (sq (r1 [gm s3,gx 533 [l0,(i8 46)] iz,gm l1] 5 2) (sq (sq (r1 [gm s5,gl l0,cl l1 j7] 6 2) (.cond s6 (sq (r1 [gn (.build [.int .i64 0,.int .i64 0,.int .i64 0,.str [],.str []] []),gt 5 s1 l0,gm AZ] 2 2) .ret) .skip)) (sq (r1 [gb 3 (.c (.agg [.int .i64 0,.int .i64 0,.int .i64 0]))] 16 0) (sq (sq (rg [gm s5,gl l0,gm bD] [(10,0),(8,1),(7,2)]) (.block 0 (.loop (sq (r1 [aU s7 s8] 9 0) (sq (iN s9 0) (sq (.block 1 (sq (rg [gm s7,ga 1 lx s7,gd l1,gm l0,gm l2] [(14,3),(11,4)]) (sq (rg [gm oz,gx 658 [l0] cn,gm l1,ge l2 0,ge l2 1,gm l3,gm l4] [(15,5),(12,6)]) (sq (sq (r1 [gm m8,oy l0] 13 1) (.cond tn (sq (r1 [gn (.build [.int .i64 0,.int .i64 0,.int .i64 0,.str [],.str []] []),gt 5 s1 l0,gm AZ] 2 2) .ret) .skip)) (rg [gm rS,gm vc,gn (.iaP 3 1 Bn l0),gt 1 l2 l1] []))))) (r1 [av s7 b9,gm l0] 7 1))))))) (sq (rt [gn (.iaP 3 1 Bn bD),gd l0,gn (.iaP 3 1 Bn b9),gn (.ldI 1 false l2),gn (.iaP 3 1 Bn kn),gn (.ldI 1 false l4),gf 0 s4,gt 1 l6 l1,gf 1 s4,gt 1 l8 l3,gf 2 s4,gt 1 l10 l5] []) (sq (sq (r1 [gk 5 true s4,gx 209 [l0] Jo,oy l1,gm l2,cA 3 (.ld 5 true s4),cA 3 (.call 451 [l4] Jo),eW 3 s0,cA 3 (eJ l5 l6),fM l3 l7] 17 8) (.cond wY (sq (r1 [gn (.build [.int .i64 0,.int .i64 0,.int .i64 0,.str [],.str []] []),gt 5 s1 l0,gm AZ] 2 2) .ret) .skip)) (sq (r1 [gk 5 true s4,gt 5 s1 l0,gm bD] 2 2) .ret))))))))))))⟩
def w466 {Γ:Ctx}(hm:(Γ.at 0).bm)(h209:Di Γ)(h451:IC Γ)(h533:Dk Γ)(h658:FY Γ)(h675:Lr Γ)(s:ah)  (hp0:s.length≤1048576):dS Γ ui (.tup [dq.D ((lJ s).getD iK),.int .i64 (tD s)]) [.str s]:=by
 show bx _ _ _ [⟨_,_⟩,_,_,_,_,_,_,_,_,_,_,_,_,_,_,_,_,_] _;have hb1:=jG s 43;have iz:=jG (dE s 43).2 45;generalize hA:dE s 43=A at hb1 iz;generalize hB:dE A.2 45=B at iz;have hsl:=cM B.2 46;generalize hL:ai B.2 46=L at hsl;have hq0:lJ s=if L.length=3∧dL L[0]! =true∧dL L[1]! =true∧dL L[2]! =true then(if eh ⟨cT L[0]!,cT L[1]!,cT L[2]!,B.1,A.1⟩=true∧kY ⟨cT L[0]!,cT L[1]!,cT L[2]!,B.1,A.1⟩=s then some ⟨cT L[0]!,cT L[1]!,cT L[2]!,B.1,A.1⟩else none)else none:=by subst hA;subst hB;subst hL;rfl
 refine ak ?_;refine ix ?_;refine aj (hc:=h675 s 43) ?_;rw[hA];refine aA ?_;refine aF (dq.D ⟨0,0,0,[],A.1⟩) (he:=by exact rfl) ?_;refine aA ?_;refine aj (hc:=h675 A.2 45) ?_;rw[hB];refine aA ?_;refine aF (dq.D ⟨0,0,0,B.1,A.1⟩) (he:=by exact rfl) ?_;refine aA ?_;refine aj (hc:=h533 B.2 46 (by omega)) ?_;rw[hL];refine aT ?_;intro u0;refine ay ?_;refine cF (fun hc0=>?_) fun hc0=>?_
 ·refine ay ?_;refine br (dq.D iK) ?_;refine aA ?_;refine bX (aO ?_ (congrArg (D.int .i64) ?_));all_goals
   have hq:lJ s=none:=by rw[hq0,if_neg (fun h=>by have:=h.1;omega)]
   simp only[tD,hq];rfl
 refine b6 ?_;intro u1;refine ay ?_;refine bq hm (ι:=Nat) (fun i=>[⟨true,.str s⟩,⟨true,.ptr 0 5 0 0⟩,.un,.un,⟨true,.ptr 2 5 0 0⟩,.un,.un,⟨true,.int .i64 (i:Nat)⟩,⟨true,.int .i64 (L.length:Nat)⟩,.un,⟨true,.sl 1 (L.map D.str)⟩,.un,.un,.un,.un,.un,⟨true,.ptr 27 3 0 0⟩,.un]) (fun i=>[(0,.buf 5 [dq.D iK]),(2,.buf 5 [dq.D ⟨0,0,0,B.1,A.1⟩]),(27,.buf 3 [G2 L i])]) 31 (fun i=>i≤3∧∀j,j<i→dL L[j]! =true) (fun i=>3-i) 0 ⟨by omega,fun j hj=>by omega⟩ (ef [(0,0),(2,2),(27,27)]) ?_;rintro i ⟨hi,hr⟩;refine az ?_;refine cF (fun hc1=>?_) fun hc1=>?_
 ·refine fK ?_;refine aj (hc:=h658 L[i]!) ?_;refine fK ?_;refine aq (fun hc2=>?_) (fun hc2=>?_)
  ·simp only[Bool.not_eq_true']at hc2;refine ay ?_;refine br (dq.D iK) ?_;refine aT ?_;refine bX (aO ?_ (congrArg (D.int .i64) ?_));all_goals
    have hq:lJ s=none:=by
     rw[hq0,if_neg];rintro⟨_,h1,h2,h3⟩;rcases(show i=0∨i=1∨i=2 by omega)with rfl|rfl|rfl
     ·rw[h1]at hc2;cases hc2
     ·rw[h2]at hc2;cases hc2
     ·rw[h3]at hc2;cases hc2
    simp only[tD,hq];rfl
  simp only[Bool.not_eq_false']at hc2;refine aA ?_;refine wD i ?_;refine aF (G2 L (i+1)) (he:=Eo L i (by omega)) ?_;refine ba ?_;have hr2:∀j,j<i+1→dL L[j]! =true:=by
   intro j hj;rcases Nat.eq_or_lt_of_le (Nat.lt_succ_iff.1 hj)with rfl|h
   ·exact hc2
   ·exact hr j h
  exact⟨i+1,⟨by omega,hr2⟩,by omega,(ef [(0,0),(2,2),(27,27)])⟩
 refine ay ?_;refine ee 27 ?_;refine ax ?_;have h3:i=3:=by omega
 subst h3;refine Ad 0 ?_;refine gB (v:=.int .i64 (cT L[0]!)) ?_;refine Ad 1 ?_;refine Ae (v:=.int .i64 (cT L[1]!)) ?_;refine Ad 2 ?_;refine Ae (v:=.int .i64 (cT L[2]!)) ?_;refine ax ?_;refine aF (dq.D ⟨cT L[0]!,0,0,B.1,A.1⟩) (he:=by exact rfl) ?_;refine ax ?_;refine aF (dq.D ⟨cT L[0]!,cT L[1]!,0,B.1,A.1⟩) (he:=by exact rfl) ?_;refine ax ?_;refine aF (dq.D ⟨cT L[0]!,cT L[1]!,cT L[2]!,B.1,A.1⟩) (he:=by exact rfl) ?_;refine az ?_;have hsm:dq.sm ⟨cT L[0]!,cT L[1]!,cT L[2]!,B.1,A.1⟩:=⟨by simp only;omega,by simp only;omega⟩;generalize hV:(⟨cT L[0]!,cT L[1]!,cT L[2]!,B.1,A.1⟩:dq)=V at hsm hq0⊢;refine ax ?_;refine aj (hc:=h209 V hsm) ?_;refine az ?_;refine en (hc:=fun _=>h451 V hsm) ?_;refine aA ?_;refine aq (fun hc3=>?_) (fun hc3=>?_)
 ·simp only[Bool.or_eq_true,Bool.not_eq_true',decide_eq_false_iff_not]at hc3;refine ay ?_;refine br (dq.D iK) ?_;refine aA ?_;refine bX (aO ?_ (congrArg (D.int .i64) ?_));all_goals
   have hq:lJ s=none:=by
    rw[hq0];split
    ·rw[if_neg];rintro⟨h1,h2⟩;rcases hc3 with h|h
     ·rw[h1]at h;cases h
     ·exact h h2
    ·rfl
   simp only[tD,hq];rfl
 simp only[Bool.or_eq_false_iff,Bool.not_eq_false',decide_eq_true_eq]at hc3;refine ba ?_;refine bX (aO ?_ (congrArg (D.int .i64) ?_));all_goals
  have hq:lJ s=some V:=by
   rw[hq0,if_pos ⟨by omega,hr 0 (by omega),hr 1 (by omega),hr 2 (by omega)⟩,if_pos hc3]
  simp only[tD,hq];rfl
def K9 (Γ:Ctx):Prop:=∀(s:ah),(s.length≤1048576)→Γ.pre 466 [.str s]∧Γ.val 466 [.str s]=.tup [dq.D ((lJ s).getD iK),.int .i64 (tD s)]
end Go.Abs
end
section
namespace Go.Abs
open Go
end Go.Abs
end
section
namespace Go.Abs
open Go
end Go.Abs
end
section
namespace Go.Abs
open Go
end Go.Abs
end
section
namespace Go.Abs
open Go
end Go.Abs
end
section
namespace Go.Abs
open Go
end Go.Abs
end
section
namespace Go.Abs
open Go
end Go.Abs
end
section
namespace Go.Abs
open Go
end Go.Abs
end
section
namespace Go.Abs
open Go
end Go.Abs
end
section
namespace Go.Abs
open Go
end Go.Abs
end
namespace Go.Abs
end Go.Abs
section
namespace Go.Abs
open Go
end Go.Abs
end
section
namespace Go.Abs
open Go
end Go.Abs
end
section
namespace Go.Abs
open Go
def v7:aB:=⟨2,10,[⟨2,none⟩],cn,(sq (r1 [gm bD] 2 0) (sq (sq (rg [gm s0,gl l0,gm bD] [(6,0),(4,1),(3,2)]) (.block 0 (.loop (sq (r1 [aU s3 s4] 5 0) (sq (iN s5 0) (sq (.block 1 (sq (rg [gm s3,ga 2 s6 s3,gk 2 true l1,gb 2 (.c (.agg [.str [],.au])),gm l0,gt 2 l3 l2] [(7,3),(9,4)]) (sq (r1 [gf 0 s7,gd l0,gm s1,aE l1 l2] 8 3) (.cond s8 (sq (r1 [gm s9,gm l0] 2 1) .ret) .skip)))) (r1 [av s3 b9,gm l0] 3 1))))))) (sq (r1 [gn (.mv (.c (.int .i64 (-1))))] 2 0) .ret)))⟩
def w663 {Γ:Ctx}(hm:(Γ.at 0).bm)  (l:List bp)(nm:ah)   :dS Γ v7 (.int .i64 (findF l nm 0)) [.sl 2 (l.map bp.D),.str nm]:=by
 show bx _ _ _ [⟨_,_⟩,⟨_,_⟩,_,_,_,_,_,_,_,_] _;refine ak ?_;refine aT ?_;intro u0;refine ay ?_;refine bq hm (ι:=Nat) (fun i=>[⟨true,.sl 2 (l.map bp.D)⟩,⟨true,.str nm⟩,.un,⟨true,.int .i64 (i:Nat)⟩,⟨true,.int .i64 (l.length:Nat)⟩,.un,⟨true,.sl 2 (l.map bp.D)⟩,.un,.un,.un]) (fun i=>[]) 4 (fun i=>i≤l.length∧findF l nm 0=findF l nm i) (fun i=>l.length-i) 0 ⟨by omega,rfl⟩ (ef []) ?_;rintro i ⟨hi,hr⟩;refine az ?_;refine cF (fun hc0=>?_) fun hc0=>?_
 ·refine aR ?_;first|refine ca (v:=(bp.D _)) ?_|refine gB (v:=(bp.D _)) ?_
  refine ay ?_;refine aF (bp.D l[i]!) (he:=by exact rfl) ?_;refine ba ?_;refine fQ (fun hc1=>?_) fun hc1=>?_
  ·refine ba ?_;refine gU ?_;rw[hr,DR (by omega) hc1]
  refine ba ?_;exact⟨i+1,⟨by omega,by rw[hr,DS (by omega) hc1]⟩,by omega,(ef [])⟩
 refine aT ?_;refine gU ?_;rw[hr,BX (by omega)]
def Ln (Γ:Ctx):Prop:=∀(l:List bp)(nm:ah),Γ.pre 663 [.sl 2 (l.map bp.D),.str nm]∧Γ.val 663 [.sl 2 (l.map bp.D),.str nm]=.int .i64 (findF l nm 0)
def tQ:aB:=⟨2,3,[⟨2,none⟩],cn,(sq (r1 [gm dx] 2 0) (sq (r1 [gm s1,aE l0 (cs [100,101,102,97,117,108,116]),gm l1,eW 2 s0,eW 2 s1,cA 2 (.call 663 [l3,l4] [[.sl 2 [.a,.sl 1 [.a]]],[.a]]),cA 2 (xj l5 bD),fM l2 l6,gm l7] 2 8) .ret))⟩
def w449 {Γ:Ctx}(hm:(Γ.at 0).bm)(h663:Ln Γ)(l:List bp)(nm:ah)   :dS Γ tQ (.bool (Ky l nm)) [.sl 2 (l.map bp.D),.str nm]:=by
 show bx _ _ _ [⟨_,_⟩,⟨_,_⟩,_] _;refine ak ?_;refine b6 ?_;refine aj (hc:=h663 _ _) ?_;refine aR ?_;exact bL rfl
def K4 (Γ:Ctx):Prop:=∀(l:List bp)(nm:ah),Γ.pre 449 [.sl 2 (l.map bp.D),.str nm]∧Γ.val 449 [.sl 2 (l.map bp.D),.str nm]=.bool (Ky l nm)
end Go.Abs
end
section
namespace Go.Abs
open Go
def v8:aB:=⟨1,12,[⟨1,none⟩,⟨2,none⟩,⟨3,none⟩],Mq,(sq (rg [gm bD,gm cse,gm cse] [(1,0),(2,1),(3,2)]) (sq (sq (r1 [gm s0,gx 349 [l0] cn] 4 1) (.cond s4 (sq (rg [gm s0,gm b9,gm l0,gm cse] [(1,1),(2,2),(3,3)]) .ret) .skip)) (sq (sq (rg [gm s0,gx 254 [l0,(cs [63])] iz,gm l1,ge l2 0,ge l2 1,gm l3,gm l4] [(6,5),(5,6)]) (sq (r1 [gm s5,gm l0,gmt 1 s6,cE 1 (.call 349 [l2] cn),gp l1 l3] 7 4) (.cond s7 (sq (rg [gm s6,gm kn,gm l0,gm cse] [(1,1),(2,2),(3,3)]) .ret) .skip))) (sq (sq (rg [gm s0,gx 487 [l0,(cs [47])] iz,gm l1,ge l2 0,ge l2 1,ge l2 2,gm l3,gm l4,gm l5] [(9,6),(10,7),(8,8)]) (sq (r1 [gm s8,gm l0,gmt 1 s9,cE 1 (.call 208 [l2] cn),gp l1 l3,gm l4,gmt 5 lx,cE 5 (.call 349 [l6] cn),gp l5 l7] 11 8) (.cond oz (sq (rg [gm s9,gm lx,gm j7,gm l0,gm l1] [(1,2),(2,3),(3,4)]) .ret) .skip))) (sq (rg [gm bD,gm cse,gm cse] [(1,0),(2,1),(3,2)]) .ret)))))⟩
def w448 {Γ:Ctx}(hm:(Γ.at 0).bm)(h208:FR Γ)(h254:KV Γ)(h349:y8 Γ)(h487:Li Γ)(s:ah)  (hp0:s.length≤1048576):dS Γ v8 (.tup [.int .i64 (b7 s).1,.str (b7 s).2.1,.str (b7 s).2.2]) [.str s]:=by
 show bx _ _ _ [⟨_,_⟩,_,_,_,_,_,_,_,_,_,_,_] _;refine ak ?_;refine ba ?_;refine aj (hc:=h349 _) ?_;refine ax ?_;refine cF (fun hc0=>?_) fun hc0=>?_
 ·refine b6 ?_;refine bX (jP (congrArg (D.int .i64) ?_) (congrArg D.str ?_) (congrArg D.str ?_));all_goals rw[GO hc0]
 refine aA ?_;refine aj (hc:=h254 s [63] hp0 (by decide)) ?_;refine fK ?_;refine aj (hc:=h349 _) ?_;refine ay ?_;refine cF (fun hc1=>?_) fun hc1=>?_
 ·refine b6 ?_;refine bX (jP (congrArg (D.int .i64) ?_) (congrArg D.str ?_) (congrArg D.str ?_));all_goals rw[GS hc0 hc1]
 refine aA ?_;refine aj (hc:=h487 s 47 hp0) ?_;refine lB ?_;refine aj (hc:=h208 _) ?_;refine az ?_;refine aj (hc:=h349 _) ?_;refine ay ?_;refine cF (fun hc2=>?_) fun hc2=>?_
 ·refine dh ?_;refine bX (jP (congrArg (D.int .i64) ?_) (congrArg D.str ?_) (congrArg D.str ?_));all_goals rw[GU hc0 hc1 hc2]
 refine ba ?_;refine bX (jP (congrArg (D.int .i64) ?_) (congrArg D.str ?_) (congrArg D.str ?_));all_goals rw[GR hc0 hc1 hc2]
def IA (Γ:Ctx):Prop:=∀(s:ah),(s.length≤1048576)→Γ.pre 448 [.str s]∧Γ.val 448 [.str s]=.tup [.int .i64 (b7 s).1,.str (b7 s).2.1,.str (b7 s).2.2]
end Go.Abs
end
section
namespace Go.Abs
open Go
def xz:aB:=⟨1,18,jN,cn,(sq (r1 [gm dx] 1 0) (sq (sq (r1 [gm s0,gl l0,dz l1 GK] 2 2) (nG s2 dx)) (sq (sq (rg [gm s0,gl l0,gm bD] [(6,0),(4,1),(3,2)]) (.block 0 (.loop (sq (r1 [aU s3 s4] 5 0) (sq (iN s5 0) (sq (.block 1 (sq (rg [gm s3,ga 2 s6 s3,gk 2 true l1,gb 2 (.c (.agg [.str [],.au])),gm l0,gt 2 l3 l2] [(7,3),(8,4)]) (sq (sq (r2 [gf 0 s7,gd l0,gx 349 [l1] cn,oy l2,gm l3,eW 4 s8,cA 4 (dj l5 bD),eW 4 l6,gmt 7 s0,gmt 7 s8,cE 7 (lO l9 b9),cE 7 (.ia 2 l8 l10),rJ 7 0 jK,px 7 lu,rJ 7 0 s7,px 7 n7,cE 7 (xj nu oY),Dd 4 l7 q9,fM l4 wo,gm wX,kl 19 1 s7,lF 19 A3,cA 19 (.len Ch),cA 19 (dj Ee zJ),fM y5 Ia,gm Ib,kl 25 1 s7,lF 25 Kz,cA 25 (.call 447 [Mv] [[.sl 1 [.a]]]),cA 25 (.un .not Mw),fM Jv Mx] 9 30) (nG s9 dx)) (sq (rg [gf 1 s7,gd l0,gl l1,gm bD] [(13,1),(11,2),(10,3)]) (.block 2 (.loop (sq (r1 [aU lx oz] 12 0) (sq (iN m8 2) (sq (.block 3 (sq (r1 [ga 1 tn lx,gd l0,gm l1] 14 2) (sq (rg [gm rS,gx 448 [l0] cn,gm l1,ge l2 0,ge l2 1,ge l2 2,gm l3,gm l4,gm l5] [(15,6),(16,7)]) (sq (r1 [gm vc,aE l0 bD,gm l1,eW 2 vc,cA 2 (cP l3 b9),eW 2 l4,gmt 5 s0,gmt 5 Bn,cE 5 (.call 449 [l6,l7] [[.sl 2 [.a,.sl 1 [.a]]],[.a]]),cE 5 (.un .not l8),Dd 2 l5 l9,fM l2 l10] 17 11) (nG wY dx))))) (r1 [av lx b9,gm l0] 10 1)))))))))) (r1 [av s3 b9,gm l0] 3 1))))))) (zH tO))))⟩
def w213 {Γ:Ctx}(hm:(Γ.at 0).bm)(h349:y8 Γ)(h447:K3 Γ)(h448:IA Γ)(h449:K4 Γ)(l:List bp)  (hp0:rD l):dS Γ xz (.bool (fh l)) [.sl 2 (l.map bp.D)]:=by
 show bx _ _ _ [⟨_,_⟩,_,_,_,_,_,_,_,_,_,_,_,_,_,_,_,_,_] _;refine ak ?_;refine aT ?_;intro u0;refine ay ?_;refine cF (fun hc0=>?_) fun hc0=>?_
 ·refine aR ?_;refine bL ?_;symm;simp only[fh];rw[decide_eq_false (by omega)];rfl
 refine aR ?_;intro u1;refine ay ?_;have hb:fh l=cj (jU l) 0 l.length:=by simp only[fh];rw[decide_eq_true (by omega)];rfl
 refine bq hm (ι:=Nat) (fun i=>[⟨true,.sl 2 (l.map bp.D)⟩,.un,.un,⟨true,.int .i64 (i:Nat)⟩,⟨true,.int .i64 (l.length:Nat)⟩,.un,⟨true,.sl 2 (l.map bp.D)⟩,.un,.un,.un,.un,.un,.un,.un,.un,.un,.un,.un]) (fun i=>[]) 7 (fun i=>i≤l.length∧fh l=cj (jU l) i l.length) (fun i=>l.length-i) 0 ⟨by omega,hb⟩ (ef []) ?_;rintro i ⟨hi,hr⟩;refine az ?_;refine cF (fun hc1=>?_) fun hc1=>?_
 ·refine aR ?_;first|refine ca (v:=(bp.D _)) ?_|refine gB (v:=(bp.D _)) ?_
  refine ay ?_;refine aF (bp.D l[i]!) (he:=by exact rfl) ?_;refine aR ?_;refine aj (hc:=h349 _) ?_;refine b6 ?_;refine cD (i-1) ?_;refine iT ?_;refine ny ?_;refine aR ?_;refine aj (hc:=h447 _) ?_;refine az ?_;refine aq (fun hc2=>?_) (fun hc2=>?_)
  ·have hfo:=BR hc2;refine ba ?_;refine bL ?_;rw[hr,aK (by omega),hfo];rfl
  have hfo:=BS hc2;refine aR ?_;intro u2;refine ay ?_;refine pw hm (ι:=Nat) (fun j=>[⟨true,.sl 2 (l.map bp.D)⟩,.un,.un,⟨true,.int .i64 (i:Nat)⟩,⟨true,.int .i64 (l.length:Nat)⟩,.un,⟨true,.sl 2 (l.map bp.D)⟩,.un,.un,.un,⟨true,.int .i64 (j:Nat)⟩,⟨true,.int .i64 (l[i]!.of.length:Nat)⟩,.un,⟨true,.sl 1 (l[i]!.of.map D.str)⟩,.un,.un,.un,.un]) (fun j=>[]) 49 (fun j=>j≤l[i]!.of.length∧jU l i=cj (fun j=>iB l l[i]!.of[j]!) j l[i]!.of.length) (fun j=>l[i]!.of.length-j) 0 ⟨by omega,hfo⟩ (ef []) ?_;rintro j ⟨hj,hjr⟩;refine az ?_;refine cF (fun hc3=>?_) fun hc3=>?_
  ·refine dh ?_;refine aj (hc:=h448 l[i]!.of[j]! ((hp0 _ (bG (by omega))).2.2 _ (bG (by omega)))) ?_;refine FI ?_;refine aj (hc:=h449 _ _) ?_;refine aA ?_;refine wp_cond (fun hc4=>?_) (fun hc4=>?_)
   ·have hz:iB l l[i]!.of[j]! =false:=by simp only[iB,hc4];rfl
    refine b6 ?_;refine bL ?_;rw[hr,aK (by omega),hjr,aK (by omega),hz];rfl
   have hz:iB l l[i]!.of[j]! =true:=by simp only[iB,hc4];rfl
   refine ba ?_;exact⟨j+1,⟨by omega,by rw[hjr,aK (by omega),hz];rfl⟩,by omega,(ef [])⟩
  refine b6 ?_;exact⟨i+1,⟨by omega,by rw[hr,aK (by omega),hjr,bY (by omega)];rfl⟩,by omega,(ef [])⟩
 refine aT ?_;refine bL ?_;rw[hr,bY (by omega)]
def KM (Γ:Ctx):Prop:=∀(l:List bp),(rD l)→Γ.pre 213 [.sl 2 (l.map bp.D)]∧Γ.val 213 [.sl 2 (l.map bp.D)]=.bool (fh l)
end Go.Abs
end
section
namespace Go.Abs
open Go
def CR:aB:=⟨1,11,jN,cn,(sq (r1 [gm cse] 1 0) (sq (sq (r1 [gm s0] 2 0) (.block 0 (sq (r1 [aE s2 b9,gm l0] 3 1) (.cond s3 (sq (r1 [gm (cs [61])] 1 0) .ret) (sq (r1 [aE s2 kn,gm l0] 4 1) (.cond s4 (sq (r1 [gm (cs [33,61])] 1 0) .ret) (sq (r1 [aE s2 j7,gm l0] 5 1) (.cond s5 (sq (r1 [gm (cs [60])] 1 0) .ret) (sq (r1 [aE s2 tJ,gm l0] 6 1) (.cond s6 (sq (r1 [gm (cs [60,61])] 1 0) .ret) (sq (r1 [aE s2 AZ,gm l0] 7 1) (.cond s7 (sq (r1 [gm (cs [62])] 1 0) .ret) (sq (r1 [aE s2 zJ,gm l0] 8 1) (.cond s8 (sq (r1 [gm (cs [62,61])] 1 0) .ret) (sq (r1 [aE s2 Jr,gm l0] 9 1) (.cond s9 (sq (r1 [gm (cs [94])] 1 0) .ret) (sq (r1 [aE s2 GK,gm l0] 10 1) (.cond lx (sq (r1 [gm (cs [126])] 1 0) .ret) .skip)))))))))))))))))) (zH cse)))⟩
def w678 {Γ:Ctx}(hm:(Γ.at 0).bm)  (op:Int)   :dS Γ CR (.str (bM op)) [.int .i64 op]:=by
 show bx _ _ _ [⟨_,_⟩,_,_,_,_,_,_,_,_,_,_] _;refine ak ?_;refine fK ?_;refine fQ (fun hc0=>?_) fun hc0=>?_
 ·refine aR ?_;refine cu ?_;unfold bM;simp_all
 refine aA ?_;refine fQ (fun hc1=>?_) fun hc1=>?_
 ·refine aR ?_;refine cu ?_;unfold bM;simp_all
 refine aA ?_;refine fQ (fun hc2=>?_) fun hc2=>?_
 ·refine aR ?_;refine cu ?_;unfold bM;simp_all
 refine aA ?_;refine fQ (fun hc3=>?_) fun hc3=>?_
 ·refine aR ?_;refine cu ?_;unfold bM;simp_all
 refine aA ?_;refine fQ (fun hc4=>?_) fun hc4=>?_
 ·refine aR ?_;refine cu ?_;unfold bM;simp_all
 refine aA ?_;refine fQ (fun hc5=>?_) fun hc5=>?_
 ·refine aR ?_;refine cu ?_;unfold bM;simp_all
 refine aA ?_;refine fQ (fun hc6=>?_) fun hc6=>?_
 ·refine aR ?_;refine cu ?_;unfold bM;simp_all
 refine aA ?_;refine fQ (fun hc7=>?_) fun hc7=>?_
 ·refine aR ?_;refine cu ?_;unfold bM;simp_all
 refine aT ?_;refine cu ?_;unfold bM;simp_all
def Lt (Γ:Ctx):Prop:=∀(op:Int),Γ.pre 678 [.int .i64 op]∧Γ.val 678 [.int .i64 op]=.str (bM op)
def BL:aB:=⟨1,11,jN,cn,(sq (r1 [gm cse] 1 0) (sq (sq (r1 [gm s0] 2 0) (.block 0 (sq (r1 [aE s2 b9,gm l0] 3 1) (.cond s3 (sq (r1 [gm (cs [61])] 1 0) .ret) (sq (r1 [aE s2 kn,gm l0] 4 1) (.cond s4 (sq (r1 [gm (cs [33,61])] 1 0) .ret) (sq (r1 [aE s2 j7,gm l0] 5 1) (.cond s5 (sq (r1 [gm (cs [60])] 1 0) .ret) (sq (r1 [aE s2 tJ,gm l0] 6 1) (.cond s6 (sq (r1 [gm (cs [60,61])] 1 0) .ret) (sq (r1 [aE s2 AZ,gm l0] 7 1) (.cond s7 (sq (r1 [gm (cs [62])] 1 0) .ret) (sq (r1 [aE s2 zJ,gm l0] 8 1) (.cond s8 (sq (r1 [gm (cs [62,61])] 1 0) .ret) (sq (r1 [aE s2 Jr,gm l0] 9 1) (.cond s9 (sq (r1 [gm (cs [94])] 1 0) .ret) (sq (r1 [aE s2 GK,gm l0] 10 1) (.cond lx (sq (r1 [gm (cs [126])] 1 0) .ret) .skip)))))))))))))))))) (zH cse)))⟩
def w957 {Γ:Ctx}(hm:(Γ.at 0).bm)  (op:Int)   :dS Γ BL (.str (bM op)) [.int .i64 op]:=by
 show bx _ _ _ [⟨_,_⟩,_,_,_,_,_,_,_,_,_,_] _;refine ak ?_;refine fK ?_;refine fQ (fun hc0=>?_) fun hc0=>?_
 ·refine aR ?_;refine cu ?_;unfold bM;simp_all
 refine aA ?_;refine fQ (fun hc1=>?_) fun hc1=>?_
 ·refine aR ?_;refine cu ?_;unfold bM;simp_all
 refine aA ?_;refine fQ (fun hc2=>?_) fun hc2=>?_
 ·refine aR ?_;refine cu ?_;unfold bM;simp_all
 refine aA ?_;refine fQ (fun hc3=>?_) fun hc3=>?_
 ·refine aR ?_;refine cu ?_;unfold bM;simp_all
 refine aA ?_;refine fQ (fun hc4=>?_) fun hc4=>?_
 ·refine aR ?_;refine cu ?_;unfold bM;simp_all
 refine aA ?_;refine fQ (fun hc5=>?_) fun hc5=>?_
 ·refine aR ?_;refine cu ?_;unfold bM;simp_all
 refine aA ?_;refine fQ (fun hc6=>?_) fun hc6=>?_
 ·refine aR ?_;refine cu ?_;unfold bM;simp_all
 refine aA ?_;refine fQ (fun hc7=>?_) fun hc7=>?_
 ·refine aR ?_;refine cu ?_;unfold bM;simp_all
 refine aT ?_;refine cu ?_;unfold bM;simp_all
def IV (Γ:Ctx):Prop:=∀(op:Int),Γ.pre 957 [.int .i64 op]∧Γ.val 957 [.int .i64 op]=.str (bM op)
def xq:aB:=⟨2,3,[⟨2,none⟩],cn,(sq (r1 [gm dx] 2 0) (sq (r1 [gm s0,wW l0,gm s1,wW l2,gL l1 l3,gm l4,gmt 5 s0,gmt 5 s1,cE 5 (.lenS l7),cE 5 (.slS l6 none (some l8)),gmt 5 s1,cE 5 (cP l9 l10),gp l5 jK,gm lu] 2 13) .ret))⟩
def w956 {Γ:Ctx}(hm:(Γ.at 0).bm)  (s:ah)(w:ah)   :dS Γ xq (.bool (pG s w)) [.str s,.str w]:=by
 show bx _ _ _ [⟨_,_⟩,⟨_,_⟩,_] _;refine ak ?_;refine aR ?_;intro u0;refine ay ?_;intro u1;refine aA ?_;refine ny ?_;refine tf w.length (hj:=fun _=>rfl) (hb:=fun h=>by simp at h;omega) ?_;refine aT ?_;refine bL ?_;unfold pG;rw[show decide ((w.length:Int)≤(s.length:Int))=decide (w.length≤s.length)from decide_eq_decide.2 (by omega)]
def LD (Γ:Ctx):Prop:=∀(s:ah)(w:ah),Γ.pre 956 [.str s,.str w]∧Γ.val 956 [.str s,.str w]=.bool (pG s w)
end Go.Abs
end
section
namespace Go.Abs
open Go
def Fh:aB:=⟨1,8,jN,cn,(sq (rg [gb 7 s0,gm dx] [(2,0),(1,1)]) (sq (sq (r1 [gf 0 s2,gd l0,aU l1 b9,gm l2,kl 3 0 s2,lF 3 l4,cA 3 (dj l5 A0),fM l3 l6,gm l7,kl 8 2 s2,cA 8 (.ld 5 true l9),cA 8 (.call 217 [l10] Jo),cA 8 (.un .not jK),fM l8 lu,gm nu,kl 14 2 s2,kl 14 4 oY,lF 14 q9,cA 14 (eJ wo cse),fM n7 wX] 3 19) (nG s3 dx)) (sq (rg [gm b9,gm j7] [(5,0),(6,1)]) (sq (sq (r1 [gf 0 s2,gd l0,aE l1 A0] 4 2) (.cond s4 (rg [gm bD,gm kn] [(5,0),(6,1)]) .skip)) (sq (sq (r1 [gf 1 s2,gd l0,gm s5,aU l1 l2,gm l3,kl 4 1 s2,lF 4 l5,eW 4 s6,cA 4 (dj l6 l7),fM l4 l8,gm l9,kl 10 1 s2,lF 10 jK,cA 10 (oD lu j7),eW 10 nu,rJ 14 2 s2,rJ 14 3 oY,px 14 q9,cE 14 (eJ wo cse),Dd 10 n7 wX,fM l10 y5] 7 20) (nG s7 dx)) (sq (r1 [gf 1 s2,gd l0,dz l1 bD,gm l2,kl 3 2 s2,kl 3 0 l4,lF 3 l5,cA 3 (cP l6 bD),fM l3 l7,gm l8,rJ 9 1 s2,px 9 l10,cE 9 (dj jK b9),gmt 9 lu,kl 13 2 s2,kl 13 1 n7,lF 13 oY,cA 13 (cP q9 bD),Kw 9 nu wo,gp l9 wX,gm y5,rJ 20 1 s2,px 20 Ch,cE 20 (dj Ee kn),gmt 20 Ia,kl 24 2 s2,kl 24 2 Jv,lF 24 Kz,cA 24 (cP Mv bD),Kw 20 Ib Mw,gp A3 Mx,gm l30] 1 31) .ret))))))⟩
def w676 {Γ:Ctx}(hm:(Γ.at 0).bm)(h217:KO Γ)(c:bW)  (hp0:c.v.sm):dS Γ Fh (.bool (iA c)) [bW.D c]:=by
 show bx _ _ _ [⟨_,_⟩,_,_,_,_,_,_,_] _;refine ak ?_;refine yW ?_;refine ch (v:=dq.D c.v) ?_;refine en (hc:=fun hf=>h217 c.v hp0) ?_;refine dh ?_;refine aq (fun hc0=>?_) (fun hc0=>?_)
 ·have hq:=xo hc0;refine aR ?_;refine bL ?_;rw[hq]
 have hy:=ux hc0;refine fK ?_;refine aq (fun hc1=>?_) (fun hc1=>?_)
 ·simp only[decide_eq_true_eq]at hc1;have hz:=mN hy (lo:=0) (hi:=2) (if_pos hc1) (if_pos hc1);refine FJ ?_;refine aq (fun hc2=>?_) (fun hc2=>?_)
  ·rw[hc2]at hz;refine aR ?_;refine bL ?_;rw[hz];rfl
  rw[hc2]at hz;refine Ir ?_;refine bL ?_;rw[hz];rfl
 simp only[decide_eq_false_iff_not]at hc1;have hz:=mN hy (lo:=1) (hi:=3) (if_neg hc1) (if_neg hc1);refine Iq ?_;refine aq (fun hc2=>?_) (fun hc2=>?_)
 ·rw[hc2]at hz;refine aR ?_;refine bL ?_;rw[hz];rfl
 rw[hc2]at hz;refine Ir ?_;refine bL ?_;rw[hz];rfl
def Ls (Γ:Ctx):Prop:=∀(c:bW),(c.v.sm)→Γ.pre 676 [bW.D c]∧Γ.val 676 [bW.D c]=.bool (iA c)
def DH:aB:=⟨1,14,jN,cn,(sq (rg [gb 7 s0,gm dx] [(2,0),(1,1)]) (sq (sq (r1 [gf 0 s2,gd l0,aU l1 b9,gm l2,kl 3 0 s2,lF 3 l4,cA 3 (dj l5 A0),fM l3 l6,gm l7,kl 8 2 s2,cA 8 (.ld 5 true l9),cA 8 (.call 209 [l10] Jo),cA 8 (.un .not jK),fM l8 lu,gm nu,kl 14 2 s2,kl 14 4 oY,lF 14 q9,cA 14 (eJ wo cse),fM n7 wX] 3 19) (nG s3 dx)) (sq (rg [gm b9,gm j7] [(5,0),(6,1)]) (sq (sq (r1 [gf 0 s2,gd l0,aE l1 A0] 4 2) (.cond s4 (rg [gm bD,gm kn] [(5,0),(6,1)]) .skip)) (sq (sq (r1 [gf 1 s2,gd l0,gm s5,aU l1 l2,gm l3,kl 4 1 s2,lF 4 l5,eW 4 s6,cA 4 (dj l6 l7),fM l4 l8,gm l9,kl 10 2 s2,kl 10 3 jK,lF 10 lu,cA 10 (eJ nu cse),eW 10 n7,rJ 15 1 s2,px 15 q9,cE 15 (oD wo j7),Dd 10 oY wX,fM l10 y5] 7 20) (nG s7 dx)) (sq (sq (r1 [gf 1 s2,gd l0] 8 1) (.block 0 (sq (.block 3 (sq (.block 2 (sq (.block 1 (sq (sq (sq (r1 [aE s8 bD,gm l0] 9 1) (.cond s9 (.exit 1) .skip)) (sq (sq (r1 [aE s8 b9,gm l0] 10 1) (.cond lx (.exit 2) .skip)) (sq (r1 [aE s8 kn,gm l0] 11 1) (.cond oz (.exit 3) .skip)))) (.exit 0))) (sq (r1 [gf 2 s2,gf 0 l0,gd l1,cl l2 bD] 12 3) (nG m8 dx)))) (sq (r1 [gf 2 s2,gf 1 l0,gd l1,cl l2 bD] 13 3) (nG tn dx)))) (sq (sq (r1 [gf 2 s2,gf 2 l0,gd l1,aE l2 bD,gm l3] 1 4) .ret) (.exit 0))))) (zH tO)))))))⟩
def w827 {Γ:Ctx}(hm:(Γ.at 0).bm)(h209:Di Γ)(c:bW)  (hp0:c.v.sm):dS Γ DH (.bool (iA c)) [bW.D c]:=by
 show bx _ _ _ [⟨_,_⟩,_,_,_,_,_,_,_,_,_,_,_,_,_] _;refine ak ?_;refine yW ?_;refine ch (v:=dq.D c.v) ?_;refine en (hc:=fun hf=>h209 c.v hp0) ?_;refine dh ?_;refine aq (fun hc0=>?_) (fun hc0=>?_)
 ·have hq:=xo hc0;refine aR ?_;refine bL ?_;rw[hq]
 have hy:=ux hc0;refine fK ?_;refine aq (fun hc1=>?_) (fun hc1=>?_)
 ·simp only[decide_eq_true_eq]at hc1;have hz:=mN hy (lo:=0) (hi:=2) (if_pos hc1) (if_pos hc1);refine FJ ?_;refine aq (fun hc2=>?_) (fun hc2=>?_)
  ·rw[Bool.and_comm (!decide (c.v.pre=[]))]at hc2;rw[hc2]at hz;refine aR ?_;refine bL ?_;rw[hz];simp[lC]<;>simp_all<;>omega
  rw[Bool.and_comm (!decide (c.v.pre=[]))]at hc2;rw[hc2]at hz;refine tH ?_;refine cF (fun hc3=>?_) fun hc3=>?_
  ·refine b6 ?_;refine fQ (fun hc6=>?_) fun hc6=>?_
   ·refine ba ?_;refine bL ?_;rw[hz];simp[lC]<;>simp_all<;>omega
   refine b6 ?_;refine fQ (fun hc7=>?_) fun hc7=>?_
   ·refine aT ?_;refine bL ?_;rw[hz];simp[lC]<;>simp_all<;>omega
   refine ix ?_;refine bL ?_;rw[hz];simp[lC]<;>simp_all<;>omega
  refine ba ?_;refine cF (fun hc4=>?_) fun hc4=>?_
  ·refine dh ?_;refine fQ (fun hc7=>?_) fun hc7=>?_
   ·refine aT ?_;refine bL ?_;rw[hz];simp[lC]<;>simp_all<;>omega
   refine ix ?_;refine bL ?_;rw[hz];simp[lC]<;>simp_all<;>omega
  refine aT ?_;refine cF (fun hc5=>?_) fun hc5=>?_
  ·refine vL ?_;refine bL ?_;rw[hz];simp[lC]<;>simp_all<;>omega
  refine iT ?_;refine bL ?_;rw[hz];simp[lC]<;>simp_all<;>omega
 simp only[decide_eq_false_iff_not]at hc1;have hz:=mN hy (lo:=1) (hi:=3) (if_neg hc1) (if_neg hc1);refine Iq ?_;refine aq (fun hc2=>?_) (fun hc2=>?_)
 ·rw[Bool.and_comm (!decide (c.v.pre=[]))]at hc2;rw[hc2]at hz;refine aR ?_;refine bL ?_;rw[hz];simp[lC]<;>simp_all<;>omega
 rw[Bool.and_comm (!decide (c.v.pre=[]))]at hc2;rw[hc2]at hz;refine tH ?_;refine cF (fun hc3=>?_) fun hc3=>?_
 ·refine b6 ?_;refine fQ (fun hc6=>?_) fun hc6=>?_
  ·refine ba ?_;refine bL ?_;rw[hz];simp[lC]<;>simp_all<;>omega
  refine b6 ?_;refine fQ (fun hc7=>?_) fun hc7=>?_
  ·refine aT ?_;refine bL ?_;rw[hz];simp[lC]<;>simp_all<;>omega
  refine ix ?_;refine bL ?_;rw[hz];simp[lC]<;>simp_all<;>omega
 refine ba ?_;refine cF (fun hc4=>?_) fun hc4=>?_
 ·refine dh ?_;refine fQ (fun hc7=>?_) fun hc7=>?_
  ·refine aT ?_;refine bL ?_;rw[hz];simp[lC]<;>simp_all<;>omega
  refine ix ?_;refine bL ?_;rw[hz];simp[lC]<;>simp_all<;>omega
 refine aT ?_;refine cF (fun hc5=>?_) fun hc5=>?_
 ·refine vL ?_;refine bL ?_;rw[hz];simp[lC]<;>simp_all<;>omega
 refine iT ?_;refine bL ?_;rw[hz];simp[lC]<;>simp_all<;>omega
def F0 (Γ:Ctx):Prop:=∀(c:bW),(c.v.sm)→Γ.pre 827 [bW.D c]∧Γ.val 827 [bW.D c]=.bool (iA c)
end Go.Abs
end
section
namespace Go.Abs
open Go
def zx:aB:=⟨1,16,jN,cn,(sq (rg [gb 7 s0,gm cse] [(2,0),(1,1)]) (sq (sq (r1 [gk 7 true s2,gx 827 [l0] Jp,oy l1] 3 2) (nG s3 cse)) (sq (r1 [gf 0 s2,gd l0,gx 957 [l1] cn,gm l2] 11 3) (sq (sq (rg [gf 2 s2,gf 0 l0,gd l1,gf 2 s2,gf 1 l3,gd l4,gf 2 s2,gf 2 l6,gd l7,gn (.bsl 1 (.int .i64 0) 3 [(0,l2),(1,l5),(2,l8)]),gl l9,gm bD] [(7,9),(5,10),(4,11)]) (.block 0 (.loop (sq (r1 [aU s4 s5] 6 0) (sq (iN s6 0) (sq (.block 1 (sq (rg [gm s4,ga 1 s7 s4,gd l1,gm l0,gm l2] [(8,3),(12,4)]) (sq (sq (r1 [gm s8,gf 1 s2,gd l1,gL l0 l2] 9 3) (.cond s9 (.exit 0) .skip)) (sq (sq (r1 [gm s8,dz l0 bD] 10 1) (.cond lx (r1 [gm oz,av l0 (cs [46]),gm l1] 11 2) .skip)) (r1 [gm oz,gm m8,gx 665 [l1] cn,av l0 l2,gm l3] 11 4))))) (r1 [av s4 b9,gm l0] 4 1))))))) (sq (sq (r1 [gf 0 s2,gd l0,aE l1 A0] 13 2) (.cond tn (sq (sq (r1 [gf 1 s2,gd l0,dz l1 bD] 14 2) (.cond rS (r1 [gm oz,av l0 (cs [46]),gm l1] 11 2) .skip)) (sq (r1 [gm oz,av l0 (cs [42]),gm l1] 1 2) .ret)) .skip)) (sq (sq (r1 [gf 2 s2,gf 3 l0,gd l1,cl l2 cse] 15 3) (.cond vc (r1 [gm oz,gf 2 s2,gf 3 l1,gd l2,av (cs [45]) l3,av l0 l4,gm l5] 11 6) .skip)) (sq (r1 [gm oz,gm l0] 1 1) .ret)))))))⟩
def w828 {Γ:Ctx}(hm:(Γ.at 0).bm)(h665:IL Γ)(h827:F0 Γ)(h957:IV Γ)(c:bW)  (hp0:c.v.sm):dS Γ zx (.str (cR c)) [bW.D c]:=by
 show bx _ _ _ [⟨_,_⟩,_,_,_,_,_,_,_,_,_,_,_,_,_,_,_] _;refine ak ?_;refine aT ?_;refine aj (hc:=h827 _ ?_) ?_;rotate_left;first|assumption|omega
 refine ay ?_;refine aq (fun hc0=>?_) (fun hc0=>?_)
 ·simp only[Bool.not_eq_true']at hc0;refine aR ?_;refine cu ?_;simp[cR,hc0]
 simp only[Bool.not_eq_false']at hc0;obtain⟨hv,hp1,hp2,hp3,hp4⟩:=ke hc0;have hsl:=qh c.op;have hnl:=m4 hv;refine aA ?_;refine aj (hc:=h957 _) ?_;refine lB ?_;refine ct [(.int _ _),(.int _ _),(.int _ _)] ?_;refine ax ?_;intro u0;refine ay ?_;refine ee 18 ?_;refine bq hm (ι:=Nat) (fun i=>[.un,.un,⟨true,.ptr 0 7 0 0⟩,.un,⟨true,.int .i64 (i:Nat)⟩,⟨true,.int .i64 3⟩,.un,⟨true,.sl 1 (c.ig.map (D.int .i64))⟩,.un,.un,.un,⟨true,.str (bM c.op++du c i)⟩,.un,.un,.un,.un]) (fun i=>[(0,.buf 7 [bW.D c])]) 21 (fun i=>i≤3∧i≤c.parts.toNat) (fun i=>3-i) 0 ⟨by omega,by omega⟩ (aL.to [(0,0)] ae ae (by repeat(first|exact cV.nil|refine cV.un ?_|refine cV.eq ae ?_|refine cV.nl (congrArg D.str (by first|(simp only[du,if_pos hpos,List.append_assoc];done)|(simp only[du,if_neg hpos,List.append_assoc,List.nil_append];done)|simp[du])) ae ?_|refine cV.nl ae ae ?_)) yi) ?_;rintro i ⟨hi,hip⟩;have hni:=hnl i;have hfit:=mn hv i;have hn3:c.ig.length=3:=rfl;refine az ?_;refine cF (fun hc1=>?_) fun hc1=>?_
 ·refine tH ?_;refine cF (fun hc2=>?_) fun hc2=>?_
  ·refine aR ?_;obtain rfl:i=c.parts.toNat:=by omega
   refine aA ?_;refine cF (fun hc4=>?_) fun hc4=>?_
   ·refine ba ?_;refine cF (fun hc5=>?_) fun hc5=>?_
    ·refine ay ?_;refine qQ ?_;refine aR ?_;refine qQ ?_;refine az ?_;refine cu ?_;simp[cR,hX,gD,hc0, *]
    refine aA ?_;refine qQ ?_;refine az ?_;refine cu ?_;simp[cR,hX,gD,hc0, *]
   refine b6 ?_;refine cF (fun hc6=>?_) fun hc6=>?_
   ·refine ax ?_;have hpl:=hp0.1;refine aA ?_;refine qQ ?_;refine qQ ?_;refine ba ?_;refine cu ?_;simp[cR,hX,gD,hc0, *]
   refine aT ?_;refine cu ?_;simp[cR,hX,gD,hc0, *]
  refine aT ?_;refine aq (fun hc3=>?_) (fun hc3=>?_)
  ·simp only[decide_eq_true_eq]at hc3;have hpos:0<i:=by omega
   refine ay ?_;refine qQ ?_;refine aR ?_;refine aj (hc:=h665 (c.ig[i]!) ⟨hfit.1,hfit.2⟩) ?_;have hdl:=dJ 4 (c.ig[i]!).toNat (by omega) (by omega);refine qQ ?_;refine b6 ?_;exact⟨i+1,⟨by omega,by omega⟩,by omega,(aL.to [(0,0)] ae ae (by repeat(first|exact cV.nil|refine cV.un ?_|refine cV.eq ae ?_|refine cV.nl (congrArg D.str (by first|(simp only[du,if_pos hpos,List.append_assoc];done)|(simp only[du,if_neg hpos,List.append_assoc,List.nil_append];done)|simp[du])) ae ?_|refine cV.nl ae ae ?_)) yi)⟩
  simp only[decide_eq_false_iff_not]at hc3;have hpos:¬0<i:=by omega
  refine aA ?_;refine aj (hc:=h665 (c.ig[i]!) ⟨hfit.1,hfit.2⟩) ?_;have hdl:=dJ 4 (c.ig[i]!).toNat (by omega) (by omega);refine qQ ?_;refine b6 ?_;exact⟨i+1,⟨by omega,by omega⟩,by omega,(aL.to [(0,0)] ae ae (by repeat(first|exact cV.nil|refine cV.un ?_|refine cV.eq ae ?_|refine cV.nl (congrArg D.str (by first|(simp only[du,if_pos hpos,List.append_assoc];done)|(simp only[du,if_neg hpos,List.append_assoc,List.nil_append];done)|simp[du])) ae ?_|refine cV.nl ae ae ?_)) yi)⟩
 refine aA ?_;obtain rfl:i=c.parts.toNat:=by omega
 refine aA ?_;refine cF (fun hc4=>?_) fun hc4=>?_
 ·refine ba ?_;refine cF (fun hc5=>?_) fun hc5=>?_
  ·refine ay ?_;refine qQ ?_;refine aR ?_;refine qQ ?_;refine az ?_;refine cu ?_;simp[cR,hX,gD,hc0, *]
  refine aA ?_;refine qQ ?_;refine az ?_;refine cu ?_;simp[cR,hX,gD,hc0, *]
 refine b6 ?_;refine cF (fun hc6=>?_) fun hc6=>?_
 ·refine ax ?_;have hpl:=hp0.1;refine aA ?_;refine qQ ?_;refine qQ ?_;refine ba ?_;refine cu ?_;simp[cR,hX,gD,hc0, *]
 refine aT ?_;refine cu ?_;simp[cR,hX,gD,hc0, *]
def IP (Γ:Ctx):Prop:=∀(c:bW),(c.v.sm)→Γ.pre 828 [bW.D c]∧Γ.val 828 [bW.D c]=.str (cR c)
end Go.Abs
end
section
namespace Go.Abs
open Go
def qg:aB:=⟨1,4,jN,[[.sl 1 [.a]]],(sq (rg [gb 7 s0,gm (.c (.au))] [(2,0),(1,1)]) (sq (r2 [gf 2 s2,gf 0 l0,gd l1,gx 734 [l2] cn,gf 2 s2,gf 1 l4,gd l5,gx 734 [l6] cn,gf 2 s2,gf 2 l8,gd l9,gx 734 [l10] cn,gn (.bsl 1 (.str []) 3 [(0,l3),(1,l7),(2,jK)]),gm lu] 3 13) (sq (r1 [gm s3,gf 1 s2,gd l1,gn (.slA 1 l0 none (some l2)),gm l3] 1 4) .ret)))⟩
def w677 {Γ:Ctx}(hm:(Γ.at 0).bm)(c:bW)(h734:Lx Γ)(hp0:eh c.v=true∧0≤c.parts∧c.parts≤3):bx (Γ.at 0) qg.body (nM qg (One (.own 14 1 0 c.parts.toNat) [(0,.buf 7 [bW.D c]),(14,.buf 1 [.str (cv c.v.major.toNat),.str (cv c.v.minor.toNat),.str (cv c.v.patch.toNat)])]):Ex→List aW→St→Prop) (eu qg [bW.D c]) ⟨0,[]⟩:=by
 show bx _ _ _ [⟨_,_⟩,_,_,_] _;refine ak ?_;refine ba ?_;refine aj (hc:=h734 c.v.major (mn hp0.1 0)) ?_;refine az ?_;refine aj (hc:=h734 c.v.minor (mn hp0.1 1)) ?_;refine az ?_;refine aj (hc:=h734 c.v.patch (mn hp0.1 2)) ?_;refine ct [.str _,.str _,.str _] ?_;refine aT ?_;refine yk c.parts.toNat (hj:=fun _=>by omega) (hb:=fun _=>by omega) ?_;refine az ?_;refine dW trivial ik (Eq.trans ae (?_)) ae (oneq _ _);rfl
def IM (Γ:Ctx):Prop:=∀(c:bW),(eh c.v=true∧0≤c.parts∧c.parts≤3)→∀(nx:Nat)(m:List (Nat×aV))(K:D→St→Prop),K (.own nx 1 0 c.parts.toNat) ⟨nx+1,(nx,.buf 1 [.str (cv c.v.major.toNat),.str (cv c.v.minor.toNat),.str (cv c.v.patch.toNat)])::m⟩→Γ.tr 677 [bW.D c] ⟨nx,m⟩ K
end Go.Abs
end
section
namespace Go.Abs
open Go
def Al:aB:=⟨1,8,jN,cn,(sq (rg [gb 7 s0,gm cse] [(2,0),(1,1)]) (sq (sq (r1 [gk 7 true s2,gx 676 [l0] Jp,oy l1] 3 2) (nG s3 cse)) (sq (r1 [gk 7 true s2,gn (.callM 677 [l0]),gm l1] 5 2) (sq (sq (r1 [gf 0 s2,gd l0,aE l1 A0] 4 2) (.cond s4 (sq (r1 [gm s5,gf 1 s2,gd l1,gf 1 s2,gd l3,gn (.slX 1 l0 l2 l4),gn (.bsl 1 (.str []) 1 [(0,(cs [42]))]),gn (.app 1 l5 l6),gx 249 [l7,(i8 46)] [[.sl 1 [.a]],[.a]],gm l8] 1 9) .ret) .skip)) (sq (r1 [gf 0 s2,gd l0,gx 678 [l1] cn,gm s5,gx 249 [l3,(i8 46)] [[.sl 1 [.a]],[.a]],av l2 l4,gm l5] 7 6) (sq (sq (r1 [gf 2 s2,gf 3 l0,gd l1,cl l2 cse] 6 3) (.cond s6 (r1 [gm s7,av l0 (cs [45]),gf 2 s2,gf 3 l2,gd l3,av l1 l4,gm l5] 7 6) .skip)) (sq (r1 [gm s7,gm l0] 1 1) .ret)))))))⟩
def w482 {Γ:Ctx}(hm:(Γ.at 0).bm)(h249:KU Γ)(h676:Ls Γ)(h677:IM Γ)(h678:Lt Γ)(c:bW)  (hp0:c.v.sm):dS Γ Al (.str (cR c)) [bW.D c]:=by
 show bx _ _ _ [⟨_,_⟩,_,_,_,_,_,_,_] _;refine ak ?_;refine aT ?_;refine aj (hc:=h676 _ ?_) ?_;rotate_left;first|assumption|omega
 refine ay ?_;refine aq (fun hc0=>?_) (fun hc0=>?_)
 ·simp only[Bool.not_eq_true']at hc0;refine aR ?_;refine cu ?_;simp[cR,hc0]
 simp only[Bool.not_eq_false']at hc0;obtain⟨hv,hp1,hp2,hp3,hp4⟩:=ke hc0;have hsl:=qh c.op;have hnl:=m4 hv c.parts.toNat;have htl:=yJ hp2;have hj1:=vw hp2;have hj2:=qn hp1 hp2;have hl2:=congrArg List.length hj2;have hl1:=congrArg List.length hj1;simp only[List.length_append,List.length_singleton]at hl2;have hi2:(if 0<c.parts then([46]:ah)else []).length≤1:=by split<;>simp
 refine az ?_;refine cg (nx':=6) (v:=.own 6 1 0 c.parts.toNat) (m':=[(6,.buf 1 [.str (cv c.v.major.toNat),.str (cv c.v.minor.toNat),.str (cv c.v.patch.toNat)]),(0,.buf 7 [bW.D c])]) (hc:=fun K' hK=>h677 c ⟨hv,hp1,hp2⟩ _ _ K' hK) (hn:=by decide) ?_;refine b6 ?_;refine cF (fun hc1=>?_) fun hc1=>?_
 ·refine ba ?_;refine Ka c.parts.toNat (hj:=fun _=>by omega) (hb:=fun _=>by omega) ?_;refine ct [.str _] ?_;refine Bd ((iq c++[[42]]).map D.str) (n:=(iq c++[[42]]).length) (ha:=by simp;omega) (he:=qR.own rfl (by simp)) (hz:=by rw[List.drop_zero,tw,List.map_append];rfl) (hn:=by simp;omega) (hb:=by simp;omega) ?_;refine aj (hc:=h249 (iq c++[[42]]) 46 (by rw[hj2];simp only[List.length_append,List.length_singleton];omega)) (ha:=fun _=>congrArg (fun d=>[d,D.int .u8 46]) (nj (q:=D.str) (fun _=>rfl) ae)) (hp:=fun _=>⟨kF (q:=D.str) (fun _=>rfl) ae,rfl,trivial⟩) ?_;refine az ?_;refine cu ?_;rw[cR,if_pos hc0,hj2];simp[hX,gD,hc1,bM]
 refine aA ?_;refine aj (hc:=h678 _) ?_;refine ax ?_;refine aj (hc:=h249 (iq c) 46 (by rw[hj1];omega)) (ha:=fun _=>congrArg (fun d=>[d,D.int .u8 46]) (HD ae)) (hp:=fun _=>⟨Fu hp2 ae,rfl,trivial⟩) ?_;refine cX (hb:=fun _=>by omega) ?_;refine dh ?_;refine cF (fun hc2=>?_) fun hc2=>?_
 ·refine ax ?_;have hpl:=hp0.1;refine ax ?_;refine qQ ?_;refine az ?_;refine qQ ?_;refine ba ?_;refine cu ?_;rw[cR,if_pos hc0,hj1];simp[hX,gD,hc1,hc2]
 refine aT ?_;refine cu ?_;rw[cR,if_pos hc0,hj1];simp[hX,gD,hc1,hc2]
def Lg (Γ:Ctx):Prop:=∀(c:bW),(c.v.sm)→Γ.pre 482 [bW.D c]∧Γ.val 482 [bW.D c]=.str (cR c)
end Go.Abs
end
section
namespace Go.Abs
open Go
end Go.Abs
end
section
namespace Go.Abs
open Go
end Go.Abs
end
section
namespace Go.Abs
open Go
end Go.Abs
end
section
namespace Go.Abs
open Go
def BK:aB:=⟨1,33,[⟨1,some (7,true)⟩,⟨2,none⟩],[[.a,.a,.a,.a,.a,.a,.a],[.a]],(sq (rg [gb 7 (.c (.agg [.int .i64 0,.int .i64 0,.int .i64 0,.int .i64 0,.int .i64 0,.str [],.str []])),gm dx] [(1,0),(2,1)]) (sq (r1 [gn (.build [.int .i64 0,.int .i64 0,.int .i64 0,.int .i64 0,.int .i64 0,.str [],.str []] [(0,1,A0)]),gb 7 (.c (.agg [.int .i64 0,.int .i64 0,.int .i64 0,.int .i64 0,.int .i64 0,.str [],.str []])),gt 7 l1 l0] 9 1) (sq (r1 [gm s0,gm l0] 10 1) (sq (sq (rg [gn (.bsl 1 (.int .i64 0) 8 [(0,kn),(1,tJ),(2,zJ),(3,b9),(4,j7),(5,AZ),(6,Jr),(7,GK)]),gl l0,gm bD] [(6,0),(4,1),(3,2)]) (.block 0 (.loop (sq (r1 [aU s3 s4] 5 0) (sq (iN s5 0) (sq (.block 1 (sq (r1 [ga 1 s6 s3,gd l0,gm l1] 7 2) (sq (r1 [gm s0,gm s7,gx 957 [l1] cn,gx 956 [l0,l2] iz] 8 3) (.cond s8 (sq (rg [gm s7,gf 0 s9,gt 1 l1 l0] []) (sq (r1 [gm s0,gm s7,gx 957 [l1] cn,wW l2,gn (.slS l0 (some l3) none),gm l4] 10 5) (.exit 0))) .skip)))) (r1 [av s3 b9,gm l0] 3 1))))))) (sq (sq (rg [gm lx,wW l0,gm bD] [(12,1),(11,2)]) (.block 2 (.loop (sq (r1 [aU oz m8] 13 0) (sq (iN tn 2) (sq (.block 3 (sq (r1 [gm oz,gm l0] 14 1) (sq (r1 [gm lx,gm rS,GA l0 l1,aE l2 (i8 45)] 15 3) (.cond vc (sq (rg [gm lx,gm rS,av l1 b9,gn (.slS l0 (some l2) none),gf 2 s9,gf 3 l4,gt 1 l5 l3] []) (sq (r1 [gm lx,gm rS,gn (.slS l0 none (some l1)),gm l2] 10 3) (.exit 2))) .skip)))) (r1 [av oz b9,gm l0] 11 1))))))) (sq (r1 [gm lx,gx 533 [l0,(i8 46)] iz,gm l1] 17 2) (sq (sq (r1 [gf 0 s9,gd l0,aE l1 A0] 16 2) (.cond Bn (sq (sq (r1 [gm wY,gm wY,gl l1,eQ l2 b9,ga 1 l0 l3,gd l4,cl l5 (cs [42])] 18 6) (.cond CU (sq (r1 [gn (.build [.int .i64 0,.int .i64 0,.int .i64 0,.int .i64 0,.int .i64 0,.str [],.str []] []),gt 7 s1 l0,gm dx] 2 2) .ret) .skip)) (r1 [gm wY,gm wY,gl l1,eQ l2 b9,gn (.slA 1 l0 none (some l3)),gm l4] 17 5)) .skip)) (sq (sq (r1 [gm wY,gl l0,dz l1 j7] 19 2) (.cond Kd (sq (r1 [gn (.build [.int .i64 0,.int .i64 0,.int .i64 0,.int .i64 0,.int .i64 0,.str [],.str []] []),gt 7 s1 l0,gm dx] 2 2) .ret) .skip)) (sq (rg [gm wY,gl l0,gf 1 s9,gt 1 l2 l1] []) (sq (sq (rg [gm wY,gl l0,gm bD] [(23,0),(21,1),(20,2)]) (.block 4 (.loop (sq (r1 [aU FN s21] 22 0) (sq (iN s22 4) (sq (.block 5 (sq (rg [gm FN,ga 1 s23 FN,gd l1,gm l0,gm l2] [(27,3),(24,4)]) (sq (rg [gm KD,gx 658 [l0] cn,gm l1,ge l2 0,ge l2 1,gm l3,gm l4] [(30,5),(25,6)]) (sq (sq (r1 [gm KE,oy l0] 26 1) (.cond MR (sq (r1 [gn (.build [.int .i64 0,.int .i64 0,.int .i64 0,.int .i64 0,.int .i64 0,.str [],.str []] []),gt 7 s1 l0,gm dx] 2 2) .ret) .skip)) (sq (r1 [gm s27] 28 0) (.block 6 (sq (r1 [aE s28 bD,gm l0] 29 1) (.cond s29 (rg [gm Ii,gf 2 s9,gf 0 l1,gt 1 l2 l0] []) (sq (r1 [aE s28 b9,gm l0] 31 1) (.cond s31 (rg [gm Ii,gf 2 s9,gf 1 l1,gt 1 l2 l0] []) (rg [gm Ii,gf 2 s9,gf 2 l1,gt 1 l2 l0] []))))))))))) (r1 [av FN b9,gm l0] 20 1))))))) (sq (sq (r1 [gk 7 true s9,gx 827 [l0] Jp,oy l1,gm l2,cA 3 (.ld 7 true s9),cA 3 (.call 828 [l4] Jp),eW 3 s0,cA 3 (eJ l5 l6),fM l3 l7] 32 8) (.cond s32 (sq (r1 [gn (.build [.int .i64 0,.int .i64 0,.int .i64 0,.int .i64 0,.int .i64 0,.str [],.str []] []),gt 7 s1 l0,gm dx] 2 2) .ret) .skip)) (sq (r1 [gk 7 true s9,gt 7 s1 l0,gm tO] 2 2) .ret))))))))))))⟩
def w819 {Γ:Ctx}(hm:(Γ.at 0).bm)(h533:Dk Γ)(h658:FY Γ)(h827:F0 Γ)(h828:IP Γ)(h956:LD Γ)(h957:IV Γ)(s:ah)  (hp0:s.length≤1048576):dS Γ BK (.tup [bW.D ((dA s).getD dk),.bool (dA s).isSome]) [.str s]:=by
 show bx _ _ _ (⟨true,.str s⟩::.un::.un::.un::.un::.un::.un::.un::.un::.un::.un::.un::.un::.un::.un::.un::.un::.un::.un::.un::.un::.un::.un::.un::.un::.un::.un::.un::.un::.un::.un::.un::.un::[]) ⟨0,[]⟩;have hol:=CN s;refine ak ?_;refine aA ?_;refine br (bW.D ⟨9,0,iK⟩) ?_;refine ax ?_;refine aF (bW.D ⟨9,0,iK⟩) (he:=by exact rfl) ?_;refine ba ?_;refine ct [(.int _ _),(.int _ _),(.int _ _),(.int _ _),(.int _ _),(.int _ _),(.int _ _),(.int _ _)] ?_;refine ax ?_;intro u0;refine ay ?_;refine ow hm (ι:=Unit) (fun _=>(⟨true,.str s⟩::⟨true,.ptr 0 7 0 0⟩::.un::.un::.un::.un::.un::.un::.un::⟨true,.ptr 3 7 0 0⟩::⟨true,.str (bU s).2⟩::.un::.un::.un::.un::.un::.un::.un::.un::.un::.un::.un::.un::.un::.un::.un::.un::.un::.un::.un::.un::.un::.un::[])) (fun _=>[(0,.buf 7 [bW.D dk]),(3,.buf 7 [bW.D ⟨(bU s).1,0,iK⟩])]) 40 (fun _=>True) ?_ ?_
 ·refine ee 7 ?_;refine pw hm (ι:=Nat) (fun i=>(⟨true,.str s⟩::⟨true,.ptr 0 7 0 0⟩::.un::⟨true,.int .i64 (i:Nat)⟩::⟨true,.int .i64 8⟩::.un::⟨true,.sl 1 (opsL.map (D.int .i64))⟩::.un::.un::⟨true,.ptr 3 7 0 0⟩::⟨true,.str s⟩::.un::.un::.un::.un::.un::.un::.un::.un::.un::.un::.un::.un::.un::.un::.un::.un::.un::.un::.un::.un::.un::.un::[])) (fun i=>[(0,.buf 7 [bW.D dk]),(3,.buf 7 [bW.D ⟨9,0,iK⟩])]) 10 (fun i=>i≤8∧n8 s 0=n8 s i) (fun i=>8-i) 0 ⟨by omega,rfl⟩ (ef [(0,0),(3,3)]) ?_;rintro i ⟨hi,hr⟩;have hn8:opsL.length=8:=rfl;refine az ?_;refine cF (fun hc0=>?_) fun hc0=>?_
  ·refine iT ?_;refine aj (hc:=h957 opsL[i]!) ?_;refine aj (hc:=h956 s (bM opsL[i]!)) ?_;refine ax ?_;refine wp_cond (fun hc1=>?_) (fun hc1=>?_)
   ·have hbl:(bM opsL[i]!).length≤s.length:=by simp only[pG,Bool.and_eq_true,decide_eq_true_eq]at hc1;exact hc1.1
    have hro:bU s=(opsL[i]!,s.drop (bM opsL[i]!).length):=by simp only[bU,hr,G7 (show i<8 by omega) hc1]
    refine az ?_;refine aF (bW.D ⟨opsL[i]!,0,iK⟩) (he:=by exact rfl) ?_;refine aA ?_;refine aj (hc:=h957 opsL[i]!) ?_;refine ax ?_;intro u1;refine mA (bM opsL[i]!).length (hb:=fun _=>hbl) ?_;refine aT ?_;simp only[hro];exact⟨(),trivial,(ef [(0,0),(3,3)])⟩
   skip
   refine ba ?_;exact⟨i+1,⟨by omega,by rw[hr,G8 (by omega) hc1]⟩,by omega,(ef [(0,0),(3,3)])⟩
  refine az ?_;have hro:bU s=(9,s):=by simp only[bU,hr,EB (show 8≤i by omega)]
  simp only[hro];exact⟨(),trivial,(ef [(0,0),(3,3)])⟩
 ·rintro _-
  refine aA ?_;intro u2;refine ay ?_;refine ow hm (ι:=Unit) (fun _=>(⟨true,.str s⟩::⟨true,.ptr 0 7 0 0⟩::.un::.un::.un::.un::.un::.un::.un::⟨true,.ptr 3 7 0 0⟩::⟨true,.str (cO s).1⟩::.un::.un::.un::.un::.un::.un::.un::.un::.un::.un::.un::.un::.un::.un::.un::.un::.un::.un::.un::.un::.un::.un::[])) (fun _=>[(0,.buf 7 [bW.D dk]),(3,.buf 7 [bW.D ⟨(bU s).1,0,{iK with pre:=(cO s).2}⟩])]) 60 (fun _=>True) ?_ ?_
  ·refine pw hm (ι:=Nat) (fun i=>(⟨true,.str s⟩::⟨true,.ptr 0 7 0 0⟩::.un::.un::.un::.un::.un::.un::.un::⟨true,.ptr 3 7 0 0⟩::⟨true,.str (bU s).2⟩::⟨true,.int .i64 (i:Nat)⟩::⟨true,.int .i64 ((bU s).2.length:Nat)⟩::.un::.un::.un::.un::.un::.un::.un::.un::.un::.un::.un::.un::.un::.un::.un::.un::.un::.un::.un::.un::[])) (fun i=>[(0,.buf 7 [bW.D dk]),(3,.buf 7 [bW.D ⟨(bU s).1,0,iK⟩])]) 43 (fun i=>i≤(bU s).2.length∧cO s=fo (bU s).2 i) (fun i=>(bU s).2.length-i) 0 ⟨by omega,rfl⟩ (ef [(0,0),(3,3)]) ?_;rintro i ⟨hi,hr⟩;refine az ?_;refine cF (fun hc2=>?_) fun hc2=>?_
   ·refine ix ?_;refine wp_cond (fun hc3=>?_) (fun hc3=>?_)
    ·simp only[decide_eq_true_eq]at hc3;have hpr:cO s=((bU s).2.take i,(bU s).2.drop (i+1)):=by rw[hr,Hj (by omega) hc3]
     refine aA ?_;refine mA (i+1) ?_;refine ay ?_;refine aF (bW.D ⟨(bU s).1,0,{iK with pre:=(bU s).2.drop (i+1)}⟩) (he:=by exact rfl) ?_;refine aA ?_;refine tf _ ?_;refine aT ?_;simp only[hpr];exact⟨(),trivial,(ef [(0,0),(3,3)])⟩
    try simp only[hO]at hc3
    refine ba ?_;exact⟨i+1,⟨by omega,by rw[hr,Hk (by omega) hc3]⟩,by omega,(ef [(0,0),(3,3)])⟩
   refine az ?_;have hpr:cO s=((bU s).2,[]):=by rw[hr,EU (by omega)]
   simp only[hpr];exact⟨(),trivial,(ef [(0,0),(3,3)])⟩
  ·rintro _-
   have hpl:(cO s).1.length≤s.length∧(cO s).2.length≤s.length:=by
    have:=yh (bU s).2;exact⟨by show(fo _ 0).1.length≤_;omega,by show(fo _ 0).2.length≤_;omega⟩
   have hlp:1≤(ai (cO s).1 46).length:=fB _ _ _;have hln:=cM (cO s).1 46;refine ay ?_;refine aj (hc:=h533 (cO s).1 46 (by omega)) ?_;refine b6 ?_;refine ow hm (ι:=Unit) (fun _=>(⟨true,.str s⟩::⟨true,.ptr 0 7 0 0⟩::.un::.un::.un::.un::.un::.un::.un::⟨true,.ptr 3 7 0 0⟩::.un::.un::.un::.un::.un::.un::.un::⟨true,.sl 1 ((cz s).map D.str)⟩::.un::.un::.un::.un::.un::.un::.un::.un::.un::.un::.un::.un::.un::.un::.un::[])) (fun _=>[(0,.buf 7 [bW.D dk]),(3,.buf 7 [bW.D ⟨(bU s).1,0,{iK with pre:=(cO s).2}⟩])]) 80 (fun _=>jz s) ?_ ?_
   ·refine wp_cond (fun hc4=>?_) (fun hc4=>?_)
    ·try simp only[hO]at hc4
     refine aR ?_;intro u3;refine ax ?_;refine cD ((ai (cO s).1 46).length-1) (hj:=fun _=>by omega) (hb:=fun _=>by omega) ?_;refine az ?_;refine aq (fun hc5=>?_) (fun hc5=>?_)
     ·simp only[Bool.not_eq_true',decide_eq_false_iff_not]at hc5;have hno:=fW (s:=s) (fun h=>hc5 (h.1 hc4));refine ay ?_;refine br (bW.D dk) ?_;refine aR ?_;refine bX (aO ?_ (congrArg D.bool ?_));all_goals (rw[hno];rfl)
     simp only[Bool.not_eq_false',decide_eq_true_eq]at hc5;have hst:jz s:=fun _=>hc5
     have hrl:cz s=(ai (cO s).1 46).take ((ai (cO s).1 46).length-1):=if_pos hc4;refine aR ?_;intro u4;refine ax ?_;refine td ((ai (cO s).1 46).length-1) (hj:=fun _=>by omega) (hb:=fun _=>by omega) ?_;refine az ?_;simp only[hrl];exact⟨(),hst,(ef [(0,0),(3,3)])⟩
    simp only[decide_eq_false_iff_not]at hc4;have hst:jz s:=fun h=>absurd h hc4
    have hrl:cz s=(ai (cO s).1 46):=if_neg hc4;refine ay ?_;simp only[hrl];exact⟨(),hst,(ef [(0,0),(3,3)])⟩
   ·rintro _ hst;refine aA ?_;intro u5;refine ay ?_;refine aq (fun hc6=>?_) (fun hc6=>?_)
    ·simp only[decide_eq_true_eq]at hc6;have hno:=fW (s:=s) (fun h=>by have:=h.2.1;simp only[fm,Bool.and_eq_true,decide_eq_true_eq]at this;omega);refine ay ?_;refine br (bW.D dk) ?_;refine aA ?_;refine bX (aO ?_ (congrArg D.bool ?_));all_goals (rw[hno];rfl)
    try simp only[hO]at hc6
    refine aA ?_;intro u6;refine ax ?_;refine aF (bW.D ⟨(bU s).1,((cz s).length:Nat),{iK with pre:=(cO s).2}⟩) (he:=by exact rfl) ?_;refine aR ?_;intro u7;refine ay ?_;have hb:fm (cz s)=cj (fun i=>dL (cz s)[i]!) 0 (cz s).length:=by simp only[fm];rw[decide_eq_true (by omega)];rfl
    refine bq hm (ι:=Nat) (fun i=>(⟨true,.str s⟩::⟨true,.ptr 0 7 0 0⟩::.un::.un::.un::.un::.un::.un::.un::⟨true,.ptr 3 7 0 0⟩::.un::.un::.un::.un::.un::.un::.un::.un::.un::.un::⟨true,.int .i64 (i:Nat)⟩::⟨true,.int .i64 ((cz s).length:Nat)⟩::.un::⟨true,.sl 1 ((cz s).map D.str)⟩::.un::.un::.un::.un::.un::.un::.un::.un::.un::[])) (fun i=>[(0,.buf 7 [bW.D dk]),(3,.buf 7 [bW.D ⟨(bU s).1,((cz s).length:Nat),{Bb (cz s) i with pre:=(cO s).2}⟩])]) 90 (fun i=>i≤(cz s).length∧fm (cz s)=cj (fun i=>dL (cz s)[i]!) i (cz s).length) (fun i=>(cz s).length-i) 0 ⟨by omega,hb⟩ (ef [(0,0),(3,3)]) ?_;rintro i ⟨hi,hr⟩;refine az ?_;refine cF (fun hc7=>?_) fun hc7=>?_
    ·refine fK ?_;refine aj (hc:=h658 (cz s)[i]!) ?_;refine fK ?_;refine aq (fun hc8=>?_) (fun hc8=>?_)
     ·simp only[Bool.not_eq_true']at hc8;have hno:=fW (s:=s) (fun h=>by have:=h.2.1;rw[hr,aK (by omega),hc8]at this;cases this);refine ay ?_;refine br (bW.D dk) ?_;refine aT ?_;refine bX (aO ?_ (congrArg D.bool ?_));all_goals (rw[hno];rfl)
     simp only[Bool.not_eq_false']at hc8;refine dh ?_;refine wp_cond (fun hc9=>?_) (fun hc9=>?_)
     ·simp only[decide_eq_true_eq]at hc9;have hi0:i=0:=by omega
      refine aA ?_;refine aF (bW.D ⟨(bU s).1,((cz s).length:Nat),{Bb (cz s) (i+1)with pre:=(cO s).2}⟩) (he:=by subst hi0;exact rfl) ?_;refine b6 ?_;exact⟨i+1,⟨by omega,by rw[hr,aK (by omega),hc8];rfl⟩,by omega,(ef [(0,0),(3,3)])⟩
     try simp only[hO]at hc9
     refine aA ?_;refine wp_cond (fun hc10=>?_) (fun hc10=>?_)
     ·simp only[decide_eq_true_eq]at hc10;have hi0:i=1:=by omega
      refine aA ?_;refine aF (bW.D ⟨(bU s).1,((cz s).length:Nat),{Bb (cz s) (i+1)with pre:=(cO s).2}⟩) (he:=by subst hi0;exact rfl) ?_;refine b6 ?_;exact⟨i+1,⟨by omega,by rw[hr,aK (by omega),hc8];rfl⟩,by omega,(ef [(0,0),(3,3)])⟩
     simp only[decide_eq_false_iff_not]at hc10;have hi0:i=2:=by omega
     refine aA ?_;refine aF (bW.D ⟨(bU s).1,((cz s).length:Nat),{Bb (cz s) (i+1)with pre:=(cO s).2}⟩) (he:=by subst hi0;exact rfl) ?_;refine b6 ?_;exact⟨i+1,⟨by omega,by rw[hr,aK (by omega),hc8];rfl⟩,by omega,(ef [(0,0),(3,3)])⟩
    refine aA ?_;obtain rfl:i=(cz s).length:=by omega
    have hok:fm (cz s)=true:=by rw[hr,bY (by omega)]
    have hsm:(cH s).v.sm:=⟨by show(cO s).2.length≤_;omega,by show([]:ah).length≤_;simp⟩;refine cy (d:=bW.D (cH s)) ?_;refine aj (hc:=h827 (cH s) hsm) ?_;refine ay ?_;refine cy (d:=bW.D (cH s)) ?_;refine en (hc:=fun _=>h828 (cH s) hsm) ?_;refine aA ?_;refine aq (fun hc11=>?_) (fun hc11=>?_)
    ·simp only[Bool.or_eq_true,Bool.not_eq_true',decide_eq_false_iff_not]at hc11;have hno:=fW (s:=s) (fun h=>by rcases hc11 with h1|h1;rw[h.2.2.1]at h1;cases h1;exact h1 h.2.2.2);refine ay ?_;refine br (bW.D dk) ?_;refine aA ?_;refine bX (aO ?_ (congrArg D.bool ?_));all_goals (rw[hno];rfl)
    simp only[Bool.or_eq_false_iff,Bool.not_eq_false',decide_eq_true_eq]at hc11;have hyes:dA s=some (cH s):=by unfold dA;rw[if_pos ⟨hst,hok,hc11⟩]
    refine ay ?_;refine cy (d:=bW.D (cH s)) ?_;refine aA ?_;refine bX (aO ?_ (congrArg D.bool ?_));all_goals (rw[hyes];rfl)
def LB (Γ:Ctx):Prop:=∀(s:ah),(s.length≤1048576)→Γ.pre 819 [.str s]∧Γ.val 819 [.str s]=.tup [bW.D ((dA s).getD dk),.bool (dA s).isSome]
end Go.Abs
end
section
namespace Go.Abs
open Go
def zw:aB:=⟨1,9,[⟨1,some (7,true)⟩,⟨2,none⟩],[[.a,.a,.a,.a,.a,.a,.a],[.a]],(sq (rg [gb 7 (.c (.agg [.int .i64 0,.int .i64 0,.int .i64 0,.int .i64 0,.int .i64 0,.str [],.str []])),gm bD] [(1,0),(2,1)]) (sq (sq (rg [gm s0,gx 819 [l0] cn,gm l1,ge l2 0,ge l2 1,gb 7 (.c (.agg [.int .i64 0,.int .i64 0,.int .i64 0,.int .i64 0,.int .i64 0,.str [],.str []])),gt 7 l5 l3,gm l4] [(5,5),(3,7)]) (sq (r1 [gm s3] 4 0) (.cond s4 (sq (r1 [gk 7 true s5,gt 7 s1 l0,gm bD] 2 2) .ret) .skip))) (sq (sq (rg [gm s0,av (cs [94]) l0,gx 819 [l1] cn,gm l2,ge l3 0,ge l3 1,gb 7 (.c (.agg [.int .i64 0,.int .i64 0,.int .i64 0,.int .i64 0,.int .i64 0,.str [],.str []])),gt 7 l6 l4,gm l5] [(8,6),(6,8)]) (sq (r1 [gm s6] 7 0) (.cond s7 (sq (r1 [gk 7 true s8,gt 7 s1 l0,gm bD] 2 2) .ret) .skip))) (sq (r1 [gn (.build [.int .i64 0,.int .i64 0,.int .i64 0,.int .i64 0,.int .i64 0,.str [],.str []] []),gt 7 s1 l0,gm zJ] 2 2) .ret))))⟩
def w682 {Γ:Ctx}(hm:(Γ.at 0).bm)(h819:LB Γ)(s:ah)  (hp0:s.length≤1048575):dS Γ zw (.tup [bW.D ((gy s).getD dk),.int .i64 (if(gy s).isSome=true then 0 else 6)]) [.str s]:=by
 show bx _ _ _ [⟨_,_⟩,_,_,_,_,_,_,_,_] _;refine ak ?_;refine aT ?_;refine aj (hc:=h819 s (by omega)) ?_;refine ax ?_;refine fG (bW.D _) ?_;refine ay ?_;refine aF (bW.D ((dA s).getD dk)) (he:=by exact rfl) ?_;refine aT ?_;refine cF (fun hc0=>?_) fun hc0=>?_
 ·refine ay ?_;refine cy (d:=bW.D ((dA s).getD dk)) ?_;refine aA ?_;refine bX (aO ?_ (congrArg (D.int .i64) ?_));all_goals (have hn:gy s=dA s:=if_pos hc0;rw[hn];first|rfl|simp only[hc0,if_true])
 refine aA ?_;refine cX (hb:=fun _=>by simp;omega) ?_;refine aj (hc:=h819 (94::s) (by simp;omega)) ?_;refine ax ?_;refine fG (bW.D _) ?_;refine ay ?_;refine aF (bW.D ((dA (94::s)).getD dk)) (he:=by exact rfl) ?_;refine aT ?_;refine cF (fun hc1=>?_) fun hc1=>?_
 ·refine ay ?_;refine cy (d:=bW.D ((dA (94::s)).getD dk)) ?_;refine aA ?_;refine bX (aO ?_ (congrArg (D.int .i64) ?_));all_goals (have hn:gy s=dA (94::s):=(by simp only[gy,hc0,Bool.false_eq_true,if_false]);rw[hn];first|rfl|simp only[hc1,if_true])
 refine ay ?_;refine br (bW.D dk) ?_;refine aA ?_;refine bX (aO ?_ (congrArg (D.int .i64) ?_));all_goals (have hn:gy s=none:=(by simp only[gy,hc0,Bool.false_eq_true,if_false];exact Option.not_isSome_iff_eq_none.1 (by rw[hc1];simp));rw[hn];rfl)
def Lu (Γ:Ctx):Prop:=∀(s:ah),(s.length≤1048575)→Γ.pre 682 [.str s]∧Γ.val 682 [.str s]=.tup [bW.D ((gy s).getD dk),.int .i64 (if(gy s).isSome=true then 0 else 6)]
end Go.Abs
end
section
namespace Go.Abs
open Go
end Go.Abs
end
section
namespace Go.Abs
open Go
end Go.Abs
end
section
namespace Go.Abs
open Go
end Go.Abs
end
