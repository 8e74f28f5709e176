/- A part of the proofs of the statements: LQ, U1, T6, T7, LExt, T8, T9, T10, T1, T2, T3, T4, T5, T11, T12, T13, T14, T15, T16, T17, T18, T19, T20, T21, T22, T23, LPlain4, LPlain5, T24, T25, U2, U3, U4, U5, U6, U7, U8, U8b, U9, U10, U11, U12, U13, U14, U15, U16. -/
import Derived.Test.YtpdlhpamcaocgaaGreatDoorP05
set_option linter.all false
set_option maxRecDepth 4000
section
namespace Go.Abs
def ae {p:Prop}(h:p:=by exact rfl):p:=h
def kV {p:Prop}(h:p:=by repeat(first|exact cV.nil|refine cV.un ?_|refine cV.eq (by exact rfl) ?_)):p:=h
def bR {p:Prop}(h:p:=by first|exact rfl|exact bm (fun _=>rfl) _):p:=h
def dN {p:Prop}(h:p:=by repeat(first|exact cV.nil|refine cV.un ?_|refine cV.eq (by exact rfl) ?_|refine cV.nl (by exact rfl) (by exact rfl) ?_)):p:=h
def im {p:Prop}(h:p:=by repeat' first|exact trivial|exact rfl|refine And.intro ?_ ?_):p:=h
def rh {p:Prop}(h:p:=by repeat' first|exact trivial|exact rfl|exact Nat.le_refl _|refine And.intro ?_ ?_):p:=h
def x7 {p:Prop}(h:p:=by repeat(first|exact aC.nil|refine aC.cZ (by exact rfl) (by exact rfl) (by first|exact rfl|exact bm (fun _=>rfl) _) ?_|refine aC.lH (by exact rfl) (by exact rfl) (by exact rfl) ?_|refine aC.pj (by exact rfl) (by exact rfl) (by exact rfl) (by exact rfl) ?_)):p:=h
def b0 {p:Prop} [Decidable p]:(decide p=true)=p:=decide_eq_true_eq
def b1 {p:Prop} [Decidable p]:decide p=false↔¬p:=decide_eq_false_iff_not
def b2 (b:Bool):((!b)=true)=(b=false):=Bool.not_eq_true' b
def b3 (b:Bool):((!b)=false)=(b=true):=Bool.not_eq_false' b
def b4 (b:Bool):(¬(b=false))=(b=true):=Bool.not_eq_false b
def b5 (a b:Bool):((a ||b)=true)=(a=true∨b=true):=Bool.or_eq_true a b
end Go.Abs
namespace Go.Abs
abbrev ef (Γ:Ctx)(a:aB)(d:D)(ds:List D):Prop:=bz (Γ.at 0) a.body (Ir a d) (et a ds) ⟨0,[]⟩
def b7 {a:aB}{d d2:D}{e:Ex}{nx:Nat}{m:List (Nat×aU)}{env:List aW}(h:d2=d)(he:e.home:=by exact trivial)(h1:lD m env a.res:=by exact rh)(h2:vv a env m:=by exact im)(h3:CD a env m=d2:=by exact rfl):Ir a d e env ⟨nx,m⟩:=JA he h1 h2 (h3.trans h)
def bL {a:aB}{d d2:Bool}{e:Ex}{nx:Nat}{m:List (Nat×aU)}{env:List aW}(h:d2=d)(he:e.home:=by exact trivial)(h1:lD m env a.res:=by exact rh)(h2:vv a env m:=by exact im)(h3:CD a env m=.bool d2:=by exact rfl):Ir a (.bool d) e env ⟨nx,m⟩:=b7 (congrArg _ h) he h1 h2 h3
def cq {a:aB}{d d2:List UInt8}{e:Ex}{nx:Nat}{m:List (Nat×aU)}{env:List aW}(h:d2=d)(he:e.home:=by exact trivial)(h1:lD m env a.res:=by exact rh)(h2:vv a env m:=by exact im)(h3:CD a env m=.str d2:=by exact rfl):Ir a (.str d) e env ⟨nx,m⟩:=b7 (congrArg _ h) he h1 h2 h3
def gW {a:aB}{d d2:Int}{e:Ex}{nx:Nat}{m:List (Nat×aU)}{env:List aW}(h:d2=d)(he:e.home:=by exact trivial)(h1:lD m env a.res:=by exact rh)(h2:vv a env m:=by exact im)(h3:CD a env m=.int .i64 d2:=by exact rfl):Ir a (.int .i64 d) e env ⟨nx,m⟩:=b7 (congrArg _ h) he h1 h2 h3
def ek {lo c nx nx2:Nat}{env env2:List aW}{m m2:List (Nat×aU)}(σ:List (Nat×Nat))(hc:nx2=c:=by exact ae)(h:eB lo c σ=true:=by exact ae)(he:cV lo σ env env2:=by exact dN)(hm:aC lo c σ m m2:=by exact x7):aL lo env ⟨nx,m⟩ env2 ⟨nx2,m2⟩:=aL.to σ hc h he hm
def qP {Γ:Ctx}{draw f:Bool}{r:List GI}{env rs:List aW}{nx:Nat}{m:List (Nat×aU)}{K:List aW→St→Prop}{g:Option (Nat×Bool)}{x y:Src}{fx fy:Bool}{a b:List UInt8}(h:au Γ draw r env (⟨f,.str (a++b)⟩::rs) nx m K)(hg:GF rs g f:=by first|exact rfl|exact⟨_,_,rfl,rfl⟩)(hx:bB env rs x=⟨fx,.str a⟩:=by exact rfl)(hy:bB env rs y=⟨fy,.str b⟩:=by exact rfl)(kx:f=true→fx=true:=by first|exact fun _=>rfl|exact fun h=>h|(intro h;simp_all))(ky:f=true→fy=true:=by first|exact fun _=>rfl|exact fun h=>h|(intro h;simp_all))(hb:f=true→a.length+b.length≤9223372036854775807:=by intro _;simp only[List.length_append,List.length_cons,List.length_nil];omega):au Γ draw (⟨.bin .add x y,g⟩::r) env rs nx m K:=cS h hg hx hy kx ky hb
end Go.Abs
namespace Go.Abs
section
variable {Γ:Ctx} {Q:Ex→List aW→St→Prop}
def cmN {env rs:List aW}:C9 env rs []=env:=rfl
def cmC {s p:Nat}{r:List (Nat×Nat)}{env rs env1 env':List aW}{f:Bool}{d:D}(e:bB [] rs (.l p)=⟨f,d⟩)(hs:env.set s ⟨f,d⟩=env1)(h:C9 env1 rs r=env'):C9 env rs ((s,p)::r)=env':=by
 simp only[C9,e,hs,h]
def rrrg {draw:Bool}{cm:List (Nat×Nat)}{b:AC}{nx nx':Nat}{m:List (Nat×aU)}{rs env et env':List aW}(h:bz Γ b Q env' ⟨nx',m⟩)
  (he:C9 env rs cm=env':=by repeat(first|apply cmC (by exact rfl) (by simp only[List.set_cons_zero,List.set_cons_succ];exact rfl)|with_reducible exact cmN)) (hn:nx+rs.length=nx':=by simp only[List.length_cons,List.length_nil,Nat.reduceAdd];exact rfl):au Γ draw [] et rs nx m (fun vs st'=>bz Γ b Q (er env vs cm) st'):=
 GZ h he hn
def rrrh {draw:Bool}{cm:List (Nat×Nat)}{nx nx':Nat}{m:List (Nat×aU)}{rs env et env':List aW}(h:Q .normal env' ⟨nx',m⟩)
  (he:C9 env rs cm=env':=by repeat(first|apply cmC (by exact rfl) (by simp only[List.set_cons_zero,List.set_cons_succ];exact rfl)|with_reducible exact cmN)) (hn:nx+rs.length=nx':=by simp only[List.length_cons,List.length_nil,Nat.reduceAdd];exact rfl):au Γ draw [] et rs nx m (fun vs st'=>Q .normal (er env vs cm) st'):=
 G0 h he hn
end
def Fam (_:Prop):Type:=Unit
def rv {q:Prop}:Fam q:=()
structure Hid (q:Prop)(f:Fam q):Prop where
 val:q
section
variable {Γ:Ctx} {draw b1:Bool} {r:List GI} {env rs:List aW} {nx n0 n1:Nat} {m:List (Nat×aU)} {K:List aW→St→Prop} {g:Option (Nat×Bool)} {x0 x1 x2:Src}
def tg0 {Γ:Ctx}{a:AC}{Q:Ex→List aW→St→Prop}{env:List aW}{st:St}(h:bz Γ a Q env st):bz Γ a Q env st:=h
def tg1 (h:au Γ draw (⟨.mv x0,g⟩::r) env rs nx m K):au Γ draw (⟨.mv x0,g⟩::r) env rs nx m K:=h
def tg2 (h:au Γ draw [] env rs nx m K):au Γ draw [] env rs nx m K:=h
def tg3 (h:au Γ draw (⟨.fa n0 x1,g⟩::r) env rs nx m K):au Γ draw (⟨.fa n0 x1,g⟩::r) env rs nx m K:=h
def tg4 (h:au Γ draw (⟨.ld n0 b1 x2,g⟩::r) env rs nx m K):au Γ draw (⟨.ld n0 b1 x2,g⟩::r) env rs nx m K:=h
def tg5 (h:au Γ draw (⟨.bin .lss x0 x1,g⟩::r) env rs nx m K):au Γ draw (⟨.bin .lss x0 x1,g⟩::r) env rs nx m K:=h
def tg6 (h:au Γ draw (⟨.bin .eql x0 x1,g⟩::r) env rs nx m K):au Γ draw (⟨.bin .eql x0 x1,g⟩::r) env rs nx m K:=h
def tg7 (h:au Γ draw (⟨.bin .add x0 x1,g⟩::r) env rs nx m K):au Γ draw (⟨.bin .add x0 x1,g⟩::r) env rs nx m K:=h
def tg8 (h:au Γ draw (⟨.bin .gtr x0 x1,g⟩::r) env rs nx m K):au Γ draw (⟨.bin .gtr x0 x1,g⟩::r) env rs nx m K:=h
def tg9 (h:au Γ draw (⟨.bin .neq x0 x1,g⟩::r) env rs nx m K):au Γ draw (⟨.bin .neq x0 x1,g⟩::r) env rs nx m K:=h
def tg10 (h:au Γ draw (⟨.bin .leq x0 x1,g⟩::r) env rs nx m K):au Γ draw (⟨.bin .leq x0 x1,g⟩::r) env rs nx m K:=h
def tg11 (h:au Γ draw (⟨.bin .geq x0 x1,g⟩::r) env rs nx m K):au Γ draw (⟨.bin .geq x0 x1,g⟩::r) env rs nx m K:=h
def tg12 (h:au Γ draw (⟨.bin .sub x0 x1,g⟩::r) env rs nx m K):au Γ draw (⟨.bin .sub x0 x1,g⟩::r) env rs nx m K:=h
def tg13 (h:au Γ draw (⟨.ext x0 n1,g⟩::r) env rs nx m K):au Γ draw (⟨.ext x0 n1,g⟩::r) env rs nx m K:=h
def tg14 (h:au Γ draw (⟨.pick x0 x1 (.c (.bool false)),g⟩::r) env rs nx m K):au Γ draw (⟨.pick x0 x1 (.c (.bool false)),g⟩::r) env rs nx m K:=h
def tg15 (h:au Γ draw (⟨.pick x0 (.c (.bool true)) x1,g⟩::r) env rs nx m K):au Γ draw (⟨.pick x0 (.c (.bool true)) x1,g⟩::r) env rs nx m K:=h
def tg16 (h:au Γ draw (⟨.un .not x0,g⟩::r) env rs nx m K):au Γ draw (⟨.un .not x0,g⟩::r) env rs nx m K:=h
def tg17 (h:au Γ draw (⟨.nilck x0,g⟩::r) env rs nx m K):au Γ draw (⟨.nilck x0,g⟩::r) env rs nx m K:=h
def tg18 (h:au Γ draw (⟨.box n0 x1,g⟩::r) env rs nx m K):au Γ draw (⟨.box n0 x1,g⟩::r) env rs nx m K:=h
def tg19 (h:au Γ draw (⟨.ia n0 x1 x2,g⟩::r) env rs nx m K):au Γ draw (⟨.ia n0 x1 x2,g⟩::r) env rs nx m K:=h
def tg20 (h:au Γ draw (⟨.ixS x0 x1,g⟩::r) env rs nx m K):au Γ draw (⟨.ixS x0 x1,g⟩::r) env rs nx m K:=h
def tg21 (h:au Γ draw (⟨.st n0 x1 x2,g⟩::r) env rs nx m K):au Γ draw (⟨.st n0 x1 x2,g⟩::r) env rs nx m K:=h
def tg22 (h:au Γ draw (⟨.len x0,g⟩::r) env rs nx m K):au Γ draw (⟨.len x0,g⟩::r) env rs nx m K:=h
def tg23 (h:au Γ draw (⟨.lenS x0,g⟩::r) env rs nx m K):au Γ draw (⟨.lenS x0,g⟩::r) env rs nx m K:=h
def tg24 (h:au Γ draw (⟨.rng x0,g⟩::r) env rs nx m K):au Γ draw (⟨.rng x0,g⟩::r) env rs nx m K:=h
def tg25 (h:au Γ draw (⟨.s2b x0,g⟩::r) env rs nx m K):au Γ draw (⟨.s2b x0,g⟩::r) env rs nx m K:=h
def tg26 (h:au Γ draw (⟨.mkB,g⟩::r) env rs nx m K):au Γ draw (⟨.mkB,g⟩::r) env rs nx m K:=h
def tg27 (h:au Γ draw (⟨.app n0 x1 x2,g⟩::r) env rs nx m K):au Γ draw (⟨.app n0 x1 x2,g⟩::r) env rs nx m K:=h
end
def ax {p q:Prop}(k:q)(h:Hid q rv→p:=by
 intro h;first
 |((with_reducible refine tg0 ?_);first|with_reducible exact ak h.1|with_reducible exact E7 h.1|with_reducible exact Ad h.1|with_reducible exact JM h.1|with_reducible exact CB h.1|with_reducible exact wp_ret h.1|with_reducible exact wp_skip h.1|with_reducible exact Ac h.1|with_reducible exact wp_exit h.1|with_reducible exact yF h.1 hm|with_reducible exact CA h.1 hm)
 |((with_reducible refine tg1 ?_);(refine r_mv ?_;exact h.1))
 |((with_reducible refine tg2 ?_);first|(refine rrrh ?_;exact h.1)|(refine rrrg ?_;exact h.1))
 |((with_reducible refine tg3 ?_);first|(refine LW ?_;exact h.1)|(refine LX ?_;exact h.1))
 |((with_reducible refine tg4 ?_);first|exact ch (.int _ _) h.1|exact ch (.str _) h.1|(refine ca (v:=.str _) ?_;exact h.1)|(refine gA (v:=.str _) ?_;exact h.1)|(refine ca (v:=.int _ _) ?_;exact h.1)|(refine gA (v:=.int _ _) ?_;exact h.1)|exact ch (.sl _ _) h.1|exact ch (.own _ _ _ _) h.1|exact ch (.bool _) h.1|(refine ca (v:=.sl _ _) ?_;exact h.1)|(refine gA (v:=.sl _ _) ?_;exact h.1)|(refine ca (v:=.bool _) ?_;exact h.1)|(refine gA (v:=.bool _) ?_;exact h.1)|exact cA h.1|exact ch .ar h.1)
 |((with_reducible refine tg5 ?_);first|(refine Js ?_;exact h.1)|(refine Jt ?_;exact h.1))
 |((with_reducible refine tg6 ?_);first|(refine Jj ?_;exact h.1)|(refine Jk ?_;exact h.1))
 |((with_reducible refine tg7 ?_);(refine GS ?_;exact h.1))
 |((with_reducible refine tg8 ?_);first|(refine zJ ?_;exact h.1)|(refine zK ?_;exact h.1))
 |((with_reducible refine tg9 ?_);first|(refine Ju ?_;exact h.1)|(refine Jv ?_;exact h.1))
 |((with_reducible refine tg10 ?_);first|(refine Jq ?_;exact h.1)|(refine Jr ?_;exact h.1))
 |((with_reducible refine tg11 ?_);first|(refine Jl ?_;exact h.1)|(refine Jm ?_;exact h.1))
 |((with_reducible refine tg12 ?_);(refine GV ?_;exact h.1))
 |((with_reducible refine tg13 ?_);first|exact fC (.int _ _) h.1|exact fC (.str _) h.1|exact fC (.bool _) h.1)
 |((with_reducible refine tg14 ?_);(refine LU ?_;exact h.1))
 |((with_reducible refine tg15 ?_);(refine r_or ?_;exact h.1))
 |((with_reducible refine tg16 ?_);(refine L1 ?_;exact h.1))
 |((with_reducible refine tg17 ?_);first|(refine Jw ?_;exact h.1)|(refine Jx ?_;exact h.1))
 |((with_reducible refine tg18 ?_);(refine LV ?_;exact h.1))
 |((with_reducible refine tg19 ?_);first|exact cE _ h.1|exact EB h.1|exact kC _ h.1|exact Jn h.1)
 |((with_reducible refine tg20 ?_);first|exact AL _ h.1|exact Jo h.1)
 |((with_reducible refine tg21 ?_);exact aF _ h.1)
 |((with_reducible refine tg22 ?_);first|exact EE fun a=>(h.1:_→_) (a rfl rfl)|exact EF fun a=>(h.1:_→_) (a rfl rfl)|(refine Jp ?_;exact h.1))
 |((with_reducible refine tg23 ?_);exact EG fun a=>(h.1:_→_) (a rfl rfl))
 |((with_reducible refine tg24 ?_);(refine L3 ?_;exact h.1))
 |((with_reducible refine tg25 ?_);(refine L4 ?_;exact h.1))
 |((with_reducible refine tg26 ?_);(refine LY ?_;exact h.1))
 |((with_reducible refine tg27 ?_);(refine gS ?_;exact h.1))
 |with_reducible exact BQ.normal h.1|with_reducible exact BQ.ret h.1|with_reducible exact LQ.normal h.1|with_reducible exact LQ.out h.1|with_reducible exact LQ.ret h.1|with_reducible exact BQ.out h.1|with_reducible exact yJ.normal h.1|with_reducible exact yJ.ret h.1|with_reducible exact yK.normal h.1|with_reducible exact yK.ret h.1|with_reducible exact yJ.out h.1|with_reducible exact yK.out h.1|with_reducible exact CQ.normal h.1|with_reducible exact CQ.ret h.1|with_reducible exact CQ.other h.1|((with_reducible refine BQ.other ?_ h.1);exact rfl)|((with_reducible refine LQ.other ?_ h.1);exact rfl)|((with_reducible refine yJ.other ?_ h.1);exact rfl)|((with_reducible refine yK.other ?_ h.1);exact rfl)):p:=h ⟨k⟩
def nr {p q:Prop}(k:q)(h:Hid q rv→p:=by intro h;first|exact EE fun _=>h.1|exact EG fun _=>h.1|exact EF fun _=>h.1):p:=h ⟨k⟩
section
variable {Γ:Ctx} {Q:Ex→List aW→St→Prop}
end
def hX:(∀{p:Prop} [Decidable p],(decide p=true)=p)∧(∀{p:Prop} [Decidable p],decide p=false↔¬p)∧(∀b:Bool,((!b)=true)=(b=false))∧(∀b:Bool,((!b)=false)=(b=true))∧(∀b:Bool,(¬(b=false))=(b=true))∧(∀a b:Bool,((a ||b)=true)=(a=true∨b=true))∧(∀{a b:Bool},(a ||b)=false↔a=false∧b=false)∧(∀a b:Bool,((a&&b)=true)=(a=true∧b=true))∧(∀{a b:Bool},(a&&b)=false↔a=false∨b=false)∧(∀b:Bool,(¬(b=true))=(b=false))∧(∀b:Bool,(true&&b)=b)∧∀b:Bool,(b&&true)=b:=
 ⟨decide_eq_true_eq,decide_eq_false_iff_not,Bool.not_eq_true',Bool.not_eq_false',Bool.not_eq_false,Bool.or_eq_true,Bool.or_eq_false_iff,Bool.and_eq_true,Bool.and_eq_false_iff,Bool.not_eq_true,Bool.true_and,Bool.and_true⟩
section
variable {Γ:Ctx} {Q:Ex→List aW→St→Prop} {env:List aW} {st:St}
def cI {c:Src}{a b r:AC}{t:Bool}{c1 c2:Prop}(h1:c1→bz Γ (.seq a r) Q env st)(h2:c2→bz Γ (.seq b r) Q env st)(hc:bB env [] c=⟨true,.bool t⟩:=by exact rfl)(e1:t=true→c1:=by intro h;(try simp only[hX]at h);exact h)(e2:t=false→c2:=by intro h;(try simp only[hX]at h);exact h):bz Γ (.seq (.cond c a b) r) Q env st:=aq (fun h=>h1 (e1 h)) (fun h=>h2 (e2 h)) hc
def fN {c:Src}{a b:AC}{t:Bool}{c1 c2:Prop}(h1:c1→bz Γ a Q env st)(h2:c2→bz Γ b Q env st)(hc:bB env [] c=⟨true,.bool t⟩:=by exact rfl)(e1:t=true→c1:=by intro h;(try simp only[hX]at h);exact h)(e2:t=false→c2:=by intro h;(try simp only[hX]at h);exact h):bz Γ (.cond c a b) Q env st:=wp_cond (fun h=>h1 (e1 h)) (fun h=>h2 (e2 h)) hc
end
end Go.Abs
namespace Go.Abs
def ay {p q:Prop}(k:q)(h:Hid q rv→p:=by intro h;(iterate 2 refine ax ?_);exact h.1):p:=h ⟨k⟩
def az {p q:Prop}(k:q)(h:Hid q rv→p:=by intro h;(iterate 3 refine ax ?_);exact h.1):p:=h ⟨k⟩
def aA {p q:Prop}(k:q)(h:Hid q rv→p:=by intro h;(iterate 4 refine ax ?_);exact h.1):p:=h ⟨k⟩
def aQ {p q:Prop}(k:q)(h:Hid q rv→p:=by intro h;(iterate 5 refine ax ?_);exact h.1):p:=h ⟨k⟩
def aT {p q:Prop}(k:q)(h:Hid q rv→p:=by intro h;(iterate 6 refine ax ?_);exact h.1):p:=h ⟨k⟩
def ba {p q:Prop}(k:q)(h:Hid q rv→p:=by intro h;(iterate 7 refine ax ?_);exact h.1):p:=h ⟨k⟩
def bY {p q:Prop}(k:q)(h:Hid q rv→p:=by intro h;(iterate 8 refine ax ?_);exact h.1):p:=h ⟨k⟩
def dp {p q:Prop}(k:q)(h:Hid q rv→p:=by intro h;(iterate 9 refine ax ?_);exact h.1):p:=h ⟨k⟩
def jB {p q:Prop}(k:q)(h:Hid q rv→p:=by intro h;(iterate 10 refine ax ?_);exact h.1):p:=h ⟨k⟩
def fG {p q:Prop}(k:q)(h:Hid q rv→p:=by intro h;(iterate 11 refine ax ?_);exact h.1):p:=h ⟨k⟩
def ix {p q:Prop}(k:q)(h:Hid q rv→p:=by intro h;(iterate 12 refine ax ?_);exact h.1):p:=h ⟨k⟩
def lv {p q:Prop}(k:q)(h:Hid q rv→p:=by intro h;(iterate 13 refine ax ?_);exact h.1):p:=h ⟨k⟩
def vy {p q:Prop}(k:q)(h:Hid q rv→p:=by intro h;(iterate 14 refine ax ?_);exact h.1):p:=h ⟨k⟩
def yI {p q:Prop}(k:q)(h:Hid q rv→p:=by intro h;(iterate 15 refine ax ?_);exact h.1):p:=h ⟨k⟩
def vz {p q:Prop}(k:q)(h:Hid q rv→p:=by intro h;(iterate 16 refine ax ?_);exact h.1):p:=h ⟨k⟩
def Fb {p q:Prop}(k:q)(h:Hid q rv→p:=by intro h;(iterate 17 refine ax ?_);exact h.1):p:=h ⟨k⟩
def HO {p q:Prop}(k:q)(h:Hid q rv→p:=by intro h;(iterate 18 refine ax ?_);exact h.1):p:=h ⟨k⟩
def Mg {p q:Prop}(k:q)(h:Hid q rv→p:=by intro h;(iterate 24 refine ax ?_);exact h.1):p:=h ⟨k⟩
def HP {p q:Prop}(k:q)(h:Hid q rv→p:=by intro h;(iterate 25 refine ax ?_);exact h.1):p:=h ⟨k⟩
def Mh {p q:Prop}(k:q)(h:Hid q rv→p:=by intro h;(iterate 26 refine ax ?_);exact h.1):p:=h ⟨k⟩
def Fc {p q:Prop}(k:q)(h:Hid q rv→p:=by intro h;(iterate 28 refine ax ?_);exact h.1):p:=h ⟨k⟩
def HQ {p q:Prop}(k:q)(h:Hid q rv→p:=by intro h;(iterate 36 refine ax ?_);exact h.1):p:=h ⟨k⟩
end Go.Abs
namespace Go.Abs
abbrev s0:Src:=.s 0
abbrev s1:Src:=.s 1
abbrev s2:Src:=.s 2
abbrev s3:Src:=.s 3
abbrev s4:Src:=.s 4
abbrev s5:Src:=.s 5
abbrev s6:Src:=.s 6
abbrev s7:Src:=.s 7
abbrev s8:Src:=.s 8
abbrev s9:Src:=.s 9
abbrev lr:Src:=.s 10
abbrev oo:Src:=.s 11
abbrev m6:Src:=.s 12
abbrev tk:Src:=.s 13
abbrev rN:Src:=.s 14
abbrev uT:Src:=.s 15
abbrev AW:Src:=.s 16
abbrev wM:Src:=.s 17
abbrev Cm:Src:=.s 18
abbrev JB:Src:=.s 19
abbrev Fi:Src:=.s 20
abbrev s21:Src:=.s 21
abbrev s22:Src:=.s 22
abbrev s23:Src:=.s 23
abbrev JW:Src:=.s 24
abbrev JX:Src:=.s 25
abbrev L5:Src:=.s 26
abbrev s27:Src:=.s 27
abbrev s28:Src:=.s 28
abbrev s29:Src:=.s 29
abbrev HI:Src:=.s 30
abbrev s31:Src:=.s 31
abbrev s32:Src:=.s 32
abbrev s33:Src:=.s 33
abbrev s34:Src:=.s 34
abbrev s35:Src:=.s 35
abbrev s36:Src:=.s 36
abbrev s37:Src:=.s 37
abbrev s38:Src:=.s 38
abbrev l0:Src:=.l 0
abbrev l1:Src:=.l 1
abbrev l2:Src:=.l 2
abbrev l3:Src:=.l 3
abbrev l4:Src:=.l 4
abbrev l5:Src:=.l 5
abbrev l6:Src:=.l 6
abbrev l7:Src:=.l 7
abbrev l8:Src:=.l 8
abbrev l9:Src:=.l 9
abbrev l10:Src:=.l 10
abbrev jK:Src:=.l 11
abbrev ll:Src:=.l 12
abbrev nn:Src:=.l 13
abbrev nX:Src:=.l 14
abbrev pk:Src:=.l 15
abbrev rE:Src:=.l 16
abbrev wL:Src:=.l 17
abbrev xF:Src:=.l 18
abbrev zp:Src:=.l 19
abbrev BM:Src:=.l 20
abbrev CI:Src:=.l 21
abbrev Fh:Src:=.l 22
abbrev IV:Src:=.l 23
abbrev IW:Src:=.l 24
abbrev IX:Src:=.l 25
abbrev JT:Src:=.l 26
abbrev LJ:Src:=.l 27
abbrev LK:Src:=.l 28
abbrev LL:Src:=.l 29
abbrev l30:Src:=.l 30
abbrev l31:Src:=.l 31
abbrev l32:Src:=.l 32
abbrev l33:Src:=.l 33
abbrev l34:Src:=.l 34
abbrev gm (x:Src):GI:=⟨.mv x,none⟩
abbrev gn (x:aw):GI:=⟨x,none⟩
abbrev i6 (n:Int):Src:=.c (.int .i64 n)
abbrev cs (s:List UInt8):Src:=.c (.str s)
abbrev gd (x:Src):GI:=⟨.ld 1 false x,none⟩
abbrev gk (n:Nat)(b:Bool)(x:Src):GI:=⟨.ld n b x,none⟩
abbrev gf (n:Nat)(x:Src):GI:=⟨.fa n x,none⟩
abbrev gl (x:Src):GI:=⟨.len x,none⟩
abbrev ga (n:Nat)(x y:Src):GI:=⟨.ia n x y,none⟩
abbrev ge (x:Src)(n:Nat):GI:=⟨.ext x n,none⟩
abbrev gb (n:Nat)(x:Src):GI:=⟨.box n x,none⟩
abbrev gc (x:Src):GI:=⟨.nilck x,none⟩
abbrev gt (n:Nat)(x y:Src):GI:=⟨.st n x y,none⟩
abbrev gx (n:Nat)(x:List Src)(y:List (List Sh)):GI:=⟨.call n x y,none⟩
abbrev rg (x:List GI)(y:List (Nat×Nat)):AC:=.reg false x y
abbrev rt (x:List GI)(y:List (Nat×Nat)):AC:=.reg true x y
abbrev ov (x y:Src):aw:=.bin .lss x y
abbrev cQ (x y:Src):aw:=.bin .eql x y
abbrev wY (x y:Src):aw:=.bin .add x y
abbrev dh (x y:Src):aw:=.bin .gtr x y
abbrev eR (x y:Src):aw:=.bin .neq x y
abbrev lK (x y:Src):aw:=.bin .leq x y
abbrev wZ (x y:Src):aw:=.bin .geq x y
abbrev lL (x y:Src):aw:=.bin .sub x y
abbrev C3 (x y:Src):aw:=.bin .and x y
abbrev dx:Src:=.c (.bool false)
abbrev tK:Src:=.c (.bool true)
abbrev cse:Src:=.c (.str [])
abbrev bD:Src:=.c (.int .i64 0)
abbrev b8:Src:=.c (.int .i64 1)
abbrev kp:Src:=.c (.int .i64 2)
abbrev kd:Src:=.c (.int .i64 3)
abbrev tF:Src:=.c (.int .i64 4)
abbrev Av:Src:=.c (.int .i64 5)
abbrev zm:Src:=.c (.int .i64 6)
abbrev IM:Src:=.c (.int .i64 7)
abbrev Gc:Src:=.c (.int .i64 8)
abbrev Aw:Src:=.c (.int .i64 9)
abbrev gmt (n:Nat)(x:Src):GI:=⟨.mv x,some (n,true)⟩
abbrev ph (n:Nat)(x:Src):GI:=⟨.ld 1 false x,some (n,true)⟩
abbrev rC (n o:Nat)(x:Src):GI:=⟨.fa o x,some (n,true)⟩
abbrev cH (n:Nat)(x:aw):GI:=⟨x,some (n,true)⟩
abbrev eV (n:Nat)(x:Src):GI:=⟨.mv x,some (n,false)⟩
abbrev lB (n:Nat)(x:Src):GI:=⟨.ld 1 false x,some (n,false)⟩
abbrev ko (n o:Nat)(x:Src):GI:=⟨.fa o x,some (n,false)⟩
abbrev cx (n:Nat)(x:aw):GI:=⟨x,some (n,false)⟩
abbrev sq (a b:AC):AC:=.seq a b
abbrev zk (x:Src):AC:=.seq (.reg false [⟨.mv x,none⟩] [(1,0)]) .ret
abbrev ny (c x:Src):AC:=.cond c (.seq (.reg false [⟨.mv x,none⟩] [(1,0)]) .ret) .skip
abbrev cr:List (List Sh):=[[.a]]
abbrev IJ:List (List Sh):=[[.a,.a,.a,.a,.a]]
abbrev IK:List (List Sh):=[[.a,.a,.a,.a,.a,.a,.a]]
abbrev iK:List (List Sh):=[[.a],[.a]]
abbrev LD:List (List Sh):=[[.a],[.a],[.a]]
abbrev fI (c x:Src):GI:=⟨.pick c (.c (.bool true)) x,none⟩
abbrev gy (c x:Src):GI:=⟨.pick c x (.c (.bool false)),none⟩
abbrev JQ (n:Nat)(c x:Src):GI:=⟨.pick c (.c (.bool true)) x,some (n,true)⟩
abbrev CH (n:Nat)(c x:Src):GI:=⟨.pick c x (.c (.bool false)),some (n,false)⟩
abbrev aV (x y:Src):GI:=⟨.bin .lss x y,none⟩
abbrev aE (x y:Src):GI:=⟨.bin .eql x y,none⟩
abbrev av (x y:Src):GI:=⟨.bin .add x y,none⟩
abbrev dz (x y:Src):GI:=⟨.bin .gtr x y,none⟩
abbrev ct (x y:Src):GI:=⟨.bin .neq x y,none⟩
abbrev DV (x y:Src):GI:=⟨.bin .leq x y,none⟩
abbrev gM (x y:Src):GI:=⟨.bin .geq x y,none⟩
abbrev ff (x y:Src):GI:=⟨.bin .sub x y,none⟩
abbrev iS (c:Src)(n:Nat):AC:=.cond c .skip (.exit n)
abbrev i8 (n:Int):Src:=.c (.int .u8 n)
abbrev i3 (n:Int):Src:=.c (.int .i32 n)
abbrev iu (n:Int):Src:=.c (.int .u64 n)
abbrev wK (x:Src):GI:=⟨.lenS x,none⟩
abbrev om (x:Src):GI:=⟨.un .not x,none⟩
abbrev F5 (x y:Src):GI:=⟨.ixS x y,none⟩
abbrev r1 (x:List GI)(a b:Nat):AC:=.reg false x [(a,b)]
abbrev r2 (x:List GI)(a b:Nat):AC:=.reg true x [(a,b)]
abbrev j5:List yN:=[⟨1,none⟩]
end Go.Abs
end
section
namespace Go.Abs
open Go
def Ch:aB:=⟨2,7,[⟨2,none⟩],cr,(sq (r1 [gm cse] 2 0) (sq (r1 [gm cse] 6 0) (sq (sq (r1 [gm bD] 3 0) (.block 0 (.loop (sq (sq (r1 [gm s3,gm s0,gl l1,aV l0 l2] 4 3) (iS s4 0)) (sq (.block 1 (sq (sq (r1 [gm s3,dz l0 bD] 5 1) (.cond s5 (r1 [gm s6,gm s1,gn (.bsl 1 (.int .u8 0) 1 [(0,l1)]),gn (.b2s l2),av l0 l3,gm l4] 6 5) .skip)) (r1 [gm s6,gm s0,gm s3,ga 1 l1 l2,gd l3,av l0 l4,gm l5] 6 6))) (r1 [gm s3,av l0 b8,gm l1] 3 2)))))) (sq (r1 [gm s6,gm l0] 2 1) .ret))))⟩
def w249 {Γ:Ctx}(hm:(Γ.at 0).bp)  (l:List ah)(x:UInt8)  (hp0:(aO [x] l).length≤1099511627776):ef Γ Ch (.str (aO [x] l)) [.sl 1 (l.map D.str),.int .u8 (x.toNat:Nat)]:=by
 show bz _ _ _ [⟨_,_⟩,⟨_,_⟩,_,_,_,_,_] _;refine ak ?_;refine dp ?_;refine br hm (ι:=Nat) (fun i=>[⟨true,.sl 1 (l.map D.str)⟩,⟨true,.int .u8 (x.toNat:Nat)⟩,.un,⟨true,.int .i64 (i:Nat)⟩,.un,.un,⟨true,.str (aO [x] (l.take i))⟩]) (fun i=>[]) 3 (fun i=>i≤l.length) (fun i=>l.length-i) 0 (by omega) (ek []) ?_;intro i hi;refine aQ ?_;intro u0;refine ay ?_;refine cI (fun hc0=>?_) fun hc0=>?_
 ·refine aA ?_;have hj:=uB [x] l (i+1);refine az ?_;refine aq (fun hc1=>?_) (fun hc1=>?_)
  ·simp only[decide_eq_true_eq]at hc1;have ht:=nW [x] l i (by omega);rw[if_pos (by omega)]at ht;have htl:=congrArg List.length ht;simp only[List.length_append,List.length_singleton]at htl;refine az ?_;refine cg [.int .u8 _] ?_;refine Ez [x] (he:=fun _=>qn.all ae rfl) (hs:=fun _=>rfl) ?_;refine cS (hb:=fun _=>by simp only[List.length_singleton];omega) ?_;refine bY ?_;refine cS (hb:=fun _=>by first|(simp only[List.length_append,List.length_singleton];omega)|(subst hi0;simp only[List.take_zero,aO,List.length_nil]at htl⊢;omega)) ?_;refine dp ?_;exact⟨i+1,(by omega),by omega,(aL.to [] ae ae (by repeat(first|exact cV.nil|refine cV.un ?_|refine cV.eq ae ?_|refine cV.nl (congrArg D.str (by rw[ht])) ae ?_)) x7)⟩
  simp only[decide_eq_false_iff_not]at hc1;have ht:=nW [x] l i (by omega);rw[if_neg (by omega)]at ht;have htl:=congrArg List.length ht;simp only[List.length_append,List.length_nil]at htl;have hi0:i=0:=by omega
  refine ba ?_;refine cS (hb:=fun _=>by first|(simp only[List.length_append,List.length_singleton];omega)|(subst hi0;simp only[List.take_zero,aO,List.length_nil]at htl⊢;omega)) ?_;refine dp ?_;exact⟨i+1,(by omega),by omega,(aL.to [] ae ae (by repeat(first|exact cV.nil|refine cV.un ?_|refine cV.eq ae ?_|refine cV.nl (congrArg D.str (by rw[ht];subst hi0;rfl)) ae ?_)) x7)⟩
 refine ba ?_;refine cq ?_;rw[List.take_of_length_le (by omega)]
def Kd (Γ:Ctx):Prop:=∀(l:List ah)(x:UInt8),((aO [x] l).length≤1099511627776)→Γ.pre 249 [.sl 1 (l.map D.str),.int .u8 (x.toNat:Nat)]∧Γ.val 249 [.sl 1 (l.map D.str),.int .u8 (x.toNat:Nat)]=.str (aO [x] l)
def tN:aB:=⟨1,5,j5,cr,(sq (r1 [gm dx] 1 0) (sq (sq (r1 [gm b8] 2 0) (.block 0 (.loop (sq (sq (r1 [gm s2,gm s0,gl l1,aV l0 l2] 3 3) (iS s3 0)) (sq (.block 1 (sq (r2 [gm s0,gm s2,ff l1 b8,ga 1 l0 l2,gd l3,gm s0,gm s2,ga 1 l5 l6,gd l7,gM l4 l8] 4 9) (ny s4 dx))) (r1 [gm s2,av l0 b8,gm l1] 2 2)))))) (zk tK)))⟩
def w447 {Γ:Ctx}(hm:(Γ.at 0).bp)  (l:List ah)   :ef Γ tN (.bool (rising l)) [.sl 1 (l.map D.str)]:=by
 show bz _ _ _ [⟨_,_⟩,_,_,_,_] _;refine ak ?_;refine aT ?_;refine br hm (ι:=Nat) (fun i=>[⟨true,.sl 1 (l.map D.str)⟩,.un,⟨true,.int .i64 (i:Nat)⟩,.un,.un]) (fun i=>[]) 2 (fun i=>1≤i∧(i≤l.length∨i=1)∧rising l=cj (fun i=>Op.bytesLess l[i-1]! l[i]!) i l.length) (fun i=>l.length-i) 1 ⟨by omega,by omega,rfl⟩ (ek []) ?_;rintro i ⟨h1,hi,hr⟩;refine aQ ?_;intro u0;refine ay ?_;refine cI (fun hc0=>?_) fun hc0=>?_
 ·refine aT ?_;refine cE (i-1) ?_;refine ba ?_;refine wp_cond (fun hc1=>?_) (fun hc1=>?_)
  ·simp only[Bool.not_eq_true']at hc1;refine aT ?_;refine bL ?_;rw[hr,aK (by omega),hc1];rfl
  simp only[Bool.not_eq_false']at hc1;refine bY ?_;exact⟨i+1,⟨by omega,by omega,by rw[hr,aK (by omega),hc1];rfl⟩,by omega,(ek [])⟩
 refine aT ?_;refine bL ?_;rw[hr,bW (by omega)]
def Km (Γ:Ctx):Prop:=∀(l:List ah),Γ.pre 447 [.sl 1 (l.map D.str)]∧Γ.val 447 [.sl 1 (l.map D.str)]=.bool (rising l)
end Go.Abs
end
section
namespace Go.Abs
open Go
def zo:aB:=⟨1,8,j5,cr,(sq (r1 [gm dx] 1 0) (sq (sq (r1 [gm s0,aE l0 cse,gm l1,eV 2 s0,cx 2 (.lenS l3),cx 2 (dh l4 (i6 12)),fI l2 l5] 2 6) (ny s2 dx)) (sq (sq (r1 [gm s0,gn (.rng l0)] 3 1) (.block 0 (.loop (sq (rg [gn (.tG s3),ge l0 0] [(5,0),(4,1)]) (sq (iS s4 0) (.block 1 (sq (r1 [ge s5 2,gm l0] 6 1) (.block 2 (sq (sq (r1 [gm s6,gM l0 (i3 97),gm l1,gmt 2 s6,cH 2 (lK l3 (i3 122)),gy l2 l4,gm l5] 7 6) (.cond s7 .skip (sq (r1 [gm s6,gM l0 (i3 48),gm l1,gmt 2 s6,cH 2 (lK l3 (i3 57)),gy l2 l4,gm l5] 7 6) (.cond s7 .skip (r1 [gm s6,aE l0 (i3 95),gm l1] 7 2))))) (.cond s7 .skip (zk dx))))))))))) (zk tK))))⟩
def w349 {Γ:Ctx}(hm:(Γ.at 0).bp)  (s:ah)   :ef Γ zo (.bool (bI s)) [.str s]:=by
 show bz _ _ _ [⟨_,_⟩,_,_,_,_,_,_,_] _;refine ak ?_;refine bY ?_;refine nr ?_;refine az ?_;refine cI (fun hc0=>?_) fun hc0=>?_
 ·refine aQ ?_;refine bL ?_;symm;simp only[bI,Bool.and_eq_false_iff,decide_eq_false_iff_not];rcases hc0 with h|h
  ·subst h;exact Or.inl (Or.inl (by simp))
  ·exact Or.inl (by omega)
 refine aT ?_;have hP:bI s=cj (fun i=>vj (at8 s i)) 0 s.length:=by
  have:=List.length_pos_iff.2 hc0.1;simp only[bI];rw[decide_eq_true (by omega),decide_eq_true (by omega)];rfl
 refine br hm (ι:=Nat) (fun i=>[⟨true,.str s⟩,.un,.un,⟨true,.it 9⟩,.un,.un,.un,.un]) (fun i=>[(9,.iter s i)]) 10 (fun i=>i≤s.length∧bI s=cj (fun i=>vj (at8 s i)) i s.length) (fun i=>s.length-i) 0 ⟨by omega,hP⟩ (ek [(9,9)]) ?_;rintro i ⟨hi,hr⟩;refine ax ?_;by_cases hnx:i<s.length
 ·obtain⟨c,w,hdec,hw,hcw⟩:=oE s i hnx;refine wo c w (hp:=hnx) (hc:=hdec) ?_;refine ay ?_;refine aq (t:=true) (fun _=>?_) (fun h=>by cases h);refine Fb ?_;refine cI (fun hc2=>?_) fun hc2=>?_
  ·refine ax ?_;refine fN (fun hc4=>?_) fun hc4=>?_
   ·refine aA ?_;obtain⟨rfl,hat,-⟩:w=1∧(c:Int)=at8 s i∧c<128:=by
     rcases hcw with h|h
     ·exact h
     ·omega
    have hz:vj (at8 s i)=true:=by
     simp only[vj,fJ,aM,Bool.or_eq_true,Bool.and_eq_true,decide_eq_true_eq];omega
    exact⟨i+1,⟨by omega,by rw[hr,aK hnx,hz];rfl⟩,by omega,(ek [(9,9)])⟩
   refine ba ?_;refine bL ?_;first
    |(exfalso;omega)
    |(rw[hr,bW (by omega)];done)
    |(
     have hz:vj (at8 s i)=false:=by
      rcases hcw with⟨_,h,_⟩|⟨_,h⟩<;>(simp only[vj,fJ,aM,Bool.or_eq_false_iff,Bool.and_eq_false_iff,decide_eq_false_iff_not];omega)
     rw[hr,aK hnx,hz];rfl)
  refine jB ?_;refine cI (fun hc3=>?_) fun hc3=>?_
  ·refine ax ?_;refine fN (fun hc4=>?_) fun hc4=>?_
   ·refine aA ?_;obtain⟨rfl,hat,-⟩:w=1∧(c:Int)=at8 s i∧c<128:=by
     rcases hcw with h|h
     ·exact h
     ·omega
    have hz:vj (at8 s i)=true:=by
     simp only[vj,fJ,aM,Bool.or_eq_true,Bool.and_eq_true,decide_eq_true_eq];omega
    exact⟨i+1,⟨by omega,by rw[hr,aK hnx,hz];rfl⟩,by omega,(ek [(9,9)])⟩
   refine ba ?_;refine bL ?_;first
    |(exfalso;omega)
    |(rw[hr,bW (by omega)];done)
    |(
     have hz:vj (at8 s i)=false:=by
      rcases hcw with⟨_,h,_⟩|⟨_,h⟩<;>(simp only[vj,fJ,aM,Bool.or_eq_false_iff,Bool.and_eq_false_iff,decide_eq_false_iff_not];omega)
     rw[hr,aK hnx,hz];rfl)
  refine aQ ?_;refine fN (fun hc4=>?_) fun hc4=>?_
  ·refine aA ?_;obtain⟨rfl,hat,-⟩:w=1∧(c:Int)=at8 s i∧c<128:=by
    rcases hcw with h|h
    ·exact h
    ·omega
   have hz:vj (at8 s i)=true:=by
    simp only[vj,fJ,aM,Bool.or_eq_true,Bool.and_eq_true,decide_eq_true_eq];omega
   exact⟨i+1,⟨by omega,by rw[hr,aK hnx,hz];rfl⟩,by omega,(ek [(9,9)])⟩
  refine ba ?_;refine bL ?_;first
   |(exfalso;omega)
   |(rw[hr,bW (by omega)];done)
   |(
    have hz:vj (at8 s i)=false:=by
     rcases hcw with⟨_,h,_⟩|⟨_,h⟩<;>(simp only[vj,fJ,aM,Bool.or_eq_false_iff,Bool.and_eq_false_iff,decide_eq_false_iff_not];omega)
    rw[hr,aK hnx,hz];rfl)
 ·refine wm (hp:=hnx) ?_;refine ay ?_;refine aq (t:=false) (fun h=>by cases h) (fun _=>?_);refine aT ?_;refine bL ?_;first
   |(exfalso;omega)
   |(rw[hr,bW (by omega)];done)
   |(
    have hz:vj (at8 s i)=false:=by
     rcases hcw with⟨_,h,_⟩|⟨_,h⟩<;>(simp only[vj,fJ,aM,Bool.or_eq_false_iff,Bool.and_eq_false_iff,decide_eq_false_iff_not];omega)
    rw[hr,aK hnx,hz];rfl)
def yO (Γ:Ctx):Prop:=∀(s:ah),Γ.pre 349 [.str s]∧Γ.val 349 [.str s]=.bool (bI s)
def zn:aB:=⟨1,13,j5,cr,(sq (r1 [gm dx] 1 0) (sq (sq (r1 [gm s0,aE l0 cse,gm l1,eV 2 s0,cx 2 (.lenS l3),cx 2 (dh l4 (i6 16)),fI l2 l5] 2 6) (ny s2 dx)) (sq (sq (r1 [gm s0,gn (.rng l0)] 3 1) (.block 0 (.loop (sq (rg [gn (.tG s3),ge l0 0] [(5,0),(4,1)]) (sq (iS s4 0) (.block 1 (sq (rg [ge s5 1,ge s5 2,gm l0,gm l1] [(9,2),(6,3)]) (.block 2 (sq (r1 [gm s6,gM l0 (i3 97),gm l1,gmt 2 s6,cH 2 (lK l3 (i3 122)),gy l2 l4,gm l5] 7 6) (.cond s7 .skip (sq (r1 [gm s6,gM l0 (i3 48),gm l1,gmt 2 s6,cH 2 (lK l3 (i3 57)),gy l2 l4,gm l5] 8 6) (.cond s8 (sq (r1 [gm s9,aE l0 bD] 10 1) (ny lr dx)) (sq (r1 [gm s6,aE l0 (i3 45),gm l1] 11 2) (.cond oo (sq (r1 [gm s9,aE l0 bD,gm l1,eV 2 s9,eV 2 s0,cx 2 (.lenS l4),cx 2 (lL l5 b8),cx 2 (cQ l3 l6),fI l2 l7,gm l8,eV 9 s0,eV 9 s9,cx 9 (lL jK b8),cx 9 (.ixS l10 ll),cx 9 (cQ nn (i8 45)),fI l9 nX] 12 15) (ny m6 dx)) (zk dx))))))))))))))) (zk tK))))⟩
def w208 {Γ:Ctx}(hm:(Γ.at 0).bp)  (s:ah)   :ef Γ zn (.bool (ei s)) [.str s]:=by
 show bz _ _ _ [⟨_,_⟩,_,_,_,_,_,_,_,_,_,_,_,_] _;refine ak ?_;refine bY ?_;refine nr ?_;refine az ?_;refine cI (fun hc0=>?_) fun hc0=>?_
 ·refine aQ ?_;refine bL ?_;symm;simp only[ei];rcases hc0 with h|h
  ·subst h;simp
  ·rw[decide_eq_false (by omega:¬s.length≤16)];simp
 refine aT ?_;have h0:=List.length_pos_iff.2 hc0.1;have hP:=Gw s (by omega) (by omega);refine br hm (ι:=Nat) (fun i=>[⟨true,.str s⟩,.un,.un,⟨true,.it 9⟩,.un,.un,.un,.un,.un,.un,.un,.un,.un]) (fun i=>[(9,.iter s i)]) 10 (fun i=>i≤s.length∧ei s=cj (j3 s) i s.length) (fun i=>s.length-i) 0 ⟨by omega,hP⟩ (ek [(9,9)]) ?_;rintro i ⟨hi,hr⟩;refine ax ?_;by_cases hnx:i<s.length
 ·obtain⟨c,w,hdec,hw,hcw⟩:=oE s i hnx;refine wo c w (hp:=hnx) (hc:=hdec) ?_;refine ay ?_;refine aq (t:=true) (fun _=>?_) (fun h=>by cases h);refine HO ?_;refine fN (fun hc2=>?_) fun hc2=>?_
  ·refine aA ?_;obtain⟨rfl,hat,-⟩:w=1∧(c:Int)=at8 s i∧c<128:=by
    rcases hcw with h|h
    ·exact h
    ·omega
   have hz:j3 s i=true:=by
    simp only[j3,fJ,aM,Bool.or_eq_true,Bool.and_eq_true,Bool.not_eq_true',decide_eq_true_eq,decide_eq_false_iff_not];omega
   exact⟨i+1,⟨by omega,by rw[hr,aK hnx,hz];rfl⟩,by omega,(ek [(9,9)])⟩
  refine dp ?_;refine fN (fun hc3=>?_) fun hc3=>?_
  ·refine aA ?_;refine fN (fun hc4=>?_) fun hc4=>?_
   ·refine ba ?_;refine bL ?_;first
     |(exfalso;omega)
     |(rw[hr,bW (by omega)];done)
     |(have hz:j3 s i=false:=by
        rcases hcw with⟨_,h,_⟩|⟨_,h⟩<;>(simp only[j3,fJ,aM,Bool.or_eq_false_iff,Bool.and_eq_false_iff,Bool.not_eq_false',decide_eq_true_eq,decide_eq_false_iff_not];omega)
       rw[hr,aK hnx,hz];rfl)
   refine aA ?_;obtain⟨rfl,hat,-⟩:w=1∧(c:Int)=at8 s i∧c<128:=by
    rcases hcw with h|h
    ·exact h
    ·omega
   have hz:j3 s i=true:=by
    simp only[j3,fJ,aM,Bool.or_eq_true,Bool.and_eq_true,Bool.not_eq_true',decide_eq_true_eq,decide_eq_false_iff_not];omega
   exact⟨i+1,⟨by omega,by rw[hr,aK hnx,hz];rfl⟩,by omega,(ek [(9,9)])⟩
  refine aQ ?_;refine fN (fun hc5=>?_) fun hc5=>?_
  ·refine aT ?_;refine nr ?_;refine ba ?_;refine AL (i-1) ?_;refine az ?_;refine fN (fun hc6=>?_) fun hc6=>?_
   ·refine ba ?_;refine bL ?_;first
     |(exfalso;omega)
     |(rw[hr,bW (by omega)];done)
     |(have hz:j3 s i=false:=by
        rcases hcw with⟨_,h,_⟩|⟨_,h⟩<;>(simp only[j3,fJ,aM,Bool.or_eq_false_iff,Bool.and_eq_false_iff,Bool.not_eq_false',decide_eq_true_eq,decide_eq_false_iff_not];omega)
       rw[hr,aK hnx,hz];rfl)
   refine aA ?_;obtain⟨rfl,hat,-⟩:w=1∧(c:Int)=at8 s i∧c<128:=by
    rcases hcw with h|h
    ·exact h
    ·omega
   have hz:j3 s i=true:=by
    simp only[j3,fJ,aM,Bool.or_eq_true,Bool.and_eq_true,Bool.not_eq_true',decide_eq_true_eq,decide_eq_false_iff_not];omega
   exact⟨i+1,⟨by omega,by rw[hr,aK hnx,hz];rfl⟩,by omega,(ek [(9,9)])⟩
  refine ba ?_;refine bL ?_;first
   |(exfalso;omega)
   |(rw[hr,bW (by omega)];done)
   |(have hz:j3 s i=false:=by
      rcases hcw with⟨_,h,_⟩|⟨_,h⟩<;>(simp only[j3,fJ,aM,Bool.or_eq_false_iff,Bool.and_eq_false_iff,Bool.not_eq_false',decide_eq_true_eq,decide_eq_false_iff_not];omega)
     rw[hr,aK hnx,hz];rfl)
 ·refine wm (hp:=hnx) ?_;refine ay ?_;refine aq (t:=false) (fun h=>by cases h) (fun _=>?_);refine aT ?_;refine bL ?_;first
   |(exfalso;omega)
   |(rw[hr,bW (by omega)];done)
   |(have hz:j3 s i=false:=by
      rcases hcw with⟨_,h,_⟩|⟨_,h⟩<;>(simp only[j3,fJ,aM,Bool.or_eq_false_iff,Bool.and_eq_false_iff,Bool.not_eq_false',decide_eq_true_eq,decide_eq_false_iff_not];omega)
     rw[hr,aK hnx,hz];rfl)
def Fm (Γ:Ctx):Prop:=∀(s:ah),Γ.pre 208 [.str s]∧Γ.val 208 [.str s]=.bool (ei s)
def vS:aB:=⟨1,10,[⟨1,none⟩,⟨2,none⟩],iK,(sq (rg [gm bD,gm dx] [(1,0),(2,1)]) (sq (sq (r1 [gm s0,aE l0 cse,gm l1,eV 2 s0,cx 2 (.lenS l3),cx 2 (dh l4 tF),fI l2 l5,gm l6,eV 7 s0,cx 7 (.ixS l8 bD),cx 7 (cQ l9 (i8 48)),eV 7 l10,gmt 11 s0,cH 11 (.lenS ll),cH 11 (dh nn b8),CH 7 jK nX,fI l7 pk] 3 16) (.cond s3 (sq (rg [gm bD,gm dx] [(1,0),(2,1)]) .ret) .skip)) (sq (r1 [gm bD] 9 0) (sq (sq (r1 [gm s0,gn (.rng l0)] 4 1) (.block 0 (.loop (sq (rg [gn (.tG s4),ge l0 0] [(6,0),(5,1)]) (sq (iS s5 0) (.block 1 (sq (r1 [ge s6 2,gm l0] 7 1) (.block 2 (sq (r1 [gm s7,gM l0 (i3 48),gm l1,gmt 2 s7,cH 2 (lK l3 (i3 57)),gy l2 l4,gm l5] 8 6) (.cond s8 (r1 [gm s9,gn (.bin .mul (i6 10) l0),gm s7,ff l2 (i3 48),gn (.cvi .i64 l3),av l1 l4,gm l5] 9 6) (sq (rg [gm bD,gm dx] [(1,0),(2,1)]) .ret))))))))))) (sq (rg [gm s9,gm s9,DV l1 (i6 9999),gm l0,gm l2] [(1,3),(2,4)]) .ret)))))⟩
def w658 {Γ:Ctx}(hm:(Γ.at 0).bp)  (s:ah)   :ef Γ vS (.tup [.int .i64 (cT s),.bool (dM s)]) [.str s]:=by
 show bz _ _ _ [⟨_,_⟩,_,_,_,_,_,_,_,_,_] _;refine ak ?_;refine dp ?_;refine nr ?_;refine aA ?_;refine AL 0 (hb:=fun h=>by simp at h;exact List.length_pos_iff.2 h.1) ?_;refine az ?_;refine nr ?_;refine aA ?_;refine cI (fun hc0=>?_) fun hc0=>?_
 ·refine aT ?_;refine b7 (aR (congrArg (D.int .i64) ?_) (congrArg D.bool ?_));all_goals
   have:dM s=false:=by
    rw[zE];rcases hc0 with(h|h)|h
    ·subst h;simp
    ·rw[decide_eq_false (by omega:¬s.length≤4)];simp
    ·rw[decide_eq_true (by omega:1<s.length),decide_eq_true h.1];simp
   simp[cT,this]
 refine dp ?_;have h0:=List.length_pos_iff.2 hc0.1.1;have hP:dM s=cj (fun i=>aM (at8 s i)) 0 s.length:=by
  rw[zE,decide_eq_true (by omega:1≤s.length),decide_eq_true (by omega:s.length≤4)];rcases hc0.2 with h|h
  ·rw[decide_eq_false h,Bool.and_false];rfl
  ·rw[decide_eq_false (by omega:¬1<s.length)];rfl
 refine br hm (ι:=Nat) (fun i=>[⟨true,.str s⟩,.un,.un,.un,⟨true,.it 21⟩,.un,.un,.un,.un,⟨true,.int .i64 (cO (s.take i):Nat)⟩]) (fun i=>[(21,.iter s i)]) 22 (fun i=>i≤s.length∧s.length≤4∧dM s=cj (fun i=>aM (at8 s i)) i s.length) (fun i=>s.length-i) 0 ⟨by omega,by omega,hP⟩ (ek [(21,21)]) ?_;rintro i ⟨hi,h9,hr⟩;refine ax ?_;by_cases hnx:i<s.length
 ·obtain⟨c,w,hdec,hw,hcw⟩:=oE s i hnx;refine wo c w (hp:=hnx) (hc:=hdec) ?_;refine ay ?_;refine aq (t:=true) (fun _=>?_) (fun h=>by cases h);refine vz ?_;refine fN (fun hc2=>?_) fun hc2=>?_
  ·refine ax ?_;obtain⟨rfl,hat,-⟩:w=1∧(c:Int)=at8 s i∧c<128:=by
    rcases hcw with h|h
    ·exact h
    ·omega
   have hn:=oU s i (by omega);have hn2:=qE s i (by omega);have h256:=C2 s i;refine ax ?_;refine rM ?_;refine ax ?_;refine EH ((c:Int) -48) (hb:=fun _=>IntWalk.i32_in _ (by omega)) ?_;refine qG ((c:Int) -48) (hb:=fun _=>IntWalk.i64_in _ (by omega)) ?_;refine az ?_;rw[show 10*(cO (s.take i):Int)+((c:Int) -48)=(cO (s.take (i+1)):Nat)by omega];refine az ?_;have hz:aM (at8 s i)=true:=by
    simp only[aM,Bool.and_eq_true,decide_eq_true_eq];omega
   exact⟨i+1,⟨by omega,h9,by rw[hr,aK (by omega),hz];rfl⟩,by omega,(ek [(21,21)])⟩
  refine bY ?_;refine b7 (aR (congrArg (D.int .i64) ?_) (congrArg D.bool ?_));all_goals
   have hz:aM (at8 s i)=false:=by
    rcases hcw with⟨_,h,_⟩|⟨_,h⟩<;>(simp only[aM,Bool.and_eq_false_iff,decide_eq_false_iff_not];omega)
   have:dM s=false:=by rw[hr,aK (by omega),hz];rfl
   simp[cT,this]
 ·refine wm (hp:=hnx) ?_;refine ay ?_;refine aq (t:=false) (fun h=>by cases h) (fun _=>?_);refine jB ?_;refine b7 (aR (congrArg (D.int .i64) ?_) (congrArg D.bool ?_));all_goals
   have this:dM s=true:=by rw[hr,bW (by omega)]
   have ht:s.take i=s:=List.take_of_length_le (by omega);have h9:=this;simp only[dM,Bool.and_eq_true,decide_eq_true_eq]at h9;have h99:=h9.2;rw[ht];first
   |(simp only[cT,this];rfl)
   |(rw[this,decide_eq_true_eq];omega)
def Ft (Γ:Ctx):Prop:=∀(s:ah),Γ.pre 658 [.str s]∧Γ.val 658 [.str s]=.tup [.int .i64 (cT s),.bool (dM s)]
end Go.Abs
end
section
namespace Go.Abs
open Go
def xA:aB:=⟨2,10,[⟨2,none⟩],[[.sl 1 [.a]]],(sq (r1 [gm (.c (.ar))] 2 0) (sq (r1 [gm (.c (.ar))] 8 0) (sq (r1 [gm bD] 9 0) (sq (sq (rg [gm s0,wK l0,gm bD] [(4,1),(3,2)]) (.block 0 (.loop (sq (r1 [aV s3 s4] 5 0) (sq (iS s5 0) (sq (.block 1 (sq (r1 [gm s3,gm l0] 6 1) (sq (r1 [gm s0,gm s6,F5 l0 l1,gm s1,aE l2 l3] 7 4) (.cond s7 (sq (r1 [gm s8,gm s0,gm s9,gm s6,gn (.slS l1 (some l2) (some l3)),gn (.bsl 1 (.str []) 1 [(0,l4)]),gn (.app 1 l0 l5),gm l6] 8 7) (r1 [gm s6,av l0 b8,gm l1] 9 2)) .skip)))) (r1 [av s3 b8,gm l0] 3 1))))))) (sq (r1 [gm s8,gm s0,gm s9,gn (.slS l1 (some l2) none),gn (.bsl 1 (.str []) 1 [(0,l3)]),gn (.app 1 l0 l4),gm l5] 2 6) .ret)))))⟩
def w533 {Γ:Ctx}(hm:(Γ.at 0).bp)  (s:ah)(b:Int)  (hp0:s.length≤1048576):ef Γ xA (.sl 1 ((ai s b).map D.str)) [.str s,.int .u8 b]:=by
 show bz _ _ _ [⟨_,_⟩,⟨_,_⟩,_,_,_,_,_,_,_,_] _;refine ak ?_;refine ix ?_;intro u0;refine ay ?_;refine br hm (ι:=(Nat×Nat×List ah)) (fun p:Nat×Nat×List ah=>[⟨true,.str s⟩,⟨true,.int .u8 b⟩,.un,⟨true,.int .i64 (p.1:Nat)⟩,⟨true,.int .i64 (s.length:Nat)⟩,.un,.un,.un,⟨true,.own 0 1 0 p.2.2.length⟩,⟨true,.int .i64 (p.2.1:Nat)⟩]) (fun p=>[(0,.buf 1 (p.2.2.map D.str))]) 6 (fun p=>p.1≤s.length∧p.2.1≤p.1∧p.2.2.length≤p.1∧ai s b=p.2.2++a8 b (s.drop p.1) ((s.take p.1).drop p.2.1)) (fun p=>s.length-p.1) (0,0,[]) ⟨by simp,by simp,by simp,rfl⟩ (aL.to [] ae ae (by repeat(first|exact cV.nil|refine cV.un ?_|refine cV.eq ae ?_|refine cV.nl ae ae ?_|refine cV.ni (Or.inr ⟨0,1,0,rfl⟩) ?_)) (by repeat(first|exact aC.nil|refine aC.mt ae ae ae ae ?_))) ?_;rintro⟨i,fr,acc⟩ ⟨hi,hf,ha,hr⟩;dsimp only at hi hf ha hr⊢;refine az ?_;refine cI (fun hc0=>?_) fun hc0=>?_
 ·refine lv ?_;refine wp_cond (fun hc1=>?_) (fun hc1=>?_)
  ·try simp only[hX]at hc1
   refine aQ ?_;refine x9 _ _ ?_;refine cg [(.str _)] ?_;refine vy ?_;exact⟨(i+1,i+1,acc++[(s.take i).drop fr]),⟨by dsimp only;omega,by dsimp only;omega,by simp;omega,by rw[hr,uY (by omega) hc1];simp⟩,by dsimp only;omega,(aL.to [(20,0)] ae ae kV (by refine aC.nl 20 ae ae ae bR ?_;exact aC.nil))⟩
  simp only[decide_eq_false_iff_not]at hc1;refine ba ?_;exact⟨(i+1,fr,acc),⟨by dsimp only;omega,by dsimp only;omega,by dsimp only;omega,by rw[hr,uZ (by omega) (by omega) hc1]⟩,by dsimp only;omega,(aL.to [(0,0)] ae ae kV (by refine aC.nl 0 ae ae ae bR ?_;exact aC.nil))⟩
 refine aT ?_;refine mr _ ?_;refine cg [(.str _)] ?_;refine az ?_;refine dT 12 ?_;refine ax ?_;refine b7 (?_);have hs:ai s b=acc++[s.drop fr]:=by rw[hr,tm (by omega)]
 rw[hs];exact rfl
def CR (Γ:Ctx):Prop:=∀(s:ah)(b:Int),(s.length≤1048576)→Γ.pre 533 [.str s,.int .u8 b]∧Γ.val 533 [.str s,.int .u8 b]=.sl 1 ((ai s b).map D.str)
def rj:aB:=⟨1,7,j5,cr,(sq (r1 [gm dx] 1 0) (sq (sq (rg [gm s0,wK l0,gm bD] [(3,1),(2,2)]) (.block 0 (.loop (sq (r1 [aV s2 s3] 4 0) (sq (iS s4 0) (sq (.block 1 (sq (r1 [gm s2,gm l0] 5 1) (sq (r1 [gm s0,gm s5,F5 l0 l1,aV l2 (i8 48),gm l3,eV 4 s0,eV 4 s5,cx 4 (.ixS l5 l6),cx 4 (dh l7 (i8 57)),fI l4 l8] 6 9) (ny s6 dx)))) (r1 [av s2 b8,gm l0] 2 1))))))) (sq (r1 [gm s0,ct l0 cse,gm l1] 1 2) .ret)))⟩
def w659 {Γ:Ctx}(hm:(Γ.at 0).bp)  (t:ah)   :ef Γ rj (.bool (dc t)) [.str t]:=by
 show bz _ _ _ [⟨_,_⟩,_,_,_,_,_,_] _;refine ak ?_;refine aT ?_;intro u0;refine ay ?_;refine br hm (ι:=Nat) (fun i=>[⟨true,.str t⟩,.un,⟨true,.int .i64 (i:Nat)⟩,⟨true,.int .i64 (t.length:Nat)⟩,.un,.un,.un]) (fun i=>[]) 4 (fun i=>i≤t.length∧cj (fun i=>aM (at8 t i)) 0 t.length=cj (fun i=>aM (at8 t i)) i t.length) (fun i=>t.length-i) 0 ⟨by omega,rfl⟩ (ek []) ?_;rintro i ⟨hi,hr⟩;refine az ?_;refine cI (fun hc0=>?_) fun hc0=>?_
 ·refine HO ?_;refine fN (fun hc1=>?_) fun hc1=>?_
  ·refine aT ?_;refine bL ?_;simp only[dc];rw[hr,aK (by omega)];rcases hc1 with h|h<;>simp[aM]<;>omega
  refine ba ?_;exact⟨i+1,⟨by omega,by rw[hr,aK (by omega)];rw[show aM (at8 t i)=true by simp only[aM,Bool.and_eq_true,decide_eq_true_eq];omega];rfl⟩,by omega,(ek [])⟩
 refine bY ?_;refine bL ?_;simp only[dc];rw[hr,bW (by omega)];cases t<;>simp
def KC (Γ:Ctx):Prop:=∀(t:ah),Γ.pre 659 [.str t]∧Γ.val 659 [.str t]=.bool (dc t)
def wC:aB:=⟨1,2,j5,cr,(sq (r1 [gm dx] 1 0) (sq (r1 [gm s0,gM l0 bD,gm l1,gmt 2 s0,cH 2 (lK l3 (i6 9999)),gy l2 l4,gm l5] 1 6) .ret))⟩
def w440 {Γ:Ctx}(hm:(Γ.at 0).bp)  (n:Int)   :ef Γ wC (.bool (pN n)) [.int .i64 n]:=by
 show bz _ _ _ [⟨_,_⟩,_] _;refine ak ?_;refine ix ?_;exact bL rfl
def Kg (Γ:Ctx):Prop:=∀(n:Int),Γ.pre 440 [.int .i64 n]∧Γ.val 440 [.int .i64 n]=.bool (pN n)
def tA:aB:=⟨2,9,[⟨2,none⟩,⟨3,none⟩],iK,(sq (rg [gm cse,gm cse] [(2,0),(3,1)]) (sq (sq (rg [gm s0,wK l0,gm bD] [(5,1),(4,2)]) (.block 0 (.loop (sq (r1 [aV s4 s5] 6 0) (sq (iS s6 0) (sq (.block 1 (sq (r1 [gm s4,gm l0] 7 1) (sq (r1 [gm s0,gm s7,F5 l0 l1,gm s1,aE l2 l3] 8 4) (.cond s8 (sq (rt [gm s0,gm s7,av l1 b8,gn (.slS l0 (some l2) none),gm s0,gm s7,gn (.slS l4 none (some l5)),gm l3,gm l6] [(2,7),(3,8)]) .ret) .skip)))) (r1 [av s4 b8,gm l0] 4 1))))))) (sq (rg [gm s0,gm cse,gm l0] [(2,1),(3,2)]) .ret)))⟩
def w675 {Γ:Ctx}(hm:(Γ.at 0).bp)  (s:ah)(b:Int)   :ef Γ tA (.tup [.str (dF s b).1,.str (dF s b).2]) [.str s,.int .u8 b]:=by
 show bz _ _ _ [⟨_,_⟩,⟨_,_⟩,_,_,_,_,_,_,_] _;refine ak ?_;refine ba ?_;intro u0;refine ay ?_;refine br hm (ι:=Nat) (fun i=>[⟨true,.str s⟩,⟨true,.int .u8 b⟩,.un,.un,⟨true,.int .i64 (i:Nat)⟩,⟨true,.int .i64 (s.length:Nat)⟩,.un,.un,.un]) (fun i=>[]) 5 (fun i=>i≤s.length∧dF s b=gX s b i) (fun i=>s.length-i) 0 ⟨by omega,rfl⟩ (ek []) ?_;rintro i ⟨hi,hr⟩;refine az ?_;refine cI (fun hc0=>?_) fun hc0=>?_
 ·refine lv ?_;refine fN (fun hc1=>?_) fun hc1=>?_
  ·refine aA ?_;refine mr (i+1) ?_;refine ay ?_;refine ta _ ?_;refine aT ?_;refine b7 (aR (congrArg D.str ?_) (congrArg D.str ?_));all_goals rw[hr,yZ (by omega) hc1]
  refine ba ?_;exact⟨i+1,⟨by omega,by rw[hr,y0 (by omega) hc1]⟩,by omega,(ek [])⟩
 refine bY ?_;refine b7 (aR (congrArg D.str ?_) (congrArg D.str ?_));all_goals rw[hr,xb (by omega)]
def KH (Γ:Ctx):Prop:=∀(s:ah)(b:Int),Γ.pre 675 [.str s,.int .u8 b]∧Γ.val 675 [.str s,.int .u8 b]=.tup [.str (dF s b).1,.str (dF s b).2]
def wD:aB:=⟨1,15,j5,cr,(sq (r1 [gm dx] 1 0) (sq (r1 [gm s0,gx 533 [l0,(i8 46)] iK,gm l1] 2 2) (sq (r1 [gm s2,gl l0,DV l1 tF,gm l2] 14 3) (sq .skip (sq (sq (rg [gm s2,gl l0,gm bD] [(6,0),(4,1),(3,2)]) (.block 0 (.loop (sq (r1 [aV s3 s4] 5 0) (sq (iS s5 0) (sq (.block 1 (sq (r1 [ga 1 s6 s3,gd l0,gm l1] 7 2) (sq (sq (r1 [gm s7,aE l0 cse,gm l1,eV 2 s7,cx 2 (.lenS l3),cx 2 (dh l4 Gc),fI l2 l5] 8 6) (.cond s8 (sq (r1 [gm dx] 14 0) (.exit 0)) .skip)) (sq (r1 [gm s7,gn (.rng l0)] 9 1) (.block 2 (.loop (sq (rg [gn (.tG s9),ge l0 0] [(11,0),(10,1)]) (sq (iS lr 2) (.block 3 (sq (r1 [ge oo 2,gm l0] 12 1) (sq (r1 [gm m6,aV l0 (i3 97),gm l1,eV 2 m6,cx 2 (dh l3 (i3 122)),fI l2 l4,gm l5,gmt 6 m6,cH 6 (ov l7 (i3 48)),gmt 6 l8,eV 9 m6,cx 9 (dh l10 (i3 57)),JQ 6 l9 jK,gy l6 ll,gm nn,gmt 14 m6,cH 14 (eR pk (i3 45)),gy nX rE] 13 17) (.cond tk (sq (r1 [gm dx] 14 0) (.exit 0)) .skip)))))))))))) (r1 [av s3 b8,gm l0] 3 1))))))) (sq (r1 [gm rN,gm l0] 1 1) .ret))))))⟩
def w442 {Γ:Ctx}(hm:(Γ.at 0).bp)(h533:CR Γ)(s:ah)  (hp0:s.length≤1048576):ef Γ wD (.bool (iO s false)) [.str s]:=by
 show bz _ _ _ [⟨_,_⟩,_,_,_,_,_,_,_,_,_,_,_,_,_,_] _;refine ak ?_;refine aA ?_;refine aj (hc:=h533 _ _ ?_) ?_;rotate_left;first|assumption|omega;have hlen:=cL s 46
 refine aQ ?_;intro u0;refine bY ?_;intro u1;refine ay ?_;refine br hm (ι:=Nat) (fun i=>[.un,.un,⟨true,.sl 1 ((ai s 46).map D.str)⟩,⟨true,.int .i64 (i:Nat)⟩,⟨true,.int .i64 ((ai s 46).length:Nat)⟩,.un,⟨true,.sl 1 ((ai s 46).map D.str)⟩,.un,.un,.un,.un,.un,.un,.un,⟨true,.bool (decide (((ai s 46).length:Int)≤4))⟩]) (fun i=>[]) 11 (fun i=>i≤(ai s 46).length∧iO s false=(decide ((ai s 46).length≤4)&&cj (fun i=>ee false (ai s 46)[i]!) i (ai s 46).length)) (fun i=>(ai s 46).length-i) 0 ⟨by omega,rfl⟩ (ek []) ?_;rintro i ⟨hi,hr⟩;refine az ?_;refine cI (fun hc0=>?_) fun hc0=>?_
 ·refine dp ?_;generalize ht:(ai s 46)[i]! =t;refine aA ?_;refine nr ?_;refine az ?_;refine cI (fun hc1=>?_) fun hc1=>?_
  ·refine ix ?_;refine bL ?_;first
    |(rw[hr,bW (by omega),Bool.and_true];exact decide_eq_decide.2 (by omega))
    |(have hb:lF t=false:=by
       first
       |(simp only[lF];rcases hc1 with h|h
         ·subst h;simp
         ·rw[decide_eq_false (by omega:¬t.length≤8)];simp)
       |(have hz:jg (at8 t j)=false:=by
          rcases hcw with⟨_,h,_⟩|⟨_,h⟩<;>(simp only[jg,fJ,aM,Bool.or_eq_false_iff,Bool.and_eq_false_iff,decide_eq_false_iff_not];omega)
         rw[hj,aK hnx,hz];rfl)
      rw[hr,aK (by omega),show ee false (ai s 46)[i]! =false from(by simp only[ee,ht,hb,Bool.false_and])];simp)
  refine aQ ?_;have hT:lF t=cj (fun i=>jg (at8 t i)) 0 t.length:=by
   have:=List.length_pos_iff.2 hc1.1;simp only[lF];rw[decide_eq_true (by omega),decide_eq_true (by omega)];rfl
  refine pd hm (ι:=Nat) (fun j=>[.un,.un,⟨true,.sl 1 ((ai s 46).map D.str)⟩,⟨true,.int .i64 (i:Nat)⟩,⟨true,.int .i64 ((ai s 46).length:Nat)⟩,.un,⟨true,.sl 1 ((ai s 46).map D.str)⟩,.un,.un,⟨true,.it 23⟩,.un,.un,.un,.un,⟨true,.bool (decide (((ai s 46).length:Int)≤4))⟩]) (fun j=>[(23,.iter t j)]) 24 (fun j=>j≤t.length∧lF t=cj (fun i=>jg (at8 t i)) j t.length) (fun j=>t.length-j) 0 ⟨by omega,hT⟩ (ek [(23,23)]) ?_;rintro j ⟨hj0,hj⟩;refine ax ?_;by_cases hnx:j<t.length
  ·obtain⟨c,w,hdec,hw,hcw⟩:=oE t j hnx;refine wo c w (hp:=hnx) (hc:=hdec) ?_;refine ay ?_;refine aq (t:=true) (fun _=>?_) (fun h=>by cases h);refine Mh ?_;refine fN (fun hc3=>?_) fun hc3=>?_
   ·refine lv ?_;refine bL ?_;first
     |(rw[hr,bW (by omega),Bool.and_true];exact decide_eq_decide.2 (by omega))
     |(have hb:lF t=false:=by
        first
        |(simp only[lF];rcases hc1 with h|h
          ·subst h;simp
          ·rw[decide_eq_false (by omega:¬t.length≤8)];simp)
        |(have hz:jg (at8 t j)=false:=by
           rcases hcw with⟨_,h,_⟩|⟨_,h⟩<;>(simp only[jg,fJ,aM,Bool.or_eq_false_iff,Bool.and_eq_false_iff,decide_eq_false_iff_not];omega)
          rw[hj,aK hnx,hz];rfl)
       rw[hr,aK (by omega),show ee false (ai s 46)[i]! =false from(by simp only[ee,ht,hb,Bool.false_and])];simp)
   refine az ?_;obtain⟨rfl,hat,-⟩:w=1∧(c:Int)=at8 t j∧c<128:=by
    rcases hcw with h|h
    ·exact h
    ·omega
   have hz:jg (at8 t j)=true:=by
    simp only[jg,fJ,aM,Bool.or_eq_true,Bool.and_eq_true,decide_eq_true_eq];omega
   exact⟨j+1,⟨by omega,by rw[hj,aK hnx,hz];rfl⟩,by omega,(ek [(23,23)])⟩
  ·refine wm (hp:=hnx) ?_;refine ay ?_;refine aq (t:=false) (fun h=>by cases h) (fun _=>?_);refine bY ?_;exact⟨i+1,⟨by omega,by rw[hr,aK (by omega)];rw[show ee false (ai s 46)[i]! =true from(by simp only[ee,Bool.false_and,Bool.not_false,Bool.and_true];rw[ht,hj,bW (by omega)])];rfl⟩,by omega,(ek [])⟩
 refine ba ?_;refine bL ?_;first
  |(rw[hr,bW (by omega),Bool.and_true];exact decide_eq_decide.2 (by omega))
  |(have hb:lF t=false:=by
     first
     |(simp only[lF];rcases hc1 with h|h
       ·subst h;simp
       ·rw[decide_eq_false (by omega:¬t.length≤8)];simp)
     |(have hz:jg (at8 t j)=false:=by
        rcases hcw with⟨_,h,_⟩|⟨_,h⟩<;>(simp only[jg,fJ,aM,Bool.or_eq_false_iff,Bool.and_eq_false_iff,decide_eq_false_iff_not];omega)
       rw[hj,aK hnx,hz];rfl)
    rw[hr,aK (by omega),show ee false (ai s 46)[i]! =false from(by simp only[ee,ht,hb,Bool.false_and])];simp)
def HX (Γ:Ctx):Prop:=∀(s:ah),(s.length≤1048576)→Γ.pre 442 [.str s]∧Γ.val 442 [.str s]=.bool (iO s false)
end Go.Abs
end
section
namespace Go.Abs
open Go
def Kf (Γ:Ctx):Prop:=∀(n:Int),(0≤n∧n≤9999)→Γ.pre 336 [.int .i64 n]∧Γ.val 336 [.int .i64 n]=.str (cC n.toNat)
def Fo (Γ:Ctx):Prop:=∀(l:List ah)(sep:ah),(l.length≤1048600)→(sep.length≤4)→(∀t∈l,t.length≤2097200)→Γ.pre 242 [.sl 1 (l.map D.str),.str sep]∧Γ.val 242 [.sl 1 (l.map D.str),.str sep]=.str (aO sep l)
def CN (Γ:Ctx):Prop:=∀(s:ah)(b:UInt8),(s.length≤1048576)→Γ.pre 124 [.str s,.str [b]]∧Γ.val 124 [.str s,.str [b]]=.sl 1 ((ai s b.toNat).map D.str)
def Ky (Γ:Ctx):Prop:=∀(s:ah)(b:UInt8),(s.length≤1048576)→Γ.pre 487 [.str s,.str [b]]∧Γ.val 487 [.str s,.str [b]]=.tup [.str (dR s b).1,.str (dR s b).2.1,.bool (dR s b).2.2]
def Ke (Γ:Ctx):Prop:=∀(s:ah)(p:ah),(s.length≤1048576)→(p.length≤1048576)→Γ.pre 254 [.str s,.str p]∧Γ.val 254 [.str s,.str p]=.tup [.str (cR s p).1,.bool (cR s p).2]
end Go.Abs
end
section
namespace Go.Abs
open Go
def yz:aB:=⟨1,10,j5,cr,(sq (r1 [gm dx] 1 0) (sq (sq (r1 [gm s0,gx 442 [l0] cr,om l1] 2 2) (ny s2 dx)) (sq (sq (rg [gm s0,gx 533 [l0,(i8 46)] iK,gl l1,gm bD] [(6,1),(4,2),(3,3)]) (.block 0 (.loop (sq (r1 [aV s3 s4] 5 0) (sq (iS s5 0) (sq (.block 1 (sq (r1 [ga 1 s6 s3,gd l0,gm l1] 7 2) (sq (r1 [gm s7,gx 658 [l0] cr,gm l1,ge l2 0,ge l2 1,gm l3,gm l4] 8 6) (sq (r1 [gm s7,gx 659 [l0] cr,gm l1,gmt 2 s8,cH 2 (.un .not l3),gy l2 l4] 9 5) (ny s9 dx))))) (r1 [av s3 b8,gm l0] 3 1))))))) (zk tK))))⟩
def w441 {Γ:Ctx}(hm:(Γ.at 0).bp)(h442:HX Γ)(h533:CR Γ)(h658:Ft Γ)(h659:KC Γ)(s:ah)  (hp0:s.length≤1048576):ef Γ yz (.bool (iO s true)) [.str s]:=by
 show bz _ _ _ [⟨_,_⟩,_,_,_,_,_,_,_,_,_] _;refine ak ?_;refine aQ ?_;refine aj (hc:=h442 _ ?_) ?_;rotate_left;first|assumption|omega
 refine ay ?_;refine aq (fun hc0=>?_) (fun hc0=>?_)
 ·simp only[Bool.not_eq_true']at hc0;refine aQ ?_;refine bL ?_;symm;simp only[iO]at hc0⊢;rw[Bool.and_eq_false_iff]at hc0⊢;rcases hc0 with h|h
  ·exact Or.inl h
  ·right;rw[Bool.eq_false_iff]at h⊢;intro h2;apply h;rw[dq]at h2⊢;intro j a b;have:=h2 j a b;simp only[ee,Bool.and_eq_true]at this⊢;exact⟨this.1,rfl⟩
 simp only[Bool.not_eq_false']at hc0;refine aA ?_;refine aj (hc:=h533 _ _ ?_) ?_;rotate_left;first|assumption|omega;have hlen:=cL s 46
 refine ax ?_;intro u0;refine ay ?_;have hT:=hc0;simp only[iO,Bool.and_eq_true,decide_eq_true_eq]at hT;obtain⟨hT4,hTa⟩:=hT;rw[dq]at hTa;have hP:iO s true=cj (fun i=>ee true (ai s 46)[i]!) 0 (ai s 46).length:=by
  simp only[iO];rw[decide_eq_true hT4];rfl
 refine br hm (ι:=Nat) (fun i=>[.un,.un,.un,⟨true,.int .i64 (i:Nat)⟩,⟨true,.int .i64 ((ai s 46).length:Nat)⟩,.un,⟨true,.sl 1 ((ai s 46).map D.str)⟩,.un,.un,.un]) (fun i=>[]) 8 (fun i=>i≤(ai s 46).length∧iO s true=cj (fun i=>ee true (ai s 46)[i]!) i (ai s 46).length) (fun i=>(ai s 46).length-i) 0 ⟨by omega,hP⟩ (ek []) ?_;rintro i ⟨hi,hr⟩;refine az ?_;refine cI (fun hc1=>?_) fun hc1=>?_
 ·refine dp ?_;refine aj (hc:=h658 _) ?_;refine bY ?_;refine aj (hc:=h659 _) ?_;refine aQ ?_;refine wp_cond (fun hc2=>?_) (fun hc2=>?_)
  ·skip
   refine aT ?_;refine bL ?_;have hz:ee true (ai s 46)[i]! =false:=by
    simp only[ee];revert hc2;generalize lF (ai s 46)[i]! =c;generalize dc (ai s 46)[i]! =a;generalize dM (ai s 46)[i]! =b;cases a<;>cases b<;>cases c<;>simp
   rw[hr,aK (by omega),hz];rfl
  skip
  refine ba ?_;have hz:ee true (ai s 46)[i]! =true:=by
   have:=hTa i (by omega) (by omega);simp only[ee,Bool.false_and,Bool.not_false,Bool.and_true]at this;simp only[ee,this];revert hc2;generalize dc (ai s 46)[i]! =a;generalize dM (ai s 46)[i]! =b;cases a<;>cases b<;>simp
  exact⟨i+1,⟨by omega,by rw[hr,aK (by omega),hz];rfl⟩,by omega,(ek [])⟩
 refine aT ?_;refine bL ?_;rw[hr,bW (by omega)]
def Kh (Γ:Ctx):Prop:=∀(s:ah),(s.length≤1048576)→Γ.pre 441 [.str s]∧Γ.val 441 [.str s]=.bool (iO s true)
def yy:aB:=⟨1,3,j5,cr,(sq (rg [gb 5 s0,gm dx] [(2,0),(1,1)]) (sq (r1 [gf 0 s2,gd l0,gx 440 [l1] cr,gm l2,rC 3 1 s2,ph 3 l4,cH 3 (.call 440 [l5] cr),gy l3 l6,gm l7,rC 8 2 s2,ph 8 l9,cH 8 (.call 440 [l10] cr),gy l8 jK,gm ll,rC 13 3 s2,ph 13 nX,cH 13 (cQ pk cse),gmt 13 rE,ko 17 3 s2,lB 17 xF,cx 17 (.call 441 [zp] cr),JQ 13 wL BM,gy nn CI,gm Fh,rC 23 4 s2,ph 23 IW,cH 23 (cQ IX cse),gmt 23 JT,ko 27 4 s2,lB 27 LK,cx 27 (.call 442 [LL] cr),JQ 23 LJ l30,gy IV l31,gm l32] 1 33) .ret))⟩
def w209 {Γ:Ctx}(hm:(Γ.at 0).bp)(h440:Kg Γ)(h441:Kh Γ)(h442:HX Γ)(v:dw)  (hp0:v.sm):ef Γ yy (.bool (eO v)) [dw.D v]:=by
 show bz _ _ _ [⟨_,_⟩,_,_] _;refine ak ?_;refine aT ?_;refine aj (hc:=h440 _) ?_;refine az ?_;refine aj (hc:=h440 _) ?_;refine aA ?_;refine aj (hc:=h440 _) ?_;refine bY ?_;refine eI (hc:=fun hf=>h441 v.pre hp0.1) ?_;refine dp ?_;refine eI (hc:=fun hf=>h442 v.build hp0.2) ?_;refine aQ ?_;exact bL rfl
def CO (Γ:Ctx):Prop:=∀(v:dw),(v.sm)→Γ.pre 209 [dw.D v]∧Γ.val 209 [dw.D v]=.bool (eO v)
def vR:aB:=⟨1,2,j5,cr,(sq (r1 [gm cse] 1 0) (sq (r1 [gm s0,gx 336 [l0] cr,gm l1] 1 2) .ret))⟩
def w665 {Γ:Ctx}(hm:(Γ.at 0).bp)(h336:Kf Γ)(n:Int)  (hp0:0≤n∧n≤9999):ef Γ vR (.str (cC n.toNat)) [.int .i64 n]:=by
 show bz _ _ _ [⟨_,_⟩,_] _;refine ak ?_;refine aA ?_;refine aj (hc:=h336 _ ?_) ?_;rotate_left;first|assumption|omega
 refine az ?_;exact cq rfl
def Ia (Γ:Ctx):Prop:=∀(n:Int),(0≤n∧n≤9999)→Γ.pre 665 [.int .i64 n]∧Γ.val 665 [.int .i64 n]=.str (cC n.toNat)
def ub:aB:=⟨1,7,j5,cr,(sq (rg [gb 5 s0,gm cse] [(2,0),(1,1)]) (sq (sq (r1 [gk 5 true s2,gx 209 [l0] IJ,om l1] 3 2) (ny s3 cse)) (sq (r2 [gf 0 s2,gd l0,gx 665 [l1] cr,av l2 (cs [46]),gf 1 s2,gd l4,gx 665 [l5] cr,av l3 l6,av l7 (cs [46]),gf 2 s2,gd l9,gx 665 [l10] cr,av l8 jK,gm ll] 5 13) (sq (sq (r1 [gf 3 s2,gd l0,ct l1 cse] 4 2) (.cond s4 (r1 [gm s5,gf 3 s2,gd l1,av (cs [45]) l2,av l0 l3,gm l4] 5 5) .skip)) (sq (sq (r1 [gf 4 s2,gd l0,ct l1 cse] 6 2) (.cond s6 (r1 [gm s5,gf 4 s2,gd l1,av (cs [43]) l2,av l0 l3,gm l4] 5 5) .skip)) (sq (r1 [gm s5,gm l0] 1 1) .ret))))))⟩
def w451 {Γ:Ctx}(hm:(Γ.at 0).bp)(h209:CO Γ)(h665:Ia Γ)(v:dw)  (hp0:v.sm):ef Γ ub (.str (mG v)) [dw.D v]:=by
 show bz _ _ _ [⟨_,_⟩,_,_,_,_,_,_] _;obtain⟨hs1,hs2⟩:=hp0;have hp0:v.sm:=⟨hs1,hs2⟩;refine ak ?_;refine aT ?_;refine aj (hc:=h209 _ ?_) ?_;rotate_left;first|assumption|omega
 refine ay ?_;refine aq (fun hc0=>?_) (fun hc0=>?_)
 ·simp only[Bool.not_eq_true']at hc0;refine aQ ?_;refine cq ?_;simp[mG,hc0]
 simp only[Bool.not_eq_false']at hc0;refine ay ?_;have hv:=hc0;simp only[eO,Bool.and_eq_true]at hv;obtain⟨⟨⟨⟨hv1,hv2⟩,hv3⟩,_⟩,_⟩:=hv;have hq1:=hv1;have hq2:=hv2;have hq3:=hv3;simp only[pN,Bool.and_eq_true,decide_eq_true_eq]at hq1 hq2 hq3;have hl1:=dK 4 v.major.toNat (by omega) (by omega);have hl2:=dK 4 v.minor.toNat (by omega) (by omega);have hl3:=dK 4 v.patch.toNat (by omega) (by omega);refine ay ?_;refine aj (hc:=h665 _ ?_) ?_;rotate_left;first|assumption|omega
 refine cS (hb:=fun _=>by simp;omega) ?_;refine ay ?_;refine aj (hc:=h665 _ ?_) ?_;rotate_left;first|assumption|omega
 refine cS (hb:=fun _=>by simp;omega) ?_;refine cS (hb:=fun _=>by simp;omega) ?_;refine ay ?_;refine aj (hc:=h665 _ ?_) ?_;rotate_left;first|assumption|omega
 refine cS (hb:=fun _=>by simp;omega) ?_;refine bY ?_;refine cI (fun hc1=>?_) fun hc1=>?_
 ·refine aA ?_;refine cS (hb:=fun _=>by simp;omega) ?_;refine cS (hb:=fun _=>by simp;omega) ?_;refine bY ?_;refine cI (fun hc2=>?_) fun hc2=>?_
  ·refine aA ?_;refine cS (hb:=fun _=>by simp;omega) ?_;refine cS (hb:=fun _=>by simp;omega) ?_;refine ba ?_;refine cq ?_;simp[mG,z7,hc0,hc1,hc2]
  refine aT ?_;refine cq ?_;simp[mG,z7,hc0,hc1,hc2]
 refine ba ?_;refine cI (fun hc2=>?_) fun hc2=>?_
 ·refine aA ?_;refine cS (hb:=fun _=>by simp;omega) ?_;refine cS (hb:=fun _=>by simp;omega) ?_;refine ba ?_;refine cq ?_;simp[mG,z7,hc0,hc1,hc2]
 refine aT ?_;refine cq ?_;simp[mG,z7,hc0,hc1,hc2]
def H0 (Γ:Ctx):Prop:=∀(v:dw),(v.sm)→Γ.pre 451 [dw.D v]∧Γ.val 451 [dw.D v]=.str (mG v)
end Go.Abs
end
section
namespace Go.Abs
open Go
end Go.Abs
end
section
namespace Go.Abs
open Go
end Go.Abs
end
section
namespace Go.Abs
open Go
def zQ:aB:=⟨1,4,j5,cr,(sq (r1 [gm cse] 1 0) (sq (r1 [gm s0,gn (.bin .rem l0 (iu 10)),gn (.cvi .u8 l1),av (i8 48) l2,gn (.bsl 1 (.int .u8 0) 1 [(0,l3)]),gn (.b2s l4),gm l5] 3 6) (sq (.block 0 (.loop (sq (sq (r1 [gm s0,dz l0 (iu 9)] 2 1) (iS s2 0)) (.block 1 (sq (r1 [gm s0,gn (.bin .quo l0 (iu 10)),gm l1] 0 2) (r1 [gm s0,gn (.bin .rem l0 (iu 10)),gn (.cvi .u8 l1),av (i8 48) l2,gn (.bsl 1 (.int .u8 0) 1 [(0,l3)]),gn (.b2s l4),gm s3,av l5 l6,gm l7] 3 8)))))) (sq (r1 [gm s3,gm l0] 1 1) .ret))))⟩
def w882 {Γ:Ctx}(hm:(Γ.at 0).bp)  (n:Nat)  (hp0:n≤9999):ef Γ zQ (.str (cC n)) [.int .u64 (n:Nat)]:=by
 show bz _ _ _ [⟨_,_⟩,_,_,_] _;refine ak ?_;refine aA ?_;refine AM ((n%10:Nat):Int) (hn:=by intro _;omega) (hb:=fun _=>rfl) ?_;refine qG ((n%10:Nat):Int) (hb:=fun _=>IntWalk.u8_in _ (by omega)) ?_;refine Ew (((dg (n%10)).toNat:Nat):Int) (hb:=fun _=>by rw[Df (by omega)];exact IntWalk.u8_in _ (by omega)) ?_;refine cg [.int .u8 _] ?_;refine Ez [dg (n%10)] (he:=fun _=>qn.all ae rfl) (hs:=fun _=>rfl) ?_;refine ay ?_;have h0:cC n=(if n<10 then []else cC (n/10))++[dg (n%10)]:=by
  split
  ·rename_i h;rw[mP h,Nat.mod_eq_of_lt h];rfl
  ·rw[mO (by omega)]
 refine br hm (ι:=(Nat×ah)) (fun p=>[⟨true,.int .u64 (p.1:Nat)⟩,.un,.un,⟨true,.str p.2⟩]) (fun p=>[]) 8 (fun p=>p.1≤9999∧p.2.length≤9999-p.1+1∧cC n=(if p.1<10 then []else cC (p.1/10))++p.2) (fun p=>p.1) (n,[dg (n%10)]) ⟨hp0,by simp,h0⟩ (ek []) ?_;rintro⟨k,s⟩ ⟨hk,hs,hr⟩;dsimp only at hk hs hr⊢;refine aQ ?_;refine cI (fun hc0=>?_) fun hc0=>?_
 ·refine aA ?_;refine L2 ((k/10:Nat):Int) (hn:=by intro _;omega) (hb:=fun _=>by rw[show((k:Int).tdiv 10)=((k/10:Nat):Int)from rfl,IntKind.wrap_u64];omega) ?_;refine aA ?_;refine AM (((k/10)%10:Nat):Int) (hn:=by intro _;omega) (hb:=fun _=>rfl) ?_;refine qG (((k/10)%10:Nat):Int) (hb:=fun _=>IntWalk.u8_in _ (by omega)) ?_;refine Ew (((dg ((k/10)%10)).toNat:Nat):Int) (hb:=fun _=>by rw[Df (by omega)];exact IntWalk.u8_in _ (by omega)) ?_;refine cg [.int .u8 _] ?_;refine Ez [dg ((k/10)%10)] (he:=fun _=>qn.all ae rfl) (hs:=fun _=>rfl) ?_;refine ax ?_;refine cS (hb:=fun _=>by simp;omega) ?_;refine aA ?_;have h1:cC n=(if k/10<10 then []else cC (k/10/10))++([dg (k/10%10)]++s):=by
   rw[hr,if_neg (by omega)];split
   ·rename_i h;rw[mP h,Nat.mod_eq_of_lt h];rfl
   ·rw[mO (by omega),List.append_assoc]
  exact⟨(k/10,[dg (k/10%10)]++s),⟨by dsimp only;omega,by simp;omega,h1⟩,by dsimp only;omega,(ek [])⟩
 refine ba ?_;refine cq ?_;rw[hr,if_pos (by omega)];rfl
def KS (Γ:Ctx):Prop:=∀(n:Nat),(n≤9999)→Γ.pre 882 [.int .u64 (n:Nat)]∧Γ.val 882 [.int .u64 (n:Nat)]=.str (cC n)
def yg:aB:=⟨1,3,j5,cr,(sq (r1 [gm cse] 1 0) (sq (sq (r1 [gm s0,aV l0 bD] 2 1) (.cond s2 (sq (r1 [gm s0,av l0 b8,gn (.un .neg l1),gn (.cvi .u64 l2),av l3 (iu 1),gx 882 [l4] cr,av (cs [45]) l5,gm l6] 1 7) .ret) .skip)) (sq (r1 [gm s0,gn (.cvi .u64 l0),gx 882 [l1] cr,gm l2] 1 3) .ret)))⟩
def w734 {Γ:Ctx}(hm:(Γ.at 0).bp)(h882:KS Γ)(n:Int)  (hp0:0≤n∧n≤9999):ef Γ yg (.str (cC n.toNat)) [.int .i64 n]:=by
 show bz _ _ _ [⟨_,_⟩,_,_] _;refine ak ?_;refine ba ?_;refine cI (fun hc0=>?_) fun hc0=>?_
 ·omega
 refine ay ?_;obtain⟨k,rfl⟩:∃k:Nat,n=k:=⟨n.toNat,by omega⟩
 refine ax ?_;refine qG (k:Int) (hb:=fun _=>by rw[IntKind.wrap_u64];omega) ?_;refine aj (hc:=h882 _ ?_) ?_;rotate_left;first|assumption|omega
 refine az ?_;exact cq rfl
def KN (Γ:Ctx):Prop:=∀(n:Int),(0≤n∧n≤9999)→Γ.pre 734 [.int .i64 n]∧Γ.val 734 [.int .i64 n]=.str (cC n.toNat)
def zO:aB:=⟨2,8,[⟨2,none⟩],[[.sl 1 [.a]]],(sq (r1 [gm (.c (.ar))] 2 0) (sq (r1 [gm (.c (.ar))] 6 0) (sq (r1 [gm bD] 7 0) (sq (sq (r1 [gm bD] 3 0) (.block 0 (.loop (sq (sq (r1 [gm s3,gm s0,wK l1,aV l0 l2] 4 3) (iS s4 0)) (sq (.block 1 (sq (r1 [gm s0,gm s3,F5 l0 l1,gm s1,aE l2 l3] 5 4) (.cond s5 (sq (r1 [gm s6,gm s0,gm s7,gm s3,gn (.slS l1 (some l2) (some l3)),gn (.bsl 1 (.str []) 1 [(0,l4)]),gn (.app 1 l0 l5),gm l6] 6 7) (r1 [gm s3,av l0 b8,gm l1] 7 2)) .skip))) (r1 [gm s3,av l0 b8,gm l1] 3 2)))))) (sq (r1 [gm s6,gm s0,gm s7,gn (.slS l1 (some l2) none),gn (.bsl 1 (.str []) 1 [(0,l3)]),gn (.app 1 l0 l4),gm l5] 2 6) .ret)))))⟩
def w470 {Γ:Ctx}(hm:(Γ.at 0).bp)  (s:ah)(b:Int)  (hp0:s.length≤1048576):ef Γ zO (.sl 1 ((ai s b).map D.str)) [.str s,.int .u8 b]:=by
 show bz _ _ _ [⟨_,_⟩,⟨_,_⟩,_,_,_,_,_,_] _;refine ak ?_;refine ix ?_;refine br hm (ι:=(Nat×Nat×List ah)) (fun p:Nat×Nat×List ah=>[⟨true,.str s⟩,⟨true,.int .u8 b⟩,.un,⟨true,.int .i64 (p.1:Nat)⟩,.un,.un,⟨true,.own 0 1 0 p.2.2.length⟩,⟨true,.int .i64 (p.2.1:Nat)⟩]) (fun p=>[(0,.buf 1 (p.2.2.map D.str))]) 4 (fun p=>p.1≤s.length∧p.2.1≤p.1∧p.2.2.length≤p.1∧ai s b=p.2.2++a8 b (s.drop p.1) ((s.take p.1).drop p.2.1)) (fun p=>s.length-p.1) (0,0,[]) ⟨by simp,by simp,by simp,rfl⟩ (aL.to [] ae ae (by repeat(first|exact cV.nil|refine cV.un ?_|refine cV.eq ae ?_|refine cV.nl ae ae ?_|refine cV.ni (Or.inr ⟨0,1,0,rfl⟩) ?_)) (by repeat(first|exact aC.nil|refine aC.mt ae ae ae ae ?_))) ?_;rintro⟨i,fr,acc⟩ ⟨hi,hf,ha,hr⟩;dsimp only at hi hf ha hr⊢;refine aQ ?_;intro u0;refine ay ?_;refine cI (fun hc0=>?_) fun hc0=>?_
 ·refine dp ?_;refine wp_cond (fun hc1=>?_) (fun hc1=>?_)
  ·try simp only[hX]at hc1
   refine aQ ?_;refine x9 _ _ ?_;refine cg [(.str _)] ?_;refine yI ?_;exact⟨(i+1,i+1,acc++[(s.take i).drop fr]),⟨by dsimp only;omega,by dsimp only;omega,by simp;omega,by rw[hr,uY (by omega) hc1];simp⟩,by dsimp only;omega,(aL.to [(19,0)] ae ae kV (by refine aC.nl 19 ae ae ae bR ?_;exact aC.nil))⟩
  simp only[decide_eq_false_iff_not]at hc1;refine bY ?_;exact⟨(i+1,fr,acc),⟨by dsimp only;omega,by dsimp only;omega,by dsimp only;omega,by rw[hr,uZ (by omega) (by omega) hc1]⟩,by dsimp only;omega,(aL.to [(0,0)] ae ae kV (by refine aC.nl 0 ae ae ae bR ?_;exact aC.nil))⟩
 refine aT ?_;refine mr _ ?_;refine cg [(.str _)] ?_;refine az ?_;refine dT 13 ?_;refine ax ?_;refine b7 (?_);have hs:ai s b=acc++[s.drop fr]:=by rw[hr,tm (by omega)]
 rw[hs];exact rfl
def Ku (Γ:Ctx):Prop:=∀(s:ah)(b:Int),(s.length≤1048576)→Γ.pre 470 [.str s,.int .u8 b]∧Γ.val 470 [.str s,.int .u8 b]=.sl 1 ((ai s b).map D.str)
end Go.Abs
end
section
namespace Go.Abs
open Go
def zP:aB:=⟨1,2,j5,cr,(sq (r1 [gm dx] 1 0) (sq (r1 [gm s0,gM l0 (i8 48),gm l1,gmt 2 s0,cH 2 (lK l3 (i8 57)),gy l2 l4,gm l5] 1 6) .ret))⟩
def w454 {Γ:Ctx}(hm:(Γ.at 0).bp)  (c:Int)   :ef Γ zP (.bool (aM c)) [.int .u8 c]:=by
 show bz _ _ _ [⟨_,_⟩,_] _;refine ak ?_;refine ix ?_;exact bL rfl
def Ko (Γ:Ctx):Prop:=∀(c:Int),Γ.pre 454 [.int .u8 c]∧Γ.val 454 [.int .u8 c]=.bool (aM c)
def yh:aB:=⟨1,9,[⟨1,none⟩,⟨2,none⟩],iK,(sq (rg [gm bD,gm dx] [(1,0),(2,1)]) (sq (sq (r1 [gm s0,wK l0,aV l1 b8,gm l2,eV 3 s0,cx 3 (.lenS l4),cx 3 (dh l5 Aw),fI l3 l6,gm l7,eV 8 s0,cx 8 (.lenS l9),cx 8 (dh l10 b8),eV 8 jK,gmt 12 s0,cH 12 (.ixS nn bD),cH 12 (cQ nX (i8 48)),CH 8 ll pk,fI l8 rE] 3 17) (.cond s3 (sq (rg [gm bD,gm dx] [(1,0),(2,1)]) .ret) .skip)) (sq (r1 [gm bD] 7 0) (sq (sq (r1 [gm bD] 4 0) (.block 0 (.loop (sq (sq (r1 [gm s4,gm s0,wK l1,aV l0 l2] 5 3) (iS s5 0)) (sq (.block 1 (sq (sq (r1 [gm s0,gm s4,F5 l0 l1,gx 454 [l2] cr,om l3] 6 4) (.cond s6 (sq (rg [gm bD,gm dx] [(1,0),(2,1)]) .ret) .skip)) (r1 [gm s7,gn (.bin .mul l0 (i6 10)),gm s0,gm s4,F5 l2 l3,ff l4 (i8 48),gn (.cvi .i64 l5),av l1 l6,gm l7] 7 8))) (r1 [gm s4,av l0 b8,gm l1] 4 2)))))) (sq (sq (r1 [gm s7,dz l0 (i6 9999)] 8 1) (.cond s8 (sq (rg [gm bD,gm dx] [(1,0),(2,1)]) .ret) .skip)) (sq (rg [gm s7,gm l0,gm tK] [(1,1),(2,2)]) .ret))))))⟩
def w667 {Γ:Ctx}(hm:(Γ.at 0).bp)(h454:Ko Γ)(s:ah)   :ef Γ yh (.tup [.int .i64 (cT s),.bool (dM s)]) [.str s]:=by
 show bz _ _ _ [⟨_,_⟩,_,_,_,_,_,_,_,_] _;refine ak ?_;refine ba ?_;intro u0;refine az ?_;refine nr ?_;refine aA ?_;refine nr ?_;refine az ?_;refine AL 0 ?_;refine aA ?_;refine cI (fun hc0=>?_) fun hc0=>?_
 ·refine aT ?_;refine b7 (aR (congrArg (D.int .i64) ?_) (congrArg D.bool ?_));all_goals
   have:dM s=false:=by
    simp only[dM];rcases hc0 with(h|h)|h
    ·rw[decide_eq_false (by omega:¬1≤s.length)];rfl
    ·rw[decide_eq_false (by omega:¬s.length≤9)];simp
    ·rw[decide_eq_true (by omega:1<s.length),decide_eq_true h.2];simp
   simp[cT,this]
 refine bY ?_;have hP:dM s=(cj (fun i=>aM (at8 s i)) 0 s.length&&decide (cO s≤9999)):=by
  simp only[dM];rw[decide_eq_true (by omega:1≤s.length),decide_eq_true (by omega:s.length≤9)];rcases hc0.2 with h|h
  ·rw[decide_eq_false (by omega:¬1<s.length)];rfl
  ·rw[decide_eq_false h,Bool.and_false];rfl
 refine br hm (ι:=Nat) (fun i=>[⟨true,.str s⟩,.un,.un,.un,⟨true,.int .i64 (i:Nat)⟩,.un,.un,⟨true,.int .i64 (cO (s.take i):Nat)⟩,.un]) (fun i=>[]) 22 (fun i=>i≤s.length∧s.length≤9∧dM s=(cj (fun i=>aM (at8 s i)) i s.length&&decide (cO s≤9999))) (fun i=>s.length-i) 0 ⟨by omega,by omega,hP⟩ (ek []) ?_;rintro i ⟨hi,h9,hr⟩;refine aQ ?_;intro u1;refine ay ?_;refine cI (fun hc1=>?_) fun hc1=>?_
 ·refine ba ?_;refine aj (hc:=h454 _) ?_;refine ay ?_;refine aq (fun hc2=>?_) (fun hc2=>?_)
  ·try simp only[hX]at hc2
   refine bY ?_;refine b7 (aR (congrArg (D.int .i64) ?_) (congrArg D.bool ?_));all_goals
    have:dM s=false:=by rw[hr,aK (by omega),hc2];rfl
    simp[cT,this]
  simp only[Bool.not_eq_false']at hc2;refine ay ?_;have h48:=hc2;simp only[aM,Bool.and_eq_true,decide_eq_true_eq]at h48;have hn:=oU s i (by omega);have hn2:=qE s i (by omega);have h256:=C2 s i;refine ax ?_;refine rM ?_;refine az ?_;refine EH (at8 s i-48) (hb:=fun _=>IntWalk.u8_in _ (by omega)) ?_;refine qG (at8 s i-48) (hb:=fun _=>IntWalk.i64_in _ (by omega)) ?_;refine az ?_;rw[show(cO (s.take i):Int)*10+(at8 s i-48)=(cO (s.take (i+1)):Nat)by omega];refine ba ?_;exact⟨i+1,⟨by omega,h9,by rw[hr,aK (by omega),hc2];rfl⟩,by omega,(ek [])⟩
 refine aA ?_;have ht:s.take i=s:=List.take_of_length_le (by omega);rw[ht];refine az ?_;refine cI (fun hc3=>?_) fun hc3=>?_
 ·refine aT ?_;refine b7 (aR (congrArg (D.int .i64) ?_) (congrArg D.bool ?_));all_goals
   have:dM s=false:=by rw[hr,decide_eq_false (by omega),Bool.and_false]
   simp[cT,this]
 refine ba ?_;refine b7 (aR (congrArg (D.int .i64) ?_) (congrArg D.bool ?_));all_goals
  have:dM s=true:=by rw[hr,bW (by omega),decide_eq_true (by omega)];rfl
  simp[cT,this]
def KF (Γ:Ctx):Prop:=∀(s:ah),Γ.pre 667 [.str s]∧Γ.val 667 [.str s]=.tup [.int .i64 (cT s),.bool (dM s)]
def wx:aB:=⟨1,5,j5,cr,(sq (r1 [gm dx] 1 0) (sq (sq (r1 [gm bD] 2 0) (.block 0 (.loop (sq (sq (r1 [gm s2,gm s0,wK l1,aV l0 l2] 3 3) (iS s3 0)) (sq (.block 1 (sq (r1 [gm s0,gm s2,F5 l0 l1,aV l2 (i8 48),gm l3,eV 4 s0,eV 4 s2,cx 4 (.ixS l5 l6),cx 4 (dh l7 (i8 57)),fI l4 l8] 4 9) (ny s4 dx))) (r1 [gm s2,av l0 b8,gm l1] 2 2)))))) (sq (r1 [gm s0,wK l0,dz l1 bD,gm l2] 1 3) .ret)))⟩
def w668 {Γ:Ctx}(hm:(Γ.at 0).bp)  (t:ah)   :ef Γ wx (.bool (dc t)) [.str t]:=by
 show bz _ _ _ [⟨_,_⟩,_,_,_,_] _;refine ak ?_;refine aT ?_;refine br hm (ι:=Nat) (fun i=>[⟨true,.str t⟩,.un,⟨true,.int .i64 (i:Nat)⟩,.un,.un]) (fun i=>[]) 2 (fun i=>i≤t.length∧cj (fun i=>aM (at8 t i)) 0 t.length=cj (fun i=>aM (at8 t i)) i t.length) (fun i=>t.length-i) 0 ⟨by omega,rfl⟩ (ek []) ?_;rintro i ⟨hi,hr⟩;refine aQ ?_;intro u0;refine ay ?_;refine cI (fun hc0=>?_) fun hc0=>?_
 ·refine vy ?_;refine fN (fun hc1=>?_) fun hc1=>?_
  ·refine aT ?_;refine bL ?_;simp only[dc];rw[hr,aK (by omega)];rcases hc1 with h|h<;>simp[aM]<;>omega
  refine bY ?_;exact⟨i+1,⟨by omega,by rw[hr,aK (by omega)];rw[show aM (at8 t i)=true by simp only[aM,Bool.and_eq_true,decide_eq_true_eq];omega];rfl⟩,by omega,(ek [])⟩
 refine aQ ?_;intro u1;refine aA ?_;refine bL ?_;simp only[dc];rw[hr,bW (by omega)];simp
def KG (Γ:Ctx):Prop:=∀(t:ah),Γ.pre 668 [.str t]∧Γ.val 668 [.str t]=.bool (dc t)
def EM:aB:=⟨1,7,j5,cr,(sq (r1 [gm dx] 1 0) (sq (sq (r1 [gm s0,wK l0,aV l1 b8,gm l2,eV 3 s0,cx 3 (.lenS l4),cx 3 (dh l5 Gc),fI l3 l6] 2 7) (ny s2 dx)) (sq (sq (r1 [gm bD] 3 0) (.block 0 (.loop (sq (sq (r1 [gm s3,gm s0,wK l1,aV l0 l2] 4 3) (iS s4 0)) (sq (.block 1 (sq (r1 [gm s0,gm s3,F5 l0 l1,gm l2] 5 3) (sq (r1 [gm s5,aV l0 (i8 97),gm l1,eV 2 s5,cx 2 (dh l3 (i8 122)),fI l2 l4,gm l5,gmt 6 s5,cH 6 (ov l7 (i8 48)),gmt 6 l8,eV 9 s5,cx 9 (dh l10 (i8 57)),JQ 6 l9 jK,gy l6 ll,gm nn,gmt 14 s5,cH 14 (eR pk (i8 45)),gy nX rE] 6 17) (ny s6 dx)))) (r1 [gm s3,av l0 b8,gm l1] 3 2)))))) (zk tK))))⟩
def w666 {Γ:Ctx}(hm:(Γ.at 0).bp)  (t:ah)   :ef Γ EM (.bool (lF t)) [.str t]:=by
 show bz _ _ _ [⟨_,_⟩,_,_,_,_,_,_] _;refine ak ?_;refine aT ?_;intro u0;refine az ?_;refine nr ?_;refine az ?_;refine cI (fun hc0=>?_) fun hc0=>?_
 ·refine aQ ?_;refine bL ?_;symm;simp only[lF,Bool.and_eq_false_iff,decide_eq_false_iff_not];exact Or.inl (by omega)
 refine aQ ?_;refine br hm (ι:=Nat) (fun i=>[⟨true,.str t⟩,.un,.un,⟨true,.int .i64 (i:Nat)⟩,.un,.un,.un]) (fun i=>[]) 10 (fun i=>i≤t.length∧lF t=cj (fun i=>jg (at8 t i)) i t.length) (fun i=>t.length-i) 0 ⟨by omega,by simp only[lF];rw[decide_eq_true (by omega),decide_eq_true (by omega)];rfl⟩ (ek []) ?_;rintro i ⟨hi,hr⟩;refine aQ ?_;intro u1;refine ay ?_;refine cI (fun hc1=>?_) fun hc1=>?_
 ·refine Fc ?_;refine fN (fun hc2=>?_) fun hc2=>?_
  ·refine aT ?_;refine bL ?_;rw[hr,aK (by omega)];have:jg (at8 t i)=false:=(by simp only[jg,fJ,aM,Bool.or_eq_false_iff,Bool.and_eq_false_iff,decide_eq_false_iff_not];omega);rw[this];rfl
  refine bY ?_;exact⟨i+1,⟨by omega,by rw[hr,aK (by omega)];have:jg (at8 t i)=true:=(by simp only[jg,fJ,aM,Bool.or_eq_true,Bool.and_eq_true,decide_eq_true_eq];omega);rw[this];rfl⟩,by omega,(ek [])⟩
 refine aT ?_;refine bL ?_;rw[hr,bW (by omega)]
def KE (Γ:Ctx):Prop:=∀(t:ah),Γ.pre 666 [.str t]∧Γ.val 666 [.str t]=.bool (lF t)
def Ci:aB:=⟨2,11,[⟨2,none⟩],cr,(sq (r1 [gm dx] 2 0) (sq (sq (r1 [gm s0,aE l0 cse] 3 1) (.cond s3 (sq (r1 [gm tK] 2 0) .ret) .skip)) (sq (r1 [gm s0,gx 470 [l0,(i8 46)] iK,gm l1] 4 2) (sq (sq (r1 [gm s4,gl l0,dz l1 tF] 5 2) (.cond s5 (sq (r1 [gm dx] 2 0) .ret) .skip)) (sq (sq (r1 [gm bD] 6 0) (.block 0 (.loop (sq (sq (r1 [gm s6,gm s4,gl l1,aV l0 l2] 7 3) (iS s7 0)) (sq (.block 1 (sq (sq (r1 [gm s4,gm s6,ga 1 l0 l1,gd l2,gx 666 [l3] cr,om l4] 8 5) (.cond s8 (sq (r1 [gm dx] 2 0) .ret) .skip)) (sq (r1 [gm s4,gm s6,ga 1 l0 l1,gd l2,gx 667 [l3] cr,gm l4,ge l5 0,ge l5 1,gm l6,gm l7] 9 9) (sq (r1 [gm s1,gm l0,gmt 1 s4,gmt 1 s6,cH 1 (.ia 1 l2 l3),ph 1 l4,cH 1 (.call 668 [l5] cr),gy l1 l6,gm l7,gmt 8 s9,cH 8 (.un .not l9),gy l8 l10] 10 11) (.cond lr (sq (r1 [gm dx] 2 0) .ret) .skip))))) (r1 [gm s6,av l0 b8,gm l1] 6 2)))))) (sq (r1 [gm tK] 2 0) .ret))))))⟩
def w456 {Γ:Ctx}(hm:(Γ.at 0).bp)(h470:Ku Γ)(h666:KE Γ)(h667:KF Γ)(h668:KG Γ)(s:ah)(p:Bool)  (hp0:s.length≤1048576):ef Γ Ci (.bool (mC s p)) [.str s,.bool p]:=by
 show bz _ _ _ [⟨_,_⟩,⟨_,_⟩,_,_,_,_,_,_,_,_,_] _;refine ak ?_;refine ba ?_;refine cI (fun hc0=>?_) fun hc0=>?_
 ·refine aQ ?_;refine bL ?_;simp[mC,hc0]
 refine az ?_;refine aj (hc:=h470 _ _ ?_) ?_;rotate_left;first|assumption|omega;have hlen:=cL s 46
 refine aT ?_;intro u0;refine ay ?_;refine aq (fun hc1=>?_) (fun hc1=>?_)
 ·try simp only[hX]at hc1
  refine aQ ?_;refine bL ?_;simp only[mC,iO];rw[decide_eq_false hc0,decide_eq_false (by omega)];rfl
 simp only[decide_eq_false_iff_not]at hc1;refine aQ ?_;refine br hm (ι:=Nat) (fun i=>[⟨true,.str s⟩,⟨true,.bool p⟩,.un,.un,⟨true,.sl 1 ((ai s 46).map D.str)⟩,.un,⟨true,.int .i64 (i:Nat)⟩,.un,.un,.un,.un]) (fun i=>[]) 10 (fun i=>i≤(ai s 46).length∧mC s p=cj (fun i=>ee p (ai s 46)[i]!) i (ai s 46).length) (fun i=>(ai s 46).length-i) 0 ⟨by omega,by simp only[mC,iO];rw[decide_eq_false hc0,decide_eq_true (by omega)];rfl⟩ (ek []) ?_;rintro i ⟨hi,hr⟩;refine aQ ?_;intro u1;refine ay ?_;refine cI (fun hc2=>?_) fun hc2=>?_
 ·refine bY ?_;refine aj (hc:=h666 _) ?_;refine ay ?_;refine aq (fun hc3=>?_) (fun hc3=>?_)
  ·simp only[Bool.not_eq_true']at hc3;refine ba ?_;refine bL ?_;rw[hr,aK (by omega)];simp only[ee,hc3];rfl
  simp only[Bool.not_eq_false']at hc3;refine aT ?_;refine aj (hc:=h667 _) ?_;refine lv ?_;refine aj (hc:=h668 _) ?_;refine aT ?_;refine wp_cond (fun hc4=>?_) (fun hc4=>?_)
  ·skip
   refine aT ?_;refine bL ?_;have h5:ee p (ai s 46)[i]! =false:=(by simp only[ee,hc3];revert hc4;generalize dc (ai s 46)[i]! =a;generalize dM (ai s 46)[i]! =b;cases p<;>cases a<;>cases b<;>simp);rw[hr,aK (by omega),h5];rfl
  skip
  refine bY ?_;exact⟨i+1,⟨by omega,by rw[hr,aK (by omega)];have h5:ee p (ai s 46)[i]! =true:=(by simp only[ee,hc3];revert hc4;generalize dc (ai s 46)[i]! =a;generalize dM (ai s 46)[i]! =b;cases p<;>cases a<;>cases b<;>simp);rw[h5];rfl⟩,by omega,(ek [])⟩
 refine aT ?_;refine bL ?_;rw[hr,bW (by omega)]
def Kr (Γ:Ctx):Prop:=∀(s:ah)(p:Bool),(s.length≤1048576)→Γ.pre 456 [.str s,.bool p]∧Γ.val 456 [.str s,.bool p]=.bool (mC s p)
def EL:aB:=⟨1,2,j5,cr,(sq (r1 [gm dx] 1 0) (sq (r1 [gm s0,gM l0 bD,gm l1,gmt 2 s0,cH 2 (lK l3 (i6 9999)),gy l2 l4,gm l5] 1 6) .ret))⟩
def w455 {Γ:Ctx}(hm:(Γ.at 0).bp)  (n:Int)   :ef Γ EL (.bool (pN n)) [.int .i64 n]:=by
 show bz _ _ _ [⟨_,_⟩,_] _;refine ak ?_;refine ix ?_;exact bL rfl
def Kq (Γ:Ctx):Prop:=∀(n:Int),Γ.pre 455 [.int .i64 n]∧Γ.val 455 [.int .i64 n]=.bool (pN n)
def EK:aB:=⟨1,3,j5,cr,(sq (rg [gb 5 s0,gm dx] [(2,0),(1,1)]) (sq (r1 [gf 0 s2,gd l0,gx 455 [l1] cr,gm l2,rC 3 1 s2,ph 3 l4,cH 3 (.call 455 [l5] cr),gy l3 l6,gm l7,rC 8 2 s2,ph 8 l9,cH 8 (.call 455 [l10] cr),gy l8 jK,gm ll,rC 13 3 s2,ph 13 nX,cH 13 (.call 456 [pk,tK] iK),gy nn rE,gm wL,rC 18 4 s2,ph 18 zp,cH 18 (.call 456 [BM,dx] iK),gy xF CI,gm Fh] 1 23) .ret))⟩
def w217 {Γ:Ctx}(hm:(Γ.at 0).bp)(h455:Kq Γ)(h456:Kr Γ)(v:dw)  (hp0:v.sm):ef Γ EK (.bool (eO v)) [dw.D v]:=by
 show bz _ _ _ [⟨_,_⟩,_,_] _;refine ak ?_;refine aT ?_;refine aj (hc:=h455 _) ?_;refine az ?_;refine aj (hc:=h455 _) ?_;refine aA ?_;refine aj (hc:=h455 _) ?_;refine aA ?_;refine eI (hc:=fun hf=>h456 v.pre true hp0.1) ?_;refine aA ?_;refine eI (hc:=fun hf=>h456 v.build false hp0.2) ?_;refine aA ?_;exact bL rfl
def J7 (Γ:Ctx):Prop:=∀(v:dw),(v.sm)→Γ.pre 217 [dw.D v]∧Γ.val 217 [dw.D v]=.bool (eO v)
end Go.Abs
end
section
namespace Go.Abs
open Go
end Go.Abs
end
section
namespace Go.Abs
open Go
end Go.Abs
end
section
namespace Go.Abs
open Go
end Go.Abs
end
section
namespace Go.Abs
open Go
end Go.Abs
end
section
namespace Go.Abs
open Go
end Go.Abs
end
section
namespace Go.Abs
open Go
end Go.Abs
end
section
namespace Go.Abs
open Go
def ua:aB:=⟨1,18,[⟨1,some (5,true)⟩,⟨2,none⟩],[[.a,.a,.a,.a,.a],[.a]],(sq (rg [gb 5 (.c (.agg [.int .i64 0,.int .i64 0,.int .i64 0,.str [],.str []])),gm bD] [(1,0),(2,1)]) (sq (r1 [gb 5 (.c (.agg [.int .i64 0,.int .i64 0,.int .i64 0,.str [],.str []]))] 4 0) (sq (r1 [gm s0,gm l0] 3 1) (sq (r1 [gm s3,gx 675 [l0,(i8 43)] iK,gm l1,ge l2 0,ge l2 1,gf 4 s4,gt 1 l5 l3,gm l4] 3 7) (sq (r1 [gm s3,gx 675 [l0,(i8 45)] iK,gm l1,ge l2 0,ge l2 1,gf 3 s4,gt 1 l5 l3,gm l4] 3 7) (sq (r1 [gm s3,gx 533 [l0,(i8 46)] iK,gm l1] 5 2) (sq (sq (r1 [gm s5,gl l0,ct l1 kd] 6 2) (.cond s6 (sq (r1 [gn (.build [.int .i64 0,.int .i64 0,.int .i64 0,.str [],.str []] []),gt 5 s1 l0,gm Av] 2 2) .ret) .skip)) (sq (r1 [gb 3 (.c (.agg [.int .i64 0,.int .i64 0,.int .i64 0]))] 16 0) (sq (sq (rg [gm s5,gl l0,gm bD] [(10,0),(8,1),(7,2)]) (.block 0 (.loop (sq (r1 [aV s7 s8] 9 0) (sq (iS s9 0) (sq (.block 1 (sq (rg [gm s7,ga 1 lr s7,gd l1,gm l0,gm l2] [(14,3),(11,4)]) (sq (rg [gm oo,gx 658 [l0] cr,gm l1,ge l2 0,ge l2 1,gm l3,gm l4] [(15,5),(12,6)]) (sq (sq (r1 [gm m6,om l0] 13 1) (.cond tk (sq (r1 [gn (.build [.int .i64 0,.int .i64 0,.int .i64 0,.str [],.str []] []),gt 5 s1 l0,gm Av] 2 2) .ret) .skip)) (rg [gm rN,gm uT,gn (.iaP 3 1 AW l0),gt 1 l2 l1] []))))) (r1 [av s7 b8,gm l0] 7 1))))))) (sq (rt [gn (.iaP 3 1 AW bD),gd l0,gn (.iaP 3 1 AW b8),gn (.ldI 1 false l2),gn (.iaP 3 1 AW kp),gn (.ldI 1 false l4),gf 0 s4,gt 1 l6 l1,gf 1 s4,gt 1 l8 l3,gf 2 s4,gt 1 l10 l5] []) (sq (sq (r1 [gk 5 true s4,gx 209 [l0] IJ,om l1,gm l2,cx 3 (.ld 5 true s4),cx 3 (.call 451 [l4] IJ),eV 3 s0,cx 3 (eR l5 l6),fI l3 l7] 17 8) (.cond wM (sq (r1 [gn (.build [.int .i64 0,.int .i64 0,.int .i64 0,.str [],.str []] []),gt 5 s1 l0,gm Av] 2 2) .ret) .skip)) (sq (r1 [gk 5 true s4,gt 5 s1 l0,gm bD] 2 2) .ret))))))))))))⟩
def w466 {Γ:Ctx}(hm:(Γ.at 0).bp)(h209:CO Γ)(h451:H0 Γ)(h533:CR Γ)(h658:Ft Γ)(h675:KH Γ)(s:ah)  (hp0:s.length≤1048576):ef Γ ua (.tup [dw.D ((lG s).getD iH),.int .i64 (tz s)]) [.str s]:=by
 show bz _ _ _ [⟨_,_⟩,_,_,_,_,_,_,_,_,_,_,_,_,_,_,_,_,_] _;have hb1:=jG s 43;have iK:=jG (dF s 43).2 45;generalize hA:dF s 43=A at hb1 iK;generalize hB:dF A.2 45=B at iK;have hsl:=cL B.2 46;generalize hL:ai B.2 46=L at hsl;have hq0:lG s=if L.length=3∧dM L[0]! =true∧dM L[1]! =true∧dM L[2]! =true then(if eO ⟨cT L[0]!,cT L[1]!,cT L[2]!,B.1,A.1⟩=true∧mG ⟨cT L[0]!,cT L[1]!,cT L[2]!,B.1,A.1⟩=s then some ⟨cT L[0]!,cT L[1]!,cT L[2]!,B.1,A.1⟩else none)else none:=by subst hA;subst hB;subst hL;rfl
 refine ak ?_;refine ix ?_;refine aj (hc:=h675 s 43) ?_;rw[hA];refine aA ?_;refine aF (dw.D ⟨0,0,0,[],A.1⟩) (he:=by exact rfl) ?_;refine aA ?_;refine aj (hc:=h675 A.2 45) ?_;rw[hB];refine aA ?_;refine aF (dw.D ⟨0,0,0,B.1,A.1⟩) (he:=by exact rfl) ?_;refine aA ?_;refine aj (hc:=h533 B.2 46 (by omega)) ?_;rw[hL];refine aT ?_;intro u0;refine ay ?_;refine cI (fun hc0=>?_) fun hc0=>?_
 ·refine ay ?_;refine bn (dw.D iH) ?_;refine aA ?_;refine b7 (aR ?_ (congrArg (D.int .i64) ?_));all_goals
   have hq:lG s=none:=by rw[hq0,if_neg (fun h=>by have:=h.1;omega)]
   simp only[tz,hq];rfl
 refine bY ?_;intro u1;refine ay ?_;refine br hm (ι:=Nat) (fun i=>[⟨true,.str s⟩,⟨true,.ptr 0 5 0 0⟩,.un,.un,⟨true,.ptr 2 5 0 0⟩,.un,.un,⟨true,.int .i64 (i:Nat)⟩,⟨true,.int .i64 (L.length:Nat)⟩,.un,⟨true,.sl 1 (L.map D.str)⟩,.un,.un,.un,.un,.un,⟨true,.ptr 27 3 0 0⟩,.un]) (fun i=>[(0,.buf 5 [dw.D iH]),(2,.buf 5 [dw.D ⟨0,0,0,B.1,A.1⟩]),(27,.buf 3 [Gv L i])]) 31 (fun i=>i≤3∧∀j,j<i→dM L[j]! =true) (fun i=>3-i) 0 ⟨by omega,fun j hj=>by omega⟩ (ek [(0,0),(2,2),(27,27)]) ?_;rintro i ⟨hi,hr⟩;refine az ?_;refine cI (fun hc1=>?_) fun hc1=>?_
 ·refine fG ?_;refine aj (hc:=h658 L[i]!) ?_;refine fG ?_;refine aq (fun hc2=>?_) (fun hc2=>?_)
  ·simp only[Bool.not_eq_true']at hc2;refine ay ?_;refine bn (dw.D iH) ?_;refine aT ?_;refine b7 (aR ?_ (congrArg (D.int .i64) ?_));all_goals
    have hq:lG s=none:=by
     rw[hq0,if_neg];rintro⟨_,h1,h2,h3⟩;rcases(show i=0∨i=1∨i=2 by omega)with rfl|rfl|rfl
     ·rw[h1]at hc2;cases hc2
     ·rw[h2]at hc2;cases hc2
     ·rw[h3]at hc2;cases hc2
    simp only[tz,hq];rfl
  simp only[Bool.not_eq_false']at hc2;refine aA ?_;refine wj i ?_;refine aF (Gv L (i+1)) (he:=DU L i (by omega)) ?_;refine ba ?_;have hr2:∀j,j<i+1→dM L[j]! =true:=by
   intro j hj;rcases Nat.eq_or_lt_of_le (Nat.lt_succ_iff.1 hj)with rfl|h
   ·exact hc2
   ·exact hr j h
  exact⟨i+1,⟨by omega,hr2⟩,by omega,(ek [(0,0),(2,2),(27,27)])⟩
 refine ay ?_;refine dT 27 ?_;refine ax ?_;have h3:i=3:=by omega
 subst h3;refine zL 0 ?_;refine gA (v:=.int .i64 (cT L[0]!)) ?_;refine zL 1 ?_;refine zM (v:=.int .i64 (cT L[1]!)) ?_;refine zL 2 ?_;refine zM (v:=.int .i64 (cT L[2]!)) ?_;refine ax ?_;refine aF (dw.D ⟨cT L[0]!,0,0,B.1,A.1⟩) (he:=by exact rfl) ?_;refine ax ?_;refine aF (dw.D ⟨cT L[0]!,cT L[1]!,0,B.1,A.1⟩) (he:=by exact rfl) ?_;refine ax ?_;refine aF (dw.D ⟨cT L[0]!,cT L[1]!,cT L[2]!,B.1,A.1⟩) (he:=by exact rfl) ?_;refine az ?_;have hsm:dw.sm ⟨cT L[0]!,cT L[1]!,cT L[2]!,B.1,A.1⟩:=⟨by simp only;omega,by simp only;omega⟩;generalize hV:(⟨cT L[0]!,cT L[1]!,cT L[2]!,B.1,A.1⟩:dw)=V at hsm hq0⊢;refine ax ?_;refine aj (hc:=h209 V hsm) ?_;refine az ?_;refine eI (hc:=fun _=>h451 V hsm) ?_;refine aA ?_;refine aq (fun hc3=>?_) (fun hc3=>?_)
 ·simp only[Bool.or_eq_true,Bool.not_eq_true',decide_eq_false_iff_not]at hc3;refine ay ?_;refine bn (dw.D iH) ?_;refine aA ?_;refine b7 (aR ?_ (congrArg (D.int .i64) ?_));all_goals
   have hq:lG s=none:=by
    rw[hq0];split
    ·rw[if_neg];rintro⟨h1,h2⟩;rcases hc3 with h|h
     ·rw[h1]at h;cases h
     ·exact h h2
    ·rfl
   simp only[tz,hq];rfl
 simp only[Bool.or_eq_false_iff,Bool.not_eq_false',decide_eq_true_eq]at hc3;refine ba ?_;refine b7 (aR ?_ (congrArg (D.int .i64) ?_));all_goals
  have hq:lG s=some V:=by
   rw[hq0,if_pos ⟨by omega,hr 0 (by omega),hr 1 (by omega),hr 2 (by omega)⟩,if_pos hc3]
  simp only[tz,hq];rfl
def Ks (Γ:Ctx):Prop:=∀(s:ah),(s.length≤1048576)→Γ.pre 466 [.str s]∧Γ.val 466 [.str s]=.tup [dw.D ((lG s).getD iH),.int .i64 (tz s)]
end Go.Abs
end
section
namespace Go.Abs
open Go
end Go.Abs
end
section
namespace Go.Abs
open Go
end Go.Abs
end
section
namespace Go.Abs
open Go
end Go.Abs
end
section
namespace Go.Abs
open Go
end Go.Abs
end
section
namespace Go.Abs
open Go
end Go.Abs
end
section
namespace Go.Abs
open Go
end Go.Abs
end
section
namespace Go.Abs
open Go
end Go.Abs
end
section
namespace Go.Abs
open Go
end Go.Abs
end
section
namespace Go.Abs
open Go
end Go.Abs
end
namespace Go.Abs
end Go.Abs
section
namespace Go.Abs
open Go
end Go.Abs
end
section
namespace Go.Abs
open Go
end Go.Abs
end
section
namespace Go.Abs
open Go
def vO:aB:=⟨2,10,[⟨2,none⟩],cr,(sq (r1 [gm bD] 2 0) (sq (sq (rg [gm s0,gl l0,gm bD] [(6,0),(4,1),(3,2)]) (.block 0 (.loop (sq (r1 [aV s3 s4] 5 0) (sq (iS s5 0) (sq (.block 1 (sq (rg [gm s3,ga 2 s6 s3,gk 2 true l1,gb 2 (.c (.agg [.str [],.ar])),gm l0,gt 2 l3 l2] [(7,3),(9,4)]) (sq (r1 [gf 0 s7,gd l0,gm s1,aE l1 l2] 8 3) (.cond s8 (sq (r1 [gm s9,gm l0] 2 1) .ret) .skip)))) (r1 [av s3 b8,gm l0] 3 1))))))) (sq (r1 [gn (.mv (.c (.int .i64 (-1))))] 2 0) .ret)))⟩
def w663 {Γ:Ctx}(hm:(Γ.at 0).bp)  (l:List bo)(nm:ah)   :ef Γ vO (.int .i64 (findF l nm 0)) [.sl 2 (l.map bo.D),.str nm]:=by
 show bz _ _ _ [⟨_,_⟩,⟨_,_⟩,_,_,_,_,_,_,_,_] _;refine ak ?_;refine aT ?_;intro u0;refine ay ?_;refine br hm (ι:=Nat) (fun i=>[⟨true,.sl 2 (l.map bo.D)⟩,⟨true,.str nm⟩,.un,⟨true,.int .i64 (i:Nat)⟩,⟨true,.int .i64 (l.length:Nat)⟩,.un,⟨true,.sl 2 (l.map bo.D)⟩,.un,.un,.un]) (fun i=>[]) 4 (fun i=>i≤l.length∧findF l nm 0=findF l nm i) (fun i=>l.length-i) 0 ⟨by omega,rfl⟩ (ek []) ?_;rintro i ⟨hi,hr⟩;refine az ?_;refine cI (fun hc0=>?_) fun hc0=>?_
 ·refine aQ ?_;first|refine ca (v:=(bo.D _)) ?_|refine gA (v:=(bo.D _)) ?_
  refine ay ?_;refine aF (bo.D l[i]!) (he:=by exact rfl) ?_;refine ba ?_;refine fN (fun hc1=>?_) fun hc1=>?_
  ·refine ba ?_;refine gW ?_;rw[hr,Dm (by omega) hc1]
  refine ba ?_;exact⟨i+1,⟨by omega,by rw[hr,Dn (by omega) hc1]⟩,by omega,(ek [])⟩
 refine aT ?_;refine gW ?_;rw[hr,Bs (by omega)]
def KD (Γ:Ctx):Prop:=∀(l:List bo)(nm:ah),Γ.pre 663 [.sl 2 (l.map bo.D),.str nm]∧Γ.val 663 [.sl 2 (l.map bo.D),.str nm]=.int .i64 (findF l nm 0)
def tM:aB:=⟨2,3,[⟨2,none⟩],cr,(sq (r1 [gm dx] 2 0) (sq (r1 [gm s1,aE l0 (cs [100,101,102,97,117,108,116]),gm l1,eV 2 s0,eV 2 s1,cx 2 (.call 663 [l3,l4] [[.sl 2 [.a,.sl 1 [.a]]],[.a]]),cx 2 (wZ l5 bD),fI l2 l6,gm l7] 2 8) .ret))⟩
def w449 {Γ:Ctx}(hm:(Γ.at 0).bp)(h663:KD Γ)(l:List bo)(nm:ah)   :ef Γ tM (.bool (JS l nm)) [.sl 2 (l.map bo.D),.str nm]:=by
 show bz _ _ _ [⟨_,_⟩,⟨_,_⟩,_] _;refine ak ?_;refine bY ?_;refine aj (hc:=h663 _ _) ?_;refine aQ ?_;exact bL rfl
def Kn (Γ:Ctx):Prop:=∀(l:List bo)(nm:ah),Γ.pre 449 [.sl 2 (l.map bo.D),.str nm]∧Γ.val 449 [.sl 2 (l.map bo.D),.str nm]=.bool (JS l nm)
end Go.Abs
end
section
namespace Go.Abs
open Go
def vP:aB:=⟨1,12,[⟨1,none⟩,⟨2,none⟩,⟨3,none⟩],LD,(sq (rg [gm bD,gm cse,gm cse] [(1,0),(2,1),(3,2)]) (sq (sq (r1 [gm s0,gx 349 [l0] cr] 4 1) (.cond s4 (sq (rg [gm s0,gm b8,gm l0,gm cse] [(1,1),(2,2),(3,3)]) .ret) .skip)) (sq (sq (rg [gm s0,gx 254 [l0,(cs [63])] iK,gm l1,ge l2 0,ge l2 1,gm l3,gm l4] [(6,5),(5,6)]) (sq (r1 [gm s5,gm l0,gmt 1 s6,cH 1 (.call 349 [l2] cr),gy l1 l3] 7 4) (.cond s7 (sq (rg [gm s6,gm kp,gm l0,gm cse] [(1,1),(2,2),(3,3)]) .ret) .skip))) (sq (sq (rg [gm s0,gx 487 [l0,(cs [47])] iK,gm l1,ge l2 0,ge l2 1,ge l2 2,gm l3,gm l4,gm l5] [(9,6),(10,7),(8,8)]) (sq (r1 [gm s8,gm l0,gmt 1 s9,cH 1 (.call 208 [l2] cr),gy l1 l3,gm l4,gmt 5 lr,cH 5 (.call 349 [l6] cr),gy l5 l7] 11 8) (.cond oo (sq (rg [gm s9,gm lr,gm kd,gm l0,gm l1] [(1,2),(2,3),(3,4)]) .ret) .skip))) (sq (rg [gm bD,gm cse,gm cse] [(1,0),(2,1),(3,2)]) .ret)))))⟩
def w448 {Γ:Ctx}(hm:(Γ.at 0).bp)(h208:Fm Γ)(h254:Ke Γ)(h349:yO Γ)(h487:Ky Γ)(s:ah)  (hp0:s.length≤1048576):ef Γ vP (.tup [.int .i64 (bZ s).1,.str (bZ s).2.1,.str (bZ s).2.2]) [.str s]:=by
 show bz _ _ _ [⟨_,_⟩,_,_,_,_,_,_,_,_,_,_,_] _;refine ak ?_;refine ba ?_;refine aj (hc:=h349 _) ?_;refine ax ?_;refine cI (fun hc0=>?_) fun hc0=>?_
 ·refine bY ?_;refine b7 (jQ (congrArg (D.int .i64) ?_) (congrArg D.str ?_) (congrArg D.str ?_));all_goals rw[Gg hc0]
 refine aA ?_;refine aj (hc:=h254 s [63] hp0 (by decide)) ?_;refine fG ?_;refine aj (hc:=h349 _) ?_;refine ay ?_;refine cI (fun hc1=>?_) fun hc1=>?_
 ·refine bY ?_;refine b7 (jQ (congrArg (D.int .i64) ?_) (congrArg D.str ?_) (congrArg D.str ?_));all_goals rw[Gl hc0 hc1]
 refine aA ?_;refine aj (hc:=h487 s 47 hp0) ?_;refine lv ?_;refine aj (hc:=h208 _) ?_;refine az ?_;refine aj (hc:=h349 _) ?_;refine ay ?_;refine cI (fun hc2=>?_) fun hc2=>?_
 ·refine dp ?_;refine b7 (jQ (congrArg (D.int .i64) ?_) (congrArg D.str ?_) (congrArg D.str ?_));all_goals rw[Gm hc0 hc1 hc2]
 refine ba ?_;refine b7 (jQ (congrArg (D.int .i64) ?_) (congrArg D.str ?_) (congrArg D.str ?_));all_goals rw[Gk hc0 hc1 hc2]
def HY (Γ:Ctx):Prop:=∀(s:ah),(s.length≤1048576)→Γ.pre 448 [.str s]∧Γ.val 448 [.str s]=.tup [.int .i64 (bZ s).1,.str (bZ s).2.1,.str (bZ s).2.2]
end Go.Abs
end
section
namespace Go.Abs
open Go
def xm:aB:=⟨1,18,j5,cr,(sq (r1 [gm dx] 1 0) (sq (sq (r1 [gm s0,gl l0,dz l1 Gc] 2 2) (ny s2 dx)) (sq (sq (rg [gm s0,gl l0,gm bD] [(6,0),(4,1),(3,2)]) (.block 0 (.loop (sq (r1 [aV s3 s4] 5 0) (sq (iS s5 0) (sq (.block 1 (sq (rg [gm s3,ga 2 s6 s3,gk 2 true l1,gb 2 (.c (.agg [.str [],.ar])),gm l0,gt 2 l3 l2] [(7,3),(8,4)]) (sq (sq (r2 [gf 0 s7,gd l0,gx 349 [l1] cr,om l2,gm l3,eV 4 s8,cx 4 (dh l5 bD),eV 4 l6,gmt 7 s0,gmt 7 s8,cH 7 (lL l9 b8),cH 7 (.ia 2 l8 l10),rC 7 0 jK,ph 7 ll,rC 7 0 s7,ph 7 nX,cH 7 (wZ nn pk),CH 4 l7 rE,fI l4 wL,gm xF,ko 19 1 s7,lB 19 BM,cx 19 (.len CI),cx 19 (dh Fh zm),fI zp IV,gm IW,ko 25 1 s7,lB 25 JT,cx 25 (.call 447 [LJ] [[.sl 1 [.a]]]),cx 25 (.un .not LK),fI IX LL] 9 30) (ny s9 dx)) (sq (rg [gf 1 s7,gd l0,gl l1,gm bD] [(13,1),(11,2),(10,3)]) (.block 2 (.loop (sq (r1 [aV lr oo] 12 0) (sq (iS m6 2) (sq (.block 3 (sq (r1 [ga 1 tk lr,gd l0,gm l1] 14 2) (sq (rg [gm rN,gx 448 [l0] cr,gm l1,ge l2 0,ge l2 1,ge l2 2,gm l3,gm l4,gm l5] [(15,6),(16,7)]) (sq (r1 [gm uT,aE l0 bD,gm l1,eV 2 uT,cx 2 (cQ l3 b8),eV 2 l4,gmt 5 s0,gmt 5 AW,cH 5 (.call 449 [l6,l7] [[.sl 2 [.a,.sl 1 [.a]]],[.a]]),cH 5 (.un .not l8),CH 2 l5 l9,fI l2 l10] 17 11) (ny wM dx))))) (r1 [av lr b8,gm l0] 10 1)))))))))) (r1 [av s3 b8,gm l0] 3 1))))))) (zk tK))))⟩
def w213 {Γ:Ctx}(hm:(Γ.at 0).bp)(h349:yO Γ)(h447:Km Γ)(h448:HY Γ)(h449:Kn Γ)(l:List bo)  (hp0:ry l):ef Γ xm (.bool (e7 l)) [.sl 2 (l.map bo.D)]:=by
 show bz _ _ _ [⟨_,_⟩,_,_,_,_,_,_,_,_,_,_,_,_,_,_,_,_,_] _;refine ak ?_;refine aT ?_;intro u0;refine ay ?_;refine cI (fun hc0=>?_) fun hc0=>?_
 ·refine aQ ?_;refine bL ?_;symm;simp only[e7];rw[decide_eq_false (by omega)];rfl
 refine aQ ?_;intro u1;refine ay ?_;have hb:e7 l=cj (jV l) 0 l.length:=by simp only[e7];rw[decide_eq_true (by omega)];rfl
 refine br hm (ι:=Nat) (fun i=>[⟨true,.sl 2 (l.map bo.D)⟩,.un,.un,⟨true,.int .i64 (i:Nat)⟩,⟨true,.int .i64 (l.length:Nat)⟩,.un,⟨true,.sl 2 (l.map bo.D)⟩,.un,.un,.un,.un,.un,.un,.un,.un,.un,.un,.un]) (fun i=>[]) 7 (fun i=>i≤l.length∧e7 l=cj (jV l) i l.length) (fun i=>l.length-i) 0 ⟨by omega,hb⟩ (ek []) ?_;rintro i ⟨hi,hr⟩;refine az ?_;refine cI (fun hc1=>?_) fun hc1=>?_
 ·refine aQ ?_;first|refine ca (v:=(bo.D _)) ?_|refine gA (v:=(bo.D _)) ?_
  refine ay ?_;refine aF (bo.D l[i]!) (he:=by exact rfl) ?_;refine aQ ?_;refine aj (hc:=h349 _) ?_;refine bY ?_;refine cE (i-1) ?_;refine jB ?_;refine nr ?_;refine aQ ?_;refine aj (hc:=h447 _) ?_;refine az ?_;refine aq (fun hc2=>?_) (fun hc2=>?_)
  ·have hfo:=Bm hc2;refine ba ?_;refine bL ?_;rw[hr,aK (by omega),hfo];rfl
  have hfo:=Bn hc2;refine aQ ?_;intro u2;refine ay ?_;refine pd hm (ι:=Nat) (fun j=>[⟨true,.sl 2 (l.map bo.D)⟩,.un,.un,⟨true,.int .i64 (i:Nat)⟩,⟨true,.int .i64 (l.length:Nat)⟩,.un,⟨true,.sl 2 (l.map bo.D)⟩,.un,.un,.un,⟨true,.int .i64 (j:Nat)⟩,⟨true,.int .i64 (l[i]!.of.length:Nat)⟩,.un,⟨true,.sl 1 (l[i]!.of.map D.str)⟩,.un,.un,.un,.un]) (fun j=>[]) 49 (fun j=>j≤l[i]!.of.length∧jV l i=cj (fun j=>iz l l[i]!.of[j]!) j l[i]!.of.length) (fun j=>l[i]!.of.length-j) 0 ⟨by omega,hfo⟩ (ek []) ?_;rintro j ⟨hj,hjr⟩;refine az ?_;refine cI (fun hc3=>?_) fun hc3=>?_
  ·refine dp ?_;refine aj (hc:=h448 l[i]!.of[j]! ((hp0 _ (bG (by omega))).2.2 _ (bG (by omega)))) ?_;refine Fb ?_;refine aj (hc:=h449 _ _) ?_;refine aA ?_;refine wp_cond (fun hc4=>?_) (fun hc4=>?_)
   ·have hz:iz l l[i]!.of[j]! =false:=by simp only[iz,hc4];rfl
    refine bY ?_;refine bL ?_;rw[hr,aK (by omega),hjr,aK (by omega),hz];rfl
   have hz:iz l l[i]!.of[j]! =true:=by simp only[iz,hc4];rfl
   refine ba ?_;exact⟨j+1,⟨by omega,by rw[hjr,aK (by omega),hz];rfl⟩,by omega,(ek [])⟩
  refine bY ?_;exact⟨i+1,⟨by omega,by rw[hr,aK (by omega),hjr,bW (by omega)];rfl⟩,by omega,(ek [])⟩
 refine aT ?_;refine bL ?_;rw[hr,bW (by omega)]
def J5 (Γ:Ctx):Prop:=∀(l:List bo),(ry l)→Γ.pre 213 [.sl 2 (l.map bo.D)]∧Γ.val 213 [.sl 2 (l.map bo.D)]=.bool (e7 l)
end Go.Abs
end
section
namespace Go.Abs
open Go
def Cj:aB:=⟨1,11,j5,cr,(sq (r1 [gm cse] 1 0) (sq (sq (r1 [gm s0] 2 0) (.block 0 (sq (r1 [aE s2 b8,gm l0] 3 1) (.cond s3 (sq (r1 [gm (cs [61])] 1 0) .ret) (sq (r1 [aE s2 kp,gm l0] 4 1) (.cond s4 (sq (r1 [gm (cs [33,61])] 1 0) .ret) (sq (r1 [aE s2 kd,gm l0] 5 1) (.cond s5 (sq (r1 [gm (cs [60])] 1 0) .ret) (sq (r1 [aE s2 tF,gm l0] 6 1) (.cond s6 (sq (r1 [gm (cs [60,61])] 1 0) .ret) (sq (r1 [aE s2 Av,gm l0] 7 1) (.cond s7 (sq (r1 [gm (cs [62])] 1 0) .ret) (sq (r1 [aE s2 zm,gm l0] 8 1) (.cond s8 (sq (r1 [gm (cs [62,61])] 1 0) .ret) (sq (r1 [aE s2 IM,gm l0] 9 1) (.cond s9 (sq (r1 [gm (cs [94])] 1 0) .ret) (sq (r1 [aE s2 Gc,gm l0] 10 1) (.cond lr (sq (r1 [gm (cs [126])] 1 0) .ret) .skip)))))))))))))))))) (zk cse)))⟩
def w678 {Γ:Ctx}(hm:(Γ.at 0).bp)  (op:Int)   :ef Γ Cj (.str (bM op)) [.int .i64 op]:=by
 show bz _ _ _ [⟨_,_⟩,_,_,_,_,_,_,_,_,_,_] _;refine ak ?_;refine fG ?_;refine fN (fun hc0=>?_) fun hc0=>?_
 ·refine aQ ?_;refine cq ?_;unfold bM;simp_all
 refine aA ?_;refine fN (fun hc1=>?_) fun hc1=>?_
 ·refine aQ ?_;refine cq ?_;unfold bM;simp_all
 refine aA ?_;refine fN (fun hc2=>?_) fun hc2=>?_
 ·refine aQ ?_;refine cq ?_;unfold bM;simp_all
 refine aA ?_;refine fN (fun hc3=>?_) fun hc3=>?_
 ·refine aQ ?_;refine cq ?_;unfold bM;simp_all
 refine aA ?_;refine fN (fun hc4=>?_) fun hc4=>?_
 ·refine aQ ?_;refine cq ?_;unfold bM;simp_all
 refine aA ?_;refine fN (fun hc5=>?_) fun hc5=>?_
 ·refine aQ ?_;refine cq ?_;unfold bM;simp_all
 refine aA ?_;refine fN (fun hc6=>?_) fun hc6=>?_
 ·refine aQ ?_;refine cq ?_;unfold bM;simp_all
 refine aA ?_;refine fN (fun hc7=>?_) fun hc7=>?_
 ·refine aQ ?_;refine cq ?_;unfold bM;simp_all
 refine aT ?_;refine cq ?_;unfold bM;simp_all
def KJ (Γ:Ctx):Prop:=∀(op:Int),Γ.pre 678 [.int .i64 op]∧Γ.val 678 [.int .i64 op]=.str (bM op)
def Bh:aB:=⟨1,11,j5,cr,(sq (r1 [gm cse] 1 0) (sq (sq (r1 [gm s0] 2 0) (.block 0 (sq (r1 [aE s2 b8,gm l0] 3 1) (.cond s3 (sq (r1 [gm (cs [61])] 1 0) .ret) (sq (r1 [aE s2 kp,gm l0] 4 1) (.cond s4 (sq (r1 [gm (cs [33,61])] 1 0) .ret) (sq (r1 [aE s2 kd,gm l0] 5 1) (.cond s5 (sq (r1 [gm (cs [60])] 1 0) .ret) (sq (r1 [aE s2 tF,gm l0] 6 1) (.cond s6 (sq (r1 [gm (cs [60,61])] 1 0) .ret) (sq (r1 [aE s2 Av,gm l0] 7 1) (.cond s7 (sq (r1 [gm (cs [62])] 1 0) .ret) (sq (r1 [aE s2 zm,gm l0] 8 1) (.cond s8 (sq (r1 [gm (cs [62,61])] 1 0) .ret) (sq (r1 [aE s2 IM,gm l0] 9 1) (.cond s9 (sq (r1 [gm (cs [94])] 1 0) .ret) (sq (r1 [aE s2 Gc,gm l0] 10 1) (.cond lr (sq (r1 [gm (cs [126])] 1 0) .ret) .skip)))))))))))))))))) (zk cse)))⟩
def w957 {Γ:Ctx}(hm:(Γ.at 0).bp)  (op:Int)   :ef Γ Bh (.str (bM op)) [.int .i64 op]:=by
 show bz _ _ _ [⟨_,_⟩,_,_,_,_,_,_,_,_,_,_] _;refine ak ?_;refine fG ?_;refine fN (fun hc0=>?_) fun hc0=>?_
 ·refine aQ ?_;refine cq ?_;unfold bM;simp_all
 refine aA ?_;refine fN (fun hc1=>?_) fun hc1=>?_
 ·refine aQ ?_;refine cq ?_;unfold bM;simp_all
 refine aA ?_;refine fN (fun hc2=>?_) fun hc2=>?_
 ·refine aQ ?_;refine cq ?_;unfold bM;simp_all
 refine aA ?_;refine fN (fun hc3=>?_) fun hc3=>?_
 ·refine aQ ?_;refine cq ?_;unfold bM;simp_all
 refine aA ?_;refine fN (fun hc4=>?_) fun hc4=>?_
 ·refine aQ ?_;refine cq ?_;unfold bM;simp_all
 refine aA ?_;refine fN (fun hc5=>?_) fun hc5=>?_
 ·refine aQ ?_;refine cq ?_;unfold bM;simp_all
 refine aA ?_;refine fN (fun hc6=>?_) fun hc6=>?_
 ·refine aQ ?_;refine cq ?_;unfold bM;simp_all
 refine aA ?_;refine fN (fun hc7=>?_) fun hc7=>?_
 ·refine aQ ?_;refine cq ?_;unfold bM;simp_all
 refine aT ?_;refine cq ?_;unfold bM;simp_all
def Ih (Γ:Ctx):Prop:=∀(op:Int),Γ.pre 957 [.int .i64 op]∧Γ.val 957 [.int .i64 op]=.str (bM op)
def xf:aB:=⟨2,3,[⟨2,none⟩],cr,(sq (r1 [gm dx] 2 0) (sq (r1 [gm s0,wK l0,gm s1,wK l2,gM l1 l3,gm l4,gmt 5 s0,gmt 5 s1,cH 5 (.lenS l7),cH 5 (.slS l6 none (some l8)),gmt 5 s1,cH 5 (cQ l9 l10),gy l5 jK,gm ll] 2 13) .ret))⟩
def w956 {Γ:Ctx}(hm:(Γ.at 0).bp)  (s:ah)(w:ah)   :ef Γ xf (.bool (pC s w)) [.str s,.str w]:=by
 show bz _ _ _ [⟨_,_⟩,⟨_,_⟩,_] _;refine ak ?_;refine aQ ?_;intro u0;refine ay ?_;intro u1;refine aA ?_;refine nr ?_;refine ta w.length (hj:=fun _=>rfl) (hb:=fun h=>by simp at h;omega) ?_;refine aT ?_;refine bL ?_;unfold pC;rw[show decide ((w.length:Int)≤(s.length:Int))=decide (w.length≤s.length)from decide_eq_decide.2 (by omega)]
def KT (Γ:Ctx):Prop:=∀(s:ah)(w:ah),Γ.pre 956 [.str s,.str w]∧Γ.val 956 [.str s,.str w]=.bool (pC s w)
end Go.Abs
end
section
namespace Go.Abs
open Go
def EN:aB:=⟨1,8,j5,cr,(sq (rg [gb 7 s0,gm dx] [(2,0),(1,1)]) (sq (sq (r1 [gf 0 s2,gd l0,aV l1 b8,gm l2,ko 3 0 s2,lB 3 l4,cx 3 (dh l5 Aw),fI l3 l6,gm l7,ko 8 2 s2,cx 8 (.ld 5 true l9),cx 8 (.call 217 [l10] IJ),cx 8 (.un .not jK),fI l8 ll,gm nn,ko 14 2 s2,ko 14 4 pk,lB 14 rE,cx 14 (eR wL cse),fI nX xF] 3 19) (ny s3 dx)) (sq (rg [gm b8,gm kd] [(5,0),(6,1)]) (sq (sq (r1 [gf 0 s2,gd l0,aE l1 Aw] 4 2) (.cond s4 (rg [gm bD,gm kp] [(5,0),(6,1)]) .skip)) (sq (sq (r1 [gf 1 s2,gd l0,gm s5,aV l1 l2,gm l3,ko 4 1 s2,lB 4 l5,eV 4 s6,cx 4 (dh l6 l7),fI l4 l8,gm l9,ko 10 1 s2,lB 10 jK,cx 10 (ov ll kd),eV 10 nn,rC 14 2 s2,rC 14 3 pk,ph 14 rE,cH 14 (eR wL cse),CH 10 nX xF,fI l10 zp] 7 20) (ny s7 dx)) (sq (r1 [gf 1 s2,gd l0,dz l1 bD,gm l2,ko 3 2 s2,ko 3 0 l4,lB 3 l5,cx 3 (cQ l6 bD),fI l3 l7,gm l8,rC 9 1 s2,ph 9 l10,cH 9 (dh jK b8),gmt 9 ll,ko 13 2 s2,ko 13 1 nX,lB 13 pk,cx 13 (cQ rE bD),JQ 9 nn wL,gy l9 xF,gm zp,rC 20 1 s2,ph 20 CI,cH 20 (dh Fh kp),gmt 20 IV,ko 24 2 s2,ko 24 2 IX,lB 24 JT,cx 24 (cQ LJ bD),JQ 20 IW LK,gy BM LL,gm l30] 1 31) .ret))))))⟩
def w676 {Γ:Ctx}(hm:(Γ.at 0).bp)(h217:J7 Γ)(c:bU)  (hp0:c.v.sm):ef Γ EN (.bool (iy c)) [bU.D c]:=by
 show bz _ _ _ [⟨_,_⟩,_,_,_,_,_,_,_] _;refine ak ?_;refine yI ?_;refine ch (v:=dw.D c.v) ?_;refine eI (hc:=fun hf=>h217 c.v hp0) ?_;refine dp ?_;refine aq (fun hc0=>?_) (fun hc0=>?_)
 ·have hq:=xd hc0;refine aQ ?_;refine bL ?_;rw[hq]
 have hy:=uk hc0;refine fG ?_;refine aq (fun hc1=>?_) (fun hc1=>?_)
 ·simp only[decide_eq_true_eq]at hc1;have hz:=mK hy (lo:=0) (hi:=2) (if_pos hc1) (if_pos hc1);refine Fc ?_;refine aq (fun hc2=>?_) (fun hc2=>?_)
  ·rw[hc2]at hz;refine aQ ?_;refine bL ?_;rw[hz];rfl
  rw[hc2]at hz;refine HQ ?_;refine bL ?_;rw[hz];rfl
 simp only[decide_eq_false_iff_not]at hc1;have hz:=mK hy (lo:=1) (hi:=3) (if_neg hc1) (if_neg hc1);refine HP ?_;refine aq (fun hc2=>?_) (fun hc2=>?_)
 ·rw[hc2]at hz;refine aQ ?_;refine bL ?_;rw[hz];rfl
 rw[hc2]at hz;refine HQ ?_;refine bL ?_;rw[hz];rfl
def KI (Γ:Ctx):Prop:=∀(c:bU),(c.v.sm)→Γ.pre 676 [bU.D c]∧Γ.val 676 [bU.D c]=.bool (iy c)
def Dc:aB:=⟨1,14,j5,cr,(sq (rg [gb 7 s0,gm dx] [(2,0),(1,1)]) (sq (sq (r1 [gf 0 s2,gd l0,aV l1 b8,gm l2,ko 3 0 s2,lB 3 l4,cx 3 (dh l5 Aw),fI l3 l6,gm l7,ko 8 2 s2,cx 8 (.ld 5 true l9),cx 8 (.call 209 [l10] IJ),cx 8 (.un .not jK),fI l8 ll,gm nn,ko 14 2 s2,ko 14 4 pk,lB 14 rE,cx 14 (eR wL cse),fI nX xF] 3 19) (ny s3 dx)) (sq (rg [gm b8,gm kd] [(5,0),(6,1)]) (sq (sq (r1 [gf 0 s2,gd l0,aE l1 Aw] 4 2) (.cond s4 (rg [gm bD,gm kp] [(5,0),(6,1)]) .skip)) (sq (sq (r1 [gf 1 s2,gd l0,gm s5,aV l1 l2,gm l3,ko 4 1 s2,lB 4 l5,eV 4 s6,cx 4 (dh l6 l7),fI l4 l8,gm l9,ko 10 2 s2,ko 10 3 jK,lB 10 ll,cx 10 (eR nn cse),eV 10 nX,rC 15 1 s2,ph 15 rE,cH 15 (ov wL kd),CH 10 pk xF,fI l10 zp] 7 20) (ny s7 dx)) (sq (sq (r1 [gf 1 s2,gd l0] 8 1) (.block 0 (sq (.block 3 (sq (.block 2 (sq (.block 1 (sq (sq (sq (r1 [aE s8 bD,gm l0] 9 1) (.cond s9 (.exit 1) .skip)) (sq (sq (r1 [aE s8 b8,gm l0] 10 1) (.cond lr (.exit 2) .skip)) (sq (r1 [aE s8 kp,gm l0] 11 1) (.cond oo (.exit 3) .skip)))) (.exit 0))) (sq (r1 [gf 2 s2,gf 0 l0,gd l1,ct l2 bD] 12 3) (ny m6 dx)))) (sq (r1 [gf 2 s2,gf 1 l0,gd l1,ct l2 bD] 13 3) (ny tk dx)))) (sq (sq (r1 [gf 2 s2,gf 2 l0,gd l1,aE l2 bD,gm l3] 1 4) .ret) (.exit 0))))) (zk tK)))))))⟩
def w827 {Γ:Ctx}(hm:(Γ.at 0).bp)(h209:CO Γ)(c:bU)  (hp0:c.v.sm):ef Γ Dc (.bool (iy c)) [bU.D c]:=by
 show bz _ _ _ [⟨_,_⟩,_,_,_,_,_,_,_,_,_,_,_,_,_] _;refine ak ?_;refine yI ?_;refine ch (v:=dw.D c.v) ?_;refine eI (hc:=fun hf=>h209 c.v hp0) ?_;refine dp ?_;refine aq (fun hc0=>?_) (fun hc0=>?_)
 ·have hq:=xd hc0;refine aQ ?_;refine bL ?_;rw[hq]
 have hy:=uk hc0;refine fG ?_;refine aq (fun hc1=>?_) (fun hc1=>?_)
 ·simp only[decide_eq_true_eq]at hc1;have hz:=mK hy (lo:=0) (hi:=2) (if_pos hc1) (if_pos hc1);refine Fc ?_;refine aq (fun hc2=>?_) (fun hc2=>?_)
  ·rw[Bool.and_comm (!decide (c.v.pre=[]))]at hc2;rw[hc2]at hz;refine aQ ?_;refine bL ?_;rw[hz];simp[lx]<;>simp_all<;>omega
  rw[Bool.and_comm (!decide (c.v.pre=[]))]at hc2;rw[hc2]at hz;refine vz ?_;refine cI (fun hc3=>?_) fun hc3=>?_
  ·refine bY ?_;refine fN (fun hc6=>?_) fun hc6=>?_
   ·refine ba ?_;refine bL ?_;rw[hz];simp[lx]<;>simp_all<;>omega
   refine bY ?_;refine fN (fun hc7=>?_) fun hc7=>?_
   ·refine aT ?_;refine bL ?_;rw[hz];simp[lx]<;>simp_all<;>omega
   refine ix ?_;refine bL ?_;rw[hz];simp[lx]<;>simp_all<;>omega
  refine ba ?_;refine cI (fun hc4=>?_) fun hc4=>?_
  ·refine dp ?_;refine fN (fun hc7=>?_) fun hc7=>?_
   ·refine aT ?_;refine bL ?_;rw[hz];simp[lx]<;>simp_all<;>omega
   refine ix ?_;refine bL ?_;rw[hz];simp[lx]<;>simp_all<;>omega
  refine aT ?_;refine cI (fun hc5=>?_) fun hc5=>?_
  ·refine vy ?_;refine bL ?_;rw[hz];simp[lx]<;>simp_all<;>omega
  refine jB ?_;refine bL ?_;rw[hz];simp[lx]<;>simp_all<;>omega
 simp only[decide_eq_false_iff_not]at hc1;have hz:=mK hy (lo:=1) (hi:=3) (if_neg hc1) (if_neg hc1);refine HP ?_;refine aq (fun hc2=>?_) (fun hc2=>?_)
 ·rw[Bool.and_comm (!decide (c.v.pre=[]))]at hc2;rw[hc2]at hz;refine aQ ?_;refine bL ?_;rw[hz];simp[lx]<;>simp_all<;>omega
 rw[Bool.and_comm (!decide (c.v.pre=[]))]at hc2;rw[hc2]at hz;refine vz ?_;refine cI (fun hc3=>?_) fun hc3=>?_
 ·refine bY ?_;refine fN (fun hc6=>?_) fun hc6=>?_
  ·refine ba ?_;refine bL ?_;rw[hz];simp[lx]<;>simp_all<;>omega
  refine bY ?_;refine fN (fun hc7=>?_) fun hc7=>?_
  ·refine aT ?_;refine bL ?_;rw[hz];simp[lx]<;>simp_all<;>omega
  refine ix ?_;refine bL ?_;rw[hz];simp[lx]<;>simp_all<;>omega
 refine ba ?_;refine cI (fun hc4=>?_) fun hc4=>?_
 ·refine dp ?_;refine fN (fun hc7=>?_) fun hc7=>?_
  ·refine aT ?_;refine bL ?_;rw[hz];simp[lx]<;>simp_all<;>omega
  refine ix ?_;refine bL ?_;rw[hz];simp[lx]<;>simp_all<;>omega
 refine aT ?_;refine cI (fun hc5=>?_) fun hc5=>?_
 ·refine vy ?_;refine bL ?_;rw[hz];simp[lx]<;>simp_all<;>omega
 refine jB ?_;refine bL ?_;rw[hz];simp[lx]<;>simp_all<;>omega
def Fv (Γ:Ctx):Prop:=∀(c:bU),(c.v.sm)→Γ.pre 827 [bU.D c]∧Γ.val 827 [bU.D c]=.bool (iy c)
end Go.Abs
end
section
namespace Go.Abs
open Go
def zc:aB:=⟨1,16,j5,cr,(sq (rg [gb 7 s0,gm cse] [(2,0),(1,1)]) (sq (sq (r1 [gk 7 true s2,gx 827 [l0] IK,om l1] 3 2) (ny s3 cse)) (sq (r1 [gf 0 s2,gd l0,gx 957 [l1] cr,gm l2] 11 3) (sq (sq (rg [gf 2 s2,gf 0 l0,gd l1,gf 2 s2,gf 1 l3,gd l4,gf 2 s2,gf 2 l6,gd l7,gn (.bsl 1 (.int .i64 0) 3 [(0,l2),(1,l5),(2,l8)]),gl l9,gm bD] [(7,9),(5,10),(4,11)]) (.block 0 (.loop (sq (r1 [aV s4 s5] 6 0) (sq (iS s6 0) (sq (.block 1 (sq (rg [gm s4,ga 1 s7 s4,gd l1,gm l0,gm l2] [(8,3),(12,4)]) (sq (sq (r1 [gm s8,gf 1 s2,gd l1,gM l0 l2] 9 3) (.cond s9 (.exit 0) .skip)) (sq (sq (r1 [gm s8,dz l0 bD] 10 1) (.cond lr (r1 [gm oo,av l0 (cs [46]),gm l1] 11 2) .skip)) (r1 [gm oo,gm m6,gx 665 [l1] cr,av l0 l2,gm l3] 11 4))))) (r1 [av s4 b8,gm l0] 4 1))))))) (sq (sq (r1 [gf 0 s2,gd l0,aE l1 Aw] 13 2) (.cond tk (sq (sq (r1 [gf 1 s2,gd l0,dz l1 bD] 14 2) (.cond rN (r1 [gm oo,av l0 (cs [46]),gm l1] 11 2) .skip)) (sq (r1 [gm oo,av l0 (cs [42]),gm l1] 1 2) .ret)) .skip)) (sq (sq (r1 [gf 2 s2,gf 3 l0,gd l1,ct l2 cse] 15 3) (.cond uT (r1 [gm oo,gf 2 s2,gf 3 l1,gd l2,av (cs [45]) l3,av l0 l4,gm l5] 11 6) .skip)) (sq (r1 [gm oo,gm l0] 1 1) .ret)))))))⟩
def w828 {Γ:Ctx}(hm:(Γ.at 0).bp)(h665:Ia Γ)(h827:Fv Γ)(h957:Ih Γ)(c:bU)  (hp0:c.v.sm):ef Γ zc (.str (cP c)) [bU.D c]:=by
 show bz _ _ _ [⟨_,_⟩,_,_,_,_,_,_,_,_,_,_,_,_,_,_,_] _;refine ak ?_;refine aT ?_;refine aj (hc:=h827 _ ?_) ?_;rotate_left;first|assumption|omega
 refine ay ?_;refine aq (fun hc0=>?_) (fun hc0=>?_)
 ·simp only[Bool.not_eq_true']at hc0;refine aQ ?_;refine cq ?_;simp[cP,hc0]
 simp only[Bool.not_eq_false']at hc0;obtain⟨hv,hp1,hp2,hp3,hp4⟩:=ki hc0;have hsl:=qc c.op;have hnl:=mZ hv;refine aA ?_;refine aj (hc:=h957 _) ?_;refine lv ?_;refine cg [(.int _ _),(.int _ _),(.int _ _)] ?_;refine ax ?_;intro u0;refine ay ?_;refine dT 18 ?_;refine br hm (ι:=Nat) (fun i=>[.un,.un,⟨true,.ptr 0 7 0 0⟩,.un,⟨true,.int .i64 (i:Nat)⟩,⟨true,.int .i64 3⟩,.un,⟨true,.sl 1 (c.ik.map (D.int .i64))⟩,.un,.un,.un,⟨true,.str (bM c.op++dt c i)⟩,.un,.un,.un,.un]) (fun i=>[(0,.buf 7 [bU.D c])]) 21 (fun i=>i≤3∧i≤c.parts.toNat) (fun i=>3-i) 0 ⟨by omega,by omega⟩ (aL.to [(0,0)] ae ae (by repeat(first|exact cV.nil|refine cV.un ?_|refine cV.eq ae ?_|refine cV.nl (congrArg D.str (by first|(simp only[dt,if_pos hpos,List.append_assoc];done)|(simp only[dt,if_neg hpos,List.append_assoc,List.nil_append];done)|simp[dt])) ae ?_|refine cV.nl ae ae ?_)) x7) ?_;rintro i ⟨hi,hip⟩;have hni:=hnl i;have hfit:=mh hv i;have hn3:c.ik.length=3:=rfl;refine az ?_;refine cI (fun hc1=>?_) fun hc1=>?_
 ·refine vz ?_;refine cI (fun hc2=>?_) fun hc2=>?_
  ·refine aQ ?_;obtain rfl:i=c.parts.toNat:=by omega
   refine aA ?_;refine cI (fun hc4=>?_) fun hc4=>?_
   ·refine ba ?_;refine cI (fun hc5=>?_) fun hc5=>?_
    ·refine ay ?_;refine qP ?_;refine aQ ?_;refine qP ?_;refine az ?_;refine cq ?_;simp[cP,hZ,gC,hc0, *]
    refine aA ?_;refine qP ?_;refine az ?_;refine cq ?_;simp[cP,hZ,gC,hc0, *]
   refine bY ?_;refine cI (fun hc6=>?_) fun hc6=>?_
   ·refine ax ?_;have hpl:=hp0.1;refine aA ?_;refine qP ?_;refine qP ?_;refine ba ?_;refine cq ?_;simp[cP,hZ,gC,hc0, *]
   refine aT ?_;refine cq ?_;simp[cP,hZ,gC,hc0, *]
  refine aT ?_;refine aq (fun hc3=>?_) (fun hc3=>?_)
  ·simp only[decide_eq_true_eq]at hc3;have hpos:0<i:=by omega
   refine ay ?_;refine qP ?_;refine aQ ?_;refine aj (hc:=h665 (c.ik[i]!) ⟨hfit.1,hfit.2⟩) ?_;have hdl:=dK 4 (c.ik[i]!).toNat (by omega) (by omega);refine qP ?_;refine bY ?_;exact⟨i+1,⟨by omega,by omega⟩,by omega,(aL.to [(0,0)] ae ae (by repeat(first|exact cV.nil|refine cV.un ?_|refine cV.eq ae ?_|refine cV.nl (congrArg D.str (by first|(simp only[dt,if_pos hpos,List.append_assoc];done)|(simp only[dt,if_neg hpos,List.append_assoc,List.nil_append];done)|simp[dt])) ae ?_|refine cV.nl ae ae ?_)) x7)⟩
  simp only[decide_eq_false_iff_not]at hc3;have hpos:¬0<i:=by omega
  refine aA ?_;refine aj (hc:=h665 (c.ik[i]!) ⟨hfit.1,hfit.2⟩) ?_;have hdl:=dK 4 (c.ik[i]!).toNat (by omega) (by omega);refine qP ?_;refine bY ?_;exact⟨i+1,⟨by omega,by omega⟩,by omega,(aL.to [(0,0)] ae ae (by repeat(first|exact cV.nil|refine cV.un ?_|refine cV.eq ae ?_|refine cV.nl (congrArg D.str (by first|(simp only[dt,if_pos hpos,List.append_assoc];done)|(simp only[dt,if_neg hpos,List.append_assoc,List.nil_append];done)|simp[dt])) ae ?_|refine cV.nl ae ae ?_)) x7)⟩
 refine aA ?_;obtain rfl:i=c.parts.toNat:=by omega
 refine aA ?_;refine cI (fun hc4=>?_) fun hc4=>?_
 ·refine ba ?_;refine cI (fun hc5=>?_) fun hc5=>?_
  ·refine ay ?_;refine qP ?_;refine aQ ?_;refine qP ?_;refine az ?_;refine cq ?_;simp[cP,hZ,gC,hc0, *]
  refine aA ?_;refine qP ?_;refine az ?_;refine cq ?_;simp[cP,hZ,gC,hc0, *]
 refine bY ?_;refine cI (fun hc6=>?_) fun hc6=>?_
 ·refine ax ?_;have hpl:=hp0.1;refine aA ?_;refine qP ?_;refine qP ?_;refine ba ?_;refine cq ?_;simp[cP,hZ,gC,hc0, *]
 refine aT ?_;refine cq ?_;simp[cP,hZ,gC,hc0, *]
def Ic (Γ:Ctx):Prop:=∀(c:bU),(c.v.sm)→Γ.pre 828 [bU.D c]∧Γ.val 828 [bU.D c]=.str (cP c)
end Go.Abs
end
section
namespace Go.Abs
open Go
def qa:aB:=⟨1,4,j5,[[.sl 1 [.a]]],(sq (rg [gb 7 s0,gm (.c (.ar))] [(2,0),(1,1)]) (sq (r2 [gf 2 s2,gf 0 l0,gd l1,gx 734 [l2] cr,gf 2 s2,gf 1 l4,gd l5,gx 734 [l6] cr,gf 2 s2,gf 2 l8,gd l9,gx 734 [l10] cr,gn (.bsl 1 (.str []) 3 [(0,l3),(1,l7),(2,jK)]),gm ll] 3 13) (sq (r1 [gm s3,gf 1 s2,gd l1,gn (.slA 1 l0 none (some l2)),gm l3] 1 4) .ret)))⟩
def w677 {Γ:Ctx}(hm:(Γ.at 0).bp)(c:bU)(h734:KN Γ)(hp0:eO c.v=true∧0≤c.parts∧c.parts≤3):bz (Γ.at 0) qa.body (nD qa (One (.own 14 1 0 c.parts.toNat) [(0,.buf 7 [bU.D c]),(14,.buf 1 [.str (cC c.v.major.toNat),.str (cC c.v.minor.toNat),.str (cC c.v.patch.toNat)])]):Ex→List aW→St→Prop) (et qa [bU.D c]) ⟨0,[]⟩:=by
 show bz _ _ _ [⟨_,_⟩,_,_,_] _;refine ak ?_;refine ba ?_;refine aj (hc:=h734 c.v.major (mh hp0.1 0)) ?_;refine az ?_;refine aj (hc:=h734 c.v.minor (mh hp0.1 1)) ?_;refine az ?_;refine aj (hc:=h734 c.v.patch (mh hp0.1 2)) ?_;refine cg [.str _,.str _,.str _] ?_;refine aT ?_;refine x8 c.parts.toNat (hj:=fun _=>by omega) (hb:=fun _=>by omega) ?_;refine az ?_;refine dX trivial im (Eq.trans ae (?_)) ae (oneq _ _);rfl
def Ib (Γ:Ctx):Prop:=∀(c:bU),(eO c.v=true∧0≤c.parts∧c.parts≤3)→∀(nx:Nat)(m:List (Nat×aU))(K:D→St→Prop),K (.own nx 1 0 c.parts.toNat) ⟨nx+1,(nx,.buf 1 [.str (cC c.v.major.toNat),.str (cC c.v.minor.toNat),.str (cC c.v.patch.toNat)])::m⟩→Γ.tr 677 [bU.D c] ⟨nx,m⟩ K
end Go.Abs
end
section
namespace Go.Abs
open Go
def zR:aB:=⟨1,8,j5,cr,(sq (rg [gb 7 s0,gm cse] [(2,0),(1,1)]) (sq (sq (r1 [gk 7 true s2,gx 676 [l0] IK,om l1] 3 2) (ny s3 cse)) (sq (r1 [gk 7 true s2,gn (.callM 677 [l0]),gm l1] 5 2) (sq (sq (r1 [gf 0 s2,gd l0,aE l1 Aw] 4 2) (.cond s4 (sq (r1 [gm s5,gf 1 s2,gd l1,gf 1 s2,gd l3,gn (.slX 1 l0 l2 l4),gn (.bsl 1 (.str []) 1 [(0,(cs [42]))]),gn (.app 1 l5 l6),gx 249 [l7,(i8 46)] [[.sl 1 [.a]],[.a]],gm l8] 1 9) .ret) .skip)) (sq (r1 [gf 0 s2,gd l0,gx 678 [l1] cr,gm s5,gx 249 [l3,(i8 46)] [[.sl 1 [.a]],[.a]],av l2 l4,gm l5] 7 6) (sq (sq (r1 [gf 2 s2,gf 3 l0,gd l1,ct l2 cse] 6 3) (.cond s6 (r1 [gm s7,av l0 (cs [45]),gf 2 s2,gf 3 l2,gd l3,av l1 l4,gm l5] 7 6) .skip)) (sq (r1 [gm s7,gm l0] 1 1) .ret)))))))⟩
def w482 {Γ:Ctx}(hm:(Γ.at 0).bp)(h249:Kd Γ)(h676:KI Γ)(h677:Ib Γ)(h678:KJ Γ)(c:bU)  (hp0:c.v.sm):ef Γ zR (.str (cP c)) [bU.D c]:=by
 show bz _ _ _ [⟨_,_⟩,_,_,_,_,_,_,_] _;refine ak ?_;refine aT ?_;refine aj (hc:=h676 _ ?_) ?_;rotate_left;first|assumption|omega
 refine ay ?_;refine aq (fun hc0=>?_) (fun hc0=>?_)
 ·simp only[Bool.not_eq_true']at hc0;refine aQ ?_;refine cq ?_;simp[cP,hc0]
 simp only[Bool.not_eq_false']at hc0;obtain⟨hv,hp1,hp2,hp3,hp4⟩:=ki hc0;have hsl:=qc c.op;have hnl:=mZ hv c.parts.toNat;have htl:=yw hp2;have hj1:=vi hp2;have hj2:=qh hp1 hp2;have hl2:=congrArg List.length hj2;have hl1:=congrArg List.length hj1;simp only[List.length_append,List.length_singleton]at hl2;have hi2:(if 0<c.parts then([46]:ah)else []).length≤1:=by split<;>simp
 refine az ?_;refine cd (nx':=6) (v:=.own 6 1 0 c.parts.toNat) (m':=[(6,.buf 1 [.str (cC c.v.major.toNat),.str (cC c.v.minor.toNat),.str (cC c.v.patch.toNat)]),(0,.buf 7 [bU.D c])]) (hc:=fun K' hK=>h677 c ⟨hv,hp1,hp2⟩ _ _ K' hK) (hn:=by decide) ?_;refine bY ?_;refine cI (fun hc1=>?_) fun hc1=>?_
 ·refine ba ?_;refine Jy c.parts.toNat (hj:=fun _=>by omega) (hb:=fun _=>by omega) ?_;refine cg [.str _] ?_;refine AJ ((ir c++[[42]]).map D.str) (n:=(ir c++[[42]]).length) (ha:=by simp;omega) (he:=qn.own rfl (by simp)) (hz:=by rw[List.drop_zero,tt,List.map_append];rfl) (hn:=by simp;omega) (hb:=by simp;omega) ?_;refine aj (hc:=h249 (ir c++[[42]]) 46 (by rw[hj2];simp only[List.length_append,List.length_singleton];omega)) (ha:=fun _=>congrArg (fun d=>[d,D.int .u8 46]) (rU (q:=D.str) (fun _=>rfl) ae)) (hp:=fun _=>⟨pe (q:=D.str) (fun _=>rfl) ae,rfl,trivial⟩) ?_;refine az ?_;refine cq ?_;rw[cP,if_pos hc0,hj2];simp[hZ,gC,hc1,bM]
 refine aA ?_;refine aj (hc:=h678 _) ?_;refine ax ?_;refine aj (hc:=h249 (ir c) 46 (by rw[hj1];omega)) (ha:=fun _=>congrArg (fun d=>[d,D.int .u8 46]) (G9 ae)) (hp:=fun _=>⟨EW hp2 ae,rfl,trivial⟩) ?_;refine cS (hb:=fun _=>by omega) ?_;refine dp ?_;refine cI (fun hc2=>?_) fun hc2=>?_
 ·refine ax ?_;have hpl:=hp0.1;refine ax ?_;refine qP ?_;refine az ?_;refine qP ?_;refine ba ?_;refine cq ?_;rw[cP,if_pos hc0,hj1];simp[hZ,gC,hc1,hc2]
 refine aT ?_;refine cq ?_;rw[cP,if_pos hc0,hj1];simp[hZ,gC,hc1,hc2]
def Kw (Γ:Ctx):Prop:=∀(c:bU),(c.v.sm)→Γ.pre 482 [bU.D c]∧Γ.val 482 [bU.D c]=.str (cP c)
end Go.Abs
end
section
namespace Go.Abs
open Go
end Go.Abs
end
section
namespace Go.Abs
open Go
end Go.Abs
end
section
namespace Go.Abs
open Go
end Go.Abs
end
section
namespace Go.Abs
open Go
def Bg:aB:=⟨1,33,[⟨1,some (7,true)⟩,⟨2,none⟩],[[.a,.a,.a,.a,.a,.a,.a],[.a]],(sq (rg [gb 7 (.c (.agg [.int .i64 0,.int .i64 0,.int .i64 0,.int .i64 0,.int .i64 0,.str [],.str []])),gm dx] [(1,0),(2,1)]) (sq (r1 [gn (.build [.int .i64 0,.int .i64 0,.int .i64 0,.int .i64 0,.int .i64 0,.str [],.str []] [(0,1,Aw)]),gb 7 (.c (.agg [.int .i64 0,.int .i64 0,.int .i64 0,.int .i64 0,.int .i64 0,.str [],.str []])),gt 7 l1 l0] 9 1) (sq (r1 [gm s0,gm l0] 10 1) (sq (sq (rg [gn (.bsl 1 (.int .i64 0) 8 [(0,kp),(1,tF),(2,zm),(3,b8),(4,kd),(5,Av),(6,IM),(7,Gc)]),gl l0,gm bD] [(6,0),(4,1),(3,2)]) (.block 0 (.loop (sq (r1 [aV s3 s4] 5 0) (sq (iS s5 0) (sq (.block 1 (sq (r1 [ga 1 s6 s3,gd l0,gm l1] 7 2) (sq (r1 [gm s0,gm s7,gx 957 [l1] cr,gx 956 [l0,l2] iK] 8 3) (.cond s8 (sq (rg [gm s7,gf 0 s9,gt 1 l1 l0] []) (sq (r1 [gm s0,gm s7,gx 957 [l1] cr,wK l2,gn (.slS l0 (some l3) none),gm l4] 10 5) (.exit 0))) .skip)))) (r1 [av s3 b8,gm l0] 3 1))))))) (sq (sq (rg [gm lr,wK l0,gm bD] [(12,1),(11,2)]) (.block 2 (.loop (sq (r1 [aV oo m6] 13 0) (sq (iS tk 2) (sq (.block 3 (sq (r1 [gm oo,gm l0] 14 1) (sq (r1 [gm lr,gm rN,F5 l0 l1,aE l2 (i8 45)] 15 3) (.cond uT (sq (rg [gm lr,gm rN,av l1 b8,gn (.slS l0 (some l2) none),gf 2 s9,gf 3 l4,gt 1 l5 l3] []) (sq (r1 [gm lr,gm rN,gn (.slS l0 none (some l1)),gm l2] 10 3) (.exit 2))) .skip)))) (r1 [av oo b8,gm l0] 11 1))))))) (sq (r1 [gm lr,gx 533 [l0,(i8 46)] iK,gm l1] 17 2) (sq (sq (r1 [gf 0 s9,gd l0,aE l1 Aw] 16 2) (.cond AW (sq (sq (r1 [gm wM,gm wM,gl l1,ff l2 b8,ga 1 l0 l3,gd l4,ct l5 (cs [42])] 18 6) (.cond Cm (sq (r1 [gn (.build [.int .i64 0,.int .i64 0,.int .i64 0,.int .i64 0,.int .i64 0,.str [],.str []] []),gt 7 s1 l0,gm dx] 2 2) .ret) .skip)) (r1 [gm wM,gm wM,gl l1,ff l2 b8,gn (.slA 1 l0 none (some l3)),gm l4] 17 5)) .skip)) (sq (sq (r1 [gm wM,gl l0,dz l1 kd] 19 2) (.cond JB (sq (r1 [gn (.build [.int .i64 0,.int .i64 0,.int .i64 0,.int .i64 0,.int .i64 0,.str [],.str []] []),gt 7 s1 l0,gm dx] 2 2) .ret) .skip)) (sq (rg [gm wM,gl l0,gf 1 s9,gt 1 l2 l1] []) (sq (sq (rg [gm wM,gl l0,gm bD] [(23,0),(21,1),(20,2)]) (.block 4 (.loop (sq (r1 [aV Fi s21] 22 0) (sq (iS s22 4) (sq (.block 5 (sq (rg [gm Fi,ga 1 s23 Fi,gd l1,gm l0,gm l2] [(27,3),(24,4)]) (sq (rg [gm JW,gx 658 [l0] cr,gm l1,ge l2 0,ge l2 1,gm l3,gm l4] [(30,5),(25,6)]) (sq (sq (r1 [gm JX,om l0] 26 1) (.cond L5 (sq (r1 [gn (.build [.int .i64 0,.int .i64 0,.int .i64 0,.int .i64 0,.int .i64 0,.str [],.str []] []),gt 7 s1 l0,gm dx] 2 2) .ret) .skip)) (sq (r1 [gm s27] 28 0) (.block 6 (sq (r1 [aE s28 bD,gm l0] 29 1) (.cond s29 (rg [gm HI,gf 2 s9,gf 0 l1,gt 1 l2 l0] []) (sq (r1 [aE s28 b8,gm l0] 31 1) (.cond s31 (rg [gm HI,gf 2 s9,gf 1 l1,gt 1 l2 l0] []) (rg [gm HI,gf 2 s9,gf 2 l1,gt 1 l2 l0] []))))))))))) (r1 [av Fi b8,gm l0] 20 1))))))) (sq (sq (r1 [gk 7 true s9,gx 827 [l0] IK,om l1,gm l2,cx 3 (.ld 7 true s9),cx 3 (.call 828 [l4] IK),eV 3 s0,cx 3 (eR l5 l6),fI l3 l7] 32 8) (.cond s32 (sq (r1 [gn (.build [.int .i64 0,.int .i64 0,.int .i64 0,.int .i64 0,.int .i64 0,.str [],.str []] []),gt 7 s1 l0,gm dx] 2 2) .ret) .skip)) (sq (r1 [gk 7 true s9,gt 7 s1 l0,gm tK] 2 2) .ret))))))))))))⟩
def w819 {Γ:Ctx}(hm:(Γ.at 0).bp)(h533:CR Γ)(h658:Ft Γ)(h827:Fv Γ)(h828:Ic Γ)(h956:KT Γ)(h957:Ih Γ)(s:ah)  (hp0:s.length≤1048576):ef Γ Bg (.tup [bU.D ((dC s).getD di),.bool (dC s).isSome]) [.str s]:=by
 show bz _ _ _ (⟨true,.str s⟩::.un::.un::.un::.un::.un::.un::.un::.un::.un::.un::.un::.un::.un::.un::.un::.un::.un::.un::.un::.un::.un::.un::.un::.un::.un::.un::.un::.un::.un::.un::.un::.un::[]) ⟨0,[]⟩;have hol:=Cg s;refine ak ?_;refine aA ?_;refine bn (bU.D ⟨9,0,iH⟩) ?_;refine ax ?_;refine aF (bU.D ⟨9,0,iH⟩) (he:=by exact rfl) ?_;refine ba ?_;refine cg [(.int _ _),(.int _ _),(.int _ _),(.int _ _),(.int _ _),(.int _ _),(.int _ _),(.int _ _)] ?_;refine ax ?_;intro u0;refine ay ?_;refine og hm (ι:=Unit) (fun _=>(⟨true,.str s⟩::⟨true,.ptr 0 7 0 0⟩::.un::.un::.un::.un::.un::.un::.un::⟨true,.ptr 3 7 0 0⟩::⟨true,.str (bS s).2⟩::.un::.un::.un::.un::.un::.un::.un::.un::.un::.un::.un::.un::.un::.un::.un::.un::.un::.un::.un::.un::.un::.un::[])) (fun _=>[(0,.buf 7 [bU.D di]),(3,.buf 7 [bU.D ⟨(bS s).1,0,iH⟩])]) 40 (fun _=>True) ?_ ?_
 ·refine dT 7 ?_;refine pd hm (ι:=Nat) (fun i=>(⟨true,.str s⟩::⟨true,.ptr 0 7 0 0⟩::.un::⟨true,.int .i64 (i:Nat)⟩::⟨true,.int .i64 8⟩::.un::⟨true,.sl 1 (opsL.map (D.int .i64))⟩::.un::.un::⟨true,.ptr 3 7 0 0⟩::⟨true,.str s⟩::.un::.un::.un::.un::.un::.un::.un::.un::.un::.un::.un::.un::.un::.un::.un::.un::.un::.un::.un::.un::.un::.un::[])) (fun i=>[(0,.buf 7 [bU.D di]),(3,.buf 7 [bU.D ⟨9,0,iH⟩])]) 10 (fun i=>i≤8∧nZ s 0=nZ s i) (fun i=>8-i) 0 ⟨by omega,rfl⟩ (ek [(0,0),(3,3)]) ?_;rintro i ⟨hi,hr⟩;have hn8:opsL.length=8:=rfl;refine az ?_;refine cI (fun hc0=>?_) fun hc0=>?_
  ·refine jB ?_;refine aj (hc:=h957 opsL[i]!) ?_;refine aj (hc:=h956 s (bM opsL[i]!)) ?_;refine ax ?_;refine wp_cond (fun hc1=>?_) (fun hc1=>?_)
   ·have hbl:(bM opsL[i]!).length≤s.length:=by simp only[pC,Bool.and_eq_true,decide_eq_true_eq]at hc1;exact hc1.1
    have hro:bS s=(opsL[i]!,s.drop (bM opsL[i]!).length):=by simp only[bS,hr,GA (show i<8 by omega) hc1]
    refine az ?_;refine aF (bU.D ⟨opsL[i]!,0,iH⟩) (he:=by exact rfl) ?_;refine aA ?_;refine aj (hc:=h957 opsL[i]!) ?_;refine ax ?_;intro u1;refine mr (bM opsL[i]!).length (hb:=fun _=>hbl) ?_;refine aT ?_;simp only[hro];exact⟨(),trivial,(ek [(0,0),(3,3)])⟩
   skip
   refine ba ?_;exact⟨i+1,⟨by omega,by rw[hr,GB (by omega) hc1]⟩,by omega,(ek [(0,0),(3,3)])⟩
  refine az ?_;have hro:bS s=(9,s):=by simp only[bS,hr,D5 (show 8≤i by omega)]
  simp only[hro];exact⟨(),trivial,(ek [(0,0),(3,3)])⟩
 ·rintro _-
  refine aA ?_;intro u2;refine ay ?_;refine og hm (ι:=Unit) (fun _=>(⟨true,.str s⟩::⟨true,.ptr 0 7 0 0⟩::.un::.un::.un::.un::.un::.un::.un::⟨true,.ptr 3 7 0 0⟩::⟨true,.str (cN s).1⟩::.un::.un::.un::.un::.un::.un::.un::.un::.un::.un::.un::.un::.un::.un::.un::.un::.un::.un::.un::.un::.un::.un::[])) (fun _=>[(0,.buf 7 [bU.D di]),(3,.buf 7 [bU.D ⟨(bS s).1,0,{iH with pre:=(cN s).2}⟩])]) 60 (fun _=>True) ?_ ?_
  ·refine pd hm (ι:=Nat) (fun i=>(⟨true,.str s⟩::⟨true,.ptr 0 7 0 0⟩::.un::.un::.un::.un::.un::.un::.un::⟨true,.ptr 3 7 0 0⟩::⟨true,.str (bS s).2⟩::⟨true,.int .i64 (i:Nat)⟩::⟨true,.int .i64 ((bS s).2.length:Nat)⟩::.un::.un::.un::.un::.un::.un::.un::.un::.un::.un::.un::.un::.un::.un::.un::.un::.un::.un::.un::.un::[])) (fun i=>[(0,.buf 7 [bU.D di]),(3,.buf 7 [bU.D ⟨(bS s).1,0,iH⟩])]) 43 (fun i=>i≤(bS s).2.length∧cN s=fh (bS s).2 i) (fun i=>(bS s).2.length-i) 0 ⟨by omega,rfl⟩ (ek [(0,0),(3,3)]) ?_;rintro i ⟨hi,hr⟩;refine az ?_;refine cI (fun hc2=>?_) fun hc2=>?_
   ·refine ix ?_;refine wp_cond (fun hc3=>?_) (fun hc3=>?_)
    ·simp only[decide_eq_true_eq]at hc3;have hpr:cN s=((bS s).2.take i,(bS s).2.drop (i+1)):=by rw[hr,GP (by omega) hc3]
     refine aA ?_;refine mr (i+1) ?_;refine ay ?_;refine aF (bU.D ⟨(bS s).1,0,{iH with pre:=(bS s).2.drop (i+1)}⟩) (he:=by exact rfl) ?_;refine aA ?_;refine ta _ ?_;refine aT ?_;simp only[hpr];exact⟨(),trivial,(ek [(0,0),(3,3)])⟩
    try simp only[hX]at hc3
    refine ba ?_;exact⟨i+1,⟨by omega,by rw[hr,GQ (by omega) hc3]⟩,by omega,(ek [(0,0),(3,3)])⟩
   refine az ?_;have hpr:cN s=((bS s).2,[]):=by rw[hr,En (by omega)]
   simp only[hpr];exact⟨(),trivial,(ek [(0,0),(3,3)])⟩
  ·rintro _-
   have hpl:(cN s).1.length≤s.length∧(cN s).2.length≤s.length:=by
    have:=x6 (bS s).2;exact⟨by show(fh _ 0).1.length≤_;omega,by show(fh _ 0).2.length≤_;omega⟩
   have hlp:1≤(ai (cN s).1 46).length:=fq _ _ _;have hln:=cL (cN s).1 46;refine ay ?_;refine aj (hc:=h533 (cN s).1 46 (by omega)) ?_;refine bY ?_;refine og hm (ι:=Unit) (fun _=>(⟨true,.str s⟩::⟨true,.ptr 0 7 0 0⟩::.un::.un::.un::.un::.un::.un::.un::⟨true,.ptr 3 7 0 0⟩::.un::.un::.un::.un::.un::.un::.un::⟨true,.sl 1 ((cw s).map D.str)⟩::.un::.un::.un::.un::.un::.un::.un::.un::.un::.un::.un::.un::.un::.un::.un::[])) (fun _=>[(0,.buf 7 [bU.D di]),(3,.buf 7 [bU.D ⟨(bS s).1,0,{iH with pre:=(cN s).2}⟩])]) 80 (fun _=>jy s) ?_ ?_
   ·refine wp_cond (fun hc4=>?_) (fun hc4=>?_)
    ·try simp only[hX]at hc4
     refine aQ ?_;intro u3;refine ax ?_;refine cE ((ai (cN s).1 46).length-1) (hj:=fun _=>by omega) (hb:=fun _=>by omega) ?_;refine az ?_;refine aq (fun hc5=>?_) (fun hc5=>?_)
     ·simp only[Bool.not_eq_true',decide_eq_false_iff_not]at hc5;have hno:=fU (s:=s) (fun h=>hc5 (h.1 hc4));refine ay ?_;refine bn (bU.D di) ?_;refine aQ ?_;refine b7 (aR ?_ (congrArg D.bool ?_));all_goals (rw[hno];rfl)
     simp only[Bool.not_eq_false',decide_eq_true_eq]at hc5;have hst:jy s:=fun _=>hc5
     have hrl:cw s=(ai (cN s).1 46).take ((ai (cN s).1 46).length-1):=if_pos hc4;refine aQ ?_;intro u4;refine ax ?_;refine sY ((ai (cN s).1 46).length-1) (hj:=fun _=>by omega) (hb:=fun _=>by omega) ?_;refine az ?_;simp only[hrl];exact⟨(),hst,(ek [(0,0),(3,3)])⟩
    simp only[decide_eq_false_iff_not]at hc4;have hst:jy s:=fun h=>absurd h hc4
    have hrl:cw s=(ai (cN s).1 46):=if_neg hc4;refine ay ?_;simp only[hrl];exact⟨(),hst,(ek [(0,0),(3,3)])⟩
   ·rintro _ hst;refine aA ?_;intro u5;refine ay ?_;refine aq (fun hc6=>?_) (fun hc6=>?_)
    ·simp only[decide_eq_true_eq]at hc6;have hno:=fU (s:=s) (fun h=>by have:=h.2.1;simp only[fg,Bool.and_eq_true,decide_eq_true_eq]at this;omega);refine ay ?_;refine bn (bU.D di) ?_;refine aA ?_;refine b7 (aR ?_ (congrArg D.bool ?_));all_goals (rw[hno];rfl)
    try simp only[hX]at hc6
    refine aA ?_;intro u6;refine ax ?_;refine aF (bU.D ⟨(bS s).1,((cw s).length:Nat),{iH with pre:=(cN s).2}⟩) (he:=by exact rfl) ?_;refine aQ ?_;intro u7;refine ay ?_;have hb:fg (cw s)=cj (fun i=>dM (cw s)[i]!) 0 (cw s).length:=by simp only[fg];rw[decide_eq_true (by omega)];rfl
    refine br hm (ι:=Nat) (fun i=>(⟨true,.str s⟩::⟨true,.ptr 0 7 0 0⟩::.un::.un::.un::.un::.un::.un::.un::⟨true,.ptr 3 7 0 0⟩::.un::.un::.un::.un::.un::.un::.un::.un::.un::.un::⟨true,.int .i64 (i:Nat)⟩::⟨true,.int .i64 ((cw s).length:Nat)⟩::.un::⟨true,.sl 1 ((cw s).map D.str)⟩::.un::.un::.un::.un::.un::.un::.un::.un::.un::[])) (fun i=>[(0,.buf 7 [bU.D di]),(3,.buf 7 [bU.D ⟨(bS s).1,((cw s).length:Nat),{AH (cw s) i with pre:=(cN s).2}⟩])]) 90 (fun i=>i≤(cw s).length∧fg (cw s)=cj (fun i=>dM (cw s)[i]!) i (cw s).length) (fun i=>(cw s).length-i) 0 ⟨by omega,hb⟩ (ek [(0,0),(3,3)]) ?_;rintro i ⟨hi,hr⟩;refine az ?_;refine cI (fun hc7=>?_) fun hc7=>?_
    ·refine fG ?_;refine aj (hc:=h658 (cw s)[i]!) ?_;refine fG ?_;refine aq (fun hc8=>?_) (fun hc8=>?_)
     ·simp only[Bool.not_eq_true']at hc8;have hno:=fU (s:=s) (fun h=>by have:=h.2.1;rw[hr,aK (by omega),hc8]at this;cases this);refine ay ?_;refine bn (bU.D di) ?_;refine aT ?_;refine b7 (aR ?_ (congrArg D.bool ?_));all_goals (rw[hno];rfl)
     simp only[Bool.not_eq_false']at hc8;refine dp ?_;refine wp_cond (fun hc9=>?_) (fun hc9=>?_)
     ·simp only[decide_eq_true_eq]at hc9;have hi0:i=0:=by omega
      refine aA ?_;refine aF (bU.D ⟨(bS s).1,((cw s).length:Nat),{AH (cw s) (i+1)with pre:=(cN s).2}⟩) (he:=by subst hi0;exact rfl) ?_;refine bY ?_;exact⟨i+1,⟨by omega,by rw[hr,aK (by omega),hc8];rfl⟩,by omega,(ek [(0,0),(3,3)])⟩
     try simp only[hX]at hc9
     refine aA ?_;refine wp_cond (fun hc10=>?_) (fun hc10=>?_)
     ·simp only[decide_eq_true_eq]at hc10;have hi0:i=1:=by omega
      refine aA ?_;refine aF (bU.D ⟨(bS s).1,((cw s).length:Nat),{AH (cw s) (i+1)with pre:=(cN s).2}⟩) (he:=by subst hi0;exact rfl) ?_;refine bY ?_;exact⟨i+1,⟨by omega,by rw[hr,aK (by omega),hc8];rfl⟩,by omega,(ek [(0,0),(3,3)])⟩
     simp only[decide_eq_false_iff_not]at hc10;have hi0:i=2:=by omega
     refine aA ?_;refine aF (bU.D ⟨(bS s).1,((cw s).length:Nat),{AH (cw s) (i+1)with pre:=(cN s).2}⟩) (he:=by subst hi0;exact rfl) ?_;refine bY ?_;exact⟨i+1,⟨by omega,by rw[hr,aK (by omega),hc8];rfl⟩,by omega,(ek [(0,0),(3,3)])⟩
    refine aA ?_;obtain rfl:i=(cw s).length:=by omega
    have hok:fg (cw s)=true:=by rw[hr,bW (by omega)]
    have hsm:(cF s).v.sm:=⟨by show(cN s).2.length≤_;omega,by show([]:ah).length≤_;simp⟩;refine cA (d:=bU.D (cF s)) ?_;refine aj (hc:=h827 (cF s) hsm) ?_;refine ay ?_;refine cA (d:=bU.D (cF s)) ?_;refine eI (hc:=fun _=>h828 (cF s) hsm) ?_;refine aA ?_;refine aq (fun hc11=>?_) (fun hc11=>?_)
    ·simp only[Bool.or_eq_true,Bool.not_eq_true',decide_eq_false_iff_not]at hc11;have hno:=fU (s:=s) (fun h=>by rcases hc11 with h1|h1;rw[h.2.2.1]at h1;cases h1;exact h1 h.2.2.2);refine ay ?_;refine bn (bU.D di) ?_;refine aA ?_;refine b7 (aR ?_ (congrArg D.bool ?_));all_goals (rw[hno];rfl)
    simp only[Bool.or_eq_false_iff,Bool.not_eq_false',decide_eq_true_eq]at hc11;have hyes:dC s=some (cF s):=by unfold dC;rw[if_pos ⟨hst,hok,hc11⟩]
    refine ay ?_;refine cA (d:=bU.D (cF s)) ?_;refine aA ?_;refine b7 (aR ?_ (congrArg D.bool ?_));all_goals (rw[hyes];rfl)
def KR (Γ:Ctx):Prop:=∀(s:ah),(s.length≤1048576)→Γ.pre 819 [.str s]∧Γ.val 819 [.str s]=.tup [bU.D ((dC s).getD di),.bool (dC s).isSome]
end Go.Abs
end
section
namespace Go.Abs
open Go
def zb:aB:=⟨1,9,[⟨1,some (7,true)⟩,⟨2,none⟩],[[.a,.a,.a,.a,.a,.a,.a],[.a]],(sq (rg [gb 7 (.c (.agg [.int .i64 0,.int .i64 0,.int .i64 0,.int .i64 0,.int .i64 0,.str [],.str []])),gm bD] [(1,0),(2,1)]) (sq (sq (rg [gm s0,gx 819 [l0] cr,gm l1,ge l2 0,ge l2 1,gb 7 (.c (.agg [.int .i64 0,.int .i64 0,.int .i64 0,.int .i64 0,.int .i64 0,.str [],.str []])),gt 7 l5 l3,gm l4] [(5,5),(3,7)]) (sq (r1 [gm s3] 4 0) (.cond s4 (sq (r1 [gk 7 true s5,gt 7 s1 l0,gm bD] 2 2) .ret) .skip))) (sq (sq (rg [gm s0,av (cs [94]) l0,gx 819 [l1] cr,gm l2,ge l3 0,ge l3 1,gb 7 (.c (.agg [.int .i64 0,.int .i64 0,.int .i64 0,.int .i64 0,.int .i64 0,.str [],.str []])),gt 7 l6 l4,gm l5] [(8,6),(6,8)]) (sq (r1 [gm s6] 7 0) (.cond s7 (sq (r1 [gk 7 true s8,gt 7 s1 l0,gm bD] 2 2) .ret) .skip))) (sq (r1 [gn (.build [.int .i64 0,.int .i64 0,.int .i64 0,.int .i64 0,.int .i64 0,.str [],.str []] []),gt 7 s1 l0,gm zm] 2 2) .ret))))⟩
def w682 {Γ:Ctx}(hm:(Γ.at 0).bp)(h819:KR Γ)(s:ah)  (hp0:s.length≤1048575):ef Γ zb (.tup [bU.D ((gv s).getD di),.int .i64 (if(gv s).isSome=true then 0 else 6)]) [.str s]:=by
 show bz _ _ _ [⟨_,_⟩,_,_,_,_,_,_,_,_] _;refine ak ?_;refine aT ?_;refine aj (hc:=h819 s (by omega)) ?_;refine ax ?_;refine fC (bU.D _) ?_;refine ay ?_;refine aF (bU.D ((dC s).getD di)) (he:=by exact rfl) ?_;refine aT ?_;refine cI (fun hc0=>?_) fun hc0=>?_
 ·refine ay ?_;refine cA (d:=bU.D ((dC s).getD di)) ?_;refine aA ?_;refine b7 (aR ?_ (congrArg (D.int .i64) ?_));all_goals (have hn:gv s=dC s:=if_pos hc0;rw[hn];first|rfl|simp only[hc0,if_true])
 refine aA ?_;refine cS (hb:=fun _=>by simp;omega) ?_;refine aj (hc:=h819 (94::s) (by simp;omega)) ?_;refine ax ?_;refine fC (bU.D _) ?_;refine ay ?_;refine aF (bU.D ((dC (94::s)).getD di)) (he:=by exact rfl) ?_;refine aT ?_;refine cI (fun hc1=>?_) fun hc1=>?_
 ·refine ay ?_;refine cA (d:=bU.D ((dC (94::s)).getD di)) ?_;refine aA ?_;refine b7 (aR ?_ (congrArg (D.int .i64) ?_));all_goals (have hn:gv s=dC (94::s):=(by simp only[gv,hc0,Bool.false_eq_true,if_false]);rw[hn];first|rfl|simp only[hc1,if_true])
 refine ay ?_;refine bn (bU.D di) ?_;refine aA ?_;refine b7 (aR ?_ (congrArg (D.int .i64) ?_));all_goals (have hn:gv s=none:=(by simp only[gv,hc0,Bool.false_eq_true,if_false];exact Option.not_isSome_iff_eq_none.1 (by rw[hc1];simp));rw[hn];rfl)
def KK (Γ:Ctx):Prop:=∀(s:ah),(s.length≤1048575)→Γ.pre 682 [.str s]∧Γ.val 682 [.str s]=.tup [bU.D ((gv s).getD di),.int .i64 (if(gv s).isSome=true then 0 else 6)]
end Go.Abs
end
section
namespace Go.Abs
open Go
end Go.Abs
end
section
namespace Go.Abs
open Go
end Go.Abs
end
section
namespace Go.Abs
open Go
end Go.Abs
end
