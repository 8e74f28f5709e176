/- A part of the proofs. -/
import Derived.Test.YtgnjlompgjhaaaaGreatDoorP05
set_option linter.all false
set_option maxRecDepth 4000
section
namespace Go.Abs
variable {Y:Ctx}(hm:(Y.at 0).cj)
def ah {p:Prop}(h:p:=by exact rfl):p:=h
def vO {p:Prop}(h:p:=by repeat(first|exact eC.nil|refine eC.un ?_|refine eC.eq aZ ?_)):p:=h
def ny {p:Prop}(h:p:=by first|exact rfl|exact bB (fun _=>rfl) _):p:=h
def et {p:Prop}(h:p:=by repeat(first|exact eC.nil|refine eC.un ?_|refine eC.eq aZ ?_|refine eC.nl aZ aZ ?_)):p:=h
def ee {p:Prop}(h:p:=by repeat' first|exact trivial|exact rfl|refine And.intro ?_ ?_):p:=h
def xf {p:Prop}(h:p:=by repeat' first|exact trivial|exact rfl|exact aQ _|refine And.intro ?_ ?_):p:=h
def tn {p:Prop}(h:p:=by repeat(first|exact bJ.nil|refine bJ.lE aZ aZ (by first|exact rfl|exact bB (fun _=>rfl) _) ?_|refine bJ.Ou aZ aZ aZ ?_|refine bJ.idi aZ aZ aZ aZ ?_)):p:=h
def b0 {p:Prop} [Decidable p]:(decide p=true)=p:=aT
def b1 {p:Prop} [Decidable p]:decide p=false↔¬p:=bm
def b2 (b:Bool):((!b)=true)=(b=false):=bg b
def b3 (b:Bool):((!b)=false)=(b=true):=bN b
def b4 (b:Bool):(¬(b=false))=(b=true):=Bool.not_eq_false b
def b5 (a b:Bool):((a ||b)=true)=(a=true\/b=true):=cS a b
def b6 {a b:Bool}:(a ||b)=false↔a=false/\b=false:=dh
end Go.Abs
namespace Go.Abs
variable {Y:Ctx}(hm:(Y.at 0).cj)
abbrev dn (Y:Ctx)(a:aE)(d:D)(ds:List D):Prop:=bP (Y.at 0) a.body (Uu a d) (fH a ds) ⟨0,[]⟩
def bI {a:aE}{d d2:D}{e:Ex}{nx:Nat}{m:List (Nat×b7)}{env:List cd}(h:d2=d)(he:e.home:=by exact trivial)(h1:qy m env a.res:=by exact xf)(h2:CF a env m:=by exact ee)(h3:Na a env m=d2:=by exact rfl):Uu a d e env ⟨nx,m⟩:=VE he h1 h2 (h3.trans h)
def bX {a:aE}{d d2:Bool}{e:Ex}{nx:Nat}{m:List (Nat×b7)}{env:List cd}(h:d2=d)(he:e.home:=by exact trivial)(h1:qy m env a.res:=by exact xf)(h2:CF a env m:=by exact ee)(h3:Na a env m=.bool d2:=by exact rfl):Uu a (.bool d) e env ⟨nx,m⟩:=bI (aj _ h) he h1 h2 h3
def df {a:aE}{d d2:List UInt8}{e:Ex}{nx:Nat}{m:List (Nat×b7)}{env:List cd}(h:d2=d)(he:e.home:=by exact trivial)(h1:qy m env a.res:=by exact xf)(h2:CF a env m:=by exact ee)(h3:Na a env m=.str d2:=by exact rfl):Uu a (.str d) e env ⟨nx,m⟩:=bI (aj _ h) he h1 h2 h3
def c8 {a:aE}{d d2:Int}{e:Ex}{nx:Nat}{m:List (Nat×b7)}{env:List cd}(h:d2=d)(he:e.home:=by exact trivial)(h1:qy m env a.res:=by exact xf)(h2:CF a env m:=by exact ee)(h3:Na a env m=.int .i64 d2:=by exact rfl):Uu a (.int .i64 d) e env ⟨nx,m⟩:=bI (aj _ h) he h1 h2 h3
def dy {lo c nx nx2:Nat}{env env2:List cd}{m m2:List (Nat×b7)}(σ:List (Nat×Nat))(hc:nx2=c:=by exact ah)(h:gS lo c σ=true:=by exact ah)(he:eC lo σ env env2:=by exact et)(hm:bJ lo c σ m m2:=by exact tn):br lo env ⟨nx,m⟩ env2 ⟨nx2,m2⟩:=br.to σ hc h he hm
def fW {Y:Ctx}{draw f:Bool}{r:List GI}{env rs:List cd}{nx:Nat}{m:List (Nat×b7)}{K:List cd->St->Prop}{g:Option (Nat×Bool)}{x y:Src}{fx fy:Bool}{a b:List UInt8}(h:aN Y draw r env (⟨f,.str (a++b)⟩::rs) nx m K)(hg:GF rs g f:=by first|exact rfl|exact⟨_,_,rfl,rfl⟩)(hx:cP env rs x=⟨fx,.str a⟩:=by exact rfl)(hy:cP env rs y=⟨fy,.str b⟩:=by exact rfl)(kx:f=true->fx=true:=by first|exact fun _=>rfl|exact fun h=>h|(intro h;simp_all))(ky:f=true->fy=true:=by first|exact fun _=>rfl|exact fun h=>h|(intro h;simp_all))(hb:f=true->a.length+b.length<=9223372036854775807:=by intro _;simp only[cb,ax,aB];omega):aN Y draw (⟨.bin .add x y,g⟩::r) env rs nx m K:=dQ h hg hx hy kx ky hb
end Go.Abs
namespace Go.Abs
variable {Y:Ctx}(hm:(Y.at 0).cj)
def eV {lo c l:Nat}{σ:List (Nat×Nat)}{m r:List (Nat×b7)}{b:b7}(h:bJ lo c σ m r)(hh:bJ lo c σ m [(l,b)]:=by(first|refine bJ.lE aZ aZ (by first|exact rfl|exact bB (fun _=>rfl) _) ?_|refine bJ.Ou aZ aZ aZ ?_|refine bJ.idi aZ aZ aZ aZ ?_)<;>exact bJ.nil):bJ lo c σ m ((l,b)::r):=⟨hh.1,h⟩
end Go.Abs
namespace Go.Abs
variable {Y:Ctx}(hm:(Y.at 0).cj)
section
variable {Y:Ctx} {Q:Ex->List cd->St->Prop}
def cmN {env rs:List cd}:NU env rs []=env:=rfl
def cmC {s p:Nat}{r:List (Nat×Nat)}{env rs env1 env':List cd}{f:Bool}{d:D}(e:cP [] rs (.l p)=⟨f,d⟩)(hs:env.set s ⟨f,d⟩=env1)(h:NU env1 rs r=env'):NU env rs ((s,p)::r)=env':=by
 simp only[NU,e,hs,h]
def rrrg {draw:Bool}{cm:List (Nat×Nat)}{b:AC}{nx nx':Nat}{m:List (Nat×b7)}{rs env fH env':List cd}(h:bP Y b Q env' ⟨nx',m⟩)
  (he:NU env rs cm=env':=by repeat(first|apply cmC aZ (by simp only[List.set_cons_zero,List.set_cons_succ];exact rfl)|with_reducible exact cmN)) (hn:nx+rs.length=nx':=by simp only[ax,aB,Nat.reduceAdd];exact rfl):aN Y draw [] fH rs nx m (fun vs st'=>bP Y b Q (iP env vs cm) st'):=
 Sc h he hn
def rrrh {draw:Bool}{cm:List (Nat×Nat)}{nx nx':Nat}{m:List (Nat×b7)}{rs env fH env':List cd}(h:Q .normal env' ⟨nx',m⟩)
  (he:NU env rs cm=env':=by repeat(first|apply cmC aZ (by simp only[List.set_cons_zero,List.set_cons_succ];exact rfl)|with_reducible exact cmN)) (hn:nx+rs.length=nx':=by simp only[ax,aB,Nat.reduceAdd];exact rfl):aN Y draw [] fH rs nx m (fun vs st'=>Q .normal (iP env vs cm) st'):=
 Sd h he hn
end
def Fam (_:Prop):Type:=Unit
def uM {q:Prop}:Fam q:=()
structure Hid (q:Prop)(f:Fam q):Prop where
 val:q
section
variable {Y:Ctx} {draw b1:Bool} {r:List GI} {env rs:List cd} {nx n0 n1:Nat} {m:List (Nat×b7)} {K:List cd->St->Prop} {g:Option (Nat×Bool)} {x0 x1 x2:Src}
def tg0 {Y:Ctx}{a:AC}{Q:Ex->List cd->St->Prop}{env:List cd}{st:St}(h:bP Y a Q env st):bP Y a Q env st:=h
def tg1 (h:aN Y draw (⟨.mv x0,g⟩::r) env rs nx m K):aN Y draw (⟨.mv x0,g⟩::r) env rs nx m K:=h
def tg2 (h:aN Y draw [] env rs nx m K):aN Y draw [] env rs nx m K:=h
def tg3 (h:aN Y draw (⟨.fa n0 x1,g⟩::r) env rs nx m K):aN Y draw (⟨.fa n0 x1,g⟩::r) env rs nx m K:=h
def tg4 (h:aN Y draw (⟨.ld n0 b1 x2,g⟩::r) env rs nx m K):aN Y draw (⟨.ld n0 b1 x2,g⟩::r) env rs nx m K:=h
def tg5 (h:aN Y draw (⟨.bin .lss x0 x1,g⟩::r) env rs nx m K):aN Y draw (⟨.bin .lss x0 x1,g⟩::r) env rs nx m K:=h
def tg6 (h:aN Y draw (⟨.bin .eql x0 x1,g⟩::r) env rs nx m K):aN Y draw (⟨.bin .eql x0 x1,g⟩::r) env rs nx m K:=h
def tg7 (h:aN Y draw (⟨.bin .add x0 x1,g⟩::r) env rs nx m K):aN Y draw (⟨.bin .add x0 x1,g⟩::r) env rs nx m K:=h
def tg8 (h:aN Y draw (⟨.bin .gtr x0 x1,g⟩::r) env rs nx m K):aN Y draw (⟨.bin .gtr x0 x1,g⟩::r) env rs nx m K:=h
def tg9 (h:aN Y draw (⟨.bin .neq x0 x1,g⟩::r) env rs nx m K):aN Y draw (⟨.bin .neq x0 x1,g⟩::r) env rs nx m K:=h
def tg10 (h:aN Y draw (⟨.bin .leq x0 x1,g⟩::r) env rs nx m K):aN Y draw (⟨.bin .leq x0 x1,g⟩::r) env rs nx m K:=h
def tg11 (h:aN Y draw (⟨.bin .geq x0 x1,g⟩::r) env rs nx m K):aN Y draw (⟨.bin .geq x0 x1,g⟩::r) env rs nx m K:=h
def tg12 (h:aN Y draw (⟨.bin .sub x0 x1,g⟩::r) env rs nx m K):aN Y draw (⟨.bin .sub x0 x1,g⟩::r) env rs nx m K:=h
def tg13 (h:aN Y draw (⟨.ext x0 n1,g⟩::r) env rs nx m K):aN Y draw (⟨.ext x0 n1,g⟩::r) env rs nx m K:=h
def tg14 (h:aN Y draw (⟨.pick x0 x1 (.c (.bool false)),g⟩::r) env rs nx m K):aN Y draw (⟨.pick x0 x1 (.c (.bool false)),g⟩::r) env rs nx m K:=h
def tg15 (h:aN Y draw (⟨.pick x0 (.c (.bool true)) x1,g⟩::r) env rs nx m K):aN Y draw (⟨.pick x0 (.c (.bool true)) x1,g⟩::r) env rs nx m K:=h
def tg16 (h:aN Y draw (⟨.un .not x0,g⟩::r) env rs nx m K):aN Y draw (⟨.un .not x0,g⟩::r) env rs nx m K:=h
def tg17 (h:aN Y draw (⟨.nilck x0,g⟩::r) env rs nx m K):aN Y draw (⟨.nilck x0,g⟩::r) env rs nx m K:=h
def tg18 (h:aN Y draw (⟨.box n0 x1,g⟩::r) env rs nx m K):aN Y draw (⟨.box n0 x1,g⟩::r) env rs nx m K:=h
def tg19 (h:aN Y draw (⟨.ia n0 x1 x2,g⟩::r) env rs nx m K):aN Y draw (⟨.ia n0 x1 x2,g⟩::r) env rs nx m K:=h
def tg20 (h:aN Y draw (⟨.ixS x0 x1,g⟩::r) env rs nx m K):aN Y draw (⟨.ixS x0 x1,g⟩::r) env rs nx m K:=h
def tg21 (h:aN Y draw (⟨.st n0 x1 x2,g⟩::r) env rs nx m K):aN Y draw (⟨.st n0 x1 x2,g⟩::r) env rs nx m K:=h
def tg22 (h:aN Y draw (⟨.len x0,g⟩::r) env rs nx m K):aN Y draw (⟨.len x0,g⟩::r) env rs nx m K:=h
def tg23 (h:aN Y draw (⟨.lenS x0,g⟩::r) env rs nx m K):aN Y draw (⟨.lenS x0,g⟩::r) env rs nx m K:=h
def tg24 (h:aN Y draw (⟨.uB x0,g⟩::r) env rs nx m K):aN Y draw (⟨.uB x0,g⟩::r) env rs nx m K:=h
def tg25 (h:aN Y draw (⟨.s2b x0,g⟩::r) env rs nx m K):aN Y draw (⟨.s2b x0,g⟩::r) env rs nx m K:=h
def tg26 (h:aN Y draw (⟨.mkB,g⟩::r) env rs nx m K):aN Y draw (⟨.mkB,g⟩::r) env rs nx m K:=h
def tg27 (h:aN Y draw (⟨.app n0 x1 x2,g⟩::r) env rs nx m K):aN Y draw (⟨.app n0 x1 x2,g⟩::r) env rs nx m K:=h
end
def aH {p q:Prop}(k:q)(h:Hid q uM->p:=by
 intro h;first
 |((with_reducible refine tg0 ?_);first|with_reducible exact aq h.1|with_reducible exact Qt h.1|with_reducible exact Iy h.1|with_reducible exact VQ h.1|with_reducible exact M9 h.1|with_reducible exact wp_ret h.1|with_reducible exact wp_skip h.1|with_reducible exact Ix h.1|with_reducible exact wp_exit h.1|with_reducible exact Gq h.1 hm|with_reducible exact M8 h.1 hm)
 |((with_reducible refine tg1 ?_);(refine r_mv ?_;exact h.1))
 |((with_reducible refine tg2 ?_);first|(refine rrrh ?_;exact h.1)|(refine rrrg ?_;exact h.1))
 |((with_reducible refine tg3 ?_);first|(refine ZG ?_;exact h.1)|(refine ZH ?_;exact h.1))
 |((with_reducible refine tg4 ?_);first|exact bd (.int _ _) h.1|exact bd (.str _) h.1|(refine bH (v:=.str _) ?_;exact h.1)|(refine e8 (v:=.str _) ?_;exact h.1)|(refine bH (v:=.int _ _) ?_;exact h.1)|(refine e8 (v:=.int _ _) ?_;exact h.1)|exact bd (.sl _ _) h.1|exact bd (.own _ _ _ _) h.1|exact bd (.bool _) h.1|(refine bH (v:=.sl _ _) ?_;exact h.1)|(refine e8 (v:=.sl _ _) ?_;exact h.1)|(refine bH (v:=.bool _) ?_;exact h.1)|(refine e8 (v:=.bool _) ?_;exact h.1)|exact de h.1|exact bd .aF h.1)
 |((with_reducible refine tg5 ?_);first|(refine PE ?_;exact h.1)|(refine PF ?_;exact h.1))
 |((with_reducible refine tg6 ?_);first|(refine Vn ?_;exact h.1)|(refine Vo ?_;exact h.1))
 |((with_reducible refine tg7 ?_);(refine R7 ?_;exact h.1))
 |((with_reducible refine tg8 ?_);first|(refine HD ?_;exact h.1)|(refine HE ?_;exact h.1))
 |((with_reducible refine tg9 ?_);first|(refine Vx ?_;exact h.1)|(refine Vy ?_;exact h.1))
 |((with_reducible refine tg10 ?_);first|(refine Vv ?_;exact h.1)|(refine Vw ?_;exact h.1))
 |((with_reducible refine tg11 ?_);first|(refine Vp ?_;exact h.1)|(refine Vq ?_;exact h.1))
 |((with_reducible refine tg12 ?_);(refine R9 ?_;exact h.1))
 |((with_reducible refine tg13 ?_);first|exact e7 (.int _ _) h.1|exact e7 (.str _) h.1|exact e7 (.bool _) h.1)
 |((with_reducible refine tg14 ?_);(refine Pt ?_;exact h.1))
 |((with_reducible refine tg15 ?_);(refine ZL ?_;exact h.1))
 |((with_reducible refine tg16 ?_);(refine ZJ ?_;exact h.1))
 |((with_reducible refine tg17 ?_);first|(refine Vz ?_;exact h.1)|(refine VA ?_;exact h.1))
 |((with_reducible refine tg18 ?_);(refine ZF ?_;exact h.1))
 |((with_reducible refine tg19 ?_);first|exact bL _ h.1|exact Vr h.1|exact iD _ h.1|exact Vs h.1)
 |((with_reducible refine tg20 ?_);first|exact pA _ h.1|exact Vt h.1)
 |((with_reducible refine tg21 ?_);exact aY _ h.1)
 |((with_reducible refine tg22 ?_);first|exact PA fun a=>(h.1:_->_) (a rfl rfl)|exact PC fun a=>(h.1:_->_) (a rfl rfl)|(refine Vu ?_;exact h.1))
 |((with_reducible refine tg23 ?_);exact PD fun a=>(h.1:_->_) (a rfl rfl))
 |((with_reducible refine tg24 ?_);(refine ZN ?_;exact h.1))
 |((with_reducible refine tg25 ?_);(refine ZO ?_;exact h.1))
 |((with_reducible refine tg26 ?_);(refine ZI ?_;exact h.1))
 |((with_reducible refine tg27 ?_);(refine kM ?_;exact h.1))
 |with_reducible exact BQ.normal h.1|with_reducible exact BQ.ret h.1|with_reducible exact LQ.normal h.1|with_reducible exact LQ.out h.1|with_reducible exact LQ.ret h.1|with_reducible exact BQ.out h.1|with_reducible exact GD.normal h.1|with_reducible exact GD.ret h.1|with_reducible exact GH.normal h.1|with_reducible exact GH.ret h.1|with_reducible exact GD.out h.1|with_reducible exact GH.out h.1|with_reducible exact CQ.normal h.1|with_reducible exact CQ.ret h.1|with_reducible exact CQ.other h.1|((with_reducible refine BQ.other ?_ h.1);exact rfl)|((with_reducible refine LQ.other ?_ h.1);exact rfl)|((with_reducible refine GD.other ?_ h.1);exact rfl)|((with_reducible refine GH.other ?_ h.1);exact rfl)):p:=h ⟨k⟩
def iJ {p q:Prop}(k:q)(h:Hid q uM->p:=by intro h;first|exact PA fun _=>h.1|exact PD fun _=>h.1|exact PC fun _=>h.1):p:=h ⟨k⟩
section
variable {Y:Ctx} {Q:Ex->List cd->St->Prop}
end
def dq:(∀{p:Prop} [Decidable p],(decide p=true)=p)/\(∀{p:Prop} [Decidable p],decide p=false↔¬p)/\(∀b:Bool,((!b)=true)=(b=false))/\(∀b:Bool,((!b)=false)=(b=true))/\(∀b:Bool,(¬(b=false))=(b=true))/\(∀a b:Bool,((a ||b)=true)=(a=true\/b=true))/\(∀{a b:Bool},(a ||b)=false↔a=false/\b=false)/\(∀a b:Bool,((a&&b)=true)=(a=true/\b=true))/\(∀{a b:Bool},(a&&b)=false↔a=false\/b=false)/\(∀b:Bool,(¬(b=true))=(b=false))/\(∀b:Bool,(true&&b)=b)/\∀b:Bool,(b&&true)=b:=
 ⟨aT,bm,bg,bN,Bool.not_eq_false,cS,dh,bG,dR,Bool.not_eq_true,gC,m3⟩
section
variable {Y:Ctx} {Q:Ex->List cd->St->Prop} {env:List cd} {st:St}
def cM {c:Src}{a b r:AC}{t:Bool}{c1 c2:Prop}(h1:c1->bP Y (.seq a r) Q env st)(h2:c2->bP Y (.seq b r) Q env st)(hc:cP env [] c=⟨true,.bool t⟩:=by exact rfl)(e1:t=true->c1:=by intro h;(try simp only[dq]at h);exact h)(e2:t=false->c2:=by intro h;(try simp only[dq]at h);exact h):bP Y (.seq (.cond c a b) r) Q env st:=av (fun h=>h1 (e1 h)) (fun h=>h2 (e2 h)) hc
def fP {c:Src}{a b:AC}{t:Bool}{c1 c2:Prop}(h1:c1->bP Y a Q env st)(h2:c2->bP Y b Q env st)(hc:cP env [] c=⟨true,.bool t⟩:=by exact rfl)(e1:t=true->c1:=by intro h;(try simp only[dq]at h);exact h)(e2:t=false->c2:=by intro h;(try simp only[dq]at h);exact h):bP Y (.cond c a b) Q env st:=wp_cond (fun h=>h1 (e1 h)) (fun h=>h2 (e2 h)) hc
end
end Go.Abs
namespace Go.Abs
variable {Y:Ctx}(hm:(Y.at 0).cj)
def ay {p q:Prop}(k:q)(h:Hid q uM->p:=by intro h;(iterate 2 refine aH ?_);exact h.1):p:=h ⟨k⟩
def aA {p q:Prop}(k:q)(h:Hid q uM->p:=by intro h;(iterate 3 refine aH ?_);exact h.1):p:=h ⟨k⟩
def aD {p q:Prop}(k:q)(h:Hid q uM->p:=by intro h;(iterate 4 refine aH ?_);exact h.1):p:=h ⟨k⟩
def aI {p q:Prop}(k:q)(h:Hid q uM->p:=by intro h;(iterate 5 refine aH ?_);exact h.1):p:=h ⟨k⟩
def aG {p q:Prop}(k:q)(h:Hid q uM->p:=by intro h;(iterate 6 refine aH ?_);exact h.1):p:=h ⟨k⟩
def ba {p q:Prop}(k:q)(h:Hid q uM->p:=by intro h;(iterate 7 refine aH ?_);exact h.1):p:=h ⟨k⟩
def bU {p q:Prop}(k:q)(h:Hid q uM->p:=by intro h;(iterate 8 refine aH ?_);exact h.1):p:=h ⟨k⟩
def di {p q:Prop}(k:q)(h:Hid q uM->p:=by intro h;(iterate 9 refine aH ?_);exact h.1):p:=h ⟨k⟩
def gv {p q:Prop}(k:q)(h:Hid q uM->p:=by intro h;(iterate 10 refine aH ?_);exact h.1):p:=h ⟨k⟩
def fK {p q:Prop}(k:q)(h:Hid q uM->p:=by intro h;(iterate 11 refine aH ?_);exact h.1):p:=h ⟨k⟩
def hY {p q:Prop}(k:q)(h:Hid q uM->p:=by intro h;(iterate 12 refine aH ?_);exact h.1):p:=h ⟨k⟩
def lA {p q:Prop}(k:q)(h:Hid q uM->p:=by intro h;(iterate 13 refine aH ?_);exact h.1):p:=h ⟨k⟩
def rE {p q:Prop}(k:q)(h:Hid q uM->p:=by intro h;(iterate 14 refine aH ?_);exact h.1):p:=h ⟨k⟩
def AJ {p q:Prop}(k:q)(h:Hid q uM->p:=by intro h;(iterate 15 refine aH ?_);exact h.1):p:=h ⟨k⟩
def AK {p q:Prop}(k:q)(h:Hid q uM->p:=by intro h;(iterate 16 refine aH ?_);exact h.1):p:=h ⟨k⟩
def AL {p q:Prop}(k:q)(h:Hid q uM->p:=by intro h;(iterate 17 refine aH ?_);exact h.1):p:=h ⟨k⟩
def Tq {p q:Prop}(k:q)(h:Hid q uM->p:=by intro h;(iterate 18 refine aH ?_);exact h.1):p:=h ⟨k⟩
def Tr {p q:Prop}(k:q)(h:Hid q uM->p:=by intro h;(iterate 20 refine aH ?_);exact h.1):p:=h ⟨k⟩
def zzz21 {p q:Prop}(k:q)(h:Hid q uM->p:=by intro h;(iterate 21 refine aH ?_);exact h.1):p:=h ⟨k⟩
def QC {p q:Prop}(k:q)(h:Hid q uM->p:=by intro h;(iterate 22 refine aH ?_);exact h.1):p:=h ⟨k⟩
def zzz24 {p q:Prop}(k:q)(h:Hid q uM->p:=by intro h;(iterate 24 refine aH ?_);exact h.1):p:=h ⟨k⟩
def Ts {p q:Prop}(k:q)(h:Hid q uM->p:=by intro h;(iterate 25 refine aH ?_);exact h.1):p:=h ⟨k⟩
def zzz26 {p q:Prop}(k:q)(h:Hid q uM->p:=by intro h;(iterate 26 refine aH ?_);exact h.1):p:=h ⟨k⟩
def QD {p q:Prop}(k:q)(h:Hid q uM->p:=by intro h;(iterate 28 refine aH ?_);exact h.1):p:=h ⟨k⟩
def zzz29 {p q:Prop}(k:q)(h:Hid q uM->p:=by intro h;(iterate 29 refine aH ?_);exact h.1):p:=h ⟨k⟩
def Tt {p q:Prop}(k:q)(h:Hid q uM->p:=by intro h;(iterate 36 refine aH ?_);exact h.1):p:=h ⟨k⟩
end Go.Abs
namespace Go.Abs
variable {Y:Ctx}(hm:(Y.at 0).cj)
abbrev s0:Src:=.s 0
abbrev s1:Src:=.s 1
abbrev s2:Src:=.s 2
abbrev s3:Src:=.s 3
abbrev s4:Src:=.s 4
abbrev s5:Src:=.s 5
abbrev s6:Src:=.s 6
abbrev s7:Src:=.s 7
abbrev s8:Src:=.s 8
abbrev s9:Src:=.s 9
abbrev ik:Src:=.s 10
abbrev jR:Src:=.s 11
abbrev kr:Src:=.s 12
abbrev qb:Src:=.s 13
abbrev tw:Src:=.s 14
abbrev tx:Src:=.s 15
abbrev AQ:Src:=.s 16
abbrev DG:Src:=.s 17
abbrev D7:Src:=.s 18
abbrev QH:Src:=.s 19
abbrev Ig:Src:=.s 20
abbrev V1:Src:=.s 21
abbrev V2:Src:=.s 22
abbrev s23:Src:=.s 23
abbrev VG:Src:=.s 24
abbrev V3:Src:=.s 25
abbrev ZR:Src:=.s 26
abbrev s27:Src:=.s 27
abbrev s28:Src:=.s 28
abbrev s29:Src:=.s 29
abbrev Tk:Src:=.s 30
abbrev s31:Src:=.s 31
abbrev s32:Src:=.s 32
abbrev s33:Src:=.s 33
abbrev s34:Src:=.s 34
abbrev s35:Src:=.s 35
abbrev s36:Src:=.s 36
abbrev s37:Src:=.s 37
abbrev s38:Src:=.s 38
abbrev l0:Src:=.l 0
abbrev l1:Src:=.l 1
abbrev l2:Src:=.l 2
abbrev l3:Src:=.l 3
abbrev l4:Src:=.l 4
abbrev l5:Src:=.l 5
abbrev l6:Src:=.l 6
abbrev l7:Src:=.l 7
abbrev l8:Src:=.l 8
abbrev l9:Src:=.l 9
abbrev l10:Src:=.l 10
abbrev fZ:Src:=.l 11
abbrev iv:Src:=.l 12
abbrev jr:Src:=.l 13
abbrev jT:Src:=.l 14
abbrev lg:Src:=.l 15
abbrev nw:Src:=.l 16
abbrev oU:Src:=.l 17
abbrev pL:Src:=.l 18
abbrev qx:Src:=.l 19
abbrev uN:Src:=.l 20
abbrev xc:Src:=.l 21
abbrev zm:Src:=.l 22
abbrev C6:Src:=.l 23
abbrev D5:Src:=.l 24
abbrev GM:Src:=.l 25
abbrev Ng:Src:=.l 26
abbrev QG:Src:=.l 27
abbrev S8:Src:=.l 28
abbrev S9:Src:=.l 29
abbrev VY:Src:=.l 30
abbrev Zx:Src:=.l 31
abbrev Zy:Src:=.l 32
abbrev l33:Src:=.l 33
abbrev l34:Src:=.l 34
abbrev l35:Src:=.l 35
abbrev l36:Src:=.l 36
abbrev l37:Src:=.l 37
abbrev gm (x:Src):GI:=⟨.mv x,none⟩
abbrev gn (x:aU):GI:=⟨x,none⟩
abbrev i6 (n:Int):Src:=.c (.int .i64 n)
abbrev cs (s:List UInt8):Src:=.c (.str s)
abbrev gd (x:Src):GI:=⟨.ld 1 false x,none⟩
abbrev gk (n:Nat)(b:Bool)(x:Src):GI:=⟨.ld n b x,none⟩
abbrev gf (n:Nat)(x:Src):GI:=⟨.fa n x,none⟩
abbrev gl (x:Src):GI:=⟨.len x,none⟩
abbrev ga (n:Nat)(x y:Src):GI:=⟨.ia n x y,none⟩
abbrev ge (x:Src)(n:Nat):GI:=⟨.ext x n,none⟩
abbrev gb (n:Nat)(x:Src):GI:=⟨.box n x,none⟩
abbrev gc (x:Src):GI:=⟨.nilck x,none⟩
abbrev gt (n:Nat)(x y:Src):GI:=⟨.st n x y,none⟩
abbrev gx (n:Nat)(x:List Src)(y:List (List Sh)):GI:=⟨.call n x y,none⟩
abbrev rg (x:List GI)(y:List (Nat×Nat)):AC:=.reg false x y
abbrev rt (x:List GI)(y:List (Nat×Nat)):AC:=.reg true x y
abbrev oW (x y:Src):aU:=.bin .lss x y
abbrev cV (x y:Src):aU:=.bin .eql x y
abbrev SX (x y:Src):aU:=.bin .add x y
abbrev eG (x y:Src):aU:=.bin .gtr x y
abbrev dS (x y:Src):aU:=.bin .neq x y
abbrev lj (x y:Src):aU:=.bin .leq x y
abbrev tN (x y:Src):aU:=.bin .geq x y
abbrev jK (x y:Src):aU:=.bin .sub x y
abbrev cZ:Src:=.c (.bool false)
abbrev m5:Src:=.c (.bool true)
abbrev cse:Src:=.c (.str [])
abbrev bx:Src:=.c (.int .i64 0)
abbrev cl:Src:=.c (.int .i64 1)
abbrev jC:Src:=.c (.int .i64 2)
abbrev kJ:Src:=.c (.int .i64 3)
abbrev wC:Src:=.c (.int .i64 4)
abbrev Hj:Src:=.c (.int .i64 5)
abbrev xB:Src:=.c (.int .i64 6)
abbrev Nf:Src:=.c (.int .i64 7)
abbrev EP:Src:=.c (.int .i64 8)
abbrev LY:Src:=.c (.int .i64 9)
abbrev gmt (n:Nat)(x:Src):GI:=⟨.mv x,some (n,true)⟩
abbrev jM (n:Nat)(x:Src):GI:=⟨.ld 1 false x,some (n,true)⟩
abbrev kn (n o:Nat)(x:Src):GI:=⟨.fa o x,some (n,true)⟩
abbrev cr (n:Nat)(x:aU):GI:=⟨x,some (n,true)⟩
abbrev ek (n:Nat)(x:Src):GI:=⟨.mv x,some (n,false)⟩
abbrev hZ (n:Nat)(x:Src):GI:=⟨.ld 1 false x,some (n,false)⟩
abbrev ig (n o:Nat)(x:Src):GI:=⟨.fa o x,some (n,false)⟩
abbrev cn (n:Nat)(x:aU):GI:=⟨x,some (n,false)⟩
abbrev sq (a b:AC):AC:=.seq a b
abbrev xz (x:Src):AC:=.seq (.reg false [⟨.mv x,none⟩] [(1,0)]) .ret
abbrev m8 (c x:Src):AC:=.cond c (.seq (.reg false [⟨.mv x,none⟩] [(1,0)]) .ret) .skip
abbrev b8:List (List Sh):=[[.a]]
abbrev ha2:List (List Sh):=[[.a,.a]]
abbrev xA:List (List Sh):=[[.a,.a,.a,.a,.a]]
abbrev Rw:List (List Sh):=[[.a,.a,.a,.a,.a,.a,.a]]
abbrev fA:List (List Sh):=[[.a],[.a]]
abbrev QF:List (List Sh):=[[.a],[.a],[.a]]
abbrev hb4:List (List Sh):=[[.a],[.a],[.a],[.a]]
abbrev eW (c x:Src):GI:=⟨.pick c (.c (.bool true)) x,none⟩
abbrev eX (c x:Src):GI:=⟨.pick c x (.c (.bool false)),none⟩
abbrev US (n:Nat)(c x:Src):GI:=⟨.pick c (.c (.bool true)) x,some (n,true)⟩
abbrev zf (n:Nat)(c x:Src):GI:=⟨.pick c x (.c (.bool false)),some (n,false)⟩
abbrev aX (x y:Src):GI:=⟨.bin .lss x y,none⟩
abbrev aL (x y:Src):GI:=⟨.bin .eql x y,none⟩
abbrev az (x y:Src):GI:=⟨.bin .add x y,none⟩
abbrev dj (x y:Src):GI:=⟨.bin .gtr x y,none⟩
abbrev bO (x y:Src):GI:=⟨.bin .neq x y,none⟩
abbrev zx (x y:Src):GI:=⟨.bin .leq x y,none⟩
abbrev fR (x y:Src):GI:=⟨.bin .geq x y,none⟩
abbrev dV (x y:Src):GI:=⟨.bin .sub x y,none⟩
abbrev ON (x y:Src):GI:=⟨.bin .and x y,none⟩
abbrev E8 (x y:Src):GI:=⟨.bin .or x y,none⟩
abbrev fC (c:Src)(n:Nat):AC:=.cond c .skip (.exit n)
abbrev i8 (n:Int):Src:=.c (.int .u8 n)
abbrev i3 (n:Int):Src:=.c (.int .i32 n)
abbrev iu (n:Int):Src:=.c (.int .u64 n)
abbrev ov (x:Src):GI:=⟨.lenS x,none⟩
abbrev iY (x:Src):GI:=⟨.un .not x,none⟩
abbrev GL (x y:Src):GI:=⟨.ixS x y,none⟩
abbrev r1 (x:List GI)(a b:Nat):AC:=.reg false x [(a,b)]
abbrev r2 (x:List GI)(a b:Nat):AC:=.reg true x [(a,b)]
abbrev ib:List GN:=[⟨1,none⟩]
end Go.Abs
end
namespace Go.Abs
variable {Y:Ctx}(hm:(Y.at 0).cj)
def Mw:aE:=⟨2,7,[⟨2,none⟩],b8,(sq (r1 [gm cse] 2 0) (sq (r1 [gm cse] 6 0) (sq (sq (r1 [gm bx] 3 0) (.block 0 (.loop (sq (sq (r1 [gm s3,gm s0,gl l1,aX l0 l2] 4 3) (fC s4 0)) (sq (.block 1 (sq (sq (r1 [gm s3,dj l0 bx] 5 1) (.cond s5 (r1 [gm s6,gm s1,gn (.bsl 1 (.int .u8 0) 1 [(0,l1)]),gn (.b2s l2),az l0 l3,gm l4] 6 5) .skip)) (r1 [gm s6,gm s0,gm s3,ga 1 l1 l2,gd l3,az l0 l4,gm l5] 6 6))) (r1 [gm s3,az l0 cl,gm l1] 3 2)))))) (sq (r1 [gm s6,gm l0] 2 1) .ret))))⟩
def w249  (l:List au)(x:UInt8)  (hp0:(aV [x] l).length<=1099511627776):dn Y Mw (.str (aV [x] l)) [.sl 1 (l.map D.str),.int .u8 (x.toNat:Nat)]:=by
 show bP _ _ _ [⟨_,_⟩,⟨_,_⟩,_,_,_,_,_] _;refine aq ?_;refine di ?_;refine bh hm (ι:=Nat) (fun i=>[⟨true,.sl 1 (l.map D.str)⟩,⟨true,.int .u8 (x.toNat:Nat)⟩,.un,⟨true,.int .i64 (i:Nat)⟩,.un,.un,⟨true,.str (aV [x] (l.take i))⟩]) (fun i=>[]) 3 (fun i=>i<=l.length) (fun i=>l.length-i) 0 ae (dy []) ?_;intro i hi;refine aI ?_;intro u0;refine ay ?_;refine cM (fun hc0=>?_) fun hc0=>?_
 .refine aD ?_;have hj:=rS [x] l (i+1);refine aA ?_;refine av (fun hc1=>?_) (fun hc1=>?_)
  .simp only[aT]at hc1;have ht:=pW [x] l i ae;rw[aw ae]at ht;have htl:=aj List.length ht;simp only[cb,List.length_singleton]at htl;refine aA ?_;refine dA [.int .u8 _] ?_;refine Jy [x] (he:=fun _=>uK.all ah rfl) (hs:=fun _=>rfl) ?_;refine dQ (hb:=fun _=>by simp only[List.length_singleton];omega) ?_;refine bU ?_;refine dQ (hb:=fun _=>by first|(simp only[cb,List.length_singleton];omega)|(subst hi0;simp only[List.take_zero,aV,aB]at htl⊢;omega)) ?_;refine di ?_;exact⟨i+1,ae,ae,(br.to [] ah ah (by repeat(first|exact eC.nil|refine eC.un ?_|refine eC.eq ah ?_|refine eC.nl (aj D.str (by rw[ht])) ah ?_)) tn)⟩
  simp only[bm]at hc1;have ht:=pW [x] l i ae;rw[ak ae]at ht;have htl:=aj List.length ht;simp only[cb,aB]at htl;have hi0:i=0:=ae;refine ba ?_;refine dQ (hb:=fun _=>by first|(simp only[cb,List.length_singleton];omega)|(subst hi0;simp only[List.take_zero,aV,aB]at htl⊢;omega)) ?_;refine di ?_;exact⟨i+1,ae,ae,(br.to [] ah ah (by repeat(first|exact eC.nil|refine eC.un ?_|refine eC.eq ah ?_|refine eC.nl (aj D.str (by rw[ht];subst hi0;rfl)) ah ?_)) tn)⟩
 refine ba ?_;refine df ?_;rw[ey ae]
def J5 (T:List D->D->Prop):Prop:=∀(l:List au) (x:UInt8),((aV [x] l).length<=1099511627776)->T [.sl 1 (l.map D.str),.int .u8 (x.toNat:Nat)] (.str (aV [x] l))
def Lc (Y:Ctx):Prop:=J5 (bD Y 249)
def Ac:aE:=⟨2,7,[⟨2,none⟩],b8,(sq (r1 [gm cZ] 2 0) (sq (sq (r1 [gm s0,gl l0,gm s1,gl l2,bO l1 l3] 3 4) (.cond s3 (sq (r1 [gm cZ] 2 0) .ret) .skip)) (sq (sq (r1 [gm bx] 4 0) (.block 0 (.loop (sq (sq (r1 [gm s4,gm s0,gl l1,aX l0 l2] 5 3) (fC s5 0)) (sq (.block 1 (sq (r2 [gm s0,gm s4,ga 1 l0 l1,gd l2,gm s1,gm s4,ga 1 l4 l5,gd l6,bO l3 l7] 6 8) (.cond s6 (sq (r1 [gm cZ] 2 0) .ret) .skip))) (r1 [gm s4,az l0 cl,gm l1] 4 2)))))) (sq (r1 [gm m5] 2 0) .ret))))⟩
def w226  (a:List au)(b:List au)   :dn Y Ac (.bool (decide (a=b))) [.sl 1 (a.map D.str),.sl 1 (b.map D.str)]:=by
 show bP _ _ _ [⟨_,_⟩,⟨_,_⟩,_,_,_,_,_] _;refine aq ?_;refine aG ?_;intro u0;refine ay ?_;intro u1;refine ay ?_;refine cM (fun hc0=>?_) fun hc0=>?_
 .refine aI ?_;refine bX ?_;symm;rw[bm];rintro rfl;exact hc0 rfl
 refine aI ?_;have hab:a.length=b.length:=ae;have hb:=pF hab;refine bh hm (ι:=Nat) (fun i=>[⟨true,.sl 1 (a.map D.str)⟩,⟨true,.sl 1 (b.map D.str)⟩,.un,.un,⟨true,.int .i64 (i:Nat)⟩,.un,.un]) (fun i=>[]) 7 (fun i=>i<=a.length/\decide (a=b)=cQ (fun i=>decide (a[i]! =b[i]!)) i a.length) (fun i=>a.length-i) 0 ⟨ae,hb⟩ (dy []) ?_;rintro i ⟨hi,hr⟩;refine aI ?_;intro u2;refine ay ?_;refine cM (fun hc1=>?_) fun hc1=>?_
 .refine lA ?_;refine wp_cond (fun hc2=>?_) (fun hc2=>?_)
  .simp only[bg,bm]at hc2;refine aG ?_;refine bX ?_;rw[hr,aS ae,cJ hc2];rfl
  simp only[bN,aT]at hc2;refine bU ?_;exact⟨i+1,⟨ae,by rw[hr,aS ae,b9 hc2];rfl⟩,ae,(dy [])⟩
 refine aG ?_;refine bX ?_;rw[hr,cq ae]
def JZ (T:List D->D->Prop):Prop:=∀(a:List au) (b:List au),T [.sl 1 (a.map D.str),.sl 1 (b.map D.str)] (.bool (decide (a=b)))
def TA (Y:Ctx):Prop:=JZ (bD Y 226)
def FN:aE:=⟨1,5,ib,b8,(sq (r1 [gm cZ] 1 0) (sq (sq (r1 [gm cl] 2 0) (.block 0 (.loop (sq (sq (r1 [gm s2,gm s0,gl l1,aX l0 l2] 3 3) (fC s3 0)) (sq (.block 1 (sq (r2 [gm s0,gm s2,dV l1 cl,ga 1 l0 l2,gd l3,gm s0,gm s2,ga 1 l5 l6,gd l7,fR l4 l8] 4 9) (m8 s4 cZ))) (r1 [gm s2,az l0 cl,gm l1] 2 2)))))) (xz m5)))⟩
def w815  (l:List au)   :dn Y FN (.bool (rising l)) [.sl 1 (l.map D.str)]:=by
 show bP _ _ _ [⟨_,_⟩,_,_,_,_] _;refine aq ?_;refine aG ?_;refine bh hm (ι:=Nat) (fun i=>[⟨true,.sl 1 (l.map D.str)⟩,.un,⟨true,.int .i64 (i:Nat)⟩,.un,.un]) (fun i=>[]) 2 (fun i=>1<=i/\(i<=l.length\/i=1)/\rising l=cQ (fun i=>Op.bytesLess l[i-1]! l[i]!) i l.length) (fun i=>l.length-i) 1 ⟨ae,ae,rfl⟩ (dy []) ?_;rintro i ⟨h1,hi,hr⟩;refine aI ?_;intro u0;refine ay ?_;refine cM (fun hc0=>?_) fun hc0=>?_
 .refine aG ?_;refine bL (i-1) ?_;refine ba ?_;refine wp_cond (fun hc1=>?_) (fun hc1=>?_)
  .simp only[bg]at hc1;refine aG ?_;refine bX ?_;rw[hr,aS ae,hc1];rfl
  simp only[bN]at hc1;refine bU ?_;exact⟨i+1,⟨ae,ae,by rw[hr,aS ae,hc1];rfl⟩,ae,(dy [])⟩
 refine aG ?_;refine bX ?_;rw[hr,cq ae]
def yz (T:List D->D->Prop):Prop:=∀(l:List au),T [.sl 1 (l.map D.str)] (.bool (rising l))
def T7 (Y:Ctx):Prop:=yz (bD Y 815)
def A0:aE:=⟨1,5,ib,b8,(sq (r1 [gm cZ] 1 0) (sq (sq (r1 [gm cl] 2 0) (.block 0 (.loop (sq (sq (r1 [gm s2,gm s0,gl l1,aX l0 l2] 3 3) (fC s3 0)) (sq (.block 1 (sq (r2 [gm s0,gm s2,dV l1 cl,ga 1 l0 l2,gd l3,gm s0,gm s2,ga 1 l5 l6,gd l7,fR l4 l8] 4 9) (m8 s4 cZ))) (r1 [gm s2,az l0 cl,gm l1] 2 2)))))) (xz m5)))⟩
def w447  (l:List au)   :dn Y A0 (.bool (rising l)) [.sl 1 (l.map D.str)]:=by
 show bP _ _ _ [⟨_,_⟩,_,_,_,_] _;refine aq ?_;refine aG ?_;refine bh hm (ι:=Nat) (fun i=>[⟨true,.sl 1 (l.map D.str)⟩,.un,⟨true,.int .i64 (i:Nat)⟩,.un,.un]) (fun i=>[]) 2 (fun i=>1<=i/\(i<=l.length\/i=1)/\rising l=cQ (fun i=>Op.bytesLess l[i-1]! l[i]!) i l.length) (fun i=>l.length-i) 1 ⟨ae,ae,rfl⟩ (dy []) ?_;rintro i ⟨h1,hi,hr⟩;refine aI ?_;intro u0;refine ay ?_;refine cM (fun hc0=>?_) fun hc0=>?_
 .refine aG ?_;refine bL (i-1) ?_;refine ba ?_;refine wp_cond (fun hc1=>?_) (fun hc1=>?_)
  .simp only[bg]at hc1;refine aG ?_;refine bX ?_;rw[hr,aS ae,hc1];rfl
  simp only[bN]at hc1;refine bU ?_;exact⟨i+1,⟨ae,ae,by rw[hr,aS ae,hc1];rfl⟩,ae,(dy [])⟩
 refine aG ?_;refine bX ?_;rw[hr,cq ae]
def WJ (Y:Ctx):Prop:=yz (bD Y 447)
def Hl:aE:=⟨1,8,ib,b8,(sq (r1 [gm cZ] 1 0) (sq (sq (r1 [gm s0,aL l0 cse,gm l1,ek 2 s0,cn 2 (.lenS l3),cn 2 (eG l4 (i6 12)),eW l2 l5] 2 6) (m8 s2 cZ)) (sq (sq (r1 [gm s0,gn (.uB l0)] 3 1) (.block 0 (.loop (sq (rg [gn (.AP s3),ge l0 0] [(5,0),(4,1)]) (sq (fC s4 0) (.block 1 (sq (r1 [ge s5 2,gm l0] 6 1) (.block 2 (sq (sq (r1 [gm s6,fR l0 (i3 97),gm l1,gmt 2 s6,cr 2 (lj l3 (i3 122)),eX l2 l4,gm l5] 7 6) (.cond s7 .skip (sq (r1 [gm s6,fR l0 (i3 48),gm l1,gmt 2 s6,cr 2 (lj l3 (i3 57)),eX l2 l4,gm l5] 7 6) (.cond s7 .skip (r1 [gm s6,aL l0 (i3 95),gm l1] 7 2))))) (.cond s7 .skip (xz cZ))))))))))) (xz m5))))⟩
def w349  (s:au)   :dn Y Hl (.bool (c9 s)) [.str s]:=by
 show bP _ _ _ [⟨_,_⟩,_,_,_,_,_,_,_] _;refine aq ?_;refine bU ?_;refine iJ ?_;refine aA ?_;refine cM (fun hc0=>?_) fun hc0=>?_
 .refine aI ?_;refine bX ?_;symm;simp only[c9,dR,bm];rcases hc0 with h|h
  .subst h;exact Or.inl (Or.inl aR)
  .exact Or.inl ae
 refine aG ?_;have hP:c9 s=cQ (fun i=>AE (at8 s i)) 0 s.length:=by
  have:=List.length_pos_iff.2 hc0.1;simp only[c9];rw[b9 ae,b9 ae];rfl
 refine bh hm (ι:=Nat) (fun i=>[⟨true,.str s⟩,.un,.un,⟨true,.it 9⟩,.un,.un,.un,.un]) (fun i=>[(9,.iter s i)]) 10 (fun i=>i<=s.length/\c9 s=cQ (fun i=>AE (at8 s i)) i s.length) (fun i=>s.length-i) 0 ⟨ae,hP⟩ (dy [(9,9)]) ?_;rintro i ⟨hi,hr⟩;refine aH ?_;by_cases hnx:i<s.length
 .obtain⟨c,w,hdec,hw,hcw⟩:=tW s i hnx;refine Dp c w (hp:=hnx) (hc:=hdec) ?_;refine ay ?_;refine av (t:=true) (fun _=>?_) (fun h=>by cases h);refine AL ?_;refine cM (fun hc2=>?_) fun hc2=>?_
  .refine aH ?_;refine fP (fun hc4=>?_) fun hc4=>?_
   .refine aD ?_;obtain⟨rfl,hat,-⟩:w=1/\(c:Int)=at8 s i/\c<128:=by
     rcases hcw with h|h
     .exact h
     .omega
    have hz:AE (at8 s i)=true:=by
     simp only[AE,iR,bp,cS,bG,aT];omega
    exact⟨i+1,⟨ae,by rw[hr,aS hnx,hz];rfl⟩,ae,(dy [(9,9)])⟩
   refine ba ?_;refine bX ?_;first
    |(exfalso;omega)
    |(rw[hr,cq ae];done)
    |(
     have hz:AE (at8 s i)=false:=by
      rcases hcw with⟨_,h,_⟩|⟨_,h⟩<;>(simp only[AE,iR,bp,dh,dR,bm];omega)
     rw[hr,aS hnx,hz];rfl)
  refine gv ?_;refine cM (fun hc3=>?_) fun hc3=>?_
  .refine aH ?_;refine fP (fun hc4=>?_) fun hc4=>?_
   .refine aD ?_;obtain⟨rfl,hat,-⟩:w=1/\(c:Int)=at8 s i/\c<128:=by
     rcases hcw with h|h
     .exact h
     .omega
    have hz:AE (at8 s i)=true:=by
     simp only[AE,iR,bp,cS,bG,aT];omega
    exact⟨i+1,⟨ae,by rw[hr,aS hnx,hz];rfl⟩,ae,(dy [(9,9)])⟩
   refine ba ?_;refine bX ?_;first
    |(exfalso;omega)
    |(rw[hr,cq ae];done)
    |(
     have hz:AE (at8 s i)=false:=by
      rcases hcw with⟨_,h,_⟩|⟨_,h⟩<;>(simp only[AE,iR,bp,dh,dR,bm];omega)
     rw[hr,aS hnx,hz];rfl)
  refine aI ?_;refine fP (fun hc4=>?_) fun hc4=>?_
  .refine aD ?_;obtain⟨rfl,hat,-⟩:w=1/\(c:Int)=at8 s i/\c<128:=by
    rcases hcw with h|h
    .exact h
    .omega
   have hz:AE (at8 s i)=true:=by
    simp only[AE,iR,bp,cS,bG,aT];omega
   exact⟨i+1,⟨ae,by rw[hr,aS hnx,hz];rfl⟩,ae,(dy [(9,9)])⟩
  refine ba ?_;refine bX ?_;first
   |(exfalso;omega)
   |(rw[hr,cq ae];done)
   |(
    have hz:AE (at8 s i)=false:=by
     rcases hcw with⟨_,h,_⟩|⟨_,h⟩<;>(simp only[AE,iR,bp,dh,dR,bm];omega)
    rw[hr,aS hnx,hz];rfl)
 .refine Dn (hp:=hnx) ?_;refine ay ?_;refine av (t:=false) (fun h=>by cases h) (fun _=>?_);refine aG ?_;refine bX ?_;first
   |(exfalso;omega)
   |(rw[hr,cq ae];done)
   |(
    have hz:AE (at8 s i)=false:=by
     rcases hcw with⟨_,h,_⟩|⟨_,h⟩<;>(simp only[AE,iR,bp,dh,dR,bm];omega)
    rw[hr,aS hnx,hz];rfl)
def xZ (T:List D->D->Prop):Prop:=∀(s:au),T [.str s] (.bool (c9 s))
def GR (Y:Ctx):Prop:=xZ (bD Y 349)
def Hk:aE:=⟨1,13,ib,b8,(sq (r1 [gm cZ] 1 0) (sq (sq (r1 [gm s0,aL l0 cse,gm l1,ek 2 s0,cn 2 (.lenS l3),cn 2 (eG l4 (i6 16)),eW l2 l5] 2 6) (m8 s2 cZ)) (sq (sq (r1 [gm s0,gn (.uB l0)] 3 1) (.block 0 (.loop (sq (rg [gn (.AP s3),ge l0 0] [(5,0),(4,1)]) (sq (fC s4 0) (.block 1 (sq (rg [ge s5 1,ge s5 2,gm l0,gm l1] [(9,2),(6,3)]) (.block 2 (sq (r1 [gm s6,fR l0 (i3 97),gm l1,gmt 2 s6,cr 2 (lj l3 (i3 122)),eX l2 l4,gm l5] 7 6) (.cond s7 .skip (sq (r1 [gm s6,fR l0 (i3 48),gm l1,gmt 2 s6,cr 2 (lj l3 (i3 57)),eX l2 l4,gm l5] 8 6) (.cond s8 (sq (r1 [gm s9,aL l0 bx] 10 1) (m8 ik cZ)) (sq (r1 [gm s6,aL l0 (i3 45),gm l1] 11 2) (.cond jR (sq (r1 [gm s9,aL l0 bx,gm l1,ek 2 s9,ek 2 s0,cn 2 (.lenS l4),cn 2 (jK l5 cl),cn 2 (cV l3 l6),eW l2 l7,gm l8,ek 9 s0,ek 9 s9,cn 9 (jK fZ cl),cn 9 (.ixS l10 iv),cn 9 (cV jr (i8 45)),eW l9 jT] 12 15) (m8 kr cZ)) (xz cZ))))))))))))))) (xz m5))))⟩
def w208  (s:au)   :dn Y Hk (.bool (fm s)) [.str s]:=by
 show bP _ _ _ [⟨_,_⟩,_,_,_,_,_,_,_,_,_,_,_,_] _;refine aq ?_;refine bU ?_;refine iJ ?_;refine aA ?_;refine cM (fun hc0=>?_) fun hc0=>?_
 .refine aI ?_;refine bX ?_;symm;simp only[fm];rcases hc0 with h|h
  .subst h;simp
  .rw[cJ (by omega:¬s.length<=16)];simp
 refine aG ?_;have h0:=List.length_pos_iff.2 hc0.1;have hP:=RO s ae ae;refine bh hm (ι:=Nat) (fun i=>[⟨true,.str s⟩,.un,.un,⟨true,.it 9⟩,.un,.un,.un,.un,.un,.un,.un,.un,.un]) (fun i=>[(9,.iter s i)]) 10 (fun i=>i<=s.length/\fm s=cQ (oS s) i s.length) (fun i=>s.length-i) 0 ⟨ae,hP⟩ (dy [(9,9)]) ?_;rintro i ⟨hi,hr⟩;refine aH ?_;by_cases hnx:i<s.length
 .obtain⟨c,w,hdec,hw,hcw⟩:=tW s i hnx;refine Dp c w (hp:=hnx) (hc:=hdec) ?_;refine ay ?_;refine av (t:=true) (fun _=>?_) (fun h=>by cases h);refine Tq ?_;refine fP (fun hc2=>?_) fun hc2=>?_
  .refine aD ?_;obtain⟨rfl,hat,-⟩:w=1/\(c:Int)=at8 s i/\c<128:=by
    rcases hcw with h|h
    .exact h
    .omega
   have hz:oS s i=true:=by
    simp only[oS,iR,bp,cS,bG,bg,aT,bm];omega
   exact⟨i+1,⟨ae,by rw[hr,aS hnx,hz];rfl⟩,ae,(dy [(9,9)])⟩
  refine di ?_;refine fP (fun hc3=>?_) fun hc3=>?_
  .refine aD ?_;refine fP (fun hc4=>?_) fun hc4=>?_
   .refine ba ?_;refine bX ?_;first
     |(exfalso;omega)
     |(rw[hr,cq ae];done)
     |(have hz:oS s i=false:=by
        rcases hcw with⟨_,h,_⟩|⟨_,h⟩<;>(simp only[oS,iR,bp,dh,dR,bN,aT,bm];omega)
       rw[hr,aS hnx,hz];rfl)
   refine aD ?_;obtain⟨rfl,hat,-⟩:w=1/\(c:Int)=at8 s i/\c<128:=by
    rcases hcw with h|h
    .exact h
    .omega
   have hz:oS s i=true:=by
    simp only[oS,iR,bp,cS,bG,bg,aT,bm];omega
   exact⟨i+1,⟨ae,by rw[hr,aS hnx,hz];rfl⟩,ae,(dy [(9,9)])⟩
  refine aI ?_;refine fP (fun hc5=>?_) fun hc5=>?_
  .refine aG ?_;refine iJ ?_;refine ba ?_;refine pA (i-1) ?_;refine aA ?_;refine fP (fun hc6=>?_) fun hc6=>?_
   .refine ba ?_;refine bX ?_;first
     |(exfalso;omega)
     |(rw[hr,cq ae];done)
     |(have hz:oS s i=false:=by
        rcases hcw with⟨_,h,_⟩|⟨_,h⟩<;>(simp only[oS,iR,bp,dh,dR,bN,aT,bm];omega)
       rw[hr,aS hnx,hz];rfl)
   refine aD ?_;obtain⟨rfl,hat,-⟩:w=1/\(c:Int)=at8 s i/\c<128:=by
    rcases hcw with h|h
    .exact h
    .omega
   have hz:oS s i=true:=by
    simp only[oS,iR,bp,cS,bG,bg,aT,bm];omega
   exact⟨i+1,⟨ae,by rw[hr,aS hnx,hz];rfl⟩,ae,(dy [(9,9)])⟩
  refine ba ?_;refine bX ?_;first
   |(exfalso;omega)
   |(rw[hr,cq ae];done)
   |(have hz:oS s i=false:=by
      rcases hcw with⟨_,h,_⟩|⟨_,h⟩<;>(simp only[oS,iR,bp,dh,dR,bN,aT,bm];omega)
     rw[hr,aS hnx,hz];rfl)
 .refine Dn (hp:=hnx) ?_;refine ay ?_;refine av (t:=false) (fun h=>by cases h) (fun _=>?_);refine aG ?_;refine bX ?_;first
   |(exfalso;omega)
   |(rw[hr,cq ae];done)
   |(have hz:oS s i=false:=by
      rcases hcw with⟨_,h,_⟩|⟨_,h⟩<;>(simp only[oS,iR,bp,dh,dR,bN,aT,bm];omega)
     rw[hr,aS hnx,hz];rfl)
def xR (T:List D->D->Prop):Prop:=∀(s:au),T [.str s] (.bool (fm s))
def La (Y:Ctx):Prop:=xR (bD Y 208)
def C3:aE:=⟨1,10,[⟨1,none⟩,⟨2,none⟩],fA,(sq (rg [gm bx,gm cZ] [(1,0),(2,1)]) (sq (sq (r1 [gm s0,aL l0 cse,gm l1,ek 2 s0,cn 2 (.lenS l3),cn 2 (eG l4 wC),eW l2 l5,gm l6,ek 7 s0,cn 7 (.ixS l8 bx),cn 7 (cV l9 (i8 48)),ek 7 l10,gmt 11 s0,cr 11 (.lenS iv),cr 11 (eG jr cl),zf 7 fZ jT,eW l7 lg] 3 16) (.cond s3 (sq (rg [gm bx,gm cZ] [(1,0),(2,1)]) .ret) .skip)) (sq (r1 [gm bx] 9 0) (sq (sq (r1 [gm s0,gn (.uB l0)] 4 1) (.block 0 (.loop (sq (rg [gn (.AP s4),ge l0 0] [(6,0),(5,1)]) (sq (fC s5 0) (.block 1 (sq (r1 [ge s6 2,gm l0] 7 1) (.block 2 (sq (r1 [gm s7,fR l0 (i3 48),gm l1,gmt 2 s7,cr 2 (lj l3 (i3 57)),eX l2 l4,gm l5] 8 6) (.cond s8 (r1 [gm s9,gn (.bin .mul (i6 10) l0),gm s7,dV l2 (i3 48),gn (.cvi .i64 l3),az l1 l4,gm l5] 9 6) (sq (rg [gm bx,gm cZ] [(1,0),(2,1)]) .ret))))))))))) (sq (rg [gm s9,gm s9,zx l1 (i6 9999),gm l0,gm l2] [(1,3),(2,4)]) .ret)))))⟩
def w658  (s:au)   :dn Y C3 (.tup [.int .i64 (ei s),.bool (fS s)]) [.str s]:=by
 show bP _ _ _ [⟨_,_⟩,_,_,_,_,_,_,_,_,_] _;refine aq ?_;refine di ?_;refine iJ ?_;refine aD ?_;refine pA 0 (hb:=fun h=>by simp at h;exact List.length_pos_iff.2 h.1) ?_;refine aA ?_;refine iJ ?_;refine aD ?_;refine cM (fun hc0=>?_) fun hc0=>?_
 .refine aG ?_;refine bI (aK (aj (D.int .i64) ?_) (aj D.bool ?_));all_goals
   have:fS s=false:=by
    rw[Hy];rcases hc0 with(h|h)|h
    .subst h;simp
    .rw[cJ (by omega:¬s.length<=4)];simp
    .rw[b9 (by omega:1<s.length),b9 h.1];simp
   simp[ei,this]
 refine di ?_;have h0:=List.length_pos_iff.2 hc0.1.1;have hP:fS s=cQ (fun i=>bp (at8 s i)) 0 s.length:=by
  rw[Hy,b9 (by omega:1<=s.length),b9 (by omega:s.length<=4)];rcases hc0.2 with h|h
  .rw[cJ h,Bool.and_false];rfl
  .rw[cJ (by omega:¬1<s.length)];rfl
 refine bh hm (ι:=Nat) (fun i=>[⟨true,.str s⟩,.un,.un,.un,⟨true,.it 21⟩,.un,.un,.un,.un,⟨true,.int .i64 (dX (s.take i):Nat)⟩]) (fun i=>[(21,.iter s i)]) 22 (fun i=>i<=s.length/\s.length<=4/\fS s=cQ (fun i=>bp (at8 s i)) i s.length) (fun i=>s.length-i) 0 ⟨ae,ae,hP⟩ (dy [(21,21)]) ?_;rintro i ⟨hi,h9,hr⟩;refine aH ?_;by_cases hnx:i<s.length
 .obtain⟨c,w,hdec,hw,hcw⟩:=tW s i hnx;refine Dp c w (hp:=hnx) (hc:=hdec) ?_;refine ay ?_;refine av (t:=true) (fun _=>?_) (fun h=>by cases h);refine AK ?_;refine fP (fun hc2=>?_) fun hc2=>?_
  .refine aH ?_;obtain⟨rfl,hat,-⟩:w=1/\(c:Int)=at8 s i/\c<128:=by
    rcases hcw with h|h
    .exact h
    .omega
   have hn:=ur s i ae;have hn2:=wG s i ae;have h256:=uW s i;refine aH ?_;refine Dm ?_;refine aH ?_;refine qa ((c:Int) -48) (hb:=fun _=>IntWalk.i32_in _ ae) ?_;refine oE ((c:Int) -48) (hb:=fun _=>IntWalk.i64_in _ ae) ?_;refine aA ?_;rw[show 10*(dX (s.take i):Int)+((c:Int) -48)=(dX (s.take (i+1)):Nat)by omega];refine aA ?_;have hz:bp (at8 s i)=true:=by
    simp only[bp,bG,aT];omega
   exact⟨i+1,⟨ae,h9,by rw[hr,aS ae,hz];rfl⟩,ae,(dy [(21,21)])⟩
  refine bU ?_;refine bI (aK (aj (D.int .i64) ?_) (aj D.bool ?_));all_goals
   have hz:bp (at8 s i)=false:=by
    rcases hcw with⟨_,h,_⟩|⟨_,h⟩<;>(simp only[bp,dR,bm];omega)
   have:fS s=false:=by rw[hr,aS ae,hz];rfl
   simp[ei,this]
 .refine Dn (hp:=hnx) ?_;refine ay ?_;refine av (t:=false) (fun h=>by cases h) (fun _=>?_);refine gv ?_;refine bI (aK (aj (D.int .i64) ?_) (aj D.bool ?_));all_goals
   have this:fS s=true:=by rw[hr,cq ae]
   have ht:s.take i=s:=ey ae;have h9:=this;simp only[fS,bG,aT]at h9;have h99:=h9.2;rw[ht];first
   |(simp only[ei,this];rfl)
   |(rw[this,aT];omega)
def yn (T:List D->D->Prop):Prop:=∀(s:au),T [.str s] (.tup [.int .i64 (ei s),.bool (fS s)])
def Nr (Y:Ctx):Prop:=yn (bD Y 658)
def CW:aE:=⟨1,3,ib,b8,(sq (r1 [gm (i8 0)] 1 0) (sq (sq (r1 [gm s0,aX l0 (i8 10)] 2 1) (.cond s2 (sq (r1 [gm s0,az (i8 48) l0,gm l1] 1 2) .ret) .skip)) (sq (r1 [gm s0,az (i8 97) l0,dV l1 (i8 10),gm l2] 1 3) .ret)))⟩
def w686 {Y:Ctx}(hm:(Y.at 0).cj)  (k:Nat)  (hp0:k<16):dn Y CW (.int .u8 ((EN k).toNat:Nat)) [.int .u8 (k:Nat)]:=by
 show bP _ _ _ [⟨_,_⟩,_,_] _;refine aq ?_;refine aI ?_;first|refine PE ?_|refine PF ?_
 refine aH ?_;refine cM (fun hc0=>?_) fun hc0=>?_
 .refine aA ?_;refine zU (48+(k:Int)) (hb:=fun _=>IntWalk.u8_in _ ae) ?_;refine aA ?_;refine bI (aj (D.int .u8) ?_);exact(Rz k ae).symm
 refine aA ?_;refine zU (97+(k:Int)) (hb:=fun _=>IntWalk.u8_in _ ae) ?_;refine qa (87+(k:Int)) (hb:=fun _=>by rw[show 97+(k:Int) -10=87+k by omega];exact IntWalk.u8_in _ ae) ?_;refine aA ?_;refine bI (aj (D.int .u8) ?_);exact(Ry k ae hp0).symm
def KQ (T:List D->D->Prop):Prop:=∀(k:Nat),(k<16)->T [.int .u8 (k:Nat)] (.int .u8 ((EN k).toNat:Nat))
def Xo (Y:Ctx):Prop:=KQ (bD Y 686)
def Ew:aE:=⟨1,7,ib,b8,(sq (r1 [gm cse] 1 0) (sq (r1 [gn (.mks 1 (.int .u8 0) (i6 16) (i6 16)),gm l0] 2 1) (sq (sq (rg [gm s2,gl l0,gm bx] [(4,1),(3,2)]) (.block 0 (.loop (sq (r1 [aX s3 s4] 5 0) (sq (fC s5 0) (sq (.block 1 (sq (r1 [gm s3,gm l0] 6 1) (rg [gm s2,gm s6,dV (i6 15) l1,gm s0,gm s6,gn (.bin .mul wC l4),gn (.bin .shr l3 l5),ON l6 (iu 15),gn (.cvi .u8 l7),gx 686 [l8] b8,ga 1 l0 l2,gt 1 l10 l9] []))) (r1 [az s3 cl,gm l0] 3 1))))))) (sq (r1 [gm s2,gn (.b2s l0),gm l1] 1 2) .ret))))⟩
def w497 (h686:Xo Y)(n:Int)   :dn Y Ew (.str (oH n)) [.int .u64 n]:=by
 show bP _ _ _ [⟨_,_⟩,_,_,_,_,_,_] _;refine aq ?_;refine aA ?_;refine Th _ ?_;refine aG ?_;intro u0;refine ay ?_;refine bh hm (ι:=Nat) (fun i=>[⟨true,.int .u64 n⟩,.un,⟨true,.own 1 1 0 16⟩,⟨true,.int .i64 (i:Nat)⟩,⟨true,.int .i64 (16:Nat)⟩,.un,.un]) (fun i=>[(1,.buf 1 ((uH n i).map fun b=>D.int .u8 b.toNat))]) 6 (fun i=>i<=16) (fun i=>16-i) 0 ae (dy [(1,1)]) ?_;intro i hi;have hlen:=sb n i;refine aA ?_;refine cM (fun hc0=>?_) fun hc0=>?_
 .refine hY ?_;refine Dm ?_;refine Fo (uE n (4*i)) (hb:=fun _=>by rw[show min (Int.toNat (4*(i:Int))) (IntKind.bits .u64)=4*i by simp[IntKind.bits];omega];rfl) ?_;refine Pv ((RV n i:Nat):Int) (hb:=fun _=>OS n i) ?_;have hnib:=OR n i;refine oE ((RV n i:Nat):Int) (hb:=fun _=>IntWalk.u8_in _ ae) ?_;refine ar (hc:=h686 (RV n i) hnib) ?_;refine iD (15-i) ?_;refine sD ((uH n (i+1)).map fun b=>D.int .u8 b.toNat) (hi:=cY) (he:=by rw[MZ n i ae,getD_map ae];simp[vX,D.isAgg]) ?_;refine ba ?_;exact⟨i+1,ae,ae,(dy [(1,1)])⟩
 refine aA ?_;have h16:i=16:=ae;subst h16;refine aH ?_;refine Jy (oH n) (he:=fun _=>uK.all ah (by simp[sb])) (hs:=fun _=>by rw[MY]) ?_;refine aA ?_;exact df rfl
def KC (T:List D->D->Prop):Prop:=∀(n:Int),T [.int .u64 n] (.str (oH n))
def W2 (Y:Ctx):Prop:=KC (bD Y 497)
def ER:aE:=⟨2,10,[⟨2,none⟩],[[.sl 1 [.a]]],(sq (r1 [gm (.c (.aF))] 2 0) (sq (r1 [gm (.c (.aF))] 8 0) (sq (r1 [gm bx] 9 0) (sq (sq (rg [gm s0,ov l0,gm bx] [(4,1),(3,2)]) (.block 0 (.loop (sq (r1 [aX s3 s4] 5 0) (sq (fC s5 0) (sq (.block 1 (sq (r1 [gm s3,gm l0] 6 1) (sq (r1 [gm s0,gm s6,GL l0 l1,gm s1,aL l2 l3] 7 4) (.cond s7 (sq (r1 [gm s8,gm s0,gm s9,gm s6,gn (.slS l1 (some l2) (some l3)),gn (.bsl 1 (.str []) 1 [(0,l4)]),gn (.app 1 l0 l5),gm l6] 8 7) (r1 [gm s6,az l0 cl,gm l1] 9 2)) .skip)))) (r1 [az s3 cl,gm l0] 3 1))))))) (sq (r1 [gm s8,gm s0,gm s9,gn (.slS l1 (some l2) none),gn (.bsl 1 (.str []) 1 [(0,l3)]),gn (.app 1 l0 l4),gm l5] 2 6) .ret)))))⟩
def w533  (s:au)(b:Int)  (hp0:s.length<=1048576):dn Y ER (.sl 1 ((ai s b).map D.str)) [.str s,.int .u8 b]:=by
 show bP _ _ _ [⟨_,_⟩,⟨_,_⟩,_,_,_,_,_,_,_,_] _;refine aq ?_;refine hY ?_;intro u0;refine ay ?_;refine bh hm (ι:=(Nat×Nat×List au)) (fun p:Nat×Nat×List au=>[⟨true,.str s⟩,⟨true,.int .u8 b⟩,.un,⟨true,.int .i64 (p.1:Nat)⟩,⟨true,.int .i64 (s.length:Nat)⟩,.un,.un,.un,⟨true,.own 0 1 0 p.2.2.length⟩,⟨true,.int .i64 (p.2.1:Nat)⟩]) (fun p=>[(0,.buf 1 (p.2.2.map D.str))]) 6 (fun p=>p.1<=s.length/\p.2.1<=p.1/\p.2.2.length<=p.1/\ai s b=p.2.2++cC b (s.drop p.1) ((s.take p.1).drop p.2.1)) (fun p=>s.length-p.1) (0,0,[]) ⟨aR,aR,aR,rfl⟩ (br.to [] ah ah (by repeat(first|exact eC.nil|refine eC.un ?_|refine eC.eq ah ?_|refine eC.nl ah ah ?_|refine eC.ni (Or.inr ⟨0,1,0,rfl⟩) ?_)) (by repeat(first|exact bJ.nil|refine bJ.mt ah ah ah ah ?_))) ?_;rintro⟨i,fr,acc⟩ ⟨hi,hf,ha,hr⟩;dsimp only at hi hf ha hr⊢;refine aA ?_;refine cM (fun hc0=>?_) fun hc0=>?_
 .refine lA ?_;refine wp_cond (fun hc1=>?_) (fun hc1=>?_)
  .try simp only[dq]at hc1
   refine aI ?_;refine zY _ _ ?_;refine dA [(.str _)] ?_;refine rE ?_;exact⟨(i+1,i+1,acc++[(s.take i).drop fr]),⟨fq,fq,cY,by rw[hr,Ck ae hc1];simp⟩,fq,(br.to [(20,0)] ah ah vO (by refine bJ.nl 20 ah ah ah ny ?_;exact bJ.nil))⟩
  simp only[bm]at hc1;refine ba ?_;exact⟨(i+1,fr,acc),⟨fq,fq,fq,by rw[hr,Cl ae ae hc1]⟩,fq,(br.to [(0,0)] ah ah vO (by refine bJ.nl 0 ah ah ah ny ?_;exact bJ.nil))⟩
 refine aG ?_;refine fI _ ?_;refine dA [(.str _)] ?_;refine aA ?_;refine fE 12 ?_;refine aH ?_;refine bI (?_);have hs:ai s b=acc++[s.drop fr]:=by rw[hr,Ar ae]
 rw[hs];exact rfl
def yk (T:List D->D->Prop):Prop:=∀(s:au) (b:Int),(s.length<=1048576)->T [.str s,.int .u8 b] (.sl 1 ((ai s b).map D.str))
def Lg (Y:Ctx):Prop:=yk (bD Y 533)
def xl:aE:=⟨1,7,ib,b8,(sq (r1 [gm cZ] 1 0) (sq (sq (rg [gm s0,ov l0,gm bx] [(3,1),(2,2)]) (.block 0 (.loop (sq (r1 [aX s2 s3] 4 0) (sq (fC s4 0) (sq (.block 1 (sq (r1 [gm s2,gm l0] 5 1) (sq (r1 [gm s0,gm s5,GL l0 l1,aX l2 (i8 48),gm l3,ek 4 s0,ek 4 s5,cn 4 (.ixS l5 l6),cn 4 (eG l7 (i8 57)),eW l4 l8] 6 9) (m8 s6 cZ)))) (r1 [az s2 cl,gm l0] 2 1))))))) (sq (r1 [gm s0,bO l0 cse,gm l1] 1 2) .ret)))⟩
def w659  (t:au)   :dn Y xl (.bool (cW t)) [.str t]:=by
 show bP _ _ _ [⟨_,_⟩,_,_,_,_,_,_] _;refine aq ?_;refine aG ?_;intro u0;refine ay ?_;refine bh hm (ι:=Nat) (fun i=>[⟨true,.str t⟩,.un,⟨true,.int .i64 (i:Nat)⟩,⟨true,.int .i64 (t.length:Nat)⟩,.un,.un,.un]) (fun i=>[]) 4 (fun i=>i<=t.length/\cQ (fun i=>bp (at8 t i)) 0 t.length=cQ (fun i=>bp (at8 t i)) i t.length) (fun i=>t.length-i) 0 ⟨ae,rfl⟩ (dy []) ?_;rintro i ⟨hi,hr⟩;refine aA ?_;refine cM (fun hc0=>?_) fun hc0=>?_
 .refine Tq ?_;refine fP (fun hc1=>?_) fun hc1=>?_
  .refine aG ?_;refine bX ?_;simp only[cW];rw[hr,aS ae];rcases hc1 with h|h<;>simp[bp]<;>omega
  refine ba ?_;exact⟨i+1,⟨ae,by rw[hr,aS ae];rw[show bp (at8 t i)=true by simp only[bp,bG,aT];omega];rfl⟩,ae,(dy [])⟩
 refine bU ?_;refine bX ?_;simp only[cW];rw[hr,cq ae];cases t<;>simp
def yo (T:List D->D->Prop):Prop:=∀(t:au),T [.str t] (.bool (cW t))
def TU (Y:Ctx):Prop:=yo (bD Y 659)
def DR:aE:=⟨1,2,ib,b8,(sq (r1 [gm cZ] 1 0) (sq (r1 [gm s0,fR l0 bx,gm l1,gmt 2 s0,cr 2 (lj l3 (i6 9999)),eX l2 l4,gm l5] 1 6) .ret))⟩
def w440 {Y:Ctx}(hm:(Y.at 0).cj)  (n:Int)   :dn Y DR (.bool (qw n)) [.int .i64 n]:=by
 show bP _ _ _ [⟨_,_⟩,_] _;refine aq ?_;refine hY ?_;exact bX rfl
def ya (T:List D->D->Prop):Prop:=∀(n:Int),T [.int .i64 n] (.bool (qw n))
def WC (Y:Ctx):Prop:=ya (bD Y 440)
def AA:aE:=⟨2,9,[⟨2,none⟩,⟨3,none⟩],fA,(sq (rg [gm cse,gm cse] [(2,0),(3,1)]) (sq (sq (rg [gm s0,ov l0,gm bx] [(5,1),(4,2)]) (.block 0 (.loop (sq (r1 [aX s4 s5] 6 0) (sq (fC s6 0) (sq (.block 1 (sq (r1 [gm s4,gm l0] 7 1) (sq (r1 [gm s0,gm s7,GL l0 l1,gm s1,aL l2 l3] 8 4) (.cond s8 (sq (rt [gm s0,gm s7,az l1 cl,gn (.slS l0 (some l2) none),gm s0,gm s7,gn (.slS l4 none (some l5)),gm l3,gm l6] [(2,7),(3,8)]) .ret) .skip)))) (r1 [az s4 cl,gm l0] 4 1))))))) (sq (rg [gm s0,gm cse,gm l0] [(2,1),(3,2)]) .ret)))⟩
def w675  (s:au)(b:Int)   :dn Y AA (.tup [.str (aJ s b).1,.str (aJ s b).2]) [.str s,.int .u8 b]:=by
 show bP _ _ _ [⟨_,_⟩,⟨_,_⟩,_,_,_,_,_,_,_] _;refine aq ?_;refine ba ?_;intro u0;refine ay ?_;refine bh hm (ι:=Nat) (fun i=>[⟨true,.str s⟩,⟨true,.int .u8 b⟩,.un,.un,⟨true,.int .i64 (i:Nat)⟩,⟨true,.int .i64 (s.length:Nat)⟩,.un,.un,.un]) (fun i=>[]) 5 (fun i=>i<=s.length/\aJ s b=ju s b i) (fun i=>s.length-i) 0 ⟨ae,rfl⟩ (dy []) ?_;rintro i ⟨hi,hr⟩;refine aA ?_;refine cM (fun hc0=>?_) fun hc0=>?_
 .refine lA ?_;refine fP (fun hc1=>?_) fun hc1=>?_
  .refine aD ?_;refine fI (i+1) ?_;refine ay ?_;refine mC _ ?_;refine aG ?_;refine bI (aK (aj D.str ?_) (aj D.str ?_));all_goals rw[hr,yO ae hc1]
  refine ba ?_;exact⟨i+1,⟨ae,by rw[hr,yP ae hc1]⟩,ae,(dy [])⟩
 refine bU ?_;refine bI (aK (aj D.str ?_) (aj D.str ?_));all_goals rw[hr,wm ae]
def KM (T:List D->D->Prop):Prop:=∀(s:au) (b:Int),T [.str s,.int .u8 b] (.tup [.str (aJ s b).1,.str (aJ s b).2])
def Xk (Y:Ctx):Prop:=KM (bD Y 675)
def DS:aE:=⟨1,15,ib,b8,(sq (r1 [gm cZ] 1 0) (sq (r1 [gm s0,gx 533 [l0,(i8 46)] fA,gm l1] 2 2) (sq (r1 [gm s2,gl l0,zx l1 wC,gm l2] 14 3) (sq .skip (sq (sq (rg [gm s2,gl l0,gm bx] [(6,0),(4,1),(3,2)]) (.block 0 (.loop (sq (r1 [aX s3 s4] 5 0) (sq (fC s5 0) (sq (.block 1 (sq (r1 [ga 1 s6 s3,gd l0,gm l1] 7 2) (sq (sq (r1 [gm s7,aL l0 cse,gm l1,ek 2 s7,cn 2 (.lenS l3),cn 2 (eG l4 EP),eW l2 l5] 8 6) (.cond s8 (sq (r1 [gm cZ] 14 0) (.exit 0)) .skip)) (sq (r1 [gm s7,gn (.uB l0)] 9 1) (.block 2 (.loop (sq (rg [gn (.AP s9),ge l0 0] [(11,0),(10,1)]) (sq (fC ik 2) (.block 3 (sq (r1 [ge jR 2,gm l0] 12 1) (sq (r1 [gm kr,aX l0 (i3 97),gm l1,ek 2 kr,cn 2 (eG l3 (i3 122)),eW l2 l4,gm l5,gmt 6 kr,cr 6 (oW l7 (i3 48)),gmt 6 l8,ek 9 kr,cn 9 (eG l10 (i3 57)),US 6 l9 fZ,eX l6 iv,gm jr,gmt 14 kr,cr 14 (dS lg (i3 45)),eX jT nw] 13 17) (.cond qb (sq (r1 [gm cZ] 14 0) (.exit 0)) .skip)))))))))))) (r1 [az s3 cl,gm l0] 3 1))))))) (sq (r1 [gm tw,gm l0] 1 1) .ret))))))⟩
def w442 (h533:Lg Y)(s:au)  (hp0:s.length<=1048576):dn Y DS (.bool (oG s false)) [.str s]:=by
 show bP _ _ _ [⟨_,_⟩,_,_,_,_,_,_,_,_,_,_,_,_,_,_] _;refine aq ?_;refine aD ?_;refine ar (hc:=h533 _ _ ?_) ?_;rotate_left;first|assumption|omega;have hlen:=dd s 46
 refine aI ?_;intro u0;refine bU ?_;intro u1;refine ay ?_;refine bh hm (ι:=Nat) (fun i=>[.un,.un,⟨true,.sl 1 ((ai s 46).map D.str)⟩,⟨true,.int .i64 (i:Nat)⟩,⟨true,.int .i64 ((ai s 46).length:Nat)⟩,.un,⟨true,.sl 1 ((ai s 46).map D.str)⟩,.un,.un,.un,.un,.un,.un,.un,⟨true,.bool (decide (((ai s 46).length:Int)<=4))⟩]) (fun i=>[]) 11 (fun i=>i<=(ai s 46).length/\oG s false=(decide ((ai s 46).length<=4)&&cQ (fun i=>iI false (ai s 46)[i]!) i (ai s 46).length)) (fun i=>(ai s 46).length-i) 0 ⟨ae,rfl⟩ (dy []) ?_;rintro i ⟨hi,hr⟩;refine aA ?_;refine cM (fun hc0=>?_) fun hc0=>?_
 .refine di ?_;generalize ht:(ai s 46)[i]! =t;refine aD ?_;refine iJ ?_;refine aA ?_;refine cM (fun hc1=>?_) fun hc1=>?_
  .refine hY ?_;refine bX ?_;first
    |(rw[hr,cq ae,m3];exact hJ.2 ae)
    |(have hb:rA t=false:=by
       first
       |(simp only[rA];rcases hc1 with h|h
         .subst h;simp
         .rw[cJ (by omega:¬t.length<=8)];simp)
       |(have hz:nL (at8 t j)=false:=by
          rcases hcw with⟨_,h,_⟩|⟨_,h⟩<;>(simp only[nL,iR,bp,dh,dR,bm];omega)
         rw[hj,aS hnx,hz];rfl)
      rw[hr,aS ae,show iI false (ai s 46)[i]! =false from(by simp only[iI,ht,hb,Bool.false_and])];simp)
  refine aI ?_;have hT:rA t=cQ (fun i=>nL (at8 t i)) 0 t.length:=by
   have:=List.length_pos_iff.2 hc1.1;simp only[rA];rw[b9 ae,b9 ae];rfl
  refine qi hm (ι:=Nat) (fun j=>[.un,.un,⟨true,.sl 1 ((ai s 46).map D.str)⟩,⟨true,.int .i64 (i:Nat)⟩,⟨true,.int .i64 ((ai s 46).length:Nat)⟩,.un,⟨true,.sl 1 ((ai s 46).map D.str)⟩,.un,.un,⟨true,.it 23⟩,.un,.un,.un,.un,⟨true,.bool (decide (((ai s 46).length:Int)<=4))⟩]) (fun j=>[(23,.iter t j)]) 24 (fun j=>j<=t.length/\rA t=cQ (fun i=>nL (at8 t i)) j t.length) (fun j=>t.length-j) 0 ⟨ae,hT⟩ (dy [(23,23)]) ?_;rintro j ⟨hj0,hj⟩;refine aH ?_;by_cases hnx:j<t.length
  .obtain⟨c,w,hdec,hw,hcw⟩:=tW t j hnx;refine Dp c w (hp:=hnx) (hc:=hdec) ?_;refine ay ?_;refine av (t:=true) (fun _=>?_) (fun h=>by cases h);refine zzz26 ?_;refine fP (fun hc3=>?_) fun hc3=>?_
   .refine lA ?_;refine bX ?_;first
     |(rw[hr,cq ae,m3];exact hJ.2 ae)
     |(have hb:rA t=false:=by
        first
        |(simp only[rA];rcases hc1 with h|h
          .subst h;simp
          .rw[cJ (by omega:¬t.length<=8)];simp)
        |(have hz:nL (at8 t j)=false:=by
           rcases hcw with⟨_,h,_⟩|⟨_,h⟩<;>(simp only[nL,iR,bp,dh,dR,bm];omega)
          rw[hj,aS hnx,hz];rfl)
       rw[hr,aS ae,show iI false (ai s 46)[i]! =false from(by simp only[iI,ht,hb,Bool.false_and])];simp)
   refine aA ?_;obtain⟨rfl,hat,-⟩:w=1/\(c:Int)=at8 t j/\c<128:=by
    rcases hcw with h|h
    .exact h
    .omega
   have hz:nL (at8 t j)=true:=by
    simp only[nL,iR,bp,cS,bG,aT];omega
   exact⟨j+1,⟨ae,by rw[hj,aS hnx,hz];rfl⟩,ae,(dy [(23,23)])⟩
  .refine Dn (hp:=hnx) ?_;refine ay ?_;refine av (t:=false) (fun h=>by cases h) (fun _=>?_);refine bU ?_;exact⟨i+1,⟨ae,by rw[hr,aS ae];rw[show iI false (ai s 46)[i]! =true from(by simp only[iI,Bool.false_and,Bool.not_false,m3];rw[ht,hj,cq ae])];rfl⟩,ae,(dy [])⟩
 refine ba ?_;refine bX ?_;first
  |(rw[hr,cq ae,m3];exact hJ.2 ae)
  |(have hb:rA t=false:=by
     first
     |(simp only[rA];rcases hc1 with h|h
       .subst h;simp
       .rw[cJ (by omega:¬t.length<=8)];simp)
     |(have hz:nL (at8 t j)=false:=by
        rcases hcw with⟨_,h,_⟩|⟨_,h⟩<;>(simp only[nL,iR,bp,dh,dR,bm];omega)
       rw[hj,aS hnx,hz];rfl)
    rw[hr,aS ae,show iI false (ai s 46)[i]! =false from(by simp only[iI,ht,hb,Bool.false_and])];simp)
def Kl (T:List D->D->Prop):Prop:=∀(s:au),(s.length<=1048576)->T [.str s] (.bool (oG s false))
def TE (Y:Ctx):Prop:=Kl (bD Y 442)
def sf (T:List D->D->Prop):Prop:=∀(n:Int),(0<=n/\n<=9999)->T [.int .i64 n] (.str (eM n.toNat))
def Wz (Y:Ctx):Prop:=sf (bD Y 336)
def J1 (T:List D->D->Prop):Prop:=∀(l:List au) (sep:au),(l.length<=1048600)->(sep.length<=4)->(∀t∈l,t.length<=2097200)->T [.sl 1 (l.map D.str),.str sep] (.str (aV sep l))
def Nq (Y:Ctx):Prop:=J1 (bD Y 242)
def JT (T:List D->D->Prop):Prop:=∀(s:au) (b:UInt8),(s.length<=1048576)->T [.str s,.str [b]] (.sl 1 ((ai s b.toNat).map D.str))
def K9 (Y:Ctx):Prop:=JT (bD Y 124)
def KA (T:List D->D->Prop):Prop:=∀(s:au) (b:UInt8),(s.length<=1048576)->T [.str s,.str [b]] (.tup [.str (ir s b).1,.str (ir s b).2.1,.bool (ir s b).2.2])
def TQ (Y:Ctx):Prop:=KA (bD Y 487)
def J9 (T:List D->D->Prop):Prop:=∀(s:au) (p:au),(s.length<=1048576)->(p.length<=1048576)->T [.str s,.str p] (.tup [.str (cO s p).1,.bool (cO s p).2])
def TB (Y:Ctx):Prop:=J9 (bD Y 254)
def Gi:aE:=⟨1,10,ib,b8,(sq (r1 [gm cZ] 1 0) (sq (sq (r1 [gm s0,gx 442 [l0] b8,iY l1] 2 2) (m8 s2 cZ)) (sq (sq (rg [gm s0,gx 533 [l0,(i8 46)] fA,gl l1,gm bx] [(6,1),(4,2),(3,3)]) (.block 0 (.loop (sq (r1 [aX s3 s4] 5 0) (sq (fC s5 0) (sq (.block 1 (sq (r1 [ga 1 s6 s3,gd l0,gm l1] 7 2) (sq (r1 [gm s7,gx 658 [l0] b8,gm l1,ge l2 0,ge l2 1,gm l3,gm l4] 8 6) (sq (r1 [gm s7,gx 659 [l0] b8,gm l1,gmt 2 s8,cr 2 (.un .not l3),eX l2 l4] 9 5) (m8 s9 cZ))))) (r1 [az s3 cl,gm l0] 3 1))))))) (xz m5))))⟩
def w441 (h442:TE Y)(h533:Lg Y)(h658:Nr Y)(h659:TU Y)(s:au)  (hp0:s.length<=1048576):dn Y Gi (.bool (oG s true)) [.str s]:=by
 show bP _ _ _ [⟨_,_⟩,_,_,_,_,_,_,_,_,_] _;refine aq ?_;refine aI ?_;refine ar (hc:=h442 _ ?_) ?_;rotate_left;first|assumption|omega
 refine ay ?_;refine av (fun hc0=>?_) (fun hc0=>?_)
 .simp only[bg]at hc0;refine aI ?_;refine bX ?_;symm;simp only[oG]at hc0⊢;rw[dR]at hc0⊢;rcases hc0 with h|h
  .exact Or.inl h
  .right;rw[Bool.eq_false_iff]at h⊢;intro h2;apply h;rw[fG]at h2⊢;intro j a b;have:=h2 j a b;simp only[iI,bG]at this⊢;exact⟨this.1,rfl⟩
 simp only[bN]at hc0;refine aD ?_;refine ar (hc:=h533 _ _ ?_) ?_;rotate_left;first|assumption|omega;have hlen:=dd s 46
 refine aH ?_;intro u0;refine ay ?_;have hT:=hc0;simp only[oG,bG,aT]at hT;obtain⟨hT4,hTa⟩:=hT;rw[fG]at hTa;have hP:oG s true=cQ (fun i=>iI true (ai s 46)[i]!) 0 (ai s 46).length:=by
  simp only[oG];rw[b9 hT4];rfl
 refine bh hm (ι:=Nat) (fun i=>[.un,.un,.un,⟨true,.int .i64 (i:Nat)⟩,⟨true,.int .i64 ((ai s 46).length:Nat)⟩,.un,⟨true,.sl 1 ((ai s 46).map D.str)⟩,.un,.un,.un]) (fun i=>[]) 8 (fun i=>i<=(ai s 46).length/\oG s true=cQ (fun i=>iI true (ai s 46)[i]!) i (ai s 46).length) (fun i=>(ai s 46).length-i) 0 ⟨ae,hP⟩ (dy []) ?_;rintro i ⟨hi,hr⟩;refine aA ?_;refine cM (fun hc1=>?_) fun hc1=>?_
 .refine di ?_;refine ar (hc:=h658 _) ?_;refine bU ?_;refine ar (hc:=h659 _) ?_;refine aI ?_;refine wp_cond (fun hc2=>?_) (fun hc2=>?_)
  .skip
   refine aG ?_;refine bX ?_;have hz:iI true (ai s 46)[i]! =false:=by
    simp only[iI];revert hc2;generalize rA (ai s 46)[i]! =c;generalize cW (ai s 46)[i]! =a;generalize fS (ai s 46)[i]! =b;cases a<;>cases b<;>cases c<;>simp
   rw[hr,aS ae,hz];rfl
  skip
  refine ba ?_;have hz:iI true (ai s 46)[i]! =true:=by
   have:=hTa i ae ae;simp only[iI,Bool.false_and,Bool.not_false,m3]at this;simp only[iI,this];revert hc2;generalize cW (ai s 46)[i]! =a;generalize fS (ai s 46)[i]! =b;cases a<;>cases b<;>simp
  exact⟨i+1,⟨ae,by rw[hr,aS ae,hz];rfl⟩,ae,(dy [])⟩
 refine aG ?_;refine bX ?_;rw[hr,cq ae]
def Kk (T:List D->D->Prop):Prop:=∀(s:au),(s.length<=1048576)->T [.str s] (.bool (oG s true))
def WD (Y:Ctx):Prop:=Kk (bD Y 441)
def Gg:aE:=⟨1,3,ib,b8,(sq (rg [gb 5 s0,gm cZ] [(2,0),(1,1)]) (sq (r1 [gf 0 s2,gd l0,gx 440 [l1] b8,gm l2,kn 3 1 s2,jM 3 l4,cr 3 (.call 440 [l5] b8),eX l3 l6,gm l7,kn 8 2 s2,jM 8 l9,cr 8 (.call 440 [l10] b8),eX l8 fZ,gm iv,kn 13 3 s2,jM 13 jT,cr 13 (cV lg cse),gmt 13 nw,ig 17 3 s2,hZ 17 pL,cn 17 (.call 441 [qx] b8),US 13 oU uN,eX jr xc,gm zm,kn 23 4 s2,jM 23 D5,cr 23 (cV GM cse),gmt 23 Ng,ig 27 4 s2,hZ 27 S8,cn 27 (.call 442 [S9] b8),US 23 QG VY,eX C6 Zx,gm Zy] 1 33) .ret))⟩
def w209 {Y:Ctx}(hm:(Y.at 0).cj)(h440:WC Y)(h441:WD Y)(h442:TE Y)(v:cy)  (hp0:v.sm):dn Y Gg (.bool (fT v)) [cy.D v]:=by
 show bP _ _ _ [⟨_,_⟩,_,_] _;refine aq ?_;refine aG ?_;refine ar (hc:=h440 _) ?_;refine aA ?_;refine ar (hc:=h440 _) ?_;refine aD ?_;refine ar (hc:=h440 _) ?_;refine bU ?_;refine dm (hc:=fun hf=>h441 v.pre hp0.1) ?_;refine di ?_;refine dm (hc:=fun hf=>h442 v.build hp0.2) ?_;refine aI ?_;exact bX rfl
def xS (T:List D->D->Prop):Prop:=∀(v:cy),(v.sm)->T [cy.D v] (.bool (fT v))
def GP (Y:Ctx):Prop:=xS (bD Y 209)
def C2:aE:=⟨1,2,ib,b8,(sq (r1 [gm cse] 1 0) (sq (r1 [gm s0,gx 336 [l0] b8,gm l1] 1 2) .ret))⟩
def w665 {Y:Ctx}(hm:(Y.at 0).cj)(h336:Wz Y)(n:Int)  (hp0:0<=n/\n<=9999):dn Y C2 (.str (eM n.toNat)) [.int .i64 n]:=by
 show bP _ _ _ [⟨_,_⟩,_] _;refine aq ?_;refine aD ?_;refine ar (hc:=h336 _ ?_) ?_;rotate_left;first|assumption|omega
 refine aA ?_;exact df rfl
def TZ (Y:Ctx):Prop:=sf (bD Y 665)
def Bi:aE:=⟨1,7,ib,b8,(sq (rg [gb 5 s0,gm cse] [(2,0),(1,1)]) (sq (sq (r1 [gk 5 true s2,gx 209 [l0] xA,iY l1] 3 2) (m8 s3 cse)) (sq (r2 [gf 0 s2,gd l0,gx 665 [l1] b8,az l2 (cs [46]),gf 1 s2,gd l4,gx 665 [l5] b8,az l3 l6,az l7 (cs [46]),gf 2 s2,gd l9,gx 665 [l10] b8,az l8 fZ,gm iv] 5 13) (sq (sq (r1 [gf 3 s2,gd l0,bO l1 cse] 4 2) (.cond s4 (r1 [gm s5,gf 3 s2,gd l1,az (cs [45]) l2,az l0 l3,gm l4] 5 5) .skip)) (sq (sq (r1 [gf 4 s2,gd l0,bO l1 cse] 6 2) (.cond s6 (r1 [gm s5,gf 4 s2,gd l1,az (cs [43]) l2,az l0 l3,gm l4] 5 5) .skip)) (sq (r1 [gm s5,gm l0] 1 1) .ret))))))⟩
def w451 {Y:Ctx}(hm:(Y.at 0).cj)(h209:GP Y)(h665:TZ Y)(v:cy)  (hp0:v.sm):dn Y Bi (.str (oq v)) [cy.D v]:=by
 show bP _ _ _ [⟨_,_⟩,_,_,_,_,_,_] _;obtain⟨hs1,hs2⟩:=hp0;have hp0:v.sm:=⟨hs1,hs2⟩;refine aq ?_;refine aG ?_;refine ar (hc:=h209 _ ?_) ?_;rotate_left;first|assumption|omega
 refine ay ?_;refine av (fun hc0=>?_) (fun hc0=>?_)
 .simp only[bg]at hc0;refine aI ?_;refine df ?_;simp[oq,hc0]
 simp only[bN]at hc0;refine ay ?_;have hv:=hc0;simp only[fT,bG]at hv;obtain⟨⟨⟨⟨hv1,hv2⟩,hv3⟩,_⟩,_⟩:=hv;have hq1:=hv1;have hq2:=hv2;have hq3:=hv3;simp only[qw,bG,aT]at hq1 hq2 hq3;have hl1:=eP 4 v.major.toNat ae ae;have hl2:=eP 4 v.minor.toNat ae ae;have hl3:=eP 4 v.patch.toNat ae ae;refine ay ?_;refine ar (hc:=h665 _ ?_) ?_;rotate_left;first|assumption|omega
 refine dQ (hb:=fun _=>cY) ?_;refine ay ?_;refine ar (hc:=h665 _ ?_) ?_;rotate_left;first|assumption|omega
 refine dQ (hb:=fun _=>cY) ?_;refine dQ (hb:=fun _=>cY) ?_;refine ay ?_;refine ar (hc:=h665 _ ?_) ?_;rotate_left;first|assumption|omega
 refine dQ (hb:=fun _=>cY) ?_;refine bU ?_;refine cM (fun hc1=>?_) fun hc1=>?_
 .refine aD ?_;refine dQ (hb:=fun _=>cY) ?_;refine dQ (hb:=fun _=>cY) ?_;refine bU ?_;refine cM (fun hc2=>?_) fun hc2=>?_
  .refine aD ?_;refine dQ (hb:=fun _=>cY) ?_;refine dQ (hb:=fun _=>cY) ?_;refine ba ?_;refine df ?_;simp[oq,xj,hc0,hc1,hc2]
  refine aG ?_;refine df ?_;simp[oq,xj,hc0,hc1,hc2]
 refine ba ?_;refine cM (fun hc2=>?_) fun hc2=>?_
 .refine aD ?_;refine dQ (hb:=fun _=>cY) ?_;refine dQ (hb:=fun _=>cY) ?_;refine ba ?_;refine df ?_;simp[oq,xj,hc0,hc1,hc2]
 refine aG ?_;refine df ?_;simp[oq,xj,hc0,hc1,hc2]
def ye (T:List D->D->Prop):Prop:=∀(v:cy),(v.sm)->T [cy.D v] (.str (oq v))
def TH (Y:Ctx):Prop:=ye (bD Y 451)
def p0:aE:=⟨2,4,[⟨2,none⟩],b8,(sq (r1 [gm (iu 0)] 2 0) (sq (r1 [gm s1,gn (.cvi .u64 l0),ON l1 (iu 63),gm l2] 3 3) (sq (r1 [gm s0,gm s3,gn (.bin .shl l0 l1),gm s0,gm s3,dV (iu 64) l4,gn (.bin .shr l3 l5),E8 l2 l6,gm l7] 2 8) .ret)))⟩
def w463 {Y:Ctx}(hm:(Y.at 0).cj)  (h:Int)(k:Nat)  (hp0:k=13):dn Y p0 (.int .u64 (VF h k)) [.int .u64 h,.int .i64 (k:Nat)]:=by
 show bP _ _ _ [⟨_,_⟩,⟨_,_⟩,_,_] _;subst hp0;refine aq ?_;refine aD ?_;refine oE 13 (hb:=fun _=>by rw[IntKind.wrap_u64];rfl) ?_;refine Pv 13 (hb:=fun _=>by rw[IntKind.wrap_u64];rfl) ?_;refine aI ?_;refine Fm (Ao h 13) (hb:=fun _=>by rw[show min (Int.toNat (13:Int)) (IntKind.bits .u64)=13 by simp[IntKind.bits]];rfl) ?_;refine ay ?_;refine qa 51 (hb:=fun _=>by rw[IntKind.wrap_u64];rfl) ?_;refine Fo (uE h 51) (hb:=fun _=>by rw[show min (Int.toNat (51:Int)) (IntKind.bits .u64)=51 by simp[IntKind.bits]];rfl) ?_;refine Fl (VF h 13) (hb:=fun _=>rfl) ?_;refine aA ?_;refine bI (aj (D.int .u64) ?_);rfl
def Ku (T:List D->D->Prop):Prop:=∀(h:Int) (k:Nat),(k=13)->T [.int .u64 h,.int .i64 (k:Nat)] (.int .u64 (VF h k))
def WU (Y:Ctx):Prop:=Ku (bD Y 463)
def G7:aE:=⟨1,8,ib,b8,(sq (r1 [gm (iu 0)] 1 0) (sq (r1 [gm (iu 11400714819323198485)] 6 0) (sq (sq (rg [gm s0,gl l0,gm bx] [(5,0),(3,1),(2,2)]) (.block 0 (.loop (sq (r1 [aX s2 s3] 4 0) (sq (fC s4 0) (sq (.block 1 (sq (r1 [ga 1 s5 s2,gd l0,gm l1] 7 2) (r1 [gm s6,gm s7,gn (.cvi .u64 l1),gn (.bin .xor l0 l2),gx 463 [l3,(i6 13)] fA,gn (.bin .mul l4 (iu 18397679294719823053)),gm l5] 6 6))) (r1 [az s2 cl,gm l0] 2 1))))))) (sq (r1 [gm s6,gm s6,gn (.bin .shr l1 (iu 29)),gn (.bin .xor l0 l2),gm l3] 1 4) .ret))))⟩
def w220 (h463:WU Y)(s:au)   :dn Y G7 (.int .u64 (F7 s)) [.sl 1 ((s).map fun b=>D.int .u8 b.toNat)]:=by
 show bP _ _ _ [⟨_,_⟩,_,_,_,_,_,_,_] _;refine aq ?_;refine di ?_;intro u0;refine ay ?_;refine bh hm (ι:=Nat) (fun i=>[.un,.un,⟨true,.int .i64 (i:Nat)⟩,⟨true,.int .i64 (s.length:Nat)⟩,.un,⟨true,.sl 1 (s.map fun b=>D.int .u8 b.toNat)⟩,⟨true,.int .u64 (v7 (s.take i))⟩,.un]) (fun i=>[]) 5 (fun i=>i<=s.length) (fun i=>s.length-i) 0 ae (dy []) ?_;intro i hi;refine aA ?_;refine cM (fun hc0=>?_) fun hc0=>?_
 .refine aD ?_;refine bH (v:=.int .u8 (at8 s i)) (hv:=fun _=>ld8 s i) ?_;refine aI ?_;refine oE (at8 s i) (hb:=fun _=>by have:=uW s i;rw[IntKind.wrap_u64];omega) ?_;refine Dj (AI (v7 (s.take i)) (at8 s i)) (hb:=fun _=>rfl) ?_;refine ar (hc:=h463 _ 13 rfl) ?_;refine PG (v7 (s.take (i+1))) (hb:=fun _=>by rw[Cr s i ae];rfl) ?_;refine bU ?_;exact⟨i+1,ae,ae,(dy [])⟩
 refine aA ?_;have ht:s.take i=s:=ey ae;rw[ht];refine ay ?_;refine Fo (uE (v7 s) 29) (hb:=fun _=>rfl) ?_;refine Dj (F7 s) (hb:=fun _=>rfl) ?_;refine aA ?_;refine bI (aj (D.int .u64) ?_);rfl
def xX (T:List D->D->Prop):Prop:=∀(s:au),T [.sl 1 ((s).map fun b=>D.int .u8 b.toNat)] (.int .u64 (F7 s))
def Wf (Y:Ctx):Prop:=xX (bD Y 220)
def HZ:aE:=⟨1,4,ib,b8,(sq (r1 [gm cse] 1 0) (sq (r1 [gm s0,gn (.bin .rem l0 (iu 10)),gn (.cvi .u8 l1),az (i8 48) l2,gn (.bsl 1 (.int .u8 0) 1 [(0,l3)]),gn (.b2s l4),gm l5] 3 6) (sq (.block 0 (.loop (sq (sq (r1 [gm s0,dj l0 (iu 9)] 2 1) (fC s2 0)) (.block 1 (sq (r1 [gm s0,gn (.bin .quo l0 (iu 10)),gm l1] 0 2) (r1 [gm s0,gn (.bin .rem l0 (iu 10)),gn (.cvi .u8 l1),az (i8 48) l2,gn (.bsl 1 (.int .u8 0) 1 [(0,l3)]),gn (.b2s l4),gm s3,az l5 l6,gm l7] 3 8)))))) (sq (r1 [gm s3,gm l0] 1 1) .ret))))⟩
def w882  (n:Nat)  (hp0:n<=9999):dn Y HZ (.str (eM n)) [.int .u64 (n:Nat)]:=by
 show bP _ _ _ [⟨_,_⟩,_,_,_] _;refine aq ?_;refine aD ?_;refine Ti ((n%10:Nat):Int) (hn:=by intro _;omega) (hb:=fun _=>rfl) ?_;refine oE ((n%10:Nat):Int) (hb:=fun _=>IntWalk.u8_in _ ae) ?_;refine zU (((dg (n%10)).toNat:Nat):Int) (hb:=fun _=>by rw[N2 ae];exact IntWalk.u8_in _ ae) ?_;refine dA [.int .u8 _] ?_;refine Jy [dg (n%10)] (he:=fun _=>uK.all ah rfl) (hs:=fun _=>rfl) ?_;refine ay ?_;have h0:eM n=(if n<10 then []else eM (n/10))++[dg (n%10)]:=by
  split
  .rename_i h;rw[pR h,Nat.mod_eq_of_lt h];rfl
  .rw[pQ ae]
 refine bh hm (ι:=(Nat×au)) (fun p=>[⟨true,.int .u64 (p.1:Nat)⟩,.un,.un,⟨true,.str p.2⟩]) (fun p=>[]) 8 (fun p=>p.1<=9999/\p.2.length<=9999-p.1+1/\eM n=(if p.1<10 then []else eM (p.1/10))++p.2) (fun p=>p.1) (n,[dg (n%10)]) ⟨hp0,aR,h0⟩ (dy []) ?_;rintro⟨k,s⟩ ⟨hk,hs,hr⟩;dsimp only at hk hs hr⊢;refine aI ?_;refine cM (fun hc0=>?_) fun hc0=>?_
 .refine aD ?_;refine ZM ((k/10:Nat):Int) (hn:=by intro _;omega) (hb:=fun _=>by rw[show((k:Int).tdiv 10)=((k/10:Nat):Int)from rfl,IntKind.wrap_u64];omega) ?_;refine aD ?_;refine Ti (((k/10)%10:Nat):Int) (hn:=by intro _;omega) (hb:=fun _=>rfl) ?_;refine oE (((k/10)%10:Nat):Int) (hb:=fun _=>IntWalk.u8_in _ ae) ?_;refine zU (((dg ((k/10)%10)).toNat:Nat):Int) (hb:=fun _=>by rw[N2 ae];exact IntWalk.u8_in _ ae) ?_;refine dA [.int .u8 _] ?_;refine Jy [dg ((k/10)%10)] (he:=fun _=>uK.all ah rfl) (hs:=fun _=>rfl) ?_;refine aH ?_;refine dQ (hb:=fun _=>cY) ?_;refine aD ?_;have h1:eM n=(if k/10<10 then []else eM (k/10/10))++([dg (k/10%10)]++s):=by
   rw[hr,ak ae];split
   .rename_i h;rw[pR h,Nat.mod_eq_of_lt h];rfl
   .rw[pQ ae,eU]
  exact⟨(k/10,[dg (k/10%10)]++s),⟨fq,cY,h1⟩,fq,(dy [])⟩
 refine ba ?_;refine df ?_;rw[hr,aw ae];rfl
def K1 (T:List D->D->Prop):Prop:=∀(n:Nat),(n<=9999)->T [.int .u64 (n:Nat)] (.str (eM n))
def XI (Y:Ctx):Prop:=K1 (bD Y 882)
def FL:aE:=⟨1,3,ib,b8,(sq (r1 [gm cse] 1 0) (sq (sq (r1 [gm s0,aX l0 bx] 2 1) (.cond s2 (sq (r1 [gm s0,az l0 cl,gn (.un .neg l1),gn (.cvi .u64 l2),az l3 (iu 1),gx 882 [l4] b8,az (cs [45]) l5,gm l6] 1 7) .ret) .skip)) (sq (r1 [gm s0,gn (.cvi .u64 l0),gx 882 [l1] b8,gm l2] 1 3) .ret)))⟩
def w734 {Y:Ctx}(hm:(Y.at 0).cj)(h882:XI Y)(n:Int)  (hp0:0<=n/\n<=9999):dn Y FL (.str (eM n.toNat)) [.int .i64 n]:=by
 show bP _ _ _ [⟨_,_⟩,_,_] _;refine aq ?_;refine ba ?_;refine cM (fun hc0=>?_) fun hc0=>?_
 .omega
 refine ay ?_;obtain⟨k,rfl⟩:∃k:Nat,n=k:=⟨n.toNat,ae⟩
 refine aH ?_;refine oE (k:Int) (hb:=fun _=>by rw[IntKind.wrap_u64];omega) ?_;refine ar (hc:=h882 _ ?_) ?_;rotate_left;first|assumption|omega
 refine aA ?_;exact df rfl
def T6 (Y:Ctx):Prop:=sf (bD Y 734)
def HX:aE:=⟨2,8,[⟨2,none⟩],[[.sl 1 [.a]]],(sq (r1 [gm (.c (.aF))] 2 0) (sq (r1 [gm (.c (.aF))] 6 0) (sq (r1 [gm bx] 7 0) (sq (sq (r1 [gm bx] 3 0) (.block 0 (.loop (sq (sq (r1 [gm s3,gm s0,ov l1,aX l0 l2] 4 3) (fC s4 0)) (sq (.block 1 (sq (r1 [gm s0,gm s3,GL l0 l1,gm s1,aL l2 l3] 5 4) (.cond s5 (sq (r1 [gm s6,gm s0,gm s7,gm s3,gn (.slS l1 (some l2) (some l3)),gn (.bsl 1 (.str []) 1 [(0,l4)]),gn (.app 1 l0 l5),gm l6] 6 7) (r1 [gm s3,az l0 cl,gm l1] 7 2)) .skip))) (r1 [gm s3,az l0 cl,gm l1] 3 2)))))) (sq (r1 [gm s6,gm s0,gm s7,gn (.slS l1 (some l2) none),gn (.bsl 1 (.str []) 1 [(0,l3)]),gn (.app 1 l0 l4),gm l5] 2 6) .ret)))))⟩
def w470  (s:au)(b:Int)  (hp0:s.length<=1048576):dn Y HX (.sl 1 ((ai s b).map D.str)) [.str s,.int .u8 b]:=by
 show bP _ _ _ [⟨_,_⟩,⟨_,_⟩,_,_,_,_,_,_] _;refine aq ?_;refine hY ?_;refine bh hm (ι:=(Nat×Nat×List au)) (fun p:Nat×Nat×List au=>[⟨true,.str s⟩,⟨true,.int .u8 b⟩,.un,⟨true,.int .i64 (p.1:Nat)⟩,.un,.un,⟨true,.own 0 1 0 p.2.2.length⟩,⟨true,.int .i64 (p.2.1:Nat)⟩]) (fun p=>[(0,.buf 1 (p.2.2.map D.str))]) 4 (fun p=>p.1<=s.length/\p.2.1<=p.1/\p.2.2.length<=p.1/\ai s b=p.2.2++cC b (s.drop p.1) ((s.take p.1).drop p.2.1)) (fun p=>s.length-p.1) (0,0,[]) ⟨aR,aR,aR,rfl⟩ (br.to [] ah ah (by repeat(first|exact eC.nil|refine eC.un ?_|refine eC.eq ah ?_|refine eC.nl ah ah ?_|refine eC.ni (Or.inr ⟨0,1,0,rfl⟩) ?_)) (by repeat(first|exact bJ.nil|refine bJ.mt ah ah ah ah ?_))) ?_;rintro⟨i,fr,acc⟩ ⟨hi,hf,ha,hr⟩;dsimp only at hi hf ha hr⊢;refine aI ?_;intro u0;refine ay ?_;refine cM (fun hc0=>?_) fun hc0=>?_
 .refine di ?_;refine wp_cond (fun hc1=>?_) (fun hc1=>?_)
  .try simp only[dq]at hc1
   refine aI ?_;refine zY _ _ ?_;refine dA [(.str _)] ?_;refine AJ ?_;exact⟨(i+1,i+1,acc++[(s.take i).drop fr]),⟨fq,fq,cY,by rw[hr,Ck ae hc1];simp⟩,fq,(br.to [(19,0)] ah ah vO (by refine bJ.nl 19 ah ah ah ny ?_;exact bJ.nil))⟩
  simp only[bm]at hc1;refine bU ?_;exact⟨(i+1,fr,acc),⟨fq,fq,fq,by rw[hr,Cl ae ae hc1]⟩,fq,(br.to [(0,0)] ah ah vO (by refine bJ.nl 0 ah ah ah ny ?_;exact bJ.nil))⟩
 refine aG ?_;refine fI _ ?_;refine dA [(.str _)] ?_;refine aA ?_;refine fE 13 ?_;refine aH ?_;refine bI (?_);have hs:ai s b=acc++[s.drop fr]:=by rw[hr,Ar ae]
 rw[hs];exact rfl
def sI (Y:Ctx):Prop:=yk (bD Y 470)
def PK:aE:=⟨1,2,ib,b8,(sq (r1 [gm cZ] 1 0) (sq (r1 [gm s0,fR l0 (i8 97),gm l1,gmt 2 s0,cr 2 (lj l3 (i8 122)),eX l2 l4,gm l5] 1 6) .ret))⟩
def w453 {Y:Ctx}(hm:(Y.at 0).cj)  (c:Int)   :dn Y PK (.bool (iR c)) [.int .u8 c]:=by
 show bP _ _ _ [⟨_,_⟩,_] _;refine aq ?_;refine hY ?_;exact bX rfl
def Km (T:List D->D->Prop):Prop:=∀(c:Int),T [.int .u8 c] (.bool (iR c))
def TI (Y:Ctx):Prop:=Km (bD Y 453)
def HY:aE:=⟨1,2,ib,b8,(sq (r1 [gm cZ] 1 0) (sq (r1 [gm s0,fR l0 (i8 48),gm l1,gmt 2 s0,cr 2 (lj l3 (i8 57)),eX l2 l4,gm l5] 1 6) .ret))⟩
def w454 {Y:Ctx}(hm:(Y.at 0).cj)  (c:Int)   :dn Y HY (.bool (bp c)) [.int .u8 c]:=by
 show bP _ _ _ [⟨_,_⟩,_] _;refine aq ?_;refine hY ?_;exact bX rfl
def Kn (T:List D->D->Prop):Prop:=∀(c:Int),T [.int .u8 c] (.bool (bp c))
def QM (Y:Ctx):Prop:=Kn (bD Y 454)
def My:aE:=⟨1,6,ib,b8,(sq (r1 [gm cZ] 1 0) (sq (sq (r1 [gm s0,ov l0,aX l1 cl,gm l2,ek 3 s0,cn 3 (.lenS l4),cn 3 (eG l5 (i6 12)),eW l3 l6] 2 7) (m8 s2 cZ)) (sq (sq (r1 [gm bx] 3 0) (.block 0 (.loop (sq (sq (r1 [gm s3,gm s0,ov l1,aX l0 l2] 4 3) (fC s4 0)) (sq (.block 1 (sq (r1 [gm s0,gm s3,GL l0 l1,gx 453 [l2] b8,iY l3,gm l4,gmt 5 s0,gmt 5 s3,cr 5 (.ixS l6 l7),cr 5 (.call 454 [l8] b8),cr 5 (.un .not l9),eX l5 l10,gm fZ,gmt 12 s0,gmt 12 s3,cr 12 (.ixS jr jT),cr 12 (dS lg (i8 95)),eX iv nw] 5 17) (m8 s5 cZ))) (r1 [gm s3,az l0 cl,gm l1] 3 2)))))) (xz m5))))⟩
def w357 (h453:TI Y)(h454:QM Y)(s:au)   :dn Y My (.bool (c9 s)) [.str s]:=by
 show bP _ _ _ [⟨_,_⟩,_,_,_,_,_] _;refine aq ?_;refine aG ?_;intro u0;refine aA ?_;refine iJ ?_;refine aA ?_;refine cM (fun hc0=>?_) fun hc0=>?_
 .refine aI ?_;refine bX ?_;symm;simp only[c9,dR,bm];exact Or.inl ae
 refine aI ?_;refine bh hm (ι:=Nat) (fun i=>[⟨true,.str s⟩,.un,.un,⟨true,.int .i64 (i:Nat)⟩,.un,.un]) (fun i=>[]) 10 (fun i=>i<=s.length/\c9 s=cQ (fun i=>AE (at8 s i)) i s.length) (fun i=>s.length-i) 0 ⟨ae,by simp only[c9];rw[b9 ae,b9 ae];rfl⟩ (dy []) ?_;rintro i ⟨hi,hr⟩;refine aI ?_;intro u1;refine ay ?_;refine cM (fun hc1=>?_) fun hc1=>?_
 .refine aG ?_;refine ar (hc:=h453 _) ?_;refine aI ?_;refine ar (hc:=h454 _) ?_;refine di ?_;refine fP (fun hc2=>?_) fun hc2=>?_
  .refine aG ?_;refine bX ?_;rw[hr,aS ae];simp[AE,hc2]
  refine bU ?_;exact⟨i+1,⟨ae,by rw[hr,aS ae];simp[AE,hc2]⟩,ae,(dy [])⟩
 refine aG ?_;refine bX ?_;rw[hr,cq ae]
def GS (Y:Ctx):Prop:=xZ (bD Y 357)
def Mx:aE:=⟨1,6,ib,b8,(sq (r1 [gm cZ] 1 0) (sq (sq (r1 [gm s0,ov l0,aX l1 cl,gm l2,ek 3 s0,cn 3 (.lenS l4),cn 3 (eG l5 (i6 16)),eW l3 l6,gm l7,ek 8 s0,cn 8 (.ixS l9 bx),cn 8 (.call 453 [l10] b8),cn 8 (.un .not fZ),eW l8 iv,gm jr,ek 14 s0,ek 14 s0,cn 14 (.lenS nw),cn 14 (jK oU cl),cn 14 (.ixS lg pL),cn 14 (cV qx (i8 45)),eW jT uN] 2 21) (m8 s2 cZ)) (sq (sq (r1 [gm cl] 3 0) (.block 0 (.loop (sq (sq (r1 [gm s3,gm s0,ov l1,aX l0 l2] 4 3) (fC s4 0)) (sq (.block 1 (sq (r1 [gm s0,gm s3,GL l0 l1,gx 453 [l2] b8,iY l3,gm l4,gmt 5 s0,gmt 5 s3,cr 5 (.ixS l6 l7),cr 5 (.call 454 [l8] b8),cr 5 (.un .not l9),eX l5 l10,gm fZ,gmt 12 s0,gmt 12 s3,cr 12 (.ixS jr jT),cr 12 (dS lg (i8 45)),eX iv nw,gm oU,ek 18 s0,ek 18 s3,cn 18 (.ixS qx uN),cn 18 (cV xc (i8 45)),ek 18 zm,gmt 23 s0,gmt 23 s3,cr 23 (jK GM cl),cr 23 (.ixS D5 Ng),cr 23 (cV QG (i8 45)),zf 18 C6 S8,eW pL S9] 5 30) (m8 s5 cZ))) (r1 [gm s3,az l0 cl,gm l1] 3 2)))))) (xz m5))))⟩
def w216 (h453:TI Y)(h454:QM Y)(s:au)   :dn Y Mx (.bool (fm s)) [.str s]:=by
 show bP _ _ _ [⟨_,_⟩,_,_,_,_,_] _;refine aq ?_;refine aG ?_;intro u0;refine aA ?_;refine iJ ?_;refine aD ?_;refine pA 0 ?_;refine ar (hc:=h453 _) ?_;refine aI ?_;refine iJ ?_;refine aH ?_;refine pA (s.length-1) ?_;refine aA ?_;refine cM (fun hc0=>?_) fun hc0=>?_
 .refine aI ?_;refine bX ?_;symm;simp only[fm];rcases hc0 with(h|h)|h
  .rcases h with h|h<;>simp<;>omega
  .simp[h]
  .simp[h]
 refine aI ?_;refine bh hm (ι:=Nat) (fun i=>[⟨true,.str s⟩,.un,.un,⟨true,.int .i64 (i:Nat)⟩,.un,.un]) (fun i=>[]) 24 (fun i=>i<=s.length/\1<=i/\fm s=cQ (U3 s) i s.length) (fun i=>s.length-i) 1 ⟨ae,ae,by simp only[fm];rw[b9 ae,b9 ae,hc0.1.2,cJ hc0.2];rfl⟩ (dy []) ?_;rintro i ⟨hi,hi1,hr⟩;refine aI ?_;intro u1;refine ay ?_;refine cM (fun hc1=>?_) fun hc1=>?_
 .refine aG ?_;refine ar (hc:=h453 _) ?_;refine aI ?_;refine ar (hc:=h454 _) ?_;refine AL ?_;refine pA (i-1) ?_;refine aD ?_;refine fP (fun hc2=>?_) fun hc2=>?_
  .refine aG ?_;refine bX ?_;rw[hr,aS ae];simp only[U3];revert hc2;generalize iR (at8 s i)=x;generalize bp (at8 s i)=y;by_cases h1:at8 s i=45<;>by_cases h2:at8 s (i-1)=45<;>cases x<;>cases y<;>simp_all
  refine bU ?_;exact⟨i+1,⟨ae,ae,by rw[hr,aS ae];simp only[U3];revert hc2;generalize iR (at8 s i)=x;generalize bp (at8 s i)=y;by_cases h1:at8 s i=45<;>by_cases h2:at8 s (i-1)=45<;>cases x<;>cases y<;>simp_all⟩,ae,(dy [])⟩
 refine aG ?_;refine bX ?_;rw[hr,cq ae]
def Lb (Y:Ctx):Prop:=xR (bD Y 216)
def FM:aE:=⟨1,9,[⟨1,none⟩,⟨2,none⟩],fA,(sq (rg [gm bx,gm cZ] [(1,0),(2,1)]) (sq (sq (r1 [gm s0,ov l0,aX l1 cl,gm l2,ek 3 s0,cn 3 (.lenS l4),cn 3 (eG l5 LY),eW l3 l6,gm l7,ek 8 s0,cn 8 (.lenS l9),cn 8 (eG l10 cl),ek 8 fZ,gmt 12 s0,cr 12 (.ixS jr bx),cr 12 (cV jT (i8 48)),zf 8 iv lg,eW l8 nw] 3 17) (.cond s3 (sq (rg [gm bx,gm cZ] [(1,0),(2,1)]) .ret) .skip)) (sq (r1 [gm bx] 7 0) (sq (sq (r1 [gm bx] 4 0) (.block 0 (.loop (sq (sq (r1 [gm s4,gm s0,ov l1,aX l0 l2] 5 3) (fC s5 0)) (sq (.block 1 (sq (sq (r1 [gm s0,gm s4,GL l0 l1,gx 454 [l2] b8,iY l3] 6 4) (.cond s6 (sq (rg [gm bx,gm cZ] [(1,0),(2,1)]) .ret) .skip)) (r1 [gm s7,gn (.bin .mul l0 (i6 10)),gm s0,gm s4,GL l2 l3,dV l4 (i8 48),gn (.cvi .i64 l5),az l1 l6,gm l7] 7 8))) (r1 [gm s4,az l0 cl,gm l1] 4 2)))))) (sq (sq (r1 [gm s7,dj l0 (i6 9999)] 8 1) (.cond s8 (sq (rg [gm bx,gm cZ] [(1,0),(2,1)]) .ret) .skip)) (sq (rg [gm s7,gm l0,gm m5] [(1,1),(2,2)]) .ret))))))⟩
def w667 (h454:QM Y)(s:au)   :dn Y FM (.tup [.int .i64 (ei s),.bool (fS s)]) [.str s]:=by
 show bP _ _ _ [⟨_,_⟩,_,_,_,_,_,_,_,_] _;refine aq ?_;refine ba ?_;intro u0;refine aA ?_;refine iJ ?_;refine aD ?_;refine iJ ?_;refine aA ?_;refine pA 0 ?_;refine aD ?_;refine cM (fun hc0=>?_) fun hc0=>?_
 .refine aG ?_;refine bI (aK (aj (D.int .i64) ?_) (aj D.bool ?_));all_goals
   have:fS s=false:=by
    simp only[fS];rcases hc0 with(h|h)|h
    .rw[cJ (by omega:¬1<=s.length)];rfl
    .rw[cJ (by omega:¬s.length<=9)];simp
    .rw[b9 (by omega:1<s.length),b9 h.2];simp
   simp[ei,this]
 refine bU ?_;have hP:fS s=(cQ (fun i=>bp (at8 s i)) 0 s.length&&decide (dX s<=9999)):=by
  simp only[fS];rw[b9 (by omega:1<=s.length),b9 (by omega:s.length<=9)];rcases hc0.2 with h|h
  .rw[cJ (by omega:¬1<s.length)];rfl
  .rw[cJ h,Bool.and_false];rfl
 refine bh hm (ι:=Nat) (fun i=>[⟨true,.str s⟩,.un,.un,.un,⟨true,.int .i64 (i:Nat)⟩,.un,.un,⟨true,.int .i64 (dX (s.take i):Nat)⟩,.un]) (fun i=>[]) 22 (fun i=>i<=s.length/\s.length<=9/\fS s=(cQ (fun i=>bp (at8 s i)) i s.length&&decide (dX s<=9999))) (fun i=>s.length-i) 0 ⟨ae,ae,hP⟩ (dy []) ?_;rintro i ⟨hi,h9,hr⟩;refine aI ?_;intro u1;refine ay ?_;refine cM (fun hc1=>?_) fun hc1=>?_
 .refine ba ?_;refine ar (hc:=h454 _) ?_;refine ay ?_;refine av (fun hc2=>?_) (fun hc2=>?_)
  .try simp only[dq]at hc2
   refine bU ?_;refine bI (aK (aj (D.int .i64) ?_) (aj D.bool ?_));all_goals
    have:fS s=false:=by rw[hr,aS ae,hc2];rfl
    simp[ei,this]
  simp only[bN]at hc2;refine ay ?_;have h48:=hc2;simp only[bp,bG,aT]at h48;have hn:=ur s i ae;have hn2:=wG s i ae;have h256:=uW s i;refine aH ?_;refine Dm ?_;refine aA ?_;refine qa (at8 s i-48) (hb:=fun _=>IntWalk.u8_in _ ae) ?_;refine oE (at8 s i-48) (hb:=fun _=>IntWalk.i64_in _ ae) ?_;refine aA ?_;rw[show(dX (s.take i):Int)*10+(at8 s i-48)=(dX (s.take (i+1)):Nat)by omega];refine ba ?_;exact⟨i+1,⟨ae,h9,by rw[hr,aS ae,hc2];rfl⟩,ae,(dy [])⟩
 refine aD ?_;have ht:s.take i=s:=ey ae;rw[ht];refine aA ?_;refine cM (fun hc3=>?_) fun hc3=>?_
 .refine aG ?_;refine bI (aK (aj (D.int .i64) ?_) (aj D.bool ?_));all_goals
   have:fS s=false:=by rw[hr,cJ ae,Bool.and_false]
   simp[ei,this]
 refine ba ?_;refine bI (aK (aj (D.int .i64) ?_) (aj D.bool ?_));all_goals
  have:fS s=true:=by rw[hr,cq ae,b9 ae];rfl
  simp[ei,this]
def Ns (Y:Ctx):Prop:=yn (bD Y 667)
def Dz:aE:=⟨1,5,ib,b8,(sq (r1 [gm cZ] 1 0) (sq (sq (r1 [gm bx] 2 0) (.block 0 (.loop (sq (sq (r1 [gm s2,gm s0,ov l1,aX l0 l2] 3 3) (fC s3 0)) (sq (.block 1 (sq (r1 [gm s0,gm s2,GL l0 l1,aX l2 (i8 48),gm l3,ek 4 s0,ek 4 s2,cn 4 (.ixS l5 l6),cn 4 (eG l7 (i8 57)),eW l4 l8] 4 9) (m8 s4 cZ))) (r1 [gm s2,az l0 cl,gm l1] 2 2)))))) (sq (r1 [gm s0,ov l0,dj l1 bx,gm l2] 1 3) .ret)))⟩
def w668  (t:au)   :dn Y Dz (.bool (cW t)) [.str t]:=by
 show bP _ _ _ [⟨_,_⟩,_,_,_,_] _;refine aq ?_;refine aG ?_;refine bh hm (ι:=Nat) (fun i=>[⟨true,.str t⟩,.un,⟨true,.int .i64 (i:Nat)⟩,.un,.un]) (fun i=>[]) 2 (fun i=>i<=t.length/\cQ (fun i=>bp (at8 t i)) 0 t.length=cQ (fun i=>bp (at8 t i)) i t.length) (fun i=>t.length-i) 0 ⟨ae,rfl⟩ (dy []) ?_;rintro i ⟨hi,hr⟩;refine aI ?_;intro u0;refine ay ?_;refine cM (fun hc0=>?_) fun hc0=>?_
 .refine rE ?_;refine fP (fun hc1=>?_) fun hc1=>?_
  .refine aG ?_;refine bX ?_;simp only[cW];rw[hr,aS ae];rcases hc1 with h|h<;>simp[bp]<;>omega
  refine bU ?_;exact⟨i+1,⟨ae,by rw[hr,aS ae];rw[show bp (at8 t i)=true by simp only[bp,bG,aT];omega];rfl⟩,ae,(dy [])⟩
 refine aI ?_;intro u1;refine aD ?_;refine bX ?_;simp only[cW];rw[hr,cq ae];simp
def T0 (Y:Ctx):Prop:=yo (bD Y 668)
def PQ:aE:=⟨1,7,ib,b8,(sq (r1 [gm cZ] 1 0) (sq (sq (r1 [gm s0,ov l0,aX l1 cl,gm l2,ek 3 s0,cn 3 (.lenS l4),cn 3 (eG l5 EP),eW l3 l6] 2 7) (m8 s2 cZ)) (sq (sq (r1 [gm bx] 3 0) (.block 0 (.loop (sq (sq (r1 [gm s3,gm s0,ov l1,aX l0 l2] 4 3) (fC s4 0)) (sq (.block 1 (sq (r1 [gm s0,gm s3,GL l0 l1,gm l2] 5 3) (sq (r1 [gm s5,aX l0 (i8 97),gm l1,ek 2 s5,cn 2 (eG l3 (i8 122)),eW l2 l4,gm l5,gmt 6 s5,cr 6 (oW l7 (i8 48)),gmt 6 l8,ek 9 s5,cn 9 (eG l10 (i8 57)),US 6 l9 fZ,eX l6 iv,gm jr,gmt 14 s5,cr 14 (dS lg (i8 45)),eX jT nw] 6 17) (m8 s6 cZ)))) (r1 [gm s3,az l0 cl,gm l1] 3 2)))))) (xz m5))))⟩
def w666  (t:au)   :dn Y PQ (.bool (rA t)) [.str t]:=by
 show bP _ _ _ [⟨_,_⟩,_,_,_,_,_,_] _;refine aq ?_;refine aG ?_;intro u0;refine aA ?_;refine iJ ?_;refine aA ?_;refine cM (fun hc0=>?_) fun hc0=>?_
 .refine aI ?_;refine bX ?_;symm;simp only[rA,dR,bm];exact Or.inl ae
 refine aI ?_;refine bh hm (ι:=Nat) (fun i=>[⟨true,.str t⟩,.un,.un,⟨true,.int .i64 (i:Nat)⟩,.un,.un,.un]) (fun i=>[]) 10 (fun i=>i<=t.length/\rA t=cQ (fun i=>nL (at8 t i)) i t.length) (fun i=>t.length-i) 0 ⟨ae,by simp only[rA];rw[b9 ae,b9 ae];rfl⟩ (dy []) ?_;rintro i ⟨hi,hr⟩;refine aI ?_;intro u1;refine ay ?_;refine cM (fun hc1=>?_) fun hc1=>?_
 .refine QD ?_;refine fP (fun hc2=>?_) fun hc2=>?_
  .refine aG ?_;refine bX ?_;rw[hr,aS ae];have:nL (at8 t i)=false:=(by simp only[nL,iR,bp,dh,dR,bm];omega);rw[this];rfl
  refine bU ?_;exact⟨i+1,⟨ae,by rw[hr,aS ae];have:nL (at8 t i)=true:=(by simp only[nL,iR,bp,cS,bG,aT];omega);rw[this];rfl⟩,ae,(dy [])⟩
 refine aG ?_;refine bX ?_;rw[hr,cq ae]
def KI (T:List D->D->Prop):Prop:=∀(t:au),T [.str t] (.bool (rA t))
def Xf (Y:Ctx):Prop:=KI (bD Y 666)
def MB:aE:=⟨2,11,[⟨2,none⟩],b8,(sq (r1 [gm cZ] 2 0) (sq (sq (r1 [gm s0,aL l0 cse] 3 1) (.cond s3 (sq (r1 [gm m5] 2 0) .ret) .skip)) (sq (r1 [gm s0,gx 470 [l0,(i8 46)] fA,gm l1] 4 2) (sq (sq (r1 [gm s4,gl l0,dj l1 wC] 5 2) (.cond s5 (sq (r1 [gm cZ] 2 0) .ret) .skip)) (sq (sq (r1 [gm bx] 6 0) (.block 0 (.loop (sq (sq (r1 [gm s6,gm s4,gl l1,aX l0 l2] 7 3) (fC s7 0)) (sq (.block 1 (sq (sq (r1 [gm s4,gm s6,ga 1 l0 l1,gd l2,gx 666 [l3] b8,iY l4] 8 5) (.cond s8 (sq (r1 [gm cZ] 2 0) .ret) .skip)) (sq (r1 [gm s4,gm s6,ga 1 l0 l1,gd l2,gx 667 [l3] b8,gm l4,ge l5 0,ge l5 1,gm l6,gm l7] 9 9) (sq (r1 [gm s1,gm l0,gmt 1 s4,gmt 1 s6,cr 1 (.ia 1 l2 l3),jM 1 l4,cr 1 (.call 668 [l5] b8),eX l1 l6,gm l7,gmt 8 s9,cr 8 (.un .not l9),eX l8 l10] 10 11) (.cond ik (sq (r1 [gm cZ] 2 0) .ret) .skip))))) (r1 [gm s6,az l0 cl,gm l1] 6 2)))))) (sq (r1 [gm m5] 2 0) .ret))))))⟩
def w456 (h470:sI Y)(h666:Xf Y)(h667:Ns Y)(h668:T0 Y)(s:au)(p:Bool)  (hp0:s.length<=1048576):dn Y MB (.bool (sE s p)) [.str s,.bool p]:=by
 show bP _ _ _ [⟨_,_⟩,⟨_,_⟩,_,_,_,_,_,_,_,_,_] _;refine aq ?_;refine ba ?_;refine cM (fun hc0=>?_) fun hc0=>?_
 .refine aI ?_;refine bX ?_;simp[sE,hc0]
 refine aA ?_;refine ar (hc:=h470 _ _ ?_) ?_;rotate_left;first|assumption|omega;have hlen:=dd s 46
 refine aG ?_;intro u0;refine ay ?_;refine av (fun hc1=>?_) (fun hc1=>?_)
 .try simp only[dq]at hc1
  refine aI ?_;refine bX ?_;simp only[sE,oG];rw[cJ hc0,cJ ae];rfl
 simp only[bm]at hc1;refine aI ?_;refine bh hm (ι:=Nat) (fun i=>[⟨true,.str s⟩,⟨true,.bool p⟩,.un,.un,⟨true,.sl 1 ((ai s 46).map D.str)⟩,.un,⟨true,.int .i64 (i:Nat)⟩,.un,.un,.un,.un]) (fun i=>[]) 10 (fun i=>i<=(ai s 46).length/\sE s p=cQ (fun i=>iI p (ai s 46)[i]!) i (ai s 46).length) (fun i=>(ai s 46).length-i) 0 ⟨ae,by simp only[sE,oG];rw[cJ hc0,b9 ae];rfl⟩ (dy []) ?_;rintro i ⟨hi,hr⟩;refine aI ?_;intro u1;refine ay ?_;refine cM (fun hc2=>?_) fun hc2=>?_
 .refine bU ?_;refine ar (hc:=h666 _) ?_;refine ay ?_;refine av (fun hc3=>?_) (fun hc3=>?_)
  .simp only[bg]at hc3;refine ba ?_;refine bX ?_;rw[hr,aS ae];simp only[iI,hc3];rfl
  simp only[bN]at hc3;refine aG ?_;refine ar (hc:=h667 _) ?_;refine lA ?_;refine ar (hc:=h668 _) ?_;refine aG ?_;refine wp_cond (fun hc4=>?_) (fun hc4=>?_)
  .skip
   refine aG ?_;refine bX ?_;have h5:iI p (ai s 46)[i]! =false:=(by simp only[iI,hc3];revert hc4;generalize cW (ai s 46)[i]! =a;generalize fS (ai s 46)[i]! =b;cases p<;>cases a<;>cases b<;>simp);rw[hr,aS ae,h5];rfl
  skip
  refine bU ?_;exact⟨i+1,⟨ae,by rw[hr,aS ae];have h5:iI p (ai s 46)[i]! =true:=(by simp only[iI,hc3];revert hc4;generalize cW (ai s 46)[i]! =a;generalize fS (ai s 46)[i]! =b;cases p<;>cases a<;>cases b<;>simp);rw[h5];rfl⟩,ae,(dy [])⟩
 refine aG ?_;refine bX ?_;rw[hr,cq ae]
def Ko (T:List D->D->Prop):Prop:=∀(s:au) (p:Bool),(s.length<=1048576)->T [.str s,.bool p] (.bool (sE s p))
def WM (Y:Ctx):Prop:=Ko (bD Y 456)
def PM:aE:=⟨1,2,ib,b8,(sq (r1 [gm cZ] 1 0) (sq (r1 [gm s0,fR l0 bx,gm l1,gmt 2 s0,cr 2 (lj l3 (i6 9999)),eX l2 l4,gm l5] 1 6) .ret))⟩
def w455 {Y:Ctx}(hm:(Y.at 0).cj)  (n:Int)   :dn Y PM (.bool (qw n)) [.int .i64 n]:=by
 show bP _ _ _ [⟨_,_⟩,_] _;refine aq ?_;refine hY ?_;exact bX rfl
def WL (Y:Ctx):Prop:=ya (bD Y 455)
def PL:aE:=⟨1,3,ib,b8,(sq (rg [gb 5 s0,gm cZ] [(2,0),(1,1)]) (sq (r1 [gf 0 s2,gd l0,gx 455 [l1] b8,gm l2,kn 3 1 s2,jM 3 l4,cr 3 (.call 455 [l5] b8),eX l3 l6,gm l7,kn 8 2 s2,jM 8 l9,cr 8 (.call 455 [l10] b8),eX l8 fZ,gm iv,kn 13 3 s2,jM 13 jT,cr 13 (.call 456 [lg,m5] fA),eX jr nw,gm oU,kn 18 4 s2,jM 18 qx,cr 18 (.call 456 [uN,cZ] fA),eX pL xc,gm zm] 1 23) .ret))⟩
def w217 {Y:Ctx}(hm:(Y.at 0).cj)(h455:WL Y)(h456:WM Y)(v:cy)  (hp0:v.sm):dn Y PL (.bool (fT v)) [cy.D v]:=by
 show bP _ _ _ [⟨_,_⟩,_,_] _;refine aq ?_;refine aG ?_;refine ar (hc:=h455 _) ?_;refine aA ?_;refine ar (hc:=h455 _) ?_;refine aD ?_;refine ar (hc:=h455 _) ?_;refine aD ?_;refine dm (hc:=fun hf=>h456 v.pre true hp0.1) ?_;refine aD ?_;refine dm (hc:=fun hf=>h456 v.build false hp0.2) ?_;refine aD ?_;exact bX rfl
def GQ (Y:Ctx):Prop:=xS (bD Y 217)
def Dy:aE:=⟨1,4,ib,b8,(sq (rg [gb 5 s0,gm cse] [(2,0),(1,1)]) (sq (r2 [gf 0 s2,gd l0,gx 734 [l1] b8,az l2 (cs [46]),gf 1 s2,gd l4,gx 734 [l5] b8,az l3 l6,gm l7] 3 8) (sq (r1 [gm s3,az l0 (cs [46]),gf 2 s2,gd l2,gx 734 [l3] b8,az l1 l4,gm l5] 1 6) .ret)))⟩
def w554 {Y:Ctx}(hm:(Y.at 0).cj)(h734:T6 Y)(v:cy)  (hp0:qw v.major=true/\qw v.minor=true/\qw v.patch=true):dn Y Dy (.str (eM v.major.toNat++[46]++eM v.minor.toNat++[46]++eM v.patch.toNat)) [cy.D v]:=by
 show bP _ _ _ [⟨_,_⟩,_,_,_] _;obtain⟨hq1,hq2,hq3⟩:=hp0;simp only[qw,bG,aT]at hq1 hq2 hq3;have hl1:=eP 4 v.major.toNat ae ae;have hl2:=eP 4 v.minor.toNat ae ae;have hl3:=eP 4 v.patch.toNat ae ae;refine aq ?_;refine aG ?_;refine ar (hc:=h734 _ ?_) ?_;rotate_left;first|assumption|omega
 refine dQ (hb:=fun _=>cY) ?_;refine ay ?_;refine ar (hc:=h734 _ ?_) ?_;rotate_left;first|assumption|omega
 refine dQ (hb:=fun _=>cY) ?_;refine aD ?_;refine dQ (hb:=fun _=>cY) ?_;refine ay ?_;refine ar (hc:=h734 _ ?_) ?_;rotate_left;first|assumption|omega
 refine dQ (hb:=fun _=>cY) ?_;refine aA ?_;exact df rfl
def KG (T:List D->D->Prop):Prop:=∀(v:cy),(qw v.major=true/\qw v.minor=true/\qw v.patch=true)->T [cy.D v] (.str (eM v.major.toNat++[46]++eM v.minor.toNat++[46]++eM v.patch.toNat))
def Xb (Y:Ctx):Prop:=KG (bD Y 554)
def H2:aE:=⟨1,7,ib,b8,(sq (rg [gb 5 s0,gm cse] [(2,0),(1,1)]) (sq (sq (r1 [gk 5 true s2,gx 217 [l0] xA,iY l1] 3 2) (m8 s3 cse)) (sq (r1 [gk 5 true s2,gx 554 [l0] xA,gm l1] 5 2) (sq (sq (r1 [gf 3 s2,gd l0,bO l1 cse] 4 2) (.cond s4 (r1 [gm s5,az l0 (cs [45]),gf 3 s2,gd l2,az l1 l3,gm l4] 5 5) .skip)) (sq (sq (r1 [gf 4 s2,gd l0,bO l1 cse] 6 2) (.cond s6 (r1 [gm s5,az l0 (cs [43]),gf 4 s2,gd l2,az l1 l3,gm l4] 5 5) .skip)) (sq (r1 [gm s5,gm l0] 1 1) .ret))))))⟩
def w316 {Y:Ctx}(hm:(Y.at 0).cj)(h217:GQ Y)(h554:Xb Y)(v:cy)  (hp0:v.sm):dn Y H2 (.str (oq v)) [cy.D v]:=by
 show bP _ _ _ [⟨_,_⟩,_,_,_,_,_,_] _;obtain⟨hs1,hs2⟩:=hp0;have hp0:v.sm:=⟨hs1,hs2⟩;refine aq ?_;refine aG ?_;refine ar (hc:=h217 _ ?_) ?_;rotate_left;first|assumption|omega
 refine ay ?_;refine av (fun hc0=>?_) (fun hc0=>?_)
 .simp only[bg]at hc0;refine aI ?_;refine df ?_;simp[oq,hc0]
 simp only[bN]at hc0;refine ay ?_;have hv:=hc0;simp only[fT,bG]at hv;obtain⟨⟨⟨⟨hv1,hv2⟩,hv3⟩,_⟩,_⟩:=hv;have hq1:=hv1;have hq2:=hv2;have hq3:=hv3;simp only[qw,bG,aT]at hq1 hq2 hq3;have hl1:=eP 4 v.major.toNat ae ae;have hl2:=eP 4 v.minor.toNat ae ae;have hl3:=eP 4 v.patch.toNat ae ae;refine aH ?_;refine ar (hc:=h554 v ⟨hv1,hv2,hv3⟩) ?_;refine bU ?_;refine cM (fun hc1=>?_) fun hc1=>?_
 .refine ay ?_;refine dQ (hb:=fun _=>cY) ?_;refine ay ?_;refine dQ (hb:=fun _=>cY) ?_;refine bU ?_;refine cM (fun hc2=>?_) fun hc2=>?_
  .refine ay ?_;refine dQ (hb:=fun _=>cY) ?_;refine ay ?_;refine dQ (hb:=fun _=>cY) ?_;refine ba ?_;refine df ?_;simp[oq,xj,hc0,hc1,hc2]
  refine aG ?_;refine df ?_;simp[oq,xj,hc0,hc1,hc2]
 refine ba ?_;refine cM (fun hc2=>?_) fun hc2=>?_
 .refine ay ?_;refine dQ (hb:=fun _=>cY) ?_;refine ay ?_;refine dQ (hb:=fun _=>cY) ?_;refine ba ?_;refine df ?_;simp[oq,xj,hc0,hc1,hc2]
 refine aG ?_;refine df ?_;simp[oq,xj,hc0,hc1,hc2]
def Wx (Y:Ctx):Prop:=ye (bD Y 316)
def MH:aE:=⟨2,3,[⟨2,none⟩],b8,(sq (r1 [gm (iu 0)] 2 0) (sq (r1 [gm s0,gm s1,gn (.bin .shl l0 l1),gm s0,gm s1,dV (iu 64) l4,gn (.bin .shr l3 l5),E8 l2 l6,gm l7] 2 8) .ret))⟩
def w464 {Y:Ctx}(hm:(Y.at 0).cj)  (h:Int)(n:Nat)  (hp0:n<=63):dn Y MH (.int .u64 (VF h n)) [.int .u64 h,.int .u64 (n:Nat)]:=by
 show bP _ _ _ [⟨_,_⟩,⟨_,_⟩,_] _;refine aq ?_;refine aI ?_;refine Fm (Ao h n) (hb:=fun _=>by rw[show min (Int.toNat (n:Int)) (IntKind.bits .u64)=n by simp[IntKind.bits];omega];rfl) ?_;refine ay ?_;refine qa ((64-n:Nat):Int) (hb:=fun _=>by rw[IntKind.wrap_u64];omega) ?_;refine Fo (uE h (64-n)) (hb:=fun _=>by rw[show min (Int.toNat ((64-n:Nat):Int)) (IntKind.bits .u64)=64-n by simp[IntKind.bits]];rfl) ?_;refine Fl (VF h n) (hb:=fun _=>rfl) ?_;refine aA ?_;refine bI (aj (D.int .u64) ?_);rfl
def Kv (T:List D->D->Prop):Prop:=∀(h:Int) (n:Nat),(n<=63)->T [.int .u64 h,.int .u64 (n:Nat)] (.int .u64 (VF h n))
def WV (Y:Ctx):Prop:=Kv (bD Y 464)
def PW:aE:=⟨1,5,ib,b8,(sq (r1 [gm (iu 0)] 1 0) (sq (r1 [gm (iu 11400714819323198485)] 4 0) (sq (sq (r1 [gm bx] 2 0) (.block 0 (.loop (sq (sq (r1 [gm s2,gm s0,gl l1,aX l0 l2] 3 3) (fC s3 0)) (sq (.block 1 (r1 [gm s4,gm s0,gm s2,ga 1 l1 l2,gd l3,gn (.cvi .u64 l4),gn (.bin .xor l0 l5),gx 464 [l6,(iu 13)] fA,gn (.bin .mul l7 (iu 18397679294719823053)),gm l8] 4 9)) (r1 [gm s2,az l0 cl,gm l1] 2 2)))))) (sq (r1 [gm s4,gm s4,gn (.bin .shr l1 (iu 29)),gn (.bin .xor l0 l2),gm l3] 1 4) .ret))))⟩
def w221 (h464:WV Y)(s:au)   :dn Y PW (.int .u64 (F7 s)) [.sl 1 ((s).map fun b=>D.int .u8 b.toNat)]:=by
 show bP _ _ _ [⟨_,_⟩,_,_,_,_] _;refine aq ?_;refine di ?_;refine bh hm (ι:=Nat) (fun i=>[⟨true,.sl 1 (s.map fun b=>D.int .u8 b.toNat)⟩,.un,⟨true,.int .i64 (i:Nat)⟩,.un,⟨true,.int .u64 (v7 (s.take i))⟩]) (fun i=>[]) 3 (fun i=>i<=s.length) (fun i=>s.length-i) 0 ae (dy []) ?_;intro i hi;refine aI ?_;intro u0;refine ay ?_;refine cM (fun hc0=>?_) fun hc0=>?_
 .refine ba ?_;refine bH (v:=.int .u8 (at8 s i)) (hv:=fun _=>ld8 s i) ?_;refine oE (at8 s i) (hb:=fun _=>by have:=uW s i;rw[IntKind.wrap_u64];omega) ?_;refine Dj (AI (v7 (s.take i)) (at8 s i)) (hb:=fun _=>rfl) ?_;refine ar (hc:=h464 _ 13 ae) ?_;refine PG (v7 (s.take (i+1))) (hb:=fun _=>by rw[Cr s i ae];rfl) ?_;refine di ?_;exact⟨i+1,ae,ae,(dy [])⟩
 refine aA ?_;have ht:s.take i=s:=ey ae;rw[ht];refine ay ?_;refine Fo (uE (v7 s) 29) (hb:=fun _=>rfl) ?_;refine Dj (F7 s) (hb:=fun _=>rfl) ?_;refine aA ?_;refine bI (aj (D.int .u64) ?_);rfl
def Wg (Y:Ctx):Prop:=xX (bD Y 221)
def Ev:aE:=⟨1,12,[⟨1,none⟩,⟨2,none⟩],fA,(sq (rg [gm (iu 0),gm cZ] [(1,0),(2,1)]) (sq (sq (r1 [gm s0,ov l0,bO l1 (i6 16)] 3 2) (.cond s3 (sq (rg [gm (iu 0),gm cZ] [(1,0),(2,1)]) .ret) .skip)) (sq (r1 [gm (iu 0)] 10 0) (sq (sq (rg [gm s0,ov l0,gm bx] [(5,1),(4,2)]) (.block 0 (.loop (sq (r1 [aX s4 s5] 6 0) (sq (fC s6 0) (sq (.block 1 (sq (r1 [gm s4,gm l0] 7 1) (sq (r1 [gm s0,gm s7,GL l0 l1,gm l2] 8 3) (.block 2 (sq (r1 [gm s8,fR l0 (i8 48),gm l1,gmt 2 s8,cr 2 (lj l3 (i8 57)),eX l2 l4,gm l5] 9 6) (.cond s9 (r1 [gm ik,gn (.bin .shl l0 (iu 4)),gm s8,dV l2 (i8 48),gn (.cvi .u64 l3),E8 l1 l4,gm l5] 10 6) (sq (r1 [gm s8,fR l0 (i8 97),gm l1,gmt 2 s8,cr 2 (lj l3 (i8 102)),eX l2 l4,gm l5] 11 6) (.cond jR (r1 [gm ik,gn (.bin .shl l0 (iu 4)),gm s8,dV l2 (i8 97),az l3 (i8 10),gn (.cvi .u64 l4),E8 l1 l5,gm l6] 10 7) (sq (rg [gm (iu 0),gm cZ] [(1,0),(2,1)]) .ret))))))))) (r1 [az s4 cl,gm l0] 4 1))))))) (sq (rg [gm ik,gm l0,gm m5] [(1,1),(2,2)]) .ret)))))⟩
def w499  (s:au)   :dn Y Ev (.tup [.int .u64 (qo s),.bool (jQ s)]) [.str s]:=by
 show bP _ _ _ [⟨_,_⟩,_,_,_,_,_,_,_,_,_,_,_] _;refine aq ?_;refine ba ?_;intro u0;refine ay ?_;refine cM (fun hc0=>?_) fun hc0=>?_
 .refine aG ?_;refine bI (aK (aj (D.int .u64) ?_) (aj D.bool ?_));all_goals
   have:jQ s=false:=by simp only[jQ];rw[cJ (by omega:¬s.length=16)];rfl
   simp[qo,this]
 refine bU ?_;intro u1;refine ay ?_;have h16:s.length=16:=ae;have hP:jQ s=cQ (fun i=>nU (at8 s i)) 0 s.length:=by simp only[jQ];rw[b9 h16];rfl
 refine bh hm (ι:=Nat) (fun i=>[⟨true,.str s⟩,.un,.un,.un,⟨true,.int .i64 (i:Nat)⟩,⟨true,.int .i64 (s.length:Nat)⟩,.un,.un,.un,.un,⟨true,.int .u64 (qn (s.take i))⟩,.un]) (fun i=>[]) 9 (fun i=>i<=s.length/\s.length=16/\jQ s=cQ (fun i=>nU (at8 s i)) i s.length) (fun i=>s.length-i) 0 ⟨ae,h16,hP⟩ (dy []) ?_;rintro i ⟨hi,h16,hr⟩;refine aA ?_;refine cM (fun hc1=>?_) fun hc1=>?_
 .refine QC ?_;refine fP (fun hc2=>?_) fun hc2=>?_
  .refine aH ?_;have h256:=uW s i;have hz:nU (at8 s i)=true:=by simp only[nU,bp,cS,bG,aT];omega
   have hv:sk (at8 s i)=at8 s i-48:=by unfold sk;rw[aw (by simp only[bp,bG,aT];omega)]
   refine aH ?_;refine Fm (Ao (qn (s.take i)) 4) (hb:=fun _=>by rw[show min (Int.toNat (4:Int)) (IntKind.bits .u64)=4 by simp[IntKind.bits]];rfl) ?_;refine aH ?_;refine qa (at8 s i-48) (hb:=fun _=>IntWalk.u8_in _ ae) ?_;refine oE (at8 s i-48) (hb:=fun _=>by rw[IntKind.wrap_u64];omega) ?_;refine Fl (qn (s.take (i+1))) (hb:=fun _=>by rw[tt s i ae];unfold uy;rw[hv];rfl) ?_;refine di ?_;exact⟨i+1,⟨ae,h16,by rw[hr,aS ae,hz];rfl⟩,ae,(dy [])⟩
  refine di ?_;refine fP (fun hc3=>?_) fun hc3=>?_
  .refine aH ?_;have h256:=uW s i;have hz:nU (at8 s i)=true:=by simp only[nU,bp,cS,bG,aT];omega
   have hv:sk (at8 s i)=at8 s i-87:=by unfold sk;rw[ak (by simp only[bp,bG,aT];omega)]
   refine aH ?_;refine Fm (Ao (qn (s.take i)) 4) (hb:=fun _=>by rw[show min (Int.toNat (4:Int)) (IntKind.bits .u64)=4 by simp[IntKind.bits]];rfl) ?_;refine aH ?_;refine qa (at8 s i-97) (hb:=fun _=>IntWalk.u8_in _ ae) ?_;refine zU (at8 s i-87) (hb:=fun _=>by rw[show at8 s i-97+10=at8 s i-87 by omega];exact IntWalk.u8_in _ ae) ?_;refine oE (at8 s i-87) (hb:=fun _=>by rw[IntKind.wrap_u64];omega) ?_;refine Fl (qn (s.take (i+1))) (hb:=fun _=>by rw[tt s i ae];unfold uy;rw[hv];rfl) ?_;refine di ?_;exact⟨i+1,⟨ae,h16,by rw[hr,aS ae,hz];rfl⟩,ae,(dy [])⟩
  refine bU ?_;refine bI (aK (aj (D.int .u64) ?_) (aj D.bool ?_));all_goals
   have hz:nU (at8 s i)=false:=by simp only[nU,bp,dh,dR,bm];omega
   have:jQ s=false:=by rw[hr,aS ae,hz];rfl
   simp[qo,this]
 refine bU ?_;refine bI (aK (aj (D.int .u64) ?_) (aj D.bool ?_));all_goals
  have:jQ s=true:=by rw[hr,cq ae]
  have ht:s.take i=s:=ey ae;simp[qo,this,ht]
def yh (T:List D->D->Prop):Prop:=∀(s:au),T [.str s] (.tup [.int .u64 (qo s),.bool (jQ s)])
def W3 (Y:Ctx):Prop:=yh (bD Y 499)
def Bh:aE:=⟨1,18,[⟨1,some (5,true)⟩,⟨2,none⟩],[[.a,.a,.a,.a,.a],[.a]],(sq (rg [gb 5 (.c (.agg [.int .i64 0,.int .i64 0,.int .i64 0,.str [],.str []])),gm bx] [(1,0),(2,1)]) (sq (r1 [gb 5 (.c (.agg [.int .i64 0,.int .i64 0,.int .i64 0,.str [],.str []]))] 4 0) (sq (r1 [gm s0,gm l0] 3 1) (sq (r1 [gm s3,gx 675 [l0,(i8 43)] fA,gm l1,ge l2 0,ge l2 1,gf 4 s4,gt 1 l5 l3,gm l4] 3 7) (sq (r1 [gm s3,gx 675 [l0,(i8 45)] fA,gm l1,ge l2 0,ge l2 1,gf 3 s4,gt 1 l5 l3,gm l4] 3 7) (sq (r1 [gm s3,gx 533 [l0,(i8 46)] fA,gm l1] 5 2) (sq (sq (r1 [gm s5,gl l0,bO l1 kJ] 6 2) (.cond s6 (sq (r1 [gn (.build [.int .i64 0,.int .i64 0,.int .i64 0,.str [],.str []] []),gt 5 s1 l0,gm Hj] 2 2) .ret) .skip)) (sq (r1 [gb 3 (.c (.agg [.int .i64 0,.int .i64 0,.int .i64 0]))] 16 0) (sq (sq (rg [gm s5,gl l0,gm bx] [(10,0),(8,1),(7,2)]) (.block 0 (.loop (sq (r1 [aX s7 s8] 9 0) (sq (fC s9 0) (sq (.block 1 (sq (rg [gm s7,ga 1 ik s7,gd l1,gm l0,gm l2] [(14,3),(11,4)]) (sq (rg [gm jR,gx 658 [l0] b8,gm l1,ge l2 0,ge l2 1,gm l3,gm l4] [(15,5),(12,6)]) (sq (sq (r1 [gm kr,iY l0] 13 1) (.cond qb (sq (r1 [gn (.build [.int .i64 0,.int .i64 0,.int .i64 0,.str [],.str []] []),gt 5 s1 l0,gm Hj] 2 2) .ret) .skip)) (rg [gm tw,gm tx,gn (.iaP 3 1 AQ l0),gt 1 l2 l1] []))))) (r1 [az s7 cl,gm l0] 7 1))))))) (sq (rt [gn (.iaP 3 1 AQ bx),gd l0,gn (.iaP 3 1 AQ cl),gn (.ldI 1 false l2),gn (.iaP 3 1 AQ jC),gn (.ldI 1 false l4),gf 0 s4,gt 1 l6 l1,gf 1 s4,gt 1 l8 l3,gf 2 s4,gt 1 l10 l5] []) (sq (sq (r1 [gk 5 true s4,gx 209 [l0] xA,iY l1,gm l2,cn 3 (.ld 5 true s4),cn 3 (.call 451 [l4] xA),ek 3 s0,cn 3 (dS l5 l6),eW l3 l7] 17 8) (.cond DG (sq (r1 [gn (.build [.int .i64 0,.int .i64 0,.int .i64 0,.str [],.str []] []),gt 5 s1 l0,gm Hj] 2 2) .ret) .skip)) (sq (r1 [gk 5 true s4,gt 5 s1 l0,gm bx] 2 2) .ret))))))))))))⟩
def w466 (h209:GP Y)(h451:TH Y)(h533:Lg Y)(h658:Nr Y)(h675:Xk Y)(s:au)  (hp0:s.length<=1048576):dn Y Bh (.tup [cy.D ((gL s).getD gr),.int .i64 (oy s)]) [.str s]:=by
 show bP _ _ _ [⟨_,_⟩,_,_,_,_,_,_,_,_,_,_,_,_,_,_,_,_,_] _;have hb1:=kg s 43;have fA:=kg (aJ s 43).2 45;generalize hA:aJ s 43=A at hb1 fA;generalize hB:aJ A.2 45=B at fA;have hsl:=dd B.2 46;generalize hL:ai B.2 46=L at hsl;have hq0:gL s=if L.length=3/\fS L[0]! =true/\fS L[1]! =true/\fS L[2]! =true then(if fT ⟨ei L[0]!,ei L[1]!,ei L[2]!,B.1,A.1⟩=true/\oq ⟨ei L[0]!,ei L[1]!,ei L[2]!,B.1,A.1⟩=s then some ⟨ei L[0]!,ei L[1]!,ei L[2]!,B.1,A.1⟩else none)else none:=by subst hA;subst hB;subst hL;rfl
 refine aq ?_;refine hY ?_;refine ar (hc:=h675 s 43) ?_;rw[hA];refine aD ?_;refine aY (cy.D ⟨0,0,0,[],A.1⟩) (he:=aZ) ?_;refine aD ?_;refine ar (hc:=h675 A.2 45) ?_;rw[hB];refine aD ?_;refine aY (cy.D ⟨0,0,0,B.1,A.1⟩) (he:=aZ) ?_;refine aD ?_;refine ar (hc:=h533 B.2 46 ae) ?_;rw[hL];refine aG ?_;intro u0;refine ay ?_;refine cM (fun hc0=>?_) fun hc0=>?_
 .refine ay ?_;refine bA (cy.D gr) ?_;refine aD ?_;refine bI (aK ?_ (aj (D.int .i64) ?_));all_goals
   have hq:gL s=none:=by rw[hq0,ak (fun h=>by have:=h.1;omega)]
   simp only[oy,hq];rfl
 refine bU ?_;intro u1;refine ay ?_;refine bh hm (ι:=Nat) (fun i=>[⟨true,.str s⟩,⟨true,.ptr 0 5 0 0⟩,.un,.un,⟨true,.ptr 2 5 0 0⟩,.un,.un,⟨true,.int .i64 (i:Nat)⟩,⟨true,.int .i64 (L.length:Nat)⟩,.un,⟨true,.sl 1 (L.map D.str)⟩,.un,.un,.un,.un,.un,⟨true,.ptr 27 3 0 0⟩,.un]) (fun i=>[(0,.buf 5 [cy.D gr]),(2,.buf 5 [cy.D ⟨0,0,0,B.1,A.1⟩]),(27,.buf 3 [Ma L i])]) 31 (fun i=>i<=3/\∀j,j<i->fS L[j]! =true) (fun i=>3-i) 0 ⟨ae,fun j hj=>ae⟩ (dy [(0,0),(2,2),(27,27)]) ?_;rintro i ⟨hi,hr⟩;refine aA ?_;refine cM (fun hc1=>?_) fun hc1=>?_
 .refine fK ?_;refine ar (hc:=h658 L[i]!) ?_;refine fK ?_;refine av (fun hc2=>?_) (fun hc2=>?_)
  .simp only[bg]at hc2;refine ay ?_;refine bA (cy.D gr) ?_;refine aG ?_;refine bI (aK ?_ (aj (D.int .i64) ?_));all_goals
    have hq:gL s=none:=by
     rw[hq0,ak];rintro⟨_,h1,h2,h3⟩;rcases(show i=0\/i=1\/i=2 by omega)with rfl|rfl|rfl
     .rw[h1]at hc2;cases hc2
     .rw[h2]at hc2;cases hc2
     .rw[h3]at hc2;cases hc2
    simp only[oy,hq];rfl
  simp only[bN]at hc2;refine aD ?_;refine zV i ?_;refine aY (Ma L (i+1)) (he:=E7 L i ae) ?_;refine ba ?_;have hr2:∀j,j<i+1->fS L[j]! =true:=by
   intro j hj;rcases Nat.eq_or_lt_of_le (Nat.lt_succ_iff.1 hj)with rfl|h
   .exact hc2
   .exact hr j h
  exact⟨i+1,⟨ae,hr2⟩,ae,(dy [(0,0),(2,2),(27,27)])⟩
 refine ay ?_;refine fE 27 ?_;refine aH ?_;have h3:i=3:=ae;subst h3;refine HF 0 ?_;refine e8 (v:=.int .i64 (ei L[0]!)) ?_;refine HF 1 ?_;refine Dl (v:=.int .i64 (ei L[1]!)) ?_;refine HF 2 ?_;refine Dl (v:=.int .i64 (ei L[2]!)) ?_;refine aH ?_;refine aY (cy.D ⟨ei L[0]!,0,0,B.1,A.1⟩) (he:=aZ) ?_;refine aH ?_;refine aY (cy.D ⟨ei L[0]!,ei L[1]!,0,B.1,A.1⟩) (he:=aZ) ?_;refine aH ?_;refine aY (cy.D ⟨ei L[0]!,ei L[1]!,ei L[2]!,B.1,A.1⟩) (he:=aZ) ?_;refine aA ?_;have hsm:cy.sm ⟨ei L[0]!,ei L[1]!,ei L[2]!,B.1,A.1⟩:=⟨by simp only;omega,by simp only;omega⟩;generalize hV:(⟨ei L[0]!,ei L[1]!,ei L[2]!,B.1,A.1⟩:cy)=V at hsm hq0⊢;refine aH ?_;refine ar (hc:=h209 V hsm) ?_;refine aA ?_;refine dm (hc:=fun _=>h451 V hsm) ?_;refine aD ?_;refine av (fun hc3=>?_) (fun hc3=>?_)
 .simp only[cS,bg,bm]at hc3;refine ay ?_;refine bA (cy.D gr) ?_;refine aD ?_;refine bI (aK ?_ (aj (D.int .i64) ?_));all_goals
   have hq:gL s=none:=by
    rw[hq0];split
    .rw[ak];rintro⟨h1,h2⟩;rcases hc3 with h|h
     .rw[h1]at h;cases h
     .exact h h2
    .rfl
   simp only[oy,hq];rfl
 simp only[dh,bN,aT]at hc3;refine ba ?_;refine bI (aK ?_ (aj (D.int .i64) ?_));all_goals
  have hq:gL s=some V:=by
   rw[hq0,aw ⟨ae,hr 0 ae,hr 1 ae,hr 2 ae⟩,aw hc3]
  simp only[oy,hq];rfl
def yg (T:List D->D->Prop):Prop:=∀(s:au),(s.length<=1048576)->T [.str s] (.tup [cy.D ((gL s).getD gr),.int .i64 (oy s)])
def WW (Y:Ctx):Prop:=yg (bD Y 466)
def HM:aE:=⟨2,6,[⟨2,none⟩],b8,(sq (r1 [gm bx] 2 0) (sq (sq (r1 [gm bx] 3 0) (.block 0 (.loop (sq (sq (r1 [gm s3,gm s0,gl l1,aX l0 l2] 4 3) (fC s4 0)) (sq (.block 1 (sq (r1 [gm s0,gm s3,ga 2 l0 l1,gf 0 l2,gd l3,gm s1,aL l4 l5] 5 6) (.cond s5 (sq (r1 [gm s3,gm l0] 2 1) .ret) .skip))) (r1 [gm s3,az l0 cl,gm l1] 3 2)))))) (sq (r1 [gn (.mv (.c (.int .i64 (-1))))] 2 0) .ret)))⟩
def w955  (l:List cv)(nm:au)   :dn Y HM (.int .i64 (findF l nm 0)) [.sl 2 (l.map cv.D),.str nm]:=by
 show bP _ _ _ [⟨_,_⟩,⟨_,_⟩,_,_,_,_] _;refine aq ?_;refine aG ?_;refine bh hm (ι:=Nat) (fun i=>[⟨true,.sl 2 (l.map cv.D)⟩,⟨true,.str nm⟩,.un,⟨true,.int .i64 (i:Nat)⟩,.un,.un]) (fun i=>[]) 2 (fun i=>i<=l.length/\findF l nm 0=findF l nm i) (fun i=>l.length-i) 0 ⟨ae,rfl⟩ (dy []) ?_;rintro i ⟨hi,hr⟩;refine aI ?_;intro u0;refine ay ?_;refine cM (fun hc0=>?_) fun hc0=>?_
 .refine fK ?_;refine fP (fun hc1=>?_) fun hc1=>?_
  .refine ba ?_;refine c8 ?_;rw[hr,ED ae hc1]
  refine bU ?_;exact⟨i+1,⟨ae,by rw[hr,EE ae hc1]⟩,ae,(dy [])⟩
 refine aG ?_;refine c8 ?_;rw[hr,BA ae]
def yD (T:List D->D->Prop):Prop:=∀(l:List cv) (nm:au),T [.sl 2 (l.map cv.D),.str nm] (.int .i64 (findF l nm 0))
def XO (Y:Ctx):Prop:=yD (bD Y 955)
def CZ:aE:=⟨2,10,[⟨2,none⟩],b8,(sq (r1 [gm bx] 2 0) (sq (sq (rg [gm s0,gl l0,gm bx] [(6,0),(4,1),(3,2)]) (.block 0 (.loop (sq (r1 [aX s3 s4] 5 0) (sq (fC s5 0) (sq (.block 1 (sq (rg [gm s3,ga 2 s6 s3,gk 2 true l1,gb 2 (.c (.agg [.str [],.aF])),gm l0,gt 2 l3 l2] [(7,3),(9,4)]) (sq (r1 [gf 0 s7,gd l0,gm s1,aL l1 l2] 8 3) (.cond s8 (sq (r1 [gm s9,gm l0] 2 1) .ret) .skip)))) (r1 [az s3 cl,gm l0] 3 1))))))) (sq (r1 [gn (.mv (.c (.int .i64 (-1))))] 2 0) .ret)))⟩
def w663  (l:List cv)(nm:au)   :dn Y CZ (.int .i64 (findF l nm 0)) [.sl 2 (l.map cv.D),.str nm]:=by
 show bP _ _ _ [⟨_,_⟩,⟨_,_⟩,_,_,_,_,_,_,_,_] _;refine aq ?_;refine aG ?_;intro u0;refine ay ?_;refine bh hm (ι:=Nat) (fun i=>[⟨true,.sl 2 (l.map cv.D)⟩,⟨true,.str nm⟩,.un,⟨true,.int .i64 (i:Nat)⟩,⟨true,.int .i64 (l.length:Nat)⟩,.un,⟨true,.sl 2 (l.map cv.D)⟩,.un,.un,.un]) (fun i=>[]) 4 (fun i=>i<=l.length/\findF l nm 0=findF l nm i) (fun i=>l.length-i) 0 ⟨ae,rfl⟩ (dy []) ?_;rintro i ⟨hi,hr⟩;refine aA ?_;refine cM (fun hc0=>?_) fun hc0=>?_
 .refine aI ?_;first|refine bH (v:=(cv.D _)) ?_|refine e8 (v:=(cv.D _)) ?_
  refine ay ?_;refine aY (cv.D l[i]!) (he:=aZ) ?_;refine ba ?_;refine fP (fun hc1=>?_) fun hc1=>?_
  .refine ba ?_;refine c8 ?_;rw[hr,ED ae hc1]
  refine ba ?_;exact⟨i+1,⟨ae,by rw[hr,EE ae hc1]⟩,ae,(dy [])⟩
 refine aG ?_;refine c8 ?_;rw[hr,BA ae]
def Xe (Y:Ctx):Prop:=yD (bD Y 663)
def PJ:aE:=⟨2,3,[⟨2,none⟩],b8,(sq (r1 [gm cZ] 2 0) (sq (r1 [gm s1,aL l0 (cs [100,101,102,97,117,108,116]),gm l1,ek 2 s0,ek 2 s1,cn 2 (.call 955 [l3,l4] [[.sl 2 [.a,.sl 1 [.a]]],[.a]]),cn 2 (tN l5 bx),eW l2 l6,gm l7] 2 8) .ret))⟩
def w816 {Y:Ctx}(hm:(Y.at 0).cj)(h955:XO Y)(l:List cv)(nm:au)   :dn Y PJ (.bool (isF l nm)) [.sl 2 (l.map cv.D),.str nm]:=by
 show bP _ _ _ [⟨_,_⟩,⟨_,_⟩,_] _;refine aq ?_;refine bU ?_;refine ar (hc:=h955 _ _) ?_;refine aI ?_;exact bX rfl
def yA (T:List D->D->Prop):Prop:=∀(l:List cv) (nm:au),T [.sl 2 (l.map cv.D),.str nm] (.bool (isF l nm))
def XG (Y:Ctx):Prop:=yA (bD Y 816)
def AZ:aE:=⟨2,3,[⟨2,none⟩],b8,(sq (r1 [gm cZ] 2 0) (sq (r1 [gm s1,aL l0 (cs [100,101,102,97,117,108,116]),gm l1,ek 2 s0,ek 2 s1,cn 2 (.call 663 [l3,l4] [[.sl 2 [.a,.sl 1 [.a]]],[.a]]),cn 2 (tN l5 bx),eW l2 l6,gm l7] 2 8) .ret))⟩
def w449 {Y:Ctx}(hm:(Y.at 0).cj)(h663:Xe Y)(l:List cv)(nm:au)   :dn Y AZ (.bool (isF l nm)) [.sl 2 (l.map cv.D),.str nm]:=by
 show bP _ _ _ [⟨_,_⟩,⟨_,_⟩,_] _;refine aq ?_;refine bU ?_;refine ar (hc:=h663 _ _) ?_;refine aI ?_;exact bX rfl
def WK (Y:Ctx):Prop:=yA (bD Y 449)
def HN:aE:=⟨1,8,[⟨1,none⟩,⟨2,none⟩,⟨3,none⟩],QF,(sq (rg [gm bx,gm cse,gm cse] [(1,0),(2,1),(3,2)]) (sq (sq (r1 [gm s0,gx 357 [l0] b8] 4 1) (.cond s4 (sq (rg [gm s0,gm cl,gm l0,gm cse] [(1,1),(2,2),(3,3)]) .ret) .skip)) (sq (sq (r1 [gm s0,ov l0,dj l1 bx,gm l2,gmt 3 s0,cr 3 (.ixS l4 bx),cr 3 (cV l5 (i8 63)),eX l3 l6,gm l7,gmt 8 s0,cr 8 (.slS l9 (some cl) none),cr 8 (.call 357 [l10] b8),eX l8 fZ] 5 12) (.cond s5 (sq (rt [gm s0,gn (.slS l0 (some cl) none),gm jC,gm l1,gm cse] [(1,2),(2,3),(3,4)]) .ret) .skip)) (sq (r1 [gm s0,gx 470 [l0,(i8 47)] fA,gm l1] 6 2) (sq (sq (r1 [gm s6,gl l0,aL l1 jC,gm l2,gmt 3 s6,cr 3 (.ia 1 l4 bx),jM 3 l5,cr 3 (.call 216 [l6] b8),eX l3 l7,gm l8,gmt 9 s6,cr 9 (.ia 1 l10 cl),jM 9 fZ,cr 9 (.call 357 [iv] b8),eX l9 jr] 7 14) (.cond s7 (sq (rt [gm s6,ga 1 l0 bx,gd l1,gm s6,ga 1 l3 cl,gd l4,gm kJ,gm l2,gm l5] [(1,6),(2,7),(3,8)]) .ret) .skip)) (sq (rg [gm bx,gm cse,gm cse] [(1,0),(2,1),(3,2)]) .ret))))))⟩
def w672 {Y:Ctx}(hm:(Y.at 0).cj)(h216:Lb Y)(h357:GS Y)(h470:sI Y)(s:au)  (hp0:s.length<=1048576):dn Y HN (.tup [.int .i64 (dU s).1,.str (dU s).2.1,.str (dU s).2.2]) [.str s]:=by
 show bP _ _ _ [⟨_,_⟩,_,_,_,_,_,_,_] _;refine aq ?_;refine ba ?_;refine ar (hc:=h357 _) ?_;refine aH ?_;refine cM (fun hc0=>?_) fun hc0=>?_
 .refine bU ?_;refine bI (dc (aj (D.int .i64) ?_) (aj D.str ?_) (aj D.str ?_));all_goals rw[I3 hc0]
 refine aI ?_;intro u0;refine aA ?_;refine pA 0 ?_;refine aD ?_;refine fI 1 (hb:=fun h=>by simp at h;omega) ?_;refine ar (hc:=h357 _) ?_;refine ay ?_;refine cM (fun hc1=>?_) fun hc1=>?_
 .refine aA ?_;refine fI 1 (hb:=fun h=>ae) ?_;refine aI ?_;refine bI (dc (aj (D.int .i64) ?_) (aj D.str ?_) (aj D.str ?_));all_goals rw[I4 hc0 hc1]
 refine aA ?_;refine ar (hc:=h470 _ _ ?_) ?_;rotate_left;first|assumption|omega
 refine aG ?_;intro u1;refine aA ?_;refine bL 0 ?_;refine aH ?_;refine ar (hc:=h216 _) ?_;refine aA ?_;refine bL 1 ?_;refine aH ?_;refine ar (hc:=h357 _) ?_;refine ay ?_;refine cM (fun hc2=>?_) fun hc2=>?_
 .refine aA ?_;refine bL 0 ?_;refine ay ?_;refine bL 1 ?_;refine aG ?_;refine bI (dc (aj (D.int .i64) ?_) (aj D.str ?_) (aj D.str ?_));all_goals rw[I5 hc0 hc1 hc2]
 refine ba ?_;refine bI (dc (aj (D.int .i64) ?_) (aj D.str ?_) (aj D.str ?_));all_goals rw[I2 hc0 hc1 hc2]
def yr (T:List D->D->Prop):Prop:=∀(s:au),(s.length<=1048576)->T [.str s] (.tup [.int .i64 (dU s).1,.str (dU s).2.1,.str (dU s).2.2])
def T2 (Y:Ctx):Prop:=yr (bD Y 672)
def FB:aE:=⟨2,9,[⟨2,none⟩],b8,(sq (r1 [gm cZ] 2 0) (sq (sq (r1 [gm s1,gl l0,dj l1 xB,gm l2,ek 3 s1,cn 3 (.call 815 [l4] [[.sl 1 [.a]]]),cn 3 (.un .not l5),eW l3 l6] 3 7) (.cond s3 (sq (r1 [gm cZ] 2 0) .ret) .skip)) (sq (sq (r1 [gm bx] 4 0) (.block 0 (.loop (sq (sq (r1 [gm s4,gm s1,gl l1,aX l0 l2] 5 3) (fC s5 0)) (sq (.block 1 (sq (rg [gm s1,gm s4,ga 1 l0 l1,gd l2,gx 672 [l3] b8,gm l4,ge l5 0,ge l5 1,ge l5 2,gm l6,gm l7,gm l8] [(6,9),(7,10)]) (sq (r1 [gm s6,aL l0 bx,gm l1,ek 2 s6,cn 2 (cV l3 cl),ek 2 l4,gmt 5 s0,gmt 5 s7,cr 5 (.call 816 [l6,l7] [[.sl 2 [.a,.sl 1 [.a]]],[.a]]),cr 5 (.un .not l8),zf 2 l5 l9,eW l2 l10] 8 11) (.cond s8 (sq (r1 [gm cZ] 2 0) .ret) .skip)))) (r1 [gm s4,az l0 cl,gm l1] 4 2)))))) (sq (r1 [gm m5] 2 0) .ret))))⟩
def w671 (h672:T2 Y)(h815:T7 Y)(h816:XG Y)(l:List cv)(of:List au)  (hp0:∀t∈of,t.length<=1048576):dn Y FB (.bool (mP l of)) [.sl 2 (l.map cv.D),.sl 1 (of.map D.str)]:=by
 show bP _ _ _ [⟨_,_⟩,⟨_,_⟩,_,_,_,_,_,_,_] _;refine aq ?_;refine aG ?_;intro u0;refine aA ?_;refine ar (hc:=h815 _) ?_;refine aA ?_;refine av (fun hc0=>?_) (fun hc0=>?_)
 .simp only[cS,aT,bg]at hc0;refine aI ?_;refine bX ?_;symm;simp only[mP];rcases hc0 with h|h
  .rw[cJ ae];rfl
  .rw[h,Bool.and_false];rfl
 simp only[dh,bm,bN]at hc0;refine aI ?_;have hb:mP l of=cQ (fun i=>lG l of[i]!) 0 of.length:=by simp only[mP,hc0.2];rw[b9 ae];rfl
 refine bh hm (ι:=Nat) (fun i=>[⟨true,.sl 2 (l.map cv.D)⟩,⟨true,.sl 1 (of.map D.str)⟩,.un,.un,⟨true,.int .i64 (i:Nat)⟩,.un,.un,.un,.un]) (fun i=>[]) 10 (fun i=>i<=of.length/\mP l of=cQ (fun i=>lG l of[i]!) i of.length) (fun i=>of.length-i) 0 ⟨ae,hb⟩ (dy []) ?_;rintro i ⟨hi,hr⟩;refine aI ?_;intro u1;refine ay ?_;refine cM (fun hc1=>?_) fun hc1=>?_
 .refine ba ?_;refine ar (hc:=h672 of[i]! (hp0 _ (bR ae))) ?_;refine AL ?_;refine ar (hc:=h816 _ _) ?_;refine aD ?_;refine wp_cond (fun hc2=>?_) (fun hc2=>?_)
  .have hz:lG l of[i]! =false:=by simp only[lG,hc2];rfl
   refine aG ?_;refine bX ?_;rw[hr,aS ae,hz];rfl
  have hz:lG l of[i]! =true:=by simp only[lG,hc2];rfl
  refine bU ?_;exact⟨i+1,⟨ae,by rw[hr,aS ae,hz];rfl⟩,ae,(dy [])⟩
 refine aG ?_;refine bX ?_;rw[hr,cq ae]
def KJ (T:List D->D->Prop):Prop:=∀(l:List cv) (of:List au),(∀t∈of,t.length<=1048576)->T [.sl 2 (l.map cv.D),.sl 1 (of.map D.str)] (.bool (mP l of))
def Xh (Y:Ctx):Prop:=KJ (bD Y 671)
def Mr:aE:=⟨1,6,ib,b8,(sq (r1 [gm cZ] 1 0) (sq (sq (r1 [gm s0,gl l0,dj l1 EP] 2 2) (m8 s2 cZ)) (sq (sq (r1 [gm bx] 3 0) (.block 0 (.loop (sq (sq (r1 [gm s3,gm s0,gl l1,aX l0 l2] 4 3) (fC s4 0)) (sq (.block 1 (sq (r2 [gm s0,gm s3,ga 2 l0 l1,gf 0 l2,gd l3,gx 357 [l4] b8,iY l5,gm l6,ek 7 s3,cn 7 (eG l8 bx),ek 7 l9,gmt 10 s0,gmt 10 s3,cr 10 (jK iv cl),cr 10 (.ia 2 fZ jr),kn 10 0 jT,jM 10 lg,gmt 10 s0,gmt 10 s3,cr 10 (.ia 2 oU pL),kn 10 0 qx,jM 10 uN,cr 10 (tN nw xc),zf 7 l10 zm,eW l7 C6,gm D5,ek 25 s0,ek 25 s0,ek 25 s3,cn 25 (.ia 2 QG S8),ig 25 1 S9,hZ 25 VY,cn 25 (.call 671 [Ng,Zx] [[.sl 2 [.a,.sl 1 [.a]]],[.sl 1 [.a]]]),cn 25 (.un .not Zy),eW GM l33] 5 34) (m8 s5 cZ))) (r1 [gm s3,az l0 cl,gm l1] 3 2)))))) (xz m5))))⟩
def w459 (h357:GS Y)(h671:Xh Y)(l:List cv)  (hp0:xx l):dn Y Mr (.bool (jh l)) [.sl 2 (l.map cv.D)]:=by
 show bP _ _ _ [⟨_,_⟩,_,_,_,_,_] _;refine aq ?_;refine aG ?_;intro u0;refine ay ?_;refine cM (fun hc0=>?_) fun hc0=>?_
 .refine aI ?_;refine bX ?_;symm;simp only[jh];rw[cJ ae];rfl
 refine aI ?_;have hb:jh l=cQ (jZ l) 0 l.length:=by simp only[jh];rw[b9 ae];rfl
 refine bh hm (ι:=Nat) (fun i=>[⟨true,.sl 2 (l.map cv.D)⟩,.un,.un,⟨true,.int .i64 (i:Nat)⟩,.un,.un]) (fun i=>[]) 5 (fun i=>i<=l.length/\jh l=cQ (jZ l) i l.length) (fun i=>l.length-i) 0 ⟨ae,hb⟩ (dy []) ?_;rintro i ⟨hi,hr⟩;refine aI ?_;intro u1;refine ay ?_;refine cM (fun hc1=>?_) fun hc1=>?_
 .refine bU ?_;refine ar (hc:=h357 _) ?_;refine bU ?_;refine bL (i-1) ?_;refine AL ?_;refine ar (hc:=h671 l l[i]!.of (hp0 _ (bR ae)).2.2) ?_;refine aA ?_;refine fP (fun hc2=>?_) fun hc2=>?_
  .refine aG ?_;refine bX ?_;have hz:jZ l i=false:=by
    simp only[jZ];revert hc2;generalize c9 l[i]!.name=z0;generalize Op.bytesLess l[i-1]!.name l[i]!.name=z1;generalize mP l l[i]!.of=z2;by_cases e0:0<i<;>cases z0<;>cases z1<;>cases z2<;>simp_all
   rw[hr,aS ae,hz];rfl
  refine bU ?_;have hz:jZ l i=true:=by
   simp only[jZ];revert hc2;generalize c9 l[i]!.name=z0;generalize Op.bytesLess l[i-1]!.name l[i]!.name=z1;generalize mP l l[i]!.of=z2;by_cases e0:0<i<;>cases z0<;>cases z1<;>cases z2<;>simp_all
  exact⟨i+1,⟨ae,by rw[hr,aS ae,hz];rfl⟩,ae,(dy [])⟩
 refine aG ?_;refine bX ?_;rw[hr,cq ae]
def yf (T:List D->D->Prop):Prop:=∀(l:List cv),(xx l)->T [.sl 2 (l.map cv.D)] (.bool (jh l))
def WQ (Y:Ctx):Prop:=yf (bD Y 459)
def C0:aE:=⟨1,12,[⟨1,none⟩,⟨2,none⟩,⟨3,none⟩],QF,(sq (rg [gm bx,gm cse,gm cse] [(1,0),(2,1),(3,2)]) (sq (sq (r1 [gm s0,gx 349 [l0] b8] 4 1) (.cond s4 (sq (rg [gm s0,gm cl,gm l0,gm cse] [(1,1),(2,2),(3,3)]) .ret) .skip)) (sq (sq (rg [gm s0,gx 254 [l0,(cs [63])] fA,gm l1,ge l2 0,ge l2 1,gm l3,gm l4] [(6,5),(5,6)]) (sq (r1 [gm s5,gm l0,gmt 1 s6,cr 1 (.call 349 [l2] b8),eX l1 l3] 7 4) (.cond s7 (sq (rg [gm s6,gm jC,gm l0,gm cse] [(1,1),(2,2),(3,3)]) .ret) .skip))) (sq (sq (rg [gm s0,gx 487 [l0,(cs [47])] fA,gm l1,ge l2 0,ge l2 1,ge l2 2,gm l3,gm l4,gm l5] [(9,6),(10,7),(8,8)]) (sq (r1 [gm s8,gm l0,gmt 1 s9,cr 1 (.call 208 [l2] b8),eX l1 l3,gm l4,gmt 5 ik,cr 5 (.call 349 [l6] b8),eX l5 l7] 11 8) (.cond jR (sq (rg [gm s9,gm ik,gm kJ,gm l0,gm l1] [(1,2),(2,3),(3,4)]) .ret) .skip))) (sq (rg [gm bx,gm cse,gm cse] [(1,0),(2,1),(3,2)]) .ret)))))⟩
def w448 {Y:Ctx}(hm:(Y.at 0).cj)(h208:La Y)(h254:TB Y)(h349:GR Y)(h487:TQ Y)(s:au)  (hp0:s.length<=1048576):dn Y C0 (.tup [.int .i64 (dU s).1,.str (dU s).2.1,.str (dU s).2.2]) [.str s]:=by
 show bP _ _ _ [⟨_,_⟩,_,_,_,_,_,_,_,_,_,_,_] _;refine aq ?_;refine ba ?_;refine ar (hc:=h349 _) ?_;refine aH ?_;refine cM (fun hc0=>?_) fun hc0=>?_
 .refine bU ?_;refine bI (dc (aj (D.int .i64) ?_) (aj D.str ?_) (aj D.str ?_));all_goals rw[I3 hc0]
 refine aD ?_;refine ar (hc:=h254 s [63] hp0 aM) ?_;refine fK ?_;refine ar (hc:=h349 _) ?_;refine ay ?_;refine cM (fun hc1=>?_) fun hc1=>?_
 .refine bU ?_;refine bI (dc (aj (D.int .i64) ?_) (aj D.str ?_) (aj D.str ?_));all_goals rw[RH hc0 hc1]
 refine aD ?_;refine ar (hc:=h487 s 47 hp0) ?_;refine lA ?_;refine ar (hc:=h208 _) ?_;refine aA ?_;refine ar (hc:=h349 _) ?_;refine ay ?_;refine cM (fun hc2=>?_) fun hc2=>?_
 .refine di ?_;refine bI (dc (aj (D.int .i64) ?_) (aj D.str ?_) (aj D.str ?_));all_goals rw[RI hc0 hc1 hc2]
 refine ba ?_;refine bI (dc (aj (D.int .i64) ?_) (aj D.str ?_) (aj D.str ?_));all_goals rw[RG hc0 hc1 hc2]
def TF (Y:Ctx):Prop:=yr (bD Y 448)
def EB:aE:=⟨1,18,ib,b8,(sq (r1 [gm cZ] 1 0) (sq (sq (r1 [gm s0,gl l0,dj l1 EP] 2 2) (m8 s2 cZ)) (sq (sq (rg [gm s0,gl l0,gm bx] [(6,0),(4,1),(3,2)]) (.block 0 (.loop (sq (r1 [aX s3 s4] 5 0) (sq (fC s5 0) (sq (.block 1 (sq (rg [gm s3,ga 2 s6 s3,gk 2 true l1,gb 2 (.c (.agg [.str [],.aF])),gm l0,gt 2 l3 l2] [(7,3),(8,4)]) (sq (sq (r2 [gf 0 s7,gd l0,gx 349 [l1] b8,iY l2,gm l3,ek 4 s8,cn 4 (eG l5 bx),ek 4 l6,gmt 7 s0,gmt 7 s8,cr 7 (jK l9 cl),cr 7 (.ia 2 l8 l10),kn 7 0 fZ,jM 7 iv,kn 7 0 s7,jM 7 jT,cr 7 (tN jr lg),zf 4 l7 nw,eW l4 oU,gm pL,ig 19 1 s7,hZ 19 uN,cn 19 (.len xc),cn 19 (eG zm xB),eW qx C6,gm D5,ig 25 1 s7,hZ 25 Ng,cn 25 (.call 447 [QG] [[.sl 1 [.a]]]),cn 25 (.un .not S8),eW GM S9] 9 30) (m8 s9 cZ)) (sq (rg [gf 1 s7,gd l0,gl l1,gm bx] [(13,1),(11,2),(10,3)]) (.block 2 (.loop (sq (r1 [aX ik jR] 12 0) (sq (fC kr 2) (sq (.block 3 (sq (r1 [ga 1 qb ik,gd l0,gm l1] 14 2) (sq (rg [gm tw,gx 448 [l0] b8,gm l1,ge l2 0,ge l2 1,ge l2 2,gm l3,gm l4,gm l5] [(15,6),(16,7)]) (sq (r1 [gm tx,aL l0 bx,gm l1,ek 2 tx,cn 2 (cV l3 cl),ek 2 l4,gmt 5 s0,gmt 5 AQ,cr 5 (.call 449 [l6,l7] [[.sl 2 [.a,.sl 1 [.a]]],[.a]]),cr 5 (.un .not l8),zf 2 l5 l9,eW l2 l10] 17 11) (m8 DG cZ))))) (r1 [az ik cl,gm l0] 10 1)))))))))) (r1 [az s3 cl,gm l0] 3 1))))))) (xz m5))))⟩
def w213 (h349:GR Y)(h447:WJ Y)(h448:TF Y)(h449:WK Y)(l:List cv)  (hp0:xx l):dn Y EB (.bool (jh l)) [.sl 2 (l.map cv.D)]:=by
 show bP _ _ _ [⟨_,_⟩,_,_,_,_,_,_,_,_,_,_,_,_,_,_,_,_,_] _;refine aq ?_;refine aG ?_;intro u0;refine ay ?_;refine cM (fun hc0=>?_) fun hc0=>?_
 .refine aI ?_;refine bX ?_;symm;simp only[jh];rw[cJ ae];rfl
 refine aI ?_;intro u1;refine ay ?_;have hb:jh l=cQ (jZ l) 0 l.length:=by simp only[jh];rw[b9 ae];rfl
 refine bh hm (ι:=Nat) (fun i=>[⟨true,.sl 2 (l.map cv.D)⟩,.un,.un,⟨true,.int .i64 (i:Nat)⟩,⟨true,.int .i64 (l.length:Nat)⟩,.un,⟨true,.sl 2 (l.map cv.D)⟩,.un,.un,.un,.un,.un,.un,.un,.un,.un,.un,.un]) (fun i=>[]) 7 (fun i=>i<=l.length/\jh l=cQ (jZ l) i l.length) (fun i=>l.length-i) 0 ⟨ae,hb⟩ (dy []) ?_;rintro i ⟨hi,hr⟩;refine aA ?_;refine cM (fun hc1=>?_) fun hc1=>?_
 .refine aI ?_;first|refine bH (v:=(cv.D _)) ?_|refine e8 (v:=(cv.D _)) ?_
  refine ay ?_;refine aY (cv.D l[i]!) (he:=aZ) ?_;refine aI ?_;refine ar (hc:=h349 _) ?_;refine bU ?_;refine bL (i-1) ?_;refine gv ?_;refine iJ ?_;refine aI ?_;refine ar (hc:=h447 _) ?_;refine aA ?_;refine av (fun hc2=>?_) (fun hc2=>?_)
  .have hfo:=LJ hc2;refine ba ?_;refine bX ?_;rw[hr,aS ae,hfo];rfl
  have hfo:=LK hc2;refine aI ?_;intro u2;refine ay ?_;refine qi hm (ι:=Nat) (fun j=>[⟨true,.sl 2 (l.map cv.D)⟩,.un,.un,⟨true,.int .i64 (i:Nat)⟩,⟨true,.int .i64 (l.length:Nat)⟩,.un,⟨true,.sl 2 (l.map cv.D)⟩,.un,.un,.un,⟨true,.int .i64 (j:Nat)⟩,⟨true,.int .i64 (l[i]!.of.length:Nat)⟩,.un,⟨true,.sl 1 (l[i]!.of.map D.str)⟩,.un,.un,.un,.un]) (fun j=>[]) 49 (fun j=>j<=l[i]!.of.length/\jZ l i=cQ (fun j=>lG l l[i]!.of[j]!) j l[i]!.of.length) (fun j=>l[i]!.of.length-j) 0 ⟨ae,hfo⟩ (dy []) ?_;rintro j ⟨hj,hjr⟩;refine aA ?_;refine cM (fun hc3=>?_) fun hc3=>?_
  .refine di ?_;refine ar (hc:=h448 l[i]!.of[j]! ((hp0 _ (bR ae)).2.2 _ (bR ae))) ?_;refine AL ?_;refine ar (hc:=h449 _ _) ?_;refine aD ?_;refine wp_cond (fun hc4=>?_) (fun hc4=>?_)
   .have hz:lG l l[i]!.of[j]! =false:=by simp only[lG,hc4];rfl
    refine bU ?_;refine bX ?_;rw[hr,aS ae,hjr,aS ae,hz];rfl
   have hz:lG l l[i]!.of[j]! =true:=by simp only[lG,hc4];rfl
   refine ba ?_;exact⟨j+1,⟨ae,by rw[hjr,aS ae,hz];rfl⟩,ae,(dy [])⟩
  refine bU ?_;exact⟨i+1,⟨ae,by rw[hr,aS ae,hjr,cq ae];rfl⟩,ae,(dy [])⟩
 refine aG ?_;refine bX ?_;rw[hr,cq ae]
def Wc (Y:Ctx):Prop:=yf (bD Y 213)
def MC:aE:=⟨1,11,ib,b8,(sq (r1 [gm cse] 1 0) (sq (sq (r1 [gm s0] 2 0) (.block 0 (sq (r1 [aL s2 cl,gm l0] 3 1) (.cond s3 (sq (r1 [gm (cs [61])] 1 0) .ret) (sq (r1 [aL s2 jC,gm l0] 4 1) (.cond s4 (sq (r1 [gm (cs [33,61])] 1 0) .ret) (sq (r1 [aL s2 kJ,gm l0] 5 1) (.cond s5 (sq (r1 [gm (cs [60])] 1 0) .ret) (sq (r1 [aL s2 wC,gm l0] 6 1) (.cond s6 (sq (r1 [gm (cs [60,61])] 1 0) .ret) (sq (r1 [aL s2 Hj,gm l0] 7 1) (.cond s7 (sq (r1 [gm (cs [62])] 1 0) .ret) (sq (r1 [aL s2 xB,gm l0] 8 1) (.cond s8 (sq (r1 [gm (cs [62,61])] 1 0) .ret) (sq (r1 [aL s2 Nf,gm l0] 9 1) (.cond s9 (sq (r1 [gm (cs [94])] 1 0) .ret) (sq (r1 [aL s2 EP,gm l0] 10 1) (.cond ik (sq (r1 [gm (cs [126])] 1 0) .ret) .skip)))))))))))))))))) (xz cse)))⟩
def w678 {Y:Ctx}(hm:(Y.at 0).cj)  (op:Int)   :dn Y MC (.str (dG op)) [.int .i64 op]:=by
 show bP _ _ _ [⟨_,_⟩,_,_,_,_,_,_,_,_,_,_] _;refine aq ?_;refine fK ?_;refine fP (fun hc0=>?_) fun hc0=>?_
 .refine aI ?_;refine df ?_;unfold dG;simp_all
 refine aD ?_;refine fP (fun hc1=>?_) fun hc1=>?_
 .refine aI ?_;refine df ?_;unfold dG;simp_all
 refine aD ?_;refine fP (fun hc2=>?_) fun hc2=>?_
 .refine aI ?_;refine df ?_;unfold dG;simp_all
 refine aD ?_;refine fP (fun hc3=>?_) fun hc3=>?_
 .refine aI ?_;refine df ?_;unfold dG;simp_all
 refine aD ?_;refine fP (fun hc4=>?_) fun hc4=>?_
 .refine aI ?_;refine df ?_;unfold dG;simp_all
 refine aD ?_;refine fP (fun hc5=>?_) fun hc5=>?_
 .refine aI ?_;refine df ?_;unfold dG;simp_all
 refine aD ?_;refine fP (fun hc6=>?_) fun hc6=>?_
 .refine aI ?_;refine df ?_;unfold dG;simp_all
 refine aD ?_;refine fP (fun hc7=>?_) fun hc7=>?_
 .refine aI ?_;refine df ?_;unfold dG;simp_all
 refine aG ?_;refine df ?_;unfold dG;simp_all
def yu (T:List D->D->Prop):Prop:=∀(op:Int),T [.int .i64 op] (.str (dG op))
def T5 (Y:Ctx):Prop:=yu (bD Y 678)
def LC:aE:=⟨1,11,ib,b8,(sq (r1 [gm cse] 1 0) (sq (sq (r1 [gm s0] 2 0) (.block 0 (sq (r1 [aL s2 cl,gm l0] 3 1) (.cond s3 (sq (r1 [gm (cs [61])] 1 0) .ret) (sq (r1 [aL s2 jC,gm l0] 4 1) (.cond s4 (sq (r1 [gm (cs [33,61])] 1 0) .ret) (sq (r1 [aL s2 kJ,gm l0] 5 1) (.cond s5 (sq (r1 [gm (cs [60])] 1 0) .ret) (sq (r1 [aL s2 wC,gm l0] 6 1) (.cond s6 (sq (r1 [gm (cs [60,61])] 1 0) .ret) (sq (r1 [aL s2 Hj,gm l0] 7 1) (.cond s7 (sq (r1 [gm (cs [62])] 1 0) .ret) (sq (r1 [aL s2 xB,gm l0] 8 1) (.cond s8 (sq (r1 [gm (cs [62,61])] 1 0) .ret) (sq (r1 [aL s2 Nf,gm l0] 9 1) (.cond s9 (sq (r1 [gm (cs [94])] 1 0) .ret) (sq (r1 [aL s2 EP,gm l0] 10 1) (.cond ik (sq (r1 [gm (cs [126])] 1 0) .ret) .skip)))))))))))))))))) (xz cse)))⟩
def w957 {Y:Ctx}(hm:(Y.at 0).cj)  (op:Int)   :dn Y LC (.str (dG op)) [.int .i64 op]:=by
 show bP _ _ _ [⟨_,_⟩,_,_,_,_,_,_,_,_,_,_] _;refine aq ?_;refine fK ?_;refine fP (fun hc0=>?_) fun hc0=>?_
 .refine aI ?_;refine df ?_;unfold dG;simp_all
 refine aD ?_;refine fP (fun hc1=>?_) fun hc1=>?_
 .refine aI ?_;refine df ?_;unfold dG;simp_all
 refine aD ?_;refine fP (fun hc2=>?_) fun hc2=>?_
 .refine aI ?_;refine df ?_;unfold dG;simp_all
 refine aD ?_;refine fP (fun hc3=>?_) fun hc3=>?_
 .refine aI ?_;refine df ?_;unfold dG;simp_all
 refine aD ?_;refine fP (fun hc4=>?_) fun hc4=>?_
 .refine aI ?_;refine df ?_;unfold dG;simp_all
 refine aD ?_;refine fP (fun hc5=>?_) fun hc5=>?_
 .refine aI ?_;refine df ?_;unfold dG;simp_all
 refine aD ?_;refine fP (fun hc6=>?_) fun hc6=>?_
 .refine aI ?_;refine df ?_;unfold dG;simp_all
 refine aD ?_;refine fP (fun hc7=>?_) fun hc7=>?_
 .refine aI ?_;refine df ?_;unfold dG;simp_all
 refine aG ?_;refine df ?_;unfold dG;simp_all
def Uf (Y:Ctx):Prop:=yu (bD Y 957)
def FO:aE:=⟨2,3,[⟨2,none⟩],b8,(sq (r1 [gm cZ] 2 0) (sq (r1 [gm s0,ov l0,gm s1,ov l2,fR l1 l3,gm l4,gmt 5 s0,gmt 5 s1,cr 5 (.lenS l7),cr 5 (.slS l6 none (some l8)),gmt 5 s1,cr 5 (cV l9 l10),eX l5 fZ,gm iv] 2 13) .ret))⟩
def Z8 {Y:Ctx}(hm:(Y.at 0).cj)  (s:au)(w:au)   :dn Y FO (.bool (sL s w)) [.str s,.str w]:=by
 show bP _ _ _ [⟨_,_⟩,⟨_,_⟩,_] _;refine aq ?_;refine aI ?_;intro u0;refine ay ?_;intro u1;refine aD ?_;refine iJ ?_;refine mC w.length (hj:=fun _=>rfl) (hb:=fun h=>by simp at h;omega) ?_;refine aG ?_;refine bX ?_;unfold sL;rw[show decide ((w.length:Int)<=(s.length:Int))=decide (w.length<=s.length)from hJ.2 ae]
def uJ (T:List D->D->Prop):Prop:=∀(s:au) (w:au),T [.str s,.str w] (.bool (sL s w))
def SD (Y:Ctx):Prop:=uJ (bD Y 1079)
def Ep:aE:=⟨2,3,[⟨2,none⟩],b8,(sq (r1 [gm cZ] 2 0) (sq (r1 [gm s0,ov l0,gm s1,ov l2,fR l1 l3,gm l4,gmt 5 s0,gmt 5 s1,cr 5 (.lenS l7),cr 5 (.slS l6 none (some l8)),gmt 5 s1,cr 5 (cV l9 l10),eX l5 fZ,gm iv] 2 13) .ret))⟩
def w956 {Y:Ctx}(hm:(Y.at 0).cj)  (s:au)(w:au)   :dn Y Ep (.bool (sL s w)) [.str s,.str w]:=by
 show bP _ _ _ [⟨_,_⟩,⟨_,_⟩,_] _;refine aq ?_;refine aI ?_;intro u0;refine ay ?_;intro u1;refine aD ?_;refine iJ ?_;refine mC w.length (hj:=fun _=>rfl) (hb:=fun h=>by simp at h;omega) ?_;refine aG ?_;refine bX ?_;unfold sL;rw[show decide ((w.length:Int)<=(s.length:Int))=decide (w.length<=s.length)from hJ.2 ae]
def XP (Y:Ctx):Prop:=uJ (bD Y 956)
def PS:aE:=⟨1,8,ib,b8,(sq (rg [gb 7 s0,gm cZ] [(2,0),(1,1)]) (sq (sq (r1 [gf 0 s2,gd l0,aX l1 cl,gm l2,ig 3 0 s2,hZ 3 l4,cn 3 (eG l5 LY),eW l3 l6,gm l7,ig 8 2 s2,cn 8 (.ld 5 true l9),cn 8 (.call 217 [l10] xA),cn 8 (.un .not fZ),eW l8 iv,gm jr,ig 14 2 s2,ig 14 4 lg,hZ 14 nw,cn 14 (dS oU cse),eW jT pL] 3 19) (m8 s3 cZ)) (sq (rg [gm cl,gm kJ] [(5,0),(6,1)]) (sq (sq (r1 [gf 0 s2,gd l0,aL l1 LY] 4 2) (.cond s4 (rg [gm bx,gm jC] [(5,0),(6,1)]) .skip)) (sq (sq (r1 [gf 1 s2,gd l0,gm s5,aX l1 l2,gm l3,ig 4 1 s2,hZ 4 l5,ek 4 s6,cn 4 (eG l6 l7),eW l4 l8,gm l9,ig 10 1 s2,hZ 10 fZ,cn 10 (oW iv kJ),ek 10 jr,kn 14 2 s2,kn 14 3 lg,jM 14 nw,cr 14 (dS oU cse),zf 10 jT pL,eW l10 qx] 7 20) (m8 s7 cZ)) (sq (r1 [gf 1 s2,gd l0,dj l1 bx,gm l2,ig 3 2 s2,ig 3 0 l4,hZ 3 l5,cn 3 (cV l6 bx),eW l3 l7,gm l8,kn 9 1 s2,jM 9 l10,cr 9 (eG fZ cl),gmt 9 iv,ig 13 2 s2,ig 13 1 jT,hZ 13 lg,cn 13 (cV nw bx),US 9 jr oU,eX l9 pL,gm qx,kn 20 1 s2,jM 20 xc,cr 20 (eG zm jC),gmt 20 C6,ig 24 2 s2,ig 24 2 GM,hZ 24 Ng,cn 24 (cV QG bx),US 20 D5 S8,eX uN S9,gm VY] 1 31) .ret))))))⟩
def w676 {Y:Ctx}(hm:(Y.at 0).cj)(h217:GQ Y)(c:dF)  (hp0:c.v.sm):dn Y PS (.bool (nn c)) [dF.D c]:=by
 show bP _ _ _ [⟨_,_⟩,_,_,_,_,_,_,_] _;refine aq ?_;refine AJ ?_;refine bd (v:=cy.D c.v) ?_;refine dm (hc:=fun hf=>h217 c.v hp0) ?_;refine di ?_;refine av (fun hc0=>?_) (fun hc0=>?_)
 .have hq:=Eo hc0;refine aI ?_;refine bX ?_;rw[hq]
 have hy:=Bu hc0;refine fK ?_;refine av (fun hc1=>?_) (fun hc1=>?_)
 .simp only[aT]at hc1;have hz:=rL hy (lo:=0) (hi:=2) (aw hc1) (aw hc1);refine QD ?_;refine av (fun hc2=>?_) (fun hc2=>?_)
  .rw[hc2]at hz;refine aI ?_;refine bX ?_;rw[hz];rfl
  rw[hc2]at hz;refine Tt ?_;refine bX ?_;rw[hz];rfl
 simp only[bm]at hc1;have hz:=rL hy (lo:=1) (hi:=3) (ak hc1) (ak hc1);refine Ts ?_;refine av (fun hc2=>?_) (fun hc2=>?_)
 .rw[hc2]at hz;refine aI ?_;refine bX ?_;rw[hz];rfl
 rw[hc2]at hz;refine Tt ?_;refine bX ?_;rw[hz];rfl
def yt (T:List D->D->Prop):Prop:=∀(c:dF),(c.v.sm)->T [dF.D c] (.bool (nn c))
def T3 (Y:Ctx):Prop:=yt (bD Y 676)
def NY:aE:=⟨1,14,ib,b8,(sq (rg [gb 7 s0,gm cZ] [(2,0),(1,1)]) (sq (sq (r1 [gf 0 s2,gd l0,aX l1 cl,gm l2,ig 3 0 s2,hZ 3 l4,cn 3 (eG l5 LY),eW l3 l6,gm l7,ig 8 2 s2,cn 8 (.ld 5 true l9),cn 8 (.call 209 [l10] xA),cn 8 (.un .not fZ),eW l8 iv,gm jr,ig 14 2 s2,ig 14 4 lg,hZ 14 nw,cn 14 (dS oU cse),eW jT pL] 3 19) (m8 s3 cZ)) (sq (rg [gm cl,gm kJ] [(5,0),(6,1)]) (sq (sq (r1 [gf 0 s2,gd l0,aL l1 LY] 4 2) (.cond s4 (rg [gm bx,gm jC] [(5,0),(6,1)]) .skip)) (sq (sq (r1 [gf 1 s2,gd l0,gm s5,aX l1 l2,gm l3,ig 4 1 s2,hZ 4 l5,ek 4 s6,cn 4 (eG l6 l7),eW l4 l8,gm l9,ig 10 2 s2,ig 10 3 fZ,hZ 10 iv,cn 10 (dS jr cse),ek 10 jT,kn 15 1 s2,jM 15 nw,cr 15 (oW oU kJ),zf 10 lg pL,eW l10 qx] 7 20) (m8 s7 cZ)) (sq (sq (r1 [gf 1 s2,gd l0] 8 1) (.block 0 (sq (.block 3 (sq (.block 2 (sq (.block 1 (sq (sq (sq (r1 [aL s8 bx,gm l0] 9 1) (.cond s9 (.exit 1) .skip)) (sq (sq (r1 [aL s8 cl,gm l0] 10 1) (.cond ik (.exit 2) .skip)) (sq (r1 [aL s8 jC,gm l0] 11 1) (.cond jR (.exit 3) .skip)))) (.exit 0))) (sq (r1 [gf 2 s2,gf 0 l0,gd l1,bO l2 bx] 12 3) (m8 kr cZ)))) (sq (r1 [gf 2 s2,gf 1 l0,gd l1,bO l2 bx] 13 3) (m8 qb cZ)))) (sq (sq (r1 [gf 2 s2,gf 2 l0,gd l1,aL l2 bx,gm l3] 1 4) .ret) (.exit 0))))) (xz m5)))))))⟩
def w827 {Y:Ctx}(hm:(Y.at 0).cj)(h209:GP Y)(c:dF)  (hp0:c.v.sm):dn Y NY (.bool (nn c)) [dF.D c]:=by
 show bP _ _ _ [⟨_,_⟩,_,_,_,_,_,_,_,_,_,_,_,_,_] _;refine aq ?_;refine AJ ?_;refine bd (v:=cy.D c.v) ?_;refine dm (hc:=fun hf=>h209 c.v hp0) ?_;refine di ?_;refine av (fun hc0=>?_) (fun hc0=>?_)
 .have hq:=Eo hc0;refine aI ?_;refine bX ?_;rw[hq]
 have hy:=Bu hc0;refine fK ?_;refine av (fun hc1=>?_) (fun hc1=>?_)
 .simp only[aT]at hc1;have hz:=rL hy (lo:=0) (hi:=2) (aw hc1) (aw hc1);refine QD ?_;refine av (fun hc2=>?_) (fun hc2=>?_)
  .rw[Bool.and_comm (!decide (c.v.pre=[]))]at hc2;rw[hc2]at hz;refine aI ?_;refine bX ?_;rw[hz];simp[qu]<;>simp_all<;>omega
  rw[Bool.and_comm (!decide (c.v.pre=[]))]at hc2;rw[hc2]at hz;refine AK ?_;refine cM (fun hc3=>?_) fun hc3=>?_
  .refine bU ?_;refine fP (fun hc6=>?_) fun hc6=>?_
   .refine ba ?_;refine bX ?_;rw[hz];simp[qu]<;>simp_all<;>omega
   refine bU ?_;refine fP (fun hc7=>?_) fun hc7=>?_
   .refine aG ?_;refine bX ?_;rw[hz];simp[qu]<;>simp_all<;>omega
   refine hY ?_;refine bX ?_;rw[hz];simp[qu]<;>simp_all<;>omega
  refine ba ?_;refine cM (fun hc4=>?_) fun hc4=>?_
  .refine di ?_;refine fP (fun hc7=>?_) fun hc7=>?_
   .refine aG ?_;refine bX ?_;rw[hz];simp[qu]<;>simp_all<;>omega
   refine hY ?_;refine bX ?_;rw[hz];simp[qu]<;>simp_all<;>omega
  refine aG ?_;refine cM (fun hc5=>?_) fun hc5=>?_
  .refine rE ?_;refine bX ?_;rw[hz];simp[qu]<;>simp_all<;>omega
  refine gv ?_;refine bX ?_;rw[hz];simp[qu]<;>simp_all<;>omega
 simp only[bm]at hc1;have hz:=rL hy (lo:=1) (hi:=3) (ak hc1) (ak hc1);refine Ts ?_;refine av (fun hc2=>?_) (fun hc2=>?_)
 .rw[Bool.and_comm (!decide (c.v.pre=[]))]at hc2;rw[hc2]at hz;refine aI ?_;refine bX ?_;rw[hz];simp[qu]<;>simp_all<;>omega
 rw[Bool.and_comm (!decide (c.v.pre=[]))]at hc2;rw[hc2]at hz;refine AK ?_;refine cM (fun hc3=>?_) fun hc3=>?_
 .refine bU ?_;refine fP (fun hc6=>?_) fun hc6=>?_
  .refine ba ?_;refine bX ?_;rw[hz];simp[qu]<;>simp_all<;>omega
  refine bU ?_;refine fP (fun hc7=>?_) fun hc7=>?_
  .refine aG ?_;refine bX ?_;rw[hz];simp[qu]<;>simp_all<;>omega
  refine hY ?_;refine bX ?_;rw[hz];simp[qu]<;>simp_all<;>omega
 refine ba ?_;refine cM (fun hc4=>?_) fun hc4=>?_
 .refine di ?_;refine fP (fun hc7=>?_) fun hc7=>?_
  .refine aG ?_;refine bX ?_;rw[hz];simp[qu]<;>simp_all<;>omega
  refine hY ?_;refine bX ?_;rw[hz];simp[qu]<;>simp_all<;>omega
 refine aG ?_;refine cM (fun hc5=>?_) fun hc5=>?_
 .refine rE ?_;refine bX ?_;rw[hz];simp[qu]<;>simp_all<;>omega
 refine gv ?_;refine bX ?_;rw[hz];simp[qu]<;>simp_all<;>omega
def QT (Y:Ctx):Prop:=yt (bD Y 827)
end Go.Abs
