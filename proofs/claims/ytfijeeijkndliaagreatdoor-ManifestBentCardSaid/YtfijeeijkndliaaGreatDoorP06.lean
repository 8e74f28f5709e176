/- A part of the proofs. -/
import Derived.Test.YtfijeeijkndliaaGreatDoorProg
import Derived.Test.YtfijeeijkndliaaGreatDoorP05
set_option linter.all false
set_option maxRecDepth 60000
set_option maxHeartbeats 2000000
namespace Go.Abs
def nuU:List (Nat×Nat):=[(3,1204),(4,14),(5,1205),(6,1206),(8,1208),(9,81),(10,247),(11,136),(12,238),(13,121),(14,82),(15,83),(16,84),(17,1209),(18,478),(19,228),(20,73),(21,227),(22,1201),(23,70),(24,208),(25,495),(26,496),(27,71),(28,344),(29,345),(30,72),(31,239),(32,240),(33,241),(34,76),(35,242),(36,243),(37,244),(38,245),(39,246),(40,223),(41,248),(42,249),(43,77),(44,250),(45,78),(46,79),(47,230),(48,479),(49,219),(50,209),(51,210),(52,211),(53,212),(54,213),(55,214),(56,215),(57,124),(58,682),(59,683),(60,684),(61,685),(62,216),(63,217),(64,218),(65,572),(66,331),(67,487),(68,125),(69,222),(71,489),(72,452),(73,490),(74,491),(75,492),(77,494),(78,470),(79,224),(80,225),(81,226),(82,229),(83,231),(84,232),(85,482),(86,316),(87,461),(88,462),(89,440),(90,441),(91,442),(92,443),(93,349),(94,444),(95,445),(96,446),(97,447),(98,448),(99,449),(100,450),(101,451),(102,819),(110,827),(111,828),(112,453),(113,454),(114,455),(115,456),(116,457),(117,458),(118,459),(119,460),(120,744),(121,745),(126,332),(127,465),(128,466),(129,467),(130,468),(131,469),(134,563),(135,471),(136,472),(137,473),(138,474),(139,475),(140,476),(141,477),(142,480),(143,481),(144,483),(145,676),(146,677),(147,678),(148,554),(149,533),(150,658),(151,659),(152,660),(153,661),(154,662),(155,254),(156,663),(157,664),(158,665),(159,956),(160,957),(165,666),(166,667),(167,668),(168,669),(169,670),(170,357),(171,671),(172,672),(173,673),(174,674),(175,896),(176,897),(177,898),(178,899),(179,900),(180,901),(184,675),(187,568),(188,734),(189,808),(190,809),(191,810),(192,811),(194,336),(198,812),(199,813),(200,814),(201,815),(202,816),(203,1006),(204,1007),(205,1008),(210,741),(211,742),(212,882),(213,946),(214,947),(215,948),(216,949),(217,950),(218,951),(223,952),(224,953),(225,954),(226,955),(227,1079),(230,1031),(232,1032),(233,1033),(234,1034),(235,1035),(236,1036),(241,1097),(242,1098),(243,1099),(244,1100),(250,1126),(253,1141)]
def effU:List Nat:=[219,1091,1354,1894,1896,1616,1320,1618,1898,2062,2066,2282,2068,2252,2194,2064,1904,900,931,937,935,445,978,1328,904,942,944,946,952,448,522,1008,1724,1726,1728,1430,486,500,1000000130]
noncomputable def cfY (f:Nat):Option aN:=((Go.Proofs.Tryz.prog).funcs[f]?).bind (compile Go.Proofs.Tryz.prog nuU effU)
def zofN (n:Nat):Int.ofNat (no_index (@OfNat.ofNat Nat n (instOfNatNat n)))=@OfNat.ofNat Int n (@instOfNat n):=rfl
def zofU (n:Nat)(h:n<2^8):UInt8.ofBitVec (BitVec.ofFin (Fin.mk (no_index (@OfNat.ofNat Nat n (instOfNatNat n))) h))=(OfNat.ofNat n:UInt8):=iY.1 (by show n=(UInt8.ofNat n).toNat;rw[UInt8.toNat_ofNat'];exact(Nat.mod_eq_of_lt h).symm)
def zofM:Int.negSucc 0=-1:=rfl
noncomputable def dy (f:Nat)(s:{a:aN//cfY f=some a}:=by refine⟨?_, ?_⟩;rotate_left;conv=>lhs;reduce;dsimp only[zofN,zofM];try simp only[zofU]):aN:=s.1
end Go.Abs
section
namespace Go.Abs
def ah {p:Prop}(h:p:=by exact rfl):p:=h
def pz {p:Prop}(h:p:=by repeat(first|exact de.nil|refine de.un ?_|refine de.eq aW ?_)):p:=h
def fM {p:Prop}(h:p:=by first|exact rfl|exact bA (fun _=>rfl) _):p:=h
def fC {p:Prop}(h:p:=by repeat(first|exact de.nil|refine de.un ?_|refine de.eq aW ?_|refine de.nl aW aW ?_)):p:=h
def eP {p:Prop}(h:p:=by repeat' first|exact trivial|exact rfl|refine And.intro ?_ ?_):p:=h
def CB {p:Prop}(h:p:=by repeat' first|exact trivial|exact rfl|exact aH _|refine And.intro ?_ ?_):p:=h
def lE {p:Prop}(h:p:=by repeat(first|exact bF.nil|refine bF.iM aW aW (by first|exact rfl|exact bA (fun _=>rfl) _) ?_|refine bF.Sc aW aW aW ?_|refine bF.idi aW aW aW aW ?_)):p:=h
def b0 {p:Prop} [Decidable p]:(decide p=true)=p:=bh
def b1 {p:Prop} [Decidable p]:decide p=false↔¬p:=bC
def b2 (b:Bool):((!b)=true)=(b=false):=bE b
def b3 (b:Bool):((!b)=false)=(b=true):=cq b
def b4 (b:Bool):(¬(b=false))=(b=true):=Bool.not_eq_false b
def b5 (a b:Bool):((a ||b)=true)=(a=true\/b=true):=dw a b
def b6 {a b:Bool}:(a ||b)=false↔a=false/\b=false:=dt
def b7 (a b:Bool):((a&&b)=true)=(a=true/\b=true):=bM a b
def b8 {a b:Bool}:(a&&b)=false↔a=false\/b=false:=ef
def b9 (b:Bool):(¬(b=true))=(b=false):=Bool.not_eq_true b
def b10 (b:Bool):(true&&b)=b:=gM b
def b11 (b:Bool):(b&&true)=b:=kn b
end Go.Abs
namespace Go.Abs
abbrev dX (Y:Ctx)(a:aN)(d:D)(ds:List D):Prop:=cg (Y.at 0) a.body (Res a d) (gz a ds) ⟨0,[]⟩
def bT {a:aN}{d d2:D}{e:Ex}{nx:Nat}{m:List (Nat×cr)}{env:List cA}(h:d2=d)(he:e.home:=by exact trivial)(h1:tO m env a.res:=by exact CB)(h2:IK a env m:=by exact eP)(h3:XM a env m=d2:=by exact rfl):Res a d e env ⟨nx,m⟩:=aiS he h1 h2 (h3.trans h)
def cd {a:aN}{d d2:Bool}{e:Ex}{nx:Nat}{m:List (Nat×cr)}{env:List cA}(h:d2=d)(he:e.home:=by exact trivial)(h1:tO m env a.res:=by exact CB)(h2:IK a env m:=by exact eP)(h3:XM a env m=.bool d2:=by exact rfl):Res a (.bool d) e env ⟨nx,m⟩:=bT (ak _ h) he h1 h2 h3
def du {a:aN}{d d2:List UInt8}{e:Ex}{nx:Nat}{m:List (Nat×cr)}{env:List cA}(h:d2=d)(he:e.home:=by exact trivial)(h1:tO m env a.res:=by exact CB)(h2:IK a env m:=by exact eP)(h3:XM a env m=.str d2:=by exact rfl):Res a (.str d) e env ⟨nx,m⟩:=bT (ak _ h) he h1 h2 h3
def gu {a:aN}{d d2:Int}{e:Ex}{nx:Nat}{m:List (Nat×cr)}{env:List cA}(h:d2=d)(he:e.home:=by exact trivial)(h1:tO m env a.res:=by exact CB)(h2:IK a env m:=by exact eP)(h3:XM a env m=.int .i64 d2:=by exact rfl):Res a (.int .i64 d) e env ⟨nx,m⟩:=bT (ak _ h) he h1 h2 h3
def dQ {lo c nx nx2:Nat}{env env2:List cA}{m m2:List (Nat×cr)}(σ:List (Nat×Nat))(hc:nx2=c:=by exact ah)(h:jg lo c σ=true:=by exact ah)(he:de lo σ env env2:=by exact fC)(hm:bF lo c σ m m2:=by exact lE):bm lo env ⟨nx,m⟩ env2 ⟨nx2,m2⟩:=bm.to σ hc h he hm
def gv {Y:Ctx}{draw f:Bool}{r:List GI}{env rs:List cA}{nx:Nat}{m:List (Nat×cr)}{K:List cA->St->Prop}{g:Option (Nat×Bool)}{x y:Src}{fx fy:Bool}{a b:List UInt8}(h:aY Y draw r env (⟨f,.str (a++b)⟩::rs) nx m K)(hg:GF rs g f:=by first|exact rfl|exact⟨_,_,rfl,rfl⟩)(hx:dm env rs x=⟨fx,.str a⟩:=by exact rfl)(hy:dm env rs y=⟨fy,.str b⟩:=by exact rfl)(kx:f=true->fx=true:=by first|exact fun _=>rfl|exact fun h=>h|(intro h;simp_all))(ky:f=true->fy=true:=by first|exact fun _=>rfl|exact fun h=>h|(intro h;simp_all))(hb:f=true->a.length+b.length<=9223372036854775807:=by intro _;simp only[bH,aM,aX];omega):aY Y draw (⟨.bin .add x y,g⟩::r) env rs nx m K:=dD h hg hx hy kx ky hb
end Go.Abs
namespace Go.Abs
def hY {lo c l:Nat}{σ:List (Nat×Nat)}{m r:List (Nat×cr)}{b:cr}(h:bF lo c σ m r)(hh:bF lo c σ m [(l,b)]:=by(first|refine bF.iM aW aW (by first|exact rfl|exact bA (fun _=>rfl) _) ?_|refine bF.Sc aW aW aW ?_|refine bF.idi aW aW aW aW ?_)<;>exact bF.nil):bF lo c σ m ((l,b)::r):=⟨hh.1,h⟩
end Go.Abs
namespace Go.Abs
section
variable {Y:Ctx} {Q:Ex->List cA->St->Prop}
def cmN {env rs:List cA}:ZI env rs []=env:=rfl
def cmC {s p:Nat}{r:List (Nat×Nat)}{env rs env1 env':List cA}{f:Bool}{d:D}(e:dm [] rs (.l p)=⟨f,d⟩)(hs:env.set s ⟨f,d⟩=env1)(h:ZI env1 rs r=env'):ZI env rs ((s,p)::r)=env':=by
 simp only[ZI,e,hs,h]
def rrrg {draw:Bool}{cm:List (Nat×Nat)}{b:AC}{nx nx':Nat}{m:List (Nat×cr)}{rs env gz env':List cA}(h:cg Y b Q env' ⟨nx',m⟩)
  (he:ZI env rs cm=env':=by repeat(first|apply cmC aW (by simp only[List.set_cons_zero,List.set_cons_succ];exact rfl)|with_reducible exact cmN)) (hn:nx+rs.length=nx':=by simp only[aM,aX,Nat.reduceAdd];exact rfl):aY Y draw [] gz rs nx m (fun vs st'=>cg Y b Q (jL env vs cm) st'):=
 adR h he hn
def rrrh {draw:Bool}{cm:List (Nat×Nat)}{nx nx':Nat}{m:List (Nat×cr)}{rs env gz env':List cA}(h:Q .normal env' ⟨nx',m⟩)
  (he:ZI env rs cm=env':=by repeat(first|apply cmC aW (by simp only[List.set_cons_zero,List.set_cons_succ];exact rfl)|with_reducible exact cmN)) (hn:nx+rs.length=nx':=by simp only[aM,aX,Nat.reduceAdd];exact rfl):aY Y draw [] gz rs nx m (fun vs st'=>Q .normal (jL env vs cm) st'):=
 adS h he hn
end
def Fam (_:Prop):Type:=Unit
def yY {q:Prop}:Fam q:=()
structure Hid (q:Prop)(f:Fam q):Prop where
 val:q
section
variable {Y:Ctx} {draw b1:Bool} {r:List GI} {env rs:List cA} {nx n0 n1:Nat} {m:List (Nat×cr)} {K:List cA->St->Prop} {g:Option (Nat×Bool)} {x0 x1 x2:Src}
def tg0 {Y:Ctx}{a:AC}{Q:Ex->List cA->St->Prop}{env:List cA}{st:St}(h:cg Y a Q env st):cg Y a Q env st:=h
def tg1 (h:aY Y draw (⟨.mv x0,g⟩::r) env rs nx m K):aY Y draw (⟨.mv x0,g⟩::r) env rs nx m K:=h
def tg2 (h:aY Y draw [] env rs nx m K):aY Y draw [] env rs nx m K:=h
def tg3 (h:aY Y draw (⟨.fa n0 x1,g⟩::r) env rs nx m K):aY Y draw (⟨.fa n0 x1,g⟩::r) env rs nx m K:=h
def tg4 (h:aY Y draw (⟨.ld n0 b1 x2,g⟩::r) env rs nx m K):aY Y draw (⟨.ld n0 b1 x2,g⟩::r) env rs nx m K:=h
def tg5 (h:aY Y draw (⟨.bin .lss x0 x1,g⟩::r) env rs nx m K):aY Y draw (⟨.bin .lss x0 x1,g⟩::r) env rs nx m K:=h
def tg6 (h:aY Y draw (⟨.bin .eql x0 x1,g⟩::r) env rs nx m K):aY Y draw (⟨.bin .eql x0 x1,g⟩::r) env rs nx m K:=h
def tg7 (h:aY Y draw (⟨.bin .add x0 x1,g⟩::r) env rs nx m K):aY Y draw (⟨.bin .add x0 x1,g⟩::r) env rs nx m K:=h
def tg8 (h:aY Y draw (⟨.bin .gtr x0 x1,g⟩::r) env rs nx m K):aY Y draw (⟨.bin .gtr x0 x1,g⟩::r) env rs nx m K:=h
def tg9 (h:aY Y draw (⟨.bin .neq x0 x1,g⟩::r) env rs nx m K):aY Y draw (⟨.bin .neq x0 x1,g⟩::r) env rs nx m K:=h
def tg10 (h:aY Y draw (⟨.bin .leq x0 x1,g⟩::r) env rs nx m K):aY Y draw (⟨.bin .leq x0 x1,g⟩::r) env rs nx m K:=h
def tg11 (h:aY Y draw (⟨.bin .geq x0 x1,g⟩::r) env rs nx m K):aY Y draw (⟨.bin .geq x0 x1,g⟩::r) env rs nx m K:=h
def tg12 (h:aY Y draw (⟨.bin .sub x0 x1,g⟩::r) env rs nx m K):aY Y draw (⟨.bin .sub x0 x1,g⟩::r) env rs nx m K:=h
def tg13 (h:aY Y draw (⟨.ext x0 n1,g⟩::r) env rs nx m K):aY Y draw (⟨.ext x0 n1,g⟩::r) env rs nx m K:=h
def tg14 (h:aY Y draw (⟨.pick x0 x1 (.c (.bool false)),g⟩::r) env rs nx m K):aY Y draw (⟨.pick x0 x1 (.c (.bool false)),g⟩::r) env rs nx m K:=h
def tg15 (h:aY Y draw (⟨.pick x0 (.c (.bool true)) x1,g⟩::r) env rs nx m K):aY Y draw (⟨.pick x0 (.c (.bool true)) x1,g⟩::r) env rs nx m K:=h
def tg16 (h:aY Y draw (⟨.un .not x0,g⟩::r) env rs nx m K):aY Y draw (⟨.un .not x0,g⟩::r) env rs nx m K:=h
def tg17 (h:aY Y draw (⟨.nilck x0,g⟩::r) env rs nx m K):aY Y draw (⟨.nilck x0,g⟩::r) env rs nx m K:=h
def tg18 (h:aY Y draw (⟨.box n0 x1,g⟩::r) env rs nx m K):aY Y draw (⟨.box n0 x1,g⟩::r) env rs nx m K:=h
def tg19 (h:aY Y draw (⟨.ia n0 x1 x2,g⟩::r) env rs nx m K):aY Y draw (⟨.ia n0 x1 x2,g⟩::r) env rs nx m K:=h
def tg20 (h:aY Y draw (⟨.ixS x0 x1,g⟩::r) env rs nx m K):aY Y draw (⟨.ixS x0 x1,g⟩::r) env rs nx m K:=h
def tg21 (h:aY Y draw (⟨.st n0 x1 x2,g⟩::r) env rs nx m K):aY Y draw (⟨.st n0 x1 x2,g⟩::r) env rs nx m K:=h
def tg22 (h:aY Y draw (⟨.len x0,g⟩::r) env rs nx m K):aY Y draw (⟨.len x0,g⟩::r) env rs nx m K:=h
def tg23 (h:aY Y draw (⟨.lenS x0,g⟩::r) env rs nx m K):aY Y draw (⟨.lenS x0,g⟩::r) env rs nx m K:=h
def tg24 (h:aY Y draw (⟨.yn x0,g⟩::r) env rs nx m K):aY Y draw (⟨.yn x0,g⟩::r) env rs nx m K:=h
def tg25 (h:aY Y draw (⟨.s2b x0,g⟩::r) env rs nx m K):aY Y draw (⟨.s2b x0,g⟩::r) env rs nx m K:=h
def tg26 (h:aY Y draw (⟨.mkB,g⟩::r) env rs nx m K):aY Y draw (⟨.mkB,g⟩::r) env rs nx m K:=h
def tg27 (h:aY Y draw (⟨.app n0 x1 x2,g⟩::r) env rs nx m K):aY Y draw (⟨.app n0 x1 x2,g⟩::r) env rs nx m K:=h
end
def aE {p q:Prop}(k:q)(h:Hid q yY->p:=by
 intro h;first
 |((with_reducible refine tg0 ?_);first|with_reducible exact ay h.1|with_reducible exact ab8 h.1|with_reducible exact TA h.1|with_reducible exact aje h.1|with_reducible exact XL h.1|with_reducible exact wp_ret h.1|with_reducible exact wp_skip h.1|with_reducible exact Tz h.1|with_reducible exact wp_exit h.1|with_reducible exact NC h.1 hm|with_reducible exact XK h.1 hm)
 |((with_reducible refine tg1 ?_);(refine r_mv ?_;exact h.1))
 |((with_reducible refine tg2 ?_);first|(refine rrrh ?_;exact h.1)|(refine rrrg ?_;exact h.1))
 |((with_reducible refine tg3 ?_);first|(refine r_faP ?_;exact h.1)|(refine r_faR ?_;exact h.1))
 |((with_reducible refine tg4 ?_);first|exact aV (.int _ _) h.1|exact aV (.str _) h.1|(refine bp (v:=.str _) ?_;exact h.1)|(refine gI (v:=.str _) ?_;exact h.1)|(refine bp (v:=.int _ _) ?_;exact h.1)|(refine gI (v:=.int _ _) ?_;exact h.1)|exact aV (.sl _ _) h.1|exact aV (.own _ _ _ _) h.1|exact aV (.bool _) h.1|(refine bp (v:=.sl _ _) ?_;exact h.1)|(refine gI (v:=.sl _ _) ?_;exact h.1)|(refine bp (v:=.bool _) ?_;exact h.1)|(refine gI (v:=.bool _) ?_;exact h.1)|exact cO h.1|exact aV .bg h.1)
 |((with_reducible refine tg5 ?_);first|(refine aiK ?_;exact h.1)|(refine aiL ?_;exact h.1))
 |((with_reducible refine tg6 ?_);first|(refine aiB ?_;exact h.1)|(refine aiC ?_;exact h.1))
 |((with_reducible refine tg7 ?_);(refine adM ?_;exact h.1))
 |((with_reducible refine tg8 ?_);first|(refine SG ?_;exact h.1)|(refine SH ?_;exact h.1))
 |((with_reducible refine tg9 ?_);first|(refine aiM ?_;exact h.1)|(refine aiN ?_;exact h.1))
 |((with_reducible refine tg10 ?_);first|(refine aiI ?_;exact h.1)|(refine aiJ ?_;exact h.1))
 |((with_reducible refine tg11 ?_);first|(refine aiD ?_;exact h.1)|(refine aiE ?_;exact h.1))
 |((with_reducible refine tg12 ?_);(refine mz ?_;exact h.1))
 |((with_reducible refine tg13 ?_);first|exact fJ (.int _ _) h.1|exact fJ (.str _) h.1|exact fJ (.bool _) h.1)
 |((with_reducible refine tg14 ?_);(refine Ib ?_;exact h.1))
 |((with_reducible refine tg15 ?_);(refine Hc ?_;exact h.1))
 |((with_reducible refine tg16 ?_);(refine r_not ?_;exact h.1))
 |((with_reducible refine tg17 ?_);first|(refine aiO ?_;exact h.1)|(refine aiP ?_;exact h.1))
 |((with_reducible refine tg18 ?_);(refine r_box ?_;exact h.1))
 |((with_reducible refine tg19 ?_);first|exact bz _ h.1|exact abd h.1|exact kg _ h.1|exact aiF h.1)
 |((with_reducible refine tg20 ?_);first|exact sj _ h.1|exact aiG h.1)
 |((with_reducible refine tg21 ?_);exact aR _ h.1)
 |((with_reducible refine tg22 ?_);first|exact abi fun a=>(h.1:_->_) (a rfl rfl)|exact abj fun a=>(h.1:_->_) (a rfl rfl)|(refine aiH ?_;exact h.1))
 |((with_reducible refine tg23 ?_);exact abk fun a=>(h.1:_->_) (a rfl rfl))
 |((with_reducible refine tg24 ?_);(refine r_rng ?_;exact h.1))
 |((with_reducible refine tg25 ?_);(refine r_s2b ?_;exact h.1))
 |((with_reducible refine tg26 ?_);(refine r_mkB ?_;exact h.1))
 |((with_reducible refine tg27 ?_);(refine iG ?_;exact h.1))
 |with_reducible exact BQ.normal h.1|with_reducible exact BQ.ret h.1|with_reducible exact LQ.normal h.1|with_reducible exact LQ.out h.1|with_reducible exact LQ.ret h.1|with_reducible exact BQ.out h.1|with_reducible exact NM.normal h.1|with_reducible exact NM.ret h.1|with_reducible exact NO.normal h.1|with_reducible exact NO.ret h.1|with_reducible exact NM.out h.1|with_reducible exact NO.out h.1|with_reducible exact CQ.normal h.1|with_reducible exact CQ.ret h.1|with_reducible exact CQ.other h.1|((with_reducible refine BQ.other ?_ h.1);exact rfl)|((with_reducible refine LQ.other ?_ h.1);exact rfl)|((with_reducible refine NM.other ?_ h.1);exact rfl)|((with_reducible refine NO.other ?_ h.1);exact rfl)):p:=h ⟨k⟩
def gN {p q:Prop}(k:q)(h:Hid q yY->p:=by intro h;first|exact abi fun _=>h.1|exact abk fun _=>h.1|exact abj fun _=>h.1):p:=h ⟨k⟩
section
variable {Y:Ctx} {Q:Ex->List cA->St->Prop}
end
def cX:(∀{p:Prop} [Decidable p],(decide p=true)=p)/\(∀{p:Prop} [Decidable p],decide p=false↔¬p)/\(∀b:Bool,((!b)=true)=(b=false))/\(∀b:Bool,((!b)=false)=(b=true))/\(∀b:Bool,(¬(b=false))=(b=true))/\(∀a b:Bool,((a ||b)=true)=(a=true\/b=true))/\(∀{a b:Bool},(a ||b)=false↔a=false/\b=false)/\(∀a b:Bool,((a&&b)=true)=(a=true/\b=true))/\(∀{a b:Bool},(a&&b)=false↔a=false\/b=false)/\(∀b:Bool,(¬(b=true))=(b=false))/\(∀b:Bool,(true&&b)=b)/\∀b:Bool,(b&&true)=b:=
 ⟨bh,bC,bE,cq,Bool.not_eq_false,dw,dt,bM,ef,Bool.not_eq_true,gM,kn⟩
section
variable {Y:Ctx} {Q:Ex->List cA->St->Prop} {env:List cA} {st:St}
def di {c:Src}{a b r:AC}{t:Bool}{c1 c2:Prop}(h1:c1->cg Y (.seq a r) Q env st)(h2:c2->cg Y (.seq b r) Q env st)(hc:dm env [] c=⟨true,.bool t⟩:=by exact rfl)(e1:t=true->c1:=by intro h;(try simp only[cX]at h);exact h)(e2:t=false->c2:=by intro h;(try simp only[cX]at h);exact h):cg Y (.seq (.cond c a b) r) Q env st:=az (fun h=>h1 (e1 h)) (fun h=>h2 (e2 h)) hc
def iI {c:Src}{a b:AC}{t:Bool}{c1 c2:Prop}(h1:c1->cg Y a Q env st)(h2:c2->cg Y b Q env st)(hc:dm env [] c=⟨true,.bool t⟩:=by exact rfl)(e1:t=true->c1:=by intro h;(try simp only[cX]at h);exact h)(e2:t=false->c2:=by intro h;(try simp only[cX]at h);exact h):cg Y (.cond c a b) Q env st:=wp_cond (fun h=>h1 (e1 h)) (fun h=>h2 (e2 h)) hc
end
end Go.Abs
namespace Go.Abs
def aD {p q:Prop}(k:q)(h:Hid q yY->p:=by intro h;(iterate 2 refine aE ?_);exact h.1):p:=h ⟨k⟩
def aF {p q:Prop}(k:q)(h:Hid q yY->p:=by intro h;(iterate 3 refine aE ?_);exact h.1):p:=h ⟨k⟩
def aK {p q:Prop}(k:q)(h:Hid q yY->p:=by intro h;(iterate 4 refine aE ?_);exact h.1):p:=h ⟨k⟩
def aU {p q:Prop}(k:q)(h:Hid q yY->p:=by intro h;(iterate 5 refine aE ?_);exact h.1):p:=h ⟨k⟩
def aQ {p q:Prop}(k:q)(h:Hid q yY->p:=by intro h;(iterate 6 refine aE ?_);exact h.1):p:=h ⟨k⟩
def bw {p q:Prop}(k:q)(h:Hid q yY->p:=by intro h;(iterate 7 refine aE ?_);exact h.1):p:=h ⟨k⟩
def bW {p q:Prop}(k:q)(h:Hid q yY->p:=by intro h;(iterate 8 refine aE ?_);exact h.1):p:=h ⟨k⟩
def dJ {p q:Prop}(k:q)(h:Hid q yY->p:=by intro h;(iterate 9 refine aE ?_);exact h.1):p:=h ⟨k⟩
def ja {p q:Prop}(k:q)(h:Hid q yY->p:=by intro h;(iterate 10 refine aE ?_);exact h.1):p:=h ⟨k⟩
def gE {p q:Prop}(k:q)(h:Hid q yY->p:=by intro h;(iterate 11 refine aE ?_);exact h.1):p:=h ⟨k⟩
def jX {p q:Prop}(k:q)(h:Hid q yY->p:=by intro h;(iterate 12 refine aE ?_);exact h.1):p:=h ⟨k⟩
def mZ {p q:Prop}(k:q)(h:Hid q yY->p:=by intro h;(iterate 13 refine aE ?_);exact h.1):p:=h ⟨k⟩
def vN {p q:Prop}(k:q)(h:Hid q yY->p:=by intro h;(iterate 14 refine aE ?_);exact h.1):p:=h ⟨k⟩
def GK {p q:Prop}(k:q)(h:Hid q yY->p:=by intro h;(iterate 15 refine aE ?_);exact h.1):p:=h ⟨k⟩
def GL {p q:Prop}(k:q)(h:Hid q yY->p:=by intro h;(iterate 16 refine aE ?_);exact h.1):p:=h ⟨k⟩
def GM {p q:Prop}(k:q)(h:Hid q yY->p:=by intro h;(iterate 17 refine aE ?_);exact h.1):p:=h ⟨k⟩
def acf {p q:Prop}(k:q)(h:Hid q yY->p:=by intro h;(iterate 18 refine aE ?_);exact h.1):p:=h ⟨k⟩
def zzz20 {p q:Prop}(k:q)(h:Hid q yY->p:=by intro h;(iterate 20 refine aE ?_);exact h.1):p:=h ⟨k⟩
def agO {p q:Prop}(k:q)(h:Hid q yY->p:=by intro h;(iterate 21 refine aE ?_);exact h.1):p:=h ⟨k⟩
def agP {p q:Prop}(k:q)(h:Hid q yY->p:=by intro h;(iterate 22 refine aE ?_);exact h.1):p:=h ⟨k⟩
def zzz23 {p q:Prop}(k:q)(h:Hid q yY->p:=by intro h;(iterate 23 refine aE ?_);exact h.1):p:=h ⟨k⟩
def zzz24 {p q:Prop}(k:q)(h:Hid q yY->p:=by intro h;(iterate 24 refine aE ?_);exact h.1):p:=h ⟨k⟩
def agQ {p q:Prop}(k:q)(h:Hid q yY->p:=by intro h;(iterate 25 refine aE ?_);exact h.1):p:=h ⟨k⟩
def zzz26 {p q:Prop}(k:q)(h:Hid q yY->p:=by intro h;(iterate 26 refine aE ?_);exact h.1):p:=h ⟨k⟩
def acg {p q:Prop}(k:q)(h:Hid q yY->p:=by intro h;(iterate 28 refine aE ?_);exact h.1):p:=h ⟨k⟩
def zzz29 {p q:Prop}(k:q)(h:Hid q yY->p:=by intro h;(iterate 29 refine aE ?_);exact h.1):p:=h ⟨k⟩
def agR {p q:Prop}(k:q)(h:Hid q yY->p:=by intro h;(iterate 36 refine aE ?_);exact h.1):p:=h ⟨k⟩
end Go.Abs
namespace Go.Abs
abbrev s0:Src:=.s 0
abbrev s1:Src:=.s 1
abbrev s2:Src:=.s 2
abbrev s3:Src:=.s 3
abbrev s4:Src:=.s 4
abbrev s5:Src:=.s 5
abbrev s6:Src:=.s 6
abbrev l0:Src:=.l 0
abbrev l1:Src:=.l 1
abbrev l2:Src:=.l 2
abbrev l3:Src:=.l 3
abbrev cs (s:List UInt8):Src:=.c (.str s)
abbrev gd (x:Src):GI:=⟨.ld 1 false x,none⟩
abbrev rg (x:List GI)(y:List (Nat×Nat)):AC:=.reg false x y
abbrev ha2:List (List Sh):=[[.a,.a]]
abbrev GQ:List (List Sh):=[[.a],[.a]]
abbrev hb3:List (List Sh):=[[.a],[.a],[.a]]
abbrev i3 (n:Int):Src:=.c (.int .i32 n)
abbrev r1 (x:List GI)(a b:Nat):AC:=.reg false x [(a,b)]
abbrev r2 (x:List GI)(a b:Nat):AC:=.reg true x [(a,b)]
end Go.Abs
end
namespace Go.Abs
def zP (T:List D->D->Prop):Prop:=∀(l:List av) (x:UInt8),((aO [x] l).length<=1099511627776)->T [.sl 1 (l.map D.str),.int .u8 (x.toNat:Nat)] (.str (aO [x] l))
def GS (Y:Ctx):Prop:=zP (bU Y 249)
def Dc (T:List D->D->Prop):Prop:=∀(a:List av) (b:List av),T [.sl 1 (a.map D.str),.sl 1 (b.map D.str)] (.bool (decide (a=b)))
def XY (Y:Ctx):Prop:=Dc (bU Y 226)
def oE (T:List D->D->Prop):Prop:=∀(l:List av),T [.sl 1 (l.map D.str)] (.bool (rising l))
def VM (Y:Ctx):Prop:=oE (bU Y 815)
def Yh (Y:Ctx):Prop:=oE (bU Y 447)
def oa (T:List D->D->Prop):Prop:=∀(s:av),T [.str s] (.bool (dj s))
def GU (Y:Ctx):Prop:=oa (bU Y 349)
def nX (T:List D->D->Prop):Prop:=∀(s:av),T [.str s] (.bool (eV s))
def K0 (Y:Ctx):Prop:=nX (bU Y 208)
def ou (T:List D->D->Prop):Prop:=∀(s:av),T [.str s] (.tup [.int .i64 (fe s),.bool (gV s)])
def NZ (Y:Ctx):Prop:=ou (bU Y 658)
def oq (T:List D->D->Prop):Prop:=∀(s:av) (b:Int),(s.length<=1048576)->T [.str s,.int .u8 b] (.sl 1 ((ai s b).map D.str))
def K5 (Y:Ctx):Prop:=oq (bU Y 533)
def ov (T:List D->D->Prop):Prop:=∀(t:av),T [.str t] (.bool (jz t))
def YD (Y:Ctx):Prop:=ov (bU Y 659)
def oc (T:List D->D->Prop):Prop:=∀(n:Int),T [.int .i64 n] (.bool (sZ n))
def Yb (Y:Ctx):Prop:=oc (bU Y 440)
def Ai (T:List D->D->Prop):Prop:=∀(s:av) (b:Int),T [.str s,.int .u8 b] (.tup [.str (aP s b).1,.str (aP s b).2])
def YL (Y:Ctx):Prop:=Ai (bU Y 675)
def zT (T:List D->D->Prop):Prop:=∀(s:av),(s.length<=1048576)->T [.str s] (.bool (rh s false))
def Vw (Y:Ctx):Prop:=zT (bU Y 442)
def jv (T:List D->D->Prop):Prop:=∀(n:Int),(0<=n/\n<=9999)->T [.int .i64 n] (.str (ea n.toNat))
def Ya (Y:Ctx):Prop:=jv (bU Y 336)
def zL (T:List D->D->Prop):Prop:=∀(l:List av) (sep:av),(l.length<=1048600)->(sep.length<=4)->(∀t∈l,t.length<=2097200)->T [.sl 1 (l.map D.str),.str sep] (.str (aO sep l))
def K3 (Y:Ctx):Prop:=zL (bU Y 242)
def zE (T:List D->D->Prop):Prop:=∀(s:av) (b:UInt8),(s.length<=1048576)->T [.str s,.str [b]] (.sl 1 ((ai s b.toNat).map D.str))
def KZ (Y:Ctx):Prop:=zE (bU Y 124)
def z8 (T:List D->D->Prop):Prop:=∀(s:av) (b:UInt8),(s.length<=1048576)->T [.str s,.str [b]] (.tup [.str (gT s b).1,.str (gT s b).2.1,.bool (gT s b).2.2])
def VB (Y:Ctx):Prop:=z8 (bU Y 487)
def zQ (T:List D->D->Prop):Prop:=∀(s:av) (p:av),(s.length<=1048576)->(p.length<=1048576)->T [.str s,.str p] (.tup [.str (gy s p).1,.bool (gy s p).2])
def X6 (Y:Ctx):Prop:=zQ (bU Y 254)
def Aa (T:List D->D->Prop):Prop:=∀(s:av) (b:UInt8),(s.length<=1048576)->T [.str s,.str [b]] (.bool (s.contains b))
def Yz (Y:Ctx):Prop:=Aa (bU Y 491)
def zS (T:List D->D->Prop):Prop:=∀(s:av),(s.length<=1048576)->T [.str s] (.bool (rh s true))
def Yc (Y:Ctx):Prop:=zS (bU Y 441)
def nY (T:List D->D->Prop):Prop:=∀(v:dz),(v.sm)->T [dz.D v] (.bool (jD v))
def K1 (Y:Ctx):Prop:=nY (bU Y 209)
def VG (Y:Ctx):Prop:=jv (bU Y 665)
def om (T:List D->D->Prop):Prop:=∀(v:dz),(v.sm)->T [dz.D v] (.str (ll v))
def Vy (Y:Ctx):Prop:=om (bU Y 451)
def Ap (T:List D->D->Prop):Prop:=∀(n:Nat),(n<=9999)->T [.int .u64 (n:Nat)] (.str (ea n))
def YY (Y:Ctx):Prop:=Ap (bU Y 882)
def VL (Y:Ctx):Prop:=jv (bU Y 734)
def wI (Y:Ctx):Prop:=oq (bU Y 470)
def zU (T:List D->D->Prop):Prop:=∀(c:Int),T [.int .u8 c] (.bool (jq c))
def Vz (Y:Ctx):Prop:=zU (bU Y 453)
def zV (T:List D->D->Prop):Prop:=∀(c:Int),T [.int .u8 c] (.bool (bJ c))
def NT (Y:Ctx):Prop:=zV (bU Y 454)
def GV (Y:Ctx):Prop:=oa (bU Y 357)
def GR (Y:Ctx):Prop:=nX (bU Y 216)
def N0 (Y:Ctx):Prop:=ou (bU Y 667)
def YG (Y:Ctx):Prop:=ov (bU Y 668)
def Ae (T:List D->D->Prop):Prop:=∀(t:av),T [.str t] (.bool (vv t))
def YF (Y:Ctx):Prop:=Ae (bU Y 666)
def zW (T:List D->D->Prop):Prop:=∀(s:av) (p:Bool),(s.length<=1048576)->T [.str s,.bool p] (.bool (vw s p))
def Yk (Y:Ctx):Prop:=zW (bU Y 456)
def Yj (Y:Ctx):Prop:=oc (bU Y 455)
def K2 (Y:Ctx):Prop:=nY (bU Y 217)
def Ac (T:List D->D->Prop):Prop:=∀(v:dz),(sZ v.major=true/\sZ v.minor=true/\sZ v.patch=true)->T [dz.D v] (.str (ea v.major.toNat++[46]++ea v.minor.toNat++[46]++ea v.patch.toNat))
def YB (Y:Ctx):Prop:=Ac (bU Y 554)
def X7 (Y:Ctx):Prop:=om (bU Y 316)
def rp (T:List D->D->Prop):Prop:=∀(s:av),(s.length<=1048576)->T [.str s] (.tup [dz.D ((hH s).getD hX),.int .i64 (qT s)])
def Yr (Y:Ctx):Prop:=rp (bU Y 466)
def oI (T:List D->D->Prop):Prop:=∀(l:List ct) (nm:av),T [.sl 2 (l.map ct.D),.str nm] (.int .i64 (findF l nm 0))
def Y3 (Y:Ctx):Prop:=oI (bU Y 955)
def YE (Y:Ctx):Prop:=oI (bU Y 663)
def oF (T:List D->D->Prop):Prop:=∀(l:List ct) (nm:av),T [.sl 2 (l.map ct.D),.str nm] (.bool (WA l nm))
def YW (Y:Ctx):Prop:=oF (bU Y 816)
def Yi (Y:Ctx):Prop:=oF (bU Y 449)
def oy (T:List D->D->Prop):Prop:=∀(s:av),(s.length<=1048576)->T [.str s] (.tup [.int .i64 (ec s).1,.str (ec s).2.1,.str (ec s).2.2])
def VI (Y:Ctx):Prop:=oy (bU Y 672)
def Af (T:List D->D->Prop):Prop:=∀(l:List ct) (of:List av),(∀t∈of,t.length<=1048576)->T [.sl 2 (l.map ct.D),.sl 1 (of.map D.str)] (.bool (nv l of))
def YI (Y:Ctx):Prop:=Af (bU Y 671)
def oo (T:List D->D->Prop):Prop:=∀(l:List ct),(y0 l)->T [.sl 2 (l.map ct.D)] (.bool (jn l))
def Yn (Y:Ctx):Prop:=oo (bU Y 459)
def Vx (Y:Ctx):Prop:=oy (bU Y 448)
def XT (Y:Ctx):Prop:=oo (bU Y 213)
def oA (T:List D->D->Prop):Prop:=∀(op:Int),T [.int .i64 op] (.str (er op))
def VK (Y:Ctx):Prop:=oA (bU Y 678)
def VU (Y:Ctx):Prop:=oA (bU Y 957)
def lu (T:List D->D->Prop):Prop:=∀(s:av) (w:av),T [.str s,.str w] (.bool (xr s w))
def KW (Y:Ctx):Prop:=lu (bU Y 1079)
def Y4 (Y:Ctx):Prop:=lu (bU Y 956)
def oz (T:List D->D->Prop):Prop:=∀(c:dZ),(c.v.sm)->T [dZ.D c] (.bool (pJ c))
def VJ (Y:Ctx):Prop:=oz (bU Y 676)
def N2 (Y:Ctx):Prop:=oz (bU Y 827)
def oG (T:List D->D->Prop):Prop:=∀(c:dZ),(c.v.sm)->T [dZ.D c] (.str (eY c))
def VN (Y:Ctx):Prop:=oG (bU Y 828)
def I0 (Y:Ctx):Prop:=∀(c:dZ),(jD c.v=true/\0<=c.parts/\c.parts<=3)->∀(nx:Nat) (m:List (Nat×cr)) (K:D->St->Prop),K (.own nx 1 0 c.parts.toNat) ⟨nx+1,(nx,.buf 1 [.str (ea c.v.major.toNat),.str (ea c.v.minor.toNat),.str (ea c.v.patch.toNat)])::m⟩->Y.tr 677 [dZ.D c] ⟨nx,m⟩ K
def NX (Y:Ctx):Prop:=oG (bU Y 482)
def vE (T:List D->D->Prop):Prop:=∀(s:av),T [.str s] (.tup [.str (jA s 0).1,.str (jA s 0).2])
def KS (Y:Ctx):Prop:=vE (bU Y 1007)
def vD (T:List D->D->Prop):Prop:=∀(s:av),T [.str s] (.tup [.int .i64 (iT s).1,.str (iT s).2])
def KR (Y:Ctx):Prop:=vD (bU Y 1006)
def vF (T:List D->D->Prop):Prop:=∀(l:List av),T [.sl 1 (l.map D.str)] (.tup [dz.D (Fz l),.bool (gJ l)])
def KT (Y:Ctx):Prop:=vF (bU Y 1008)
def Ar (T:List D->D->Prop):Prop:=∀(s:av),(s.length<=1048576)->T [.str s] (.tup [dZ.D ((fG s).getD fH),.int .i64 (if(fG s).isSome=true then 0 else 6)])
def Y0 (Y:Ctx):Prop:=Ar (bU Y 897)
def Ao (T:List D->D->Prop):Prop:=∀(s:av),(s.length<=1048576)->T [.str s] (.tup [dZ.D ((jd s).getD fH),.bool (jd s).isSome])
def YX (Y:Ctx):Prop:=Ao (bU Y 819)
def Aj (T:List D->D->Prop):Prop:=∀(s:av),(s.length<=1048575)->T [.str s] (.tup [dZ.D ((pE s).getD fH),.int .i64 (if(pE s).isSome=true then 0 else 6)])
def YM (Y:Ctx):Prop:=Aj (bU Y 682)
def At (T:List D->D->Prop):Prop:=∀(r:Eu),(qK r)->T [iN r] (.bool (lV r))
def VO (Y:Ctx):Prop:=At (bU Y 899)
def Au (T:List D->D->Prop):Prop:=∀(r:Eu),(lV r=true/\qK r)->T [iN r] (.str (J8 r))
def N3 (Y:Ctx):Prop:=Au (bU Y 900)
def oH (T:List D->D->Prop):Prop:=∀(r:Eu),(qK r)->T [iN r] (.bool (ya r))
def Y2 (Y:Ctx):Prop:=oH (bU Y 901)
def oC (T:List D->D->Prop):Prop:=∀(r:Eu),(qK r)->T [iN r] (.str (B7 r))
def YQ (Y:Ctx):Prop:=oC (bU Y 745)
def As (T:List D->D->Prop):Prop:=∀(s:av),T [.str s] (.str (eB s))
def Y1 (Y:Ctx):Prop:=As (bU Y 898)
def Aq (T:List D->D->Prop):Prop:=∀(s:av),(s.length<=1048576)->T [.str s] (.sl 1 ((aT s []).map D.str))
def YZ (Y:Ctx):Prop:=Aq (bU Y 896)
def oB (T:List D->D->Prop):Prop:=∀(s:av),(s.length<=1048576)->T [.str s] (.tup [iN (iS s).1,.int .i64 (iS s).2])
def YP (Y:Ctx):Prop:=oB (bU Y 744)
def ot (T:List D->D->Prop):Prop:=∀(s:av),(s.length<=1048576)->T [.str s] (.bool (kC s))
def NY (Y:Ctx):Prop:=ot (bU Y 572)
def Al (T:List D->D->Prop):Prop:=∀(r:Eu),(qK r)->T [iN r] (.tup [.str (if lV r=true then J8 r else []),.bool (lV r)])
def N1 (Y:Ctx):Prop:=Al (bU Y 684)
def YO (Y:Ctx):Prop:=oH (bU Y 685)
def VD (Y:Ctx):Prop:=oC (bU Y 496)
def vM (T:List D->D->Prop):Prop:=∀(s:av),(s.length<=1048576)->T [.str s,.str [124,124]] (.sl 1 ((aT s []).map D.str))
def K7 (Y:Ctx):Prop:=vM (bU Y 124)
def Ak (T:List D->D->Prop):Prop:=∀(s:av) (b:UInt8),(b=32)->(s.length<=1048576)->T [.str s,.str [b]] (.str (eB s))
def YN (Y:Ctx):Prop:=Ak (bU Y 683)
def n7 (T:List D->D->Prop):Prop:=∀(r:Rec),(zf r/\mD r)->T [Rec.D r] (.str (gh r))
def Vt (Y:Ctx):Prop:=n7 (bU Y 219)
def Vs (Y:Ctx):Prop:=n7 (bU Y 215)
def VC (Y:Ctx):Prop:=oB (bU Y 495)
def Ye (Y:Ctx):Prop:=ot (bU Y 444)
def Dg (T:List D->D->Prop):Prop:=∀(l:List Nd) (i:Int) (b:Bool),(kQ l/\l.length<=15/\0<=i/\i<l.length)->T [.sl 5 (l.map Nd.D),.int .i64 i,.bool b] (.str (mS (oZ l i) b))
def K9 (Y:Ctx)(u:Nat):Prop:=∀(l:List Nd) (i:Int) (b:Bool),(kQ l/\l.length<=15/\0<=i/\i<l.length)->2*i.toNat+1<u->Y.pre 951 [.sl 5 (l.map Nd.D),.int .i64 i,.bool b]/\Y.val 951 [.sl 5 (l.map Nd.D),.int .i64 i,.bool b]=.str (mS (oZ l i) b)
def oD (T:List D->D->Prop):Prop:=∀(l:List Nd) (i:Int),(kQ l/\l.length<=15/\0<=i/\i<l.length)->T [.sl 5 (l.map Nd.D),.int .i64 i] (.str (oZ l i))
def YS (Y:Ctx):Prop:=oD (bU Y 811)
def Hk (Y:Ctx)(u:Nat):Prop:=∀(l:List Nd) (i:Int),(kQ l/\l.length<=15/\0<=i/\i<l.length)->2*i.toNat<u->Y.pre 811 [.sl 5 (l.map Nd.D),.int .i64 i]/\Y.val 811 [.sl 5 (l.map Nd.D),.int .i64 i]=.str (oZ l i)
def vH (T:List D->D->Prop):Prop:=∀(n:Nd),T [Nd.D n] (.bool (qX n))
def KX (Y:Ctx):Prop:=vH (bU Y 1098)
def Aw (T:List D->D->Prop):Prop:=T [] (.sl 1 (uI.map D.str))
def VQ (Y:Ctx):Prop:=Aw (bU Y 950)
def vI (T:List D->D->Prop):Prop:=∀(k:Int),(0<=k/\k<3)->T [.int .i64 k] (.str (xS k))
def Hi (Y:Ctx):Prop:=vI (bU Y 1099)
def vJ (T:List D->D->Prop):Prop:=∀(s:av) (b:Bool),(s.length<=1000000000)->T [.str s,.bool b] (.str (mS s b))
def KY (Y:Ctx):Prop:=vJ (bU Y 1100)
def KV (Y:Ctx):Prop:=oD (bU Y 1036)
def Dm (Y:Ctx)(u:Nat):Prop:=∀(l:List Nd) (i:Int),(kQ l/\l.length<=15/\0<=i/\i<l.length)->2*i.toNat<u->Y.pre 1036 [.sl 5 (l.map Nd.D),.int .i64 i]/\Y.val 1036 [.sl 5 (l.map Nd.D),.int .i64 i]=.str (oZ l i)
def vG (T:List D->D->Prop):Prop:=∀(l:List Nd),(l.length<=15)->T [.sl 5 (l.map Nd.D)] (.bool (ri l))
def KU (Y:Ctx):Prop:=vG (bU Y 1035)
def Am (T:List D->D->Prop):Prop:=∀(l:List Nd),T [.sl 5 (l.map Nd.D)] (.bool (decide (l.length<=15)&&ri l))
def YR (Y:Ctx):Prop:=Am (bU Y 810)
def ox (T:List D->D->Prop):Prop:=∀(l:List Nd),(kQ l/\l.length<=15)->T [.sl 5 (l.map Nd.D)] (.str (tu l))
def VF (Y:Ctx):Prop:=ox (bU Y 662)
def VT (Y:Ctx):Prop:=ox (bU Y 954)
def ow (T:List D->D->Prop):Prop:=∀(m:Mrk),T [mU m] (.bool (Fs m))
def VE (Y:Ctx):Prop:=ow (bU Y 661)
def VR (Y:Ctx):Prop:=ow (bU Y 953)
def og (T:List D->D->Prop):Prop:=∀(m:Mrk),T [mU m] (.str (prN m))
def Yg (Y:Ctx):Prop:=og (bU Y 446)
def YV (Y:Ctx):Prop:=og (bU Y 814)
def Av (T:List D->D->Prop):Prop:=∀(w:List av) (es:List D) (b:Bool),T [.ref 3 [jG w (.sl 5 es) b] 0 0] (.str (bD w))
def VP (Y:Ctx):Prop:=Av (bU Y 946)
def Cg (Y:Ctx):Prop:=∀(w:List av) (nd:List Nd) (b:Bool),PrsK Y 3 jG 947 [] w nd b (fun o=>o=⟨0,cv w,nd,eu w b⟩) (fun _=>.str (bD w))
def Dn (Y:Ctx):Prop:=∀(x:Nd) (w:List av) (nd:List Nd) (b:Bool),nd.length<=2000->ru Y 3 jG 948 [Nd.D x] w nd b (fun o=>o=⟨(nd.length:Nat),w,nd++[x],b⟩) Va
def yC (Y:Ctx):Prop:=∀(k:av) (w:List av) (nd:List Nd) (b:Bool),nd.length+2*w.length<=1000->ru Y 3 jG 1031 [.str k] w nd b (fh (qg b k w nd) w nd) Va
def C808 (Y:Ctx):Prop:=(∀(w:List av) (nd:List Nd),nd.length+2*w.length<=1000->ru Y 3 jG 808 [.str rD,.int .i64 4,.fn 809 []] w nd false (fh (jR w nd) w nd) Va)/\(∀(w:List av) (nd:List Nd),nd.length+2*w.length<=1000->ru Y 3 jG 808 [.str lr,.int .i64 3,.fn 949 []] w nd false (fh (kG w nd) w nd) Va)
def Hj (Y:Ctx)(u:Nat):Prop:=(∀(w:List av) (nd:List Nd),nd.length+2*w.length<=1000->6*w.length+3<u->ru Y 3 jG 808 [.str rD,.int .i64 4,.fn 809 []] w nd false (fh (jR w nd) w nd) Va)/\(∀(w:List av) (nd:List Nd),nd.length+2*w.length<=1000->6*w.length+1<u->ru Y 3 jG 808 [.str lr,.int .i64 3,.fn 949 []] w nd false (fh (kG w nd) w nd) Va)
def IY (Y:Ctx):Prop:=∀(w:List av) (nd:List Nd),nd.length+2*w.length<=1000->ru Y 3 jG 660 [] w nd false (fh (jR w nd) w nd) Va
def K6 (Y:Ctx)(u:Nat):Prop:=∀(w:List av) (nd:List Nd),nd.length+2*w.length<=1000->6*w.length+4<u->ru Y 3 jG 660 [] w nd false (fh (jR w nd) w nd) Va
def C809 (Y:Ctx):Prop:=∀(w:List av) (nd:List Nd),nd.length+2*w.length<=1000->ru Y 3 jG 809 [] w nd false (fh (kG w nd) w nd) Va
def TG (Y:Ctx)(u:Nat):Prop:=∀(w:List av) (nd:List Nd),nd.length+2*w.length<=1000->6*w.length+2<u->ru Y 3 jG 809 [] w nd false (fh (kG w nd) w nd) Va
def C949 (Y:Ctx):Prop:=∀(w:List av) (nd:List Nd),nd.length+2*w.length<=1000->ru Y 3 jG 949 [] w nd false (fh (kq w nd) w nd) Va
def K8 (Y:Ctx)(u:Nat):Prop:=∀(w:List av) (nd:List Nd),nd.length+2*w.length<=1000->6*w.length+0<u->ru Y 3 jG 949 [] w nd false (fh (kq w nd) w nd) Va
def take_cons {Y:Ctx}(h:Cg Y){x:av}(hx:x≠[])(r:List av)(nd:List Nd)(b:Bool):PrsK Y 3 jG 947 [] (x::r) nd b (fun o=>o=⟨0,r,nd,b⟩) (fun _=>.str x):=by
 have:=h (x::r) nd b;rw[lJ hx,lI hx]at this;exact this
def V6 {bad:Bool}{w:List av}{wd:av}(h:(!bad&&decide (bD w=wd))=false):bad=true\/w.head? ≠some wd:=by
 cases bad with
 |true=>exact .inl rfl
 |false=>
  right;simp only[Bool.not_false,gM,bC]at h
  match w,h with
  |[],_=>simp
  |x::r,h=>intro e;exact h (show x=wd by simpa using e)
def oe (T:List D->D->Prop):Prop:=∀(s:av),T [.str s] (.tup [mU (oU s).1,.int .i64 (oU s).2])
def Yf (Y:Ctx):Prop:=oe (bU Y 445)
def n5 (T:List D->D->Prop):Prop:=∀(s:av),T [.str s] (.bool (tf s))
def Vr (Y:Ctx):Prop:=n5 (bU Y 212)
def tR (Y:Ctx):Prop:=∀(s:av) (W w:List av) (nd:List Nd) (b:Bool),w<:+W/\W.length<=1000->PrsK Y 4 (j5 W) 1033 [.str s] w nd b (fun o=>o=⟨0,q9 w s,nd,b⟩) (fun _=>.bool (iJ w s))
def yE (Y:Ctx):Prop:=∀(W w:List av) (nd:List Nd) (b:Bool),w<:+W/\W.length<=1000->PrsK Y 4 (j5 W) 1141 [] w nd b (fun o=>o=⟨0,w.drop 1,nd,rB w b⟩) (fun _=>.str (bD w))
def tx (Y:Ctx):Prop:=∀(x:Nd) (W w:List av) (nd:List Nd) (b:Bool),nd.length<=2000->ru Y 4 (j5 W) 1034 [Nd.D x] w nd b (fun o=>o=⟨(nd.length:Nat),w,nd++[x],b⟩) Va
def rB3 {w:List av}{a b c:av}{r:List av}(h:w=a::b::c::r):rB ((w.drop 1).drop 1) (rB (w.drop 1) (rB w false))=false/\((w.drop 1).drop 1).drop 1=r:=by subst h;exact⟨rfl,rfl⟩
def yD (Y:Ctx):Prop:=∀(W w:List av) (nd:List Nd),w<:+W/\W.length<=1000->nd.length+2*w.length<=1000->ru Y 4 (j5 W) 1126 [] w nd false (fh (ER w nd) w nd) Va
def TE (Y:Ctx):Prop:=∀(W w:List av) (nd:List Nd),w<:+W/\W.length<=1000->nd.length+2*w.length<=1000->ru Y 4 (j5 W) 1097 [] w nd false (fh (kq w nd) w nd) Va
def Ay (Y:Ctx)(u:Nat):Prop:=∀(W w:List av) (nd:List Nd),w<:+W/\W.length<=1000->nd.length+2*w.length<=1000->6*w.length+0<u->ru Y 4 (j5 W) 1097 [] w nd false (fh (kq w nd) w nd) Va
def TD (Y:Ctx):Prop:=∀(W w:List av) (nd:List Nd),w<:+W/\W.length<=1000->nd.length+2*w.length<=1000->ru Y 4 (j5 W) 1032 [] w nd false (fh (kG w nd) w nd) Va
def Dl (Y:Ctx)(u:Nat):Prop:=∀(W w:List av) (nd:List Nd),w<:+W/\W.length<=1000->nd.length+2*w.length<=1000->6*w.length+1<u->ru Y 4 (j5 W) 1032 [] w nd false (fh (kG w nd) w nd) Va
def I1 (Y:Ctx):Prop:=∀(W w:List av) (nd:List Nd),w<:+W/\W.length<=1000->nd.length+2*w.length<=1000->ru Y 4 (j5 W) 952 [] w nd false (fh (jR w nd) w nd) Va
def La (Y:Ctx)(u:Nat):Prop:=∀(W w:List av) (nd:List Nd),w<:+W/\W.length<=1000->nd.length+2*w.length<=1000->6*w.length+2<u->ru Y 4 (j5 W) 952 [] w nd false (fh (jR w nd) w nd) Va
def YU (Y:Ctx):Prop:=oe (bU Y 813)
def VH (Y:Ctx):Prop:=n5 (bU Y 670)
def KH (T:List D->D->Prop):Prop:=∀(s:av) (b:Int),T [.str s,.int .u8 b] (.int .i64 ((aP s b).2.length:Nat))
def C741 (Y:Ctx):Prop:=KH (bU Y 741)
def KI (T:List D->D->Prop):Prop:=∀(l:List av),T [.sl 1 (l.map D.str)] (.tup [dz.D (eS l).1,.bool (eS l).2])
def C742 (Y:Ctx):Prop:=KI (bU Y 742)
def C568 (Y:Ctx):Prop:=rp (bU Y 568)
def Ab (T:List D->D->Prop):Prop:=∀(l:List av) (x:av),T [.sl 1 (l.map D.str),.str x] (.int .i64 (A3 l x 0))
def YA (Y:Ctx):Prop:=Ab (bU Y 494)
def zO (T:List D->D->Prop):Prop:=∀(l:List av) (x:av),T [.sl 1 (l.map D.str),.str x] (.bool (decide (x∈l)))
def Vv (Y:Ctx):Prop:=zO (bU Y 246)
def zN (T:List D->D->Prop):Prop:=∀(s:av) (n:Int),(s.length<=1048576)->(n=-1\/(1<=n/\n<=1000))->T [.str s,.str [32],.int .i64 n] (.sl 1 ((eZ n s).map D.str))
def Vu (Y:Ctx):Prop:=zN (bU Y 245)
def z7 (T:List D->D->Prop):Prop:=∀(l:List av),(l.length<=1048600)->T [.sl 1 (l.map D.str)] (.sl 1 (l.map D.str))
def Ys (Y:Ctx):Prop:=z7 (bU Y 469)
def NU (Y:Ctx):Prop:=∀(r:Ld) (w:av) (n:Nat) (op:Bool),(r.sm)->(n<=1000)->(op=true->1<=n)->Y.fp 465 (Ld.D r) [.str w,.int .i64 (n:Nat),.bool op]/\Y.fv 465 (Ld.D r) [.str w,.int .i64 (n:Nat),.bool op]=.tup [Bl (cu w n op r.rest),.bool (cu w n op r.rest).isSome]/\Y.fs 465 (Ld.D r) [.str w,.int .i64 (n:Nat),.bool op]=Ld.D (r.after (cu w n op r.rest))
def Ld.Kg {r:Ld}(h:r.sm):r.to r.rest=r:=by
 obtain⟨ls,n⟩:=r;have h1:n<=ls.length:=h.1.1
 grind [Ld.to,Ld.rest]
def Ld.C7 {r:Ld}{q:List av}(h:q<:+r.ls):(r.to q).rest=q:=by
 obtain⟨ls,n⟩:=r;obtain⟨a,e⟩:=h;simp only at e;subst e;simp[Ld.rest,Ld.to]
theorem Ld.sm.to {r:Ld}(h:r.sm)(q:List av):(r.to q).sm:=⟨⟨Nat.sub_le _ _,h.1.2⟩,h.2⟩
def Ld.F6 (r:Ld):r.rest<:+r.ls:=List.drop_suffix _ _
def fI (w:av)(n:Nat)(op:Bool)(p:List av):List av:=match cu w n op p with
 |some (_,q)=>q
 |none=>p
theorem sb {w:av}{n:Nat}{op:Bool}{p l q:List av}(h:cu w n op p=some (l,q)):q<:+p:=by
 grind [eL]
def Ld.Lp {r:Ld}{p:List av}(hp:p<:+r.ls){w:av}{n:Nat}{op:Bool}:(r.to p).after (cu w n op p)=r.to (fI w n op p):=by
 grind [fI,cu,kA,Ld.after,Ld.to]
def CY {Y:Ctx}(h:NU Y){r:Ld}(hr:r.sm){p:List av}(hp:p<:+r.ls){w:av}{n:Nat}{op:Bool}(hn:n<=1000)(ho:op=true->1<=n):
  Y.fp 465 (Ld.D (r.to p)) [.str w,.int .i64 (n:Nat),.bool op]/\Y.fv 465 (Ld.D (r.to p)) [.str w,.int .i64 (n:Nat),.bool op]=.tup [Bl (cu w n op p),.bool (cu w n op p).isSome]/\Y.fs 465 (Ld.D (r.to p)) [.str w,.int .i64 (n:Nat),.bool op]=Ld.D (r.to (fI w n op p)):=by
 have:=h (r.to p) w n op (hr.to p) hn ho;rw[Ld.C7 hp,Ld.Lp hp]at this;exact this
def Bf {w:av}{n:Nat}{op:Bool}{t:av}{l:List av}(h:eC w n op t=some l):(n=0\/l.length=n)/\[]∉l/\l=eU n op t:=by
 grind [eC]
theorem qv (x:UInt8):∀(l:List av) (n:Nat),(aO [x] (l.drop n)).length<=(aO [x] l).length
 |[],n=>aI
 |a::r,0=>aH _
 |[a],n+1=>by simp[aO]
 |a::b::r,n+1=>by
  have:=qv x (b::r) n
  grind [eK]
def NA {n:Nat}{op:Bool}{t w:av}(h:w∈eU n op t):w.length<=t.length:=by
 unfold eU at h;split at h
 .unfold kL at h;split at h
  .exact cG t 32 h
  .rw[List.mem_append]at h;rcases h with h|h
   .exact cG t 32 (jN h)
   grind [qv,ai,iz]
 .exact cG t 32 h
def ra {r:Ld}(hr:r.sm){p:List av}(hp:p<:+r.ls){w:av}{n:Nat}{op:Bool}{l q:List av}(h:cu w n op p=some (l,q)):
  (n=0\/l.length=n)/\(∀u∈l,u.length<=1048576)/\q<:+r.ls/\q.length+1=p.length:=by
 obtain⟨t,rfl,ht⟩:=eL h;obtain⟨h1,_,h3⟩:=Bf ht;refine⟨h1,fun u hu=>?_,(List.suffix_cons _ _).trans hp,rfl⟩;rw[h3]at hu;have:=NA hu;have:=hr.2 t (hp.subset (.head _));omega
def Ld.back {r:Ld}{t:av}{q:List av}(h:(t::q)<:+r.ls):Bz (Ld.D (r.to q)) 2 1 1 (.int .i64 (((r.to q).at':Nat) -1:Int))=Ld.D (r.to (t::q)):=by
 have:=h.length_le;show D.agg [.sl 1 (r.ls.map D.str),.int .i64 (((r.ls.length-q.length:Nat):Int) -1)]=D.agg [.sl 1 (r.ls.map D.str),.int .i64 ((r.ls.length-(q.length+1):Nat):Int)]
 grind
def kY {α:Type}{o:Option α}(h:o.isSome=true):∃a,o=some a:=Option.isSome_iff_exists.1 h
theorem kX {α:Type}{o:Option α}(h:o.isSome=false):o=none:=by cases o with
 |none=>rfl
 |some a=>cases h
def bX.N (x:bX):Go.Abs.D:=.agg [.str x.name,.str x.range,nlS x.feats,.bool x.bare]
def aio:∀l:List av,CH (nlS l) (.sl 1 (l.map D.str))
 |[]=>.nil 1
 |_::_=>.refl _
def bX.wk (x:bX):CH x.N x.D:=.ag (.cons (.refl _) (.cons (.refl _) (.cons (aio _) (.cons (.refl _) .nil))))
def bX.qV (x:bX):x.N.bN=true:=by
 simp only[bX.N,D.bN,bK,H3,kn]
def zB {p:List av}(h:cu ib 5 true p=none):cV p=([],p):=by
 match p,h with
 |[],_=>rfl
 |t::r,h=>
  grind [cu,cV]
def Ty {p l q:List av}(h:cu ib 5 true p=some (l,q))(ho:mi l=false):cV p=([],p):=by
 grind [eL,cV]
theorem Ce {p l q:List av}(h:cu ib 5 true p=some (l,q))(ho:mi l=true):cV p=(iH l::(cV q).1,(cV q).2):=by
 grind [eL,cV]
def p9 (s:av)(b:Int):ai s b≠[]:=by
 grind [eN,ai]
def aaz {l:List av}(h:l≠[]):nlS l=.sl 1 (l.map D.str):=by
 match l,h with
 |_::_,_=>rfl
def lU (p:List av):(cI p).2<:+p:=by
 grind [cI,sb]
def aaO (p:List av):(qD p).2<:+p:=by
 grind [qD,sb]
def NV (Y:Ctx):Prop:=∀(r:Ld),(r.sm)->Y.fp 468 (Ld.D r) []/\Y.fv 468 (Ld.D r) []=.str (cI r.rest).1/\Y.fs 468 (Ld.D r) []=Ld.D (r.to (cI r.rest).2)
def Kr {Y:Ctx}(h:NV Y){r:Ld}(hr:r.sm){p:List av}(hp:p<:+r.ls):Y.fp 468 (Ld.D (r.to p)) []/\Y.fv 468 (Ld.D (r.to p)) []=.str (cI p).1/\Y.fs 468 (Ld.D (r.to p)) []=Ld.D (r.to (cI p).2):=by
 have:=h (r.to p) (hr.to p);rw[Ld.C7 hp]at this;exact this
def VA (Y:Ctx):Prop:=∀(r:Ld),(r.sm)->Y.fp 467 (Ld.D r) []/\Y.fv 467 (Ld.D r) []=bo.D (eQ r.rest).1/\Y.fs 467 (Ld.D r) []=Ld.D (r.to (eQ r.rest).2)
def wX (Y:Ctx):Prop:=∀(r:Ld) (w:av) (n:Nat) (op:Bool) (l nx:Nat) (m:List (Nat×cr)) (K:D->St->Prop),r.sm->n<=1000->(op=true->1<=n)->look m l=some (.buf 2 [Ld.D r])->
 K (.tup [Bl (cu w n op r.rest),.bool (cu w n op r.rest).isSome]) ⟨nx,ep m l (.buf 2 [Ld.D (r.after (cu w n op r.rest))])⟩->Y.tr 465 [.ptr l 2 0 0,.str w,.int .i64 (n:Nat),.bool op] ⟨nx,m⟩ K
def CZ {Y:Ctx}(h:wX Y){r:Ld}(hr:r.sm){p:List av}(hp:p<:+r.ls){w:av}{n:Nat}{op:Bool}(hn:n<=1000)(ho:op=true->1<=n){nx:Nat}{m:List (Nat×cr)}{K:D->St->Prop}(hl:look m 0=some (.buf 2 [Ld.D (r.to p)]))
  (hK:K (.tup [Bl (cu w n op p),.bool (cu w n op p).isSome]) ⟨nx,ep m 0 (.buf 2 [Ld.D (r.to (fI w n op p))])⟩):Y.tr 465 [.ptr 0 2 0 0,.str w,.int .i64 (n:Nat),.bool op] ⟨nx,m⟩ K:=by
 refine h (r.to p) w n op 0 nx m K (hr.to p) hn ho hl ?_;rw[Ld.C7 hp,Ld.Lp hp];exact hK
def adt {Y:Ctx}(h:VA Y){r:Ld}(hr:r.sm){p:List av}(hp:p<:+r.ls):Y.fp 467 (Ld.D (r.to p)) []/\Y.fv 467 (Ld.D (r.to p)) []=bo.D (eQ p).1/\Y.fs 467 (Ld.D (r.to p)) []=Ld.D (r.to (eQ p).2):=by
 have:=h (r.to p) (hr.to p);rw[Ld.C7 hp]at this;exact this
def rk:∀p:List av,(cV p).2<:+p
 |[]=>nQ _
 |t::r=>by
  simp only[cV];split
  .split
   .exact(rk r).trans (List.suffix_cons _ _)
   .exact nQ _
  .exact nQ _
def wj (p:List av):(eQ p).2<:+p:=(aaO _).trans ((lU _).trans (rk p))
def LD {p:List av}(h:cu cw 0 false p=none):dS p=([],p):=by
 match p,h with
 |[],_=>rfl
 |t::r,h=>
  grind [cu,dS]
def Wi {p l q:List av}(h:cu cw 0 false p=some (l,q))(ho:¬2<=l.length):dS p=([],p):=by
 grind [eL,dS]
def R3 {p l q:List av}(h:cu cw 0 false p=some (l,q))(ho:2<=l.length):dS p=(⟨l[1]!,l.drop 2⟩::(dS q).1,(dS q).2):=by
 grind [eL,dS]
def gF (ls:List av):Rec×List av:=match pA ls with
 |some p=>p
 |none=>(lh,ls)
def dM:D:=.agg [.str [],.int .i64 0,.int .i64 0,.int .i64 0,.str [],.str [],.bg,.bg,.bg]
def nU:CH dM lh.D:=.ag (.cons (.refl _) (.cons (.refl _) (.cons (.refl _) (.cons (.refl _) (.cons (.refl _) (.cons (.refl _) (.cons (.nil 3) (.cons (.nil 3) (.cons (.nil 2) .nil)))))))))
def se (nm:av)(v:dz)(n b f:D):D:=.agg [.str nm,.int .i64 v.major,.int .i64 v.minor,.int .i64 v.patch,.str v.pre,.str v.build,n,b,f]
def ai4 {s:av}(h:qT s=0):∃v,hH s=some v:=by
 unfold qT at h;split at h
 .rename_i hs;exact kY hs
 .cases h
def ai3 {s:av}(h:¬qT s=0):hH s=none:=by
 grind [qT,kX]
theorem IG (n:Nat)(op:Bool)(t:av):(eU n op t).length<=t.length+1:=by
 grind [cJ,eN,eU,kL,ai]
def aay {r:Ld}(hr:r.sm){p:List av}(hp:p<:+r.ls){w:av}{n:Nat}{op:Bool}{l q:List av}(h:cu w n op p=some (l,q)):l.length<=1048577:=by
 obtain⟨t,rfl,ht⟩:=eL h;obtain⟨_,_,h3⟩:=Bf ht;have:=IG n op t;have:=hr.2 t (hp.subset (.head _));rw[h3];omega
def XW (Y:Ctx):Prop:=∀(r:Ld),(r.sm)->Y.fp 222 (Ld.D r) []/\Y.fv 222 (Ld.D r) []=.tup [Rec.D (gF r.rest).1,.bool (pA r.rest).isSome]/\Y.fs 222 (Ld.D r) []=Ld.D (r.to (gF r.rest).2)
def GO (p:List av):Prop:=∀t∈p,t.length<=1048576
def GO.get {l:List av}(h:GO l)(i:Nat):l[i]!.length<=1048576:=by
 rcases iZ i l.length with hi|hi
 .exact h _ (bL hi)
 .simp[hi];exact Nat.zero_le _
def GO.next {p:List av}(hp:GO p){w:av}{n:Nat}{op:Bool}{l q:List av}(h:cu w n op p=some (l,q)):GO l/\GO q/\l.length<=1048577:=by
 obtain⟨t,rfl,ht⟩:=eL h;obtain⟨_,_,h3⟩:=Bf ht;have h0:=hp t (.head _);refine⟨fun u hu=>?_,fun u hu=>hp u (.tail _ hu), ?_⟩
 .rw[h3]at hu;have:=NA hu;omega
 grind [IG]
def GO.BC {p q:List av}(hp:GO p)(h:q<:+p):GO q:=fun t ht=>hp t (h.subset ht)
def XG {l:List av}(h:GO l):(iH l).sm:=by
 refine⟨⟨h.get 1,h.get 4⟩,fun t ht=>?_⟩;unfold iH at ht;simp only at ht;split at ht
 .cases ht
 .have:=cG _ _ ht;have:=h.get 2;omega
def Uv {w:av}{n:Nat}{op:Bool}{t:av}{r l:List av}(h:eC w n op t=some l):cu w n op (t::r)=some (l,r):=by simp only[cu,h]
def GC:∀p:List av,GO p->∀x∈(cV p).1,x.sm
 |[],_,x,hx=>by simp[cV]at hx
 |t::r,hp,x,hx=>by
  have ih:=GC r (fun u hu=>hp u (.tail _ hu));simp only[cV]at hx;split at hx
  .rename_i l hl;split at hx
   .simp only[ca]at hx;rcases hx with rfl|hx
    .exact XG (hp.next (Uv (r:=r) hl)).1
    .exact ih x hx
   .simp at hx
  .simp at hx
def Ny {p:List av}(hp:GO p):(cI p).1.length<=1048576:=by
 unfold cI;split
 .rename_i h;exact(hp.next h).1.get 1
 .simp
def adD {p:List av}(hp:GO p):(qD p).1.length<=1048576:=by
 unfold qD;split
 .rename_i h;exact(hp.next h).1.get 1
 .simp
theorem aaw {p:List av}(hp:GO p):(eQ p).1.sm:=⟨GC p hp,Ny (hp.BC (rk p)),adD ((hp.BC (rk p)).BC (lU _))⟩
def HZ:∀(f:Nat) (p:List av),GO p->(∀x∈(px f p).1,x.sm)/\(px f p).2<:+p
 |0,p,_=>⟨fun x hx=>by simp[px]at hx,nQ _⟩
 |f+1,p,hp=>by
  simp only[px];split
  .rename_i l r h;have hr:=(hp.next h).2.1;obtain⟨i1,i2⟩:=HZ f (eQ r).2 (hr.BC (wj r));refine⟨fun x hx=>?_,i2.trans ((wj r).trans (sb h))⟩
   grind [aaw]
  grind
def Lt:∀(f:Nat) (p:List av),GO p->(∀x∈(tz f p).1,x.sm)/\(tz f p).2<:+p
 |0,p,_=>⟨fun x hx=>by simp[tz]at hx,nQ _⟩
 |f+1,p,hp=>by
  simp only[tz];split
  .rename_i l r h;obtain⟨hl,hr,_⟩:=hp.next h;obtain⟨i1,i2⟩:=Lt f (cI r).2 (hr.BC (lU r));refine⟨fun x hx=>?_,i2.trans ((lU r).trans (sb h))⟩;simp only[ca]at hx;rcases hx with rfl|hx
   .exact⟨hl.get 1,hl.get 2,Ny hr⟩
   .exact i1 x hx
  grind
def HD:∀(p:List av),GO p->(∀x∈(dS p).1,x.sm)/\(dS p).2<:+p
 |[],_=>⟨fun x hx=>by simp[dS]at hx,nQ _⟩
 |t::r,hp=>by
  obtain⟨i1,i2⟩:=HD r (fun u hu=>hp u (.tail _ hu));simp only[dS];split
  .rename_i l hl;obtain⟨hlm,_,hll⟩:=hp.next (Uv (r:=r) hl);split
   .refine⟨fun x hx=>?_,i2.trans (List.suffix_cons _ _)⟩;simp only[ca]at hx;rcases hx with rfl|hx
    .refine⟨hlm.get 1, ?_,fun u hu=>hlm u (List.mem_of_mem_drop hu)⟩;simp only[kT];omega
    .exact i1 x hx
   .exact⟨fun x hx=>by simp at hx,nQ _⟩
  .exact⟨fun x hx=>by simp at hx,nQ _⟩
theorem C4:mD lh:=⟨⟨aG,aG,aG⟩,fun n hn=>(by cases hn),fun n hn=>(by cases hn),fun n hn=>(by cases hn)⟩
theorem JW {p:List av}(hp:GO p):mD (gF p).1/\(gF p).2<:+p:=by
 unfold gF pA;cases h:cu ee 3 false p with
 |none=>exact⟨C4,nQ _⟩
 |some lq=>
  obtain⟨l,r⟩:=lq;obtain⟨hl,hr,_⟩:=hp.next h;simp only;cases hv:hH l[2]! with
  |none=>exact⟨C4,nQ _⟩
  |some v=>
   have hvs:=ad8 (hl.get 2);rw[hv]at hvs;obtain⟨n1,n2⟩:=HZ r.length r hr;obtain⟨b1,b2⟩:=Lt (fj r).2.length (fj r).2 (hr.BC n2);obtain⟨f1,f2⟩:=HD (jx (fj r).2).2 ((hr.BC n2).BC b2);exact⟨⟨⟨hl.get 1,hvs⟩,n1,b1,f1⟩,f2.trans (b2.trans (n2.trans (sb h)))⟩
def cW (s:av):Rec×Int×Int:=
 if 4096<s.length then(lh,3,0)
 else
  let ls:=(ai s 10).take ((ai s 10).length-1)
  if(pA ls).isSome=false\/(gF ls).2≠[]\/(ai s 10)[(ai s 10).length-1]! ≠[]then(lh,2,((ls.length-(gF ls).2.length:Nat):Int)+1)
  else if(cE (gF ls).1).1≠0 then(lh,(cE (gF ls).1).1,0)
  else((gF ls).1,0,0)
def zF (T:List D->D->Prop):Prop:=∀(r:Rec) (name:av) (yn:av),(yn.length<=1048576)->T [Rec.D r,.str name,.str yn] (.int .i64 (gS r name yn))
def Vq (Y:Ctx):Prop:=zF (bU Y 211)
def od (T:List D->D->Prop):Prop:=∀(r:Rec) (w:bX) (al:Bool),(w.sm)->T [Rec.D r,bX.D w,.bool al] (.int .i64 (kH r w al))
def Yd (Y:Ctx):Prop:=od (bU Y 443)
def nZ (T:List D->D->Prop):Prop:=∀(r:Rec) (n:bo),(n.sm)->T [Rec.D r,bo.D n] (.int .i64 (jS r n))
def XS (Y:Ctx):Prop:=nZ (bU Y 210)
def zG (T:List D->D->Prop):Prop:=∀(r:Rec) (s:av),(s.length<=1048576)->T [Rec.D r,.str s] (.int .i64 (kZ r s))
def XU (Y:Ctx):Prop:=zG (bU Y 214)
def rE (T:List D->D->Prop):Prop:=∀(r:Rec),(mD r)->T [Rec.D r] (.tup [.int .i64 (cE r).1,.int .i64 (cE r).2])
def C70 (Y:Ctx):Prop:=rE (bU Y 70)
def vK (T:List D->D->Prop):Prop:=∀(s:av),T [.str s] (.tup [Rec.D (cW s).1,.int .i64 (cW s).2.1,.int .i64 (cW s).2.2])
def C76 (Y:Ctx):Prop:=vK (bU Y 76)
def ym (t:av)(n:Nat):Bool:=decide (n<(ai t 32).length)&&c9 (fun i=>!decide ((ai t 32)[i]! =[])) 0 n
def iK (t:av)(n:Nat):List av×av×Bool:=if ym t n=true then((ai t 32).take n,aO [32] ((ai t 32).drop n),!decide (aO [32] ((ai t 32).drop n)=[]))else([],[],false)
theorem JF {l:List av}{n:Nat}{x:av}(hn:n<=l.length):x∈l.take n↔∃i,i<n/\l[i]! =x:=by
 constructor
 .intro h;obtain⟨i,hi,e⟩:=List.mem_iff_getElem.1 h;rw[eF]at hi;refine⟨i,ae, ?_⟩
  grind
 .rintro⟨i,hi,rfl⟩;have:l[i]! =(l.take n)[i]! :=by simp[hi,show i<l.length by omega]
  grind
theorem J6 (t:av)(n:Nat):qH t n=if(iK t n).2.2=true then some ((iK t n).1,(iK t n).2.1)else none:=by
 grind [qH,iK,ym,ai,c9,fN,JF,aO]
def Mk (l:List av)(n:Nat):Bk l n=(decide (l.length=n)&&c9 (fun i=>!decide (l[i]! =[])) 0 l.length):=by
 grind [uP,fN,bL,zm]
def aJ (s:av):List av×Bool:=if(ai s 10)[(ai s 10).length-1]! =[]then((ai s 10).take ((ai s 10).length-1),true)else(ai s 10,false)
def KB (T:List D->D->Prop):Prop:=∀(s:av) (n:Nat),(s.length<=1048576)->(n<=100)->T [.str s,.int .i64 (n:Nat)] (.tup [.sl 1 ((iK s n).1.map D.str),.str (iK s n).2.1,.bool (iK s n).2.2])
def Yw (Y:Ctx):Prop:=KB (bU Y 475)
def KA (T:List D->D->Prop):Prop:=∀(l:List av) (n:Nat),T [.sl 1 (l.map D.str),.int .i64 (n:Nat)] (.bool (Bk l n))
def C474 (Y:Ctx):Prop:=KA (bU Y 474)
def Ks (T:List D->D->Prop):Prop:=∀(s:av),(s.length<=1048576)->T [.str s] (.tup [.sl 1 ((aJ s).1.map D.str),.bool (aJ s).2])
def C223 (Y:Ctx):Prop:=Ks (bU Y 223)
end Go.Abs
section
namespace Go.Abs
def Bu (t:av)(n:Nat)(h:(iK t n).2.2=true):(iK t n).1.length=n:=by
 grind [iK,ym]
def F5 (t:av)(n:Nat):∀w∈(iK t n).1,w.length<=t.length:=by
 unfold iK;split
 .intro w hw;exact cG t 32 (jN hw)
 .intro w hw;cases hw
def mV (j:Nat)(n:bo):D:=.agg [.own j 4 0 n.any.length,.str n.when',.str n.option]
def fE (j:Nat):List bo->List D
 |[]=>[]
 |[n]=>[mV j n]
 |a::b::r=>bo.D a::fE j (b::r)
def pd:List bo->List D
 |[]=>[]
 |[n]=>n.any.map bX.N
 |_::b::r=>pd (b::r)
def iA (j:Nat)(n:bo):∀N:List bo,fE j (N++[n])=N.map bo.D++[mV j n]
 |[]=>rfl
 |[a]=>rfl
 |a::b::r=>by
  have:=iA j n (b::r)
  grind [fE]
def ko (n:bo):∀N:List bo,pd (N++[n])=n.any.map bX.N
 |[]=>rfl
 |[a]=>rfl
 |a::b::r=>by
  have:=ko n (b::r)
  grind [pd]
def wB {α:Type}{l:List α}(h:l≠[]):∃a x,l=a++[x]:=⟨l.dropLast,l.getLast h,(List.dropLast_concat_getLast h).symm⟩
def oR {α:Type}(l:List α)(a d:α)(n:Nat)(h:n=l.length):(l++[a]).getD n d=a:=by subst h;simp[List.getD]
def sv {α:Type}(l:List α)(a b:α)(n:Nat)(h:n=l.length):(l++[a]).set n b=l++[b]:=by subst h;simp
def p8 (nm:av)(v:dz)(a b c:Nat)(st:Int)(j1 j3 j4:Nat):D:=.agg [.str nm,.int .i64 v.major,.int .i64 v.minor,.int .i64 v.patch,.str v.pre,.str v.build,.own j1 3 0 a,.own j3 3 0 b,.own j4 2 0 c,.int .i64 st]
def RdM (x:j6)(j0 j1 j2 j3 j4:Nat):List (Nat×cr):=[(j0,.buf 10 [p8 x.r.name x.r.v x.r.needs.length x.r.bars.length x.r.feats.length (x.st:Nat) j1 j3 j4]),(j1,.buf 3 (fE j2 x.r.needs)),(j2,.buf 4 (pd x.r.needs)),(j3,.buf 3 (x.r.bars.map fZ.D)),(j4,.buf 2 (x.r.feats.map ct.D))]
structure RdAt (m:List (Nat×cr))(x:j6)(j0 j1 j2 j3 j4:Nat):Prop where
 a0:look m j0=some (.buf 10 [p8 x.r.name x.r.v x.r.needs.length x.r.bars.length x.r.feats.length (x.st:Nat) j1 j3 j4])
 a1:look m j1=some (.buf 3 (fE j2 x.r.needs))
 a2:look m j2=some (.buf 4 (pd x.r.needs))
 a3:look m j3=some (.buf 3 (x.r.bars.map fZ.D))
 a4:look m j4=some (.buf 2 (x.r.feats.map ct.D))
def xM (a b c d e:Nat):Bool:=!(Nat.beq a b ||Nat.beq a c ||Nat.beq a d ||Nat.beq a e ||Nat.beq b c ||Nat.beq b d ||Nat.beq b e ||Nat.beq c d ||Nat.beq c e ||Nat.beq d e)
def AE (o:Option j6)(j0 L:Nat):List (Nat×cr):=match o with
 |some y=>RdM y j0 L (L+1) (L+2) (L+3)
 |none=>[]
def Lj (m:List (Nat×cr))(j0 j1 j2 j3 j4:Nat):List (Nat×cr):=cM (cM (cM (cM (cM m j0) j1) j2) j3) j4
def RdQ (out:Option j6):D->List (Nat×cr)->Prop:=fun d m=>d=.bool out.isSome/\∀y,out=some y->∃j1 j2 j3 j4,xM 0 j1 j2 j3 j4=true/\RdAt m y 0 j1 j2 j3 j4
def RdC (Y:Ctx)(n:Nat)(am7:List D)(x:j6)(out:Option j6):Prop:=∀(nx j0 j1 j2 j3 j4:Nat) (m:List (Nat×cr)) (K:D->St->Prop),RdAt m x j0 j1 j2 j3 j4->xM j0 j1 j2 j3 j4=true->(j0<nx/\j1<nx/\j2<nx/\j3<nx/\j4<nx)->
 K (.bool out.isSome) ⟨nx+4,AE out j0 nx++Lj m j0 j1 j2 j3 j4⟩->Y.tr n (.ptr j0 10 0 0::am7) ⟨nx,m⟩ K
def j6.ok (x:j6):Prop:=(x.st=0->x.r.needs=[]/\x.r.bars=[]/\x.r.feats=[])/\((x.st=2\/x.st=3)->x.r.needs≠[])/\(x.st=5->x.r.bars≠[])
def xc (l:List bo):Nat:=(l.getLast?.map fun n=>n.any.length).getD 0
def j6.sz (x:j6):Nat:=x.r.needs.length+x.r.bars.length+x.r.feats.length+xc x.r.needs
def tc (N:List bo)(n:bo):xc (N++[n])=n.any.length:=by simp[xc]
def uD (x:j6)(l:List av):Option j6:=if(l.length=3/\l[0]! =ee)/\l[1]! ≠[]then(match hH l[2]! with
 |some v=>some ⟨⟨l[1]!,v,x.r.needs,x.r.bars,x.r.feats⟩,1⟩
 |none=>none)else none
def T2 {x:j6}(h:x.ok)(h0:x.st=0)(l:List av):uD x l=E9 l:=by
 obtain⟨h1,h2,h3⟩:=h.1 h0;unfold uD E9
 grind
def ng:∀N:List bo,bK (pd N)=true
 |[]=>rfl
 |[a]=>bA bX.qV _
 |a::b::r=>ng (b::r)
end Go.Abs
namespace Go.Abs
def Bd (l k:Nat)(es:List D)(hl:l≠2):∀N:List bo,ij l k es (fE 2 N)=fE 2 N
 |[]=>rfl
 |[n]=>by simp only[fE,mV,ij,ig,show ¬2=l from fun e=>hl e.symm,cH,aZ]
 |a::b::r=>by
  have:=Bd l k es hl (b::r);have ha:ig l k es (bo.D a)=bo.D a:=rfl;simp only[fE,ij,this,ha]
def AS (l k:Nat)(es:List D)(N:List bo):ij l k es (pd N)=pd N:=qq l k es _ (ng N)
def xN (l k:Nat)(es:List D)(B:List fZ):ij l k es (B.map fZ.D)=B.map fZ.D:=qq l k es _ (bA (fun _=>rfl) _)
def xO (l k:Nat)(es:List D)(Z:List ct):ij l k es (Z.map ct.D)=Z.map ct.D:=qq l k es _ (bA (fun _=>rfl) _)
end Go.Abs
end
namespace Go.Abs
section
def Zq (ob:Li):Prop:=∀(σ:List (Nat×Nat)) (l l':Nat) (w:List av) (n:Nat) (b:Bool),mX 0 σ l=some l'->wz 0 σ (ob w (.own l 5 0 n) b)=some (ob w (.own l' 5 0 n) b)
def fk:Zq jG:=fun σ l l' w n b h=>by simp only[jG,wz,sn,M3,h]
def fX (W:List av):Zq (j5 W):=fun σ l l' w n b h=>by simp only[j5,wz,sn,M3,h]
def abB:D->Nat
 | .agg [.sl _ ws,_,_]=>ws.length
 | .agg [.sl _ ws,.int _ i,_,_]=>ws.length-i.toNat
 |_=>0
def lx (c:List D->Nat)(ds:List D)(st:St):Nat:=match ds with
 | .ptr l _ _ _::am7=>(match look st.m l with
  |some (.buf _ [o])=>6*abB o+c am7
  |_=>0)
 |_=>0
def adT (w:List av)(X:D)(b:Bool):abB (jG w X b)=w.length:=by simp[abB,jG]
def adU {W w:List av}(h:w<:+W)(X:D)(b:Bool):abB (j5 W w X b)=w.length:=by
 grind [abB,j5]
def dA {c:List D->Nat}{l k nx:Nat}{am7:List D}{m:List (Nat×cr)}{w:List av}{X:D}{b:Bool}(h:look m l=some (.buf k [jG w X b])):lx c (.ptr l k 0 0::am7) ⟨nx,m⟩=6*w.length+c am7:=by
 simp only[lx,h,adT]
def fW {c:List D->Nat}{l k nx:Nat}{am7:List D}{m:List (Nat×cr)}{W w:List av}{X:D}{b:Bool}(hw:w<:+W)(h:look m l=some (.buf k [j5 W w X b])):lx c (.ptr l k 0 0::am7) ⟨nx,m⟩=6*w.length+c am7:=by
 simp only[lx,h,adU hw]
def Sx (nd:List Nd):bK (nd.map Nd.D)=true:=bA (fun _=>rfl) _
section
variable [df] {P:Program} {ν:List (Nat×Nat)} {dr:List Nat} {t:List (Nat×rv)} {fid n key u k:Nat} {af:aN} {ob:Li} {am7:List D} {w:List av} {nd:List Nd} {b:Bool} {lp ln nx:Nat} {m:List (Nat×cr)} {K:D->St->Prop} {Pp:PO->Prop} {V:PO->D}
def aa2 (hob:Zq ob)(hk5:k≠5)(has:bK am7=true)(h1:look m lp=some (.buf k [ob w (.own ln 5 0 nd.length) b]))(h2:look m ln=some (.buf 5 (nd.map Nd.D))):
  lp≠ln/\(∀i,i<(D.ptr lp k 0 0::am7).length->Zr 0 [(lp,0),(ln,1)] ((D.ptr lp k 0 0::am7).getD i .any) ((D.ptr 0 k 0 0::am7).getD i .any))/\jg 0 2 [(lp,0),(ln,1)]=true/\(∀l i,(l,i)∈[(lp,0),(ln,1)]->look m l≠none)/\
   ∀i bb,look [(0,.buf k [ob w (.own 1 5 0 nd.length) b]),(1,.buf 5 (nd.map Nd.D))] i=some bb->∃l b',(l,i)∈[(lp,0),(ln,1)]/\look m l=some b'/\vP 0 [(lp,0),(ln,1)] b' bb:=by
 have hne:lp≠ln:=by
  rintro rfl;rw[h1]at h2;exact hk5 (cr.buf.inj (bQ h2)).1
 have hb:Nat.beq lp ln=false:=by cases h:Nat.beq lp ln with
  |false=>rfl
  |true=>exact absurd (Nat.eq_of_beq_eq_true h) hne
 have hb':Nat.beq ln lp=false:=by cases h:Nat.beq ln lp with
  |false=>rfl
  |true=>exact absurd (Nat.eq_of_beq_eq_true h).symm hne
 refine⟨hne,fun i hi=>?_, ?_,fun l i h=>?_,fun i bb h=>?_⟩
 .match i with
  |0=>exact .inr (.inl (by simp[wz,M3,mX]))
  |i+1=>exact .inl ⟨rfl,dC has i⟩
 .simp[jg,hb,hb'];rfl
 .grind
 .simp only[look]at h;split at h
  .rename_i e;subst e;obtain rfl:=bQ h;exact⟨lp,_,.head _,h1,rfl,.inr (.inl (by simp only[sn,hob _ ln 1 w nd.length b (show mX 0 [(lp,0),(ln,1)] ln=some 1 by simp[mX,hb])]))⟩
  .split at h
   .rename_i e;subst e;obtain rfl:=bQ h;exact⟨ln,_,.tail _ (.head _),h2,rfl,.inl ⟨rfl,Sx nd⟩⟩
   .cases h
def bP (hob:Zq ob)(hk5:k≠5)(has:bK am7=true)(hV:∀o,(V o).bN=true)(hmix:P.follows .mixedOrders=true)(hC:Lb P ν dr fid af)(hnp:am7.length+1=af.np)
  (h1:look m lp=some (.buf k [ob w (.own ln 5 0 nd.length) b])) (h2:look m ln=some (.buf 5 (nd.map Nd.D))) (h3:lp<nx) (h4:ln<nx)
  (hK:∀o,Pp o->K (V o) ⟨nx+1,(nx,.buf 5 (o.nd.map Nd.D))::ep (cM m ln) lp (.buf k [ob o.w (.own nx 5 0 o.nd.length) o.bad])⟩)
  (hw:cg ((under t key u).at 2) af.body (kJ af (Ch k ob Pp V)) (gz af (.ptr 0 k 0 0::am7)) ⟨2,[(0,.buf k [ob w (.own 1 5 0 nd.length) b]),(1,.buf 5 (nd.map Nd.D))]⟩):qU P ν dr (under t key u) fid (.ptr lp k 0 0::am7) ⟨nx,m⟩ K:=by
 obtain⟨hne,g2,g3,g4,g5⟩:=aa2 hob hk5 has h1 h2;refine BV (σi:=[(lp,0),(ln,1)]) (cs:=.ptr 0 k 0 0::am7) (fun q=>zA t key u q) hmix hC aI g2 (by simpa using hnp) g3 g4 g5 hw ?_;rintro d m1 ⟨o,j,hj,hP,rfl,e0,ej⟩;have hb0:Nat.beq 0 j=false:=by cases j<;>first|omega|rfl
 have hbj:Nat.beq j 0=false:=by cases j<;>first|omega|rfl
 have hbl:Nat.beq lp nx=false:=by cases h:Nat.beq lp nx with
  |false=>rfl
  |true=>have:=Nat.eq_of_beq_eq_true h;omega
 have hbl':Nat.beq nx lp=false:=by cases h:Nat.beq nx lp with
  |false=>rfl
  |true=>have:=Nat.eq_of_beq_eq_true h;omega
 refine⟨[(0,lp),(j,nx)],j+1,_,V o,⟨g3, ?_,Nat.le_succ _,g4, ?_,g5, ?_⟩,.inl ⟨rfl,hV o⟩,hK o hP⟩
 .simp[jg,hbj,hb0,hbl,hbl'];omega
 .intro i l h;rcases ca.1 h with h|h
  .obtain⟨rfl,rfl⟩:=Prod.mk.inj h;exact .inl (.head _)
  .obtain⟨rfl,rfl⟩:=Prod.mk.inj (cT.1 h);exact .inr (aH _)
 .intro l bb h;simp only[look]at h;split at h
  .rename_i e;subst e;obtain rfl:=bQ h;exact .inl ⟨j,_,.tail _ (.head _),ej,rfl,.inl ⟨rfl,Sx _⟩⟩
  .rename_i hln;rw[dc]at h;split at h
   .rename_i e;subst e;obtain rfl:=bQ h;exact .inl ⟨0,_,.head _,e0,rfl,.inr (.inl (by simp only[sn,hob _ j nx o.w o.nd.length o.bad (show mX 0 [(0,l),(j,nx)] j=some nx by simp[mX,hb0])]))⟩
   .rename_i hlp;rw[gU]at h;split at h
    .cases h
    .rename_i hl2;refine .inr ⟨by simp only[ph,ar (fun e=>hlp (Eq.symm e)),ar hln],fun i hi=>?_,h⟩;rcases ca.1 hi with hi|hi
     .exact hlp (Prod.mk.inj hi).1
     .exact hl2 (Prod.mk.inj (cT.1 hi)).1
def ir (hob:Zq ob)(hk5:k≠5)(has:bK am7=true)(hV:∀o,(V o).bN=true)(hmix:P.follows .mixedOrders=true)(hC:Lb P ν dr fid af)(hnp:am7.length+1=af.np)
  (h1:look m lp=some (.buf k [ob w (.own ln 5 0 nd.length) b])) (h2:look m ln=some (.buf 5 (nd.map Nd.D))) (h3:lp<nx) (h4:ln<nx)
  (hK:∀o,Pp o->K (V o) ⟨nx,ep m lp (.buf k [ob o.w (.own ln 5 0 nd.length) o.bad])⟩)
  (hw:cg ((under t key u).at 2) af.body (kJ af (TI k ob nd Pp V)) (gz af (.ptr 0 k 0 0::am7)) ⟨2,[(0,.buf k [ob w (.own 1 5 0 nd.length) b]),(1,.buf 5 (nd.map Nd.D))]⟩):qU P ν dr (under t key u) fid (.ptr lp k 0 0::am7) ⟨nx,m⟩ K:=by
 obtain⟨hne,g2,g3,g4,g5⟩:=aa2 hob hk5 has h1 h2;refine BV (σi:=[(lp,0),(ln,1)]) (cs:=.ptr 0 k 0 0::am7) (fun q=>zA t key u q) hmix hC aI g2 (by simpa using hnp) g3 g4 g5 hw ?_;rintro d m1 ⟨o,hP,rfl,e0,ej⟩;have hbl:Nat.beq lp ln=false:=by cases h:Nat.beq lp ln with
  |false=>rfl
  |true=>exact absurd (Nat.eq_of_beq_eq_true h) hne
 have hbl':Nat.beq ln lp=false:=by cases h:Nat.beq ln lp with
  |false=>rfl
  |true=>exact absurd (Nat.eq_of_beq_eq_true h).symm hne
 refine⟨[(0,lp),(1,ln)],2,⟨nx,ep m lp (.buf k [ob o.w (.own ln 5 0 nd.length) o.bad])⟩,V o,⟨g3, ?_,aH _,g4, ?_,g5, ?_⟩,.inl ⟨rfl,hV o⟩,hK o hP⟩
 .simp[jg,hbl,hbl'];exact⟨h3,rfl,h4⟩
 .intro i l h;rcases ca.1 h with h|h
  .obtain⟨rfl,rfl⟩:=Prod.mk.inj h;exact .inl (.head _)
  .obtain⟨rfl,rfl⟩:=Prod.mk.inj (cT.1 h);exact .inl (.tail _ (.head _))
 .intro l bb h;simp only at h;rw[dc]at h;split at h
  .rename_i e;subst e;obtain rfl:=bQ h;exact .inl ⟨0,_,.head _,e0,rfl,.inr (.inl (by simp only[sn,hob _ 1 ln o.w nd.length o.bad (show mX 0 [(0,l),(1,ln)] 1=some ln from rfl)]))⟩
  .rename_i hlp;by_cases hl2:l=ln
   .subst hl2;rw[h2]at h;obtain rfl:=bQ h;exact .inl ⟨1,_,.tail _ (.head _),ej,rfl,.inl ⟨rfl,Sx _⟩⟩
   .refine .inr ⟨by simp only[ph,ar (fun e=>hlp (Eq.symm e)),ar (fun e=>hl2 (Eq.symm e))],fun i hi=>?_,h⟩;rcases ca.1 hi with hi|hi
    .exact hlp (Prod.mk.inj hi).1
    .exact hl2 (Prod.mk.inj (cT.1 hi)).1
def ud {a b:Nat}(h:a≠b):Nat.beq a b=false:=by
 cases h2:Nat.beq a b with
 |false=>rfl
 |true=>exact absurd (Nat.eq_of_beq_eq_true h2) h
def F8 {m:List (Nat×cr)}{l lw:Nat}(h:l≠lw):il (cM m lw) l=match look m l with
 |some (.bld (some l2) _ _)=>cM (cM m lw) l2
 |_=>cM m lw:=by
 grind [il,gU,look]
def wh {ws:List av}{s:av}{l lw:Nat}(hmix:P.follows .mixedOrders=true)(hC:Lb P ν dr fid af)(hnp:2=af.np)
  (h1:wW m l s) (h2:look m lw=some (.buf 1 (ws.map D.str))) (h3:l<nx) (h4:lw<nx) (hK:K (.tup []) ⟨nx+1,ue (cM m lw) l nx (s++cN ws)⟩)
  (hw:∀m0,wW m0 0 s->look m0 1=some (.buf 1 (ws.map D.str))->cg ((under t key u).at 3) af.body (kJ af (fun d m=>d=.tup []/\look m 0=some (.bld (some 9) (s++cN ws).length true)/\look m 9=some (.row (s++cN ws)))) (gz af [.ptr 0 2 0 0,.own 1 1 0 ws.length]) ⟨3,m0⟩):
  qU P ν dr (under t key u) fid [.ptr l 2 0 0,.own lw 1 0 ws.length] ⟨nx,m⟩ K:=by
 have hlw:l≠lw:=by
  rintro rfl;rcases h1 with⟨u,h,_⟩|⟨l2,u,h,_⟩<;>rw[h2]at h<;>cases h
 have hnl:bK (ws.map D.str)=true:=bA (fun _=>rfl) _;have b1:=ud hlw;have b2:=ud (Ne.symm hlw);have b3:=ud (show l≠nx by omega);have b4:=ud (show nx≠l by omega)

 have fin:∀(σi:List (Nat×Nat)) (m0:List (Nat×cr)),jg 0 3 σi=true->(l,0)∈σi->(∀l i,(l,i)∈σi->look m l≠none)->(∀i b,look m0 i=some b->∃l b',(l,i)∈σi/\look m l=some b'/\vP 0 σi b' b)->
   (∀l' b,look (il (cM m lw) l) l'=some b->l'≠l->look m l'=some b/\∀i,(l',i)∉σi)->∀d m1,(d=.tup []/\look m1 0=some (.bld (some 9) (s++cN ws).length true)/\look m1 9=some (.row (s++cN ws)))->
   ∃(σo:List (Nat×Nat)) (q1:Nat) (st':St) (vd':D),Fr σi σo 3 q1 m0 m1 ⟨nx,m⟩ st'/\Zr 0 σo d vd'/\K vd' st':=by
  rintro σi m0 oki hm hlt hm0 hoff d m1 ⟨rfl,e0,e9⟩;refine⟨[(0,l),(9,nx)],10,⟨nx+1,ue (cM m lw) l nx (s++cN ws)⟩,.tup [],⟨oki, ?_,Nat.le_succ _,hlt, ?_,hm0, ?_⟩,.inl ⟨rfl,rfl⟩,hK⟩
  .simp[jg,b3,b4];exact⟨ae,rfl⟩
  .intro i l' h;rcases ca.1 h with h|h
   .obtain⟨rfl,rfl⟩:=Prod.mk.inj h;exact .inl hm
   .obtain⟨rfl,rfl⟩:=Prod.mk.inj (cT.1 h);exact .inr (aH _)
  .intro l' bb h;simp only[ue,look]at h;split at h
   .rename_i e;subst e;obtain rfl:=bQ h;exact .inl ⟨9,_,.tail _ (.head _),e9,rfl⟩
   .rename_i hln;rw[dc]at h;split at h
    .rename_i e;subst e;obtain rfl:=bQ h;exact .inl ⟨0,_,.head _,e0,⟨nx,rfl,rfl⟩,rfl,rfl⟩
    .rename_i hl;obtain⟨g1,g2⟩:=hoff l' bb h hl;exact .inr ⟨by simp only[ph,ar (fun e=>hl (Eq.symm e)),ar hln],g2,g1⟩
 rcases h1 with⟨u,h1,rfl⟩|⟨l2,u,h1,h5⟩
 .have g4:∀l' i,(l',i)∈[(l,0),(lw,1)]->look m l'≠none:=by
   intro l' i h;rcases ca.1 h with h|h
   .obtain⟨rfl,rfl⟩:=Prod.mk.inj h;rw[h1];simp
   .obtain⟨rfl,rfl⟩:=Prod.mk.inj (cT.1 h);rw[h2];simp
  have g3:jg 0 3 [(l,0),(lw,1)]=true:=by simp[jg,b1,b2];rfl
  have g5:∀i b,look [(0,cr.bld none 0 u),(1,.buf 1 (ws.map D.str))] i=some b->∃l' b',(l',i)∈[(l,0),(lw,1)]/\look m l'=some b'/\vP 0 [(l,0),(lw,1)] b' b:=by
   intro i b h;simp only[look]at h;split at h
   .rename_i e;subst e;obtain rfl:=bQ h;exact⟨l,_,.head _,h1,rfl,rfl,rfl⟩
   .split at h
    .rename_i e;subst e;obtain rfl:=bQ h;exact⟨lw,_,.tail _ (.head _),h2,rfl,.inl ⟨rfl,hnl⟩⟩
    .cases h
  refine BV (σi:=[(l,0),(lw,1)]) (cs:=[.ptr 0 2 0 0,.own 1 1 0 ws.length]) (fun q=>zA t key _ q) hmix hC rfl ?_ hnp g3 g4 g5 (hw _ (.inl ⟨u,rfl,rfl⟩) rfl) (fin _ _ g3 (.head _) g4 g5 ?_)
  .intro i hi
   match i,hi with
   |0,_=>exact .inr (.inl (by simp[wz,M3,mX]))
   |1,_=>exact .inr (.inl (by simp[wz,M3,mX,b1]))
  .intro l' b h hl;rw[F8 hlw]at h;simp only[h1]at h;rw[gU]at h;split at h
   .cases h
   .rename_i hw';refine⟨h,fun i hi=>?_⟩;rcases ca.1 hi with hi|hi
    .exact hl (Prod.mk.inj hi).1
    .exact hw' (Prod.mk.inj (cT.1 hi)).1
 .have c1:l2≠l:=by rintro rfl;rw[h1]at h5;cases h5
  have c2:l2≠lw:=by rintro rfl;rw[h2]at h5;cases h5
  have d1:=ud c1;have d2:=ud c2;have d3:=ud (Ne.symm c1);have d4:=ud (Ne.symm c2);have g4:∀l' i,(l',i)∈[(l,0),(lw,1),(l2,2)]->look m l'≠none:=by
   intro l' i h;rcases ca.1 h with h|h
   .obtain⟨rfl,rfl⟩:=Prod.mk.inj h;rw[h1];simp
   .rcases ca.1 h with h|h
    .obtain⟨rfl,rfl⟩:=Prod.mk.inj h;rw[h2];simp
    .obtain⟨rfl,rfl⟩:=Prod.mk.inj (cT.1 h);rw[h5];simp
  have g3:jg 0 3 [(l,0),(lw,1),(l2,2)]=true:=by simp[jg,b1,b2,d1,d2,d3,d4];exact⟨⟨rfl,rfl⟩,rfl⟩
  have g5:∀i b,look [(0,cr.bld (some 2) s.length u),(1,.buf 1 (ws.map D.str)),(2,.row s)] i=some b->∃l' b',(l',i)∈[(l,0),(lw,1),(l2,2)]/\look m l'=some b'/\vP 0 [(l,0),(lw,1),(l2,2)] b' b:=by
   intro i b h;simp only[look]at h;split at h
   .rename_i e;subst e;obtain rfl:=bQ h;exact⟨l,_,.head _,h1,⟨2,by simp[mX,d3,d4],rfl⟩,rfl,rfl⟩
   .split at h
    .rename_i e;subst e;obtain rfl:=bQ h;exact⟨lw,_,.tail _ (.head _),h2,rfl,.inl ⟨rfl,hnl⟩⟩
    .split at h
     .rename_i e;subst e;obtain rfl:=bQ h;exact⟨l2,_,.tail _ (.tail _ (.head _)),h5,rfl⟩
     .cases h
  refine BV (σi:=[(l,0),(lw,1),(l2,2)]) (cs:=[.ptr 0 2 0 0,.own 1 1 0 ws.length]) (fun q=>zA t key _ q) hmix hC rfl ?_ hnp g3 g4 g5 (hw _ (.inr ⟨2,u,rfl,rfl⟩) rfl) (fin _ _ g3 (.head _) g4 g5 ?_)
  .intro i hi
   match i,hi with
   |0,_=>exact .inr (.inl (by simp[wz,M3,mX]))
   |1,_=>exact .inr (.inl (by simp[wz,M3,mX,b1]))
  .intro l' b h hl;rw[F8 hlw]at h;simp only[h1]at h;rw[gU]at h;split at h
   .cases h
   .rename_i hw2;rw[gU]at h;split at h
    .cases h
    .rename_i hw';refine⟨h,fun i hi=>?_⟩;rcases ca.1 hi with hi|hi
     .exact hl (Prod.mk.inj hi).1
     .rcases ca.1 hi with hi|hi
      .exact hw' (Prod.mk.inj hi).1
      .exact hw2 (Prod.mk.inj (cT.1 hi)).1
end
end
theorem xZ {α:Type}{f:α->D}(hf:∀x y,f x=f y↔x=y):∀a b:List α,a.map f=b.map f↔a=b
 |[],[]=>aI
 |[],_::_=>aI
 |_::_,[]=>aI
 |x::a,y::b=>by simp only[List.map_cons,qR,hf,xZ hf a b]
def iNat (a b:Nat):((a:Nat):Int)=(b:Nat)↔a=b:=ae
theorem iU8 (x y:UInt8):((x.toNat:Nat):Int)=(y.toNat:Nat)↔x=y:=(iNat _ _).trans iY
def Wz (a b:List av):a.map D.str=b.map D.str↔a=b:=xZ (fun _ _=>aI) a b
def iInt (a b:List Int):a.map (D.int .i64)=b.map (D.int .i64)↔a=b:=xZ (fun _ _=>aI) a b
def iByt (a b:av):(a.map fun c=>D.int .u8 c.toNat)=(b.map fun c=>D.int .u8 c.toNat)↔a=b:=by grind [xZ,iU8]
def iVer (a b:dz):dz.D a=dz.D b↔a=b:=by cases a;cases b;simp[dz.D]
def agA (a b:bX):bX.D a=bX.D b↔a=b:=by cases a;cases b;simp[bX.D,Wz]
def aaa (a b:List bX):a.map bX.D=b.map bX.D↔a=b:=xZ agA a b
def agy (a b:bo):bo.D a=bo.D b↔a=b:=by cases a;cases b;simp[bo.D,aaa]
def Jw (a b:List bo):a.map bo.D=b.map bo.D↔a=b:=xZ agy a b
def iBar (a b:fZ):fZ.D a=fZ.D b↔a=b:=by cases a;cases b;simp[fZ.D]
def T6 (a b:List fZ):a.map fZ.D=b.map fZ.D↔a=b:=xZ iBar a b
def agw (a b:ct):ct.D a=ct.D b↔a=b:=by cases a;cases b;simp[ct.D,Wz]
def Jv (a b:List ct):a.map ct.D=b.map ct.D↔a=b:=xZ agw a b
def iRec (a b:Rec):Rec.D a=Rec.D b↔a=b:=by
 obtain⟨n,⟨v1,v2,v3,v4,v5⟩,x,y,z⟩:=a;obtain⟨n',⟨w1,w2,w3,w4,w5⟩,x',y',z'⟩:=b;simp[Rec.D,Jw,T6,Jv,and_assoc]
def iCmp (a b:dZ):dZ.D a=dZ.D b↔a=b:=by
 obtain⟨n,p,v1,v2,v3,v4,v5⟩:=a;obtain⟨n',p',w1,w2,w3,w4,w5⟩:=b;simp[dZ.D]
def agu (a b:List dZ):a.map dZ.D=b.map dZ.D↔a=b:=xZ iCmp a b
def iNd (a b:Nd):Nd.D a=Nd.D b↔a=b:=by cases a;cases b;simp[Nd.D]
def iNds (a b:List Nd):a.map Nd.D=b.map Nd.D↔a=b:=xZ iNd a b
def iAlt (a b:Alt):tZ a=tZ b↔a=b:=by simp[tZ,agu]
def iRng (a b:Eu):iN a=iN b↔a=b:=by simp[iN,xZ iAlt]
def iAlts (a b:List Alt):a.map tZ=b.map tZ↔a=b:=xZ iAlt a b
def iMrk (a b:Mrk):mU a=mU b↔a=b:=by simp[mU,iNds]
def iLd (a b:Ld):Ld.D a=Ld.D b↔a=b:=by cases a;cases b;simp[Ld.D,Wz,iNat]
def iPr (w w':List av)(x x':D)(b b':Bool):jG w x b=jG w' x' b'↔w=w'/\x=x'/\b=b':=by simp[jG,Wz]
def wM {A:FT->Prop}(h:A (fun d ds v s=>A fun d' ds' v' s'=>d'=d->ds'=ds->v=v'/\s=s'):=by
 (repeat' first|apply And.intro|intro _)
 all_goals rename_i e' e
 all_goals (try simp only[qR,D.str.injEq,D.int.injEq,D.bool.injEq,D.sl.injEq,iLd,Wz,iU8,iY,iNat,cb,cj]at e e')
 all_goals first|rfl|(simp only[e,e'];done)|simp_all):qd (ik A):=acM h
def lY (l:List Int)(i:Int):Int:=if i<0\/(l.length:Int)<=i then 0 else l[i.toNat]!
def adK {v n:Int}(h:0<n)(h2:¬v.tmod n<0):v.tmod n=v%n:=by
 rw[Int.tmod_eq_emod];rw[Int.tmod_eq_emod]at h2;have h3:=Int.emod_nonneg v (show n≠0 by omega);have h4:=Int.emod_lt_of_pos v h
 grind
def adJ {v n:Int}(h:0<n)(h2:v.tmod n<0):v.tmod n+n=v%n:=by
 rw[Int.tmod_eq_emod]at h2⊢;have h3:=Int.emod_nonneg v (show n≠0 by omega)
 grind
def eA (l:List Int)(i n:Int):Int:=lY l i%n
def dP (l:List Int)(i n:Int)(h:0<n):0<=eA l i n/\eA l i n<n:=⟨Int.emod_nonneg _ ae,Int.emod_lt_of_pos _ h⟩
def lN (v n:Int)(h:0<n):0<=v%n/\v%n<n:=⟨Int.emod_nonneg _ ae,Int.emod_lt_of_pos _ h⟩
theorem v7 {α:Type} [Inhabited α]{q:α->D}(xs:List α){j:Nat}(h:j<xs.length):cut (xs.map q) (j*1) 1 false=q xs[j]! :=by
 show(xs.map q).getD (j*1) .any=_;rw[Nat.mul_one];exact getD_map h
def Sl {α:Type} [Inhabited α]{q:α->D}(xs:List α){j n:Nat}(h:j<xs.length)(hn:(1==n)=false):qS (.agg (xs.map q)) n 1 (0+j*1) false=q xs[j]! :=by
 have hc:(D.agg (xs.map q)).cells=xs.map q:=by
  rfl
 grind [qS,v7]
def nm5:List av:=[[97,112,112],[98],[99],[100],[101,45,50]]
def dp (n:Int):av:=nm5[(n%5).toNat]!
def wd4:List av:=[[120],[121],[122],[119,95,49]]
def oQ (n:Int):av:=wd4[(n%4).toNat]!
def SC:List Int:=[9,7,6,3,1,2]
def Cl (l:List Int)(i:Int):dZ:=⟨SC[(eA l i 6).toNat]!,3,⟨eA l (i+1) 3,eA l (i+2) 2,0,[],[]⟩⟩
def lW (l:List Int)(i:Int):av:=if(Cl l i).op=9 then [42]else eY (Cl l i)
def HR:List av:=[[111,115],[97,114,99,104],[97,98,105]]
def Wd:List av:=[[32,61,32],[32,33,61,32]]
def oO (l:List Int)(i:Int):av:=if 2<eA l i 6 then []else HR[(eA l i 6).toNat]! ++Wd[(eA l (i+1) 2).toNat]! ++oQ (1+eA l (i+1) 3)
def GG:List av:=[[120],[121]]
def rz (l:List Int)(i:Int)(alone:Bool):List av:=if alone=true/\2<eA l (i+5) 5 then GG.take (eA l (i+5) 5-2).toNat else []
def oP (l:List Int)(i own:Int)(alone:Bool):bX:=⟨dp (own+1+eA l i 4),lW l (i+1),rz l i alone,decide (eA l (i+4) 3=0)⟩
def gZ (l:List Int)(i:Int):Nat:=if eA l i 5=1 then 2 else 1
def xP (l:List Int)(i own:Int)(k:Nat):List bX:=(List.range k).map fun(k:Nat)=>oP l (i+1+6*(k:Nat)) own (decide ((gZ l i:Int)=1))
def jc (l:List Int)(i own:Int):bo:=⟨xP l i own (gZ l i),oO l (i+14),if eA l (i+16) 4=1 then oQ (lY l (i+17))else []⟩
def Wq (l:List Int)(i own:Int)(k:Nat):xP l i own (k+1)=xP l i own k++[oP l (i+1+6*(k:Nat)) own (decide ((gZ l i:Int)=1))]:=by
 unfold xP;rw[List.range_succ,List.map_append];rfl
def E5 (l:List Int)(i:Int):gZ l i<=2:=by
 unfold gZ;split<;>omega
def nI (s:av):List av->Nat
 |[]=>0
 |a::r=>if Op.bytesLess a s=true then nI s r+1 else 0
def iQ (l:List av)(s:av):List av:=if nI s l<l.length/\l[nI s l]! =s then l else l.take (nI s l)++[s]++l.drop (nI s l)
def JQ (s:av):∀l:List av,nI s l<=l.length
 |[]=>aH _
 |a::r=>by
  have:=JQ s r
  grind [nI]
def JR (s:av):∀(l:List av) (i:Nat),i<nI s l->Op.bytesLess l[i]! s=true
 |[],i,h=>by simp[nI]at h
 |a::r,i,h=>by
  simp only[nI]at h;split at h
  .rename_i ha;cases i with
   |zero=>simpa using ha
   |succ i=>simpa using JR s r i ae
  .omega
def Br (s:av):∀l:List av,nI s l<l.length->Op.bytesLess l[nI s l]! s=false
 |[],h=>by simp at h
 |a::r,h=>by
  simp only[nI]at h⊢;split
  .rename_i ha;rw[aC ha]at h;simpa using Br s r (by simpa using h)
  .rename_i ha;simpa using ha
def RX (n b:Int):Int:=IntKind.wrap .i64 (((BitVec.ofInt 64 (n.fdiv (2^(min b.toNat 64))))&&&(BitVec.ofInt 64 1)).toNat)
def pP:List av:=[agm,[120],[121],[122]]
def Z0 (r:Rec)(n:Int)(of:List av)(j:Nat):List av:=if ¬r.needs[j]!.option=[]/\RX n (3+(j:Nat))=1 then iQ of ([63]++r.needs[j]!.option)else of
def ftB (r:Rec)(n:Int)(of:List av)(j:Nat):List av:=if r.needs[j]!.any.length=1/\RX n (5+(j:Nat))=1 then iQ of (r.needs[j]!.any[0]!.name++[47]++[120])else of
def ftJ (r:Rec)(n:Int)(of:List av)(j:Nat):List av:=ftB r n (Z0 r n of j) j
def tI (r:Rec)(n:Int)(j:Nat):List av:=(List.range j).foldl (ftJ r n) []
def ftC (l:List Int)(i:Int)(n:Int)(k:Nat)(of:List av):List av:=if(k<3/\RX n 7=1)/\¬lY l (i+(k:Nat)+1)%3=0 then iQ of pP[k+1]! else of
def ftK (l:List Int)(i:Int)(r:Rec)(k:Nat):Option ct:=if lY l (i+(k:Nat))%3=0 then none else some ⟨pP[k]!,ftC l i (lY l (i+(k:Nat))) k (tI r (lY l (i+(k:Nat))) (min r.needs.length 2))⟩
def Z1 (l:List Int)(i:Int)(r:Rec)(k:Nat):List ct:=(List.range k).filterMap (ftK l i r)
def lA (l:List Int)(i:Int)(r:Rec):List ct:=Z1 l i r 4
theorem rT (r:Rec)(n:Int)(j:Nat):tI r n (j+1)=ftJ r n (tI r n j) j:=by
 unfold tI;rw[List.range_succ,List.foldl_append];rfl
def ah6 {l:List Int}{i:Int}{r:Rec}{k:Nat}(h:lY l (i+(k:Nat))%3=0):Z1 l i r (k+1)=Z1 l i r k:=by
 unfold Z1;rw[List.range_succ,List.filterMap_append];simp[ftK,h]
def TX {l:List Int}{i:Int}{r:Rec}{k:Nat}{of:List av}(h:¬lY l (i+(k:Nat))%3=0)(ho:ftC l i (lY l (i+(k:Nat))) k (tI r (lY l (i+(k:Nat))) (min r.needs.length 2))=of):Z1 l i r (k+1)=Z1 l i r k++[⟨pP[k]!,of⟩]:=by
 unfold Z1;rw[List.range_succ,List.filterMap_append];simp[ftK,h,ho]
theorem uT (l:List av)(s:av):(iQ l s).length<=l.length+1:=by
 grind [iQ]
theorem acW (r:Rec)(n:Int)(of:List av)(j:Nat):(Z0 r n of j).length<=of.length+1:=by
 grind [Z0,uT]
theorem acX (r:Rec)(n:Int)(of:List av)(j:Nat):(ftB r n of j).length<=of.length+1:=by
 grind [ftB,uT]
def Jr (r:Rec)(n:Int):∀j,(tI r n j).length<=2*j
 |0=>by simp[tI]
 |j+1=>by
  have h1:=Jr r n j
  grind [acW,tI,acX,Z0,rT,ftJ]
def pW (n:Int):(dp n).length<=3:=by
 obtain⟨h1,h2⟩:=lN n 5 aG;unfold dp;have:(n%5).toNat<5:=ae;revert this;generalize (n%5).toNat=k;revert k;decide
def AX (n:Int):(oQ n).length<=3:=by
 obtain⟨h1,h2⟩:=lN n 4 aG;unfold oQ;have:(n%4).toNat<4:=ae;revert this;generalize (n%4).toNat=k;revert k;decide
def WD (k:Nat)(h:k<3):(HR[k]!).length<=4:=by
 revert k;decide
def ZQ (k:Nat)(h:k<2):(Wd[k]!).length<=4:=by
 revert k;decide
def acP (l:List Int)(i:Int):(Cl l i).v.sm:=⟨by simp[Cl],by simp[Cl]⟩
def abn:av:=[114,99,46,49]
def xQ (l:List Int)(i:Int):av:=if eA l (i+2) 9=1 then abn else []
def E2 (l:List Int)(i:Int):av:=if eA l (i+2) 9=2 then [55]else []
def Wv (l:List Int)(i:Int):dz:=⟨eA l i 3,eA l (i+1) 2,0,xQ l i,E2 l i⟩
def gK (l:List Int)(i:Int):Nat:=(eA l (i+3) 4%3).toNat
def gK_eq (l:List Int)(i:Int):(eA l (i+3) 4).tmod 3=(gK l i:Int):=by
 have h:=dP l (i+3) 4 aG;rw[Int.tmod_eq_emod_of_nonneg h.1];unfold gK;omega
def agq (l:List Int)(i:Int):gK l i<=2:=by unfold gK;omega
def LW (l:List Int)(i own:Int)(n:Nat):List bo:=(List.range n).map fun(q:Nat)=>jc l (i+4+20*((gK l i-q:Nat):Int) -20) own
def Z6 {l:List Int}{i own:Int}{k:Nat}(hk:k<=gK l i)(h0:0<k):LW l i own (gK l i-(k-1))=LW l i own (gK l i-k)++[jc l (i+4+20*(k:Int) -20) own]:=by
 rw[show gK l i-(k-1)=(gK l i-k)+1 by omega];unfold LW;rw[List.range_succ,List.map_append,List.map_singleton,show gK l i-(gK l i-k)=k by omega]
def uA (l:List Int)(i own:Int):List bo:=LW l i own (gK l i)
def E1 (l:List Int)(i own:Int):fZ:=⟨dp (own+1+eA l (i+46) 4),lW l (i+47),oO l (i+50)⟩
def uz (l:List Int)(i own:Int):List fZ:=if eA l (i+45) 5=1 then [E1 l i own]else []
def rV (l:List Int)(i own:Int):Rec:=⟨dp own,Wv l i,uA l i own,uz l i own,[]⟩
def qt (l:List Int)(i own:Int):Rec:={rV l i own with feats:=lA l (i+52) (rV l i own)}
def Wp {l:List Int}{i own:Int}{k:Nat}{w:bX}(h:w∈xP l i own k):w.name.length<=3:=by
 obtain⟨q,_,rfl⟩:=eG.1 h;exact pW _
def AU (l:List Int)(i own:Int):(jc l i own).option.length<=3:=by
 show(if _ then _ else _:av).length<=3;split
 .exact AX _
 .simp
def Wu (l:List Int)(i own:Int):∀j:Nat,j<(rV l i own).needs.length->(rV l i own).needs[j]!.option.length<=100/\((rV l i own).needs[j]!.any.length=1->(rV l i own).needs[j]!.any[0]!.name.length<=100):=by
 intro j hj;have hm:=bL hj;obtain⟨q,_,hq⟩:=eG.1 hm;rw[<-hq];generalize i+4+20*((gK l i-q:Nat):Int) -20=x;refine⟨c7 (AU _ _ _) aG,fun h=>?_⟩;have h2:=bL (l:=(jc l x own).any) (i:=0) ae;exact c7 (Wp (k:=gZ l x) h2) aG
def L7:∀a b:av,Op.bytesLess a b=false->a≠b->Op.bytesLess b a=true
 |[],[],_,h=>absurd rfl h
 |[],_::_,h,_=>by simp[Op.bytesLess]at h
 |_::_,[],_,_=>by simp[Op.bytesLess]
 |x::a,y::b,h,hn=>by
  simp only[Op.bytesLess,dt,bC,ef,beq_eq_false_iff_ne]at h;simp only[Op.bytesLess,dw,bh,bM,beq_iff_eq];obtain⟨h1,h2⟩:=h;by_cases e:x=y
  .subst e;refine .inr ⟨rfl,L7 a b (h2.resolve_left fun h=>h rfl) fun e=>hn (by rw[e])⟩
  grind
def FP {l:List av}{s t:av}(h:t∈iQ l s):t∈l\/t=s:=by
 grind [iQ]
def Tf (l:List av):rising l=true↔∀i,1<=i->i<l.length->Op.bytesLess l[i-1]! l[i]! =true:=by
 unfold rising;rw[fN]
def uU {l:List av}{s:av}(h:rising l=true):rising (iQ l s)=true:=by
 unfold iQ;split
 .exact h
 .rename_i hn;rw[Tf]at h⊢;have hl:=JQ s l;have hlt:=JR s l;have hst:=Br s l;generalize nI s l=k at hn hl hlt hst⊢;have hlen:(l.take k++[s]++l.drop k).length=l.length+1:=by
   simp only[bH,eF,kT,aM,aX];omega
  have g1:∀j,j<k->(l.take k++[s]++l.drop k)[j]! =l[j]! :=fun j hj=>by
   have a:j<(l.take k).length:=by rw[eF];omega
   have b:j<l.length:=ae;rw[eh,getElem!_pos _ _ (by rw[bH];omega),List.getElem_append_left a,List.getElem_take,getElem!_pos l j b]
  have g2:(l.take k++[s]++l.drop k)[k]! =s:=by
   have a:(l.take k).length=k:=by rw[eF];omega
   rw[eh,getElem!_pos _ _ (by simp only[bH,a,aM];omega),List.getElem_append_right ae];simp[a]
  have g3:∀j,k<j->j<l.length+1->(l.take k++[s]++l.drop k)[j]! =l[j-1]! :=fun j hj hj2=>by
   have a:(l.take k).length=k:=by rw[eF];omega
   have b:(l.take k++[s]).length=k+1:=by rw[bH,a];rfl
   rw[getElem!_pos _ _ (by rw[hlen];omega),List.getElem_append_right ae,List.getElem_drop,getElem!_pos l (j-1) ae];congr 1;omega
  intro i h1 h2;rw[hlen]at h2;rcases Nat.lt_trichotomy i k with hik|hik|hik
  .rw[g1 i hik,g1 (i-1) ae];exact h i h1 ae
  .subst hik;rw[g2,g1 (i-1) ae];exact hlt _ ae
  .rw[g3 i hik h2];by_cases he:i=k+1
   .subst he;rw[show k+1-1=k from rfl,g2];exact L7 _ _ (hst ae) fun e=>hn ⟨ae,e⟩
   .rw[g3 (i-1) ae ae];exact h (i-1) ae ae
def Sz:∀k,k<5->eV nm5[k]! =true/\nm5[k]!.length<=3/\ec (nm5[k]! ++[47]++[120])=((3:Int),nm5[k]!,([120]:av)):=by decide+kernel
theorem aip:∀a,a<5->∀b,b<5->a≠b->nm5[a]! ≠nm5[b]! :=by decide+kernel
def ajc:∀k,k<4->dj wd4[k]! =true/\ec (([63]:av)++wd4[k]!)=((2:Int),wd4[k]!,([]:av)):=by decide+kernel
def fewT (k a b:Nat):av:=if SC[k]! =9 then [42]else eY ⟨SC[k]!,3,⟨(a:Nat),(b:Nat),0,[],[]⟩⟩
def rngG (s:av):Prop:=kC s=true/\s.length<=8/\s≠[]/\(∀c∈s,c≠10)
instance (s:av):Decidable (rngG s):=by unfold rngG;infer_instance
def Md (s:av):Prop:=tf s=true/\s.length<=16/\(∀c∈s,c≠10)
instance (s:av):Decidable (Md s):=by unfold Md;infer_instance
def acQ:∀k,k<6->∀a,a<3->∀b,b<2->rngG (fewT k a b):=by decide+kernel
theorem ab0:∀k,k<3->∀a,a<2->∀b,b<4->Md (HR[k]! ++Wd[a]! ++wd4[b]!):=by decide+kernel
def rU (n:Int):(n%5).toNat<5/\dp n=nm5[(n%5).toNat]! :=by
 have:=lN n 5 aG;exact⟨ae,rfl⟩
def mh (n:Int):eV (dp n)=true/\(dp n).length<=3:=⟨(Sz _ (rU n).1).1,(Sz _ (rU n).1).2.1⟩
def LV (own d:Int)(h0:0<=d)(h1:d<4):dp (own+1+d)≠dp own:=by
 have a:=rU (own+1+d);have b:=rU own
 grind [aip]
def LX (n:Int):(n%4).toNat<4/\oQ n=wd4[(n%4).toNat]! :=by
 have:=lN n 4 aG;exact⟨ae,rfl⟩
theorem uB (n:Int):dj (oQ n)=true/\ec (([63]:av)++oQ n)=((2:Int),oQ n,([]:av)):=ajc _ (LX n).1
def lv (l:List Int)(i:Int):rngG (lW l i):=by
 have a:=dP l i 6 aG;have b:=dP l (i+1) 3 aG;have c:=dP l (i+2) 2 aG;have:=acQ (eA l i 6).toNat ae (eA l (i+1) 3).toNat ae (eA l (i+2) 2).toNat ae
 grind [fewT,eA,lW,Cl]
def WV:Md []:=by decide+kernel
def qu (l:List Int)(i:Int):Md (oO l i):=by
 unfold oO;split
 .exact WV
 .rename_i h;have a:=dP l i 6 aG;have b:=dP l (i+1) 2 aG;have c:=LX (1+eA l (i+1) 3)
  grind [ab0]
def BT {f:Nat->Int}{n:Nat}(h:∀j,j<n->f j=0):kO f 0 n=0:=by
 have:∀k i,i+k=n->kO f i n=0:=by
  intro k;induction k with
  |zero=>intro i e;exact rQ ae
  |succ k ih=>intro i e;rw[rR ae (h i ae)];exact ih (i+1) ae
 exact this n 0 ae
def ur {f:Nat->Int}{n:Nat}(h:∀j,j<n->f j=0):gA f 0 n=(0,0):=by
 have:∀k i,i+k=n->gA f i n=(0,0):=by
  intro k;induction k with
  |zero=>intro i e;exact fT ae
  |succ k ih=>intro i e;rw[iq ae (h i ae)];exact ih (i+1) ae
 exact this n 0 ae
def ID {r:Rec}{nm rg:av}(h1:eV nm=true)(h2:nm≠r.name)(h3:kC rg=true):gS r nm rg=0:=by
 grind [gS]
def acd:∀n,kE (GG.take n) true=true
 |0=>aG
 |1=>aG
 |n+2=>by
  have:GG.take (n+2)=GG:=fq (by simp[GG]);rw[this];decide
theorem Ww (l:List Int)(i:Int)(al:Bool):kE (rz l i al) al=true:=by
 unfold rz;split
 .rename_i h;rw[h.1];exact acd _
 .cases al<;>decide
def XE {r:Rec}{own:Int}(hr:r.name=dp own)(l:List Int)(i:Int)(al:Bool):kH r (oP l i own al) al=0:=by
 have h:=dP l i 4 aG;have h1:=ID (r:=r) (mh (own+1+eA l i 4)).1 (by rw[hr];exact LV own _ h.1 h.2) (lv l (i+1)).1;unfold kH;show(if gS r (dp (own+1+eA l i 4)) (lW l (i+1))≠0 then _ else if kE (rz l i al) al=false then _ else _)=_
 grind [Ww]
def LU (l:List Int)(i own:Int)(k:Nat):(xP l i own k).length=k:=by simp[xP]
def LR {l:List Int}{i own:Int}{k j:Nat}(h:j<k):(xP l i own k)[j]! =oP l (i+1+6*(j:Nat)) own (decide ((gZ l i:Int)=1)):=by
 grind [xP]
def HI (l:List Int)(i:Int):1<=gZ l i:=by unfold gZ;split<;>omega
def Ju (l:List Int)(i own:Int):(jc l i own).option=[]\/∃n,(jc l i own).option=oQ n:=by
 show(if _ then _ else _:av)=[]\/_;split
 .rename_i h;exact .inr ⟨lY l (i+17),aC h⟩
 .exact .inl rfl
def WX {r:Rec}{own:Int}(hr:r.name=dp own)(l:List Int)(i:Int):jS r (jc l i own)=0:=by
 have hl:(jc l i own).any.length=gZ l i:=LU _ _ _ _;have h1:=HI l i;have h2:=E5 l i;unfold jS;rw[ar (by rw[hl];omega),ar (by rw[hl];omega)];have hw:nW r (jc l i own).any=0:=by
  unfold nW;refine BT fun j hj=>?_
  rw[hl]at hj⊢;show kH r (xP l i own (gZ l i))[j]! _=0;rw[LR hj];exact XE hr l _ _
 rw[hw,ar aI,ar (by rw[show(jc l i own).when'=oO l (i+14)from rfl,(qu l (i+14)).1];simp)];rcases Ju l i own with h|⟨n,h⟩
 .rw[ar (by rw[h];simp)]
 grind [uB]
def acZ (l:List Int)(i own:Int)(n:Nat):(LW l i own n).length=n:=by simp[LW]
def zc {l:List Int}{i own:Int}{n:Nat}{x:bo}(h:x∈LW l i own n):∃k:Int,x=jc l k own:=by
 obtain⟨q,_,rfl⟩:=eG.1 h;exact⟨_,rfl⟩
def Sy {r:Rec}{l:List Int}{i own:Int}(hr:r.name=dp own)(hn:r.needs=uA l i own):nB r=(0,0):=by
 unfold nB;refine ur fun j hj=>?_
 obtain⟨k,hk⟩:=zc (show r.needs[j]! ∈LW l i own (gK l i)by rw[show LW l i own (gK l i)=r.needs from hn.symm];exact bL hj);rw[hk];exact WX hr l k
def Zz {r:Rec}{own:Int}(hr:r.name=dp own)(l:List Int)(i:Int):rH r (E1 l i own)=0:=by
 have h:=dP l (i+46) 4 aG;have h1:=ID (r:=r) (mh (own+1+eA l (i+46) 4)).1 (by rw[hr];exact LV own _ h.1 h.2) (lv l (i+47)).1;unfold rH;show(if gS r (dp (own+1+eA l (i+46) 4)) (lW l (i+47))≠0 then _ else if tf (oO l (i+50))=false then _ else _)=_;rw[h1,ar aI,(qu l (i+50)).1,ar aI]
def HG {l:List Int}{i own:Int}{b:fZ}(h:b∈uz l i own):b=E1 l i own:=by
 grind [uz]
def ItG (l:List Int)(i:Int)(r:Rec)(t:av):Prop:=(∃m∈r.needs,m.option≠[]/\t=[63]++m.option)\/(∃m∈r.needs,m.any.length=1/\t=m.any[0]!.name++[47]++[120])\/∃k,k<3/\¬lY l (i+(k:Nat)+1)%3=0/\t=pP[k+1]!
def Z2 (l:List Int)(i:Int)(r:Rec)(n:Int):∀j,j<=r.needs.length->rising (tI r n j)=true/\∀t∈tI r n j,ItG l i r t
 |0,_=>⟨rfl,fun t ht=>by simp[tI]at ht⟩
 |j+1,hj=>by
  obtain⟨h1,h2⟩:=Z2 l i r n j ae;have hm:r.needs[j]! ∈r.needs:=bL ae;have hA:rising (Z0 r n (tI r n j) j)=true/\∀t∈Z0 r n (tI r n j) j,ItG l i r t:=by
   unfold Z0;split
   .rename_i h;refine⟨uU h1,fun t ht=>?_⟩;rcases FP ht with ht|rfl
    .exact h2 t ht
    .exact .inl ⟨_,hm,h.1,rfl⟩
   .exact⟨h1,h2⟩
  obtain⟨h3,h4⟩:=hA;rw[rT,ftJ];unfold ftB;split
  .rename_i h;refine⟨uU h3,fun t ht=>?_⟩;rcases FP ht with ht|rfl
   .exact h4 t ht
   .exact .inr (.inl ⟨_,hm,h.1,rfl⟩)
  .exact⟨h3,h4⟩
theorem ah5 (l:List Int)(i:Int)(r:Rec)(n:Int)(k j:Nat)(hj:j<=r.needs.length):rising (ftC l i n k (tI r n j))=true/\(∀t∈ftC l i n k (tI r n j),ItG l i r t)/\(ftC l i n k (tI r n j)).length<=2*j+1:=by
 obtain⟨h1,h2⟩:=Z2 l i r n j hj;have h3:=Jr r n j;unfold ftC;split
 .rename_i h;refine⟨uU h1,fun t ht=>?_,c7 (uT _ _) ae⟩;rcases FP ht with ht|rfl
  .exact h2 t ht
  .exact .inr (.inr ⟨k,h.1.1,h.2,rfl⟩)
 .exact⟨h1,h2,ae⟩
def s7 {l:List Int}{i:Int}{r:Rec}{f:ct}(h:f∈lA l i r):∃k,k<4/\f.name=pP[k]! /\¬lY l (i+(k:Nat))%3=0/\rising f.of=true/\(∀t∈f.of,ItG l i r t)/\f.of.length<=5:=by
 obtain⟨k,hk,he⟩:=List.mem_filterMap.1 h
 grind [ftK,ah5,lY]
def Sa {l:List Int}{i:Int}{r:Rec}{k:Nat}(hk:k<4)(h:¬lY l (i+(k:Nat))%3=0):∃f∈lA l i r,f.name=pP[k]! :=by
 have e:ftK l i r k=some ⟨pP[k]!,ftC l i (lY l (i+(k:Nat))) k (tI r (lY l (i+(k:Nat))) (min r.needs.length 2))⟩:=ar h;exact⟨_,List.mem_filterMap.2 ⟨k,List.mem_range.2 hk,e⟩,rfl⟩
def Wm {fs:List ct}{nm:av}(h:∃f∈fs,f.name=nm):0<=findF fs nm 0:=by
 grind [findF]
theorem Mg:∀k,k<4->ec pP[k]! =((1:Int),pP[k]!,([]:av))/\dj pP[k]! =true:=by decide+kernel
theorem aaB:∀a,a<4->∀b,b<4->a<b->Op.bytesLess pP[a]! pP[b]! =true:=by decide+kernel
theorem Ws (l:List Int)(i:Int)(r:Rec):(lA l i r).Pairwise fun a b=>Op.bytesLess a.name b.name=true:=by
 unfold lA Z1;refine List.Pairwise.filterMap _ (R:=fun a b=>a<b/\b<4) ?_ aG
 grind [ftK,pP,aaB]
def E3 (l:List Int)(i:Int)(r:Rec):(lA l i r).length<=4:=by
 grind [lA,Z1]
def NdG (r:Rec):Prop:=∀m∈r.needs,(m.option=[]\/∃n,m.option=oQ n)/\(m.any.length=1->∃n,m.any[0]!.name=dp n)
def L1 {l:List Int}{i:Int}{r r2:Rec}{t:av}(h:ItG l i r t)(hr:NdG r)(hn:r2.needs=r.needs)(hf:r2.feats=lA l i r):jM r2.feats t=true/\kZ r2 t=0/\t.length<=7:=by
 rcases h with⟨m,hm,h1,rfl⟩|⟨m,hm,h1,rfl⟩|⟨k,hk,h1,rfl⟩
 .obtain⟨n,e⟩:=(hr m hm).1.resolve_left h1;have hx:=(uB n).2;have hl:=AX n;rw[e];refine⟨by unfold jM;rw[hx];rfl, ?_,by simp only[bH,aM,aX];omega⟩;unfold kZ;rw[hx];have:Mm r2.needs (oQ n)=true:=by
   unfold Mm;rw[List.any_eq_true];exact⟨m,by rw[hn];exact hm,by simp[e]⟩
  simp[this]
 .obtain⟨n,e⟩:=(hr m hm).2 h1;have hx:=(Sz _ (rU n).1).2.2;have hl:=pW n;rw[<-(rU n).2]at hx;rw[e];generalize dp n=w at e hx hl;refine⟨by unfold jM;rw[hx];rfl, ?_,by simp only[bH,aM,aX];omega⟩;have:B2 r2.needs w=true:=by
   unfold B2;rw[List.any_eq_true];exact⟨m,by rw[hn];exact hm,by rw[e,h1];simp⟩
  unfold kZ;rw[hx,ar aI,ar (by rw[this];simp)]
 .have hx:=(Mg (k+1) ae).1;have hl:∀k,k<4->pP[k]!.length<=7:=aG
  refine⟨?_,by unfold kZ;rw[hx];simp,hl _ ae⟩;have:WA r2.feats pP[k+1]! =true:=by
   unfold WA;rw[hf,dw];right;rw[bh];exact Wm (Sa (k:=k+1) ae (by rw[show i+((k+1:Nat):Int)=i+(k:Nat)+1 by omega];exact h1))
  unfold jM;rw[hx];dsimp only;rw[this];rfl
theorem aiA {α:Type} [Inhabited α]{R:α->α->Prop}{l:List α}(h:l.Pairwise R){i:Nat}(h0:0<i)(hi:i<l.length):R l[i-1]! l[i]! :=by
 rw[getElem!_pos l _ ae,getElem!_pos l _ hi];exact List.pairwise_iff_getElem.1 h _ _ ae hi ae
def Wj {l:List Int}{i:Int}{r r2:Rec}(hr:NdG r)(hn:r2.needs=r.needs)(hf:r2.feats=lA l i r):jn r2.feats=true/\xG r2=(0,0):=by
 have hit:∀f∈r2.feats,∀t∈f.of,jM r2.feats t=true/\kZ r2 t=0/\t.length<=7:=fun f hf' t ht=>by
  obtain⟨k,_,_,_,_,h,_⟩:=s7 (show f∈lA l i r by rw[<-hf];exact hf');exact L1 (h t ht) hr hn hf
 constructor
 .have hlen:=E3 l i r;unfold jn;rw[bM,bh,fN];refine⟨by rw[hf];omega,fun j _ hj=>?_⟩;have hm:r2.feats[j]! ∈r2.feats:=bL hj;obtain⟨k,hk,e1,e2,e3,e4,e5⟩:=s7 (show r2.feats[j]! ∈lA l i r by rw[<-hf];exact hm)
  grind [kN,Mg,aiA,Ws,nv,fN,bL]
 .unfold xG;refine ur fun j hj=>?_
  unfold mj;exact BT fun q hq=>(hit _ (bL hj) _ (bL hq)).2.1
def rS {α:Type}{f:α->av}{B:Nat}:∀{l:List α},(∀x∈l,(f x).length<=B)->((l.map f).flatten).length<=l.length*B
 |[],_=>aI
 |a::r,h=>by
  have h1:=h a (.head _);have h2:=rS (l:=r) fun x hx=>h x (.tail _ hx)
  simp only[List.map_cons,List.flatten_cons,bH,aM,Nat.succ_mul];omega
def pY {l:List av}{B n:Nat}(h:∀t∈l,t.length<=B)(hn:l.length<=n):(cN l).length<=n*(B+1)+1:=by
 have h1:=nw 32 B l h;have h2:=fF (B+1) hn
 grind [cN]
def Vj (w:bX):Prop:=w.name.length<=3/\w.range.length<=8/\(w.feats=[]\/w.feats=GG.take 1\/w.feats=GG)
theorem XN (n:Nat):GG.take n=[]\/GG.take n=GG.take 1\/GG.take n=GG:=by
 match n with
 |0=>exact .inl rfl
 |1=>exact .inr (.inl rfl)
 |n+2=>exact .inr (.inr (fq (by simp[GG])))
def AW (l:List Int)(i own:Int)(al:Bool):Vj (oP l i own al):=by
 refine⟨pW _,(lv l (i+1)).2.1, ?_⟩;show rz l i al=[]\/rz l i al=GG.take 1\/rz l i al=GG
 grind [rz,XN]
def XF {w:bX}(h:Vj w):(cN (jW w)).length<=46:=by
 refine pY (B:=8) (n:=5) (fun t ht=>?_) (by simp[jW]);simp only[jW,ca,ek,or_false]at ht;rcases ht with rfl|rfl|rfl|rfl|rfl
 .decide
 .have:=h.1;omega
 .rcases h.2.2 with e|e|e<;>rw[e]<;>decide
 .split<;>decide
 .exact h.2.1
theorem Iz {s:av}(h:s.length<=16):(jf s).length<=35:=by
 unfold jf;split
 .simp
 .exact pY (B:=16) (n:=2) (fun t ht=>by
   simp only[ca,ek,or_false]at ht;rcases ht with rfl|rfl
   .decide
   .exact h) aI
def aaP {s:av}(h:s.length<=6):(tN s).length<=15:=by
 unfold tN;split
 .simp
 .exact pY (B:=6) (n:=2) (fun t ht=>by
   simp only[ca,ek,or_false]at ht;rcases ht with rfl|rfl
   .decide
   .exact h) aI
def Wt (l:List Int)(i own:Int):(sa (jc l i own)).length<=160:=by
 have h1:=rS (f:=fun w=>cN (jW w)) (B:=46) (l:=(jc l i own).any) fun w hw=>by
  obtain⟨q,_,rfl⟩:=eG.1 (show w∈xP l i own (gZ l i)from hw);exact XF (AW _ _ _ _)
 have h2:(jc l i own).any.length<=2:=by rw[show(jc l i own).any.length=gZ l i from LU _ _ _ _];exact E5 l i
 have h3:=Iz (qu l (i+14)).2.1;have h4:=aaP (s:=(jc l i own).option) (c7 (AU l i own) aG);have h5:(cN [eX]).length<=6:=aG;unfold sa;simp only[bH];show _+(((jc l i own).any.map fun w=>cN (jW w)).flatten).length+(jf (oO l (i+14))).length+_<=_;omega
def ZA {b:fZ}(h:b.name.length<=3/\b.range.length<=8/\b.when'.length<=16):(yL b).length<=63:=by
 have h1:=pY (B:=8) (n:=3) (l:=[gG,b.name,b.range]) (fun t ht=>by
  simp only[ca,ek,or_false]at ht;rcases ht with rfl|rfl|rfl
  .decide
  .omega
  .exact h.2.1) aI
 grind [Iz,yL]
def Z3 (l:List Int)(i own:Int):(E1 l i own).name.length<=3/\(E1 l i own).range.length<=8/\(E1 l i own).when'.length<=16:=⟨pW _,(lv l (i+47)).2.1,(qu l (i+50)).2.1⟩
def Wg {f:ct}(h:f.name.length<=7/\f.of.length<=5/\∀t∈f.of,t.length<=7):(tC f).length<=57:=by
 refine pY (B:=7) (n:=7) (fun t ht=>?_) dk;simp only[List.mem_append,ca,ek,or_false]at ht;rcases ht with(rfl|rfl)|ht
 .decide
 .exact h.1
 .exact h.2.2 t ht
structure I3 (l:List Int)(i own:Int)(r:Rec):Prop where
 nm:r.name=dp own
 ns:r.needs=uA l i own
 v:jD r.v=true/\r.v.pre.length<=4/\r.v.build.length<=1
 bl:r.bars.length<=2
 b:∀b∈r.bars,rH r b=0/\b.name.length<=3/\b.range.length<=8/\b.when'.length<=16
 fs:jn r.feats=true/\xG r=(0,0)
 fl:r.feats.length<=4
 f:∀f∈r.feats,f.name.length<=7/\f.of.length<=5/\∀t∈f.of,t.length<=7
def E6 (l:List Int)(i own:Int):(uA l i own).length<=2:=by rw[uA,acZ];exact agq l i
def I3.good {l:List Int}{i own:Int}{r:Rec}(h:I3 l i own r):zf r:=by
 have h1:=E6 l i own;have h2:=h.bl;refine⟨⟨by rw[h.nm];exact(mh own).1,h.v.1⟩,⟨by rw[h.ns];omega,ae⟩,uQ (Sy h.nm h.ns) ?_ h.fs.1 h.fs.2⟩;unfold wZ;exact ur fun j hj=>(h.b _ (bL hj)).1
def I3.sm {l:List Int}{i own:Int}{r:Rec}(h:I3 l i own r):mD r:=by
 refine⟨⟨by rw[h.nm];exact c7 (pW own) aG,c7 h.v.2.1 aG,c7 h.v.2.2 aG⟩,fun n hn=>?_,fun b hb=>?_,fun f hf=>?_⟩
 .obtain⟨k,rfl⟩:=zc (show n∈LW l i own (gK l i)by rw[show LW l i own (gK l i)=r.needs from h.ns.symm];exact hn);refine⟨fun w hw=>?_,c7 (qu l (k+14)).2.1 aG,c7 (AU l k own) aG⟩;obtain⟨q,_,rfl⟩:=eG.1 (show w∈xP l k own (gZ l k)from hw);obtain⟨a,b,c⟩:=AW l (k+1+6*(q:Nat)) own (decide ((gZ l k:Int)=1));refine⟨⟨c7 a aG,c7 b aG⟩,fun t ht=>?_⟩
  grind [GG]
 .obtain⟨_,a,b,c⟩:=h.b b hb;exact⟨c7 a aG,c7 b aG,c7 c aG⟩
 .obtain⟨a,b,c⟩:=h.f f hf;exact⟨c7 a aG,c7 b aG,fun t ht=>c7 (c t ht) aG⟩
def abX {v:dz}(h:jD v=true/\v.pre.length<=4/\v.build.length<=1):(ll v).length<=30:=by
 obtain⟨h1,h2,h3⟩:=h;have hv:=h1;simp only[jD,sZ,bM,bh]at h1;have a:=eJ 4 v.major.toNat ae ae;have b:=eJ 4 v.minor.toNat ae ae;have c:=eJ 4 v.patch.toNat ae ae
 grind [ll,BE,coreS]
def I3.len {l:List Int}{i own:Int}{r:Rec}(h:I3 l i own r):(gh r).length<=800:=by
 have h1:(tD r).length<=94:=pY (B:=30) (n:=3) (fun t ht=>by
  simp only[ca,ek,or_false]at ht;rcases ht with rfl|rfl|rfl
  .decide
  .rw[h.nm];exact c7 (pW own) aG
  .exact abX h.v) aI
 have h2:=rS (f:=sa) (B:=160) (l:=r.needs) fun n hn=>by
  obtain⟨k,rfl⟩:=zc (show n∈LW l i own (gK l i)by rw[show LW l i own (gK l i)=r.needs from h.ns.symm];exact hn);exact Wt l k own
 have h3:=rS (f:=yL) (B:=63) (l:=r.bars) fun b hb=>ZA (h.b b hb).2
 have h4:=rS (f:=tC) (B:=57) (l:=r.feats) fun f hf=>Wg (h.f f hf)
 have h5:=E6 l i own;have h6:=h.bl;have h7:=h.fl;rw[h.ns]at h2;unfold gh;rw[h.ns];simp only[bH];omega
def I3.check {l:List Int}{i own:Int}{r:Rec}(h:I3 l i own r):cE r=(0,0):=by
 obtain⟨⟨a,b⟩,⟨c,d⟩,e⟩:=h.good;rw[ui a b ae ae e,ar (by have:=h.len;omega)]
def T0 (l:List Int)(i:Int):jD (Wv l i)=true/\(Wv l i).pre.length<=4/\(Wv l i).build.length<=1:=by
 have a:=dP l i 3 aG;have b:=dP l (i+1) 2 aG;have key:∀x,x<3->∀y,y<2->∀p∈[([]:av),abn],∀q∈[([]:av),[55]],jD ⟨(x:Nat),(y:Nat),0,p,q⟩=true:=by decide+kernel
 have hp:xQ l i∈[([]:av),abn]:=by unfold xQ;split<;>simp
 have hq:E2 l i∈[([]:av),[55]]:=by unfold E2;split<;>simp
 have h:=key (eA l i 3).toNat ae (eA l (i+1) 2).toNat ae _ hp _ hq;have e:(⟨((eA l i 3).toNat:Int),((eA l (i+1) 2).toNat:Int),0,xQ l i,E2 l i⟩:dz)=Wv l i:=by
  grind [Wv,eA]
 rw[e]at h;refine⟨h, ?_, ?_⟩
 .show(xQ l i).length<=4;unfold xQ;split<;>decide
 grind
def AV (l:List Int)(i own:Int):NdG (rV l i own):=by
 intro m hm;obtain⟨k,rfl⟩:=zc (show m∈LW l i own (gK l i)from hm);refine⟨Ju l k own,fun h=>?_⟩;have h1:0<gZ l k:=by have:=HI l k;omega
 have:=LR (l:=l) (i:=k) (own:=own) h1;exact⟨_,ak bX.name this⟩
def Wr (l:List Int)(i own:Int):(uz l i own).length<=1:=by unfold uz;split<;>simp
def ady:∀k,k<4->pP[k]!.length<=7:=aG
def zd (l:List Int)(i own:Int):I3 l i own (qt l i own):=by
 have hf:=Wj (r:=rV l i own) (r2:=qt l i own) (l:=l) (i:=i+52) (AV l i own) rfl rfl;refine⟨rfl,rfl,T0 l i,c7 (Wr l i own) aG,fun b hb=>?_,hf,E3 _ _ _,fun f hf2=>?_⟩
 .obtain rfl:=HG (show b∈uz l i own from hb);exact⟨Zz rfl l i,Z3 l i own⟩
 .obtain⟨k,hk,e,_,_,hi,hl⟩:=s7 (show f∈lA l (i+52) (rV l i own)from hf2);refine⟨by rw[e];exact ady k hk,hl,fun t ht=>?_⟩;exact(L1 (r2:=qt l i own) (hi t ht) (AV l i own) rfl rfl).2.2
end Go.Abs
section
namespace Go.Abs
def cB (w:av):Prop:=w≠[]/\∀c∈w,c≠32/\c≠10
def mc (w:av):Prop:=∀c∈w,c≠10
def gR (l:List av):av:=aO [32] l
def n32 {w:av}(h:cB w):∀c∈w,(c.toNat:Int)≠32:=fun c hc e=>(h.2 c hc).1 (iY.1 (by have:(32:UInt8).toNat=32:=rfl;omega))
theorem vu {l:List av}(hl:l≠[])(h:∀w∈l,cB w):ai (gR l) 32=l:=
 lQ (x:=32) rfl hl fun w hw=>n32 (h w hw)
theorem By {p:List av}{t:av}(h:∀w∈p,cB w):ai (gR (p++[t])) 32=p++ai t 32:=by
 induction p with
 |nil=>rfl
 |cons a r ih=>
  have ha:=n32 (h a (.head _));have hr:=ih fun w hw=>h w (.tail _ hw)
  have e:gR (a::(r++[t]))=a++32::gR (r++[t]):=by
   unfold gR;rw[eK [32] a (r++[t]) aI];simp
  grind [yu,gR,ai]
def fw (t:av):av:=(ai t 32)[0]!
theorem qp {w:av}{l:List av}(hw:cB w)(hl:∀x∈l,cB x):fw (gR (w::l))=w:=by
 unfold fw
 grind [vu]
def uw {w:av}{p:List av}{t:av}(hw:cB w)(hp:∀x∈p,cB x):fw (gR (w::(p++[t])))=w:=by
 unfold fw
 grind [By]
def af7 {n:Nat}{op:Bool}{t:av}(h:2<=n\/op=false):(eU n op t)[0]! =fw t:=by
 unfold eU fw
 grind [kL,ai]
def hd (R:List av):Option av:=R.head?.map fw
theorem uM {w:av}{n:Nat}{op:Bool}{R:List av}(h:2<=n\/op=false)(hn:hd R≠some w):cu w n op R=none:=by
 match R,hn with
 |[],_=>rfl
 |t::r,hn=>
  have:eC w n op t=none:=by
   unfold eC;rw[ar];rintro⟨h1,_⟩;rw[af7 h]at h1;exact hn (by simp[hd,h1])
  simp only[cu,this]
theorem tg {w:av}{l:List av}{n:Nat}{R:List av}(hw:cB w)(hl:∀x∈l,cB x)(hn:n=0\/l.length+1=n):cu w n false (gR (w::l)::R)=some (w::l,R):=by
 grind [cB,eU,gR,vu,eC,cu]
def Bg {w:av}{p:List av}{t:av}{n:Nat}{R:List av}(hw:cB w)(hp:∀x∈p,cB x)(ht:t≠[])(hn:p.length+2=n):cu w n true (gR (w::(p++[t]))::R)=some (w::(p++[t]),R):=by
 have hc:∀x∈w::p,cB x:=fun x hx=>by rcases ca.1 hx with rfl|hx;exact hw;exact hp x hx
 have hs:=By (t:=t) hc;have hj:=iz (b:=32) (x:=32) rfl t;have h1:1<=(ai t 32).length:=eN 32 t [];have e:eU n true (gR (w::(p++[t])))=w::(p++[t]):=by
  unfold eU;rw[aC rfl,<-fY,hs];unfold kL;have hl:(w::p++ai t 32).length=p.length+1+(ai t 32).length:=dk;split
  .have:(ai t 32).length=1:=ae;obtain⟨x,hx⟩:=List.length_eq_one_iff.1 this;rw[hx]at hj⊢;simp only[aO]at hj;rw[hj]
  .have a:n-1=(w::p).length:=dk;rw[a,List.take_left,List.drop_left,hj]
 have:eC w n true (gR (w::(p++[t])))=some (w::(p++[t])):=by
  unfold eC;rw[e,aC ⟨rfl,.inr dk,fun h=>by
   rw[<-fY,List.mem_append,cT]at h;rcases h with h|h
   .exact(hc _ h).1 rfl
   .exact ht h.symm⟩]
 simp only[cu,this]
def lT (s:av):List av:=if s=[]then []else [gR [fo,s]]
def pH (s:av):List av:=if s=[]then []else [gR [dh,s]]
def mQ (l:List bX):List av:=l.map fun w=>gR (jW w)
def Bb (n:bo):List av:=gR [eX]::(mQ n.any++(lT n.when'++pH n.option))
def Hq (b:fZ):List av:=gR [gG,b.name,b.range]::lT b.when'
def me (f:ct):av:=gR ([cw,f.name]++f.of)
structure Ln (w:bX):Prop where
 nm:cB w.name
 rg:w.range≠[]/\mc w.range
 fs:∀t∈w.feats,cB t/\∀c∈t,c≠44
 ne:aO [44] w.feats≠[45]
def qi:cB fo:=by unfold cB;decide
theorem vU:cB dh:=by unfold cB;decide
theorem sS:cB eX:=by unfold cB;decide
def vT:cB gG:=by unfold cB;decide
def sR:cB cw:=by unfold cB;decide
def AJ:cB ib:=by unfold cB;decide
def xA:cB ee:=by unfold cB;decide
def aaR {s:av}{R:List av}(hs:s=[]\/cB s)(hR:s=[]->hd R≠some dh):qD (pH s++R)=(s,R):=by
 grind [pH,qD,uM,tg,vU]
def IA {s:av}{R:List av}(hR:s=[]->hd R≠some fo):cI (lT s++R)=(s,R):=by
 unfold lT cI;by_cases h:s=[]
 .grind [uM]
 .rw[ar h,List.singleton_append];have:=Bg (n:=2) (w:=fo) (p:=[]) (t:=s) (R:=R) qi (fun x hx=>by cases hx) h rfl
  grind
def aag {l:List av}(h:∀t∈l,cB t/\∀c∈t,c≠44)(hl:l≠[]):cB (aO [44] l)/\ai (aO [44] l) 44=l:=by
 refine⟨⟨?_,fun c hc=>?_⟩,lQ (x:=44) rfl hl fun w hw c hc e=>(h w hw).2 c hc (iY.1 (by have:(44:UInt8).toNat=44:=rfl;omega))⟩
 .match l,hl with
  |[a],_=>exact(h a (.head _)).1.1
  |a::b::r,_=>simp[aO]
 .rcases pX 44 l c hc with rfl|⟨w,hw,hc⟩
  .decide
  .exact(h w hw).1.2 c hc
def yz {w:bX}(h:Ln w):∀x∈[w.name,if w.feats.length=0 then [45]else aO [44] w.feats,if w.bare=true then dW else jV],cB x:=by
 intro x hx;simp only[ca,ek,or_false]at hx;rcases hx with rfl|rfl|rfl
 .exact h.nm
 .split
  .unfold cB;decide
  .rename_i hn;exact(aag h.fs (fun e=>hn (by rw[e];rfl))).1
 .split<;>(unfold cB;decide)
def GB (w:bX):jW w=ib::([w.name,if w.feats.length=0 then [45]else aO [44] w.feats,if w.bare=true then dW else jV]++[w.range]):=rfl
theorem af5 {w:bX}(h:Ln w):iH (jW w)=w/\mi (jW w)=true:=by
 obtain⟨nm,rg,fs,b⟩:=w;have hb:dW≠jV:=aG;constructor
 .show(⟨nm,rg,(if(if fs.length=0 then [45]else aO [44] fs)=[45]then []else ai (if fs.length=0 then [45]else aO [44] fs) 44),decide ((if b=true then dW else jV)=dW)⟩:bX)=_;have h1:(if(if fs.length=0 then [45]else aO [44] fs)=[45]then []else ai (if fs.length=0 then [45]else aO [44] fs) 44)=fs:=by
   by_cases hn:fs.length=0
   .grind
   .rw[ar hn,ar h.ne];exact(aag h.fs (fun e=>hn (by rw[show fs=[]from e];rfl))).2
  rw[h1];cases b<;>simp[hb,Ne.symm hb]
 .show(decide ((if b=true then dW else jV)=dW) ||decide ((if b=true then dW else jV)=jV))=true;cases b<;>simp
def Cf {R:List av}(hR:hd R≠some ib):∀{l:List bX},(∀w∈l,Ln w)->cV (mQ l++R)=(l,R)
 |[],_=>zB (uM (.inl ae) hR)
 |w::r,h=>by
  have ih:=Cf hR (l:=r) fun x hx=>h x (.tail _ hx)
  have hw:=h w (.head _);have hn:cu ib 5 true (gR (jW w)::(mQ r++R))=some (jW w,mQ r++R):=by
   have:=Bg (n:=5) (w:=ib) (t:=w.range) (R:=mQ r++R) AJ (yz hw) hw.rg.1 rfl;rw[GB];exact this
  grind [af5,Ce,cV,gR,jW,mQ]
structure Lh (n:bo):Prop where
 a:∀w∈n.any,Ln w
 w:mc n.when'
 o:n.option=[]\/cB n.option
def ac2 {s:av}{R:List av}:hd (lT s++R)=if s=[]then hd R else some fo:=by
 unfold lT;split
 .rfl
 .show some (fw (gR (fo::([]++[s]))))=_;rw[uw qi (fun x hx=>by cases hx)]
def aia {s:av}{R:List av}(hs:s=[]\/cB s):hd (pH s++R)=if s=[]then hd R else some dh:=by
 unfold pH;split
 .rfl
 .rename_i h;show some (fw (gR (dh::[s])))=_
  grind [qp,vU]
def aaF (R:List av):Prop:=hd R≠some ib/\hd R≠some fo/\hd R≠some dh
def W0 {n:bo}{R:List av}(h:Lh n)(hR:aaF R):eQ ((mQ n.any++(lT n.when'++pH n.option))++R)=(n,R):=by
 have e1:(mQ n.any++(lT n.when'++pH n.option))++R=mQ n.any++(lT n.when'++(pH n.option++R)):=by simp only[eh]
 have ho:=aaR (s:=n.option) (R:=R) h.o fun _=>hR.2.2
 have hh:=aia (R:=R) h.o;have hw:=IA (s:=n.when') (R:=pH n.option++R) fun _=>by
  rw[hh];split
  .exact hR.2.1
  .decide
 have ha:=Cf (R:=lT n.when'++(pH n.option++R)) (l:=n.any) (by
  rw[ac2];split
  .rw[hh];split
   .exact hR.1
   .decide
  .decide) h.a
 unfold eQ;rw[e1,ha,hw,ho]
def qC (l:List bo):List av:=(l.map Bb).flatten
def Fv {R:List av}(hR:aaF R)(hN:hd R≠some eX):∀{l:List bo},(∀n∈l,Lh n)->fj (qC l++R)=(l,R)
 |[],_=>qZ (uM (.inr rfl) hN)
 |n::r,h=>by
  have ih:=Fv hR hN (l:=r) fun x hx=>h x (.tail _ hx)
  have hok:aaF (qC r++R):=by
   match r with
   |[]=>exact hR
   |m::q=>
    have:hd (qC (m::q)++R)=some eX:=by
     show some (fw (gR (eX::[])))=_;rw[qp sS (fun x hx=>by cases hx)]
    unfold aaF;rw[this];decide
  have hr:=W0 (h n (.head _)) hok;have hn:cu eX 1 false (qC (n::r)++R)=some ([eX],(mQ n.any++(lT n.when'++pH n.option))++(qC r++R)):=by
   grind [tg,eX,mQ,lT,pH,qC,sS,Bb]
  rw[uL hn,hr,ih]
structure XQ (b:fZ):Prop where
 nm:cB b.name
 rg:b.range≠[]/\mc b.range
 w:mc b.when'
def pD (l:List fZ):List av:=(l.map Hq).flatten
def TM {R:List av}{l:List fZ}(h:∀b∈l,XQ b):hd (pD l++R)=if l=[]then hd R else some gG:=by
 match l with
 |[]=>rfl
 |b::r=>
  rw[ar aI];show some (fw (gR (gG::([b.name]++[b.range]))))=_;rw[uw vT (fun x hx=>by rw[cT.1 hx];exact(h b (.head _)).nm)]
def Hs {R:List av}(hR:hd R≠some fo/\hd R≠some gG):∀{l:List fZ},(∀b∈l,XQ b)->jx (pD l++R)=(l,R)
 |[],_=>sM (uM (.inl ae) hR.2)
 |b::r,h=>by
  have ih:=Hs hR (l:=r) fun x hx=>h x (.tail _ hx)
  have hb:=h b (.head _);have hw:=IA (s:=b.when') (R:=pD r++R) fun _=>by
   rw[TM fun x hx=>h x (.tail _ hx)];split
   .exact hR.1
   .decide
  have hn:cu gG 3 true (pD (b::r)++R)=some ([gG,b.name,b.range],lT b.when'++(pD r++R)):=by
   have:=Bg (n:=3) (w:=gG) (p:=[b.name]) (t:=b.range) (R:=lT b.when'++(pD r++R)) vT (fun x hx=>by rw[cT.1 hx];exact hb.nm) hb.rg.1 rfl
   grind [gG,pD,Hq]
  rw[xp hn,hw,ih];rfl
structure Y5 (f:ct):Prop where
 nm:cB f.name
 o:∀t∈f.of,cB t
def ES:∀{l:List ct},(∀f∈l,Y5 f)->dS (l.map me)=(l,[])
 |[],_=>rfl
 |f::r,h=>by
  have ih:=ES (l:=r) fun x hx=>h x (.tail _ hx)
  have hf:=h f (.head _);have hn:=tg (n:=0) (w:=cw) (l:=f.name::f.of) (R:=r.map me) sR (fun x hx=>by
   rcases ca.1 hx with rfl|hx
   .exact hf.nm
   .exact hf.o x hx) (.inl rfl)
  have hl:eC cw 0 false (me f)=some (cw::f.name::f.of):=by
   simp only[cu]at hn;show eC cw 0 false (gR (cw::f.name::f.of))=_
   grind
  simp only[List.map_cons,dS,hl];rw[aC aI,ih];rfl
end Go.Abs
namespace Go.Abs
structure RP (r:Rec):Prop where
 nm:cB r.name
 v:jD r.v=true
 n:∀n∈r.needs,Lh n
 b:∀b∈r.bars,XQ b
 f:∀f∈r.feats,Y5 f
def va (r:Rec):List av:=qC r.needs++(pD r.bars++r.feats.map me)
def lC (r:Rec):List av:=gR [ee,r.name,ll r.v]::va r
def kV (l:List av):av:=(l.map fun t=>t++[10]).flatten
theorem rN (a b:List av):kV (a++b)=kV a++kV b:=by simp[kV]
def AQ {α:Type}(f:α->List av):∀l:List α,kV ((l.map f).flatten)=(l.map fun x=>kV (f x)).flatten
 |[]=>rfl
 |a::r=>by simp only[List.map_cons,List.flatten_cons,rN,AQ f r]
theorem zl (l:List av):cN l=gR l++[10]:=rfl
def ZO (t:av):kV [t]=t++[10]:=by simp[kV]
theorem IB (s:av):kV (lT s)=jf s:=by
 unfold lT jf;split
 .rfl
 .rw[ZO,zl]
theorem aaS (s:av):kV (pH s)=tN s:=by
 unfold pH tN;split
 .rfl
 .rw[ZO,zl]
theorem Nz (l:List bX):kV (mQ l)=(l.map fun w=>cN (jW w)).flatten:=by
 unfold mQ kV;rw[List.map_map];rfl
theorem pU (t:av)(l:List av):kV (t::l)=t++[10]++kV l:=by simp[kV]
def W1 (n:bo):kV (Bb n)=sa n:=by
 grind [Bb,sa,pU,rN,Nz,IB,aaS,zl]
def ZD (b:fZ):kV (Hq b)=yL b:=by
 unfold Hq yL;rw[pU,IB,zl]
def R4 (l:List ct):kV (l.map me)=(l.map tC).flatten:=by
 unfold kV;rw[List.map_map];rfl
def yx (r:Rec):gh r=kV (lC r):=by
 unfold lC va gh tD;rw[pU,rN,rN,R4];unfold qC pD;rw[AQ,AQ,zl];simp only[W1,ZD,eh]
def Fc:∀ls:List av,aO [10] (ls++[[]])=kV ls
 |[]=>rfl
 |a::r=>by
  rw[fY,eK _ _ _ aI,Fc r,pU]
def iw {l:List av}(h:∀w∈l,mc w):mc (gR l):=by
 intro c hc;rcases pX 32 l c hc with rfl|⟨w,hw,hc⟩
 .decide
 .exact h w hw c hc
def I8 {w:av}(h:cB w):mc w:=fun c hc=>(h.2 c hc).2
def BF {v:dz}(h:jD v=true):cB (ll v):=by
 have e:ll v=vz v:=by unfold ll;rw[aC h]
 rw[e];refine⟨?_,fun c hc=>?_⟩
 .unfold vz;have:=CJ v.major.toNat;cases hd:ea v.major.toNat with
  |nil=>exact absurd hd this
  |cons a b=>simp
 .have:=ad9 h hc;exact⟨fun e=>this.1 (by rw[e];rfl),fun e=>this.2 (by rw[e];rfl)⟩
def BY {r:Rec}(h:RP r):∀t∈lC r,mc t:=by
 have hwhen:∀s,mc s->∀t∈lT s,mc t:=fun s hs t ht=>by
  unfold lT at ht;split at ht
  .cases ht
  .obtain rfl:=cT.1 ht;refine iw fun w hw=>?_
   simp only[ca,ek,or_false]at hw;rcases hw with rfl|rfl
   .exact I8 qi
   .exact hs
 intro t ht;unfold lC va qC pD at ht;simp only[ca,List.mem_append,List.mem_flatten,eG]at ht;rcases ht with rfl|⟨_,⟨n,hn,rfl⟩,ht⟩|⟨_,⟨b,hb,rfl⟩,ht⟩|⟨f,hf,rfl⟩
 .refine iw fun w hw=>?_
  simp only[ca,ek,or_false]at hw;rcases hw with rfl|rfl|rfl
  .exact I8 xA
  .exact I8 h.nm
  .exact I8 (BF h.v)
 .have hw:=h.n n hn;unfold Bb at ht;simp only[ca,List.mem_append]at ht;rcases ht with rfl|ht|ht|ht
  .exact iw fun w hw=>by rw[cT.1 hw];exact I8 sS
  .obtain⟨w,hw2,rfl⟩:=eG.1 ht;have hww:=hw.a w hw2;rw[GB];refine iw fun x hx=>?_
   rcases ca.1 hx with rfl|hx
   .exact I8 AJ
   .rcases List.mem_append.1 hx with hx|hx
    .exact I8 (yz hww x hx)
    .rw[cT.1 hx];exact hww.rg.2
  .exact hwhen _ hw.w t ht
  .unfold pH at ht;split at ht
   .cases ht
   .rename_i hne;obtain rfl:=cT.1 ht;refine iw fun x hx=>?_
    simp only[ca,ek,or_false]at hx;rcases hx with rfl|rfl
    .exact I8 vU
    .exact I8 (hw.o.resolve_left hne)
 .have hw:=h.b b hb;unfold Hq at ht;rcases ca.1 ht with rfl|ht
  .refine iw fun x hx=>?_
   simp only[ca,ek,or_false]at hx;rcases hx with rfl|rfl|rfl
   .exact I8 vT
   .exact I8 hw.nm
   .exact hw.rg.2
  .exact hwhen _ hw.w t ht
 .have hw:=h.f f hf;refine iw fun x hx=>?_
  simp only[List.mem_append,ca,ek,or_false]at hx;rcases hx with(rfl|rfl)|hx
  .exact I8 sR
  .exact I8 hw.nm
  .exact I8 (hw.o x hx)
theorem Cc {ls:List av}(h:∀t∈ls,mc t):ai (kV ls) 10=ls++[[]]:=by
 rw[<-Fc];refine lQ (x:=10) rfl aI fun w hw c hc e=>?_
 rcases List.mem_append.1 hw with hw|hw
 .exact h w hw c hc (iY.1 (by have:(10:UInt8).toNat=10:=rfl;omega))
 grind
def ZT {l:List ct}(h:∀f∈l,Y5 f):hd (l.map me)=none\/hd (l.map me)=some cw:=by
 match l with
 |[]=>exact .inl rfl
 |f::r=>
  right;have hf:=h f (.head _);show some (fw (gR (cw::(f.name::f.of))))=_;rw[qp sR (fun x hx=>by
   rcases ca.1 hx with rfl|hx
   .exact hf.nm
   .exact hf.o x hx)]
theorem abp {r:Rec}(h:RP r):pA (lC r)=some (r,[]):=by
 have hf:=ES h.f;have hfh:=ZT h.f;have hb:=Hs (R:=r.feats.map me) (by rcases hfh with e|e<;>rw[e]<;>decide) h.b;have hbh:=TM (R:=r.feats.map me) h.b;have h1:hd (pD r.bars++r.feats.map me)=none\/hd (pD r.bars++r.feats.map me)=some cw\/hd (pD r.bars++r.feats.map me)=some gG:=by
  grind
 have hn:=Fv (R:=pD r.bars++r.feats.map me) (by unfold aaF;rcases h1 with e|e|e<;>rw[e]<;>decide) (by rcases h1 with e|e|e<;>rw[e]<;>decide) h.n;have hp:=tg (n:=3) (w:=ee) (l:=[r.name,ll r.v]) (R:=va r) xA (fun x hx=>by
  simp only[ca,ek,or_false]at hx;rcases hx with rfl|rfl
  .exact h.nm
  .exact BF h.v) (.inr rfl)
 unfold pA lC;rw[hp];show(match hH (ll r.v)with|some v=>some (rJ r.name v (va r))|none=>none)=_;rw[ai5 h.v];show some (rJ r.name r.v (va r))=_;unfold rJ va;rw[hn,hb,hf]
def Xc {r:Rec}(h:RP r)(hc:cE r=(0,0)):cW (gh r)=(r,0,0):=by
 have hl:¬4096<(gh r).length:=by
  grind [cE]
 have hs:ai (gh r) 10=lC r++[[]]:=by rw[yx];exact Cc (BY h)
 have ht:(ai (gh r) 10).take ((ai (gh r) 10).length-1)=lC r:=by
  rw[hs];simp
 have hz:(ai (gh r) 10)[(ai (gh r) 10).length-1]! =[]:=by
  rw[hs];simp
 grind [gF,lC,abp,cW]
end Go.Abs
end
namespace Go.Abs
def Sw {w:av}(h:∀c∈w,c.toNat≠32/\c.toNat≠10):∀c∈w,c≠32/\c≠10:=fun c hc=>⟨fun e=>(h c hc).1 (by rw[e];rfl),fun e=>(h c hc).2 (by rw[e];rfl)⟩
theorem wc (n:Int):cB (dp n):=⟨(CX (mh n).1).1,Sw (CX (mh n).1).2.2⟩
theorem T1 (n:Int):cB (oQ n):=⟨af6 (uB n).1,Sw fun c hc=>⟨(Vl (uB n).1 hc).1,(Vl (uB n).1 hc).2.1⟩⟩
def Vn:(∀t∈GG,cB t/\∀c∈t,c≠44)/\aO [44] GG≠[45]/\aO [44] (GG.take 1)≠[45]:=by unfold cB;decide
def ac1 (l:List Int)(i own:Int)(al:Bool):Ln (oP l i own al):=by
 have hf:=lv l (i+1);obtain⟨_,_,c⟩:=AW l i own al;refine⟨wc _,⟨hf.2.2.1,hf.2.2.2⟩,fun t ht=>?_, ?_⟩
 .rcases c with e|e|e<;>rw[e]at ht
  .cases ht
  .exact Vn.1 t (jN ht)
  .exact Vn.1 t ht
 .rcases c with e|e|e<;>rw[e]
  .decide
  .exact Vn.2.2
  .exact Vn.2.1
def ac0 (l:List Int)(i own:Int):Lh (jc l i own):=by
 refine⟨fun w hw=>?_,(qu l (i+14)).2.2, ?_⟩
 .obtain⟨q,_,rfl⟩:=eG.1 (show w∈xP l i own (gZ l i)from hw);exact ac1 _ _ _ _
 .rcases Ju l i own with e|⟨n,e⟩
  .exact .inl e
  .exact .inr (by rw[e];exact T1 n)
def ah8 (l:List Int)(i own:Int):XQ (E1 l i own):=⟨wc _,⟨(lv l (i+47)).2.2.1,(lv l (i+47)).2.2.2⟩,(qu l (i+50)).2.2⟩
def agD:∀k,k<4->cB pP[k]! :=by unfold cB;decide
theorem Hx {a b:av}(ha:cB a)(hb:∀c∈b,c≠32/\c≠10):cB (a++b):=⟨fun e=>ha.1 (List.append_eq_nil_iff.1 e).1,fun c hc=>(List.mem_append.1 hc).elim (ha.2 c) (hb c)⟩
def itG_W {l:List Int}{i:Int}{r:Rec}{t:av}(h:ItG l i r t)(hr:NdG r):cB t:=by
 rcases h with⟨m,hm,h1,rfl⟩|⟨m,hm,h1,rfl⟩|⟨k,hk,_,rfl⟩
 .obtain⟨n,e⟩:=(hr m hm).1.resolve_left h1
  grind [Hx,cB,T1]
 .obtain⟨n,e⟩:=(hr m hm).2 h1
  grind [Hx,wc]
 .exact agD _ ae
def ah9 (l:List Int)(i own:Int):RP (qt l i own):=by
 refine⟨wc own,(T0 l i).1,fun n hn=>?_,fun b hb=>?_,fun f hf=>?_⟩
 .obtain⟨k,rfl⟩:=zc (show n∈LW l i own (gK l i)from hn);exact ac0 l k own
 .obtain rfl:=HG (show b∈uz l i own from hb);exact ah8 l i own
 .obtain⟨k,hk,e,_,_,hi,_⟩:=s7 (show f∈lA l (i+52) (rV l i own)from hf);exact⟨by rw[e];exact agD k hk,fun t ht=>itG_W (hi t ht) (AV l i own)⟩
def LC (x:j6)(l:List av):Option j6:=if 2<=l.length/\Bk l l.length=true then some ⟨⟨x.r.name,x.r.v,x.r.needs,x.r.bars,x.r.feats++[⟨l[1]!,l.drop 2⟩]⟩,7⟩else none
def Yt (Y:Ctx):Prop:=∀(x:j6) (l:List av),(∀w∈l,w.length<=1048576)->RdC Y 471 [.sl 1 (l.map D.str)] x (uD x l)
def Yu (Y:Ctx):Prop:=∀(x:j6) (t:av),t.length<=1048576->(x.st=2->x.r.needs≠[])->xc x.r.needs<=1000000->x.r.needs.length<=1000000->RdC Y 472 [.str t] x (AG x t)
def Yv (Y:Ctx):Prop:=∀(x:j6) (t:av),t.length<=1048576->(x.st=2->x.r.needs≠[])->(x.st=5->x.r.bars≠[])->x.r.needs.length<=1000000->x.r.bars.length<=1000000->RdC Y 473 [.str t] x (rj x t)
def Yx (Y:Ctx):Prop:=∀(x:j6) (l:List av),l.length<=1048577->x.r.feats.length<=1000000->RdC Y 476 [.sl 1 (l.map D.str)] x (LC x l)
def I7 {out:Option j6}{L:Nat}(h:xM 0 L (L+1) (L+2) (L+3)=true):RdQ out (.bool out.isSome) (AE out 0 L++[]):=by
 refine⟨rfl,fun y hy=>?_⟩;subst hy;refine⟨L,L+1,L+2,L+3,h, ?_⟩;simp only[xM,bE,dt]at h;obtain⟨⟨⟨⟨⟨⟨⟨⟨⟨h1,h2⟩,h3⟩,h4⟩,h5⟩,h6⟩,h7⟩,h8⟩,h9⟩,h10⟩:=h;have ne:∀{a b:Nat},Nat.beq a b=false->¬a=b:=fun h e=>by subst e;simp at h
 rw[gQ];unfold AE RdM;constructor<;>simp only[look,ba,ne h1,ne h2,ne h3,ne h4,ne h5,ne h6,ne h7,ne h8,ne h9,ne h10,aZ]
mutual
theorem ahP:∀d:D,d.bN=true->yB d d
 | .bg,_=>.inl rfl
 | .agg a,h=>⟨a,rfl,I6 a h⟩
 | .any,h=>⟨rfl,h⟩
 | .bool b,h=>⟨rfl,h⟩
 | .int k n,h=>⟨rfl,h⟩
 | .str s,h=>⟨rfl,h⟩
 | .tup s,h=>⟨rfl,h⟩
 | .sl k s,h=>⟨rfl,h⟩
 | .ref k s i o,h=>⟨rfl,h⟩
 | .nilp,h=>⟨rfl,h⟩
 | .nilf,h=>⟨rfl,h⟩
 | .fn f c,h=>⟨rfl,h⟩
theorem I6:∀l:List D,bK l=true->I5 l l
 |[],_=>rfl
 |d::r,h=>by
  simp only[bK,bM]at h;exact⟨d,r,rfl,ahP d h.1,I6 r h.2⟩
end
def Ft:D:=.agg [.bg,.str [],.str []]
def Hn (j:Nat):∀N:List bo,I5 (N.map bo.D++[Ft]) (N.map bo.D++[mV j ⟨[],[],[]⟩])
 |[]=>⟨_,_,rfl,⟨_,rfl,⟨_,_,rfl,.inr ⟨_,_,_,rfl⟩,⟨_,_,rfl,⟨rfl,rfl⟩,⟨_,_,rfl,⟨rfl,rfl⟩,rfl⟩⟩⟩⟩,rfl⟩
 |a::r=>⟨_,_,rfl,⟨_,rfl,I6 _ rfl⟩,Hn j r⟩
def HX:∀N:List bo,NP (ij 2 4 (pd N) (fE 2 N)) (N.map bo.D)
 |[]=>.nil
 |[n]=>by
  have e:ij 2 4 (pd [n]) (fE 2 [n])=[.agg [.sl 4 (n.any.map bX.N),.str n.when',.str n.option]]:=by
   grind [fE,pd,mV,ij,ig,aL]
  rw[e];exact .cons (.ag (.cons (.ss (.map fun x _=>x.wk)) (.rf _))) .nil
 |a::b::r=>.cons (.refl _) (HX (b::r))
def nu {α:Type}{c:Prop} [Decidable c]{a y:α}(h:(if c then some a else none)=some y):c/\a=y:=by
 grind
def ac8 {α:Type}{c:Prop} [Decidable c]{a:α}:(if c then some a else none).isSome=decide c:=by
 grind
def Uk {x:j6}{t:av}(h:x.st=0):fm x t=E9 (ai t 32):=by unfold fm;simp only[h,ba]
def Ul {x:j6}{t:av}(h0:x.st≠0)(h:(ai t 32)[0]! =eX):fm x t=if(ai t 32).length=1/\x.st<5 then some ⟨⟨x.r.name,x.r.v,x.r.needs++[⟨[],[],[]⟩],x.r.bars,x.r.feats⟩,2⟩else none:=by
 grind [fm]
def aam {x:j6}{t:av}(h0:x.st≠0)(h:(ai t 32)[0]! =ib):fm x t=AG x t:=by
 have hw:=Gy
 grind [fm]
def Um {x:j6}{t:av}(h0:x.st≠0)(h:(ai t 32)[0]! =fo):fm x t=rj x t:=by
 have hw:=Gy
 grind [fm]
def aao {x:j6}{t:av}(h0:x.st≠0)(h:(ai t 32)[0]! =dh):fm x t=if Bk (ai t 32) 2=true/\(x.st=2\/x.st=3)then some ⟨⟨x.r.name,x.r.v,hZ x.r.needs fun n=>⟨n.any,n.when',(ai t 32)[1]!⟩,x.r.bars,x.r.feats⟩,4⟩else none:=by
 have hw:=Gy
 grind [fm]
def aan {x:j6}{t:av}(h0:x.st≠0)(h:(ai t 32)[0]! =gG):fm x t=if(iK t 2).2.2=true/\x.st<=6 then some ⟨⟨x.r.name,x.r.v,x.r.needs,x.r.bars++[⟨(iK t 2).1[1]!,(iK t 2).2.1,[]⟩],x.r.feats⟩,5⟩else none:=by
 have hw:=Gy
 grind [fm,J6,iK]
def Uj {x:j6}{t:av}(h0:x.st≠0)(h:(ai t 32)[0]! =cw):fm x t=LC x (ai t 32):=by
 have hw:=Gy
 grind [fm,LC]
def agC {x:j6}{t:av}(h0:x.st≠0)(h1:¬(ai t 32)[0]! =eX)(h2:¬(ai t 32)[0]! =ib)(h3:¬(ai t 32)[0]! =fo)(h4:¬(ai t 32)[0]! =dh)(h5:¬(ai t 32)[0]! =gG)(h6:¬(ai t 32)[0]! =cw):fm x t=none:=by
 grind [fm]
def XX (Y:Ctx):Prop:=∀(x:j6) (t:av),x.ok->x.sz<=900000->t.length<=1048576->RdC Y 224 [.str t] x (fm x t)
theorem G3 {f:bo->bo}(l:List bo)(hf:∀n,(f n).any.length<=n.any.length+1):xc (hZ l f)<=xc l+1:=by
 by_cases h:l=[]
 .subst h;simp[hZ,xc]
 .obtain⟨a,x,rfl⟩:=wB h;rw[fQ,tc,tc];exact hf x
theorem vj {α:Type}(l:List α)(f:α->α):(hZ l f).length=l.length:=by
 by_cases h:l=[]
 .subst h;rfl
 .obtain⟨a,x,rfl⟩:=wB h;rw[fQ];simp
def Gd {α:Type}{l:List α}(f:α->α)(h:l≠[]):hZ l f≠[]:=by
 grind [vj]
def Ke {x:j6}{nm:av}{v:dz}{st:Nat}(f:bo->bo)(hf:∀n,(f n).any.length<=n.any.length+1):(⟨⟨nm,v,hZ x.r.needs f,x.r.bars,x.r.feats⟩,st⟩:j6).sz<=x.sz+1:=by
 grind [G3,j6.sz,vj]
def ad1 {x y:j6}{t:av}(h:fm x t=some y)(hx:x.ok):y.ok/\y.sz<=x.sz+1:=by
 by_cases h0:x.st=0
 .rw[Uk h0,<-T2 hx h0]at h;obtain⟨e1,e2,e3⟩:=hx.1 h0;unfold uD at h;split at h
  .split at h
   .obtain rfl:=bQ h;refine⟨⟨fun h=>by simp at h,fun h=>by simp at h,fun h=>by simp at h⟩,Nat.le_succ _⟩
   .cases h
  .cases h
 by_cases h1:(ai t 32)[0]! =eX
 .rw[Ul h0 h1]at h;obtain⟨_,rfl⟩:=nu h;refine⟨⟨fun h=>by simp at h,fun _=>aI,fun h=>by simp at h⟩, ?_⟩;unfold j6.sz;rw[tc];simp only[bH,aM,aX];omega
 by_cases h2:(ai t 32)[0]! =ib
 .rw[aam h0 h2]at h;unfold AG at h;split at h
  .obtain⟨hc,rfl⟩:=nu h;refine⟨⟨fun h=>by simp at h,fun _=>Gd _ (hx.2.1 (.inl hc.1)),fun h=>by simp at h⟩,Ke _ (fun n=>aI)⟩
  .cases h
 by_cases h3:(ai t 32)[0]! =fo
 .rw[Um h0 h3]at h;unfold rj at h;split at h
  .split at h
   .rename_i hc;obtain rfl:=bQ h;refine⟨⟨fun h=>by simp at h,fun _=>Gd _ (hx.2.1 (.inl hc)),fun h=>by simp at h⟩,Ke _ (fun n=>aI)⟩
   .obtain⟨hc,rfl⟩:=nu h;refine⟨⟨fun h=>by simp at h,fun h=>by simp at h,fun h=>by simp at h⟩, ?_⟩;unfold j6.sz;simp only[vj];omega
  .cases h
 by_cases h4:(ai t 32)[0]! =dh
 .rw[aao h0 h4]at h;obtain⟨hc,rfl⟩:=nu h;refine⟨⟨fun h=>by simp at h,fun h=>by simp at h,fun h=>by simp at h⟩,Ke _ (fun n=>aI)⟩
 by_cases h5:(ai t 32)[0]! =gG
 .rw[aan h0 h5]at h;obtain⟨hc,rfl⟩:=nu h;refine⟨⟨fun h=>by simp at h,fun h=>by simp at h,fun _=>aI⟩, ?_⟩;unfold j6.sz;simp only[bH,aM,aX];omega
 by_cases h6:(ai t 32)[0]! =cw
 .rw[Uj h0 h6]at h;obtain⟨hc,rfl⟩:=nu h;refine⟨⟨fun h=>by simp at h,fun h=>by simp at h,fun h=>by simp at h⟩, ?_⟩;unfold j6.sz;simp only[bH,aM,aX];omega
 rw[agC h0 h1 h2 h3 h4 h5 h6]at h;cases h
abbrev qy (s:av):List av:=(ai s 10).take ((ai s 10).length-1)
abbrev xX (s:av):av:=(ai s 10)[(ai s 10).length-1]!
theorem FX {s:av}(h:¬4096<s.length):cW s=if(pA (qy s)).isSome=false\/(gF (qy s)).2≠[]\/xX s≠[]then(lh,2,(((qy s).length-(gF (qy s)).2.length:Nat):Int)+1)
  else if(cE (gF (qy s)).1).1≠0 then(lh,(cE (gF (qy s)).1).1,0)else((gF (qy s)).1,0,0):=by unfold cW;rw[ar h]
def MA {s:av}{x:j6}{i:Nat}(h:¬4096<s.length)(hi:i<=(qy s).length)(hr:nN zx (qy s)=(x,(qy s).drop i))(hn:i<(qy s).length\/xX s≠[]):cW s=(lh,2,(i:Int)+1):=by
 rw[FX h];have ha:=Ka (qy s);have hl:((qy s).drop i).length=(qy s).length-i:=kT
 grind [pA,gF,lh]
def abo {s:av}{x:j6}(h:¬4096<s.length)(hr:nN zx (qy s)=(x,[]))(h0:x.st=0):cW s=(lh,2,1):=by
 grind [Ka,pA,gF,lh,FX]
def adP {s:av}{x:j6}(h:¬4096<s.length)(hr:nN zx (qy s)=(x,[]))(h0:x.st≠0)(hl:xX s=[]):mD x.r/\cW s=if(cE x.r).1≠0 then(lh,(cE x.r).1,0)else(x.r,0,0):=by
 have ha:=Ka (qy s);cases hp:pA (qy s)with
 |none=>
  rw[hp]at ha;simp only at ha;rw[ha]at hr;simp only[eO]at hr;rw[<-hr.1]at h0;exact absurd rfl h0
 |some p=>
  obtain⟨r,rest⟩:=p;rw[hp]at ha;obtain⟨st,h1,ha⟩:=ha;rw[ha]at hr;simp only[eO]at hr;obtain⟨rfl,rfl⟩:=hr;have hv:gF (qy s)=(r,[]):=by unfold gF;rw[hp]
  have hlm:GO (qy s):=fun t ht=>by
   have:=cG s 10 (jN ht);omega
  grind [JW,FX]
theorem So {s:av}(h:xX s=[]):aJ s=(qy s,true):=by unfold aJ;rw[aC h]
theorem WN {s:av}(h:¬xX s=[]):aJ s=(qy s++[xX s],false):=by
 unfold aJ;rw[ar h];have hp:1<=(ai s 10).length:=eN 10 s [];have:=(drop_one (l:=ai s 10) (n:=(ai s 10).length-1) ae).2;exact ak (fun l=>(l,false)) this
def Be (lo a b:Nat)(σ:List (Nat×Nat))(h:mX lo σ a=some b):∀N:List bo,sn lo σ (fE a N)=some (fE b N)
 |[]=>rfl
 |[n]=>by simp only[fE,mV,sn,wz,M3,h]
 |c::d::r=>by
  have:=Be lo a b σ h (d::r);have hc:wz lo σ (bo.D c)=some (bo.D c):=rfl;simp only[fE,sn,this,hc]
def Fu (j:Nat):∀N:List bo,NP (ij j 4 (pd N) (fE j N)) (N.map bo.D)
 |[]=>.nil
 |[n]=>by
  have e:ij j 4 (pd [n]) (fE j [n])=[.agg [.sl 4 (n.any.map bX.N),.str n.when',.str n.option]]:=by
   grind [fE,pd,mV,ij,ig,aL]
  rw[e];exact .cons (.ag (.cons (.ss (.map fun x _=>x.wk)) (.rf _))) .nil
 |a::b::r=>.cons (.refl _) (Fu j (b::r))
def Js (l k:Nat)(es:List D)(N:List bo):ij l k es (N.map bo.D)=N.map bo.D:=qq l k es _ (bA (fun _=>rfl) _)
def Fg (s:av):((aJ s).2=true/\xX s=[]/\(aJ s).1=qy s)\/((aJ s).2=false/\xX s≠[]/\(aJ s).1=qy s++[xX s]):=by
 by_cases h:xX s=[]
 .grind [So]
 grind [WN]
def Ij {x:j6}{l:List av}{i:Nat}(h:i<l.length):l.drop i=l[i]! ::l.drop (i+1):=by
 rw[kS h];simp[h]
def An (T:List D->D->Prop):Prop:=∀(l:List av) (al:Bool),T [.sl 1 (l.map D.str),.bool al] (.bool (kE l al))
def YT (Y:Ctx):Prop:=An (bU Y 812)
def YH (Y:Ctx):Prop:=od (bU Y 669)
def Yl (Y:Ctx):Prop:=nZ (bU Y 457)
def zX (T:List D->D->Prop):Prop:=∀(r:Rec) (b:fZ),(b.sm)->T [Rec.D r,fZ.D b] (.int .i64 (rH r b))
def Ym (Y:Ctx):Prop:=zX (bU Y 458)
def Ag (T:List D->D->Prop):Prop:=∀(r:Rec) (x:av),T [Rec.D r,.str x] (.bool (Mm r.needs x))
def YJ (Y:Ctx):Prop:=Ag (bU Y 673)
def Ah (T:List D->D->Prop):Prop:=∀(r:Rec) (x:av),T [Rec.D r,.str x] (.bool (B2 r.needs x))
def YK (Y:Ctx):Prop:=Ah (bU Y 674)
def zY (T:List D->D->Prop):Prop:=∀(r:Rec) (of:List av),(∀t∈of,t.length<=1048576)->T [Rec.D r,.sl 1 (of.map D.str)] (.int .i64 (mj r of))
def Yo (Y:Ctx):Prop:=zY (bU Y 460)
def zH (T:List D->D->Prop):Prop:=∀(r:Rec),(mD r)->T [Rec.D r] (.tup [.int .i64 (fP r).1,.int .i64 (fP r).2])
def XV (Y:Ctx):Prop:=zH (bU Y 218)
def C71 (Y:Ctx):Prop:=rE (bU Y 71)
def C77 (Y:Ctx):Prop:=vK (bU Y 77)
def sumN (n:bo):Int:=IntKind.i64.wrap ((n.when'.length:Int)+n.option.length)
def sumA (r:Rec):Int:=IntKind.i64.wrap ((r.name.length:Int)+r.v.pre.length)
def sumH (r:Rec):Int:=IntKind.i64.wrap (sumA r+r.v.build.length)
end Go.Abs
section
namespace Go.Abs
structure yA where
 r:Rec
 sum:Int
 off:Bool
 deriving Inhabited,DecidableEq
def yA.D (x:yA):D:=.agg [.str x.r.name,.int .i64 x.r.v.major,.int .i64 x.r.v.minor,.int .i64 x.r.v.patch,.str x.r.v.pre,.str x.r.v.build,.sl 3 (x.r.needs.map bo.D),.sl 3 (x.r.bars.map fZ.D),.sl 2 (x.r.feats.map ct.D),.int .u64 x.sum,.bool x.off]
structure RQ where
 name:av
 es:List yA
 deriving Inhabited,DecidableEq
def RQ.D (s:RQ):D:=.agg [.str s.name,.sl 11 (s.es.map yA.D)]
end Go.Abs
namespace Go.Abs
def SF (r:Rec):(jr r).1.length<=4096:=by
 grind [jr,cE,gh]
def R7 (n:bo):Bool:=!(decide (4<n.any.length) ||decide (200<sumN n))
def ZV (r:Rec):Bool:=!(((decide (200<sumH r) ||decide (9<r.needs.length)) ||decide (9<r.bars.length)) ||decide (9<r.feats.length))
def Wl (r:Rec):Bool:=ZV r&&c9 (fun k=>R7 r.needs[k]!) 0 r.needs.length
def LH (s:RQ):Bool:=(decide (s.es.length<=6)&&decide (s.name.length<=60))&&c9 (fun i=>Wl s.es[i]!.r) 0 s.es.length
end Go.Abs
end
namespace Go.Abs
def iEtr (a b:yA):yA.D a=yA.D b↔a=b:=by
 obtain⟨⟨n,⟨v1,v2,v3,v4,v5⟩,x,y,z⟩,s,o⟩:=a;obtain⟨⟨n',⟨w1,w2,w3,w4,w5⟩,x',y',z'⟩,s',o'⟩:=b;simp[yA.D,Jw,T6,Jv,and_assoc]
def agv (a b:List yA):a.map yA.D=b.map yA.D↔a=b:=xZ iEtr a b
def iShf (a b:RQ):RQ.D a=RQ.D b↔a=b:=by cases a;cases b;simp[RQ.D,agv]
end Go.Abs
