/- A part of the proofs. -/
import Derived.Test.YtkmlboofmolbaaaGreatDoorP07
set_option linter.all false
set_option maxRecDepth 60000
set_option maxHeartbeats 2000000
noncomputable section
namespace Go.Abs
def oI (T:List D->D->Prop):Prop:=∀(n:Int),(0<=n/\n<=9999)->T [.int .i64 n] (.str (nI n.toNat))
def C336 (Y:Ctx):Prop:=oI (aG Y 336)
def Sn (T:List D->D->Prop):Prop:=∀(l:List av) (sep:av),(l.length<=1048600)->(sep.length<=4)->(∀t∈l,t.length<=2097200)->T [.sl 1 (l.map D.str),.str sep] (.str (ch sep l))
def C242 (Y:Ctx):Prop:=Sn (aG Y 242)
def Sj (T:List D->D->Prop):Prop:=∀(s:av) (b:UInt8),(s.length<=1048576)->T [.str s,.str [b]] (.sl 1 ((a7 s b.toNat).map D.str))
def C124 (Y:Ctx):Prop:=Sj (aG Y 124)
def Ss (T:List D->D->Prop):Prop:=∀(s:av) (b:UInt8),(s.length<=1048576)->T [.str s,.str [b]] (.tup [.str (ue s b).1,.str (ue s b).2.1,.bool (ue s b).2.2])
def C487 (Y:Ctx):Prop:=Ss (aG Y 487)
def So (T:List D->D->Prop):Prop:=∀(s:av) (p:av),(s.length<=1048576)->(p.length<=1048576)->T [.str s,.str p] (.tup [.str (qg s p).1,.bool (qg s p).2])
def C254 (Y:Ctx):Prop:=So (aG Y 254)
def Sl (T:List D->D->Prop):Prop:=∀(s:av),(oG s)->T [.str s] (.bool (wQ s))
def C212 (Y:Ctx):Prop:=Sl (aG Y 212)
def C670 (Y:Ctx):Prop:=Sl (aG Y 670)
def Sq (T:List D->D->Prop):Prop:=∀(s:av),(j9 s)->T [.str s] (.bool (qz s))
def C444 (Y:Ctx):Prop:=Sq (aG Y 444)
def C572 (Y:Ctx):Prop:=Sq (aG Y 572)
def Sm (T:List D->D->Prop):Prop:=∀(l:List b6),(jh l)->T [.sl 2 (l.map b6.D)] (.bool (dZ l))
def C213 (Y:Ctx):Prop:=Sm (aG Y 213)
def Sr (T:List D->D->Prop):Prop:=∀(s:av),(qW s)->T [.str s] (.tup [.int .i64 (bI s).1,.str (bI s).2.1,.str (bI s).2.2])
def C448 (Y:Ctx):Prop:=Sr (aG Y 448)
def C459 (Y:Ctx):Prop:=Sm (aG Y 459)
def C672 (Y:Ctx):Prop:=Sr (aG Y 672)
def tt (T:List D->D->Prop):Prop:=∀(r:Rec),(E9 r/\gZ r)->T [Rec.D r] (.str (DC r))
def C219 (Y:Ctx):Prop:=tt (aG Y 219)
def C215 (Y:Ctx):Prop:=tt (aG Y 215)
def Nh (T:List D->D->Prop):Prop:=∀(s:av),(s.length<=1048576)->T [.str s,.str [124,124]] (.sl 1 ((jb s []).map D.str))
def aek (Y:Ctx):Prop:=Nh (aG Y 124)
def Sv (T:List D->D->Prop):Prop:=∀(s:av) (b:UInt8),(b=32)->(s.length<=1048576)->T [.str s,.str [b]] (.str (BG s))
def C683 (Y:Ctx):Prop:=Sv (aG Y 683)
def tz (T:List D->D->Prop):Prop:=∀(s:av),T [.str s] (.bool (gC s))
def SB (Y:Ctx):Prop:=tz (aG Y 349)
def tn (T:List D->D->Prop):Prop:=∀(s:av),T [.str s] (.bool (dd s))
def Sz (Y:Ctx):Prop:=tn (aG Y 208)
def tP (T:List D->D->Prop):Prop:=∀(s:av),T [.str s] (.tup [.int .i64 (Cz s),.bool (n5 s)])
def C658 (Y:Ctx):Prop:=tP (aG Y 658)
def tK (T:List D->D->Prop):Prop:=∀(s:av) (b:Int),(s.length<=1048576)->T [.str s,.int .u8 b] (.sl 1 ((a7 s b).map D.str))
def UW (Y:Ctx):Prop:=tK (aG Y 533)
def tQ (T:List D->D->Prop):Prop:=∀(t:av),T [.str t] (.bool (cK t))
def C659 (Y:Ctx):Prop:=tQ (aG Y 659)
def tE (T:List D->D->Prop):Prop:=∀(n:Int),T [.int .i64 n] (.bool (B2 n))
def C440 (Y:Ctx):Prop:=tE (aG Y 440)
def IV (T:List D->D->Prop):Prop:=∀(s:av),(s.length<=1048576)->T [.str s] (.bool (sv s false))
def C442 (Y:Ctx):Prop:=IV (aG Y 442)
def IU (T:List D->D->Prop):Prop:=∀(s:av),(s.length<=1048576)->T [.str s] (.bool (sv s true))
def C441 (Y:Ctx):Prop:=IU (aG Y 441)
def tp (T:List D->D->Prop):Prop:=∀(v:bX),(v.sm)->T [bX.D v] (.bool (gA v))
def An (Y:Ctx):Prop:=tp (aG Y 209)
def C665 (Y:Ctx):Prop:=oI (aG Y 665)
def tG (T:List D->D->Prop):Prop:=∀(v:bX),(v.sm)->T [bX.D v] (.str (um v))
def C451 (Y:Ctx):Prop:=tG (aG Y 451)
def I3 (T:List D->D->Prop):Prop:=∀(h:Int) (k:Nat),(k=13)->T [.int .u64 h,.int .i64 (k:Nat)] (.int .u64 (rot h k))
def C463 (Y:Ctx):Prop:=I3 (aG Y 463)
def tu (T:List D->D->Prop):Prop:=∀(s:av),T [.sl 1 ((s).map fun b=>D.int .u8 b.toNat)] (.int .u64 (sumL s))
def C220 (Y:Ctx):Prop:=tu (aG Y 220)
def It (T:List D->D->Prop):Prop:=∀(r:Rec) (name:av) (rng:av),(j9 rng)->T [Rec.D r,.str name,.str rng] (.int .i64 (gB r name rng))
def C211 (Y:Ctx):Prop:=It (aG Y 211)
def tF (T:List D->D->Prop):Prop:=∀(r:Rec) (w:cZ) (al:Bool),(w.sm)->T [Rec.D r,cZ.D w,.bool al] (.int .i64 (lh r w al))
def C443 (Y:Ctx):Prop:=tF (aG Y 443)
def tq (T:List D->D->Prop):Prop:=∀(r:Rec) (n:bj),(n.sm)->T [Rec.D r,bj.D n] (.int .i64 (js r n))
def C210 (Y:Ctx):Prop:=tq (aG Y 210)
def Iu (T:List D->D->Prop):Prop:=∀(r:Rec) (s:av),(qW s)->T [Rec.D r,.str s] (.int .i64 (nQ r s))
def C214 (Y:Ctx):Prop:=Iu (aG Y 214)
def y5 (T:List D->D->Prop):Prop:=∀(r:Rec),(gZ r)->T [Rec.D r] (.tup [.int .i64 (cS r).1,.int .i64 (cS r).2])
def C70 (Y:Ctx):Prop:=y5 (aG Y 70)
def y6 (T:List D->D->Prop):Prop:=∀(r:Rec),(gZ r)->T [Rec.D r] (.tup [.str (fh r).1,.int .i64 (fh r).2])
def C72 (Y:Ctx):Prop:=y6 (aG Y 72)
def y7 (T:List D->D->Prop):Prop:=∀(r:Rec),(gZ r)->T [Rec.D r] (.tup [.int .u64 (vL r),.int .i64 (fh r).2])
def C74 (Y:Ctx):Prop:=y7 (aG Y 74)
def Jy (T:List D->D->Prop):Prop:=∀(x:Int),T [.int .i64 x] (.bool false)
def C714 (Y:Ctx):Prop:=Jy (aG Y 714)
def Jx (T:List D->D->Prop):Prop:=∀(x:av),T [.str x] (.bool false)
def C704 (Y:Ctx):Prop:=Jx (aG Y 704)
def tJ (T:List D->D->Prop):Prop:=∀(a:Int) (b:Int),T [.int .i64 a,.int .i64 b] (.int .i64 (dh a b))
def C532 (Y:Ctx):Prop:=tJ (aG Y 532)
def tI (T:List D->D->Prop):Prop:=∀(a:av) (b:av),T [.str a,.str b] (.int .i64 (pn a b))
def C516 (Y:Ctx):Prop:=tI (aG Y 516)
def Jc (T:List D->D->Prop):Prop:=∀(l:List Int),T [.sl 1 (l.map (D.int .i64))] (.int .i64 (fM (fun i=>l[i]!) 0 l.length))
def C531 (Y:Ctx):Prop:=Jc (aG Y 531)
def Jb (T:List D->D->Prop):Prop:=∀(v:bX),T [bX.D v] (bX.D (rD v))
def C530 (Y:Ctx):Prop:=Jb (aG Y 530)
def tL (T:List D->D->Prop):Prop:=∀(a:av) (b:av),T [.str a,.str b] (.int .i64 (xP a b))
def C534 (Y:Ctx):Prop:=tL (aG Y 534)
def tx (T:List D->D->Prop):Prop:=∀(a:bX) (b:bX),(a.sm/\b.sm)->T [bX.D a,bX.D b] (.int .i64 (iz a b))
def SA (Y:Ctx):Prop:=tx (aG Y 295)
def tR (T:List D->D->Prop):Prop:=∀(a:bX) (b:bX),(a.sm/\b.sm)->T [bX.D a,bX.D b] (.bool (LC a b))
def C701 (Y:Ctx):Prop:=tR (aG Y 701)
def Jw (T:List D->D->Prop):Prop:=∀(x:ki) (nm:av) (v:bX),(x.r.v.sm/\v.sm)->T [ki.D x,.ref 1 [.str nm] 0 0,.ref 5 [bX.D v] 0 0] (.bool (K6 nm v x))
def C700 (Y:Ctx):Prop:=Jw (aG Y 700)
def Jv (T:List D->D->Prop):Prop:=∀(l:List ki) (nm:av) (v:bX),((∀x∈l,x.r.v.sm)/\v.sm)->T [.sl 11 (l.map ki.D),.fn 700 [.ref 1 [.str nm] 0 0,.ref 5 [bX.D v] 0 0]] (.int .i64 (r7 l nm v 0))
def C699 (Y:Ctx):Prop:=Jv (aG Y 699)
def tH (T:List D->D->Prop):Prop:=∀(l:List ki) (nm:av) (v:bX),((∀x∈l,x.r.v.sm)/\v.sm)->T [.sl 11 (l.map ki.D),.str nm,bX.D v] (.int .i64 (r7 l nm v 0))
def C511 (Y:Ctx):Prop:=tH (aG Y 511)
def tA (T:List D->D->Prop):Prop:=∀(s:bJ),(∀x∈s.es,gZ x.r)->T [bJ.D s] (.bool (gQ s))
def C353 (Y:Ctx):Prop:=tA (aG Y 353)
def JL (T:List D->D->Prop):Prop:=∀(n:Nat),(n<=9999)->T [.int .u64 (n:Nat)] (.str (nI n))
def C882 (Y:Ctx):Prop:=JL (aG Y 882)
def C734 (Y:Ctx):Prop:=oI (aG Y 734)
def C470 (Y:Ctx):Prop:=tK (aG Y 470)
def IW (T:List D->D->Prop):Prop:=∀(c:Int),T [.int .u8 c] (.bool (jH c))
def C453 (Y:Ctx):Prop:=IW (aG Y 453)
def IX (T:List D->D->Prop):Prop:=∀(c:Int),T [.int .u8 c] (.bool (bH c))
def C454 (Y:Ctx):Prop:=IX (aG Y 454)
def UU (Y:Ctx):Prop:=tz (aG Y 357)
def Gj (Y:Ctx):Prop:=tn (aG Y 216)
def C667 (Y:Ctx):Prop:=tP (aG Y 667)
def C668 (Y:Ctx):Prop:=tQ (aG Y 668)
def Jm (T:List D->D->Prop):Prop:=∀(t:av),T [.str t] (.bool (vM t))
def C666 (Y:Ctx):Prop:=Jm (aG Y 666)
def IY (T:List D->D->Prop):Prop:=∀(s:av) (p:Bool),(s.length<=1048576)->T [.str s,.bool p] (.bool (DA s p))
def C456 (Y:Ctx):Prop:=IY (aG Y 456)
def C455 (Y:Ctx):Prop:=tE (aG Y 455)
def Bv (Y:Ctx):Prop:=tp (aG Y 217)
def Jf (T:List D->D->Prop):Prop:=∀(v:bX),(B2 v.major=true/\B2 v.minor=true/\B2 v.patch=true)->T [bX.D v] (.str (nI v.major.toNat++[46]++nI v.minor.toNat++[46]++nI v.patch.toNat))
def C554 (Y:Ctx):Prop:=Jf (aG Y 554)
def C316 (Y:Ctx):Prop:=tG (aG Y 316)
def I4 (T:List D->D->Prop):Prop:=∀(h:Int) (n:Nat),(n<=63)->T [.int .u64 h,.int .u64 (n:Nat)] (.int .u64 (rot h n))
def C464 (Y:Ctx):Prop:=I4 (aG Y 464)
def C221 (Y:Ctx):Prop:=tu (aG Y 221)
def JF (T:List D->D->Prop):Prop:=∀(l:List av) (al:Bool),T [.sl 1 (l.map D.str),.bool al] (.bool (nu l al))
def C812 (Y:Ctx):Prop:=JF (aG Y 812)
def C669 (Y:Ctx):Prop:=tF (aG Y 669)
def C457 (Y:Ctx):Prop:=tq (aG Y 457)
def IZ (T:List D->D->Prop):Prop:=∀(r:Rec) (b:mA),(b.sm)->T [Rec.D r,mA.D b] (.int .i64 (rv r b))
def C458 (Y:Ctx):Prop:=IZ (aG Y 458)
def Jn (T:List D->D->Prop):Prop:=∀(r:Rec) (x:av),T [Rec.D r,.str x] (.bool (XR r.needs x))
def C673 (Y:Ctx):Prop:=Jn (aG Y 673)
def Jo (T:List D->D->Prop):Prop:=∀(r:Rec) (x:av),T [Rec.D r,.str x] (.bool (LR r.needs x))
def C674 (Y:Ctx):Prop:=Jo (aG Y 674)
def I0 (T:List D->D->Prop):Prop:=∀(r:Rec) (of:List av),(∀t∈of,qW t)->T [Rec.D r,.sl 1 (of.map D.str)] (.int .i64 (mE r of))
def C460 (Y:Ctx):Prop:=I0 (aG Y 460)
def I1 (T:List D->D->Prop):Prop:=∀(w:cZ),(w.fit)->T [cZ.D w] (.str (jM w))
def C461 (Y:Ctx):Prop:=I1 (aG Y 461)
def I2 (T:List D->D->Prop):Prop:=∀(s:av),(s.length<=1048576)->T [.str s] (.str (kf s))
def C462 (Y:Ctx):Prop:=I2 (aG Y 462)
def Iv (T:List D->D->Prop):Prop:=∀(r:Rec),(gZ r)->T [Rec.D r] (.tup [.int .i64 (ea r).1,.int .i64 (ea r).2])
def C218 (Y:Ctx):Prop:=Iv (aG Y 218)
def C71 (Y:Ctx):Prop:=y5 (aG Y 71)
def C73 (Y:Ctx):Prop:=y6 (aG Y 73)
def C75 (Y:Ctx):Prop:=y7 (aG Y 75)
def UY (Y:Ctx):Prop:=tJ (aG Y 630)
def C927 (Y:Ctx):Prop:=tI (aG Y 927)
def C783 (Y:Ctx):Prop:=tL (aG Y 783)
def Jl (T:List D->D->Prop):Prop:=∀(a:av) (b:av),(a.length<=1048576/\b.length<=1048576)->T [.str a,.str b] (.int .i64 (AJ a b))
def C631 (Y:Ctx):Prop:=Jl (aG Y 631)
def SD (Y:Ctx):Prop:=tx (aG Y 424)
def C501 (Y:Ctx):Prop:=tR (aG Y 501)
def UX (Y:Ctx):Prop:=tH (aG Y 580)
def SC (Y:Ctx):Prop:=tA (aG Y 358)
def IH (T:List D->D->Prop):Prop:=∀(x:bJ) (s:bJ),T [bJ.D x,.ref 2 [bJ.D s] 0 0] (.bool (Fb s.name x))
def C355 (Y:Ctx):Prop:=IH (aG Y 355)
def IG (T:List D->D->Prop):Prop:=∀(l:List bJ) (s:bJ),T [.sl 2 (l.map bJ.D),.fn 355 [.ref 2 [bJ.D s] 0 0]] (.int .i64 (mi l s.name))
def C354 (Y:Ctx):Prop:=IG (aG Y 354)
def tl (T:List D->D->Prop):Prop:=∀(l:List bJ),(ja l)->T [.sl 2 (l.map bJ.D)] (.bool (eJ l))
def C142 (Y:Ctx):Prop:=tl (aG Y 142)
def tC (T:List D->D->Prop):Prop:=∀(l:List bJ) (nm:av),T [.sl 2 (l.map bJ.D),.str nm] (.int .i64 (mi l nm))
def C359 (Y:Ctx):Prop:=tC (aG Y 359)
def C145 (Y:Ctx):Prop:=tl (aG Y 145)
def tw (T:List D->D->Prop):Prop:=∀(s:bJ) (nm:av) (v:bX),((∀x∈s.es,gZ x.r)/\v.sm)->T [bJ.D s,.str nm,bX.D v] (.int .i64 (jE s nm v))
def C274 (Y:Ctx):Prop:=tw (aG Y 274)
def C695 (Y:Ctx):Prop:=tw (aG Y 695)
def pZ (T:List D->D->Prop):Prop:=∀(c:Cut),(c.v.sm)->T [Cut.D c] (.bool (po c))
def Qd (Y:Ctx):Prop:=pZ (aG Y 1086)
def pX (T:List D->D->Prop):Prop:=∀(a:Cut) (b:Cut),(a.v.sm/\b.v.sm)->T [Cut.D a,Cut.D b] (.int .i64 (kS a b))
def Qc (Y:Ctx):Prop:=pX (aG Y 1020)
def pY (T:List D->D->Prop):Prop:=∀(c:Cut) (v:bX),(c.v.sm/\v.sm)->T [Cut.D c,bX.D v] (.bool (jS c v))
def aeb (Y:Ctx):Prop:=pY (aG Y 1025)
def pW (T:List D->D->Prop):Prop:=∀(s:Span),(s.sm)->T [Span.D s] (.bool (pO s))
def Ki (Y:Ctx):Prop:=pW (aG Y 1019)
def tW (T:List D->D->Prop):Prop:=∀(s:Span) (v:bX),(s.sm/\v.sm)->T [Span.D s,bX.D v] (.bool (rQ s v))
def C926 (Y:Ctx):Prop:=tW (aG Y 926)
def tV (T:List D->D->Prop):Prop:=∀(l:List Span),(ze l)->T [.sl 14 (l.map Span.D)] (.bool (sr l))
def U1 (Y:Ctx):Prop:=tV (aG Y 916)
def tT (T:List D->D->Prop):Prop:=∀(l:List Span) (v:bX),(ze l/\v.sm)->T [.sl 14 (l.map Span.D),bX.D v] (.bool (vF l v))
def C782 (Y:Ctx):Prop:=tT (aG Y 782)
def Jh (T:List D->D->Prop):Prop:=∀(v:bX),T [bX.D v] (.bool (vr v))
def C600 (Y:Ctx):Prop:=Jh (aG Y 600)
def JR (T:List D->D->Prop):Prop:=∀(c:Cut),T [Cut.D c] (.bool (mJ c))
def C917 (Y:Ctx):Prop:=JR (aG Y 917)
def tS (T:List D->D->Prop):Prop:=∀(s:cr),(s.sm)->T [cr.D s] (.bool (vH s))
def UZ (Y:Ctx):Prop:=tS (aG Y 770)
def tO (T:List D->D->Prop):Prop:=∀(s:cr) (v:bX),(s.sm/\v.sm)->T [cr.D s,bX.D v] (.bool (oN s v))
def C627 (Y:Ctx):Prop:=tO (aG Y 627)
def Sp (T:List D->D->Prop):Prop:=T [] (cr.D Rk)
def C375 (Y:Ctx):Prop:=Sp (aG Y 375)
def ad2 (T:List D->D->Prop):Prop:=T [] (cr.D pf)
def C374 (Y:Ctx):Prop:=ad2 (aG Y 374)
section
section
variable {Y:Ctx} {draw:Bool} {r:List GI} {env rs:List aX} {nx:Nat} {m:List (Nat×bd)} {K:List aX->St->Prop} {f:Bool} {g:Option (Nat×Bool)}
end
def ZO {α:Type}{q:α->D}{xs:List α}{m:List (Nat×bd)}{l k:Nat}{sh:List Sh}(hq:∀x,xV m sh (q x)=q x)(hl:look m l=some (.buf k (xs.map q))):xV m [.sl k sh] (.own l k 0 xs.length)=.sl k (xs.map q):=by
 show D.sl k _=_;simp only[aH,hl,dI,bR,List.map_map];congr 1;apply List.map_congr_left;intro x _;have:=hq x;simp only[Function.comp];generalize q x=d at this;cases d<;>exact this
def Sd {α:Type}{q:α->D}{xs:List α}{m:List (Nat×bd)}{l k:Nat}{sh:List Sh}(hq:∀x,xVO m sh (q x))(hl:look m l=some (.buf k (xs.map q))):xVO m [.sl k sh] (.own l k 0 xs.length):=by
 refine⟨by simp only[dT,hl];exact⟨trivial,aF⟩,fun e he=>?_⟩;simp only[aH,hl,dI,bR,bW]at he;obtain⟨x,_,rfl⟩:=he;have:=hq x;generalize q x=d at this;cases d<;>exact this
end
def Qe (Y:Ctx):Prop:=pZ (aG Y 1087)
def UQ (Y:Ctx):Prop:=pX (aG Y 1024)
def aec (Y:Ctx):Prop:=pY (aG Y 1055)
def UP (Y:Ctx):Prop:=pW (aG Y 1023)
def C980 (Y:Ctx):Prop:=tW (aG Y 980)
def C925 (Y:Ctx):Prop:=tV (aG Y 925)
def C861 (Y:Ctx):Prop:=tT (aG Y 861)
def JS (T:List D->D->Prop):Prop:=∀(c:Cut),T [Cut.D c] (.bool (rb c))
def C924 (Y:Ctx):Prop:=JS (aG Y 924)
def C780 (Y:Ctx):Prop:=tS (aG Y 780)
def C712 (Y:Ctx):Prop:=tO (aG Y 712)
def IM (T:List D->D->Prop):Prop:=∀(a:Key) (b:Key),T [Key.D a,Key.D b] (.int .i64 (Hk a b))
def C408 (Y:Ctx):Prop:=IM (aG Y 408)
def Jk (T:List D->D->Prop):Prop:=∀(l:List Want) (n:Int),(∀x∈l,x.sm)->T [.sl 3 (l.map Want.D),.int .i64 n] (.bool (oX n l))
def C622 (Y:Ctx):Prop:=Jk (aG Y 622)
def JE (T:List D->D->Prop):Prop:=∀(w:Want) (n:Int),(w.sm)->T [Want.D w,.int .i64 n] (.bool (sy n w))
def C778 (Y:Ctx):Prop:=JE (aG Y 778)
def JD (T:List D->D->Prop):Prop:=∀(l:List Want) (n:Int),(∀x∈l,x.sm)->T [.sl 3 (l.map Want.D),.int .i64 n] (.bool (ra n l))
def C777 (Y:Ctx):Prop:=JD (aG Y 777)
def Jj (T:List D->D->Prop):Prop:=∀(c:en) (n:Int),(c.sm)->T [en.D c,.int .i64 n] (.bool (gA c.v&&mO n c))
def C618 (Y:Ctx):Prop:=Jj (aG Y 618)
def IN (T:List D->D->Prop):Prop:=∀(c:en) (n:Int),(c.sm)->T [en.D c,.int .i64 n] (.bool (mO n c))
def C409 (Y:Ctx):Prop:=IN (aG Y 409)
def Ji (T:List D->D->Prop):Prop:=∀(a:cL) (b:cL),T [cL.D a,cL.D b] (.bool (jz a b))
def C617 (Y:Ctx):Prop:=Ji (aG Y 617)
def IL (T:List D->D->Prop):Prop:=∀(w:bT) (i:Int),(w.sm/\(0<=i/\i<w.us.length)/\w.us.length<=48)->T [bT.D w,.int .i64 i] (.bool (sw w.us i.toNat))
def C403 (Y:Ctx):Prop:=IL (aG Y 403)
def tm (T:List D->D->Prop):Prop:=∀(w:bT),(w.sm)->T [bT.D w] (.bool (eu w))
def C169 (Y:Ctx):Prop:=tm (aG Y 169)
def C175 (Y:Ctx):Prop:=tm (aG Y 175)
def Ja (T:List D->D->Prop):Prop:=∀(w:bT) (c:List Int),(w.sm)->T [bT.D w,.sl 1 (c.map (D.int .i64))] (.bool (uf w c))
def C510 (Y:Ctx):Prop:=Ja (aG Y 510)
def tv (T:List D->D->Prop):Prop:=∀(w:bT) (c:List Int),(w.sm)->T [bT.D w,.sl 1 (c.map (D.int .i64))] (.bool (eB w c))
def C273 (Y:Ctx):Prop:=tv (aG Y 273)
def tN (T:List D->D->Prop):Prop:=∀(w:bT) (c:List Int) (x:Want),(MetW w c x)->T [bT.D w,.sl 1 (c.map (D.int .i64)),Want.D x] (.bool (kH w c x))
def C624 (Y:Ctx):Prop:=tN (aG Y 624)
def tM (T:List D->D->Prop):Prop:=∀(w:bT) (c:List Int) (l:List Want),(∀x∈l,MetW w c x)->T [bT.D w,.sl 1 (c.map (D.int .i64)),.sl 3 (l.map Want.D)] (.bool (Du w c l))
def C623 (Y:Ctx):Prop:=tM (aG Y 623)
def UT (Y:Ctx):Prop:=tv (aG Y 170)
def C629 (Y:Ctx):Prop:=tN (aG Y 629)
def C628 (Y:Ctx):Prop:=tM (aG Y 628)
def tD (T:List D->D->Prop):Prop:=∀(w:bT) (c:List Int),(WrgP w c)->T [bT.D w,.sl 1 (c.map (D.int .i64))] (.sl 3 ((jN w c).map vT.D))
def C410 (Y:Ctx):Prop:=tD (aG Y 410)
def IS (T:List D->D->Prop):Prop:=∀(w:bT) (c:List Int) (u:Nat),(OneP w c u)->T [bT.D w,.sl 1 (c.map (D.int .i64)),.int .i64 ((u:Nat):Int)] (.sl 3 ((AG w c u).map vT.D))
def C417 (Y:Ctx):Prop:=IS (aG Y 417)
def C186 (Y:Ctx):Prop:=tD (aG Y 186)
def PT (T:List D->D->Prop):Prop:=∀(w:bT) (c:List Int),(WrgP w c)->T [bT.D w,.sl 1 (c.map (D.int .i64))] (.bool (eB w c&&decide ((jN w c).length=0)))
def C52 (Y:Ctx):Prop:=PT (aG Y 52)
def I9 (T:List D->D->Prop):Prop:=∀(s:bJ) (nm:av) (v:bX),((∀x∈s.es,gZ x.r)/\v.sm)->T [bJ.D s,.str nm,bX.D v] (.tup [ki.D (ov s nm v).1,.bool (ov s nm v).2])
def C508 (Y:Ctx):Prop:=I9 (aG Y 508)
def Jq (T:List D->D->Prop):Prop:=∀(c:en) (x:eg),(c.v.sm/\x.v.sm)->T [en.D c,.ref 9 [eg.D x] 0 0] (.bool (UJ x.v true c))
def C690 (Y:Ctx):Prop:=Jq (aG Y 690)
def Jr (T:List D->D->Prop):Prop:=∀(c:en) (x:eg),(c.v.sm/\x.v.sm)->T [en.D c,.ref 9 [eg.D x] 0 0] (.bool (UJ x.v false c))
def C691 (Y:Ctx):Prop:=Jr (aG Y 691)
def Jp (T:List D->D->Prop):Prop:=∀(l:List en) (b:Bool) (x:eg),((∀c∈l,c.v.sm)/\x.v.sm)->T [.sl 8 (l.map en.D),.fn (bif b then 690 else 691) [.ref 9 [eg.D x] 0 0]] (.int .i64 (gu (UJ x.v b) l 0))
def C689 (Y:Ctx):Prop:=Jp (aG Y 689)
def C502 (Y:Ctx):Prop:=∀(shop:List bJ) (w:bT) (x:eg) (c:List Int) (kvs:List D),LinP shop w x c->Vf w.us kvs->∀(nx lm lc:Nat) (m:List (Nat×bd)) (K:D->St->Prop),lc<nx->lm<nx->look m lc=some (.buf 1 (c.map (D.int .i64)))->look m lm=some (.mpb kvs)->K (.int .i64 (mH shop w.us x c).1) ⟨nx,cO m lc (.buf 1 ((mH shop w.us x c).2.map (D.int .i64)))⟩->Y.tr 502 [.agg [.sl 2 (shop.map bJ.D),.sl 3 (w.us.map cL.D),.fn 5000000 [.it lm],.own lc 1 0 w.us.length],eg.D x] ⟨nx,m⟩ K
def tk (T:List D->D->Prop):Prop:=∀(e:Env),T [Env.D e] (.bool (nK e))
def C138 (Y:Ctx):Prop:=tk (aG Y 138)
def Je (T:List D->D->Prop):Prop:=∀(x:eg),(x.sm)->T [eg.D x] (.bool (G3 x))
def C553 (Y:Ctx):Prop:=Je (aG Y 553)
def ID (T:List D->D->Prop):Prop:=∀(l:mB),(l.sm)->T [mB.D l] (.bool (Ld l))
def C315 (Y:Ctx):Prop:=ID (aG Y 315)
def Ix (T:List D->D->Prop):Prop:=∀(shop:List bJ) (e:Env) (w:bT) (l:mB),(ChoP shop w l)->T [.sl 2 (shop.map bJ.D),Env.D e,bT.D w,mB.D l] (.tup [.sl 1 ((jg shop e w l).1.map (D.int .i64)),.int .i64 (jg shop e w l).2.1,.str (jg shop e w l).2.2])
def C264 (Y:Ctx):Prop:=Ix (aG Y 264)
def US (Y:Ctx):Prop:=tk (aG Y 144)
def Iy (T:List D->D->Prop):Prop:=∀(shop:List bJ) (e:Env) (w:bT) (l:mB),(ChoP shop w l)->T [.sl 2 (shop.map bJ.D),Env.D e,bT.D w,mB.D l] (.tup [.int .i64 (At shop e w l).1,.str (At shop e w l).2])
def C265 (Y:Ctx):Prop:=Iy (aG Y 265)
def PO (T:List D->D->Prop):Prop:=∀(v:Int) (n:Int),(n<=9223372036854775807)->T [.int .i64 v,.int .i64 n] (.int .i64 (jY v n))
def C25 (Y:Ctx):Prop:=PO (aG Y 25)
def Iq (T:List D->D->Prop):Prop:=∀(l:List Int) (i:Int),T [.sl 1 (l.map (D.int .i64)),.int .i64 i] (.int .i64 (atI l i))
def C159 (Y:Ctx):Prop:=Iq (aG Y 159)
def Gi (Y:Ctx):Prop:=∀(g:Gs) (n:Int),(n<=9223372036854775807)->(0<=g.i/\g.i<=1000000)->Y.fp 109 (Gs.D g) [.int .i64 n]/\Y.fv 109 (Gs.D g) [.int .i64 n]=.int .i64 (g.val n)/\Y.fs 109 (Gs.D g) [.int .i64 n]=Gs.D g.aR
def Si (T:List D->D->Prop):Prop:=T [] (.sl 5 (bN.map bX.D))
def C112 (Y:Ctx):Prop:=Si (aG Y 112)
def Sg (T:List D->D->Prop):Prop:=T [] (.sl 1 (cB.map D.str))
def C111 (Y:Ctx):Prop:=Sg (aG Y 111)
def Sk (T:List D->D->Prop):Prop:=T [] (.sl 1 (j0.map D.str))
def C135 (Y:Ctx):Prop:=Sk (aG Y 135)
def Jd (T:List D->D->Prop):Prop:=∀(l:List av) (s:av),T [.sl 1 (l.map D.str),.str s] (.int .i64 (Es l s))
def C536 (Y:Ctx):Prop:=Jd (aG Y 536)
def C297 (Y:Ctx):Prop:=∀(g:Gs) (own:av),(0<=g.i/\g.i<=990000)->Y.fp 297 (Gs.D g) [.str own]/\Y.fv 297 (Gs.D g) [.str own]=.str (cN g own).1/\Y.fs 297 (Gs.D g) [.str own]=Gs.D (cN g own).2
def C535 (Y:Ctx):Prop:=∀(g:Gs) (own:av),(0<=g.i/\g.i<=990000)->Y.fp 535 (Gs.D g) [.str own]/\Y.fv 535 (Gs.D g) [.str own]=cZ.D (dw g own).1/\Y.fs 535 (Gs.D g) [.str own]=Gs.D (dw g own).2
def C296 (Y:Ctx):Prop:=∀(g:Gs) (own:av),(0<=g.i/\g.i<=980000)->Y.fp 296 (Gs.D g) [.str own]/\Y.fv 296 (Gs.D g) [.str own]=bj.D (mc g own).1/\Y.fs 296 (Gs.D g) [.str own]=Gs.D (mc g own).2
def C298 (Y:Ctx):Prop:=∀(g:Gs) (l:List bj),(0<=g.i/\g.i<=980000)->((∀n∈l,n.sm)/\l.length<=1000)->Y.fp 298 (Gs.D g) [.sl 3 (l.map bj.D)]/\Y.fv 298 (Gs.D g) [.sl 3 (l.map bj.D)]=b6.D (mQ g l).1/\Y.fs 298 (Gs.D g) [.sl 3 (l.map bj.D)]=Gs.D (mQ g l).2
def C110 (Y:Ctx):Prop:=∀(g:Gs) (nm:av) (v:bX) (most:Int),(0<=g.i/\g.i<=970000)->(0<=most/\most<=100)->Y.fp 110 (Gs.D g) [.str nm,bX.D v,.int .i64 most]/\Y.fv 110 (Gs.D g) [.str nm,bX.D v,.int .i64 most]=Rec.D (oV g nm v most).1/\Y.fs 110 (Gs.D g) [.str nm,bX.D v,.int .i64 most]=Gs.D (oV g nm v most).2
def I6 (T:List D->D->Prop):Prop:=∀(s:bJ) (r:Rec),((∀x∈s.es,gZ x.r)/\gZ r)->T [bJ.D s,Rec.D r] (.tup [bJ.D (kK s r).1,.int .i64 (kK s r).2])
def C504 (Y:Ctx):Prop:=I6 (aG Y 504)
def I5 (T:List D->D->Prop):Prop:=∀(s:bJ) (nm:av) (v:bX) (on:Bool),((∀x∈s.es,gZ x.r)/\v.sm)->T [bJ.D s,.str nm,bX.D v,.bool on] (.tup [bJ.D (om s nm v on).1,.int .i64 (om s nm v on).2])
def C503 (Y:Ctx):Prop:=I5 (aG Y 503)
def Io (T:List D->D->Prop):Prop:=∀(a:List Int) (b:List Int),T [.sl 1 (a.map (D.int .i64)),.sl 1 (b.map (D.int .i64))] (.bool (decide (a=b)))
def C153 (Y:Ctx):Prop:=Io (aG Y 153)
def C266 (Y:Ctx):Prop:=∀(g:Gs) (l:List bJ),(0<=g.i/\g.i<=960000)->(ja l/\1<=l.length/\l.length<=100)->Y.fp 266 (Gs.D g) [.sl 2 (l.map bJ.D)]/\Y.fv 266 (Gs.D g) [.sl 2 (l.map bJ.D)]=.sl 2 ((lF g l).1.map bJ.D)/\Y.fs 266 (Gs.D g) [.sl 2 (l.map bJ.D)]=Gs.D (lF g l).2
def PU (T:List D->D->Prop):Prop:=∀(ks:List Int) (most:Int),(0<=most/\most<=100)->T [.sl 1 (ks.map (D.int .i64)),.int .i64 most] (.sl 2 ((kd ks most).map bJ.D))
def C90 (Y:Ctx):Prop:=PU (aG Y 90)
def PR (T:List D->D->Prop):Prop:=∀(n:Int),T [.int .i64 n] (Env.D (ll n))
def C29 (Y:Ctx):Prop:=PR (aG Y 29)
def eZ:Env:=⟨[],[],[]⟩
def Qj:bT:=⟨[⟨[],[],[⟨zV,-1,[],[]⟩]⟩]⟩
def antL:eg:=⟨[97,110,116],zV,[],0,[]⟩
def awk_1:jg [] eZ Qj ⟨eZ,[]⟩=([0],0,[]):=by decide+kernel
def awk_2:At [] eZ Qj ⟨eZ,[]⟩=(0,[]):=by decide+kernel
def awk_3:At [] eZ Qj ⟨ll 1,[]⟩=(34,[]):=by decide+kernel
def awk_4:At [] eZ Qj ⟨eZ,[antL]⟩=(9,[97,110,116]):=by decide+kernel
def agy:Qj.sm:=by
 intro u hu;rw[aC.1 hu];refine⟨aU,fun c hc=>?_⟩;rw[aC.1 hc];exact⟨⟨aU,aU⟩,fun _ h=>bZ,fun _ h=>bZ⟩
def Qk {l:mB}(h:l.sm):ChoP [] Qj l:=⟨(fun _ h=>bZ),agy,h⟩
def ahQ (n:Int):∀i,((ll n).at i).length<=1048576:=by
 intro i;have h:(E2[(jY n 3).toNat]!).length<=1048576:=vj (P:=fun s:av=>s.length<=1048576) aU aU _;unfold ll Env.at
 grind
def ZW (T:List D->D->Prop):Prop:=T [] (.bool true)
def C89 (Y:Ctx):Prop:=ZW (aG Y 89)
section
def BH (m:List (Nat×bd))(l k n:Nat):Bool:=match look m l with
 |some (.buf k' es)=>decide (k=k')&&decide (n<=es.length)
 |_=>false
theorem wh {m:List (Nat×bd)}{l k n:Nat}(h:BH m l k n=true):dT m l k n:=by
 unfold BH at h;unfold dT;split at h<;>simp_all
def dP {α:Type}(b:Bool)(a:Option α):Option α:=match b with|true=>a|false=>none
def cw {α:Type}{b:Bool}{a:Option α}{x:α}(h:dP b a=some x):b=true/\a=some x:=by cases b<;>simp_all[dP]
def Ro {d e:D}(h:dP d.aS (some d)=some e):d.aS=true/\d=e:=⟨(cw h).1,aV (cw h).2⟩
def Xn (f:D->Option D):List D->Option (List D)
 |[]=>some []
 |d::r=>match f d with
  |some e=>match Xn f r with
   |some s=>some (e::s)
   |none=>none
  |none=>none
def puC (m:List (Nat×bd))(pv:List Sh->D->Option D):Sh->D->Option D
 | .a,d=>match d with
  | .aK=>some (.sl 0 [])
  |d=>dP d.aS (some d)
 | .sl k cs,d=>match d with
  | .aK=>some (.sl k [])
  | .own l k' i c=>dP (BH m l k' (i+c)) ((Xn (pv cs) (((aH m l).drop i).take c)).map (.sl k'))
  |d=>dP d.aS (some d)
 | .pt cs,d=>match d with
  | .ptr l k i o=>dP (BH m l k 0) ((Xn (pv cs) (aH m l)).map fun es=>.ref k es i o)
  |d=>dP d.aS (some d)
 | .kp _,_=>none
def puL (pc:Sh->D->Option D):List Sh->List D->Option (List D)
 |[],ds=>dP (aL ds) (some ds)
 |_::_,[]=>some []
 |s::r,d::ds=>match pc s d with
  |some e=>match puL pc r ds with
   |some es=>some (e::es)
   |none=>none
  |none=>none
def puV (m:List (Nat×bd)):Nat->List Sh->D->Option D
 |0,_,_=>none
 |n+1,ss,d=>match ss with
  |[]=>dP d.aS (some d)
  |s::r=>match d with
   | .agg cs=>(puL (puC m (puV m n)) (s::r) cs).map .agg
   |d=>puC m (puV m n) s d
def puS (m:List (Nat×bd)):List (List Sh)->List D->Option (List D)
 |_,[]=>some []
 |[],d::r=>match puV m 9 [.a] d with
  |some e=>match puS m [] r with
   |some es=>some (e::es)
   |none=>none
  |none=>none
 |s::ss,d::r=>match puV m 9 s d with
  |some e=>match puS m ss r with
   |some es=>some (e::es)
   |none=>none
  |none=>none
def Q6 {P:D->Prop}{g f:D->_}(hf:∀d e,f d=some e->P d/\g d=e):∀{l r:List D},Xn f l=some r->(∀d∈l,P d)/\l.map g=r:=by
 intro l;induction l<;>grind [Xn]
section
variable {m:List (Nat×bd)}
def ajv {pv:List Sh->D->Option D}(hv:∀s d e,pv s d=some e->gy m s d/\iT m s d=e){s:Sh}{d e:D}(h:puC m pv s d=some e):ig m s d/\kJ m s d=e:=by
 cases s with
 |a=>cases d<;>simp only[puC,ig,kJ]at h⊢ <;>first|exact Ro h|exact⟨rfl,aV h⟩
 |kp cs=>cases h
 |sl k cs=>
  cases d<;>simp only[puC,ig,kJ]at h⊢
  case own l k' i c=>
   obtain⟨h1,h2⟩:=cw h;obtain⟨es,h3,rfl⟩:=cX.1 h2;obtain⟨h4,h5⟩:=Q6 (hv cs) h3;exact⟨⟨wh h1,h4⟩,by rw[h5]⟩
  all_goals first|exact Ro h|exact⟨rfl,aV h⟩
 |pt cs=>
  cases d<;>simp only[puC,ig,kJ]at h⊢
  case ptr l k i o=>
   obtain⟨h1,h2⟩:=cw h;obtain⟨es,h3,rfl⟩:=cX.1 h2;obtain⟨h4,h5⟩:=Q6 (hv cs) h3;exact⟨⟨wh h1,h4⟩,by rw[h5]⟩
  all_goals first|exact Ro h|exact⟨rfl,aV h⟩
def ajw {pc:Sh->D->Option D}(hc:∀s d e,pc s d=some e->ig m s d/\kJ m s d=e):∀{ss:List Sh}{ds es:List D},puL pc ss ds=some es->j8 m ss ds/\nk m ss ds=es:=by
 intro ss;induction ss with
 |nil=>intro ds es h;simp only[j8,nk];exact⟨(cw h).1,aV (cw h).2⟩
 |cons s r ih=>
  intro ds es h;cases ds with
  |nil=>simp_all[puL,j8,nk]
  |cons d ds=>
   simp only[puL]at h;simp only[j8,nk]
   grind
theorem Ya:∀{n:Nat}{ss:List Sh}{d e:D},puV m n ss d=some e->gy m ss d/\iT m ss d=e:=by
 intro n;induction n with
 |zero=>intro ss d e h;cases h
 |succ n ih=>
  intro ss d e h;have hc:∀s d e,puC m (puV m n) s d=some e->ig m s d/\kJ m s d=e:=fun s d e h=>ajv (fun s d e h=>ih h) h
  cases ss with
  |nil=>simp only[gy,iT];exact Ro h
  |cons s r=>
   cases d
   case agg cs=>
    simp only[puV]at h;obtain⟨es,h3,rfl⟩:=cX.1 h;have:=ajw hc h3;simp only[gy,iT];exact⟨this.1,by rw[this.2]⟩
   all_goals simp only[puV]at h;simp only[gy,iT];exact hc _ _ _ h
def X9:∀{sh:List (List Sh)}{ds es:List D},puS m sh ds=some es->iX m sh ds/\iu m sh ds=es:=by
 intro sh ds;induction ds generalizing sh with
 |nil=>intro es h;cases sh<;>simp_all[puS,iX,iu]
 |cons d r ih=>
  intro es h;cases sh<;>simp only[puS]at h<;>simp only[iX,iu]<;>grind [Ya]
end
def QH (J:Src->aX)(len:Nat):List (Nat×Nat×Src)->Bool
 |[]=>true
 |(o,n,s)::r=>((J s).ok&&decide ((J s).d.cells.length=n))&&(decide (o+n<=len)&&QH J len r)
def BR (J:Src->aX)(k n:Nat):List (Nat×Src)->Bool
 |[]=>true
 |(i,s)::r=>(decide (i<n)&&(J s).ok)&&(decide ((J s).d.cells.length=k)&&BR J k n r)
def TH (J:Src->aX):List Src->Bool
 |[]=>true
 |s::r=>(J s).ok&&TH J r
theorem Wl {J:Src->aX}{len:Nat}:∀{l:List (Nat×Nat×Src)},QH J len l=true->zu J len l:=by
 intro l;induction l<;>grind [QH,zu]
theorem S4 {J:Src->aX}{k n:Nat}:∀{l:List (Nat×Src)},BR J k n l=true->qi J k n l:=by
 intro l;induction l<;>grind [BR,qi]
def Hg {J:Src->aX}:∀{l:List Src},TH J l=true->Bh J l:=by
 intro l;induction l<;>grind [TH,Bh]
def ldB (m:List (Nat×bd))(n:Nat):D->Bool
 | .ptr l k i o=>BH m l k (i+1)&&decide (o+n<=k)
 | .ref k es i o=>decide (i<es.length)&&decide (o+n<=k)
 |_=>false
theorem W6 {m:List (Nat×bd)}{n:Nat}{d:D}(h:ldB m n d=true):Lg m n d:=by
 cases d<;>simp_all[ldB,Lg]<;>exact wh h.1
def binB (op:BinOp):D->D->Bool
 | .int k a,.int k' b=>match op with
  | .quo=>decide (k=k')&&decide (b≠0)
  | .rem=>decide (k=k')&&decide (b≠0)
  | .shl=>false
  | .shr=>false
  |_=>decide (k=k')
 | .str a,.str b=>match op with
  | .add=>decide (a.length+b.length<=9223372036854775807)
  | .eql=>true| .neq=>true| .lss=>true| .geq=>true| .leq=>true| .gtr=>true
  |_=>false
 |_,_=>false
theorem abi {op:BinOp}{a b:D}(h:binB op a b=true):Ar op a b:=by
 cases a<;>cases b<;>cases op<;>simp_all[binB,Ar]
def Ei (o:Option D)(hi:Nat):Bool:=match o with
 |none=>true
 |some (.int _ n)=>decide (0<=n)&&decide (n<=hi)
 |_=>false
theorem abl {o:Option D}{hi:Nat}(h:Ei o hi=true):m6 o hi:=by
 unfold Ei at h;unfold m6;split at h<;>simp_all
def TG (J:Src->aX):Option Src->Bool
 |none=>true
 |some s=>(J s).ok
theorem ac4 {J:Src->aX}{o:Option Src}(h:TG J o=true):LA J o:=by cases o<;>simp_all[TG,LA]
def elsB (m:List (Nat×bd))(k:Nat):D->Bool
 | .sl k' _=>decide (k'=k)
 | .own l k' i n=>decide (k'=k)&&BH m l k (i+n)
 | .str _=>decide (k=1)
 | .aK=>true
 |_=>false
theorem ab2 {m:List (Nat×bd)}{k:Nat}{d:D}(h:elsB m k d=true):BN m k d:=by
 cases d<;>simp_all[elsB,BN]<;>exact wh h.2
def oblB (J:Src->aX)(m:List (Nat×bd)):ax->Bool
 | .mv x=>(J x).ok
 | .pick c a b=>(J c).ok&&match(J c).d with
  | .bool true=>(J a).ok
  | .bool false=>(J b).ok
  |_=>false
 | .box k x=>(J x).ok&&decide ((J x).d.cells.length=k)
 | .build z ps=>QH J z.length ps
 | .bsl k z n ps=>decide (z.cells.length=k)&&BR J k n ps
 | .ld n _ p=>(J p).ok&&ldB m n (J p).d
 | .st n p v=>((J p).ok&&(J v).ok)&&(decide ((J v).d.cells.length=n)&&match(J p).d with
  | .ptr l k i o=>BH m l k (i+1)&&decide (o+n<=k)
  |_=>false)
 | .nilck x=>(J x).ok&&match(J x).d with| .ptr .. =>true| .ref .. =>true|_=>false
 | .bin op x y=>((J x).ok&&(J y).ok)&&binB op (J x).d (J y).d
 | .mn _ x y=>((J x).ok&&(J y).ok)&&match(J x).d,(J y).d with| .int _ _,.int _ _=>true|_,_=>false
 | .un op x=>(J x).ok&&match op,(J x).d with
  | .not,.bool _=>true
  | .neg,.int _ _=>true
  |_,_=>false
 | .cvi _ x=>(J x).ok&&match(J x).d with| .int _ _=>true|_=>false
 | .mks k z ln cp=>((J ln).ok&&(J cp).ok)&&(decide (z.cells.length=k)&&match(J ln).d,(J cp).d with
  | .int _ n,.int _ c=>decide (0<=n)&&(decide (n<=c)&&decide (c<=1073741824))
  |_,_=>false)
 | .slS x lo hi=>((J x).ok&&TG J lo)&&(TG J hi&&match(J x).d with
  | .str s=>Ei (dO J hi) s.length&&Ei (dO J lo) (dU (dO J hi) s.length)
  |_=>false)
 | .slA k x lo hi=>((J x).ok&&TG J lo)&&(TG J hi&&match(J x).d with
  | .sl k' es=>decide (k'=k)&&(Ei (dO J hi) es.length&&Ei (dO J lo) (dU (dO J hi) es.length))
  | .own _ k' _ n=>decide (k'=k)&&(Ei (dO J hi) n&&Ei (dO J lo) (dU (dO J hi) n))
  | .aK=>Ei (dO J hi) 0&&Ei (dO J lo) 0
  |_=>false)
 | .slX k x hi mx=>((J x).ok&&(J hi).ok)&&((J mx).ok&&match(J hi).d,(J mx).d with
  | .int _ h,.int _ m=>decide (0<=h)&&(decide (h<=m)&&match(J x).d with
    | .sl k' es=>decide (k'=k)&&decide (m<=es.length)
    | .own _ k' _ n=>decide (k'=k)&&decide (m<=n)
    |_=>false)
  |_,_=>false)
 | .fa _ p=>(J p).ok&&match(J p).d with| .ptr .. =>true| .ref .. =>true|_=>false
 | .fld off n ag x=>(J x).ok&&match(J x).d with| .agg cs=>decide (off+n<=cs.length)&&(ag ||decide (n=1))|_=>false
 | .ia k x i=>((J x).ok&&(J i).ok)&&match(J x).d,(J i).d with
  | .sl k' es,.int _ n=>decide (k'=k)&&(decide (0<=n)&&decide (n<es.length))
  | .own _ k' _ c,.int _ n=>decide (k'=k)&&(decide (0<=n)&&decide (n<c))
  |_,_=>false
 | .iaP n _ x i=>((J x).ok&&(J i).ok)&&match(J x).d,(J i).d with
  | .ptr ..,.int _ c=>decide (0<=c)&&decide (c<n)
  | .ref ..,.int _ c=>decide (0<=c)&&decide (c<n)
  |_,_=>false
 | .ixS x i=>((J x).ok&&(J i).ok)&&match(J x).d,(J i).d with
  | .str s,.int _ n=>decide (0<=n)&&decide (n<s.length)
  |_,_=>false
 | .ixA n k ag x i=>((J x).ok&&(J i).ok)&&((ag ||decide (k=1))&&match(J x).d,(J i).d with
  | .agg cs,.int _ c=>decide (0<=c)&&(decide (c<n)&&decide (cs.length=n*k))
  |_,_=>false)
 | .ext x i=>(J x).ok&&match(J x).d with| .tup ds=>decide (i<ds.length)|_=>false
 | .len x=>(J x).ok&&match(J x).d with| .sl _ _=>true| .own .. =>true| .aK=>true|_=>false
 | .lenS x=>(J x).ok&&match(J x).d with| .str _=>true|_=>false
 | .app k x y=>((J x).ok&&(J y).ok)&&(elsB m k (J y).d&&match(J x).d with
  | .own l k' i n=>decide (k'=k)&&(BH m l k (i+n)&&decide (n+(p8 m (J y).d).length<=1073741824))
  | .aK=>decide ((p8 m (J y).d).length<=1073741824)
  |_=>false)
 | .appN k y=>(J y).ok&&(elsB m k (J y).d&&decide ((p8 m (J y).d).length<=1073741824))
 | .bslI k z n ps=>decide (z.cells.length=k)&&(BR J k n ps&&aL (lU J (List.replicate n z) ps))
 | .ldU n _ p=>(J p).ok&&match(J p).d with
  | .ptr l k i o=>(BH m l k (i+1)&&decide (o+n<=k))&& !aL (aH m l)
  | .ref k es i o=>decide (i<es.length)&&decide (o+n<=k)
  |_=>false
 | .ldW n _ p=>(J p).ok&&match(J p).d with
  | .ptr l k i o=>(BH m l k (i+1)&&decide (o+n<=k))&&decide (4<k)
  | .ref k es i o=>decide (i<es.length)&&decide (o+n<=k)
  |_=>false
 | .ldI n _ p=>(J p).ok&&match(J p).d with
  | .ref k es i o=>decide (i<es.length)&&decide (o+n<=k)
  |_=>false
 | .stU n p v qs=>((J p).ok&&(J v).ok)&&(decide ((J v).d.cells.length=n)&&match(J p).d with
  | .ptr l k i o=>BH m l k (i+1)&&(decide (o+n<=k)&&(decide (k<=4) ||qs.all fun q=>!(cb (J q).d).contains l))
  |_=>false)
 |_=>false
def ac2 {Y:Ctx}{J:Src->aX}{m:List (Nat×bd)}{i:ax}(h:oblB J m i=true):i.ey Y J m:=by
 cases i<;>simp only[oblB,aD,iw]at h;all_goals simp only[ax.ey]
 all_goals grind [Wl,S4,wh,W6,abi,abl,ab2,ac4]
def ax.spec:ax->Bool
 | .callM .. | .callvM .. | .isNl .. =>true
 |_=>false
def KG:Ctx:=⟨fun _ _=>False,fun _ _=>.any,fun _ _ _ _=>False,fun _ _ _=>False,fun _ _ _=>.any,fun _ _ _=>.any,0⟩
def ax.lone:ax->Bool
 | .call .. | .callv .. | .callM .. | .callvM .. | .callF .. | .isNl .. =>false
 |_=>true
def ZE {Y:Ctx}{J:Src->aX}{m:List (Nat×bd)}{L:Nat}{i:ax}(h:i.lone=true):i.val KG J m L=i.val Y J m L:=by
 cases i<;>first|rfl|cases h
def V4 {Y:Ctx}{J:Src->aX}{m:List (Nat×bd)}{L:Nat}{i:ax}(h:i.lone=true):i.bL KG J m L=i.bL Y J m L:=by
 cases i<;>first|rfl|cases h
def Tc (vs:List aX)(i:ax):Option (Nat×Bool)->Bool
 |none=>true
 |some (j,_)=>i.calm&&(!(vs.getD j .un).ok ||(vs.getD j .un).d.isBool)
def GN {vs:List aX}{i:ax}{g:Option (Nat×Bool)}(h:Tc vs i g=true):UH vs i g:=by
 cases g<;>simp_all[Tc,UH]<;>grind
def QQ (vs:List aX):Option (Nat×Bool)->Bool
 |none=>true
 |some (j,_)=>!(vs.getD j .un).ok ||(vs.getD j .un).d.isBool
def KY {vs:List aX}{g:Option (Nat×Bool)}(h:QQ vs g=true):yo vs g:=by
 cases g<;>simp_all[QQ,yo]<;>grind
abbrev EP:=Nat->List D->Option D
abbrev EM:=Nat->List D->St->Option (D×St)
abbrev EL:=AC->List aX->St->Option (Ex×List aX×St)
def Kg (p:EP)(q:EM):List GI->List aX->List aX->St->Option (List aX×St)
 |[],_,vs,st=>some (vs,{st with nx:=st.nx+vs.length})
 |⟨i,g⟩::r,env,vs,st=>match i with
  | .callM f args=>dP (QQ vs g) (match flag vs g with
   |true=>dP (TH (Src.ev env vs) args) (match q f (iG (Src.ev env vs) args) {st with nx:=st.nx+vs.length}with
    |some (d,st')=>dP (decide (st.nx+vs.length<=st'.nx)) (Kg p q r env (vs++[⟨true,d⟩]) {st' with nx:=st'.nx-vs.length})
    |none=>none)
   |false=>Kg p q r env (vs++[⟨false,.any⟩]) st)
  | .callvM f args=>dP (QQ vs g) (match flag vs g with
   |true=>match Src.ev env vs f with
    |⟨true,.fn n caps⟩=>dP (decide (n<2000000)&&TH (Src.ev env vs) args) (match q (NG n) (ND n (iG (Src.ev env vs) args) caps) {st with nx:=st.nx+vs.length}with
     |some (d,st')=>dP (decide (st.nx+vs.length<=st'.nx)) (Kg p q r env (vs++[⟨true,d⟩]) {st' with nx:=st'.nx-vs.length})
     |none=>none)
    |_=>none
   |false=>Kg p q r env (vs++[⟨false,.any⟩]) st)
  | .call f args sh=>dP (Tc vs i g) (match flag vs g with
   |true=>dP (TH (Src.ev env vs) args) (match puS st.m sh (iG (Src.ev env vs) args)with
    |some ds=>match p f ds with
     |some d=>dP (qd (iG (Src.ev env vs) args) d) (Kg p q r env (vs++[⟨true,d⟩]) st)
     |none=>none
    |none=>none)
   |false=>Kg p q r env (vs++[⟨false,.any⟩]) st)
  |i=>dP (i.lone&&Tc vs i g) (match flag vs g with
   |true=>dP (oblB (Src.ev env vs) st.m i) (Kg p q r env (vs++[⟨true,i.val KG (Src.ev env vs) st.m (st.nx+vs.length)⟩]) {st with m:=i.bL KG (Src.ev env vs) st.m (st.nx+vs.length)})
   |false=>Kg p q r env (vs++[⟨false,.any⟩]) {st with m:=i.bL KG (Src.ev env vs) st.m (st.nx+vs.length)})
def Rm (Y:Ctx)(p:EP):Prop:=∀f ds d,p f ds=some d->Y.pre f ds/\Y.val f ds=d
def okQ (Y:Ctx)(q:EM):Prop:=∀f ds st d st',q f ds st=some (d,st')->∀K:D->St->Prop,K d st'->Y.tr f ds st K
def ahT {Y:Ctx}{p:EP}{q:EM}(hp:Rm Y p)(hq:okQ Y q){draw:Bool}:∀{ins:List GI}{env vs:List aX}{st:St}{vs':List aX}{st':St},Kg p q ins env vs st=some (vs',st')->∀K:List aX->St->Prop,K vs' st'->eM Y draw ins env vs st K:=by
 intro ins;induction ins with
 |nil=>intro env vs st vs' st' h K hK;simp only[Kg,aB,c9]at h;obtain⟨rfl,rfl⟩:=h;exact hK
 |cons gi r ih=>
  obtain⟨i,g⟩:=gi;intro env vs st vs' st' h K hK;have fin:∀{d:D} {m':List (Nat×bd)},i.spec=false->i.k8 draw g=false->UH vs i g->(flag vs g=true->i.ey Y (Src.ev env vs) st.m/\i.val Y (Src.ev env vs) st.m (st.nx+vs.length)=d)->i.bL Y (Src.ev env vs) st.m (st.nx+vs.length)=m'->
    Kg p q r env (vs++[⟨flag vs g,d⟩]) {st with m:=m'} =some (vs',st')->eM Y draw (⟨i,g⟩::r) env vs st K:=by
   intro d m' h0 h1 h2 h3 h4 h5;have h6:=ih h5 K hK;subst h4;rw[show eM Y draw (⟨i,g⟩::r) env vs st K=(UH vs i g/\(flag vs g=true->i.ey Y (Src.ev env vs) st.m)/\((flag vs g=true->i.Kf draw (Src.ev env vs))->∃d,(flag vs g=true->i.val Y (Src.ev env vs) st.m (st.nx+vs.length)=d)/\
    eM Y draw r env (vs++[⟨flag vs g,d⟩]) {st with m:=i.bL Y (Src.ev env vs) st.m (st.nx+vs.length)} K))by
    cases i<;>first|(cases h0;done)|(simp only[eM];rw[h1];rfl)]
   exact⟨h2,fun h=>(h3 h).1,fun _=>⟨d,fun h=>(h3 h).2,h6⟩⟩
  have lon:(dP (i.lone&&Tc vs i g) (match flag vs g with
   |true=>dP (oblB (Src.ev env vs) st.m i) (Kg p q r env (vs++[⟨true,i.val KG (Src.ev env vs) st.m (st.nx+vs.length)⟩]) {st with m:=i.bL KG (Src.ev env vs) st.m (st.nx+vs.length)})
   |false=>Kg p q r env (vs++[⟨false,.any⟩]) {st with m:=i.bL KG (Src.ev env vs) st.m (st.nx+vs.length)}))=some (vs',st')->eM Y draw (⟨i,g⟩::r) env vs st K:=by
   intro h;obtain⟨h1,h2⟩:=cw h;rw[aD]at h1;have h3:=GN h1.2;have h4:i.spec=false:=by revert h1;cases i<;>simp[ax.spec,ax.lone]
   have h5:i.k8 draw g=false:=by cases g<;>simp_all[ax.k8,Tc]
   rw[V4 (Y:=Y) h1.1,ZE (Y:=Y) h1.1]at h2;cases hf:flag vs g
   .rw[hf]at h2;exact fin (d:=.any) h4 h5 h3 (fun h=>by rw[hf]at h;cases h) rfl (by rw[hf];exact h2)
   .rw[hf]at h2;obtain⟨h6,h7⟩:=cw h2;exact fin h4 h5 h3 (fun _=>⟨ac2 h6,rfl⟩) rfl (by rw[hf];exact h7)
  cases i
  case callM f args=>
   obtain⟨h0,h⟩:=cw h;refine⟨KY h0,fun hf=>?_,fun hf=>?_⟩<;>rw[hf]at h
   .obtain⟨h1,h2⟩:=cw h;split at h2
    .rename_i d st1 h3;obtain⟨h4,h5⟩:=cw h2;exact⟨Hg h1,hq _ _ _ _ _ h3 _ ⟨by simpa using h4,ih h5 K hK⟩⟩
    .cases h2
   .exact ih h K hK
  case callvM f args=>
   obtain⟨h0,h⟩:=cw h;refine⟨KY h0,fun hf=>?_,fun hf=>?_⟩<;>rw[hf]at h
   .simp only at h;split at h
    .rename_i n caps h0;obtain⟨h1,h2⟩:=cw h;rw[aD]at h1;split at h2
     .rename_i d st1 h3;obtain⟨h4,h5⟩:=cw h2;rw[h0];exact⟨rfl,Hg h1.2,by simpa using h1.1,hq _ _ _ _ _ h3 _ ⟨by simpa using h4,ih h5 K hK⟩⟩
     .cases h2
    .cases h
   .exact ih h K hK
  case call f args sh=>
   simp only[Kg]at h;obtain⟨h1,h2⟩:=cw h;cases hf:flag vs g
   .rw[hf]at h2;exact fin (d:=.any) rfl (by simp[ax.k8,ax.calm]) (GN h1) (fun h=>by rw[hf]at h;cases h) rfl (by rw[hf];exact h2)
   .rw[hf]at h2;obtain⟨h3,h4⟩:=cw h2;split at h4
    .rename_i ds h5;split at h4
     .rename_i d h6;obtain⟨h7,h8⟩:=cw h4;obtain⟨e1,e2⟩:=X9 h5;obtain⟨e3,e4⟩:=hp _ _ _ h6;refine fin (d:=d) rfl (by simp[ax.k8,ax.calm]) (GN h1) (fun _=>?_) rfl (by rw[hf];exact h8);simp only[ax.ey,ax.val,e2,e4];exact⟨⟨Hg h3,e1,e3,h7⟩,trivial⟩
     .cases h4
    .cases h4
  all_goals exact lon h
def gY {α:Type}{b:Bool}{a a':Option α}{x:α}(hm:a=some x->a'=some x)(h:dP b a=some x):dP b a'=some x:=by
 obtain⟨h1,h2⟩:=cw h;rw[h1];exact hm h2
def V7 {p p':EP}{q q':EM}(hp:∀f ds d,p f ds=some d->p' f ds=some d)(hq:∀f ds st d,q f ds st=some d->q' f ds st=some d):∀{ins:List GI}{env vs:List aX}{st:St}{x:List aX×St},Kg p q ins env vs st=some x->Kg p' q' ins env vs st=some x:=by
 intro ins;induction ins with
 |nil=>exact fun h=>h
 |cons gi r ih=>
  obtain⟨i,g⟩:=gi;intro env vs st x h;cases i
  case callM f args=>
   refine gY (fun h=>?_) h;cases hf:flag vs g<;>rw[hf]at h
   .exact ih h
   .refine gY (fun h=>?_) h;split at h
    .rename_i h1;rw[hq _ _ _ _ h1];exact gY (fun h=>ih h) h
    .cases h
  case callvM f args=>
   refine gY (fun h=>?_) h;cases hf:flag vs g<;>rw[hf]at h
   .exact ih h
   .simp only at h⊢;split at h
    .refine gY (fun h=>?_) h;split at h
     .rename_i h1;rw[hq _ _ _ _ h1];exact gY (fun h=>ih h) h
     .cases h
    .cases h
  case call f args sh=>
   refine gY (fun h=>?_) h;cases hf:flag vs g<;>rw[hf]at h
   .exact ih h
   .refine gY (fun h=>?_) h;split at h
    .split at h
     .rename_i h2;simp only[hp _ _ _ h2];exact gY (fun h=>ih h) h
     .cases h
    .cases h
  all_goals
   simp only[Kg]at h⊢;obtain⟨h1,h2⟩:=cw h;rw[h1];cases hf:flag vs g<;>rw[hf]at h2
   .exact ih h2
   .obtain⟨h3,h4⟩:=cw h2;simp only[h3,dP];exact ih h4
def Av (p:EP)(q:EM)(l:EL):AC->List aX->St->Option (Ex×List aX×St)
 | .reg _ ins cm,env,st=>match Kg p q ins env [] st with
  |some (vs,st')=>some (.normal,iq env vs cm,st')
  |none=>none
 | .seq a b,env,st=>match Av p q l a env st with
  |some (.normal,e,s)=>Av p q l b e s
  |r=>r
 | .cond c a b,env,st=>match c.ev env []with
  |⟨true,.bool true⟩=>Av p q l a env st
  |⟨true,.bool false⟩=>Av p q l b env st
  |_=>none
 | .block id a,env,st=>match Av p q l a env st with
  |some (.exit j,e,s)=>if j=id then some (.normal,e,s)else some (.exit j,e,s)
  |r=>r
 | .loop a,env,st=>l a env st
 | .exit id,env,st=>some (.exit id,env,st)
 | .ret,env,st=>some (.ret,env,st)
 | .skip,env,st=>some (.normal,env,st)
def okL (Y:Ctx)(l:EL):Prop:=∀a env st e env' st',l a env st=some (e,env',st')->∀Q:Ex->List aX->St->Prop,Q e env' st'->dn Y (.loop a) Q env st
def kB {lo:Nat}{p:List aX->St->Prop}{env:List aX}{st:St}(h:p env st):Gh lo p env st:=⟨env,st,.refl _ _,h⟩
def NS {Y:Ctx}{p:EP}{q:EM}{l:EL}(hp:Rm Y p)(hq:okQ Y q)(hl:okL Y l):∀{c:AC}{env:List aX}{st:St}{e:Ex}{env':List aX}{st':St},Av p q l c env st=some (e,env',st')->∀Q:Ex->List aX->St->Prop,Q e env' st'->dn Y c Q env st:=by
 intro c;induction c with
 |reg draw ins cm=>
  intro env st e env' st' h Q hQ;simp only[Av]at h;split at h
  .rename_i vs s1 h1;simp only[aB,c9]at h;obtain⟨rfl,rfl,rfl⟩:=h;exact kB (ahT hp hq h1 _ hQ)
  .cases h
 |seq a b iha ihb=>
  intro env st e env' st' h Q hQ;simp only[Av]at h;split at h
  .rename_i e1 s1 h1;exact kB (iha h1 _ (ihb h _ hQ))
  .rename_i h1;refine kB (iha h _ ?_);cases e with
   |normal=>exact absurd h (h1 _ _)
   |exit j=>exact hQ
   |ret=>exact hQ
 |cond c a b iha ihb=>
  intro env st e env' st' h Q hQ;simp only[Av]at h;split at h
  .rename_i h1;refine kB ⟨by rw[h1], ?_⟩;rw[h1];exact⟨fun _=>iha h _ hQ,fun h=>bZ⟩
  .rename_i h1;refine kB ⟨by rw[h1], ?_⟩;rw[h1];exact⟨fun h=>bZ,fun _=>ihb h _ hQ⟩
  .cases h
 |block id a iha=>
  intro env st e env' st' h Q hQ;simp only[Av]at h;split at h
  .rename_i j e1 s1 h1;refine kB (iha h1 _ ?_);show if j=id then _ else _
   split at h
   .rename_i h2;simp only[aB,c9]at h;obtain⟨rfl,rfl,rfl⟩:=h;rw[ak h2];exact hQ
   .rename_i h2;simp only[aB,c9]at h;obtain⟨rfl,rfl,rfl⟩:=h;rw[ah h2];exact hQ
  .rename_i h1;refine kB (iha h _ ?_);cases e with
   |exit j=>exact absurd h (h1 _ _ _)
   |normal=>exact hQ
   |ret=>exact hQ
 |loop a _=>exact fun h=>hl _ _ _ _ _ _ h
 |exit id=>intro env st e env' st' h Q hQ;simp only[Av,aB,c9]at h;obtain⟨rfl,rfl,rfl⟩:=h;exact kB hQ
 |ret=>intro env st e env' st' h Q hQ;simp only[Av,aB,c9]at h;obtain⟨rfl,rfl,rfl⟩:=h;exact kB hQ
 |skip=>intro env st e env' st' h Q hQ;simp only[Av,aB,c9]at h;obtain⟨rfl,rfl,rfl⟩:=h;exact kB hQ
def V6 {p p':EP}{q q':EM}{l l':EL}(hp:∀f ds d,p f ds=some d->p' f ds=some d)(hq:∀f ds st d,q f ds st=some d->q' f ds st=some d)(hl:∀a env st d,l a env st=some d->l' a env st=some d):∀{c:AC}{env:List aX}{st:St}{x:Ex×List aX×St},Av p q l c env st=some x->Av p' q' l' c env st=some x:=by
 intro c;induction c with
 |reg draw ins cm=>
  intro env st x h;simp only[Av]at h⊢;split at h
  .rename_i h1;rw[V7 hp hq h1];exact h
  .cases h
 |seq a b iha ihb=>
  intro env st x h;simp only[Av]at h⊢;split at h
  .rename_i h1;rw[iha h1];exact ihb h
  .rename_i h1;rw[iha h];obtain⟨e,e1,s1⟩:=x;cases e with
   |normal=>exact absurd h (h1 _ _)
   |exit j=>rfl
   |ret=>rfl
 |cond c a b iha ihb=>
  intro env st x h;simp only[Av]at h⊢;split at h
  .exact iha h
  .exact ihb h
  .cases h
 |block id a iha=>
  intro env st x h;simp only[Av]at h⊢;split at h
  .rename_i h1;rw[iha h1];exact h
  .rename_i h1;rw[iha h];obtain⟨e,e1,s1⟩:=x;cases e with
   |exit j=>exact absurd h (h1 _ _ _)
   |normal=>rfl
   |ret=>rfl
 |loop a _=>exact fun h=>hl _ _ _ _ h
 |exit id=>exact fun h=>h
 |ret=>exact fun h=>h
 |skip=>exact fun h=>h
def Ex.QR:Ex->Bool
 | .exit _=>false
 |_=>true
def Y5 (m:List (Nat×bd))(env:List aX):List Gg->Bool
 |[]=>true
 |r::rs=>((env.getD r.s .un).ok&&match r.mem with
   |none=>true
   |some (n,_)=>ldB m n (env.getD r.s .un).d)&&Y5 m env rs
def K0 {e:Ex}(h:e.QR=true):e.home:=by cases e<;>simp_all[Ex.QR,Ex.home]
def RL {m:List (Nat×bd)}{env:List aX}:∀{l:List Gg},Y5 m env l=true->n8 m env l:=by
 intro l;induction l<;>grind [Y5,n8,W6]
structure EvS where
 p:EP
 q:EM
 l:EL
def evF (E:EvS)(a:aj)(ds:List D):Option D:=dP (decide (ds.length=a.np)) (match Av E.p E.q E.l a.body (fI a ds) ⟨0,[]⟩with
 |some (e,env,st)=>dP (e.QR&&Y5 st.m env a.res) (match a.res with
  |[r]=>puV st.m 9 (a.rsh.getD 0 []) (HS st.m env r)
  |rs=>(puS st.m a.rsh (qC st.m env rs)).map .tup)
 |none=>none)
def evM (E:EvS)(a:aj)(ds:List D)(st:St):Option (D×St):=dP (decide (ds.length=a.np)) (match Av E.p E.q E.l a.body (fI a ds) st with
 |some (e,env,st')=>dP (e.QR&&Y5 st'.m env a.res) (some (j1 a env st',st'))
 |none=>none)
def kY (tb:Nat->Option aj)(ex:EP):Nat->EvS
 |0=>⟨fun _ _=>none,fun _ _ _=>none,fun _ _ _=>none⟩
 |n+1=>⟨fun f ds=>match tb f with
   |some a=>evF (kY tb ex n) a ds
   |none=>ex f ds,fun f ds st=>match tb f with
   |some a=>evM (kY tb ex n) a ds st
   |none=>none,fun a env st=>match Av (kY tb ex n).p (kY tb ex n).q (kY tb ex n).l a env st with
   |some (.normal,e,s)=>(kY tb ex n).l a e s
   |r=>r⟩
section
variable {tb:Nat->Option aj} {ex:EP}
def E3 (n:Nat):(∀f ds d,(kY tb ex n).p f ds=some d->(kY tb ex (n+1)).p f ds=some d)/\(∀f ds st d,(kY tb ex n).q f ds st=some d->(kY tb ex (n+1)).q f ds st=some d)/\∀a env st d,(kY tb ex n).l a env st=some d->(kY tb ex (n+1)).l a env st=some d:=by
 induction n with
 |zero=>exact⟨fun _ _ _ h=>bZ,fun _ _ _ _ h=>bZ,fun _ _ _ _ h=>bZ⟩
 |succ n ih=>
  obtain⟨h1,h2,h3⟩:=ih;have hc:∀{c:AC} {env:List aX} {st:St} {x:Ex×List aX×St},Av (kY tb ex n).p (kY tb ex n).q (kY tb ex n).l c env st=some x->Av (kY tb ex (n+1)).p (kY tb ex (n+1)).q (kY tb ex (n+1)).l c env st=some x:=fun h=>V6 h1 h2 h3 h
  refine⟨fun f ds d h=>?_,fun f ds st d h=>?_,fun a env st d h=>?_⟩
  .simp only[kY]at h⊢;split at h
   .refine gY (fun h=>?_) h;split at h
    .rename_i h4;have:=hc h4;simp only[kY]at this;rw[this];exact h
    .cases h
   .exact h
  .simp only[kY]at h⊢;split at h
   .refine gY (fun h=>?_) h;split at h
    .rename_i h4;have:=hc h4;simp only[kY]at this;rw[this];exact h
    .cases h
   .exact h
  .rw[kY]at h⊢;simp only at h⊢;split at h
   .rename_i h4;rw[hc h4];exact h3 _ _ _ _ h
   .rename_i h4;rw[hc h];obtain⟨e,e1,s1⟩:=d;cases e with
    |normal=>exact absurd h (h4 _ _)
    |exit j=>rfl
    |ret=>rfl
def KL {n k f:Nat}{ds:List D}{d:D}(h:(kY tb ex n).p f ds=some d)(hk:n<=k):(kY tb ex k).p f ds=some d:=by
 induction hk with
 |refl=>exact h
 |step _ ih=>exact(E3 _).1 _ _ _ ih
def V9 {n k f:Nat}{ds:List D}{st:St}{d:D×St}(h:(kY tb ex n).q f ds st=some d)(hk:n<=k):(kY tb ex k).q f ds st=some d:=by
 induction hk with
 |refl=>exact h
 |step _ ih=>exact(E3 _).2.1 _ _ _ _ ih
end
def UK (P:Nat->Prop):Nat:=Classical.epsilon fun k=>P k/\∀j,P j->k<=j
def yx {P:Nat->Prop}:∀{n:Nat},P n->P (UK P)/\∀j,P j->UK P<=j:=by
 have h:∀n,P n->∃k,P k/\∀j,P j->k<=j:=by
  intro n;induction n using Nat.strongRecOn with
  |_ n ih=>
   intro hn;by_cases h:∃j,P j/\j<n
   .obtain⟨j,h1,h2⟩:=h;exact ih j h2 h1
   .exact⟨n,hn,fun j hj=>by
     rcases dQ j n with h1|h1
     .exact absurd ⟨j,hj,h1⟩ h
     .exact h1⟩
 exact fun {n} hn=>Classical.epsilon_spec (h n hn)
section
variable {tb:Nat->Option aj} {ex:EP} {Y:Ctx}
def V8 {N:Nat}(hp:∀n,n<N->Rm Y (kY tb ex n).p)(hq:∀n,n<N->okQ Y (kY tb ex n).q):okL Y (kY tb ex N).l:=by
 intro a env st e env' st' h Q hQ
 let P:List aX->St->Nat->Prop:=fun env st n=>n<=N/\(kY tb ex n).l a env st=some (e,env',st')
 refine kB ⟨fun env st=>∃n,P env st n,fun env st=>UK (P env st),⟨N,aO _,h⟩,fun env st ⟨n,hn⟩=>?_⟩;obtain⟨⟨h1,h2⟩,h3⟩:=yx (P:=P env st) hn;obtain⟨k,hk⟩:∃k,UK (P env st)=k:=⟨_,rfl⟩
 rw[hk]at h1 h2 h3;cases k with
 |zero=>cases h2
 |succ k=>
  rw[kY]at h2;simp only at h2;have ih:okL Y (kY tb ex k).l:=V8 (fun n h=>hp n ae) fun n h=>hq n ae
  split at h2
  .rename_i e1 s1 h4;refine NS (hp k ae) (hq k ae) ih h4 _ ⟨e1,s1,.refl _ _,⟨k,ae,h2⟩, ?_⟩;have:=(yx (P:=P e1 s1) (n:=k) ⟨ae,h2⟩).2 k ⟨ae,h2⟩;show UK (P e1 s1)<UK (P env st);omega
  .rename_i h4;refine NS (hp k ae) (hq k ae) ih h2 _ ?_;cases e with
   |normal=>exact absurd h2 (h4 _ _)
   |exit j=>exact hQ
   |ret=>exact hQ
termination_by N
end
def bQ (tb:Nat->Option aj)(ex:EP)(k f:Nat):mC where
 key:=k
 rel ds d:=∃n,(kY tb ex n).p f ds=some d
 mu ds:=UK fun n=>∃d,(kY tb ex n).p f ds=some d
 relF:=noF
 tr ds st K:=∃n d st',(kY tb ex n).q f ds st=some (d,st')/\K d st'
 muE ds st:=UK fun n=>∃d,(kY tb ex n).q f ds st=some d
 mono _ _ _ _ h h1:=by obtain⟨n,d,st',h2,h3⟩:=h1;exact⟨n,d,st',h2,h _ _ h3⟩
section
variable {tb:Nat->Option aj} {ex:EP} {t:List (Nat×mC)} {k:Nat}
def Dg {f:Nat}:Det (bQ tb ex k f).rel:=by
 intro ds d d' ⟨n,h⟩ ⟨n',h'⟩;have h1:=KL h (Nat.le_max_left n n');rw[KL h' (Nat.le_max_right n n')]at h1;exact(aV h1).symm
def ku {f:Nat}{ds:List D}{d:D}{k' u n:Nat}(hr:lk t f mU=bQ tb ex k f)(hk:k<k')(h:(kY tb ex n).p f ds=some d):(under t k' u).pre f ds/\(under t k' u).val f ds=d:=
 okp (hr▸Dg) (.inl (by rw[hr];exact hk)) (by rw[hr];exact⟨n,h⟩)
def Wa (hrow:∀f a,tb f=some a->lk t f mU=bQ tb ex k f)(hex:∀u,Rm (under t k u) ex){u n:Nat}(hn:n<u):Rm (under t k u) (kY tb ex n).p:=by
 intro f ds d h;cases n with
 |zero=>cases h
 |succ n=>
  cases hf:tb f with
  |none=>simp only[kY,hf]at h;exact hex u f ds d h
  |some a=>
   have hr:=hrow f a hf;refine okp (hr▸Dg) (.inr ⟨by rw[hr];rfl, ?_⟩) (by rw[hr];exact⟨_,h⟩);rw[hr];have:=(yx (P:=fun n=>∃d,(kY tb ex n).p f ds=some d) ⟨d,h⟩).2 _ ⟨d,h⟩;exact Nat.lt_of_le_of_lt this hn
def Wb (hrow:∀f a,tb f=some a->lk t f mU=bQ tb ex k f)(hex:∀u,Rm (under t k u) ex){u n:Nat}(hn:n<u):okQ (under t k u) (kY tb ex n).q:=by
 intro f ds st d st' h K hK;cases n with
 |zero=>cases h
 |succ n=>
  cases hf:tb f with
  |none=>simp only[kY,hf]at h;cases h
  |some a=>
   have hr:=hrow f a hf;refine Rn (.inr ⟨by rw[hr];rfl, ?_⟩) (by rw[hr];exact⟨_,_,_,h,hK⟩);rw[hr];have:=(yx (P:=fun n=>∃d,(kY tb ex n).q f ds st=some d) ⟨_,h⟩).2 _ ⟨_,h⟩;exact Nat.lt_of_le_of_lt this hn
def QG (hrow:∀f a,tb f=some a->lk t f mU=bQ tb ex k f)(hex:∀u,Rm (under t k u) ex){u n l:Nat}(hn:n<u){c:AC}{env:List aX}{st:St}{e:Ex}{env':List aX}{st':St}(h:Av (kY tb ex n).p (kY tb ex n).q (kY tb ex n).l c env st=some (e,env',st')){Q:Ex->List aX->St->Prop}(hQ:Q e env' st'):dn ((under t k u).at l) c Q env st:=
 NS (Y:=(under t k u).at l) (Wa hrow hex hn) (Wb hrow hex hn) (V8 (fun n' h=>Wa hrow hex ae) fun n' h=>Wb hrow hex ae) h Q hQ
variable [cG] {P:Program} {ν:List (Nat×Nat)} {bL:List Nat} {fid f:Nat} {a:aj}
def aJ (hrow:∀f a,tb f=some a->lk t f mU=bQ tb ex k f)(hex:∀u,Rm (under t k u) ex)(hmix:P.follows .mixedOrders=true)(hC:UF P ν bL fid a)(hf:tb f=some a):Owe P ν bL t fid f:=by
 have hr:=hrow f a hf;refine⟨?_, ?_, ?_⟩<;>rw[hr]
 .intro ds d ⟨n,h⟩;obtain⟨⟨d',h1⟩,h2⟩:=yx (P:=fun n=>∃d,(kY tb ex n).p f ds=some d) ⟨d,h⟩;have h3:d'=d:=Dg (k:=k) ds d' d ⟨_,h1⟩ ⟨_,h⟩;subst h3;show Km P ν bL (under t k (UK fun n=>∃d,(kY tb ex n).p f ds=some d)) fid ds d';generalize (UK fun n=>∃d,(kY tb ex n).p f ds=some d)=N at h1;cases N with
  |zero=>cases h1
  |succ N=>
   simp only[kY,hf]at h1;obtain⟨g1,g2⟩:=cw h1;split at g2
   .rename_i e env st g3;obtain⟨g4,g5⟩:=cw g2;rw[aD]at g4;refine au hmix hC (by simpa using g1) (QG hrow hex (Nat.lt_succ_self N) g3 ⟨K0 g4.1,RL g4.2, ?_⟩);unfold Mx Y6;split at g5
    .rename_i r hres;rw[hres];exact Ya g5
    .rename_i rs hres;obtain⟨es,g6,rfl⟩:=cX.1 g5;have:=X9 g6;split
     .rename_i r hr;exact absurd hr (hres r)
     .exact⟨this.1,by rw[this.2]⟩
   .cases g2
 .exact Hf
 .intro ds st K ⟨n,d,st',h,hK⟩;obtain⟨⟨d',h1⟩,h2⟩:=yx (P:=fun n=>∃d,(kY tb ex n).q f ds st=some d) ⟨_,h⟩;have h3:d'=(d,st'):=by
   have:=V9 h1 (h2 n ⟨_,h⟩);rw[h]at this;exact(aV this).symm
  subst h3;show uu P ν bL (under t k (UK fun n=>∃d,(kY tb ex n).q f ds st=some d)) fid ds st K;generalize (UK fun n=>∃d,(kY tb ex n).q f ds st=some d)=N at h1;cases N with
  |zero=>cases h1
  |succ N=>
   simp only[kY,hf]at h1;obtain⟨g1,g2⟩:=cw h1;split at g2
   .rename_i e env s1 g3;obtain⟨g4,g5⟩:=cw g2;rw[aD]at g4;simp only[aB,c9]at g5;obtain⟨g6,rfl⟩:=g5;intro hok x args hl hargs hs hfr;obtain⟨fn,hfn,hc,hn⟩:=hC.split;obtain⟨body,c1,_⟩:=gp hc;refine .inr ⟨fid,args,gT hfn hn (by rw[c1];rfl) args x.w, ?_⟩;refine Calls.mono (ahY (K:=K) hok hmix hfn hc hl hargs hs hfr ⟨by simpa using g1,QG hrow hex (Nat.lt_succ_self N) g3 ⟨K0 g4.1,RL g4.2, ?_⟩⟩) fun e w' he=>?_
    .rw[g6];exact hK
    .grind
   .cases g2
end
end
def qZ:aj:=ba 237
def q9:aj:=ba 269
def uF:aj:=ba 175
def xG:aj:=ba 94
def uz:aj:=ba 238
def rL:aj:=ba 273
def zR:aj:=ba 140
def xu:aj:=ba 177
def wN:aj:=ba 270
def wO:aj:=ba 271
def uR:aj:=ba 294
def uQ:aj:=ba 293
def uE:aj:=ba 209
def uG:aj:=ba 210
def xF:aj:=ba 142
def xI:aj:=ba 143
def qS:aj:=ba 274
def qT:aj:=ba 272
def uJ:aj:=ba 176
def oE:aj:=ba 296
def Cs:aj:=ba 297
def wP:aj:=ba 298
def xM:aj:=ba 318
def wv:aj:=ba 316
def Aj:aj:=ba 319
def k9:aj:=ba 246
def zP:aj:=ba 247
def uI:aj:=ba 248
def Ae:aj:=ba 180
def xA:aj:=ba 181
def Af:aj:=ba 182
def Dc:aj:=ba 183
def Ag:aj:=ba 184
def C9:aj:=ba 185
def rK:aj:=ba 301
def mR:aj:=ba 321
def nT:aj:=ba 322
def zE:aj:=ba 323
def zD:aj:=ba 324
def BK:aj:=ba 344
def wx:aj:=ba 345
def zk:aj:=ba 336
def mW:aj:=ba 279
def mX:aj:=ba 280
def n7:aj:=ba 281
def xq:aj:=ba 282
def xp:aj:=ba 283
def xB:aj:=ba 215
def xD:aj:=ba 212
def C8:aj:=ba 213
def sk:aj:=ba 214
def C7:aj:=ba 216
def oD:aj:=ba 349
def nU:aj:=ba 350
def oF:aj:=ba 351
def oC:aj:=ba 352
def zC:aj:=ba 353
def zB:aj:=ba 354
def zm:aj:=ba 362
def ux:aj:=ba 361
def n6:aj:=ba 305
def xo:aj:=ba 306
def zQ:aj:=ba 307
def xr:aj:=ba 308
def Ad:aj:=ba 251
def Ab:aj:=ba 249
def uP:aj:=ba 250
def pF:aj:=ba 369
def mV:aj:=ba 330
def mY:aj:=ba 358
def xx:aj:=ba 188
def C5:aj:=ba 262
def uK:aj:=ba 218
def uL:aj:=ba 219
def xy:aj:=ba 220
def uM:aj:=ba 221
def xz:aj:=ba 290
def zU:aj:=ba 252
def xw:aj:=ba 254
def zW:aj:=ba 255
def zX:aj:=ba 256
def FF:aj:=ba 286
def zT:aj:=ba 284
def FD:aj:=ba 309
def C3:aj:=ba 333
def CZ:aj:=ba 193
def zS:aj:=ba 194
def zY:aj:=ba 331
def zZ:aj:=ba 313
def FE:aj:=ba 314
def z6:aj:=ba 315
def xm:aj:=ba 224
def FG:aj:=ba 225
def C4:aj:=ba 335
def sf:aj:=ba 258
def Da:aj:=ba 259
def C6:aj:=ba 263
def uH:aj:=ba 285
def Db:aj:=ba 287
def C2:aj:=ba 291
def uO:aj:=ba 310
def z8:aj:=ba 311
def z7:aj:=ba 312
def Ac:aj:=ba 332
def uN:aj:=ba 334
def Aa:aj:=ba 359
def xE:aj:=ba 360
def tbT:List (Nat×aj):=[(212,qZ),(444,q9),(670,uF),(572,xG),(213,uz),(448,rL),(459,zR),(672,xu),(445,wN),(446,wO),(496,uR),(495,uQ),(813,uE),(814,uG),(744,xF),(745,xI),(449,qS),(447,qT),(671,uJ),(660,oE),(661,Cs),(662,wP),(684,xM),(682,wv),(685,Aj),(952,k9),(953,zP),(954,uI),(896,Ae),(897,xA),(898,Af),(899,Dc),(900,Ag),(901,C9),(663,rK),(808,mR),(809,nT),(810,zE),(811,zD),(827,BK),(828,wx),(819,zk),(1032,mW),(1033,mX),(1034,n7),(1035,xq),(1036,xp),(482,xB),(1006,xD),(1007,C8),(1008,sk),(676,C7),(946,oD),(947,nU),(948,oF),(949,oC),(950,zC),(951,zB),(957,zm),(956,ux),(1097,n6),(1098,xo),(1099,zQ),(1100,xr),(677,Ad),(678,Ab),(1079,uP),(1031,pF),(1126,mV),(1141,mY),(156,xx),(374,C5),(376,uK),(377,uL),(378,xy),(379,uM),(598,xz),(599,zU),(601,xw),(602,zW),(603,zX),(604,FF),(769,zT),(771,FD),(772,C3),(907,CZ),(908,zS),(918,zY),(919,zZ),(920,FE),(921,z6),(1010,xm),(1011,FG),(1021,C4),(1081,sf),(1082,Da),(1085,C6),(1118,uH),(1119,Db),(1122,C2),(1137,uO),(1138,z8),(1139,z7),(1144,Ac),(1145,uN),(1147,Aa),(1148,xE)]
def ad4 (T:List D->D->Prop):Prop:=∀(s:av),(j9 s)->T [.str s] (cr.D (eU s))
def C908 (Y:Ctx):Prop:=ad4 (aG Y 908)
def ad3 (T:List D->D->Prop):Prop:=∀(s:av) (e:Env),(oG s/\kX e)->T [.str s,Env.D e] (.bool (Fs s e))
def C907 (Y:Ctx):Prop:=ad3 (aG Y 907)
def ZU (T:List D->D->Prop):Prop:=∀(s:av),(j9 s)->T [.str s] (.tup [cr.D (eU s),.int .i64 0])
def ad6 (Y:Ctx):Prop:=ZU (aG Y 1011)
def ZV (T:List D->D->Prop):Prop:=∀(s:cr),(s∈gN)->T [cr.D pf,cr.D s] (cr.D s)
def aeg (Y:Ctx):Prop:=ZV (aG Y 1085)
def ZX (T:List D->D->Prop):Prop:=∀(v:bX),(v∈bN)->T [bX.D v] (cr.D (dz v))
def U0 (Y:Ctx):Prop:=ZX (aG Y 156)
def JT (T:List D->D->Prop):Prop:=∀(l:List b6) (nm:av),T [.sl 2 (l.map b6.D),.str nm] (.int .i64 (findF l nm 0))
def C955 (Y:Ctx):Prop:=JT (aG Y 955)
def JH (T:List D->D->Prop):Prop:=∀(l:List b6) (nm:av),T [.sl 2 (l.map b6.D),.str nm] (.bool (isF l nm))
def C816 (Y:Ctx):Prop:=JH (aG Y 816)
end Go.Abs
section
set_option maxRecDepth 10000
namespace Go.Abs
def PA:List D->Option (List av)
 |[]=>some []
 | .str s::r=>match PA r with
  |some l=>some (s::l)
  |none=>none
 |_=>none
def Bp:∀{l:List D}{r:List av},PA l=some r->l=r.map D.str:=by
 intro l;induction l with
 |nil=>intro r h;cases h;rfl
 |cons d l ih=>intro r h;cases d<;>simp only[PA]at h<;>grind
def ug (s:av):Bool:=decide (s.length<=1048576)
def exO:EP:=fun f ds=>match ds with
 |[.str s]=>bif Nat.beq f 349 ||Nat.beq f 357 then some (.bool (gC s))else bif Nat.beq f 208 ||Nat.beq f 216 then some (.bool (dd s))else
  bif Nat.beq f 658 ||Nat.beq f 667 then some (.tup [.int .i64 (Cz s),.bool (n5 s)])else none
 |[.int .i64 n]=>dP ((Nat.beq f 665 ||Nat.beq f 734)&&(decide (0<=n)&&decide (n<=9999))) (some (.str (nI n.toNat)))
 |[.str s,.int .u8 b]=>dP ((Nat.beq f 533 ||Nat.beq f 470)&&ug s) (some (.sl 1 ((a7 s b).map D.str)))
 |[.str s,.str [124,124]]=>dP (ug s&&Nat.beq f 124) (some (.sl 1 ((jb s []).map D.str)))
 |[.str s,.str [b]]=>dP (ug s) (bif Nat.beq f 124 then some (.sl 1 ((a7 s b.toNat).map D.str))else bif Nat.beq f 683&&b==32 then some (.str (BG s))else
  bif Nat.beq f 487 then some (.tup [.str (ue s b).1,.str (ue s b).2.1,.bool (ue s b).2.2])else bif Nat.beq f 254 then some (.tup [.str (qg s [b]).1,.bool (qg s [b]).2])else none)
 |[.sl 1 l]=>match PA l with
  |some l=>bif Nat.beq f 815 then some (.bool (rising l))else none
  |none=>none
 |[.sl 1 l,.int .u8 x]=>match PA l with
  |some l=>dP (Nat.beq f 249&&(decide (x=(x.toNat.toUInt8.toNat:Nat))&&ug (ch [x.toNat.toUInt8] l))) (some (.str (ch [x.toNat.toUInt8] l)))
  |none=>none
 |[.sl 1 l,.str s]=>match PA l with
  |some l=>dP (Nat.beq f 242&&(decide (l.length<=9)&&(decide (s.length<=4)&&l.all ug))) (some (.str (ch s l)))
  |none=>none
 |[.agg [.int .i64 a,.int .i64 b,.int .i64 c,.str p,.str q]]=>dP ((Nat.beq f 209 ||Nat.beq f 217)&&(ug p&&ug q)) (some (.bool (gA ⟨a,b,c,p,q⟩)))
 |_=>none
def eK (n:Nat):Option aj:=lk (tbT.map fun p=>(p.1,some p.2)) n none
def ahW {Y:Ctx}(h349:SB Y)(h357:UU Y)(h208:Sz Y)(h216:Gj Y)(h658:C658 Y)(h667:C667 Y)(h665:C665 Y)(h734:C734 Y)(h533:UW Y)(h470:C470 Y)(h124:C124 Y)(h9124:aek Y)(h683:C683 Y)(h487:C487 Y)(h254:C254 Y)(h815:C815 Y)(h249:C249 Y)(h242:C242 Y)(h209:An Y)(h217:Bv Y):Rm Y exO:=by
 intro f ds d h;unfold exO at h;split at h
 .simp only[Bool.cond_eq_ite,dC,Nat.beq_eq]at h;split at h
  .rename_i hf;cases h;rcases hf with rfl|rfl
   .exact h349 _
   .exact h357 _
  split at h
  .rename_i hf;cases h;rcases hf with rfl|rfl
   .exact h208 _
   .exact h216 _
  split at h
  .rename_i hf;cases h;rcases hf with rfl|rfl
   .exact h658 _
   .exact h667 _
  .cases h
 .obtain⟨h1,h2⟩:=cw h;simp only[dC,aD,Nat.beq_eq,aW]at h1;cases h2;rcases h1 with⟨rfl|rfl,h1⟩
  .exact h665 _ h1
  .exact h734 _ h1
 .obtain⟨h1,h2⟩:=cw h;simp only[dC,aD,Nat.beq_eq,ug,aW]at h1;cases h2;rcases h1 with⟨rfl|rfl,h1⟩
  .exact h533 _ _ h1
  .exact h470 _ _ h1
 .obtain⟨h1,h2⟩:=cw h;simp only[aD,Nat.beq_eq,ug,aW]at h1;cases h2;obtain⟨h1,rfl⟩:=h1;exact h9124 _ h1
 .obtain⟨h1,h2⟩:=cw h;simp only[ug,aW]at h1;simp only[Bool.cond_eq_ite,aD,Nat.beq_eq,beq_iff_eq]at h2;split at h2
  .rename_i hf;cases h2;subst hf;exact h124 _ _ h1
  split at h2
  .rename_i hf;cases h2;obtain⟨rfl,hb⟩:=hf;exact h683 _ _ hb h1
  split at h2
  .rename_i hf;cases h2;subst hf;exact h487 _ _ h1
  split at h2
  .rename_i hf;cases h2;subst hf;exact h254 _ _ h1 aF
  .cases h2
 .split at h
  .rename_i l hl;obtain rfl:=Bp hl;simp only[Bool.cond_eq_ite,Nat.beq_eq]at h;split at h
   .rename_i hf;cases h;subst hf;exact h815 _
   .cases h
  .cases h
 .rename_i lx x;split at h
  .rename_i l hl;obtain rfl:=Bp hl;obtain⟨h1,h2⟩:=cw h;simp only[aD,Nat.beq_eq,ug,aW]at h1;cases h2;obtain⟨rfl,h3,h4⟩:=h1;revert h3 h4;generalize Nat.toUInt8 (Int.toNat x)=y;intro h3 h4;subst h3;exact h249 _ y (eX h4 aU)
  .cases h
 .split at h
  .rename_i l hl;obtain rfl:=Bp hl;obtain⟨h1,h2⟩:=cw h;simp only[aD,Nat.beq_eq,ug,List.all_eq_true,aW]at h1;cases h2;obtain⟨rfl,h3,h4,h5⟩:=h1;exact h242 _ _ ae h4 fun t ht=>eX (h5 t ht) aU
  .cases h
 .obtain⟨h1,h2⟩:=cw h;simp only[dC,aD,Nat.beq_eq,ug,aW]at h1;cases h2;rcases h1 with⟨rfl|rfl,h1⟩
  .exact h209 ⟨_,_,_,_,_⟩ h1
  .exact h217 ⟨_,_,_,_,_⟩ h1
 .cases h
def iQ:Option D->Bool
 |some (.bool b)=>b
 |_=>false
def dF {o:Option D}{b:Bool}(hb:b=true)(h:iQ o=true):o=some (.bool b):=by unfold iQ at h;split at h<;>simp_all
def fF (c:Bool):Option D->Bool
 |some (.bool b)=>b==c
 |_=>false
def cu {o:Option D}{b:Bool}(h:fF b o=true):o=some (.bool b):=by unfold fF at h;split at h<;>simp_all
def qV (x:Int×av×av):Option D->Bool
 |some (.tup [.int .i64 a,.str b,.str c])=>decide (a=x.1)&&(b==x.2.1&&c==x.2.2)
 |_=>false
def jG {o:Option D}{x:Int×av×av}(h:qV x o=true):o=some (.tup [.int .i64 x.1,.str x.2.1,.str x.2.2]):=by unfold qV at h;split at h<;>simp_all
def verO:D->Option bX
 | .agg [.int .i64 a,.int .i64 b,.int .i64 c,.str p,.str q]=>some ⟨a,b,c,p,q⟩
 |_=>none
def adW {d:D}{v:bX}(h:verO d=some v):d=v.D:=by
 unfold verO at h;split at h
 .cases h;rfl
 .cases h
def cutO:D->Option Cut
 | .agg [.int .i64 e,.int .i64 a,.int .i64 b,.int .i64 c,.str p,.str q,.bool z]=>some ⟨e,⟨a,b,c,p,q⟩,z⟩
 |_=>none
def QB {d:D}{v:Cut}(h:cutO d=some v):d=v.D:=by
 unfold cutO at h;split at h
 .cases h;rfl
 .cases h
def FN:D->Option Span
 | .agg [.int .i64 e,.int .i64 a,.int .i64 b,.int .i64 c,.str p,.str q,.bool z,.int .i64 e',.int .i64 a',.int .i64 b',.int .i64 c',.str p',.str q',.bool z']=>some ⟨⟨e,⟨a,b,c,p,q⟩,z⟩,⟨e',⟨a',b',c',p',q'⟩,z'⟩⟩
 |_=>none
def xO {d:D}{v:Span}(h:FN d=some v):d=v.D:=by
 unfold FN at h;split at h
 .cases h;rfl
 .cases h
def Cl {α:Type}(f:D->Option α):List D->Option (List α)
 |[]=>some []
 |d::r=>match f d with
  |some a=>match Cl f r with
   |some l=>some (a::l)
   |none=>none
  |none=>none
def rS {α:Type}{f:D->Option α}{q:α->D}(hq:∀{d:D}{a:α},f d=some a->d=q a):∀{l:List D}{r:List α},Cl f l=some r->l=r.map q
 |[],r,h=>by cases h;rfl
 |d::l,r,h=>by
  unfold Cl at h;split at h
  .rename_i a ha;split at h
   .rename_i t ht;cases h;rw[hq ha,rS hq ht];rfl
   .cases h
  .cases h
def We:D->Option b6
 | .agg [.str n,.sl 1 l]=>match PA l with
  |some l=>some ⟨n,l⟩
  |none=>none
 |_=>none
def Wg {d:D}{v:b6}(h:We d=some v):d=v.D:=by
 unfold We at h;split at h
 .split at h
  .rename_i l hl;cases h;rw[Bp hl];rfl
  .cases h
 .cases h
def smV (v:bX):Bool:=ug v.pre&&ug v.build
def HY {v:bX}(h:smV v=true):v.sm:=by simpa[smV,ug,bX.sm]using h
def smS (s:Span):Bool:=smV s.f.v&&smV s.t.v
def Zn {s:Span}(h:smS s=true):s.sm:=by
 rw[smS,aD]at h;exact⟨HY h.1,HY h.2⟩
def Pw {l:List Span}(h:l.all smS=true):ze l:=fun s hs=>Zn (List.all_eq_true.1 h s hs)
def QS (d:D):Option cr:=match d with
 | .agg [.sl 14 a,.sl 14 b]=>match Cl FN a with
  |some a=>match Cl FN b with
   |some b=>some ⟨a,b⟩
   |none=>none
  |none=>none
 |_=>none
def K3 {d:D}{v:cr}(h:QS d=some v):d=v.D:=by
 unfold QS at h;split at h
 .split at h
  .rename_i a ha;split at h
   .rename_i b hb;cases h;rw[rS xO ha,rS xO hb];rfl
   .cases h
  .cases h
 .cases h
def ex1 (f:Nat)(d:D):Option D:=bif Nat.beq f 144 then(match d with
  | .agg [.str a,.str b,.str c]=>some (.bool (nK ⟨a,b,c⟩))
  |_=>none)else bif Nat.beq f 600 then(match verO d with
  |some v=>some (.bool (vr v))
  |none=>none)else bif Nat.beq f 1019 then(match FN d with
  |some s=>dP (smS s) (some (.bool (pO s)))
  |none=>none)else bif Nat.beq f 770 then(match QS d with
  |some s=>dP (s.rel.all smS&&s.pr.all smS) (some (.bool (vH s)))
  |none=>none)else bif Nat.beq f 916 then(match d with
  | .sl 14 l=>match Cl FN l with
   |some l=>dP (l.all smS) (some (.bool (sr l)))
   |none=>none
  |_=>none)else none
def exN:EP:=fun f ds=>match ds with
 |[]=>dP (Nat.beq f 375) (some (cr.D Rk))
 |[d]=>ex1 f d
 |[.sl 2 l,.str s]=>match Cl We l with
  |some l=>dP (Nat.beq f 816) (some (.bool (isF l s)))
  |none=>none
 |[a,b]=>match cutO a with
  |some a=>match cutO b with
   |some b=>dP (Nat.beq f 1020&&(smV a.v&&smV b.v)) (some (.int .i64 (kS a b)))
   |none=>none
  |none=>none
 |_=>none
def ahU {Y:Ctx}(h144:US Y)(h600:C600 Y)(h1019:Ki Y)(h770:UZ Y)(h916:U1 Y){f:Nat}{d e:D}(h:ex1 f d=some e):Y.pre f [d]/\Y.val f [d]=e:=by
 unfold ex1 at h;simp only[Bool.cond_eq_ite,Nat.beq_eq]at h;split at h
 .rename_i hf;subst hf;split at h
  .cases h;exact h144 ⟨_,_,_⟩
  .cases h
 split at h
 .rename_i hf;subst hf;split at h
  .rename_i v hv;cases h;rw[adW hv];exact h600 v
  .cases h
 split at h
 .rename_i hf;subst hf;split at h
  .rename_i s hs;obtain⟨h1,h2⟩:=cw h;cases h2;rw[xO hs];exact h1019 s (Zn h1)
  .cases h
 split at h
 .rename_i hf;subst hf;split at h
  .rename_i s hs;obtain⟨h1,h2⟩:=cw h;rw[aD]at h1;cases h2;rw[K3 hs];exact h770 s ⟨Pw h1.1,Pw h1.2⟩
  .cases h
 split at h
 .rename_i hf;subst hf;split at h
  .split at h
   .rename_i l hl;obtain⟨h1,h2⟩:=cw h;cases h2;rw[rS xO hl];exact h916 l (Pw h1)
   .cases h
  .cases h
 .cases h
def ahV {Y:Ctx}(h144:US Y)(h375:C375 Y)(h600:C600 Y)(h770:UZ Y)(h816:C816 Y)(h916:U1 Y)(h1019:Ki Y)(h1020:Qc Y):Rm Y exN:=by
 intro f ds d h;unfold exN at h;split at h
 .obtain⟨h1,h2⟩:=cw h;cases h2;obtain rfl:=Nat.eq_of_beq_eq_true h1;exact h375
 .exact ahU h144 h600 h1019 h770 h916 h
 .split at h
  .rename_i l hl;obtain⟨h1,h2⟩:=cw h;cases h2;obtain rfl:=Nat.eq_of_beq_eq_true h1;rw[rS Wg hl];exact h816 _ _
  .cases h
 .split at h
  .rename_i a ha;split at h
   .rename_i b hb;obtain⟨h1,h2⟩:=cw h;simp only[aD]at h1;cases h2;obtain⟨h1,h3,h4⟩:=h1;obtain rfl:=Nat.eq_of_beq_eq_true h1;rw[QB ha,QB hb];exact h1020 _ _ ⟨HY h3,HY h4⟩
   .cases h
  .cases h
 .cases h
def eE:EP:=fun f ds=>match exO f ds with
 |some d=>some d
 |none=>exN f ds
def ahX {Y:Ctx}(h1:Rm Y exO)(h2:Rm Y exN):Rm Y eE:=by
 intro f ds d h;unfold eE at h;split at h
 .rename_i e he;cases h;exact h1 f ds d he
 .exact h2 f ds d h
def DM (v:cr):Option D->Bool
 |some d=>match QS d with
  |some x=>decide (x=v)
  |none=>false
 |none=>false
def fV {o:Option D}{v:cr}(h:DM v o=true):o=some v.D:=by
 unfold DM at h;split at h
 .split at h
  .rename_i x hx;rw[K3 hx,of_decide_eq_true h]
  .cases h
 .cases h
def vsZ (v:cr):Option D->Bool
 |some (.tup [d,.int .i64 0])=>DM v (some d)
 |_=>false
def sx {o:Option D}{v:cr}(h:vsZ v o=true):o=some (.tup [v.D,.int .i64 0]):=by
 unfold vsZ at h;split at h
 .rw[aV (fV h)]
 .cases h
abbrev ca (f:Nat)(ds:List D):Option D:=(kY eK eE 60).p f ds
end Go.Abs
end
namespace Go.Abs
section
section
variable {Y:Ctx} {draw:Bool} {r:List GI} {env rs:List aX} {nx:Nat} {m:List (Nat×bd)} {K:List aX->St->Prop} {g:Option (Nat×Bool)} {f:Bool}
def r_mn {x y:Src}{fx fy:Bool}{k k2:IntKind}{a b:Int}(v:Int)(h:ay Y draw r env (⟨f,.int k v⟩::rs) nx m K)(hg:GF rs g f:=by first|exact rfl|exact⟨_,_,rfl,rfl⟩)(hx:bO env rs x=⟨fx,.int k a⟩:=by exact rfl)(hy:bO env rs y=⟨fy,.int k2 b⟩:=by exact rfl)(kx:f=true->fx=true:=by first|exact fun _=>rfl|exact fun h=>h|(intro h;simp_all))(ky:f=true->fy=true:=by first|exact fun _=>rfl|exact fun h=>h|(intro h;simp_all))(hv:f=true->(if b<a then b else a)=v):ay Y draw (⟨.mn false x y,g⟩::r) env rs nx m K:=
 br rfl hg _ (fun hf=>by simp[ax.ey,hx,hy,kx hf,ky hf]) (fun hf=>by simp only[ax.val,hx,hy,iw,aZ];rw[hv hf]) (fun _=>h)
end
end
def IK (T:List D->D->Prop):Prop:=∀(n:Int),(0<=n/\n<=40)->T [.int .i64 n] (.int .i64 (2^n.toNat))
def C381 (Y:Ctx):Prop:=IK (aG Y 381)
def Ip (T:List D->D->Prop):Prop:=∀(w:bT) (u:Int),(w.sm)->T [bT.D w,.int .i64 u] (.int .i64 (nN w.us u))
def C158 (Y:Ctx):Prop:=Ip (aG Y 158)
def IP (T:List D->D->Prop):Prop:=∀(w:bT) (x:Want),(w.sm/\x.sm)->T [bT.D w,Want.D x] (.int .i64 (ui w.us x))
def C415 (Y:Ctx):Prop:=IP (aG Y 415)
end Go.Abs
section
namespace Go.Abs
def Ru {us:List cL}{r i n:Nat}(h:0<r)(hn:n<1000000):LP us r i n=LP us (r-1) (i+1) (if us[i]!.feat=[]then n*(us[i]!.cands.length+1)else n):=by
 obtain⟨q,rfl⟩:∃q,r=q+1:=⟨r-1,ae⟩
 rw[LP,ak hn];rfl
def X7 {us:List cL}{r i n:Nat}(h:r=0\/¬n<1000000):LP us r i n=n:=by
 cases r with
 |zero=>rfl
 |succ r=>rw[LP,ah ae]
def adh {us:List cL}{i:Nat}(h:us[i]!.cands.length<=16)(hn:vy us i<1000000):vy us (i+1)<=20000000:=by
 rw[vy];split
 .exact eX (Nat.mul_le_mul (show vy us i<=1000000 by omega) (show us[i]!.cands.length+1<=17 by omega)) aU
 .omega
def ajs {us:List cL}{i:Nat}(h:us[i]!.feat=[]):((vy us i:Nat):Int)*(((us[i]!.cands.length:Nat):Int)+1)=((vy us (i+1):Nat):Int):=by rw[vy,ak h];push_cast;rfl
def ajr {us:List cL}{i:Nat}(h:¬us[i]!.feat=[]):vy us i=vy us (i+1):=by rw[vy,ah h]
def pH (us:List cL)(l:List Int)(u:Nat):List (List Int):=(List.range u).map (EC us l)
def TL (us:List cL)(l:List Int)(u:Nat):(pH us l u).length=u:=by simp[pH]
def ada (us:List cL)(l:List Int)(u:Nat):pH us l u++[EC us l u]=pH us l (u+1):=by simp[pH,List.range_succ]
def ord_z {us:List cL}{l:List Int}(h:l.length=0):iJ us l=[]:=ak h
def ord_e {us:List cL}{l:List Int}(h:¬l.length=0):iJ us l=pH us l us.length:=ah h
def WA {o:List Int}{p:Int}{j:Nat}(h:j<o.length):(ot (fun k=>decide (o[k]! =p)) 0 j ||decide (o[j]! =p))=ot (fun k=>decide (o[k]! =p)) 0 (j+1):=by
 rw[Bool.eq_iff_iff,dC,vZ,vZ];constructor
 .rintro(⟨i,h1,h2,h3⟩|h1)
  .exact⟨i,h1,ae,h3⟩
  .exact⟨j,ae,ae,h1⟩
 .rintro⟨i,h1,h2,h3⟩;rcases dQ i j with h4|h4
  .exact .inl ⟨i,h1,h4,h3⟩
  .obtain rfl:i=j:=ae;exact .inr h3
def LH {n:Nat}{k:Int}:∀i,(kg n k i).length<=i
 |0=>aO _
 |i+1=>by
  have:=LH (n:=n) (k:=k) i;rw[kg];split
  .omega
  .rw[cn,List.length_singleton];omega
def ajh {n i:Nat}{k:Int}(h:Tf (kg n k i) (ED n k i)=false):kg n k i++[ED n k i]=kg n k (i+1):=by rw[kg,ah iR]
def ajg {n i:Nat}{k:Int}(h:Tf (kg n k i) (ED n k i)=true):kg n k i=kg n k (i+1):=by rw[kg,ak h]
end Go.Abs
namespace Go.Abs
def Y4 {a b:Int}(ha:0<=a):a.tmod b=a%b:=Int.tmod_eq_emod_of_nonneg ha
def ajk {i:Nat}{k:Int}(hi:i<=16):0<=(i:Int)*(1+k%3)/\(i:Int)*(1+k%3)<=48:=by
 have h1:=Int.emod_nonneg k (show(3:Int)≠0 by decide);have h2:=Int.emod_lt_of_pos k (show(0:Int)<3 by decide);exact⟨Int.mul_nonneg ae ae,Int.le_trans (Int.mul_le_mul (show(i:Int)<=16 by omega) (show 1+k%3<=3 by omega) ae ae) aU⟩
end Go.Abs
namespace Go.Abs
def acf (l k:Nat)(es:List Abs.D)(o:List (List Int)):ow l k es (o.map jF)=o.map jF:=jU l k es _ (b7 (fun _=>rfl) _)
def QO (l k:Nat)(es:List Abs.D)(w:bT):iW l k es (bT.D w)=bT.D w:=rfl
end Go.Abs
end
section
namespace Go.Abs
def MV (o:List Int)(n:Nat):∀i,(cC o n i).length<=o.length+i
 |0=>aO _
 |i+1=>by
  have:=MV o n i;rw[cC];split
  .omega
  .rw[cn,List.length_singleton];omega
def akk {o:List Int}{n t:Nat}(h:Tf (cC o n t) ((n:Int) -1-(t:Int))=false):cC o n t++[((n:Nat):Int) -1-((t:Nat):Int)]=cC o n (t+1):=by rw[cC,ah iR]
def akj {o:List Int}{n t:Nat}(h:Tf (cC o n t) ((n:Int) -1-(t:Int))=true):cC o n t=cC o n (t+1):=by rw[cC,ak h]
def ajj {od:List (List Int)}{u:Int}(h:u<(od.length:Int)):cM od u=od[u.toNat]! :=ak h
def aji {od:List (List Int)}{u:Int}(h:¬u<(od.length:Int)):cM od u=[]:=ah h
end Go.Abs
namespace Go.Abs
def vx {m:j3}{od:List (List Int)}{c:List Int}{b:Bool}(hm:vV m)(hO:yc m od)(hc:Ke m c)(h:nlB (OA (mq m od c)) b):(b=true->mq m od c=none)/\(b=false->∃d,mq m od c=some d):=by
 cases e:mq m od c with
 |none=>rw[e]at h;exact⟨fun _=>rfl,fun hb=>by rw[hb]at h;cases h⟩
 |some d=>
  have h2:=(ml hm hO _ _ hc e).2.1;have h3:=hm.1.1;refine⟨fun hb=>?_,fun _=>⟨d,rfl⟩⟩;rw[e]at h;have h4:d.map (D.int .i64)=[]:=h hb;have h5:=aw List.length h4;simp only[bg,b9]at h5;omega
end Go.Abs
end
namespace Go.Abs
def Xo {w:bT}{c:List Int}{x:Want}(hs:∀x∈w.us,x.cands.length<=16)(hc:ChP w.us c)(h0:0<=x.u)(h1:x.u<(w.us.length:Int)):SH w.us (zz c) x↔kH w c x=true:=by
 obtain⟨u,hu⟩:∃u:Nat,x.u=((u:Nat):Int):=⟨x.u.toNat,ae⟩
 have hul:u<w.us.length:=ae;have hcu:=hc.2 u hul;unfold SH kH zz;rw[VD hu hul hs,hu,Int.toNat_natCast];simp only[aD,aW];constructor
 .rintro⟨⟨h2,h3⟩,h4⟩;have e:(c[u]! +1).toNat-1=c[u]!.toNat:=ae;rw[e]at h4;exact⟨ae,h4⟩
 .rintro⟨h2,h3⟩;have e:(c[u]! +1).toNat-1=c[u]!.toNat:=ae;rw[e];exact⟨⟨ae,ae⟩,h3⟩
def Vd {w:bT}(hw:eu w=true):InW w:=by
 intro u hu c hc;obtain⟨i,hi,rfl⟩:=fQ hu;obtain⟨k,hk,rfl⟩:=fQ hc;exact DP hw hi hk
def BV {w:bT}{c:List Int}(hw:eu w=true)(hs:∀x∈w.us,x.cands.length<=16)(hc:ChP w.us c)(h:BU (dp w.us) c=true):(eB w c=true/\jN w c=[])/\0<=c[0]! :=by
 have hS:=akc hw hs hc h;have hI:=Vd hw;have hm:eB w c=true:=by
  unfold eB uf;rw[hw,ew,aD,aW,bw];refine⟨hc.1,fun j _ hj=>?_⟩;have:=hc.2 j (by rw[<-hc.1];exact hj);unfold Aw;rw[aD,aW,aW];exact this
 refine⟨⟨hm,(Bs hm).2 fun u hu h0=>?_⟩, ?_⟩
 .have hul:u<w.us.length:=by rw[<-hc.1];exact hu
  have hcu:=hc.2 u hul;have hk:zz c u≠0:=by unfold zz;omega
  have e:zz c u-1=c[u]!.toNat:=by unfold zz;omega
  obtain⟨_,_,_,g1,g2,_⟩:=hS;have g1:=g1 u hul hk;have g2:=g2 u hul hk;rw[e]at g1 g2;have hmem:aT w c u∈w.us[u]!.cands:=aq ae;obtain⟨hI1,hI2⟩:=hI _ (aq hul) _ hmem;refine⟨fun k hk=>?_,fun k hk=>?_⟩
  .obtain⟨x,hx,hmx⟩:=g1 _ (aq hk);have:=hI1 _ (aq hk) x hx;exact List.any_eq_true.2 ⟨x,hx,(Xo hs hc this.1 this.2).1 hmx⟩
  .have hx:=aq hk;have:=hI2 _ hx;cases hq:kH w c (aT w c u).bars[k]! with
   |false=>rfl
   |true=>exact absurd ((Xo hs hc this.1 this.2).2 hq) (g2 _ hx)
 .unfold BU at h;rw[aD,aW]at h;exact h.1
section
section
variable {m:gO} {shop:List bJ} {e:Env} {os:List Int}
abbrev ef (m:gO)(shop:List bJ)(e:Env):bT×Int:=gG [m] shop e []
abbrev Ie (m:gO)(shop:List bJ)(e:Env):cx:=xU [m] shop e []
def Dr (h:¬(ef m shop e).2=0\/5000<CG (ef m shop e).1.us):dk m shop e os=((ef m shop e).1,[],false):=ak h
def Ds (h:(ef m shop e).2=0/\¬5000<CG (ef m shop e).1.us)(hn:kv (ef m shop e).1.us (iJ (ef m shop e).1.us os)=none):dk m shop e os=((ef m shop e).1,[],false):=by
 unfold dk;rw[ah (by rintro(h1|h1);exact h1 h.1;exact h.2 h1),hn]
def Dt (h:(ef m shop e).2=0/\¬5000<CG (ef m shop e).1.us){c:List Int}(hn:kv (ef m shop e).1.us (iJ (ef m shop e).1.us os)=some c):dk m shop e os=((ef m shop e).1,rh (ef m shop e).1 c,true):=by
 unfold dk;rw[ah (by rintro(h1|h1);exact h1 h.1;exact h.2 h1),hn]
def pj (hy:qa (Ie m shop e))(h:(ef m shop e).2=0):Kh (ef m shop e).1/\eu (ef m shop e).1=true:=by
 unfold ef gG at*
 split at h
 .cases h
 .split at h
  .cases h
  .split at h
   .cases h
   .rename_i h3;have h4:(ei (Ie m shop e)).2=true:=by simpa using h3
    rw[ah lQ,ah lQ,ah h3];obtain⟨_,_,_,_,h5⟩:=sA hy.p h4;exact⟨h5,DQ hy h4⟩
def S8 (hy:qa (Ie m shop e))(h:(ef m shop e).2=0)(os:List Int):((((ef m shop e).1.sm/\(ef m shop e).1.us.length<=1000)/\Few (ef m shop e).1.us)/\eu (ef m shop e).1=true)/\yc (dp (ef m shop e).1.us) (iJ (ef m shop e).1.us os):=by
 obtain⟨h1,h2⟩:=pj hy h;have:=h1.len;exact⟨⟨⟨⟨h1.sm,ae⟩,h1.few⟩,h2⟩,pI os⟩
def S7 (hy:qa (Ie m shop e))(h:(ef m shop e).2=0){c:List Int}(hn:kv (ef m shop e).1.us (iJ (ef m shop e).1.us os)=some c):c.length<=1000:=by
 obtain⟨h1,h2⟩:=pj hy h;have h3:=(ml h1.msk (pI os) _ _ (rY _) hn).2.1;have h4:=h1.msk.1;omega
def KP (hy:qa (Ie m shop e))(h:(ef m shop e).2=0){b:Bool}(hb:nlB (OA (kv (ef m shop e).1.us (iJ (ef m shop e).1.us os))) b):(b=true->kv (ef m shop e).1.us (iJ (ef m shop e).1.us os)=none)/\(b=false->∃d,kv (ef m shop e).1.us (iJ (ef m shop e).1.us os)=some d):=
 vx (pj hy h).1.msk (pI os) (rY _) hb
end
end
section
section
variable {shop:List bJ} {w:bT} {c:List Int} {e:Env} {u:Nat} {x:en}
def OfP (shop:List bJ)(w:bT)(c:List Int):Prop:=ja shop/\w.sm/\0<=c[0]!
def of_a (h:((eu w=false\/eJ shop=false)\/nK e=false)\/eB w c=false):EA shop e w c=(GZ,1):=ak h
def of_b (h:((eu w=true/\eJ shop=true)/\nK e=true)/\eB w c=true)(h2:eB w c=false\/¬(jN w c).length=0):EA shop e w c=(GZ,37):=by
 unfold EA;rw[ah fR,ak (h2.resolve_left (by simp[h.2]))]
def of_x (h:((eu w=true/\eJ shop=true)/\nK e=true)/\eB w c=true)(h2:eB w c=true/\(jN w c).length=0):EA shop e w c=if ¬(gv shop w c).2=0 then(GZ,(gv shop w c).2)else(⟨e,(gv shop w c).1⟩,0):=by
 unfold EA;rw[ah fR,ah (fun h3=>h3 h2.2)]
def of_c (h:((eu w=true/\eJ shop=true)/\nK e=true)/\eB w c=true)(h2:eB w c=true/\(jN w c).length=0)(h0:(dt shop w.us c u).2=0)(hs:iB w.us c u=false)(hu:u<w.us.length)(k:Int)(hk:¬k=0)(hl:(eQ shop w.us c u (fw w.us c u)).2=k):EA shop e w c=(GZ,k):=by
 have h3:=Tu h0 hs rfl (by rw[hl];exact hk);rw[hl]at h3;have h4:gv shop w c=([],k):=(Ff (i:=u+1) (by rw[h3];exact hk) ae).trans h3;rw[of_x h h2,h4,ak hk]
def of_d (h:((eu w=true/\eJ shop=true)/\nK e=true)/\eB w c=true)(h2:eB w c=true/\(jN w c).length=0)(h0:(gv shop w c).2=0):EA shop e w c=(⟨e,(gv shop w c).1⟩,0):=by
 rw[of_x h h2,ah (fun h=>h h0)]
def aiB (h:x.sh=-1):eQ shop w.us c u x=(⟨w.us[u]!.name,x.v,[],0,lT w.us c u⟩,0):=ak h
def aiC (h:¬x.sh=-1)(h2:x.sh<0\/(shop.length:Int)<=x.sh):(eQ shop w.us c u x).2=12:=by unfold eQ;rw[ah h,ak h2]
def aiD (h:¬x.sh=-1)(h2:¬x.sh<0/\¬(shop.length:Int)<=x.sh)(h3:(ov shop[x.sh.toNat]! w.us[u]!.name x.v).2=false):(eQ shop w.us c u x).2=9:=by
 unfold eQ ov at*
 rw[ah h,ah ae];split at h3
 .rename_i h4;rw[ak h4]
 .cases h3
def aiE (h:¬x.sh=-1)(h2:¬x.sh<0/\¬(shop.length:Int)<=x.sh)(h3:(ov shop[x.sh.toNat]! w.us[u]!.name x.v).2=true):eQ shop w.us c u x=(⟨w.us[u]!.name,x.v,shop[x.sh.toNat]!.name,(ov shop[x.sh.toNat]! w.us[u]!.name x.v).1.sum,lT w.us c u⟩,0):=by
 unfold eQ ov at*
 rw[ah h,ah ae];split at h3
 .cases h3
 .rename_i h4;rw[ah h4,ah h4]
end
def Q0 (shop:List bJ)(us:List cL)(c:List Int):dt shop us c 1=([],0):=by
 rw[dt];show(if((([],0):List eg×Int).2≠0)then _ else _)=_;rw[ah (fun h=>h rfl),ak (by unfold iB;simp)];rfl
def aiG (l k:Nat)(es:List Abs.D)(x:eg):iW l k es (eg.D x)=eg.D x:=rfl
def acg (l k:Nat)(es:List Abs.D)(o:List eg):ow l k es (o.map eg.D)=o.map eg.D:=jU l k es _ (b7 (fun _=>rfl) _)
end
section
def Ns (r:Rec):Prop:=r.v∈bN/\∀n∈r.needs,∀w∈n.any,∀f∈w.feats,f=fW
def GenS (l:List bJ):Prop:=∀s∈l,∀x∈s.es,Ns x.r
def abc (g:Gs)(own:av):∀w∈(gP g own).1,∀f∈w.feats,f=fW:=by
 unfold gP;split
 .intro w hw;simp only[bF,cP,or_false]at hw;rcases hw with rfl|rfl<;>intro f hf<;>cases hf
 .split
  .intro w hw f hf;rw[aC.1 hw]at hf;exact aC.1 hf
  .intro w hw f hf;rw[aC.1 hw]at hf;cases hf
def Xs (own:av)(g:Gs):∀i,∀n∈(nS own g i).1,∀w∈n.any,∀f∈w.feats,f=fW
 |0=>fun _ h=>by cases h
 |i+1=>fun n h=>by
  rcases List.mem_append.1 h with h|h
  .exact Xs own g i n h
  .rw[aC.1 h];exact abc _ _
def RI (g:Gs)(nm:av){v:bX}(hv:v∈bN)(most:Int):Ns (oV g nm v most).1:=⟨hv,Xs nm g.aR _⟩
section
variable {P:Rec->Prop}
def Ze {l:List bJ}{k:Nat}{p:bJ×Int}(h:∀s∈l,∀x∈s.es,P x.r)(hp:∀x∈p.1.es,P x.r):∀s∈qF l k p,∀x∈s.es,P x.r:=by
 unfold qF;split
 .intro s hs;rcases List.mem_or_eq_of_mem_set hs with h1|rfl
  .exact h s h1
  .exact hp
 .exact h
def akw {s:bJ}{nm:av}{v:bX}{on:Bool}(h:∀x∈s.es,P x.r):∀x∈(om s nm v on).1.es,P x.r:=by
 unfold om;split
 .intro x hx;cases hx
 .split
  .intro x hx;cases hx
  .rename_i h2;obtain⟨j,hj,hjl⟩:=(Bk (l:=s.es) (nm:=nm) (v:=v)).resolve_left ae;rw[hj,Int.toNat_natCast];intro x hx;rcases List.mem_or_eq_of_mem_set hx with h1|rfl
   .exact h x h1
   .exact h s.es[j]! (aq hjl)
def put_P {s:bJ}{r:Rec}(h:∀x∈s.es,P x.r)(hr:P r):∀x∈(kK s r).1.es,P x.r:=by
 unfold kK;split
 .intro x hx;cases hx
 .split
  .intro x hx;cases hx
  .split
   .intro x hx;cases hx
   .split
    .intro x hx;cases hx
    .intro x hx;rcases List.mem_append.1 hx with h1|h1
     .exact h x h1
     .rw[aC.1 h1];exact hr
def aez {l:List bJ}(h:∀s∈l,∀x∈s.es,P x.r)(k:Nat):∀x∈l[k]!.es,P x.r:=vj (P:=fun s:bJ=>∀x∈s.es,P x.r) (fun _ h=>bZ) h k
def pub_P {g:Gs}{l:List bJ}(h:∀s∈l,∀x∈s.es,P x.r)(hr:∀h nm v,v∈bN->nm∈cB->P (oV h nm v 2).1):∀s∈(lF g l).1,∀x∈s.es,P x.r:=by
 have r4:=g.aR.eI 4 ae;have r5:=g.aR.aR.eI 4 ae;by_cases h1:g.aR.aR.aR.val 6=0
 .rw[show lF g l=(qF l (kG g l) (UN g l),g.aR.aR.aR.aR.aR)from ak h1];exact Ze h (akw (aez h _))
 .rw[show lF g l=(qF l (kG g l) (UL g l),(rcG g).2)from ah h1];exact Ze h (put_P (aez h _) (hr _ _ _ (aq (by simp only[bN,bD,b9];omega)) (Cv ae)))
def pS_P {g:Gs}(hr:∀h nm v,v∈bN->nm∈cB->P (oV h nm v 2).1):∀i,∀s∈(pS g i).1,∀x∈s.es,P x.r
 |0=>fun s hs=>by
  simp only[pS,MM,bF,cP,or_false]at hs;rcases hs with rfl|rfl<;>intro x hx<;>cases hx
 |i+1=>by rw[pS];exact pub_P (pS_P hr i) hr
end
def Zk (ks:List Int)(most:Int):GenS (kd ks most):=pS_P (fun h nm v hv _=>RI h nm hv 2) _
def Wy {l:List bJ}(h:GenS l):Vp l:=fun s hs x hx=>(h s hs x hx).1
def ZR (ks:List Int):(jx ks).r.v=bN[0]! :=by
 unfold jx;split
 .rfl
 .rfl
def ZQ (ks:List Int):Ns (jx ks).r:=by
 unfold jx;split
 .exact RI _ Gn aU 3
 .exact⟨aU,fun n hn=>by cases hn⟩
end
def Lm {y:cx}(h:qa y)(nm:av):∀x∈dE y nm,x.r.name=nm/\(x.sh=-1\/∃j i:Nat,x.sh=(j:Int)/\j<y.shop.length/\i<y.shop[j]!.es.length/\x.r=y.shop[j]!.es[i]!.r/\gQ y.shop[j]! =true):=by
 unfold dE;split
 .rename_i h0;intro x hx;rw[aC.1 hx];refine⟨?_,.inl rfl⟩;rcases eO (f:=isM nm) (l:=y.l) (k:=0)with⟨h1,_⟩|⟨j,h1,h2,h3,_⟩
  .have:lE y.l nm=-1:=h1;omega
  .have e:lE y.l nm=((0+j:Nat):Int):=h1;rw[e,Int.toNat_natCast,cD];simpa[isM]using h3
 .split
  .intro x hx;cases hx
  .rename_i h1;have h1:(cE y.shop y.pins nm).2.2=0:=Classical.not_not.1 h1;have h2:(fS y.shop y.pins nm).2=0:=by
    unfold cE at h1;split at h1
    .rename_i h3;exact absurd h1 h3
    .rename_i h3;exact Classical.not_not.1 h3
   obtain⟨hB,j,hj,hjl⟩:=pz h2;have e1:cE y.shop y.pins nm=((j:Int),j7 y.shop[j]! nm,0):=by
    unfold cE;rw[ah (fun h=>h h2),hj,Int.toNat_natCast]
   rw[e1];simp only[Int.toNat_natCast];have hs:=HW hB hjl;have e2:j7 y.shop[j]! nm=eA y.shop[j]!.es nm y.shop[j]!.es.length:=by unfold j7;rw[hs,ah aF]
   intro x hx;obtain⟨⟨i,hi,e⟩,hsh⟩:=(pE (y:=y) (nm:=nm) (a:=j) _).2 x hx;have hr:=(rR y.shop[j]! nm).2 i hi;have hn:=(vu hs (h.v _ (aq hjl)) nm _ (aO _)).2 i (by rw[<-e2];exact hi);exact⟨by rw[e,hn],.inr ⟨j,i.toNat,hsh,hjl,ae,e,hs⟩⟩
def FeK (k:Key):Prop:=k.f=[]\/k.f=kW\/k.f=fW
def SJ (k:Key):Prop:=dd k.n=true/\FeK k
structure Gm (y:cx):Prop where
 p:qa y
 g:GenS y.shop
 gm:∀m∈y.l,Ns m.r
def Xg {y:cx}(h:Gm y)(nm:av):∀x∈dE y nm,Ns x.r:=by
 intro x hx;rcases(Lm h.p nm x hx).2 with hs|⟨j,i,_,hj,hi,e,_⟩
 ·
  unfold dE at hx;split at hx
  .rename_i h0;rw[aC.1 hx];obtain⟨j,hj,hjl⟩:=(qy y.l nm).resolve_left ae;rw[hj,Int.toNat_natCast];exact h.gm _ (aq hjl)
  .split at hx
   .cases hx
   .have h5:=(pE (y:=y) (nm:=nm) (a:=(cE y.shop y.pins nm).1.toNat) _).2 x hx;rw[h5.2]at hs;exact absurd hs ae
 .rw[e];exact h.g _ (aq hj) _ (aq hi)
def Ap (P:Key->Prop)(l:List fJ):Prop:=∀row∈l,∀a∈row,P a.k
def MB {P:Key->Prop}{a b:List fJ}(h1:Ap P a)(h2:Ap P b):Ap P (a++b):=fun r hr=>(List.mem_append.1 hr).elim (h1 r) (h2 r)
def Dh {P:Key->Prop}:Ap P []:=fun r hr=>by cases hr
def ta {P:Key->Prop}{α:Type}{f:α->List fJ}{l:List α}(h:∀x∈l,Ap P (f x)):Ap P (l.flatMap f):=fun r hr=>by
 obtain⟨x,hx,hr⟩:=List.mem_flatMap.1 hr;exact h x hx r hr
def MC {P:Key->Prop}{k:Key}{s:cr}(h:P k):Ap P [[⟨k,s⟩]]:=fun r hr b hb=>by
 rw[aC.1 hr]at hb;rw[aC.1 hb];exact h
def M0 {w:cZ}(hn:dd w.name=true)(hf:∀f∈w.feats,f=fW):∀k∈eV w,SJ k:=by
 intro k hk;refine⟨by rw[DH w k hk];exact hn, ?_⟩;unfold eV at hk;rcases List.mem_append.1 hk with h|h
 .split at h
  .split at h
   .rw[aC.1 h];exact .inl rfl
   .cases h
  .rw[aC.1 h];exact .inr (.inl rfl)
 .obtain⟨f,hf2,rfl⟩:=bW.1 h;exact .inr (.inr (hf f hf2))
def RN {n:bj}(hN:vW n)(hn:∀w∈n.any,dd w.name=true)(hf:∀w∈n.any,∀f∈w.feats,f=fW):Ap SJ (iA n):=by
 unfold iA;split
 .intro r hr a ha;obtain⟨k,hk,rfl⟩:=bW.1 hr;rw[aC.1 ha];have h0:=aq hN.1.1;exact M0 (hn _ h0) (hf _ h0) k hk
 .intro r hr a ha;rw[aC.1 hr]at ha;obtain⟨w,hw,rfl⟩:=bW.1 ha;exact M0 (hn w hw) (hf w hw) _ (aq (oc w).1)
def aiu {s:av}(h:qW s):(bI s).1=2\/((bI s).1=3/\(bI s).2.2=fW):=by
 have:∀s∈To,(bI s).1=2\/((bI s).1=3/\(bI s).2.2=fW):=by decide+kernel
 exact this s h
def XT {r:Rec}(h:Bz r)(hg:Ns r)(e:Env)(o:av):Ap SJ (qx r.needs e o):=ta fun n hn=>by
 unfold AI;split
 .exact RN ((gh h).2 n hn) (pL h n hn) (hg.2 n hn)
 .exact Dh
def Xy {r:Rec}(h:Bz r)(hg:Ns r)(e:Env)(ft:av):Ap SJ (cH r e ft):=by
 unfold cH;split
 .exact XT h hg e []
 .refine MB (MC ⟨h.1.1.1,.inl rfl⟩) (ta fun s hs=>?_);have hi:=aiu ((wX h ft).2 s hs);unfold lZ;rw[ah (by rcases hi with h|h<;>omega)];split
  .exact XT h hg e _
  .rename_i h2;obtain⟨_,h3⟩:=hi.resolve_left h2;refine ta fun n hn=>?_
   unfold qX;split
   .rename_i hc;have hN:=(gh h).2 n hn;refine MB ?_ (MC ⟨?_,.inr (.inr h3)⟩)
    .split
     .exact Dh
     .exact RN hN (pL h n hn) (hg.2 n hn)
    .show dd (bI s).2.1=true;rw[<-hc.1.2];exact pL h n hn _ (aq hN.1.1)
   .exact Dh
def adB {y:cx}(hy:Gm y)(k:Key):Ap SJ (cT y k):=by
 unfold cT;split
 .obtain⟨⟨⟨m,hm,hM⟩,_⟩,_⟩:=hy.p.p;intro r hr a ha;rw[hm]at hr;rw[aC.1 hr]at ha;rw[aC.1 ha];exact⟨(Ba hM).1.1.1,.inr (.inl rfl)⟩
 .exact ta fun x hx=>Xy ((wY hy.p.p k).2 x hx).1 (Xg hy k.n x (List.mem_filter.1 hx).1) y.e k.f
def HA {y:cx}(hy:Gm y):∀(n:Nat){s:oL}{all:List Key},(∀k∈s.all,k=fD\/SJ k)->AL y n s=some all->∀k∈all,k=fD\/SJ k
 |0,s,all,_,h=>by cases h
 |n+1,s,all,hI,h=>by
  rw[AL]at h;split at h
  .obtain rfl:=aV h;exact hI
  .split at h
   .cases h
   .refine HA hy n (fun k hk=>?_) h;have hm:∀(row:fJ) (s:oL),(∀a∈row,SJ a.k)->(∀k∈s.all,k=fD\/SJ k)->∀k∈(row.foldl mg s).all,k=fD\/SJ k:=by
     intro row;induction row with
     |nil=>intro s _ h;exact h
     |cons b r ih=>
      intro s hn h;refine ih _ (fun a ha=>hn a (.tail _ ha)) fun k hk=>?_
      rcases((Hy s b).1 k).1 hk with h1|rfl
      .exact h k h1
      .exact .inr (hn b (.head _))
    have hm2:∀(l:List fJ) (s:oL),Ap SJ l->(∀k∈s.all,k=fD\/SJ k)->∀k∈(OO s l).all,k=fD\/SJ k:=by
     intro l;induction l with
     |nil=>intro s _ h;exact h
     |cons b r ih=>
      intro s hn h;exact ih _ (fun row hr=>hn row (.tail _ hr)) (hm b s (hn b (.head _)) h)
    exact hm2 (cT y s.todo[0]!) ⟨s.all,s.todo.drop 1⟩ (adB hy _) hI k hk
section
def By (c:List Int)(is:List Bool):Prop:=is.length=c.length/\∀j:Nat,is[j]! =true->0<=c[j]!
def RR (is:List Bool)(i j:Nat)(b:Bool)(h:(is.set i b)[j]! =true):(i=j/\b=true)\/is[j]! =true:=by
 by_cases e:i=j
 .subst e;rcases dQ i is.length with h1|h1
  .rw[List.getElem!_eq_getElem?_getD,List.getElem?_set_self h1]at h;exact .inl ⟨rfl,qO⟩
  .rw[List.set_eq_of_length_le h1]at h;exact .inr h
 .rw[List.getElem!_eq_getElem?_getD,List.getElem?_set_ne e,<-List.getElem!_eq_getElem?_getD]at h;exact .inr h
section
variable {w:bT} {c:List Int} {is:List Bool}
def Xw (w:bT)(c:List Int)(is:List Bool)(x:Want):List Bool:=is.set x.u.toNat (is[x.u.toNat]! ||kH w c x)
def acY (x:Want)(h:By c is):By c (Xw w c is x):=by
 refine⟨by unfold Xw;rw[List.length_set];exact h.1,fun j hj=>?_⟩;rcases RR _ _ _ _ hj with⟨rfl,h1⟩|h1
 .rcases Bool.or_eq_true_iff.1 h1 with h2|h2
  .exact h.2 _ h2
  .unfold kH at h2;simp only[aD,aW]at h2;exact h2.1
 .exact h.2 _ h1
def Hc:∀(l:List Want){is:List Bool},By c is->By c (vw w c is l)
 |[],_,h=>h
 |x::r,_,h=>Hc r (acY x h)
def Ha:∀(l:List nH){is:List Bool},By c is->By c (wT w c is l)
 |[],_,h=>h
 |x::r,_,h=>Ha r (Hc x h)
def Bb:∀(n:Nat){is:List Bool},By c is->By c (iS w c n is)
 |0,_,h=>h
 |n+1,_,h=>by
  rw[iS];unfold Hb;split
  .exact Ha _ (Bb n h)
  .exact Bb n h
def Rb:∀(n:Nat){is:List Bool},By c is->By c (jV w c n is)
 |0,_,h=>h
 |n+1,_,h=>Bb _ (Rb n h)
def acW:By c (mG c):=by
 refine⟨by simp[mG],fun j hj=>?_⟩;rcases RR _ _ _ _ hj with⟨rfl,h1⟩|h1
 .simpa using h1
 .exfalso;rcases dQ j c.length with h2|h2<;>simp[List.getElem!_eq_getElem?_getD,h2]at h1
def aiT {l:List Want}{q:Nat}(h:q<l.length):vw w c is (l.take (q+1))=Xw w c (vw w c is (l.take q)) l[q]! :=by
 rw[List.take_add_one,List.getElem?_eq_getElem h,getElem!_pos l q h];simp only[vw,Option.toList_some,List.foldl_append,List.foldl_cons,List.foldl_nil,Xw]
def aiS {l:List nH}{k:Nat}(h:k<l.length):wT w c is (l.take (k+1))=vw w c (wT w c is (l.take k)) l[k]! :=by
 rw[List.take_add_one,List.getElem?_eq_getElem h,getElem!_pos l k h];simp only[wT,Option.toList_some,List.foldl_append,List.foldl_cons,List.foldl_nil]
def aiR {j:Nat}(h:(iS w c j is)[j]! =true):iS w c (j+1) is=wT w c (iS w c j is) (aT w c j).needs:=by rw[iS];unfold Hb;rw[ak h]
def aiQ {j:Nat}(h:¬(iS w c j is)[j]! =true):iS w c (j+1) is=iS w c j is:=by rw[iS];unfold Hb;rw[ah h]
def aeM {i:Nat}(h:i<is.length)(b:Bool):(is.map D.bool).set i (su ((is.map D.bool).getD i .any) 1 1 0 (.bool b))=(is.set i b).map D.bool:=by
 rw[List.getD_eq_getElem?_getD,List.getElem?_map,List.getElem?_eq_getElem h,List.map_set];rfl
def acX (h:0<c.length):(List.replicate c.length (D.bool false)).set 0 (su ((List.replicate c.length (D.bool false)).getD 0 .any) 1 1 0 (.bool (decide (0<=c[0]!))))=(mG c).map D.bool:=by
 have:=aeM (is:=List.replicate c.length false) (i:=0) qO (decide (0<=c[0]!));rw[List.map_replicate]at this;exact this
def aiU (h:eB w c=false):ff w c=[]:=ak h
def Rd (h:eB w c=true):ff w c=jV w c c.length (mG c):=ah fR
end
def Ct {w:bT}{c:List Int}(h:eB w c=true):c.length=w.us.length/\(1<=c.length/\c.length<=48)/\∀i,i<c.length->-1<=c[i]! /\c[i]! <(w.us[i]!.cands.length:Int):=by
 have h2:=h;simp only[eB,aD]at h2;obtain⟨h3,h4⟩:=m8 h2.2;exact⟨h3,Om h,h4⟩
end
end Go.Abs
section
namespace Go.Abs
def ahP (n:Int):kX (ll n):=by
 have h:=kI n 3 aU;unfold kX ll;obtain⟨i,hi⟩:∃i:Nat,(jY n 3).toNat=i:=⟨_,rfl⟩
 rw[hi];have:i=0\/i=1\/i=2:=ae;rcases this with rfl|rfl|rfl<;>decide
def ad0 (ks ss:List Int)(most n:Int):Gm (Ie (jx ks) (kd ss most) (ll n)):=by
 have hg:=Zk ss most;have hy:=ZP ks;refine⟨⟨⟨⟨hy,MN _ _⟩,aF,(fun k hk=>by cases hk), ?_⟩,Wy hg,fun m hm=>?_⟩,hg,fun m hm=>?_⟩
 .have:=(tj hy (i:=0) aF).2.2.1;have h2:(gw [jx ks]).length<=1:=this;show(gw [jx ks]).length<=1000;omega
 .rw[aC.1 hm,ZR];decide
 .rw[aC.1 hm];exact ZQ ks
def NmS (l:List bJ):Prop:=∀s∈l,s.name.length<=16
def Zg {l:List bJ}{k:Nat}{s:bJ}(h:NmS l)(hs:s.name.length<=16):NmS (l.set k s):=fun x hx=>by
 rcases List.mem_or_eq_of_mem_set hx with h1|rfl
 .exact h x h1
 .exact hs
def NY {l:List bJ}(h:NmS l)(k:Nat):l[k]!.name.length<=16:=vj (P:=fun s:bJ=>s.name.length<=16) aU h k
def ajy {g:Gs}{l:List bJ}(h:NmS l):NmS (lF g l).1:=by
 by_cases h1:g.aR.aR.aR.val 6=0
 .by_cases h2:(UN g l).2=0
  .rw[Yb h1 h2];refine Zg h ?_;have:=NY h (kG g l);unfold UN om;split
   .exact Nat.zero_le _
   .split
    .exact Nat.zero_le _
    .exact this
  .rw[Yc h1 h2];exact h
 .by_cases h2:(UL g l).2=0
  .rw[Yd h1 h2];refine Zg h ?_;have:=NY h (kG g l);unfold UL kK;split
   .exact Nat.zero_le _
   .split
    .exact Nat.zero_le _
    .split
     .exact Nat.zero_le _
     .split
      .exact Nat.zero_le _
      .exact this
  .rw[Ye h1 h2];exact h
def aeT (g:Gs):∀i,NmS (pS g i).1
 |0=>by
  intro s hs;simp only[pS,MM,bF,cP,or_false]at hs;rcases hs with rfl|rfl<;>decide
 |i+1=>ajy (aeT g i)
def adL (ss:List Int)(most:Int):NmS (kd ss most):=aeT _ _
def NmU (w:bT):Prop:=∀u∈w.us,u.name.length<=16/\u.feat.length<=16
def acT {s:av}(h:dd s=true):s.length<=16:=by
 unfold dd at h;simp only[aD,aW]at h;exact h.1.1.1.2
def VE {y:cx}(hy:Gm y)(h:(ei y).2=true):NmU (ei y).1:=by
 obtain⟨all,h1,h2,_,_⟩:=sA hy.p.p h;have hk:=HA hy 49 (s:=nq) (all:=all) (fun k hk=>.inl (by simpa[nq]using hk)) h1;intro u hu;rw[h2]at hu;obtain⟨k,hk1,rfl⟩:=bW.1 hu;show k.n.length<=16/\k.f.length<=16;rcases hk k hk1 with rfl|⟨h3,h4⟩
 .decide
 .refine⟨acT h3, ?_⟩;rcases h4 with h4|h4|h4<;>rw[h4]<;>decide
structure SG (n:Nat)(x:eg):Prop where
 v:x.v.sm
 name:x.name.length<=16
 shelf:x.shelf.length<=16
 nf:x.feats.length<=n
 ft:∀t∈x.feats,t.length<=16
structure LckW (n:Nat)(l:mB):Prop where
 len:l.lines.length<=48
 lines:∀x∈l.lines,SG n x
 env:∀i,(l.env.at i).length<=16
theorem LckW.sm {n:Nat}{l:mB}(h:LckW n l)(hn:n<=1000):l.sm:=by
 refine⟨by have:=h.len;omega,fun x hx=>?_,fun i=>by have:=h.env i;omega⟩;have k:=h.lines x hx;have k3:=k.name;have k4:=k.shelf;have k5:=k.nf;exact⟨k.v,ae,ae,ae,fun t ht=>by have:=k.ft t ht;omega⟩
def SG.mono {n m:Nat}{x:eg}(h:SG n x)(hm:n<=m):SG m x:=⟨h.v,h.name,h.shelf,eX h.nf hm,h.ft⟩
section
variable {shop:List bJ} {w:bT} {c:List Int} {e:Env}
def BP (hw:NmU w)(nm:av):∀i,i<=w.us.length->∀t∈fL w.us c nm i,t.length<=16
 |0,_=>fun t ht=>by cases ht
 |i+1,hi=>by
  rw[fL];split
  .intro t ht;rcases List.mem_append.1 ht with h|h
   .exact BP hw nm i ae t h
   .rw[aC.1 h];exact(hw _ (aq ae)).2
  .exact BP hw nm i ae
def aiF (hs:NmS shop)(hm:w.sm)(hl:w.us.length<=48)(hw:NmU w){u:Nat}(hu:u<w.us.length)(h:(eQ shop w.us c u (fw w.us c u)).2=0):SG 48 (eQ shop w.us c u (fw w.us c u)).1:=by
 have hn:=(hw _ (aq hu)).1;have hf:(lT w.us c u).length<=48:=eX (va _ _) hl;have hft:∀t∈lT w.us c u,t.length<=16:=BP hw _ _ (aO _)
 have hv:(fw w.us c u).v.sm:=vj (P:=fun c:en=>c.v.sm) ⟨aU,aU⟩ (fun c hc=>((hm _ (aq hu)).2 c hc).1) _;unfold eQ at*
 split at h
 .rename_i h1;rw[ak h1];exact⟨hv,hn,Nat.zero_le _,hf,hft⟩
 .rename_i h1;rw[ah h1];split at h
  .cases h
  .rename_i h2;rw[ah h2];split at h
   .cases h
   .rename_i h3;rw[ah h3];exact⟨hv,hn,NY hs _,hf,hft⟩
def Xc (hs:NmS shop)(hm:w.sm)(hl:w.us.length<=48)(hw:NmU w):∀i,i<=w.us.length->∀x∈(dt shop w.us c i).1,SG 48 x
 |0,_=>fun x hx=>by cases hx
 |i+1,hi=>by
  have ih:=Xc hs hm hl hw i ae;rw[dt];split
  .exact ih
  .split
   .exact ih
   .split
    .intro x hx;cases hx
    .rename_i h3;intro x hx;rcases List.mem_append.1 hx with h|h
     .exact ih x h
     .rw[aC.1 h];exact aiF hs hm hl hw ae (Classical.not_not.1 h3)
def of_w (hs:NmS shop)(hm:w.sm)(hl:w.us.length<=48)(hw:NmU w)(he:∀i,(e.at i).length<=16):LckW 48 (EA shop e w c).1:=by
 have h0:LckW 48 GZ:=⟨aU,(fun x hx=>by cases hx),fun i=>by unfold GZ Env.at;grind⟩;unfold EA;split
 .exact h0
 .split
  .exact h0
  .split
   .exact h0
   .exact⟨eX (sT _) hl,Xc hs hm hl hw _ (aO _),he⟩
end
end Go.Abs
namespace Go.Abs
def Uv {w:bT}{c:List Int}(h:eB w c=true)(h0:0<=c[0]!):0<=(rh w c)[0]! :=by
 obtain⟨_,⟨h1,_⟩,_⟩:=Ct h;rw[te h ae];have h2:(mG c)[0]! =true:=by
  unfold mG;rw[List.getElem!_eq_getElem?_getD,List.getElem?_set_self fo];simpa using h0
 have h3:=(Bc (w:=w) (c:=c) c.length (mG c)).2 0 (by simp[mG];omega) h2;rw[Rd h,ak h3];exact h0
section
variable {m:gO} {shop:List bJ} {e:Env} {os:List Int}
def Ur (hy:Gm (Ie m shop e))(h:(dk m shop e os).2.2=true):((dk m shop e os).1.sm/\(dk m shop e os).1.us.length<=48/\NmU (dk m shop e os).1)/\0<=(dk m shop e os).2.1[0]! :=by
 by_cases h0:(ef m shop e).2≠0\/5000<CG (ef m shop e).1.us
 .rw[Dr h0]at h;cases h
 .have h1:(ef m shop e).2=0/\¬5000<CG (ef m shop e).1.us:=⟨Classical.not_not.1 fun h2=>h0 (.inl h2),fun h2=>h0 (.inr h2)⟩;cases hf:kv (ef m shop e).1.us (iJ (ef m shop e).1.us os)with
  |none=>rw[Ds h1 hf]at h;cases h
  |some c=>
   obtain⟨hb,hw⟩:=pj hy.p h1.1;have hc:=ml hb.msk (pI os) _ _ (rY _) hf;have hs16:∀x∈(ef m shop e).1.us,x.cands.length<=16:=fun x hx=>(hb.u x hx).1
   obtain⟨⟨g1,_⟩,g2⟩:=BV hw hs16 (Qy hc.2) hc.1;rw[Dt h1 hf];refine⟨⟨hb.sm,hb.len.2, ?_⟩,Uv g1 g2⟩;have h2:=h1.1;unfold ef gG at h2⊢;split at h2
   .cases h2
   .split at h2
    .cases h2
    .split at h2
     .cases h2
     .rename_i h3;rw[ah lQ,ah lQ,ah h3];exact VE hy (by simpa using h3)
end
end Go.Abs
end
namespace Go.Abs
def AK (c:List Int)(s:List Int)(Jq:List Nat):List Int:=Jq.foldl (fun s j=>s.set j c[j]!) s
def LU (c:List Int):∀(Jq:List Nat) (s:List Int),(AK c s Jq).length=s.length
 |[],_=>rfl
 |j::Jq,s=>by rw[AK,List.foldl_cons];exact(LU c Jq _).trans (List.length_set ..)
def Yn (c s:List Int)(Jq J':List Nat):AK c s (Jq++J')=AK c (AK c s Jq) J':=List.foldl_append ..
def LS (c:List Int):∀(Jq:List Nat) (s:List Int) (i:Nat),(∀j∈Jq,j<s.length)->(AK c s Jq)[i]! =if i∈Jq then c[i]! else s[i]!
 |[],s,i,_=>by simp[AK]
 |j::Jq,s,i,h=>by
  have ih:=LS c Jq (s.set j c[j]!) i (fun q hq=>by rw[List.length_set];exact h q (by simp[hq]));rw[AK,List.foldl_cons];refine dc ih ?_;rw[Dk (h j aF)];simp only[bF]
  grind
def Vk (us:List cL)(c:List Int)(a b:av)(v:bX)(t:Bool):Prop:=0<=fN us a b/\me us (fN us a b) v t=c[(fN us a b).toNat]! /\0<=c[(fN us a b).toNat]!
def QM {us:List cL}{c:List Int}{x:eg}:∀(l:List av) (s:List Int),(∀f∈l,Vk us c x.name f x.v false)->vi us x l s=(0,AK c s (l.map fun f=>(fN us x.name f).toNat))
 |[],s,_=>rfl
 |f::r,s,h=>by
  obtain⟨h1,h2,h3⟩:=h f aF;rw[vi,ah ae,h2,QM r _ (fun g hg=>h g (by simp[hg]))];rfl
def QZ (us:List cL)(x:eg):List Nat:=(fN us x.name []).toNat::x.feats.map fun f=>(fN us x.name f).toNat
def Vj (shop:List bJ)(us:List cL)(c:List Int)(x:eg):Prop:=Vk us c x.name [] x.v true/\n9 shop us[(fN us x.name []).toNat]!.cands[c[(fN us x.name []).toNat]!.toNat]! x=0/\∀f∈x.feats,Vk us c x.name f x.v false
def adp {shop:List bJ}{us:List cL}{c s:List Int}{x:eg}(h:Vj shop us c x):mH shop us x s=(0,AK c s (QZ us x)):=by
 obtain⟨⟨h1,h2,h3⟩,h4,h5⟩:=h;rw[mH,ah ae,h2,ah (by rw[h4];exact fun h=>h rfl),QM _ _ h5];rfl
def QY {shop:List bJ}{us:List cL}{c:List Int}:∀(l:List eg) (s:List Int),(∀x∈l,Vj shop us c x)->vt shop us l s=(AK c s (l.flatMap (QZ us)),0,[])
 |[],s,_=>rfl
 |x::r,s,h=>by
  rw[vt,adp (h x aF),ah aF,QY r _ (fun y hy=>h y (by simp[hy]))];rw[List.flatMap_cons,Yn]
def DJ {w:bT}(hw:eu w=true){i:Nat}(h1:1<=i)(hi:i<w.us.length):fN w.us w.us[i]!.name w.us[i]!.feat=(i:Nat):=by
 have hd:∀q,(w.us.drop 1)[q]! =w.us[1+q]! :=fun q=>by simp[List.getElem!_eq_getElem?_getD,Nat.add_comm]
 have hu:nP w.us[i]!.name w.us[i]!.feat w.us[i]! =true:=by simp[nP]
 unfold fN;rcases eO (f:=nP w.us[i]!.name w.us[i]!.feat) (l:=w.us.drop 1) (k:=1)with⟨_,h2⟩|⟨j,h2,h3,h4,_⟩
 .have:=h2 (i-1) (by rw[jA];omega);rw[hd,show 1+(i-1)=i by omega,hu]at this;cases this
 .rw[jA]at h3;rw[hd]at h4;rw[h2];by_cases e:1+j=i
  .omega
  .rcases dQ (1+j) i with h5|h5
   .exact(yZ hw ae h5 hi h4 hu).elim
   .exact(yZ hw h1 ae ae hu h4).elim
def R7:∀a∈bN,iz a a=0:=by decide+kernel
def abA {w:bT}(hw:eu w=true){i k:Nat}(hi:i<w.us.length)(hk:k<w.us[i]!.cands.length)(h0:0<k):iz w.us[i]!.cands[k-1]!.v w.us[i]!.cands[k]!.v<0:=by
 simp only[eu,aD,bw,lg]at hw;have h1:=(hw.2 i (Nat.zero_le _) hi).2 k (Nat.zero_le _) hk;simp only[mP,aD,cz,ed,cv]at h1;rcases h1.2 with h2|h2
 .exact absurd h0 h2
 .omega
def QA {w:bT}(hw:eu w=true){i:Nat}(hi:i<w.us.length)(hv:∀x∈w.us[i]!.cands,x.v∈bN){j:Nat}:∀{k:Nat},j<k->k<w.us[i]!.cands.length->iz w.us[i]!.cands[j]!.v w.us[i]!.cands[k]!.v<0
 |0,h,_=>absurd h (Nat.not_lt_zero _)
 |k+1,h,hk=>by
  have h1:=abA hw hi hk ae;rw[Nat.add_sub_cancel]at h1;by_cases e:j=k
  .subst e;exact h1
  .exact R8 _ (hv _ (aq ae)) _ (hv _ (aq ae)) _ (hv _ (aq hk)) (QA hw hi hv ae ae) h1
def adg {w:bT}(hw:eu w=true){i k:Nat}{v:bX}(hi:i<w.us.length)(hv:∀x∈w.us[i]!.cands,x.v∈bN)(hk:k<w.us[i]!.cands.length)(e:w.us[i]!.cands[k]!.v=v)(t:Bool):me w.us (i:Nat) v t=(k:Nat):=by
 have hin:=hv _ (aq hk);rw[e]at hin;have hy:UJ v t w.us[i]!.cands[k]! =true:=by
  unfold UJ;rw[e];cases t<;>simp[R7 v hin]
 unfold me;rw[ah ae,Int.toNat_natCast];rcases eO (f:=UJ v t) (l:=w.us[i]!.cands) (k:=0)with⟨_,h2⟩|⟨j,h2,h3,h4,h5⟩
 .rw[h2 k hk]at hy;cases hy
 .rw[h2];rcases Nat.lt_trichotomy j k with h6|h6|h6
  .have h7:=QA hw hi hv h6 hk;rw[e]at h7;unfold UJ at h4;cases t
   .simp only[cond_false,aW]at h4;omega
   .simp only[cond_true,aW]at h4;rw[h4,R7 v hin]at h7;omega
  .subst h6;simp
  .rw[h5 k h6]at hy;cases hy
def yu {shop:List bJ}{us:List cL}{c:List Int}:∀n,(dt shop us c n).2=0->(dt shop us c n).1=((List.range n).filter fun u=>!iB us c u).map (fun u=>(eQ shop us c u (fw us c u)).1)/\∀u,u<n->iB us c u=false->(eQ shop us c u (fw us c u)).2=0
 |0,_=>⟨rfl,fun u h=>absurd h (Nat.not_lt_zero _)⟩
 |n+1,h=>by
  rw[dt]at h⊢;split at h
  .rename_i h1;exact absurd h h1
  .rename_i h1;have h1':(dt shop us c n).2=0:=by simpa using h1
   obtain⟨i1,i2⟩:=yu n h1';rw[ah h1];split at h
   .rename_i h2;rw[ak h2,List.range_succ,List.filter_append,i1];refine⟨by simp[h2],fun u hu hs=>?_⟩;by_cases e:u=n
    .subst e;rw[h2]at hs;cases hs
    .exact i2 u ae hs
   .rename_i h2;rw[ah h2];split at h
    .rename_i h3;exact absurd h h3
    .rename_i h3;rw[ah h3,List.range_succ,List.filter_append,i1];refine⟨by simp[h2],fun u hu hs=>?_⟩;by_cases e:u=n
     .subst e;simpa using h3
     .exact i2 u ae hs
def pw {us:List cL}{c:List Int}{nm:av}:∀{n:Nat}{f:av},f∈fL us c nm n↔∃i,(0<i/\i<n)/\(us[i]!.name=nm/\us[i]!.feat=f/\f≠[])/\0<=c[i]!
 |0,f=>by simp[fL]
 |n+1,f=>by
  rw[fL];have ih:=pw (us:=us) (c:=c) (nm:=nm) (n:=n) (f:=f);split
  .rename_i h;rw[List.mem_append,ih,aC];constructor
   .rintro(⟨i,h1,h2,h3⟩|rfl)
    .exact⟨i,⟨h1.1,ae⟩,h2,h3⟩
    .exact⟨n,⟨h.1,ae⟩,⟨h.2.1.1,rfl,h.2.1.2⟩,h.2.2⟩
   .rintro⟨i,h1,h2,h3⟩;by_cases e:i=n
    .subst e;exact .inr h2.2.1.symm
    .exact .inl ⟨i,⟨h1.1,ae⟩,h2,h3⟩
  .rename_i h;rw[ih];constructor
   .rintro⟨i,h1,h2,h3⟩;exact⟨i,⟨h1.1,ae⟩,h2,h3⟩
   .rintro⟨i,h1,h2,h3⟩;by_cases e:i=n
    .subst e;exact absurd ⟨h1.1,⟨h2.1,by rw[h2.2.1];exact h2.2.2⟩,h3⟩ h
    .exact⟨i,⟨h1.1,ae⟩,h2,h3⟩
structure Ee (w:bT):Prop where
 val:eu w=true
 ver:∀i,1<=i->i<w.us.length->∀x∈w.us[i]!.cands,x.v∈bN
 main:∀i,1<=i->i<w.us.length->w.us[i]!.feat≠[]->∀x∈w.us[i]!.cands,∃j,(1<=j/\j<w.us.length)/\(w.us[j]!.name=w.us[i]!.name/\w.us[j]!.feat=[])/\[(⟨(j:Nat),dz x.v⟩:Want)]∈x.needs
def Th:∀a∈bN,∀b∈bN,oN (dz a) b=true->b=a:=by decide+kernel
def GJ {w:bT}{c:List Int}(h:eB w c=true):c.length=w.us.length/\∀i,i<w.us.length->-1<=c[i]! /\c[i]! <(w.us[i]!.cands.length:Int):=by
 simp only[eB,uf,aD,aW,bw,Aw]at h;exact⟨h.2.1,fun i hi=>h.2.2 i (Nat.zero_le _) ae⟩
def Q4 {w:bT}{c:List Int}(hq:Ee w)(hm:eB w c=true)(hh:jN w c=[]){i:Nat}(h1:1<=i)(hi:i<w.us.length)(hf:w.us[i]!.feat≠[])(hc:0<=c[i]!):
  ∃j,(1<=j/\j<w.us.length)/\(w.us[j]!.name=w.us[i]!.name/\w.us[j]!.feat=[])/\0<=c[j]! /\(fw w.us c j).v=(fw w.us c i).v:=by
 obtain⟨hl,hb⟩:=GJ hm;have hin:c[i]!.toNat<w.us[i]!.cands.length:=by have:=(hb i hi).2;omega
 obtain⟨j,hj,hn,hr⟩:=hq.main i h1 hi hf _ (aq hin);have hw:=((Bs hm).1 hh i ae hc).1;obtain⟨k,hk,hke⟩:=List.getElem_of_mem hr;have hs:=hw k hk;have e:(aT w c i).needs[k]! =[(⟨(j:Nat),dz w.us[i]!.cands[c[i]!.toNat]!.v⟩:Want)]:=by
  show w.us[i]!.cands[c[i]!.toNat]!.needs[k]! =_;rw[getElem!_pos _ k hk];exact hke
 rw[e]at hs;simp only[Du,List.any_cons,List.any_nil,Bool.or_false,kH,Int.toNat_natCast,aD,aW]at hs;refine⟨j,hj,hn,hs.1, ?_⟩;have hjn:c[j]!.toNat<w.us[j]!.cands.length:=by have:=(hb j hj.2).2;have:=hs.1;omega
 exact Th _ (hq.ver i h1 hi _ (aq hin)) _ (hq.ver j hj.1 hj.2 _ (aq hjn)) hs.2
def Zc {w:bT}{c:List Int}(hq:Ee w)(hm:eB w c=true){i:Nat}(h1:1<=i)(hi:i<w.us.length)(hc:0<=c[i]!){v:bX}(e:(fw w.us c i).v=v)(t:Bool):Vk w.us c w.us[i]!.name w.us[i]!.feat v t:=by
 obtain⟨hl,hb⟩:=GJ hm;have hin:c[i]!.toNat<w.us[i]!.cands.length:=by have:=(hb i hi).2;omega
 unfold Vk;rw[DJ hq.val h1 hi,Int.toNat_natCast];exact⟨ae,by rw[adg hq.val hi (hq.ver i h1 hi) hin e t];omega,hc⟩
def lv {shop:List bJ}{us:List cL}{c:List Int}{u:Nat}{x:en}(h:(eQ shop us c u x).2=0):(eQ shop us c u x).1.name=us[u]!.name/\(eQ shop us c u x).1.v=x.v/\(eQ shop us c u x).1.feats=lT us c u/\n9 shop x (eQ shop us c u x).1=0:=by
 unfold eQ at*
 split
 .rename_i h1;refine⟨rfl,rfl,rfl, ?_⟩;unfold n9;rw[ak h1,ah aF,ah aF]
 .rename_i h1;rw[ah h1]at h;split at h
  .cases h
  .rename_i h2;rw[ah h2];split at h
   .cases h
   .rename_i h3;rw[ah h3];refine⟨rfl,rfl,rfl, ?_⟩;unfold n9;rw[ah h1,ah (by simp only[ne_eq,not_true_eq_false,or_false];exact h2),ah (by simp only[ne_eq,not_true_eq_false,or_false];exact h3)]
def Xb {shop:List bJ}{w:bT}{c:List Int}(hq:Ee w)(hm:eB w c=true)(hh:jN w c=[]){u:Nat}(hu:u<w.us.length)(hs:iB w.us c u=false)(h:(eQ shop w.us c u (fw w.us c u)).2=0):Vj shop w.us c (eQ shop w.us c u (fw w.us c u)).1:=by
 obtain⟨e1,e2,e3,e4⟩:=lv h;simp only[iB,eW,cv,df,aW]at hs;obtain⟨⟨h0,hc⟩,hf⟩:=hs;have hu1:1<=u:=ae;have hc0:0<=c[u]! :=ae;have h1:=Zc hq hm hu1 hu hc0 (v:=(fw w.us c u).v) rfl true;rw[hf]at h1;unfold Vj;rw[e1,e2,e3];have hun:=DJ hq.val hu1 hu;rw[hf]at hun;refine⟨h1,by rw[hun,Int.toNat_natCast];exact e4,fun f hfm=>?_⟩;obtain⟨i,hi,⟨hn,hfe,hne⟩,hci⟩:=pw.1 hfm;obtain⟨j,hj,⟨hjn,hjf⟩,hjc,hjv⟩:=Q4 hq hm hh (i:=i) ae ae (by rw[hfe];exact hne) hci;have:j=u:=by
  have a1:=DJ hq.val hj.1 hj.2;rw[hjn,hjf,hn,hun]at a1;omega
 subst this;have h2:=Zc hq hm (i:=i) ae ae hci (v:=(fw w.us c j).v) hjv.symm false;rw[hn,hfe]at h2;exact h2
def HX {us:List cL}{c:List Int}{u:Nat}(h1:1<=u)(hc:0<=c[u]!)(hf:us[u]!.feat=[]):iB us c u=false:=by
 simp only[iB,eW,cv,df,aW];exact⟨⟨ae,ae⟩,hf⟩
def W9 {shop:List bJ}{w:bT}{c:List Int}(hq:Ee w)(hm:eB w c=true)(hh:jN w c=[])(h0:0<=c[0]!)(h:(gv shop w c).2=0):vt shop w.us (gv shop w c).1 (EY w.us.length w.us.length)=(c,0,[]):=by
 obtain⟨hl,hb⟩:=GJ hm;obtain⟨e1,e2⟩:=yu w.us.length h;have hsay:∀x∈(gv shop w c).1,Vj shop w.us c x:=by
  intro x hx;have hx':x∈(dt shop w.us c w.us.length).1:=hx;rw[e1]at hx';obtain⟨u,hu,rfl⟩:=bW.1 hx';obtain⟨hu1,hu2⟩:=List.mem_filter.1 hu;have hun:=List.mem_range.1 hu1;have hsk:iB w.us c u=false:=by simpa using hu2
  exact Xb hq hm hh hun hsk (e2 u hun hsk)
 rw[QY _ _ hsay];refine Prod.ext ?_ rfl;show AK c _ _=c;have hJ:∀j,j∈(gv shop w c).1.flatMap (QZ w.us)->j<w.us.length:=by
  intro j hj;obtain⟨x,hx,hjx⟩:=List.mem_flatMap.1 hj;obtain⟨⟨a1,a2,a3⟩,_,a4⟩:=hsay x hx;have lim:∀a b,0<=fN w.us a b->(fN w.us a b).toNat<w.us.length:=by
   intro a b hab;rcases DI (us:=w.us) (a:=a) (b:=b)with h6|⟨i,h6,h7,h8⟩<;>omega
  rcases bF.1 hjx with rfl|h5
  .exact lim _ _ a1
  .obtain⟨f,hf,rfl⟩:=bW.1 h5;exact lim _ _ (a4 f hf).1
 apply List.ext_getElem
 .rw[LU,A1,hl]
 .intro i h1 h2;have h3:=LS c ((gv shop w c).1.flatMap (QZ w.us)) (EY w.us.length w.us.length) i (fun j hj=>by rw[A1];exact hJ j hj);rw[getElem!_pos _ i h1,getElem!_pos c i h2]at h3;rw[h3];split
  .rfl
  .rename_i hni;have hi:i<w.us.length:=ae;have hbi:=hb i hi;rw[getElem!_pos c i h2]at hbi;rw[GA hi];split
   .rename_i hi1

    by_cases hc:0<=c[i]!
    .exfalso;apply hni;by_cases hf:w.us[i]!.feat=[]
     .refine List.mem_flatMap.2 ⟨(eQ shop w.us c i (fw w.us c i)).1, ?_, ?_⟩
      .show _∈(dt shop w.us c w.us.length).1;rw[e1];exact bW.2 ⟨i,List.mem_filter.2 ⟨List.mem_range.2 hi,by rw[HX hi1 hc hf];rfl⟩,rfl⟩
      .have hsk:iB w.us c i=false:=HX hi1 hc hf;obtain⟨b1,_⟩:=lv (e2 i hi hsk);have hun:=DJ hq.val hi1 hi;rw[hf]at hun;exact bF.2 (.inl (by rw[b1,hun];simp))
     .obtain⟨j,hj,⟨hjn,hjf⟩,hjc,hjv⟩:=Q4 hq hm hh hi1 hi hf hc;have hsk:iB w.us c j=false:=HX hj.1 hjc hjf;refine List.mem_flatMap.2 ⟨(eQ shop w.us c j (fw w.us c j)).1, ?_, ?_⟩
      .show _∈(dt shop w.us c w.us.length).1;rw[e1];exact bW.2 ⟨j,List.mem_filter.2 ⟨List.mem_range.2 hj.2,by rw[hsk];rfl⟩,rfl⟩
      .obtain⟨b1,_,b3,_⟩:=lv (e2 j hj.2 hsk);refine bF.2 (.inr (bW.2 ⟨w.us[i]!.feat, ?_, ?_⟩))
       .rw[b3];exact pw.2 ⟨i,⟨ae,hi⟩,⟨hjn.symm,rfl,hf⟩,hc⟩
       .rw[b1,hjn,DJ hq.val hi1 hi];simp
    .rw[getElem!_pos c i h2]at hc;omega
   .have:i=0:=ae;subst this;have h00:w.us[0]!.cands.length=1:=by
     have:=hq.val;simp only[eu,uA,aD,aW]at this;exact this.1.2.2
    rw[getElem!_pos c 0 h2]at h0;omega
def acG {all:List Key}(hs:KS all){i j:Nat}(hij:i<j)(hj:j<all.length):eP all[i]! all[j]! =true:=by
 have:=List.pairwise_iff_getElem.1 hs i j ae hj hij;rw[getElem!_pos all i ae,getElem!_pos all j hj];exact this
def GX {all:List Key}(hs:KS all)(hz:fD∈all){i:Nat}(h1:1<=i)(hi:i<all.length):all[i]! ≠fD:=by
 intro e;have:=acG hs (i:=0) (j:=i) ae hi;rw[(all_zero hs hz).1,e,sS]at this;cases this
def KE {y:cx}{all:List Key}{k:Key}(hk:k≠fD)(h:(eh y all k).2=true):(eh y all k).1=(eF y k).map (dM y all k):=by
 unfold eh at*
 rw[ah hk]at h⊢;split at h
 .cases h
 .rename_i h1;rw[ah h1]
def NI {y:cx}(hy:Gm y)(h:(ei y).2=true):Ee (ei y).1:=by
 obtain⟨all,hr,hus,hc,hB⟩:=sA hy.p.p h;obtain⟨hz,h48,hcl⟩:=sc hr;obtain⟨hs,hnm⟩:=Hz hy.p.p hr;have hl:(ei y).1.us.length=all.length:=by rw[hus,bg]
 have hat:∀i,i<all.length->(ei y).1.us[i]! =rj y all all[i]! :=fun i hi=>by rw[hus,fC hi]
 refine⟨DQ hy.p h,fun i h1 hi x hx=>?_,fun i h1 hi hf x hx=>?_⟩
 .rw[hl]at hi;rw[hat i hi]at hx;have hne:=GX hs hz h1 hi;have hx':x∈(eh y all all[i]!).1:=hx;rw[KE hne (hc i hi)]at hx';obtain⟨r,hr',rfl⟩:=bW.1 hx';exact Cm hy.p.p hy.p.v hy.p.m all[i]!.n _ (List.mem_filter.1 hr').1
 .rw[hl]at hi⊢;rw[hat i hi]at hx hf;have hne:=GX hs hz h1 hi;have hx':x∈(eh y all all[i]!).1:=hx;rw[KE hne (hc i hi)]at hx';obtain⟨r,hr',rfl⟩:=bW.1 hx';have hf':all[i]!.f≠[]:=hf;have hrn:r.r.name=all[i]!.n:=(Lm hy.p all[i]!.n r (List.mem_filter.1 hr').1).1;have hrow:[(⟨⟨r.r.name,[]⟩,dz r.r.v⟩:je)]∈cH r.r y.e all[i]!.f:=by
   unfold cH;rw[ah hf'];simp
  have hin:(⟨r.r.name,[]⟩:Key)∈all:=hcl _ (aq hi) [⟨⟨r.r.name,[]⟩,dz r.r.v⟩] (by unfold cT;rw[ah hne];exact List.mem_flatMap.2 ⟨r,hr',hrow⟩) _ (aC.2 rfl);obtain⟨p1,p2⟩:=yI hin;have hk0:(⟨r.r.name,[]⟩:Key)≠fD:=by
   intro e;have e2:r.r.name=[]:=aw Key.n e;have:=(hnm _ (aq hi));rcases this with h5|h5
   .exact hne h5
   .rw[hrn]at e2;exact h5 e2
  have hj0:=sX hs hz hk0;obtain⟨j,hj⟩:∃j:Nat,ec all ⟨r.r.name,[]⟩=(j:Nat):=⟨(ec all ⟨r.r.name,[]⟩).toNat,ae⟩
  have hje:all[j]! =⟨r.r.name,[]⟩:=by
   have:=hj;unfold ec at this;rcases eO (f:=fun x=>decide (x=(⟨r.r.name,[]⟩:Key))) (l:=all) (k:=0)with⟨h6,_⟩|⟨q,h6,h7,h8,_⟩
   .omega
   .have:q=j:=ae;subst this;exact of_decide_eq_true h8
  refine⟨j,⟨ae,ae⟩, ?_, ?_⟩
  .rw[hat j ae,hat i hi];show all[j]!.n=all[i]!.n/\all[j]!.f=[];rw[hje,hrn];exact⟨rfl,rfl⟩
  .show _∈dy all (cH r.r y.e all[i]!.f);refine bW.2 ⟨_,hrow, ?_⟩;show [(⟨ec all ⟨r.r.name,[]⟩,dz r.r.v⟩:Want)]=_;rw[hj];rfl
def SI (w:bT):Prop:=∀i,1<=i->i<w.us.length->dd w.us[i]!.name=true/\(w.us[i]!.feat=[]\/w.us[i]!.feat=kW\/w.us[i]!.feat=fW)
def SW {y:cx}(hy:Gm y)(h:(ei y).2=true):SI (ei y).1:=by
 obtain⟨all,hr,hus,_,_⟩:=sA hy.p.p h;obtain⟨hz,_,_⟩:=sc hr;obtain⟨hs,_⟩:=Hz hy.p.p hr;have hk:=HA hy 49 (s:=nq) (all:=all) (fun k hk=>.inl (by simpa[nq]using hk)) hr;intro i h1 hi;have hi':i<all.length:=by rw[hus,bg]at hi;exact hi
 rw[hus,fC hi'];have hne:=GX hs hz h1 hi';rcases hk _ (aq hi')with h5|h5
 .exact absurd h5 hne
 .exact h5
def KM {w:bT}(hw:eu w=true){c:List Int}{nm:av}:∀n,n<=w.us.length->(fL w.us c nm n).Pairwise fun a b=>Op.bytesLess a b=true
 |0,_=>by simp[fL]
 |n+1,hn=>by
  have ih:=KM hw (c:=c) (nm:=nm) n ae;rw[fL];split
  .rename_i h;rw[List.pairwise_append];refine⟨ih,aF,fun a ha b hb=>?_⟩;rw[aC.1 hb];obtain⟨i,hi,⟨hnm,hf,_⟩,_⟩:=pw.1 ha;have h2:=tf hw (i:=i) ae hi.2 ae;unfold jz at h2;rw[hnm,h.2.1.1,mb,Bool.false_or,aD]at h2;rw[<-hf];exact h2.2
  .exact ih
def up_at {l:List av}(h:l.Pairwise fun a b=>Op.bytesLess a b=true){i:Nat}(h0:0<i)(hi:i<l.length):Op.bytesLess l[i-1]! l[i]! =true:=by
 have:=List.pairwise_iff_getElem.1 h (i-1) i ae hi ae;rw[getElem!_pos l (i-1) ae,getElem!_pos l i hi];exact this
def adV {l:List av}(h:l.Pairwise fun a b=>Op.bytesLess a b=true)(h2:∀f∈l,f=kW\/f=fW):l.length<=9:=by
 match l with
 |[]=>simp
 |[_]=>simp
 |[_,_]=>simp
 |a::b::d::r=>
  exfalso;have ne:∀x y:av,Op.bytesLess x y=true->x≠y:=by
   intro x y hxy e;rw[e,mb]at hxy;cases hxy
  have p1:=List.pairwise_cons.1 h;have p2:=List.pairwise_cons.1 p1.2;have n1:=ne _ _ (p1.1 b aF);have n2:=ne _ _ (p1.1 d aF);have n3:=ne _ _ (p2.1 d aF);have a1:=h2 a aF;have a2:=h2 b aF;have a3:=h2 d aF
  grind
def acV {s:av}(h:dd s=true):s≠[]:=by
 rintro rfl;revert h;decide
def Xa {shop:List bJ}{w:bT}{c:List Int}(hq:Ee w)(hn:SI w)(hs:eJ shop=true)(hm:eB w c=true){u:Nat}(hu:u<w.us.length)(hk:iB w.us c u=false)(h:(eQ shop w.us c u (fw w.us c u)).2=0):G3 (eQ shop w.us c u (fw w.us c u)).1=true:=by
 obtain⟨e1,e2,e3,_⟩:=lv h;obtain⟨hl,hb⟩:=GJ hm;simp only[iB,eW,cv,df,aW]at hk;obtain⟨⟨h0,hc⟩,hf⟩:=hk;have hin:c[u]!.toNat<w.us[u]!.cands.length:=by have:=(hb u hu).2;omega
 have hv:gA (fw w.us c u).v=true:=by
  have hw:=hq.val;simp only[eu,aD,bw,lg,mP]at hw;exact((hw.2 u (Nat.zero_le _) hu).2 _ (Nat.zero_le _) hin).1.1
 have hnm:=(hn u ae hu).1;have hup:=KM hq.val (c:=c) (nm:=w.us[u]!.name) w.us.length (aO _);have hfe:∀f∈lT w.us c u,f=kW\/f=fW:=by
  intro f hf;obtain⟨i,hi,⟨_,h2,h3⟩,_⟩:=pw.1 hf;rcases(hn i ae hi.2).2 with h4|h4
  .rw[h4]at h2;exact absurd h2.symm h3
  .rw[<-h2];exact h4
 have h9:=adV hup hfe;have hsh:∀j,j<shop.length->dd shop[j]!.name=true:=by
  intro j hj;simp only[eJ,aD,bw,AP,gQ]at hs;exact(hs.2 j (Nat.zero_le _) hj).1.1.1
 have hsf:(decide ((eQ shop w.us c u (fw w.us c u)).1.shelf≠[])&& !dd (eQ shop w.us c u (fw w.us c u)).1.shelf)=false/\(decide ((eQ shop w.us c u (fw w.us c u)).1.shelf=[])&&decide ((eQ shop w.us c u (fw w.us c u)).1.sum≠0))=false:=by
  unfold eQ at h⊢;split
  .exact⟨rfl,rfl⟩
  .rename_i h1;rw[ah h1]at h;split at h
   .cases h
   .rename_i h2;rw[ah h2];split at h
    .cases h
    .rename_i h3;rw[ah h3];have h4:=hsh (fw w.us c u).sh.toNat ae;refine⟨by show(_&& !dd shop[(fw w.us c u).sh.toNat]!.name)=false;rw[h4];simp, ?_⟩;show(decide (shop[(fw w.us c u).sh.toNat]!.name=[])&&_)=false;rw[bG (acV h4)];rfl
 unfold G3;rw[hsf.1,hsf.2,e1,e2,e3,hnm,hv,bo (show(lT w.us c u).length<=9 from h9)];simp only[Bool.and_self,ew,Bool.not_false];rw[bw];intro i _ hi;unfold zq;have hw:gC (lT w.us c u)[i]! =true:=by
  rcases hfe _ (aq hi)with h5|h5<;>rw[h5]<;>decide
 rw[hw,ew];by_cases hi0:0<i
 .rw[show Op.bytesLess (lT w.us c u)[i-1]! (lT w.us c u)[i]! =true from up_at hup hi0 hi];simp
 .simp[hi0]
def acH {shop:List bJ}{w:bT}{c:List Int}{e:Env}(hq:Ee w)(hn:SI w)(hs:eJ shop=true)(he:nK e=true)(hm:eB w c=true)(h:(gv shop w c).2=0):Ld ⟨e,(gv shop w c).1⟩=true:=by
 obtain⟨e1,e2⟩:=yu w.us.length h;have e1':(gv shop w c).1=_:=e1;have h48:=(PK hq.val).2;unfold Ld;show(nK e&&decide ((gv shop w c).1.length<=48)&&bU (wL (gv shop w c).1) 0 (gv shop w c).1.length)=true;rw[he,bo (show(gv shop w c).1.length<=48 by have:=sT (shop:=shop) (us:=w.us) (c:=c) w.us.length;have e:(gv shop w c).1.length=(dt shop w.us c w.us.length).1.length:=rfl;omega),ew,ew,bw];have hp:(gv shop w c).1.Pairwise fun a b=>Op.bytesLess a.name b.name=true:=by
  rw[e1',List.pairwise_map];have h1:(List.range w.us.length).Pairwise (· < ·):=List.pairwise_lt_range;refine List.Pairwise.imp_of_mem ?_ (List.Pairwise.sublist List.filter_sublist h1);intro a b ha hb hab;obtain⟨UI,ha2⟩:=List.mem_filter.1 ha;obtain⟨hb1,qm⟩:=List.mem_filter.1 hb;have UI:=List.mem_range.1 UI;have hb1:=List.mem_range.1 hb1;have ha2:iB w.us c a=false:=by simpa using ha2
  have qm:iB w.us c b=false:=by simpa using qm
  rw[(lv (e2 a UI ha2)).1,(lv (e2 b hb1 qm)).1];simp only[iB,eW,cv,df,aW]at ha2 qm;have h2:=tf hq.val (i:=a) ae hab hb1;unfold jz at h2;rw[ha2.2,qm.2,mb,Bool.and_false,Bool.or_false]at h2;exact h2
 intro i _ hi;unfold wL;have hx:G3 (gv shop w c).1[i]! =true:=by
  have hmem:=aq hi;rw[e1']at hmem;obtain⟨u,hu,hue⟩:=bW.1 hmem;obtain⟨hu1,hu2⟩:=List.mem_filter.1 hu;have hu1:=List.mem_range.1 hu1;have hu2:iB w.us c u=false:=by simpa using hu2
  rw[e1',<-hue];exact Xa hq hn hs hm hu1 hu2 (e2 u hu1 hu2)
 rw[hx,ew];by_cases hi0:0<i
 .have:=List.pairwise_iff_getElem.1 hp (i-1) i ae hi ae;rw[getElem!_pos _ (i-1) ae,getElem!_pos _ i hi,this];simp
 .simp[hi0]
section
def ai0 {shop:List bJ}{e:Env}{w:bT}{c:List Int}(h:(EA shop e w c).2=0):((eu w=true/\eJ shop=true)/\nK e=true)/\eB w c=true/\jN w c=[]/\(gv shop w c).2=0/\(EA shop e w c).1=⟨e,(gv shop w c).1⟩:=by
 unfold EA at h⊢;split at h
 .cases h
 .rename_i h1;rw[ah h1];split at h
  .cases h
  .rename_i h2;rw[ah h2];split at h
   .rename_i h3;exact absurd h h3
   .rename_i h3;rw[ah h3];refine⟨by grind,by grind,lH ae,ae,rfl⟩
def VO {shop:List bJ}{e:Env}{w:bT}{c:List Int}(hq:Ee w)(hn:SI w)(h0:0<=c[0]!)(h:(EA shop e w c).2=0):jg shop e w (EA shop e w c).1=(c,0,[])/\At shop e w (EA shop e w c).1=(0,[]):=by
 obtain⟨h1,hm,hh,hl,he⟩:=ai0 h;rw[he];have hmay:=acH (e:=e) hq hn h1.1.2 h1.2 hm hl;have hc:jg shop e w ⟨e,(gv shop w c).1⟩=(c,0,[]):=by
  rw[aev h1 ⟨hmay,rfl⟩];exact W9 hq hm hh h0 hl
 refine⟨hc, ?_⟩;exact aeu (by rw[hc]) (by rw[hc];show(jN w c).length=0;rw[hh];rfl)
section
variable {m:gO} {shop:List bJ} {e:Env} {os:List Int}
def MP (hy:Gm (Ie m shop e))(h:(dk m shop e os).2.2=true):Ee (dk m shop e os).1/\SI (dk m shop e os).1/\eB (dk m shop e os).1 (dk m shop e os).2.1=true/\jN (dk m shop e os).1 (dk m shop e os).2.1=[]:=by
 by_cases h0:(ef m shop e).2≠0\/5000<CG (ef m shop e).1.us
 .rw[Dr h0]at h;cases h
 .have h1:(ef m shop e).2=0/\¬5000<CG (ef m shop e).1.us:=⟨Classical.not_not.1 fun h2=>h0 (.inl h2),fun h2=>h0 (.inr h2)⟩;cases hf:kv (ef m shop e).1.us (iJ (ef m shop e).1.us os)with
  |none=>rw[Ds h1 hf]at h;cases h
  |some c=>
   obtain⟨hb,hw⟩:=pj hy.p h1.1;have hc:=ml hb.msk (pI os) _ _ (rY _) hf;have hs16:∀x∈(ef m shop e).1.us,x.cands.length<=16:=fun x hx=>(hb.u x hx).1
   obtain⟨⟨g1,g3⟩,g2⟩:=BV hw hs16 (Qy hc.2) hc.1;rw[Dt h1 hf];have hq:Ee (ef m shop e).1/\SI (ef m shop e).1:=by
    have h2:=h1.1;unfold ef gG at h2⊢;split at h2
    .cases h2
    .split at h2
     .cases h2
     .split at h2
      .cases h2
      .rename_i h3;rw[ah lQ,ah lQ,ah h3];exact⟨NI hy (by simpa using h3),SW hy (by simpa using h3)⟩
   exact⟨hq.1,hq.2,MU g1,PE (Vd hw) g1 g3⟩
end
end
section
def adx (g:Gs)(nm:av)(v:bX):oM 60 g (oV g nm v 3).2:=by
 have r:=(g.R6 (3+1)).1 ae;have h1:=wU nm g.aR (g.val (3+1)).toNat;have h2:=Gu (nS nm g.aR (g.val (3+1)).toNat).2 nm;have h3:=GH (ez (nS nm g.aR (g.val (3+1)).toNat).2 nm).2 (nS nm g.aR (g.val (3+1)).toNat).1;show oM 60 g (kZ (ez (nS nm g.aR (g.val (3+1)).toNat).2 nm).2 (nS nm g.aR (g.val (3+1)).toNat).1).2;rw[h1.2]at h3;have h4:=h1.1;unfold oM at*
 simp only[Gs.XD]at*
 omega
section
variable {g:Gs}
def ajq (h:g.val 4=0):jX g=([⟨cB[(g.aR.val 4).toNat]!,Dq⟩],g.aR.aR):=ak h
def ajp (h:¬g.val 4=0):jX g=([],g.aR):=ah h
def acs (h:g.val 4=0):B8 g=([⟨cB[(g.aR.val 4).toNat]!,j0[(g.aR.aR.val 8).toNat]!⟩],g.aR.aR.aR):=ak h
def acr (h:¬g.val 4=0):B8 g=([],g.aR):=ah h
def adf (g:Gs):oM 2 g (jX g).2:=by unfold jX oM;split<;>simp only[Gs.aR]<;>omega
end
end
def II (T:List D->D->Prop):Prop:=∀(l:List gO) (nm:av),T [.sl 11 (l.map gO.D),.str nm] (.int .i64 (lE l nm))
def C356 (Y:Ctx):Prop:=II (aG Y 356)
def IE (T:List D->D->Prop):Prop:=∀(l:List iC),T [.sl 2 (l.map iC.D)] (.tup [.int .i64 (CF l).1,.int .i64 (CF l).2])
def C344 (Y:Ctx):Prop:=IE (aG Y 344)
def IF (T:List D->D->Prop):Prop:=∀(l:List ko),(∀x∈l,j9 x.range)->T [.sl 2 (l.map ko.D)] (.tup [.int .i64 (B9 l).1,.int .i64 (B9 l).2])
def C345 (Y:Ctx):Prop:=IF (aG Y 345)
def Ik (T:List D->D->Prop):Prop:=∀(m:gO),(Xm m)->T [gO.D m] (.tup [.int .i64 (kr m).1,.int .i64 (kr m).2])
def C136 (Y:Ctx):Prop:=Ik (aG Y 136)
def PQ (T:List D->D->Prop):Prop:=∀(ks:List Int),T [.sl 1 (ks.map (D.int .i64))] (.sl 11 ([jx ks].map gO.D))
def C28 (Y:Ctx):Prop:=PQ (aG Y 28)
def IQ (T:List D->D->Prop):Prop:=∀(c:List Int) (x:dR),(Kn c x)->T [.sl 1 (c.map (D.int .i64)),dR.D x] (.bool (Cu c x))
def C416 (Y:Ctx):Prop:=IQ (aG Y 416)
def Is (T:List D->D->Prop):Prop:=∀(c:List Int) (l:List dR),(∀x∈l,Kn c x)->T [.sl 1 (c.map (D.int .i64)),.sl 2 (l.map dR.D)] (.bool (j6 c l))
def C184 (Y:Ctx):Prop:=Is (aG Y 184)
def JI (T:List D->D->Prop):Prop:=∀(al:List Int) (u:Int) (p:Int),(al=[])->T [.sl 1 (al.map (D.int .i64)),.int .i64 u,.int .i64 p] (.bool true)
def C829 (Y:Ctx):Prop:=JI (aG Y 829)
def Js (T:List D->D->Prop):Prop:=∀(m:j3) (al:List Int) (c:List Int),((vV m/\Ke m c)/\al=[])->T [j3.D m,.sl 1 (al.map (D.int .i64)),.sl 1 (c.map (D.int .i64))] (.bool (yg m c))
def C692 (Y:Ctx):Prop:=Js (aG Y 692)
def JJ (T:List D->D->Prop):Prop:=∀(od:List (List Int)) (u:Int) (n:Nat),(((0<=u/\u<=1000)/\n<=16)/\(cM od u).length<=16)->T [.sl 1 (od.map jF),.int .i64 u,.int .i64 ((n:Nat):Int)] (.sl 1 ((cC (cM od u) n n).map (D.int .i64)))
def C830 (Y:Ctx):Prop:=JJ (aG Y 830)
def JK (T:List D->D->Prop):Prop:=∀(l:List dR) (o:dR),T [.sl 2 (l.map dR.D),dR.D o] (.bool (offB l o))
def C831 (Y:Ctx):Prop:=JK (aG Y 831)
def Jt (T:List D->D->Prop):Prop:=∀(m:j3) (al:List Int) (c:List Int),((vV m/\Ke m c)/\al=[])->T [j3.D m,.sl 1 (al.map (D.int .i64)),.sl 1 (c.map (D.int .i64))] (.tup [.int .i64 (dV m c).1,.int .i64 (dV m c).2])
def C693 (Y:Ctx):Prop:=Jt (aG Y 693)
def Ju (T:List D->D->Prop):Prop:=∀(m:j3) (al:List Int) (od:List (List Int)) (c:List Int),((vV m/\Ke m c)/\al=[]/\yc m od)->T [j3.D m,.sl 1 (al.map (D.int .i64)),.sl 1 (od.map jF),.sl 1 (c.map (D.int .i64))] (.sl 2 ((dX m od c).map dR.D))
def C694 (Y:Ctx):Prop:=Ju (aG Y 694)
def Su (T:List D->D->Prop):Prop:=∀(m:j3) (od:List (List Int)) (c:List Int),((vV m/\Ke m c)/\yc m od)->T [j3.D m,Ask.D ⟨[],od⟩,.sl 1 (c.map (D.int .i64))] (OA (mq m od c))
def C505 (Y:Ctx):Prop:=Su (aG Y 505)
def aej (Y:Ctx)(u:Nat):Prop:=∀(m:j3) (od:List (List Int)) (c:List Int),((vV m/\Ke m c)/\yc m od)->Ez c<u->Y.pre 505 [j3.D m,Ask.D ⟨[],od⟩,.sl 1 (c.map (D.int .i64))]/\Y.val 505 [j3.D m,Ask.D ⟨[],od⟩,.sl 1 (c.map (D.int .i64))]=OA (mq m od c)
def Ir (T:List D->D->Prop):Prop:=∀(w:bT) (l:List Want),(w.sm/\(∀x∈l,x.sm)/\l.length<=1000)->T [bT.D w,.sl 3 (l.map Want.D)] (.sl 2 ((er w.us l).map dR.D))
def C183 (Y:Ctx):Prop:=Ir (aG Y 183)
def PS (T:List D->D->Prop):Prop:=∀(w:bT),((w.sm/\w.us.length<=1000)/\Few w.us)->T [bT.D w] ((dp w.us).D)
def C46 (Y:Ctx):Prop:=PS (aG Y 46)
def Iz (T:List D->D->Prop):Prop:=∀(w:bT) (od:List (List Int)),((((w.sm/\w.us.length<=1000)/\Few w.us)/\eu w=true)/\yc (dp w.us) od)->T [bT.D w,Ask.D ⟨[],od⟩] (OA (kv w.us od))
def C267 (Y:Ctx):Prop:=Iz (aG Y 267)
def IA (T:List D->D->Prop):Prop:=∀(w:bT) (l:List Int),(w.sm/\w.us.length<=1000)->T [bT.D w,.sl 1 (l.map (D.int .i64))] (.sl 1 ((iJ w.us l).map jF))
def C268 (Y:Ctx):Prop:=IA (aG Y 268)
end Go.Abs
end
