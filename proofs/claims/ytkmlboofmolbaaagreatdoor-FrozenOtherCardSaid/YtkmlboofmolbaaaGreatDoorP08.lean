/- A part of the proofs. -/
import Derived.Test.YtkmlboofmolbaaaGreatDoorP07
set_option linter.all false
set_option maxRecDepth 60000
set_option maxHeartbeats 2000000
noncomputable section
namespace Go.Abs
variable(T:List D->D->Prop)(Z:Ctx){J:Src->aY}{α:Type}{g:Option (Nat×Bool)}{n k f:Nat}{env:List aY}{Y:Ctx}{ds:List D}{d:D}{st:St}
def oT:=∀(n:Int),(0<=n/\n<=9999)->T [.int .i64 n] (.str (nT n.toNat))
def C336:Prop:=oT (aG Z 336)
def S4:=∀(l:List au) (sep:au),(l.length<=1048600)->(sep.length<=4)->(∀t∈l,t.length<=2097200)->T [.sl 1 (l.map D.str),.str sep] (.str (cn sep l))
def C242:Prop:=S4 (aG Z 242)
def S0:=∀(s:au) (b:UInt8),(s.length<=1048576)->T [.str s,.str [b]] (.sl 1 ((ba s b.toNat).map D.str))
def C124:Prop:=S0 (aG Z 124)
def S9:=∀(s:au) (b:UInt8),(s.length<=1048576)->T [.str s,.str [b]] (.tup [.str (uC s b).1,.str (uC s b).2.1,.bool (uC s b).2.2])
def C487:Prop:=S9 (aG Z 487)
def S5:=∀(s:au) (p:au),(s.length<=1048576)->(p.length<=1048576)->T [.str s,.str p] (.tup [.str (qy s p).1,.bool (qy s p).2])
def C254:Prop:=S5 (aG Z 254)
def S2:=∀(s:au),(og s)->T [.str s] (.bool (xp s))
def C212:Prop:=S2 (aG Z 212)
def C670:Prop:=S2 (aG Z 670)
def S7:=∀(s:au),(jX s)->T [.str s] (.bool (qP s))
def C444:Prop:=S7 (aG Z 444)
def C572:Prop:=S7 (aG Z 572)
def S3:=∀(l:List b6),(jv l)->T [.sl 2 (l.map b6.D)] (.bool (ek l))
def C213:Prop:=S3 (aG Z 213)
def S8:=∀(s:au),(ry s)->T [.str s] (.tup [.int .i64 (bK s).1,.str (bK s).2.1,.str (bK s).2.2])
def C448:Prop:=S8 (aG Z 448)
def C459:Prop:=S3 (aG Z 459)
def C672:Prop:=S8 (aG Z 672)
def tO:=∀(r:Rec),(FB r/\gI r)->T [Rec.D r] (.str (D6 r))
def C219:Prop:=tO (aG Z 219)
def C215:Prop:=tO (aG Z 215)
def NS:=∀(s:au),(s.length<=1048576)->T [.str s,.str [124,124]] (.sl 1 ((jo s []).map D.str))
def afb:Prop:=NS (aG Z 124)
def Tb:=∀(s:au) (b:UInt8),(b=32)->(s.length<=1048576)->T [.str s,.str [b]] (.str (B3 s))
def C683:Prop:=Tb (aG Z 683)
def tT:=∀(s:au),T [.str s] (.bool (gL s))
def Th:Prop:=tT (aG Z 349)
def tL:=∀(s:au),T [.str s] (.bool (df s))
def Tf:Prop:=tL (aG Z 208)
def uj:=∀(s:au),T [.str s] (.tup [.int .i64 (C6 s),.bool (ot s)])
def C658:Prop:=uj (aG Z 658)
def ue:=∀(s:au) (b:Int),(s.length<=1048576)->T [.str s,.int .u8 b] (.sl 1 ((ba s b).map D.str))
def VD:Prop:=ue (aG Z 533)
def uk:=∀(t:au),T [.str t] (.bool (cP t))
def C659:Prop:=uk (aG Z 659)
def tY:=∀(n:Int),T [.int .i64 n] (.bool (Cq n))
def C440:Prop:=tY (aG Z 440)
def Jl:=∀(s:au),(s.length<=1048576)->T [.str s] (.bool (sM s false))
def C442:Prop:=Jl (aG Z 442)
def Jk:=∀(s:au),(s.length<=1048576)->T [.str s] (.bool (sM s true))
def C441:Prop:=Jk (aG Z 441)
def tM:=∀(v:bV),(v.sm)->T [bV.D v] (.bool (gJ v))
def AK:Prop:=tM (aG Z 209)
def C665:Prop:=oT (aG Z 665)
def ua:=∀(v:bV),(v.sm)->T [bV.D v] (.str (uI v))
def C451:Prop:=ua (aG Z 451)
def Jt:=∀(h:Int) (k:Nat),(k=13)->T [.int .u64 h,.int .i64 (k:Nat)] (.int .u64 (rot h k))
def C463:Prop:=Jt (aG Z 463)
def tP:=∀(s:au),T [.sl 1 ((s).map λb=>D.int .u8 b.toNat)] (.int .u64 (sumL s))
def C220:Prop:=tP (aG Z 220)
def IW:=∀(r:Rec) (name:au) (rng:au),(jX rng)->T [Rec.D r,.str name,.str rng] (.int .i64 (gK r name rng))
def C211:Prop:=IW (aG Z 211)
def tZ:=∀(r:Rec) (w:de) (al:Bool),(w.sm)->T [Rec.D r,de.D w,.bool al] (.int .i64 (lG r w al))
def C443:Prop:=tZ (aG Z 443)
def tN:=∀(r:Rec) (n:bn),(n.sm)->T [Rec.D r,bn.D n] (.int .i64 (jG r n))
def C210:Prop:=tN (aG Z 210)
def IX:=∀(r:Rec) (s:au),(ry s)->T [Rec.D r,.str s] (.int .i64 (n7 r s))
def C214:Prop:=IX (aG Z 214)
def zx:=∀(r:Rec),(gI r)->T [Rec.D r] (.tup [.int .i64 (cQ r).1,.int .i64 (cQ r).2])
def C70:Prop:=zx (aG Z 70)
def zy:=∀(r:Rec),(gI r)->T [Rec.D r] (.tup [.str (ez r).1,.int .i64 (ez r).2])
def C72:Prop:=zy (aG Z 72)
def zz:=∀(r:Rec),(gI r)->T [Rec.D r] (.tup [.int .u64 (qY r),.int .i64 (ez r).2])
def C74:Prop:=zz (aG Z 74)
def JY:=∀(x:Int),T [.int .i64 x] (.bool false)
def C714:Prop:=JY (aG Z 714)
def JX:=∀(x:au),T [.str x] (.bool false)
def C704:Prop:=JX (aG Z 704)
def ud:=∀(a:Int) (b:Int),T [.int .i64 a,.int .i64 b] (.int .i64 (dn a b))
def C532:Prop:=ud (aG Z 532)
def uc:=∀(a:au) (b:au),T [.str a,.str b] (.int .i64 (pH a b))
def C516:Prop:=uc (aG Z 516)
def JC:=∀(l:List Int),T [.sl 1 (l.map (D.int .i64))] (.int .i64 (fV (λi=>l[i]!) 0 l.length))
def C531:Prop:=JC (aG Z 531)
def JB:=∀(v:bV),T [bV.D v] (bV.D (rY v))
def C530:Prop:=JB (aG Z 530)
def uf:=∀(a:au) (b:au),T [.str a,.str b] (.int .i64 (yk a b))
def C534:Prop:=uf (aG Z 534)
def tS:=∀(a:bV) (b:bV),(a.sm/\b.sm)->T [bV.D a,bV.D b] (.int .i64 (iL a b))
def Tg:Prop:=tS (aG Z 295)
def um:=∀(a:bV) (b:bV),(a.sm/\b.sm)->T [bV.D a,bV.D b] (.bool (A4 a b))
def C701:Prop:=um (aG Z 701)
def JW:=∀(x:iQ) (nm:au) (v:bV),(x.r.v.sm/\v.sm)->T [iQ.D x,.ref 1 [.str nm] 0 0,.ref 5 [bV.D v] 0 0] (.bool (yz nm v x))
def C700:Prop:=JW (aG Z 700)
def JV:=∀(l:List iQ) (nm:au) (v:bV),((∀x∈l,x.r.v.sm)/\v.sm)->T [.sl 11 (l.map iQ.D),.fn 700 [.ref 1 [.str nm] 0 0,.ref 5 [bV.D v] 0 0]] (.int .i64 (qo l nm v 0))
def C699:Prop:=JV (aG Z 699)
def ub:=∀(l:List iQ) (nm:au) (v:bV),((∀x∈l,x.r.v.sm)/\v.sm)->T [.sl 11 (l.map iQ.D),.str nm,bV.D v] (.int .i64 (qo l nm v 0))
def C511:Prop:=ub (aG Z 511)
def tV:=∀(s:bA),(∀x∈s.es,gI x.r)->T [bA.D s] (.bool (fO s))
def C353:Prop:=tV (aG Z 353)
def Kb:=∀(n:Nat),(n<=9999)->T [.int .u64 (n:Nat)] (.str (nT n))
def C882:Prop:=Kb (aG Z 882)
def C734:Prop:=oT (aG Z 734)
def C470:Prop:=ue (aG Z 470)
def Jm:=∀(c:Int),T [.int .u8 c] (.bool (jU c))
def C453:Prop:=Jm (aG Z 453)
def Jn:=∀(c:Int),T [.int .u8 c] (.bool (bJ c))
def C454:Prop:=Jn (aG Z 454)
def VC:Prop:=tT (aG Z 357)
def GN:Prop:=tL (aG Z 216)
def C667:Prop:=uj (aG Z 667)
def C668:Prop:=uk (aG Z 668)
def JM:=∀(t:au),T [.str t] (.bool (wi t))
def C666:Prop:=JM (aG Z 666)
def Jo:=∀(s:au) (p:Bool),(s.length<=1048576)->T [.str s,.bool p] (.bool (D4 s p))
def C456:Prop:=Jo (aG Z 456)
def C455:Prop:=tY (aG Z 455)
def BT:Prop:=tM (aG Z 217)
def JF:=∀(v:bV),(Cq v.major=true/\Cq v.minor=true/\Cq v.patch=true)->T [bV.D v] (.str (nT v.major.toNat++[46]++nT v.minor.toNat++[46]++nT v.patch.toNat))
def C554:Prop:=JF (aG Z 554)
def C316:Prop:=ua (aG Z 316)
def Ju:=∀(h:Int) (n:Nat),(n<=63)->T [.int .u64 h,.int .u64 (n:Nat)] (.int .u64 (rot h n))
def C464:Prop:=Ju (aG Z 464)
def C221:Prop:=tP (aG Z 221)
def J5:=∀(l:List au) (al:Bool),T [.sl 1 (l.map D.str),.bool al] (.bool (nH l al))
def C812:Prop:=J5 (aG Z 812)
def C669:Prop:=tZ (aG Z 669)
def C457:Prop:=tN (aG Z 457)
def Jp:=∀(r:Rec) (b:lu),(b.sm)->T [Rec.D r,lu.D b] (.int .i64 (rT r b))
def C458:Prop:=Jp (aG Z 458)
def JN:=∀(r:Rec) (x:au),T [Rec.D r,.str x] (.bool (YC r.needs x))
def C673:Prop:=JN (aG Z 673)
def JO:=∀(r:Rec) (x:au),T [Rec.D r,.str x] (.bool (Mp r.needs x))
def C674:Prop:=JO (aG Z 674)
def Jq:=∀(r:Rec) (of:List au),(∀t∈of,ry t)->T [Rec.D r,.sl 1 (of.map D.str)] (.int .i64 (mO r of))
def C460:Prop:=Jq (aG Z 460)
def Jr:=∀(w:de),(w.fit)->T [de.D w] (.str (j0 w))
def C461:Prop:=Jr (aG Z 461)
def Js:=∀(s:au),(s.length<=1048576)->T [.str s] (.str (kA s))
def C462:Prop:=Js (aG Z 462)
def IY:=∀(r:Rec),(gI r)->T [Rec.D r] (.tup [.int .i64 (en r).1,.int .i64 (en r).2])
def C218:Prop:=IY (aG Z 218)
def C71:Prop:=zx (aG Z 71)
def C73:Prop:=zy (aG Z 73)
def C75:Prop:=zz (aG Z 75)
def VF:Prop:=ud (aG Z 630)
def C927:Prop:=uc (aG Z 927)
def C783:Prop:=uf (aG Z 783)
def JL:=∀(a:au) (b:au),(a.length<=1048576/\b.length<=1048576)->T [.str a,.str b] (.int .i64 (A6 a b))
def C631:Prop:=JL (aG Z 631)
def Tj:Prop:=tS (aG Z 424)
def C501:Prop:=um (aG Z 501)
def VE:Prop:=ub (aG Z 580)
def Ti:Prop:=tV (aG Z 358)
def Ja:=∀(x:bA) (s:bA),T [bA.D x,.ref 2 [bA.D s] 0 0] (.bool (AZ s.name x))
def C355:Prop:=Ja (aG Z 355)
def I9:=∀(l:List bA) (s:bA),T [.sl 2 (l.map bA.D),.fn 355 [.ref 2 [bA.D s] 0 0]] (.int .i64 (lq l s.name))
def C354:Prop:=I9 (aG Z 354)
def tJ:=∀(l:List bA),(iH l)->T [.sl 2 (l.map bA.D)] (.bool (dr l))
def C142:Prop:=tJ (aG Z 142)
def tW:=∀(l:List bA) (nm:au),T [.sl 2 (l.map bA.D),.str nm] (.int .i64 (lq l nm))
def C359:Prop:=tW (aG Z 359)
def C145:Prop:=tJ (aG Z 145)
def tR:=∀(s:bA) (nm:au) (v:bV),((∀x∈s.es,gI x.r)/\v.sm)->T [bA.D s,.str nm,bV.D v] (.int .i64 (fG s nm v))
def C274:Prop:=tR (aG Z 274)
def C695:Prop:=tR (aG Z 695)
def qk:=∀(c:Cut),(c.v.sm)->T [Cut.D c] (.bool (pI c))
def QP:Prop:=qk (aG Z 1086)
def qi:=∀(a:Cut) (b:Cut),(a.v.sm/\b.v.sm)->T [Cut.D a,Cut.D b] (.int .i64 (lg a b))
def QO:Prop:=qi (aG Z 1020)
def qj:=∀(c:Cut) (v:bV),(c.v.sm/\v.sm)->T [Cut.D c,bV.D v] (.bool (j4 c v))
def ae2:Prop:=qj (aG Z 1025)
def qh:=∀(s:Span),(s.sm)->T [Span.D s] (.bool (qa s))
def KM:Prop:=qh (aG Z 1019)
def uu:=∀(s:Span) (v:bV),(s.sm/\v.sm)->T [Span.D s,bV.D v] (.bool (sg s v))
def C926:Prop:=uu (aG Z 926)
def ur:=∀(l:List Span),(zF l)->T [.sl 14 (l.map Span.D)] (.bool (sK l))
def VI:Prop:=ur (aG Z 916)
def uq:=∀(l:List Span) (v:bV),(zF l/\v.sm)->T [.sl 14 (l.map Span.D),bV.D v] (.bool (vZ l v))
def C782:Prop:=uq (aG Z 782)
def JH:=∀(v:bV),T [bV.D v] (.bool (vK v))
def C600:Prop:=JH (aG Z 600)
def Ki:=∀(c:Cut),T [Cut.D c] (.bool (mS c))
def C917:Prop:=Ki (aG Z 917)
def uo:=∀(s:cx),(s.sm)->T [cx.D s] (.bool (v8 s))
def VG:Prop:=uo (aG Z 770)
def ui:=∀(s:cx) (v:bV),(s.sm/\v.sm)->T [cx.D s,bV.D v] (.bool (oY s v))
def C627:Prop:=ui (aG Z 627)
def S6:Prop:=T [] (cx.D R2)
def C375:Prop:=S6 (aG Z 375)
def aeT:Prop:=T [] (cx.D pC)
def C374:Prop:=aeT (aG Z 374)
def aaC {q:α->D}{xs:List α}{m:List (Nat×bj)}{l:Nat}{sh:List Sh}(hq:∀x,xV m sh (q x)=q x)(hl:look m l=some (.buf k (xs.map q))):xV m [.sl k sh] (.own l k 0 xs.length)=.sl k (xs.map q):=by
 show D.sl k _=_;simp only[aH,hl,cY,bH,List.map_map];congr 1;apply List.map_congr_left;intro x _;have:=hq x;simp only[Function.comp];generalize q x=d at this;cases d<;>exact this
def SV {q:α->D}{xs:List α}{m:List (Nat×bj)}{l:Nat}{sh:List Sh}(hq:∀x,xVO m sh (q x))(hl:look m l=some (.buf k (xs.map q))):xVO m [.sl k sh] (.own l k 0 xs.length):=by
 refine⟨by simp only[dT,hl];exact⟨trivial,aC⟩,λe he=>?_⟩;simp only[aH,hl,cY,bH,bY]at he;obtain⟨x,_,rfl⟩:=he;have:=hq x;generalize q x=d at this;cases d<;>exact this
def QQ:Prop:=qk (aG Z 1087)
def Vy:Prop:=qi (aG Z 1024)
def ae3:Prop:=qj (aG Z 1055)
def Vx:Prop:=qh (aG Z 1023)
def C980:Prop:=uu (aG Z 980)
def C925:Prop:=ur (aG Z 925)
def C861:Prop:=uq (aG Z 861)
def Kj:=∀(c:Cut),T [Cut.D c] (.bool (rH c))
def C924:Prop:=Kj (aG Z 924)
def C780:Prop:=uo (aG Z 780)
def C712:Prop:=ui (aG Z 712)
def Jf:=∀(a:Key) (b:Key),T [Key.D a,Key.D b] (.int .i64 (HK a b))
def C408:Prop:=Jf (aG Z 408)
def JK:=∀(l:List Want) (n:Int),(∀x∈l,x.sm)->T [.sl 3 (l.map Want.D),.int .i64 n] (.bool (pn n l))
def C622:Prop:=JK (aG Z 622)
def J4:=∀(w:Want) (n:Int),(w.sm)->T [Want.D w,.int .i64 n] (.bool (sP n w))
def C778:Prop:=J4 (aG Z 778)
def J3:=∀(l:List Want) (n:Int),(∀x∈l,x.sm)->T [.sl 3 (l.map Want.D),.int .i64 n] (.bool (rE n l))
def C777:Prop:=J3 (aG Z 777)
def JJ:=∀(c:eB) (n:Int),(c.sm)->T [eB.D c,.int .i64 n] (.bool (gJ c.v&&mY n c))
def C618:Prop:=JJ (aG Z 618)
def Jg:=∀(c:eB) (n:Int),(c.sm)->T [eB.D c,.int .i64 n] (.bool (mY n c))
def C409:Prop:=Jg (aG Z 409)
def JI:=∀(a:cI) (b:cI),T [cI.D a,cI.D b] (.bool (jL a b))
def C617:Prop:=JI (aG Z 617)
def Je:=∀(w:bP) (i:Int),(w.sm/\(0<=i/\i<w.us.length)/\w.us.length<=48)->T [bP.D w,.int .i64 i] (.bool (sN w.us i.toNat))
def C403:Prop:=Je (aG Z 403)
def tK:=∀(w:bP),(w.sm)->T [bP.D w] (.bool (eG w))
def C169:Prop:=tK (aG Z 169)
def C175:Prop:=tK (aG Z 175)
def JA:=∀(w:bP) (c:List Int),(w.sm)->T [bP.D w,.sl 1 (c.map (D.int .i64))] (.bool (uD w c))
def C510:Prop:=JA (aG Z 510)
def tQ:=∀(w:bP) (c:List Int),(w.sm)->T [bP.D w,.sl 1 (c.map (D.int .i64))] (.bool (ey w c))
def C273:Prop:=tQ (aG Z 273)
def uh:=∀(w:bP) (c:List Int) (x:Want),(MetW w c x)->T [bP.D w,.sl 1 (c.map (D.int .i64)),Want.D x] (.bool (kR w c x))
def C624:Prop:=uh (aG Z 624)
def ug:=∀(w:bP) (c:List Int) (l:List Want),(∀x∈l,MetW w c x)->T [bP.D w,.sl 1 (c.map (D.int .i64)),.sl 3 (l.map Want.D)] (.bool (DY w c l))
def C623:Prop:=ug (aG Z 623)
def VB:Prop:=tQ (aG Z 170)
def C629:Prop:=uh (aG Z 629)
def C628:Prop:=ug (aG Z 628)
def tX:=∀(w:bP) (c:List Int),(WrgP w c)->T [bP.D w,.sl 1 (c.map (D.int .i64))] (.sl 3 ((jh w c).map wy.D))
def C410:Prop:=tX (aG Z 410)
def Jj:=∀(w:bP) (c:List Int) (u:Nat),(OneP w c u)->T [bP.D w,.sl 1 (c.map (D.int .i64)),.int .i64 ((u:Nat):Int)] (.sl 3 ((A2 w c u).map wy.D))
def C417:Prop:=Jj (aG Z 417)
def C186:Prop:=tX (aG Z 186)
def Qw:=∀(w:bP) (c:List Int),(WrgP w c)->T [bP.D w,.sl 1 (c.map (D.int .i64))] (.bool (ey w c&&decide ((jh w c).length=0)))
def C52:Prop:=Qw (aG Z 52)
def Jz:=∀(s:bA) (nm:au) (v:bV),((∀x∈s.es,gI x.r)/\v.sm)->T [bA.D s,.str nm,bV.D v] (.tup [iQ.D (oH s nm v).1,.bool (oH s nm v).2])
def C508:Prop:=Jz (aG Z 508)
def JQ:=∀(c:eB) (x:ea),(c.v.sm/\x.v.sm)->T [eB.D c,.ref 9 [ea.D x] 0 0] (.bool (Vr x.v true c))
def C690:Prop:=JQ (aG Z 690)
def JR:=∀(c:eB) (x:ea),(c.v.sm/\x.v.sm)->T [eB.D c,.ref 9 [ea.D x] 0 0] (.bool (Vr x.v false c))
def C691:Prop:=JR (aG Z 691)
def JP:=∀(l:List eB) (b:Bool) (x:ea),((∀c∈l,c.v.sm)/\x.v.sm)->T [.sl 8 (l.map eB.D),.fn (bif b then 690 else 691) [.ref 9 [ea.D x] 0 0]] (.int .i64 (fR (Vr x.v b) l 0))
def C689:Prop:=JP (aG Z 689)
def C502:=∀(shop:List bA) (w:bP) (x:ea) (c:List Int) (kvs:List D),LinP shop w x c->VX w.us kvs->∀(nx lm lc:Nat) (m:List (Nat×bj)) (K:D->St->Prop),lc<nx->lm<nx->look m lc=some (.buf 1 (c.map (D.int .i64)))->look m lm=some (.mpb kvs)->K (.int .i64 (kT shop w.us x c).1) ⟨nx,cT m lc (.buf 1 ((kT shop w.us x c).2.map (D.int .i64)))⟩->Z.tr 502 [.agg [.sl 2 (shop.map bA.D),.sl 3 (w.us.map cI.D),.fn 5000000 [.it lm],.own lc 1 0 w.us.length],ea.D x] ⟨nx,m⟩ K
def tI:=∀(e:Env),T [Env.D e] (.bool (nV e))
def C138:Prop:=tI (aG Z 138)
def JE:=∀(x:ea),(x.sm)->T [ea.D x] (.bool (Hs x))
def C553:Prop:=JE (aG Z 553)
def I6:=∀(l:lI),(l.sm)->T [lI.D l] (.bool (LM l))
def C315:Prop:=I6 (aG Z 315)
def I0:=∀(shop:List bA) (e:Env) (w:bP) (l:lI),(ChoP shop w l)->T [.sl 2 (shop.map bA.D),Env.D e,bP.D w,lI.D l] (.tup [.sl 1 ((jk shop e w l).1.map (D.int .i64)),.int .i64 (jk shop e w l).2.1,.str (jk shop e w l).2.2])
def C264:Prop:=I0 (aG Z 264)
def VA:Prop:=tI (aG Z 144)
def IV:=∀(l:lI) (nm:au),T [lI.D l,.str nm] (.int .i64 (iX l.lines nm 0))
def C190:Prop:=IV (aG Z 190)
def I1:=∀(shop:List bA) (e:Env) (w:bP) (l:lI),(ChoP shop w l)->T [.sl 2 (shop.map bA.D),Env.D e,bP.D w,lI.D l] (.tup [.int .i64 (wQ shop e w l).1,.str (wQ shop e w l).2])
def C265:Prop:=I1 (aG Z 265)
def Qs:=∀(v:Int) (n:Int),(n<=9223372036854775807)->T [.int .i64 v,.int .i64 n] (.int .i64 (iE v n))
def C25:Prop:=Qs (aG Z 25)
def IQ:=∀(l:List Int) (i:Int),T [.sl 1 (l.map (D.int .i64)),.int .i64 i] (.int .i64 (atI l i))
def C159:Prop:=IQ (aG Z 159)
def GM:=∀(g:Gs) (n:Int),(n<=9223372036854775807)->(0<=g.i/\g.i<=1000000)->Z.fp 109 (Gs.D g) [.int .i64 n]/\Z.fv 109 (Gs.D g) [.int .i64 n]=.int .i64 (g.val n)/\Z.fs 109 (Gs.D g) [.int .i64 n]=Gs.D g.aS
def SZ:Prop:=T [] (.sl 5 (bF.map bV.D))
def C112:Prop:=SZ (aG Z 112)
def SY:Prop:=T [] (.sl 1 (cF.map D.str))
def C111:Prop:=SY (aG Z 111)
def S1:Prop:=T [] (.sl 1 (kd.map D.str))
def C135:Prop:=S1 (aG Z 135)
def JD:=∀(l:List au) (s:au),T [.sl 1 (l.map D.str),.str s] (.int .i64 (EX l s))
def C536:Prop:=JD (aG Z 536)
def C297:=∀(g:Gs) (own:au),(0<=g.i/\g.i<=990000)->Z.fp 297 (Gs.D g) [.str own]/\Z.fv 297 (Gs.D g) [.str own]=.str (cS g own).1/\Z.fs 297 (Gs.D g) [.str own]=Gs.D (cS g own).2
def C535:=∀(g:Gs) (own:au),(0<=g.i/\g.i<=990000)->Z.fp 535 (Gs.D g) [.str own]/\Z.fv 535 (Gs.D g) [.str own]=de.D (dE g own).1/\Z.fs 535 (Gs.D g) [.str own]=Gs.D (dE g own).2
def C296:=∀(g:Gs) (own:au),(0<=g.i/\g.i<=980000)->Z.fp 296 (Gs.D g) [.str own]/\Z.fv 296 (Gs.D g) [.str own]=bn.D (mB g own).1/\Z.fs 296 (Gs.D g) [.str own]=Gs.D (mB g own).2
def C298:=∀(g:Gs) (l:List bn),(0<=g.i/\g.i<=980000)->((∀n∈l,n.sm)/\l.length<=1000)->Z.fp 298 (Gs.D g) [.sl 3 (l.map bn.D)]/\Z.fv 298 (Gs.D g) [.sl 3 (l.map bn.D)]=b6.D (m6 g l).1/\Z.fs 298 (Gs.D g) [.sl 3 (l.map bn.D)]=Gs.D (m6 g l).2
def C110:=∀(g:Gs) (nm:au) (v:bV) (most:Int),(0<=g.i/\g.i<=970000)->(0<=most/\most<=100)->Z.fp 110 (Gs.D g) [.str nm,bV.D v,.int .i64 most]/\Z.fv 110 (Gs.D g) [.str nm,bV.D v,.int .i64 most]=Rec.D (ph g nm v most).1/\Z.fs 110 (Gs.D g) [.str nm,bV.D v,.int .i64 most]=Gs.D (ph g nm v most).2
def Jw:=∀(s:bA) (r:Rec),((∀x∈s.es,gI x.r)/\gI r)->T [bA.D s,Rec.D r] (.tup [bA.D (kU s r).1,.int .i64 (kU s r).2])
def C504:Prop:=Jw (aG Z 504)
def Jv:=∀(s:bA) (nm:au) (v:bV) (on:Bool),((∀x∈s.es,gI x.r)/\v.sm)->T [bA.D s,.str nm,bV.D v,.bool on] (.tup [bA.D (oB s nm v on).1,.int .i64 (oB s nm v on).2])
def C503:Prop:=Jv (aG Z 503)
def C266:=∀(g:Gs) (l:List bA),(0<=g.i/\g.i<=960000)->(iH l/\1<=l.length/\l.length<=100)->Z.fp 266 (Gs.D g) [.sl 2 (l.map bA.D)]/\Z.fv 266 (Gs.D g) [.sl 2 (l.map bA.D)]=.sl 2 ((lS g l).1.map bA.D)/\Z.fs 266 (Gs.D g) [.sl 2 (l.map bA.D)]=Gs.D (lS g l).2
def Qx:=∀(ks:List Int) (most:Int),(0<=most/\most<=100)->T [.sl 1 (ks.map (D.int .i64)),.int .i64 most] (.sl 2 ((b8 ks most).map bA.D))
def C90:Prop:=Qx (aG Z 90)
def Qu:=∀(n:Int),T [.int .i64 n] (Env.D (iD n))
def C29:Prop:=Qu (aG Z 29)
def eZ:Env:=⟨[],[],[]⟩
def QV:bP:=⟨[⟨[],[],[⟨zV,-1,[],[]⟩]⟩]⟩
def antL:ea:=⟨[97,110,116],zV,[],0,[]⟩
def awk_1:jk [] eZ QV ⟨eZ,[]⟩=([0],0,[]):=by decide+kernel
def awk_2:wQ [] eZ QV ⟨eZ,[]⟩=(0,[]):=by decide+kernel
def awk_3:wQ [] eZ QV ⟨iD 1,[]⟩=(34,[]):=by decide+kernel
def awk_4:wQ [] eZ QV ⟨eZ,[antL]⟩=(9,[97,110,116]):=by decide+kernel
def ahp:QV.sm:=by
 intro u hu;rw[aD.1 hu];refine⟨aV,λc hc=>?_⟩;rw[aD.1 hc];exact⟨⟨aV,aV⟩,λ_ h=>bZ,λ_ h=>bZ⟩
def QW {l:lI}(h:l.sm):ChoP [] QV l:=⟨(λ_ h=>bZ),ahp,h⟩
theorem aiI (n:Int):∀i,((iD n).at i).length<=1048576:=by
 intro i;have h:(Fu[(iE n 3).toNat]!).length<=1048576:=vH (P:=λs:au=>s.length<=1048576) aV aV _;unfold iD Env.at
 grind
def aaN:Prop:=T [] (.bool true)
def C89:Prop:=aaN (aG Z 89)
def B4 (m:List (Nat×bj))(l k n:Nat):Bool:=match look m l with
 |some (.buf k' es)=>decide (k=k')&&decide (n<=es.length)
 |_=>false
theorem wL {m:List (Nat×bj)}{l:Nat}(h:B4 m l k n=true):dT m l k n:=by
 unfold B4 at h;unfold dT;split at h<;>simp_all
def dW (b:Bool)(a:Option α):Option α:=match b with|true=>a|false=>none
def cA {b:Bool}{a:Option α}{x:α}(h:dW b a=some x):b=true/\a=some x:=by cases b<;>simp_all[dW]
def R6 {e:D}(h:dW d.aR (some d)=some e):d.aR=true/\d=e:=⟨(cA h).1,aW (cA h).2⟩
def X6 (f:D->Option D):List D->Option (List D)
 |[]=>some []
 |d::r=>match f d with
  |some e=>match X6 f r with
   |some s=>some (e::s)
   |none=>none
  |none=>none
def puC (m:List (Nat×bj))(pv:List Sh->D->Option D):Sh->D->Option D
 | .a,d=>match d with
  | .aL=>some (.sl 0 [])
  |d=>dW d.aR (some d)
 | .sl k cs,d=>match d with
  | .aL=>some (.sl k [])
  | .own l k' i c=>dW (B4 m l k' (i+c)) ((X6 (pv cs) (((aH m l).drop i).take c)).map (.sl k'))
  |d=>dW d.aR (some d)
 | .pt cs,d=>match d with
  | .ptr l k i o=>dW (B4 m l k 0) ((X6 (pv cs) (aH m l)).map λes=>.ref k es i o)
  |d=>dW d.aR (some d)
 | .kp _,_=>none
def puL (pc:Sh->D->Option D):List Sh->List D->Option (List D)
 |[],ds=>dW (aK ds) (some ds)
 |_::_,[]=>some []
 |s::r,d::ds=>match pc s d with
  |some e=>match puL pc r ds with
   |some es=>some (e::es)
   |none=>none
  |none=>none
def puV (m:List (Nat×bj)):Nat->List Sh->D->Option D
 |0,_,_=>none
 |n+1,ss,d=>match ss with
  |[]=>dW d.aR (some d)
  |s::r=>match d with
   | .agg cs=>(puL (puC m (puV m n)) (s::r) cs).map .agg
   |d=>puC m (puV m n) s d
def puS (m:List (Nat×bj)):List (List Sh)->List D->Option (List D)
 |_,[]=>some []
 |[],d::r=>match puV m 9 [.a] d with
  |some e=>match puS m [] r with
   |some es=>some (e::es)
   |none=>none
  |none=>none
 |s::ss,d::r=>match puV m 9 s d with
  |some e=>match puS m ss r with
   |some es=>some (e::es)
   |none=>none
  |none=>none
theorem RL {P:D->Prop}{g f:D->_}(hf:∀d e,f d=some e->P d/\g d=e):∀{l r:List D},X6 f l=some r->(∀d∈l,P d)/\l.map g=r:=by
 intro l;induction l<;>grind [X6]
section
variable {m:List (Nat×bj)}
def ako {pv:List Sh->D->Option D}(hv:∀s d e,pv s d=some e->gH m s d/\jg m s d=e){s:Sh}{e:D}(h:puC m pv s d=some e):ix m s d/\kS m s d=e:=by
 cases s with
 |a=>cases d<;>simp only[puC,ix,kS]at h⊢ <;>first|exact R6 h|exact⟨rfl,aW h⟩
 |kp cs=>cases h
 |sl k cs=>
  cases d<;>simp only[puC,ix,kS]at h⊢
  case own l k' i c=>
   obtain⟨h1,h2⟩:=cA h;obtain⟨es,h3,rfl⟩:=dd.1 h2;obtain⟨h4,h5⟩:=RL (hv cs) h3;exact⟨⟨wL h1,h4⟩,by rw[h5]⟩
  all_goals first|exact R6 h|exact⟨rfl,aW h⟩
 |pt cs=>
  cases d<;>simp only[puC,ix,kS]at h⊢
  case ptr l k i o=>
   obtain⟨h1,h2⟩:=cA h;obtain⟨es,h3,rfl⟩:=dd.1 h2;obtain⟨h4,h5⟩:=RL (hv cs) h3;exact⟨⟨wL h1,h4⟩,by rw[h5]⟩
  all_goals first|exact R6 h|exact⟨rfl,aW h⟩
theorem akp {pc:Sh->D->Option D}(hc:∀s d e,pc s d=some e->ix m s d/\kS m s d=e):∀{ss:List Sh}{ds es:List D},puL pc ss ds=some es->ku m ss ds/\nD m ss ds=es:=by
 intro ss;induction ss with
 |nil=>intro ds es h;simp only[ku,nD];exact⟨(cA h).1,aW (cA h).2⟩
 |cons s r ih=>
  intro ds es h;cases ds with
  |nil=>simp_all[puL,ku,nD]
  |cons d ds=>
   simp only[puL]at h;simp only[ku,nD]
   grind
theorem YX:∀{n:Nat}{ss:List Sh}{d e:D},puV m n ss d=some e->gH m ss d/\jg m ss d=e:=by
 intro n;induction n with
 |zero=>intro ss d e h;cases h
 |succ n ih=>
  intro ss d e h;have hc:∀s d e,puC m (puV m n) s d=some e->ix m s d/\kS m s d=e:=λs d e h=>ako (λs d e h=>ih h) h
  cases ss with
  |nil=>simp only[gH,jg];exact R6 h
  |cons s r=>
   cases d
   case agg cs=>
    simp only[puV]at h;obtain⟨es,h3,rfl⟩:=dd.1 h;have:=akp hc h3;simp only[gH,jg];exact⟨this.1,by rw[this.2]⟩
   all_goals simp only[puV]at h;simp only[gH,jg];exact hc _ _ _ h
theorem YW:∀{sh:List (List Sh)}{ds es:List D},puS m sh ds=some es->jl m sh ds/\iG m sh ds=es:=by
 intro sh ds;induction ds generalizing sh with
 |nil=>intro es h;cases sh<;>simp_all[puS,jl,iG]
 |cons d r ih=>
  intro es h;cases sh<;>simp only[puS]at h<;>simp only[jl,iG]<;>grind [YX]
end
def Rl (J:Src->aY)(len:Nat):List (Nat×Nat×Src)->Bool
 |[]=>true
 |(o,n,s)::r=>((J s).ok&&decide ((J s).d.cells.length=n))&&(decide (o+n<=len)&&Rl J len r)
def Cd (J:Src->aY)(k n:Nat):List (Nat×Src)->Bool
 |[]=>true
 |(i,s)::r=>(decide (i<n)&&(J s).ok)&&(decide ((J s).d.cells.length=k)&&Cd J k n r)
def Um (J:Src->aY):List Src->Bool
 |[]=>true
 |s::r=>(J s).ok&&Um J r
theorem W6 {len:Nat}:∀{l:List (Nat×Nat×Src)},Rl J len l=true->zQ J len l:=by
 intro l;induction l<;>grind [Rl,zQ]
theorem TH:∀{l:List (Nat×Src)},Cd J k n l=true->qA J k n l:=by
 intro l;induction l<;>grind [Cd,qA]
theorem HG:∀{l:List Src},Um J l=true->BB J l:=by
 intro l;induction l<;>grind [Um,BB]
def ldB (m:List (Nat×bj))(n:Nat):D->Bool
 | .ptr l k i o=>B4 m l k (i+1)&&decide (o+n<=k)
 | .ref k es i o=>decide (i<es.length)&&decide (o+n<=k)
 |_=>false
theorem XP {m:List (Nat×bj)}(h:ldB m n d=true):KJ m n d:=by
 cases d<;>simp_all[ldB,KJ]<;>exact wL h.1
def binB (op:BinOp):D->D->Bool
 | .int k a,.int k' b=>match op with
  | .quo=>decide (k=k')&&decide (b≠0)
  | .rem=>decide (k=k')&&decide (b≠0)
  | .shl=>false
  | .shr=>false
  |_=>decide (k=k')
 | .str a,.str b=>match op with
  | .add=>decide (a.length+b.length<=9223372036854775807)
  | .eql=>true| .neq=>true| .lss=>true| .geq=>true| .leq=>true| .gtr=>true
  |_=>false
 |_,_=>false
theorem acb {op:BinOp}{a b:D}(h:binB op a b=true):AO op a b:=by
 cases a<;>cases b<;>cases op<;>simp_all[binB,AO]
def ET (o:Option D)(hi:Nat):Bool:=match o with
 |none=>true
 |some (.int _ n)=>decide (0<=n)&&decide (n<=hi)
 |_=>false
theorem acf {o:Option D}{hi:Nat}(h:ET o hi=true):nt o hi:=by
 unfold ET at h;unfold nt;split at h<;>simp_all
def Ul (J:Src->aY):Option Src->Bool
 |none=>true
 |some s=>(J s).ok
theorem adV {o:Option Src}(h:Ul J o=true):Ma J o:=by cases o<;>simp_all[Ul,Ma]
def elsB (m:List (Nat×bj))(k:Nat):D->Bool
 | .sl k' _=>decide (k'=k)
 | .own l k' i n=>decide (k'=k)&&B4 m l k (i+n)
 | .str _=>decide (k=1)
 | .aL=>true
 |_=>false
theorem acX {m:List (Nat×bj)}(h:elsB m k d=true):Ca m k d:=by
 cases d<;>simp_all[elsB,Ca]<;>exact wL h.2
def oblB (J:Src->aY)(m:List (Nat×bj)):ax->Bool
 | .mv x=>(J x).ok
 | .pick c a b=>(J c).ok&&match(J c).d with
  | .bool true=>(J a).ok
  | .bool false=>(J b).ok
  |_=>false
 | .box k x=>(J x).ok&&decide ((J x).d.cells.length=k)
 | .build z ps=>Rl J z.length ps
 | .bsl k z n ps=>decide (z.cells.length=k)&&Cd J k n ps
 | .ld n _ p=>(J p).ok&&ldB m n (J p).d
 | .st n p v=>((J p).ok&&(J v).ok)&&(decide ((J v).d.cells.length=n)&&match(J p).d with
  | .ptr l k i o=>B4 m l k (i+1)&&decide (o+n<=k)
  |_=>false)
 | .nilck x=>(J x).ok&&match(J x).d with| .ptr .. =>true| .ref .. =>true|_=>false
 | .bin op x y=>((J x).ok&&(J y).ok)&&binB op (J x).d (J y).d
 | .mn _ x y=>((J x).ok&&(J y).ok)&&match(J x).d,(J y).d with| .int _ _,.int _ _=>true|_,_=>false
 | .un op x=>(J x).ok&&match op,(J x).d with
  | .not,.bool _=>true
  | .neg,.int _ _=>true
  |_,_=>false
 | .cvi _ x=>(J x).ok&&match(J x).d with| .int _ _=>true|_=>false
 | .mks k z ln cp=>((J ln).ok&&(J cp).ok)&&(decide (z.cells.length=k)&&match(J ln).d,(J cp).d with
  | .int _ n,.int _ c=>decide (0<=n)&&(decide (n<=c)&&decide (c<=1073741824))
  |_,_=>false)
 | .slS x lo hi=>((J x).ok&&Ul J lo)&&(Ul J hi&&match(J x).d with
  | .str s=>ET (dO J hi) s.length&&ET (dO J lo) (ee (dO J hi) s.length)
  |_=>false)
 | .slA k x lo hi=>((J x).ok&&Ul J lo)&&(Ul J hi&&match(J x).d with
  | .sl k' es=>decide (k'=k)&&(ET (dO J hi) es.length&&ET (dO J lo) (ee (dO J hi) es.length))
  | .own _ k' _ n=>decide (k'=k)&&(ET (dO J hi) n&&ET (dO J lo) (ee (dO J hi) n))
  | .aL=>ET (dO J hi) 0&&ET (dO J lo) 0
  |_=>false)
 | .slX k x hi mx=>((J x).ok&&(J hi).ok)&&((J mx).ok&&match(J hi).d,(J mx).d with
  | .int _ h,.int _ m=>decide (0<=h)&&(decide (h<=m)&&match(J x).d with
    | .sl k' es=>decide (k'=k)&&decide (m<=es.length)
    | .own _ k' _ n=>decide (k'=k)&&decide (m<=n)
    |_=>false)
  |_,_=>false)
 | .fa _ p=>(J p).ok&&match(J p).d with| .ptr .. =>true| .ref .. =>true|_=>false
 | .fld off n ag x=>(J x).ok&&match(J x).d with| .agg cs=>decide (off+n<=cs.length)&&(ag ||decide (n=1))|_=>false
 | .ia k x i=>((J x).ok&&(J i).ok)&&match(J x).d,(J i).d with
  | .sl k' es,.int _ n=>decide (k'=k)&&(decide (0<=n)&&decide (n<es.length))
  | .own _ k' _ c,.int _ n=>decide (k'=k)&&(decide (0<=n)&&decide (n<c))
  |_,_=>false
 | .iaP n _ x i=>((J x).ok&&(J i).ok)&&match(J x).d,(J i).d with
  | .ptr ..,.int _ c=>decide (0<=c)&&decide (c<n)
  | .ref ..,.int _ c=>decide (0<=c)&&decide (c<n)
  |_,_=>false
 | .ixS x i=>((J x).ok&&(J i).ok)&&match(J x).d,(J i).d with
  | .str s,.int _ n=>decide (0<=n)&&decide (n<s.length)
  |_,_=>false
 | .ixA n k ag x i=>((J x).ok&&(J i).ok)&&((ag ||decide (k=1))&&match(J x).d,(J i).d with
  | .agg cs,.int _ c=>decide (0<=c)&&(decide (c<n)&&decide (cs.length=n*k))
  |_,_=>false)
 | .ext x i=>(J x).ok&&match(J x).d with| .tup ds=>decide (i<ds.length)|_=>false
 | .len x=>(J x).ok&&match(J x).d with| .sl _ _=>true| .own .. =>true| .aL=>true|_=>false
 | .lenS x=>(J x).ok&&match(J x).d with| .str _=>true|_=>false
 | .app k x y=>((J x).ok&&(J y).ok)&&(elsB m k (J y).d&&match(J x).d with
  | .own l k' i n=>decide (k'=k)&&(B4 m l k (i+n)&&decide (n+(qn m (J y).d).length<=1073741824))
  | .aL=>decide ((qn m (J y).d).length<=1073741824)
  |_=>false)
 | .appN k y=>(J y).ok&&(elsB m k (J y).d&&decide ((qn m (J y).d).length<=1073741824))
 | .bslI k z n ps=>decide (z.cells.length=k)&&(Cd J k n ps&&aK (mh J (List.replicate n z) ps))
 | .ldU n _ p=>(J p).ok&&match(J p).d with
  | .ptr l k i o=>(B4 m l k (i+1)&&decide (o+n<=k))&& !aK (aH m l)
  | .ref k es i o=>decide (i<es.length)&&decide (o+n<=k)
  |_=>false
 | .ldW n _ p=>(J p).ok&&match(J p).d with
  | .ptr l k i o=>(B4 m l k (i+1)&&decide (o+n<=k))&&decide (4<k)
  | .ref k es i o=>decide (i<es.length)&&decide (o+n<=k)
  |_=>false
 | .ldI n _ p=>(J p).ok&&match(J p).d with
  | .ref k es i o=>decide (i<es.length)&&decide (o+n<=k)
  |_=>false
 | .stU n p v qs=>((J p).ok&&(J v).ok)&&(decide ((J v).d.cells.length=n)&&match(J p).d with
  | .ptr l k i o=>B4 m l k (i+1)&&(decide (o+n<=k)&&(decide (k<=4) ||qs.all λq=>!(cg (J q).d).contains l))
  |_=>false)
 |_=>false
theorem adT {m:List (Nat×bj)}{i:ax}(h:oblB J m i=true):i.eE Y J m:=by
 cases i<;>simp only[oblB,aA,iJ]at h;all_goals simp only[ax.eE]
 all_goals grind [W6,TH,wL,XP,acb,acf,acX,adV]
def ax.spec:ax->Bool
 | .callM .. | .callvM .. | .isNl .. =>true
 |_=>false
def La:Ctx:=⟨λ_ _=>False,λ_ _=>.any,λ_ _ _ _=>False,λ_ _ _=>False,λ_ _ _=>.any,λ_ _ _=>.any,0⟩
def ax.lone:ax->Bool
 | .call .. | .callv .. | .callM .. | .callvM .. | .callF .. | .isNl .. =>false
 |_=>true
def aas {m:List (Nat×bj)}{L:Nat}{i:ax}(h:i.lone=true):i.val La J m L=i.val Y J m L:=by
 cases i<;>first|rfl|cases h
def WO {m:List (Nat×bj)}{L:Nat}{i:ax}(h:i.lone=true):i.bN La J m L=i.bN Y J m L:=by
 cases i<;>first|rfl|cases h
def TP (vs:List aY)(i:ax):Option (Nat×Bool)->Bool
 |none=>true
 |some (j,_)=>i.calm&&(!(vs.getD j .un).ok ||(vs.getD j .un).d.isBool)
theorem Hd {vs:List aY}{i:ax}(h:TP vs i g=true):Vp vs i g:=by
 cases g<;>simp_all[TP,Vp]<;>grind
def Ru (vs:List aY):Option (Nat×Bool)->Bool
 |none=>true
 |some (j,_)=>!(vs.getD j .un).ok ||(vs.getD j .un).d.isBool
theorem Lx {vs:List aY}(h:Ru vs g=true):yO vs g:=by
 cases g<;>simp_all[Ru,yO]<;>grind
abbrev EP:=Nat->List D->Option D
abbrev EM:=Nat->List D->St->Option (D×St)
variable{q:EM}
abbrev EL:=AC->List aY->St->Option (Ex×List aY×St)
def KI (p:EP)(q:EM):List GI->List aY->List aY->St->Option (List aY×St)
 |[],_,vs,st=>some (vs,{st with nx:=st.nx+vs.length})
 |⟨i,g⟩::r,env,vs,st=>match i with
  | .callM f args=>dW (Ru vs g) (match flag vs g with
   |true=>dW (Um (Src.ev env vs) args) (match q f (iS (Src.ev env vs) args) {st with nx:=st.nx+vs.length}with
    |some (d,st')=>dW (decide (st.nx+vs.length<=st'.nx)) (KI p q r env (vs++[⟨true,d⟩]) {st' with nx:=st'.nx-vs.length})
    |none=>none)
   |false=>KI p q r env (vs++[⟨false,.any⟩]) st)
  | .callvM f args=>dW (Ru vs g) (match flag vs g with
   |true=>match Src.ev env vs f with
    |⟨true,.fn n caps⟩=>dW (decide (n<2000000)&&Um (Src.ev env vs) args) (match q (Oe n) (Od n (iS (Src.ev env vs) args) caps) {st with nx:=st.nx+vs.length}with
     |some (d,st')=>dW (decide (st.nx+vs.length<=st'.nx)) (KI p q r env (vs++[⟨true,d⟩]) {st' with nx:=st'.nx-vs.length})
     |none=>none)
    |_=>none
   |false=>KI p q r env (vs++[⟨false,.any⟩]) st)
  | .call f args sh=>dW (TP vs i g) (match flag vs g with
   |true=>dW (Um (Src.ev env vs) args) (match puS st.m sh (iS (Src.ev env vs) args)with
    |some ds=>match p f ds with
     |some d=>dW (qv (iS (Src.ev env vs) args) d) (KI p q r env (vs++[⟨true,d⟩]) st)
     |none=>none
    |none=>none)
   |false=>KI p q r env (vs++[⟨false,.any⟩]) st)
  |i=>dW (i.lone&&TP vs i g) (match flag vs g with
   |true=>dW (oblB (Src.ev env vs) st.m i) (KI p q r env (vs++[⟨true,i.val La (Src.ev env vs) st.m (st.nx+vs.length)⟩]) {st with m:=i.bN La (Src.ev env vs) st.m (st.nx+vs.length)})
   |false=>KI p q r env (vs++[⟨false,.any⟩]) {st with m:=i.bN La (Src.ev env vs) st.m (st.nx+vs.length)})
def R4 (Y:Ctx)(p:EP):=∀f ds d,p f ds=some d->Y.pre f ds/\Y.val f ds=d
def okQ (Y:Ctx)(q:EM):=∀f ds st d st',q f ds st=some (d,st')->∀K:D->St->Prop,K d st'->Y.tr f ds st K
def aiL {p:EP}(hp:R4 Y p)(hq:okQ Y q){draw:Bool}:∀{ins:List GI}{env vs:List aY}{st:St}{vs':List aY}{st':St},KI p q ins env vs st=some (vs',st')->∀K:List aY->St->Prop,K vs' st'->eV Y draw ins env vs st K:=by
 intro ins;induction ins with
 |nil=>intro env vs st vs' st' h K hK;simp only[KI,aE,dj]at h;obtain⟨rfl,rfl⟩:=h;exact hK
 |cons gi r ih=>
  obtain⟨i,g⟩:=gi;intro env vs st vs' st' h K hK;have fin:∀{d:D} {m':List (Nat×bj)},i.spec=false->i.lD draw g=false->Vp vs i g->(flag vs g=true->i.eE Y (Src.ev env vs) st.m/\i.val Y (Src.ev env vs) st.m (st.nx+vs.length)=d)->i.bN Y (Src.ev env vs) st.m (st.nx+vs.length)=m'->
    KI p q r env (vs++[⟨flag vs g,d⟩]) {st with m:=m'} =some (vs',st')->eV Y draw (⟨i,g⟩::r) env vs st K:=by
   intro d m' h0 h1 h2 h3 h4 h5;have h6:=ih h5 K hK;subst h4;rw[show eV Y draw (⟨i,g⟩::r) env vs st K=(Vp vs i g/\(flag vs g=true->i.eE Y (Src.ev env vs) st.m)/\((flag vs g=true->i.KH draw (Src.ev env vs))->∃d,(flag vs g=true->i.val Y (Src.ev env vs) st.m (st.nx+vs.length)=d)/\
    eV Y draw r env (vs++[⟨flag vs g,d⟩]) {st with m:=i.bN Y (Src.ev env vs) st.m (st.nx+vs.length)} K))by
    cases i<;>first|(cases h0;done)|(simp only[eV];rw[h1];rfl)]
   exact⟨h2,λh=>(h3 h).1,λ_=>⟨d,λh=>(h3 h).2,h6⟩⟩
  have lon:(dW (i.lone&&TP vs i g) (match flag vs g with
   |true=>dW (oblB (Src.ev env vs) st.m i) (KI p q r env (vs++[⟨true,i.val La (Src.ev env vs) st.m (st.nx+vs.length)⟩]) {st with m:=i.bN La (Src.ev env vs) st.m (st.nx+vs.length)})
   |false=>KI p q r env (vs++[⟨false,.any⟩]) {st with m:=i.bN La (Src.ev env vs) st.m (st.nx+vs.length)}))=some (vs',st')->eV Y draw (⟨i,g⟩::r) env vs st K:=by
   intro h;obtain⟨h1,h2⟩:=cA h;rw[aA]at h1;have h3:=Hd h1.2;have h4:i.spec=false:=by revert h1;cases i<;>simp[ax.spec,ax.lone]
   have h5:i.lD draw g=false:=by cases g<;>simp_all[ax.lD,TP]
   rw[WO (Y:=Y) h1.1,aas (Y:=Y) h1.1]at h2;cases hf:flag vs g
   .rw[hf]at h2;exact fin (d:=.any) h4 h5 h3 (λh=>by rw[hf]at h;cases h) rfl (by rw[hf];exact h2)
   .rw[hf]at h2;obtain⟨h6,h7⟩:=cA h2;exact fin h4 h5 h3 (λ_=>⟨adT h6,rfl⟩) rfl (by rw[hf];exact h7)
  cases i
  case callM f args=>
   obtain⟨h0,h⟩:=cA h;refine⟨Lx h0,λhf=>?_,λhf=>?_⟩<;>rw[hf]at h
   .obtain⟨h1,h2⟩:=cA h;split at h2
    .rename_i d st1 h3;obtain⟨h4,h5⟩:=cA h2;exact⟨HG h1,hq _ _ _ _ _ h3 _ ⟨by simpa using h4,ih h5 K hK⟩⟩
    .cases h2
   .exact ih h K hK
  case callvM f args=>
   obtain⟨h0,h⟩:=cA h;refine⟨Lx h0,λhf=>?_,λhf=>?_⟩<;>rw[hf]at h
   .simp only at h;split at h
    .rename_i n caps h0;obtain⟨h1,h2⟩:=cA h;rw[aA]at h1;split at h2
     .rename_i d st1 h3;obtain⟨h4,h5⟩:=cA h2;rw[h0];exact⟨rfl,HG h1.2,by simpa using h1.1,hq _ _ _ _ _ h3 _ ⟨by simpa using h4,ih h5 K hK⟩⟩
     .cases h2
    .cases h
   .exact ih h K hK
  case call f args sh=>
   simp only[KI]at h;obtain⟨h1,h2⟩:=cA h;cases hf:flag vs g
   .rw[hf]at h2;exact fin (d:=.any) rfl (by simp[ax.lD,ax.calm]) (Hd h1) (λh=>by rw[hf]at h;cases h) rfl (by rw[hf];exact h2)
   .rw[hf]at h2;obtain⟨h3,h4⟩:=cA h2;split at h4
    .rename_i ds h5;split at h4
     .rename_i d h6;obtain⟨h7,h8⟩:=cA h4;obtain⟨e1,e2⟩:=YW h5;obtain⟨e3,e4⟩:=hp _ _ _ h6;refine fin (d:=d) rfl (by simp[ax.lD,ax.calm]) (Hd h1) (λ_=>?_) rfl (by rw[hf];exact h8);simp only[ax.eE,ax.val,e2,e4];exact⟨⟨HG h3,e1,e3,h7⟩,trivial⟩
     .cases h4
    .cases h4
  all_goals exact lon h
def ig {b:Bool}{a a':Option α}{x:α}(hm:a=some x->a'=some x)(h:dW b a=some x):dW b a'=some x:=by
 obtain⟨h1,h2⟩:=cA h;rw[h1];exact hm h2
def WS {p p':EP}{q':EM}(hp:∀f ds d,p f ds=some d->p' f ds=some d)(hq:∀f ds st d,q f ds st=some d->q' f ds st=some d):∀{ins:List GI}{env vs:List aY}{st:St}{x:List aY×St},KI p q ins env vs st=some x->KI p' q' ins env vs st=some x:=by
 intro ins;induction ins with
 |nil=>exact λh=>h
 |cons gi r ih=>
  obtain⟨i,g⟩:=gi;intro env vs st x h;cases i
  case callM f args=>
   refine ig (λh=>?_) h;cases hf:flag vs g<;>rw[hf]at h
   .exact ih h
   .refine ig (λh=>?_) h;split at h
    .rename_i h1;rw[hq _ _ _ _ h1];exact ig (λh=>ih h) h
    .cases h
  case callvM f args=>
   refine ig (λh=>?_) h;cases hf:flag vs g<;>rw[hf]at h
   .exact ih h
   .simp only at h⊢;split at h
    .refine ig (λh=>?_) h;split at h
     .rename_i h1;rw[hq _ _ _ _ h1];exact ig (λh=>ih h) h
     .cases h
    .cases h
  case call f args sh=>
   refine ig (λh=>?_) h;cases hf:flag vs g<;>rw[hf]at h
   .exact ih h
   .refine ig (λh=>?_) h;split at h
    .split at h
     .rename_i h2;simp only[hp _ _ _ h2];exact ig (λh=>ih h) h
     .cases h
    .cases h
  all_goals
   simp only[KI]at h⊢;obtain⟨h1,h2⟩:=cA h;rw[h1];cases hf:flag vs g<;>rw[hf]at h2
   .exact ih h2
   .obtain⟨h3,h4⟩:=cA h2;simp only[h3,dW];exact ih h4
def AR (p:EP)(q:EM)(l:EL):AC->List aY->St->Option (Ex×List aY×St)
 | .reg _ ins cm,env,st=>match KI p q ins env [] st with
  |some (vs,st')=>some (.normal,iB env vs cm,st')
  |none=>none
 | .seq a b,env,st=>match AR p q l a env st with
  |some (.normal,e,s)=>AR p q l b e s
  |r=>r
 | .cond c a b,env,st=>match c.ev env []with
  |⟨true,.bool true⟩=>AR p q l a env st
  |⟨true,.bool false⟩=>AR p q l b env st
  |_=>none
 | .block id a,env,st=>match AR p q l a env st with
  |some (.exit j,e,s)=>if j=id then some (.normal,e,s)else some (.exit j,e,s)
  |r=>r
 | .loop a,env,st=>l a env st
 | .exit id,env,st=>some (.exit id,env,st)
 | .ret,env,st=>some (.ret,env,st)
 | .skip,env,st=>some (.normal,env,st)
def okL (Y:Ctx)(l:EL):=∀a env st e env' st',l a env st=some (e,env',st')->∀Q:Ex->List aY->St->Prop,Q e env' st'->du Y (.loop a) Q env st
def kL {lo:Nat}{p:List aY->St->Prop}(h:p env st):Gh lo p env st:=⟨env,st,.refl _ _,h⟩
def Ou {p:EP}{l:EL}(hp:R4 Y p)(hq:okQ Y q)(hl:okL Y l):∀{c:AC}{env:List aY}{st:St}{e:Ex}{env':List aY}{st':St},AR p q l c env st=some (e,env',st')->∀Q:Ex->List aY->St->Prop,Q e env' st'->du Y c Q env st:=by
 intro c;induction c with
 |reg draw ins cm=>
  intro env st e env' st' h Q hQ;simp only[AR]at h;split at h
  .rename_i vs s1 h1;simp only[aE,dj]at h;obtain⟨rfl,rfl,rfl⟩:=h;exact kL (aiL hp hq h1 _ hQ)
  .cases h
 |seq a b iha ihb=>
  intro env st e env' st' h Q hQ;simp only[AR]at h;split at h
  .rename_i e1 s1 h1;exact kL (iha h1 _ (ihb h _ hQ))
  .rename_i h1;refine kL (iha h _ ?_);cases e with
   |normal=>exact absurd h (h1 _ _)
   |exit j=>exact hQ
   |ret=>exact hQ
 |cond c a b iha ihb=>
  intro env st e env' st' h Q hQ;simp only[AR]at h;split at h
  .rename_i h1;refine kL ⟨by rw[h1], ?_⟩;rw[h1];exact⟨λ_=>iha h _ hQ,λh=>bZ⟩
  .rename_i h1;refine kL ⟨by rw[h1], ?_⟩;rw[h1];exact⟨λh=>bZ,λ_=>ihb h _ hQ⟩
  .cases h
 |block id a iha=>
  intro env st e env' st' h Q hQ;simp only[AR]at h;split at h
  .rename_i j e1 s1 h1;refine kL (iha h1 _ ?_);show if j=id then _ else _
   split at h
   .rename_i h2;simp only[aE,dj]at h;obtain⟨rfl,rfl,rfl⟩:=h;rw[ak h2];exact hQ
   .rename_i h2;simp only[aE,dj]at h;obtain⟨rfl,rfl,rfl⟩:=h;rw[ah h2];exact hQ
  .rename_i h1;refine kL (iha h _ ?_);cases e with
   |exit j=>exact absurd h (h1 _ _ _)
   |normal=>exact hQ
   |ret=>exact hQ
 |loop a _=>exact λh=>hl _ _ _ _ _ _ h
 |exit id=>intro env st e env' st' h Q hQ;simp only[AR,aE,dj]at h;obtain⟨rfl,rfl,rfl⟩:=h;exact kL hQ
 |ret=>intro env st e env' st' h Q hQ;simp only[AR,aE,dj]at h;obtain⟨rfl,rfl,rfl⟩:=h;exact kL hQ
 |skip=>intro env st e env' st' h Q hQ;simp only[AR,aE,dj]at h;obtain⟨rfl,rfl,rfl⟩:=h;exact kL hQ
def WR {p p':EP}{q':EM}{l l':EL}(hp:∀f ds d,p f ds=some d->p' f ds=some d)(hq:∀f ds st d,q f ds st=some d->q' f ds st=some d)(hl:∀a env st d,l a env st=some d->l' a env st=some d):∀{c:AC}{env:List aY}{st:St}{x:Ex×List aY×St},AR p q l c env st=some x->AR p' q' l' c env st=some x:=by
 intro c;induction c with
 |reg draw ins cm=>
  intro env st x h;simp only[AR]at h⊢;split at h
  .rename_i h1;rw[WS hp hq h1];exact h
  .cases h
 |seq a b iha ihb=>
  intro env st x h;simp only[AR]at h⊢;split at h
  .rename_i h1;rw[iha h1];exact ihb h
  .rename_i h1;rw[iha h];obtain⟨e,e1,s1⟩:=x;cases e with
   |normal=>exact absurd h (h1 _ _)
   |exit j=>rfl
   |ret=>rfl
 |cond c a b iha ihb=>
  intro env st x h;simp only[AR]at h⊢;split at h
  .exact iha h
  .exact ihb h
  .cases h
 |block id a iha=>
  intro env st x h;simp only[AR]at h⊢;split at h
  .rename_i h1;rw[iha h1];exact h
  .rename_i h1;rw[iha h];obtain⟨e,e1,s1⟩:=x;cases e with
   |exit j=>exact absurd h (h1 _ _ _)
   |normal=>rfl
   |ret=>rfl
 |loop a _=>exact λh=>hl _ _ _ _ h
 |exit id=>exact λh=>h
 |ret=>exact λh=>h
 |skip=>exact λh=>h
def Ex.Rv:Ex->Bool
 | .exit _=>false
 |_=>true
def ZS (m:List (Nat×bj))(env:List aY):List GL->Bool
 |[]=>true
 |r::rs=>((env.getD r.s .un).ok&&match r.mem with
   |none=>true
   |some (n,_)=>ldB m n (env.getD r.s .un).d)&&ZS m env rs
def LA {e:Ex}(h:e.Rv=true):e.home:=by cases e<;>simp_all[Ex.Rv,Ex.home]
theorem Ss {m:List (Nat×bj)}:∀{l:List GL},ZS m env l=true->ow m env l:=by
 intro l;induction l<;>grind [ZS,ow,XP]
structure EvS where
 p:EP
 q:EM
 l:EL
def evF (E:EvS)(a:aj)(ds:List D):Option D:=dW (decide (ds.length=a.np)) (match AR E.p E.q E.l a.body (fQ a ds) ⟨0,[]⟩with
 |some (e,env,st)=>dW (e.Rv&&ZS st.m env a.res) (match a.res with
  |[r]=>puV st.m 9 (a.rsh.getD 0 []) (Ip st.m env r)
  |rs=>(puS st.m a.rsh (qS st.m env rs)).map .tup)
 |none=>none)
def evM (E:EvS)(a:aj)(ds:List D)(st:St):Option (D×St):=dW (decide (ds.length=a.np)) (match AR E.p E.q E.l a.body (fQ a ds) st with
 |some (e,env,st')=>dW (e.Rv&&ZS st'.m env a.res) (some (ke a env st',st'))
 |none=>none)
def lA (tb:Nat->Option aj)(ex:EP):Nat->EvS
 |0=>⟨λ_ _=>none,λ_ _ _=>none,λ_ _ _=>none⟩
 |n+1=>⟨λf ds=>match tb f with
   |some a=>evF (lA tb ex n) a ds
   |none=>ex f ds,λf ds st=>match tb f with
   |some a=>evM (lA tb ex n) a ds st
   |none=>none,λa env st=>match AR (lA tb ex n).p (lA tb ex n).q (lA tb ex n).l a env st with
   |some (.normal,e,s)=>(lA tb ex n).l a e s
   |r=>r⟩
section
variable {tb:Nat->Option aj}{ex:EP}
def Fv (n:Nat):(∀f ds d,(lA tb ex n).p f ds=some d->(lA tb ex (n+1)).p f ds=some d)/\(∀f ds st d,(lA tb ex n).q f ds st=some d->(lA tb ex (n+1)).q f ds st=some d)/\∀a env st d,(lA tb ex n).l a env st=some d->(lA tb ex (n+1)).l a env st=some d:=by
 induction n with
 |zero=>exact⟨λ_ _ _ h=>bZ,λ_ _ _ _ h=>bZ,λ_ _ _ _ h=>bZ⟩
 |succ n ih=>
  obtain⟨h1,h2,h3⟩:=ih;have hc:∀{c:AC} {env:List aY} {st:St} {x:Ex×List aY×St},AR (lA tb ex n).p (lA tb ex n).q (lA tb ex n).l c env st=some x->AR (lA tb ex (n+1)).p (lA tb ex (n+1)).q (lA tb ex (n+1)).l c env st=some x:=λh=>WR h1 h2 h3 h
  refine⟨λf ds d h=>?_,λf ds st d h=>?_,λa env st d h=>?_⟩
  .simp only[lA]at h⊢;split at h
   .refine ig (λh=>?_) h;split at h
    .rename_i h4;have:=hc h4;simp only[lA]at this;rw[this];exact h
    .cases h
   .exact h
  .simp only[lA]at h⊢;split at h
   .refine ig (λh=>?_) h;split at h
    .rename_i h4;have:=hc h4;simp only[lA]at this;rw[this];exact h
    .cases h
   .exact h
  .rw[lA]at h⊢;simp only at h⊢;split at h
   .rename_i h4;rw[hc h4];exact h3 _ _ _ _ h
   .rename_i h4;rw[hc h];obtain⟨e,e1,s1⟩:=d;cases e with
    |normal=>exact absurd h (h4 _ _)
    |exit j=>rfl
    |ret=>rfl
def Li (h:(lA tb ex n).p f ds=some d)(hk:n<=k):(lA tb ex k).p f ds=some d:=by
 induction hk with
 |refl=>exact h
 |step _ ih=>exact(Fv _).1 _ _ _ ih
def WU {d:D×St}(h:(lA tb ex n).q f ds st=some d)(hk:n<=k):(lA tb ex k).q f ds st=some d:=by
 induction hk with
 |refl=>exact h
 |step _ ih=>exact(Fv _).2.1 _ _ _ _ ih
end
def Vs (P:Nat->Prop):Nat:=Classical.epsilon λk=>P k/\∀j,P j->k<=j
def yU {P:Nat->Prop}:∀{n:Nat},P n->P (Vs P)/\∀j,P j->Vs P<=j:=by
 have h:∀n,P n->∃k,P k/\∀j,P j->k<=j:=by
  intro n;induction n using Nat.strongRecOn with
  |_ n ih=>
   intro hn;by_cases h:∃j,P j/\j<n
   .obtain⟨j,h1,h2⟩:=h;exact ih j h2 h1
   .exact⟨n,hn,λj hj=>by
     rcases dX j n with h1|h1
     .exact absurd ⟨j,hj,h1⟩ h
     .exact h1⟩
 exact λ{n} hn=>Classical.epsilon_spec (h n hn)
section
variable {tb:Nat->Option aj}{ex:EP}
def WT {N:Nat}(hp:∀n,n<N->R4 Y (lA tb ex n).p)(hq:∀n,n<N->okQ Y (lA tb ex n).q):okL Y (lA tb ex N).l:=by
 intro a env st e env' st' h Q hQ
 let P:List aY->St->Nat->Prop:=λenv st n=>n<=N/\(lA tb ex n).l a env st=some (e,env',st')
 refine kL ⟨λenv st=>∃n,P env st n,λenv st=>Vs (P env st),⟨N,aN _,h⟩,λenv st ⟨n,hn⟩=>?_⟩;obtain⟨⟨h1,h2⟩,h3⟩:=yU (P:=P env st) hn;obtain⟨k,hk⟩:∃k,Vs (P env st)=k:=⟨_,rfl⟩
 rw[hk]at h1 h2 h3;cases k with
 |zero=>cases h2
 |succ k=>
  rw[lA]at h2;simp only at h2;have ih:okL Y (lA tb ex k).l:=WT (λn h=>hp n ae) λn h=>hq n ae
  split at h2
  .rename_i e1 s1 h4;refine Ou (hp k ae) (hq k ae) ih h4 _ ⟨e1,s1,.refl _ _,⟨k,ae,h2⟩, ?_⟩;have:=(yU (P:=P e1 s1) (n:=k) ⟨ae,h2⟩).2 k ⟨ae,h2⟩;show Vs (P e1 s1)<Vs (P env st);omega
  .rename_i h4;refine Ou (hp k ae) (hq k ae) ih h2 _ ?_;cases e with
   |normal=>exact absurd h2 (h4 _ _)
   |exit j=>exact hQ
   |ret=>exact hQ
termination_by N
end
def bS (tb:Nat->Option aj)(ex:EP)(k f:Nat):mL where
 key:=k
 rel ds d:=∃n,(lA tb ex n).p f ds=some d
 mu ds:=Vs λn=>∃d,(lA tb ex n).p f ds=some d
 relF:=noF
 tr ds st K:=∃n d st',(lA tb ex n).q f ds st=some (d,st')/\K d st'
 muE ds st:=Vs λn=>∃d,(lA tb ex n).q f ds st=some d
 mono _ _ _ _ h h1:=by obtain⟨n,d,st',h2,h3⟩:=h1;exact⟨n,d,st',h2,h _ _ h3⟩
section
variable {tb:Nat->Option aj}{ex:EP}{t:List (Nat×mL)}
def DL:Det (bS tb ex k f).rel:=by
 intro ds d d' ⟨n,h⟩ ⟨n',h'⟩;have h1:=Li h (Nat.le_max_left n n');rw[Li h' (Nat.le_max_right n n')]at h1;exact(aW h1).symm
def kI {k' u:Nat}(hr:lk t f na=bS tb ex k f)(hk:k<k')(h:(lA tb ex n).p f ds=some d):(under t k' u).pre f ds/\(under t k' u).val f ds=d:=
 okp (hr▸DL) (.inl (by rw[hr];exact hk)) (by rw[hr];exact⟨n,h⟩)
def WV (hrow:∀f a,tb f=some a->lk t f na=bS tb ex k f)(hex:∀u,R4 (under t k u) ex){u:Nat}(hn:n<u):R4 (under t k u) (lA tb ex n).p:=by
 intro f ds d h;cases n with
 |zero=>cases h
 |succ n=>
  cases hf:tb f with
  |none=>simp only[lA,hf]at h;exact hex u f ds d h
  |some a=>
   have hr:=hrow f a hf;refine okp (hr▸DL) (.inr ⟨by rw[hr];rfl, ?_⟩) (by rw[hr];exact⟨_,h⟩);rw[hr];have:=(yU (P:=λn=>∃d,(lA tb ex n).p f ds=some d) ⟨d,h⟩).2 _ ⟨d,h⟩;exact Nat.lt_of_le_of_lt this hn
def WW (hrow:∀f a,tb f=some a->lk t f na=bS tb ex k f)(hex:∀u,R4 (under t k u) ex){u:Nat}(hn:n<u):okQ (under t k u) (lA tb ex n).q:=by
 intro f ds st d st' h K hK;cases n with
 |zero=>cases h
 |succ n=>
  cases hf:tb f with
  |none=>simp only[lA,hf]at h;cases h
  |some a=>
   have hr:=hrow f a hf;refine R5 (.inr ⟨by rw[hr];rfl, ?_⟩) (by rw[hr];exact⟨_,_,_,h,hK⟩);rw[hr];have:=(yU (P:=λn=>∃d,(lA tb ex n).q f ds st=some d) ⟨_,h⟩).2 _ ⟨_,h⟩;exact Nat.lt_of_le_of_lt this hn
def Rk (hrow:∀f a,tb f=some a->lk t f na=bS tb ex k f)(hex:∀u,R4 (under t k u) ex){u l:Nat}(hn:n<u){c:AC}{e:Ex}{env':List aY}{st':St}(h:AR (lA tb ex n).p (lA tb ex n).q (lA tb ex n).l c env st=some (e,env',st')){Q:Ex->List aY->St->Prop}(hQ:Q e env' st'):du ((under t k u).at l) c Q env st:=
 Ou (Y:=(under t k u).at l) (WV hrow hex hn) (WW hrow hex hn) (WT (λn' h=>WV hrow hex ae) λn' h=>WW hrow hex ae) h Q hQ
variable [cL]{P:Program}{ν:List (Nat×Nat)}{bN:List Nat}{fid:Nat}{a:aj}
theorem aJ (hrow:∀f a,tb f=some a->lk t f na=bS tb ex k f)(hex:∀u,R4 (under t k u) ex)(hmix:P.follows .mixedOrders=true)(hC:Vn P ν bN fid a)(hf:tb f=some a):Owe P ν bN t fid f:=by
 have hr:=hrow f a hf;refine⟨?_, ?_, ?_⟩<;>rw[hr]
 .intro ds d ⟨n,h⟩;obtain⟨⟨d',h1⟩,h2⟩:=yU (P:=λn=>∃d,(lA tb ex n).p f ds=some d) ⟨d,h⟩;have h3:d'=d:=DL (k:=k) ds d' d ⟨_,h1⟩ ⟨_,h⟩;subst h3;show KQ P ν bN (under t k (Vs λn=>∃d,(lA tb ex n).p f ds=some d)) fid ds d';generalize (Vs λn=>∃d,(lA tb ex n).p f ds=some d)=N at h1;cases N with
  |zero=>cases h1
  |succ N=>
   simp only[lA,hf]at h1;obtain⟨g1,g2⟩:=cA h1;split at g2
   .rename_i e env st g3;obtain⟨g4,g5⟩:=cA g2;rw[aA]at g4;refine av hmix hC (by simpa using g1) (Rk hrow hex (Nat.lt_succ_self N) g3 ⟨LA g4.1,Ss g4.2, ?_⟩);unfold M5 ZT;split at g5
    .rename_i r hres;rw[hres];exact YX g5
    .rename_i rs hres;obtain⟨es,g6,rfl⟩:=dd.1 g5;have:=YW g6;split
     .rename_i r hr;exact absurd hr (hres r)
     .exact⟨this.1,by rw[this.2]⟩
   .cases g2
 .exact HF
 .intro ds st K ⟨n,d,st',h,hK⟩;obtain⟨⟨d',h1⟩,h2⟩:=yU (P:=λn=>∃d,(lA tb ex n).q f ds st=some d) ⟨_,h⟩;have h3:d'=(d,st'):=by
   have:=WU h1 (h2 n ⟨_,h⟩);rw[h]at this;exact(aW this).symm
  subst h3;show uL P ν bN (under t k (Vs λn=>∃d,(lA tb ex n).q f ds st=some d)) fid ds st K;generalize (Vs λn=>∃d,(lA tb ex n).q f ds st=some d)=N at h1;cases N with
  |zero=>cases h1
  |succ N=>
   simp only[lA,hf]at h1;obtain⟨g1,g2⟩:=cA h1;split at g2
   .rename_i e env s1 g3;obtain⟨g4,g5⟩:=cA g2;rw[aA]at g4;simp only[aE,dj]at g5;obtain⟨g6,rfl⟩:=g5;intro hok x args hl hargs hs hfr;obtain⟨fn,hfn,hc,hn⟩:=hC.split;obtain⟨body,c1,_⟩:=gE hc;refine .inr ⟨fid,args,hY hfn hn (by rw[c1];rfl) args x.w, ?_⟩;refine Calls.mono (aiQ (K:=K) hok hmix hfn hc hl hargs hs hfr ⟨by simpa using g1,Rk hrow hex (Nat.lt_succ_self N) g3 ⟨LA g4.1,Ss g4.2, ?_⟩⟩) λe w' he=>?_
    .rw[g6];exact hK
    .grind
   .cases g2
end
def rC:aj:=bc 237
def rD:aj:=bc 269
def uW:aj:=bc 175
def ye:aj:=bc 94
def uQ:aj:=bc 238
def sb:aj:=bc 273
def Al:aj:=bc 140
def xZ:aj:=bc 177
def xl:aj:=bc 270
def xm:aj:=bc 271
def vl:aj:=bc 294
def vj:aj:=bc 293
def uV:aj:=bc 209
def uX:aj:=bc 210
def yd:aj:=bc 142
def yf:aj:=bc 143
def rq:aj:=bc 274
def rr:aj:=bc 272
def u6:aj:=bc 176
def oP:aj:=bc 296
def CZ:aj:=bc 297
def xo:aj:=bc 298
def yi:aj:=bc 318
def wS:aj:=bc 316
def AG:aj:=bc 319
def lE:aj:=bc 246
def Aj:aj:=bc 247
def uZ:aj:=bc 248
def AA:aj:=bc 180
def x9:aj:=bc 181
def AB:aj:=bc 182
def DH:aj:=bc 183
def AD:aj:=bc 184
def DE:aj:=bc 185
def sa:aj:=bc 301
def m7:aj:=bc 321
def n9:aj:=bc 322
def z7:aj:=bc 323
def z6:aj:=bc 324
def B7:aj:=bc 344
def wT:aj:=bc 345
def zJ:aj:=bc 336
def nd:aj:=bc 279
def nj:aj:=bc 280
def ov:aj:=bc 281
def xX:aj:=bc 282
def xW:aj:=bc 283
def ya:aj:=bc 215
def yb:aj:=bc 212
def DC:aj:=bc 213
def sI:aj:=bc 214
def DB:aj:=bc 216
def oO:aj:=bc 349
def oa:aj:=bc 350
def oQ:aj:=bc 351
def oN:aj:=bc 352
def zZ:aj:=bc 353
def zY:aj:=bc 354
def zK:aj:=bc 362
def uO:aj:=bc 361
def ou:aj:=bc 305
def xU:aj:=bc 306
def Ak:aj:=bc 307
def xY:aj:=bc 308
def Az:aj:=bc 251
def Ax:aj:=bc 249
def vi:aj:=bc 250
def pU:aj:=bc 369
def nb:aj:=bc 330
def nk:aj:=bc 358
def x6:aj:=bc 188
def Dz:aj:=bc 262
def u7:aj:=bc 218
def va:aj:=bc 219
def x7:aj:=bc 220
def vc:aj:=bc 221
def x8:aj:=bc 290
def Ao:aj:=bc 252
def x5:aj:=bc 254
def Ap:aj:=bc 255
def Aq:aj:=bc 256
def F6:aj:=bc 286
def An:aj:=bc 284
def F4:aj:=bc 309
def Dx:aj:=bc 333
def Dt:aj:=bc 193
def Am:aj:=bc 194
def Ar:aj:=bc 331
def As:aj:=bc 313
def F5:aj:=bc 314
def At:aj:=bc 315
def xT:aj:=bc 224
def F7:aj:=bc 225
def Dy:aj:=bc 335
def sE:aj:=bc 258
def DF:aj:=bc 259
def DA:aj:=bc 263
def uY:aj:=bc 285
def DG:aj:=bc 287
def Dw:aj:=bc 291
def vg:aj:=bc 310
def Av:aj:=bc 311
def Au:aj:=bc 312
def Ay:aj:=bc 332
def ve:aj:=bc 334
def Aw:aj:=bc 359
def yc:aj:=bc 360
def tbT:List (Nat×aj):=[(212,rC),(444,rD),(670,uW),(572,ye),(213,uQ),(448,sb),(459,Al),(672,xZ),(445,xl),(446,xm),(496,vl),(495,vj),(813,uV),(814,uX),(744,yd),(745,yf),(449,rq),(447,rr),(671,u6),(660,oP),(661,CZ),(662,xo),(684,yi),(682,wS),(685,AG),(952,lE),(953,Aj),(954,uZ),(896,AA),(897,x9),(898,AB),(899,DH),(900,AD),(901,DE),(663,sa),(808,m7),(809,n9),(810,z7),(811,z6),(827,B7),(828,wT),(819,zJ),(1032,nd),(1033,nj),(1034,ov),(1035,xX),(1036,xW),(482,ya),(1006,yb),(1007,DC),(1008,sI),(676,DB),(946,oO),(947,oa),(948,oQ),(949,oN),(950,zZ),(951,zY),(957,zK),(956,uO),(1097,ou),(1098,xU),(1099,Ak),(1100,xY),(677,Az),(678,Ax),(1079,vi),(1031,pU),(1126,nb),(1141,nk),(156,x6),(374,Dz),(376,u7),(377,va),(378,x7),(379,vc),(598,x8),(599,Ao),(601,x5),(602,Ap),(603,Aq),(604,F6),(769,An),(771,F4),(772,Dx),(907,Dt),(908,Am),(918,Ar),(919,As),(920,F5),(921,At),(1010,xT),(1011,F7),(1021,Dy),(1081,sE),(1082,DF),(1085,DA),(1118,uY),(1119,DG),(1122,Dw),(1137,vg),(1138,Av),(1139,Au),(1144,Ay),(1145,ve),(1147,Aw),(1148,yc)]
def aeV:=∀(s:au),(jX s)->T [.str s] (cx.D (fe s))
def C908:Prop:=aeV (aG Z 908)
def aeU:=∀(s:au) (e:Env),(og s/\lz e)->T [.str s,Env.D e] (.bool (FQ s e))
def C907:Prop:=aeU (aG Z 907)
def aaL:=∀(s:au),(jX s)->T [.str s] (.tup [cx.D (fe s),.int .i64 0])
def aeX:Prop:=aaL (aG Z 1011)
def aaM:=∀(s:cx),(s∈gX)->T [cx.D pC,cx.D s] (cx.D s)
def ae7:Prop:=aaM (aG Z 1085)
def aaO:=∀(v:bV),(v∈bF)->T [bV.D v] (cx.D (dH v))
def VH:Prop:=aaO (aG Z 156)
def Kk:=∀(l:List b6) (nm:au),T [.sl 2 (l.map b6.D),.str nm] (.int .i64 (findF l nm 0))
def C955:Prop:=Kk (aG Z 955)
def J7:=∀(l:List b6) (nm:au),T [.sl 2 (l.map b6.D),.str nm] (.bool (isF l nm))
def C816:Prop:=J7 (aG Z 816)
end Go.Abs
section
set_option maxRecDepth 10000
namespace Go.Abs
variable{d:D}{Y:Ctx}
def Qc:List D->Option (List au)
 |[]=>some []
 | .str s::r=>match Qc r with
  |some l=>some (s::l)
  |none=>none
 |_=>none
theorem BM:∀{l:List D}{r:List au},Qc l=some r->l=r.map D.str:=by
 intro l;induction l with
 |nil=>intro r h;cases h;rfl
 |cons d l ih=>intro r h;cases d<;>simp only[Qc]at h<;>grind
def uE (s:au):Bool:=decide (s.length<=1048576)
def exO:EP:=λf ds=>match ds with
 |[.str s]=>bif Nat.beq f 349 ||Nat.beq f 357 then some (.bool (gL s))else bif Nat.beq f 208 ||Nat.beq f 216 then some (.bool (df s))else
  bif Nat.beq f 658 ||Nat.beq f 667 then some (.tup [.int .i64 (C6 s),.bool (ot s)])else none
 |[.int .i64 n]=>dW ((Nat.beq f 665 ||Nat.beq f 734)&&(decide (0<=n)&&decide (n<=9999))) (some (.str (nT n.toNat)))
 |[.str s,.int .u8 b]=>dW ((Nat.beq f 533 ||Nat.beq f 470)&&uE s) (some (.sl 1 ((ba s b).map D.str)))
 |[.str s,.str [124,124]]=>dW (uE s&&Nat.beq f 124) (some (.sl 1 ((jo s []).map D.str)))
 |[.str s,.str [b]]=>dW (uE s) (bif Nat.beq f 124 then some (.sl 1 ((ba s b.toNat).map D.str))else bif Nat.beq f 683&&b==32 then some (.str (B3 s))else
  bif Nat.beq f 487 then some (.tup [.str (uC s b).1,.str (uC s b).2.1,.bool (uC s b).2.2])else bif Nat.beq f 254 then some (.tup [.str (qy s [b]).1,.bool (qy s [b]).2])else none)
 |[.sl 1 l]=>match Qc l with
  |some l=>bif Nat.beq f 815 then some (.bool (rising l))else none
  |none=>none
 |[.sl 1 l,.int .u8 x]=>match Qc l with
  |some l=>dW (Nat.beq f 249&&(decide (x=(x.toNat.toUInt8.toNat:Nat))&&uE (cn [x.toNat.toUInt8] l))) (some (.str (cn [x.toNat.toUInt8] l)))
  |none=>none
 |[.sl 1 l,.str s]=>match Qc l with
  |some l=>dW (Nat.beq f 242&&(decide (l.length<=9)&&(decide (s.length<=4)&&l.all uE))) (some (.str (cn s l)))
  |none=>none
 |[.agg [.int .i64 a,.int .i64 b,.int .i64 c,.str p,.str q]]=>dW ((Nat.beq f 209 ||Nat.beq f 217)&&(uE p&&uE q)) (some (.bool (gJ ⟨a,b,c,p,q⟩)))
 |_=>none
def eS (n:Nat):Option aj:=lk (tbT.map λp=>(p.1,some p.2)) n none
def aiO (h349:Th Y)(h357:VC Y)(h208:Tf Y)(h216:GN Y)(h658:C658 Y)(h667:C667 Y)(h665:C665 Y)(h734:C734 Y)(h533:VD Y)(h470:C470 Y)(h124:C124 Y)(h9124:afb Y)(h683:C683 Y)(h487:C487 Y)(h254:C254 Y)(h815:C815 Y)(h249:C249 Y)(h242:C242 Y)(h209:AK Y)(h217:BT Y):R4 Y exO:=by
 intro f ds d h;unfold exO at h;split at h
 .simp only[Bool.cond_eq_ite,dK,Nat.beq_eq]at h;split at h
  .rename_i hf;cases h;rcases hf with rfl|rfl
   .exact h349 _
   .exact h357 _
  split at h
  .rename_i hf;cases h;rcases hf with rfl|rfl
   .exact h208 _
   .exact h216 _
  split at h
  .rename_i hf;cases h;rcases hf with rfl|rfl
   .exact h658 _
   .exact h667 _
  .cases h
 .obtain⟨h1,h2⟩:=cA h;simp only[dK,aA,Nat.beq_eq,aT]at h1;cases h2;rcases h1 with⟨rfl|rfl,h1⟩
  .exact h665 _ h1
  .exact h734 _ h1
 .obtain⟨h1,h2⟩:=cA h;simp only[dK,aA,Nat.beq_eq,uE,aT]at h1;cases h2;rcases h1 with⟨rfl|rfl,h1⟩
  .exact h533 _ _ h1
  .exact h470 _ _ h1
 .obtain⟨h1,h2⟩:=cA h;simp only[aA,Nat.beq_eq,uE,aT]at h1;cases h2;obtain⟨h1,rfl⟩:=h1;exact h9124 _ h1
 .obtain⟨h1,h2⟩:=cA h;simp only[uE,aT]at h1;simp only[Bool.cond_eq_ite,aA,Nat.beq_eq,beq_iff_eq]at h2;split at h2
  .rename_i hf;cases h2;subst hf;exact h124 _ _ h1
  split at h2
  .rename_i hf;cases h2;obtain⟨rfl,hb⟩:=hf;exact h683 _ _ hb h1
  split at h2
  .rename_i hf;cases h2;subst hf;exact h487 _ _ h1
  split at h2
  .rename_i hf;cases h2;subst hf;exact h254 _ _ h1 aC
  .cases h2
 .split at h
  .rename_i l hl;obtain rfl:=BM hl;simp only[Bool.cond_eq_ite,Nat.beq_eq]at h;split at h
   .rename_i hf;cases h;subst hf;exact h815 _
   .cases h
  .cases h
 .rename_i lx x;split at h
  .rename_i l hl;obtain rfl:=BM hl;obtain⟨h1,h2⟩:=cA h;simp only[aA,Nat.beq_eq,uE,aT]at h1;cases h2;obtain⟨rfl,h3,h4⟩:=h1;revert h3 h4;generalize Nat.toUInt8 (Int.toNat x)=y;intro h3 h4;subst h3;exact h249 _ y (fg h4 aV)
  .cases h
 .split at h
  .rename_i l hl;obtain rfl:=BM hl;obtain⟨h1,h2⟩:=cA h;simp only[aA,Nat.beq_eq,uE,List.all_eq_true,aT]at h1;cases h2;obtain⟨rfl,h3,h4,h5⟩:=h1;exact h242 _ _ ae h4 λt ht=>fg (h5 t ht) aV
  .cases h
 .obtain⟨h1,h2⟩:=cA h;simp only[dK,aA,Nat.beq_eq,uE,aT]at h1;cases h2;rcases h1 with⟨rfl|rfl,h1⟩
  .exact h209 ⟨_,_,_,_,_⟩ h1
  .exact h217 ⟨_,_,_,_,_⟩ h1
 .cases h
def jd:Option D->Bool
 |some (.bool b)=>b
 |_=>false
def dM {o:Option D}{b:Bool}(hb:b=true)(h:jd o=true):o=some (.bool b):=by unfold jd at h;split at h<;>simp_all
def fL (c:Bool):Option D->Bool
 |some (.bool b)=>b==c
 |_=>false
def cz {o:Option D}{b:Bool}(h:fL b o=true):o=some (.bool b):=by unfold fL at h;split at h<;>simp_all
def rv (x:Int×au×au):Option D->Bool
 |some (.tup [.int .i64 a,.str b,.str c])=>decide (a=x.1)&&(b==x.2.1&&c==x.2.2)
 |_=>false
def jT {o:Option D}{x:Int×au×au}(h:rv x o=true):o=some (.tup [.int .i64 x.1,.str x.2.1,.str x.2.2]):=by unfold rv at h;split at h<;>simp_all
def verO:D->Option bV
 | .agg [.int .i64 a,.int .i64 b,.int .i64 c,.str p,.str q]=>some ⟨a,b,c,p,q⟩
 |_=>none
def aeM {v:bV}(h:verO d=some v):d=v.D:=by
 unfold verO at h;split at h
 .cases h;rfl
 .cases h
def cutO:D->Option Cut
 | .agg [.int .i64 e,.int .i64 a,.int .i64 b,.int .i64 c,.str p,.str q,.bool z]=>some ⟨e,⟨a,b,c,p,q⟩,z⟩
 |_=>none
def Rf {v:Cut}(h:cutO d=some v):d=v.D:=by
 unfold cutO at h;split at h
 .cases h;rfl
 .cases h
def Ge:D->Option Span
 | .agg [.int .i64 e,.int .i64 a,.int .i64 b,.int .i64 c,.str p,.str q,.bool z,.int .i64 e',.int .i64 a',.int .i64 b',.int .i64 c',.str p',.str q',.bool z']=>some ⟨⟨e,⟨a,b,c,p,q⟩,z⟩,⟨e',⟨a',b',c',p',q'⟩,z'⟩⟩
 |_=>none
def yj {v:Span}(h:Ge d=some v):d=v.D:=by
 unfold Ge at h;split at h
 .cases h;rfl
 .cases h
def CS {α:Type}(f:D->Option α):List D->Option (List α)
 |[]=>some []
 |d::r=>match f d with
  |some a=>match CS f r with
   |some l=>some (a::l)
   |none=>none
  |none=>none
def sk {α:Type}{f:D->Option α}{q:α->D}(hq:∀{d:D}{a:α},f d=some a->d=q a):∀{l:List D}{r:List α},CS f l=some r->l=r.map q
 |[],r,h=>by cases h;rfl
 |d::l,r,h=>by
  unfold CS at h;split at h
  .rename_i a ha;split at h
   .rename_i t ht;cases h;rw[hq ha,sk hq ht];rfl
   .cases h
  .cases h
def WZ:D->Option b6
 | .agg [.str n,.sl 1 l]=>match Qc l with
  |some l=>some ⟨n,l⟩
  |none=>none
 |_=>none
def W1 {v:b6}(h:WZ d=some v):d=v.D:=by
 unfold WZ at h;split at h
 .split at h
  .rename_i l hl;cases h;rw[BM hl];rfl
  .cases h
 .cases h
def smV (v:bV):Bool:=uE v.pre&&uE v.build
def Iu {v:bV}(h:smV v=true):v.sm:=by simpa[smV,uE,bV.sm]using h
def smS (s:Span):Bool:=smV s.f.v&&smV s.t.v
def aab {s:Span}(h:smS s=true):s.sm:=by
 rw[smS,aA]at h;exact⟨Iu h.1,Iu h.2⟩
def P8 {l:List Span}(h:l.all smS=true):zF l:=λs hs=>aab (List.all_eq_true.1 h s hs)
def Rw (d:D):Option cx:=match d with
 | .agg [.sl 14 a,.sl 14 b]=>match CS Ge a with
  |some a=>match CS Ge b with
   |some b=>some ⟨a,b⟩
   |none=>none
  |none=>none
 |_=>none
def LD {v:cx}(h:Rw d=some v):d=v.D:=by
 unfold Rw at h;split at h
 .split at h
  .rename_i a ha;split at h
   .rename_i b hb;cases h;rw[sk yj ha,sk yj hb];rfl
   .cases h
  .cases h
 .cases h
def ex1 (f:Nat)(d:D):Option D:=bif Nat.beq f 144 then(match d with
  | .agg [.str a,.str b,.str c]=>some (.bool (nV ⟨a,b,c⟩))
  |_=>none)else bif Nat.beq f 600 then(match verO d with
  |some v=>some (.bool (vK v))
  |none=>none)else bif Nat.beq f 1019 then(match Ge d with
  |some s=>dW (smS s) (some (.bool (qa s)))
  |none=>none)else bif Nat.beq f 770 then(match Rw d with
  |some s=>dW (s.rel.all smS&&s.pr.all smS) (some (.bool (v8 s)))
  |none=>none)else bif Nat.beq f 916 then(match d with
  | .sl 14 l=>match CS Ge l with
   |some l=>dW (l.all smS) (some (.bool (sK l)))
   |none=>none
  |_=>none)else none
def exN:EP:=λf ds=>match ds with
 |[]=>dW (Nat.beq f 375) (some (cx.D R2))
 |[d]=>ex1 f d
 |[.sl 2 l,.str s]=>match CS WZ l with
  |some l=>dW (Nat.beq f 816) (some (.bool (isF l s)))
  |none=>none
 |[a,b]=>match cutO a with
  |some a=>match cutO b with
   |some b=>dW (Nat.beq f 1020&&(smV a.v&&smV b.v)) (some (.int .i64 (lg a b)))
   |none=>none
  |none=>none
 |_=>none
def aiM (h144:VA Y)(h600:C600 Y)(h1019:KM Y)(h770:VG Y)(h916:VI Y){f:Nat}{e:D}(h:ex1 f d=some e):Y.pre f [d]/\Y.val f [d]=e:=by
 unfold ex1 at h;simp only[Bool.cond_eq_ite,Nat.beq_eq]at h;split at h
 .rename_i hf;subst hf;split at h
  .cases h;exact h144 ⟨_,_,_⟩
  .cases h
 split at h
 .rename_i hf;subst hf;split at h
  .rename_i v hv;cases h;rw[aeM hv];exact h600 v
  .cases h
 split at h
 .rename_i hf;subst hf;split at h
  .rename_i s hs;obtain⟨h1,h2⟩:=cA h;cases h2;rw[yj hs];exact h1019 s (aab h1)
  .cases h
 split at h
 .rename_i hf;subst hf;split at h
  .rename_i s hs;obtain⟨h1,h2⟩:=cA h;rw[aA]at h1;cases h2;rw[LD hs];exact h770 s ⟨P8 h1.1,P8 h1.2⟩
  .cases h
 split at h
 .rename_i hf;subst hf;split at h
  .split at h
   .rename_i l hl;obtain⟨h1,h2⟩:=cA h;cases h2;rw[sk yj hl];exact h916 l (P8 h1)
   .cases h
  .cases h
 .cases h
def aiN (h144:VA Y)(h375:C375 Y)(h600:C600 Y)(h770:VG Y)(h816:C816 Y)(h916:VI Y)(h1019:KM Y)(h1020:QO Y):R4 Y exN:=by
 intro f ds d h;unfold exN at h;split at h
 .obtain⟨h1,h2⟩:=cA h;cases h2;obtain rfl:=Nat.eq_of_beq_eq_true h1;exact h375
 .exact aiM h144 h600 h1019 h770 h916 h
 .split at h
  .rename_i l hl;obtain⟨h1,h2⟩:=cA h;cases h2;obtain rfl:=Nat.eq_of_beq_eq_true h1;rw[sk W1 hl];exact h816 _ _
  .cases h
 .split at h
  .rename_i a ha;split at h
   .rename_i b hb;obtain⟨h1,h2⟩:=cA h;simp only[aA]at h1;cases h2;obtain⟨h1,h3,h4⟩:=h1;obtain rfl:=Nat.eq_of_beq_eq_true h1;rw[Rf ha,Rf hb];exact h1020 _ _ ⟨Iu h3,Iu h4⟩
   .cases h
  .cases h
 .cases h
def eN:EP:=λf ds=>match exO f ds with
 |some d=>some d
 |none=>exN f ds
def aiP (h1:R4 Y exO)(h2:R4 Y exN):R4 Y eN:=by
 intro f ds d h;unfold eN at h;split at h
 .rename_i e he;cases h;exact h1 f ds d he
 .exact h2 f ds d h
def Ee (v:cx):Option D->Bool
 |some d=>match Rw d with
  |some x=>decide (x=v)
  |none=>false
 |none=>false
def gw {o:Option D}{v:cx}(h:Ee v o=true):o=some v.D:=by
 unfold Ee at h;split at h
 .split at h
  .rename_i x hx;rw[LD hx,of_decide_eq_true h]
  .cases h
 .cases h
def vsZ (v:cx):Option D->Bool
 |some (.tup [d,.int .i64 0])=>Ee v (some d)
 |_=>false
def sO {o:Option D}{v:cx}(h:vsZ v o=true):o=some (.tup [v.D,.int .i64 0]):=by
 unfold vsZ at h;split at h
 .rw[aW (gw h)]
 .cases h
abbrev cb (f:Nat)(ds:List D):Option D:=(lA eS eN 60).p f ds
end Go.Abs
end
namespace Go.Abs
variable{c:List Int}{us:List cI}{shop l:List bA}{w:bP}{od:List (List Int)}(T:List D->D->Prop){P:Key->Prop}{y:cC}(ks:List Int){n k j:Nat}(Z:Ctx){r:Rec}
section
variable {Y:Ctx}{draw:Bool}{r:List GI}{env rs:List aY}{nx:Nat}{m:List (Nat×bj)}{K:List aY->St->Prop}{g:Option (Nat×Bool)}{f:Bool}
def r_mn {x y:Src}{fx fy:Bool}{k k2:IntKind}{a b:Int}(v:Int)(h:ay Y draw r env (⟨f,.int k v⟩::rs) nx m K)(hg:GF rs g f:=by first|exact rfl|exact⟨_,_,rfl,rfl⟩)(hx:bQ env rs x=⟨fx,.int k a⟩:=by exact rfl)(hy:bQ env rs y=⟨fy,.int k2 b⟩:=by exact rfl)(kx:f=true->fx=true:=by first|exact λ_=>rfl|exact λh=>h|(intro h;simp_all))(ky:f=true->fy=true:=by first|exact λ_=>rfl|exact λh=>h|(intro h;simp_all))(hv:f=true->(if b<a then b else a)=v):ay Y draw (⟨.mn false x y,g⟩::r) env rs nx m K:=
 bw rfl hg _ (λhf=>by simp[ax.eE,hx,hy,kx hf,ky hf]) (λhf=>by simp only[ax.val,hx,hy,iJ,aX];rw[hv hf]) (λ_=>h)
end
def Jd:=∀(n:Int),(0<=n/\n<=40)->T [.int .i64 n] (.int .i64 (2^n.toNat))
def C381:Prop:=Jd (aG Z 381)
def IP:=∀(w:bP) (u:Int),(w.sm)->T [bP.D w,.int .i64 u] (.int .i64 (nY w.us u))
def C158:Prop:=IP (aG Z 158)
def Jh:=∀(w:bP) (x:Want),(w.sm/\x.sm)->T [bP.D w,Want.D x] (.int .i64 (uF w.us x))
def C415:Prop:=Jh (aG Z 415)
def Sd {r i:Nat}(h:0<r)(hn:n<1000000):Mo us r i n=Mo us (r-1) (i+1) (if us[i]!.feat=[]then n*(us[i]!.cands.length+1)else n):=by
 obtain⟨q,rfl⟩:∃q,r=q+1:=⟨r-1,ae⟩
 rw[Mo,ak hn];rfl
def YU {r i:Nat}(h:r=0\/¬n<1000000):Mo us r i n=n:=by
 cases r with
 |zero=>rfl
 |succ r=>rw[Mo,ah ae]
def ad7 {i:Nat}(h:us[i]!.cands.length<=16)(hn:vR us i<1000000):vR us (i+1)<=20000000:=by
 rw[vR];split
 .exact fg (Nat.mul_le_mul (show vR us i<=1000000 by omega) (show us[i]!.cands.length+1<=17 by omega)) aV
 .omega
def akl {i:Nat}(h:us[i]!.feat=[]):((vR us i:Nat):Int)*(((us[i]!.cands.length:Nat):Int)+1)=((vR us (i+1):Nat):Int):=by rw[vR,ak h];push_cast;rfl
def akk {i:Nat}(h:¬us[i]!.feat=[]):vR us i=vR us (i+1):=by rw[vR,ah h]
def pW (us:List cI)(l:List Int)(u:Nat):List (List Int):=(List.range u).map (E4 us l)
def Uq (us:List cI)(l:List Int)(u:Nat):(pW us l u).length=u:=by simp[pW]
def ad1 (us:List cI)(l:List Int)(u:Nat):pW us l u++[E4 us l u]=pW us l (u+1):=by simp[pW,List.range_succ]
def ord_z {l:List Int}(h:l.length=0):iV us l=[]:=ak h
def ord_e {l:List Int}(h:¬l.length=0):iV us l=pW us l us.length:=ah h
def Xl {o:List Int}{p:Int}(h:j<o.length):(oF (λk=>decide (o[k]! =p)) 0 j ||decide (o[j]! =p))=oF (λk=>decide (o[k]! =p)) 0 (j+1):=by
 rw[Bool.eq_iff_iff,dK,wF,wF];constructor
 .rintro(⟨i,h1,h2,h3⟩|h1)
  .exact⟨i,h1,ae,h3⟩
  .exact⟨j,ae,ae,h1⟩
 .rintro⟨i,h1,h2,h3⟩;rcases dX i j with h4|h4
  .exact .inl ⟨i,h1,h4,h3⟩
  .obtain rfl:i=j:=ae;exact .inr h3
def Mf {n:Nat}{k:Int}:∀i,(kC n k i).length<=i
 |0=>aN _
 |i+1=>by
  have:=Mf (n:=n) (k:=k) i;rw[kC];split
  .omega
  .rw[cu,List.length_singleton];omega
def aj7 {i:Nat}{k:Int}(h:TS (kC n k i) (E5 n k i)=false):kC n k i++[E5 n k i]=kC n k (i+1):=by rw[kC,ah je]
def aj6 {i:Nat}{k:Int}(h:TS (kC n k i) (E5 n k i)=true):kC n k i=kC n k (i+1):=by rw[kC,ak h]
def ZR {a b:Int}(ha:0<=a):a.tmod b=a%b:=Int.tmod_eq_emod_of_nonneg ha
def aka {i:Nat}{k:Int}(hi:i<=16):0<=(i:Int)*(1+k%3)/\(i:Int)*(1+k%3)<=48:=by
 have h1:=Int.emod_nonneg k (show(3:Int)≠0 by decide);have h2:=Int.emod_lt_of_pos k (show(0:Int)<3 by decide);exact⟨Int.mul_nonneg ae ae,Int.le_trans (Int.mul_le_mul (show(i:Int)<=16 by omega) (show 1+k%3<=3 by omega) ae ae) aV⟩
def ac9 (l k:Nat)(es:List Abs.D)(o:List (List Int)):mN l k es (o.map jS)=o.map jS:=jM l k es _ (bX (λ_=>rfl) _)
def Hb (l k:Nat)(es:List Abs.D)(w:bP):iY l k es (bP.D w)=bP.D w:=rfl
def Nx (o:List Int)(n:Nat):∀i,(cG o n i).length<=o.length+i
 |0=>aN _
 |i+1=>by
  have:=Nx o n i;rw[cG];split
  .omega
  .rw[cu,List.length_singleton];omega
def ald {o:List Int}{t:Nat}(h:TS (cG o n t) ((n:Int) -1-(t:Int))=false):cG o n t++[((n:Nat):Int) -1-((t:Nat):Int)]=cG o n (t+1):=by rw[cG,ah je]
def alc {o:List Int}{t:Nat}(h:TS (cG o n t) ((n:Int) -1-(t:Int))=true):cG o n t=cG o n (t+1):=by rw[cG,ak h]
def aj9 {u:Int}(h:u<(od.length:Int)):cR od u=od[u.toNat]! :=ak h
def aj8 {u:Int}(h:¬u<(od.length:Int)):cR od u=[]:=ah h
def vQ {m:kg}{b:Bool}(hm:wA m)(hO:yC m od)(hc:KG m c)(h:nlB (O9 (mH m od c)) b):(b=true->mH m od c=none)/\(b=false->∃d,mH m od c=some d):=by
 cases e:mH m od c with
 |none=>rw[e]at h;exact⟨λ_=>rfl,λhb=>by rw[hb]at h;cases h⟩
 |some d=>
  have h2:=(mG hm hO _ _ hc e).2.1;have h3:=hm.1.1;refine⟨λhb=>?_,λ_=>⟨d,rfl⟩⟩;rw[e]at h;have h4:d.map (D.int .i64)=[]:=h hb;have h5:=aw List.length h4;simp only[a8,ca]at h5;omega
def X7 {x:Want}(hs:∀x∈w.us,x.cands.length<=16)(hc:ChP w.us c)(h0:0<=x.u)(h1:x.u<(w.us.length:Int)):Tm w.us (zW c) x↔kR w c x=true:=by
 obtain⟨u,hu⟩:∃u:Nat,x.u=((u:Nat):Int):=⟨x.u.toNat,ae⟩
 have hul:u<w.us.length:=ae;have hcu:=hc.2 u hul;unfold Tm kR zW;rw[Wl hu hul hs,hu,Int.toNat_natCast];simp only[aA,aT];constructor
 .rintro⟨⟨h2,h3⟩,h4⟩;have e:(c[u]! +1).toNat-1=c[u]!.toNat:=ae;rw[e]at h4;exact⟨ae,h4⟩
 .rintro⟨h2,h3⟩;have e:(c[u]! +1).toNat-1=c[u]!.toNat:=ae;rw[e];exact⟨⟨ae,ae⟩,h3⟩
def VV (hw:eG w=true):InW w:=by
 intro u hu c hc;obtain⟨i,hi,rfl⟩:=gh hu;obtain⟨k,hk,rfl⟩:=gh hc;exact Eh hw hi hk
def Ci (hw:eG w=true)(hs:∀x∈w.us,x.cands.length<=16)(hc:ChP w.us c)(h:Ch (dy w.us) c=true):(ey w c=true/\jh w c=[])/\0<=c[0]! :=by
 have hS:=ak5 hw hs hc h;have hI:=VV hw;have hm:ey w c=true:=by
  unfold ey uD;rw[hw,eI,aA,aT,bd];refine⟨hc.1,λj _ hj=>?_⟩;have:=hc.2 j (by rw[<-hc.1];exact hj);unfold AS;rw[aA,aT,aT];exact this
 refine⟨⟨hm,(BP hm).2 λu hu h0=>?_⟩, ?_⟩
 .have hul:u<w.us.length:=by rw[<-hc.1];exact hu
  have hcu:=hc.2 u hul;have hk:zW c u≠0:=by unfold zW;omega
  have e:zW c u-1=c[u]!.toNat:=by unfold zW;omega
  obtain⟨_,_,_,g1,g2,_⟩:=hS;have g1:=g1 u hul hk;have g2:=g2 u hul hk;rw[e]at g1 g2;have hmem:aU w c u∈w.us[u]!.cands:=aq ae;obtain⟨hI1,hI2⟩:=hI _ (aq hul) _ hmem;refine⟨λk hk=>?_,λk hk=>?_⟩
  .obtain⟨x,hx,hmx⟩:=g1 _ (aq hk);have:=hI1 _ (aq hk) x hx;exact List.any_eq_true.2 ⟨x,hx,(X7 hs hc this.1 this.2).1 hmx⟩
  .have hx:=aq hk;have:=hI2 _ hx;cases hq:kR w c (aU w c u).bars[k]! with
   |false=>rfl
   |true=>exact absurd ((X7 hs hc this.1 this.2).2 hq) (g2 _ hx)
 .unfold Ch at h;rw[aA,aT]at h;exact h.1
section
variable {m:gW}{e:Env}{os:List Int}
abbrev eu (m:gW)(shop:List bA)(e:Env):bP×Int:=gP [m] shop e []
abbrev IH (m:gW)(shop:List bA)(e:Env):cC:=yp [m] shop e []
def DV (h:¬(eu m shop e).2=0\/5000<Dd (eu m shop e).1.us):cB m shop e os=((eu m shop e).1,[],false):=ak h
def DW (h:(eu m shop e).2=0/\¬5000<Dd (eu m shop e).1.us)(hn:kJ (eu m shop e).1.us (iV (eu m shop e).1.us os)=none):cB m shop e os=((eu m shop e).1,[],false):=by
 unfold cB;rw[ah (by rintro(h1|h1);exact h1 h.1;exact h.2 h1),hn]
def DX (h:(eu m shop e).2=0/\¬5000<Dd (eu m shop e).1.us)(hn:kJ (eu m shop e).1.us (iV (eu m shop e).1.us os)=some c):cB m shop e os=((eu m shop e).1,rI (eu m shop e).1 c,true):=by
 unfold cB;rw[ah (by rintro(h1|h1);exact h1 h.1;exact h.2 h1),hn]
def pF (hy:qq (IH m shop e))(h:(eu m shop e).2=0):KL (eu m shop e).1/\eG (eu m shop e).1=true:=by
 unfold eu gP at*
 split at h
 .cases h
 .split at h
  .cases h
  .split at h
   .cases h
   .rename_i h3;have h4:(eA (IH m shop e)).2=true:=by simpa using h3
    rw[ah mf,ah mf,ah h3];obtain⟨_,_,_,_,h5⟩:=sR hy.p h4;exact⟨h5,Ei hy h4⟩
def TL (hy:qq (IH m shop e))(h:(eu m shop e).2=0)(os:List Int):((((eu m shop e).1.sm/\(eu m shop e).1.us.length<=1000)/\Few (eu m shop e).1.us)/\eG (eu m shop e).1=true)/\yC (dy (eu m shop e).1.us) (iV (eu m shop e).1.us os):=by
 obtain⟨h1,h2⟩:=pF hy h;have:=h1.len;exact⟨⟨⟨⟨h1.sm,ae⟩,h1.few⟩,h2⟩,pX os⟩
def TK (hy:qq (IH m shop e))(h:(eu m shop e).2=0)(hn:kJ (eu m shop e).1.us (iV (eu m shop e).1.us os)=some c):c.length<=1000:=by
 obtain⟨h1,h2⟩:=pF hy h;have h3:=(mG h1.msk (pX os) _ _ (sx _) hn).2.1;have h4:=h1.msk.1;omega
def Lo (hy:qq (IH m shop e))(h:(eu m shop e).2=0){b:Bool}(hb:nlB (O9 (kJ (eu m shop e).1.us (iV (eu m shop e).1.us os))) b):(b=true->kJ (eu m shop e).1.us (iV (eu m shop e).1.us os)=none)/\(b=false->∃d,kJ (eu m shop e).1.us (iV (eu m shop e).1.us os)=some d):=
 vQ (pF hy h).1.msk (pX os) (sx _) hb
end
section
variable {e:Env}{u:Nat}{x:eB}
def OfP (shop:List bA)(w:bP)(c:List Int):Prop:=iH shop/\w.sm/\0<=c[0]!
def of_a (h:((eG w=false\/dr shop=false)\/nV e=false)\/ey w c=false):wv shop e w c=(Ho,1):=ak h
def of_b (h:((eG w=true/\dr shop=true)/\nV e=true)/\ey w c=true)(h2:ey w c=false\/¬(jh w c).length=0):wv shop e w c=(Ho,37):=by
 unfold wv;rw[ah gp,ak (h2.resolve_left (by simp[h.2]))]
def of_x (h:((eG w=true/\dr shop=true)/\nV e=true)/\ey w c=true)(h2:ey w c=true/\(jh w c).length=0):wv shop e w c=if ¬(dx shop w c).2=0 then(Ho,(dx shop w c).2)else(⟨e,(dx shop w c).1⟩,0):=by
 unfold wv;rw[ah gp,ah (λh3=>h3 h2.2)]
def of_c (h:((eG w=true/\dr shop=true)/\nV e=true)/\ey w c=true)(h2:ey w c=true/\(jh w c).length=0)(h0:(dC shop w.us c u).2=0)(hs:fq w.us c u=false)(hu:u<w.us.length)(k:Int)(hk:¬k=0)(hl:(c9 shop w.us c u (cj w.us c u)).2=k):wv shop e w c=(Ho,k):=by
 have h3:=T9 h0 hs rfl (by rw[hl];exact hk);rw[hl]at h3;have h4:dx shop w c=([],k):=(FF (i:=u+1) (by rw[h3];exact hk) ae).trans h3;rw[of_x h h2,h4,ak hk]
def of_d (h:((eG w=true/\dr shop=true)/\nV e=true)/\ey w c=true)(h2:ey w c=true/\(jh w c).length=0)(h0:(dx shop w c).2=0):wv shop e w c=(⟨e,(dx shop w c).1⟩,0):=by
 rw[of_x h h2,ah (λh=>h h0)]
def ajs (h:x.sh=-1):c9 shop w.us c u x=(⟨w.us[u]!.name,x.v,[],0,lB w.us c u⟩,0):=ak h
def ajt (h:¬x.sh=-1)(h2:x.sh<0\/(shop.length:Int)<=x.sh):(c9 shop w.us c u x).2=12:=by unfold c9;rw[ah h,ak h2]
def aju (h:¬x.sh=-1)(h2:¬x.sh<0/\¬(shop.length:Int)<=x.sh)(h3:(oH shop[x.sh.toNat]! w.us[u]!.name x.v).2=false):(c9 shop w.us c u x).2=9:=by
 unfold c9 oH at*
 rw[ah h,ah ae];split at h3
 .rename_i h4;rw[ak h4]
 .cases h3
def ajv (h:¬x.sh=-1)(h2:¬x.sh<0/\¬(shop.length:Int)<=x.sh)(h3:(oH shop[x.sh.toNat]! w.us[u]!.name x.v).2=true):c9 shop w.us c u x=(⟨w.us[u]!.name,x.v,shop[x.sh.toNat]!.name,(oH shop[x.sh.toNat]! w.us[u]!.name x.v).1.sum,lB w.us c u⟩,0):=by
 unfold c9 oH at*
 rw[ah h,ah ae];split at h3
 .cases h3
 .rename_i h4;rw[ah h4,ah h4]
end
def RH (shop:List bA)(us:List cI)(c:List Int):dC shop us c 1=([],0):=by
 rw[dC];show(if((([],0):List ea×Int).2≠0)then _ else _)=_;rw[ah (λh=>h rfl),ak (by unfold fq;simp)];rfl
def ajx (l k:Nat)(es:List Abs.D)(x:ea):iY l k es (ea.D x)=ea.D x:=rfl
def ada (l k:Nat)(es:List Abs.D)(o:List ea):mN l k es (o.map ea.D)=o.map ea.D:=jM l k es _ (bX (λ_=>rfl) _)
def N1 (r:Rec):Prop:=r.v∈bF/\∀n∈r.needs,∀w∈n.any,∀f∈w.feats,f=fW
def GenS (l:List bA):=∀s∈l,∀x∈s.es,N1 x.r
def ab5 (g:Gs)(own:au):∀w∈(gY g own).1,∀f∈w.feats,f=fW:=by
 unfold gY;split
 .intro w hw;simp only[bG,cU,or_false]at hw;rcases hw with rfl|rfl<;>intro f hf<;>cases hf
 .split
  .intro w hw f hf;rw[aD.1 hw]at hf;exact aD.1 hf
  .intro w hw f hf;rw[aD.1 hw]at hf;cases hf
def Yb (own:au)(g:Gs):∀i,∀n∈(nS own g i).1,∀w∈n.any,∀f∈w.feats,f=fW
 |0=>λ_ h=>by cases h
 |i+1=>λn h=>by
  rcases List.mem_append.1 h with h|h
  .exact Yb own g i n h
  .rw[aD.1 h];exact ab5 _ _
def Sq (g:Gs)(nm:au){v:bV}(hv:v∈bF)(most:Int):N1 (ph g nm v most).1:=⟨hv,Yb nm g.aS _⟩
section
variable {P:Rec->Prop}
def Z2 {p:bA×Int}(h:∀s∈l,∀x∈s.es,P x.r)(hp:∀x∈p.1.es,P x.r):∀s∈qV l k p,∀x∈s.es,P x.r:=by
 unfold qV;split
 .intro s hs;rcases List.mem_or_eq_of_mem_set hs with h1|rfl
  .exact h s h1
  .exact hp
 .exact h
def alq {s:bA}{nm:au}{v:bV}{on:Bool}(h:∀x∈s.es,P x.r):∀x∈(oB s nm v on).1.es,P x.r:=by
 unfold oB;split
 .intro x hx;cases hx
 .split
  .intro x hx;cases hx
  .rename_i h2;obtain⟨j,hj,hjl⟩:=(BE (l:=s.es) (nm:=nm) (v:=v)).resolve_left ae;rw[hj,Int.toNat_natCast];intro x hx;rcases List.mem_or_eq_of_mem_set hx with h1|rfl
   .exact h x h1
   .exact h s.es[j]! (aq hjl)
def put_P {s:bA}(h:∀x∈s.es,P x.r)(hr:P r):∀x∈(kU s r).1.es,P x.r:=by
 unfold kU;split
 .intro x hx;cases hx
 .split
  .intro x hx;cases hx
  .split
   .intro x hx;cases hx
   .split
    .intro x hx;cases hx
    .intro x hx;rcases List.mem_append.1 hx with h1|h1
     .exact h x h1
     .rw[aD.1 h1];exact hr
def afp (h:∀s∈l,∀x∈s.es,P x.r)(k:Nat):∀x∈l[k]!.es,P x.r:=vH (P:=λs:bA=>∀x∈s.es,P x.r) (λ_ h=>bZ) h k
def pub_P {g:Gs}(h:∀s∈l,∀x∈s.es,P x.r)(hr:∀h nm v,v∈bF->nm∈cF->P (ph h nm v 2).1):∀s∈(lS g l).1,∀x∈s.es,P x.r:=by
 have r4:=g.aS.eR 4 ae;have r5:=g.aS.aS.eR 4 ae;by_cases h1:g.aS.aS.aS.val 6=0
 .rw[show lS g l=(qV l (kG g l) (Vv g l),g.aS.aS.aS.aS.aS)from ak h1];exact Z2 h (alq (afp h _))
 .rw[show lS g l=(qV l (kG g l) (Vt g l),(rcG g).2)from ah h1];exact Z2 h (put_P (afp h _) (hr _ _ _ (aq (by simp only[bF,bD,ca];omega)) (C2 ae)))
def pS_P {g:Gs}(hr:∀h nm v,v∈bF->nm∈cF->P (ph h nm v 2).1):∀i,∀s∈(pS g i).1,∀x∈s.es,P x.r
 |0=>λs hs=>by
  simp only[pS,Nl,bG,cU,or_false]at hs;rcases hs with rfl|rfl<;>intro x hx<;>cases hx
 |i+1=>by rw[pS];exact pub_P (pS_P hr i) hr
end
def Np (most:Int):GenS (b8 ks most):=pS_P (λh nm v hv _=>Sq h nm hv 2) _
def Lw (h:GenS l):V7 l:=λs hs x hx=>(h s hs x hx).1
def aaF:(gu ks).r.v=bF[0]! :=by
 unfold gu;split
 .rfl
 .rfl
def aaE:N1 (gu ks).r:=by
 unfold gu;split
 .exact Sq _ GR aV 3
 .exact⟨aV,λn hn=>by cases hn⟩
def LW (h:qq y)(nm:au):∀x∈dL y nm,x.r.name=nm/\(x.sh=-1\/∃j i:Nat,x.sh=(j:Int)/\j<y.shop.length/\i<y.shop[j]!.es.length/\x.r=y.shop[j]!.es[i]!.r/\fO y.shop[j]! =true):=by
 unfold dL;split
 .rename_i h0;intro x hx;rw[aD.1 hx];refine⟨?_,.inl rfl⟩;rcases eX (f:=isM nm) (l:=y.l) (k:=0)with⟨h1,_⟩|⟨j,h1,h2,h3,_⟩
  .have:lR y.l nm=-1:=h1;omega
  .have e:lR y.l nm=((0+j:Nat):Int):=h1;rw[e,Int.toNat_natCast,cr];simpa[isM]using h3
 .split
  .intro x hx;cases hx
  .rename_i h1;have h1:(cJ y.shop y.pins nm).2.2=0:=Classical.not_not.1 h1;have h2:(gr y.shop y.pins nm).2=0:=by
    unfold cJ at h1;split at h1
    .rename_i h3;exact absurd h1 h3
    .rename_i h3;exact Classical.not_not.1 h3
   obtain⟨hB,j,hj,hjl⟩:=pN h2;have e1:cJ y.shop y.pins nm=((j:Int),kq y.shop[j]! nm,0):=by
    unfold cJ;rw[ah (λh=>h h2),hj,Int.toNat_natCast]
   rw[e1];simp only[Int.toNat_natCast];have hs:=It hB hjl;have e2:kq y.shop[j]! nm=eK y.shop[j]!.es nm y.shop[j]!.es.length:=by unfold kq;rw[hs,ah aC]
   intro x hx;obtain⟨⟨i,hi,e⟩,hsh⟩:=(pT (y:=y) (nm:=nm) (a:=j) _).2 x hx;have hr:=(sj y.shop[j]! nm).2 i hi;have hn:=(vN hs (h.v _ (aq hjl)) nm _ (aN _)).2 i (by rw[<-e2];exact hi);exact⟨by rw[e,hn],.inr ⟨j,i.toNat,hsh,hjl,ae,e,hs⟩⟩
def FeK (k:Key):Prop:=k.f=[]\/k.f=lv\/k.f=fW
def Tn (k:Key):Prop:=df k.n=true/\FeK k
structure GQ (y:cC):Prop where
 p:qq y
 g:GenS y.shop
 gm:∀m∈y.l,N1 m.r
def XY (h:GQ y)(nm:au):∀x∈dL y nm,N1 x.r:=by
 intro x hx;rcases(LW h.p nm x hx).2 with hs|⟨j,i,_,hj,hi,e,_⟩
 ·
  unfold dL at hx;split at hx
  .rename_i h0;rw[aD.1 hx];obtain⟨j,hj,hjl⟩:=(qN y.l nm).resolve_left ae;rw[hj,Int.toNat_natCast];exact h.gm _ (aq hjl)
  .split at hx
   .cases hx
   .have h5:=(pT (y:=y) (nm:=nm) (a:=(cJ y.shop y.pins nm).1.toNat) _).2 x hx;rw[h5.2]at hs;exact absurd hs ae
 .rw[e];exact h.g _ (aq hj) _ (aq hi)
def AM (P:Key->Prop)(l:List fS):=∀row∈l,∀a∈row,P a.k
def M9 {a b:List fS}(h1:AM P a)(h2:AM P b):AM P (a++b):=λr hr=>(List.mem_append.1 hr).elim (h1 r) (h2 r)
def DM:AM P []:=λr hr=>by cases hr
def tz {α:Type}{f:α->List fS}{l:List α}(h:∀x∈l,AM P (f x)):AM P (l.flatMap f):=λr hr=>by
 obtain⟨x,hx,hr⟩:=List.mem_flatMap.1 hr;exact h x hx r hr
def Na {k:Key}{s:cx}(h:P k):AM P [[⟨k,s⟩]]:=λr hr b hb=>by
 rw[aD.1 hr]at hb;rw[aD.1 hb];exact h
def NC {w:de}(hn:df w.name=true)(hf:∀f∈w.feats,f=fW):∀k∈ff w,Tn k:=by
 intro k hk;refine⟨by rw[Ea w k hk];exact hn, ?_⟩;unfold ff at hk;rcases List.mem_append.1 hk with h|h
 .split at h
  .split at h
   .rw[aD.1 h];exact .inl rfl
   .cases h
  .rw[aD.1 h];exact .inr (.inl rfl)
 .obtain⟨f,hf2,rfl⟩:=bY.1 h;exact .inr (.inr (hf f hf2))
def Sv {n:bn}(hN:wB n)(hn:∀w∈n.any,df w.name=true)(hf:∀w∈n.any,∀f∈w.feats,f=fW):AM Tn (iM n):=by
 unfold iM;split
 .intro r hr a ha;obtain⟨k,hk,rfl⟩:=bY.1 hr;rw[aD.1 ha];have h0:=aq hN.1.1;exact NC (hn _ h0) (hf _ h0) k hk
 .intro r hr a ha;rw[aD.1 hr]at ha;obtain⟨w,hw,rfl⟩:=bY.1 ha;exact NC (hn w hw) (hf w hw) _ (aq (oy w).1)
def ajl {s:au}(h:ry s):(bK s).1=2\/((bK s).1=3/\(bK s).2.2=fW):=by
 have:∀s∈T2,(bK s).1=2\/((bK s).1=3/\(bK s).2.2=fW):=by decide+kernel
 exact this s h
def YE (h:BX r)(hg:N1 r)(e:Env)(o:au):AM Tn (qM r.needs e o):=tz λn hn=>by
 unfold A5;split
 .exact Sv ((gD h).2 n hn) (p0 h n hn) (hg.2 n hn)
 .exact DM
def Yh (h:BX r)(hg:N1 r)(e:Env)(ft:au):AM Tn (cM r e ft):=by
 unfold cM;split
 .exact YE h hg e []
 .refine M9 (Na ⟨h.1.1.1,.inl rfl⟩) (tz λs hs=>?_);have hi:=ajl ((xz h ft).2 s hs);unfold mr;rw[ah (by rcases hi with h|h<;>omega)];split
  .exact YE h hg e _
  .rename_i h2;obtain⟨_,h3⟩:=hi.resolve_left h2;refine tz λn hn=>?_
   unfold rA;split
   .rename_i hc;have hN:=(gD h).2 n hn;refine M9 ?_ (Na ⟨?_,.inr (.inr h3)⟩)
    .split
     .exact DM
     .exact Sv hN (p0 h n hn) (hg.2 n hn)
    .show df (bK s).2.1=true;rw[<-hc.1.2];exact p0 h n hn _ (aq hN.1.1)
   .exact DM
def aeq (hy:GQ y)(k:Key):AM Tn (dc y k):=by
 unfold dc;split
 .obtain⟨⟨⟨m,hm,hM⟩,_⟩,_⟩:=hy.p.p;intro r hr a ha;rw[hm]at hr;rw[aD.1 hr]at ha;rw[aD.1 ha];exact⟨(Bv hM).1.1.1,.inr (.inl rfl)⟩
 .exact tz λx hx=>Yh ((xA hy.p.p k).2 x hx).1 (XY hy k.n x (List.mem_filter.1 hx).1) y.e k.f
def H4 {y:cC}(hy:GQ y):∀(n:Nat){s:oW}{all:List Key},(∀k∈s.all,k=fJ\/Tn k)->A8 y n s=some all->∀k∈all,k=fJ\/Tn k
 |0,s,all,_,h=>by cases h
 |n+1,s,all,hI,h=>by
  rw[A8]at h;split at h
  .obtain rfl:=aW h;exact hI
  .split at h
   .cases h
   .refine H4 hy n (λk hk=>?_) h;have hm:∀(row:fS) (s:oW),(∀a∈row,Tn a.k)->(∀k∈s.all,k=fJ\/Tn k)->∀k∈(row.foldl mD s).all,k=fJ\/Tn k:=by
     intro row;induction row with
     |nil=>intro s _ h;exact h
     |cons b r ih=>
      intro s hn h;refine ih _ (λa ha=>hn a (.tail _ ha)) λk hk=>?_
      rcases((H2 s b).1 k).1 hk with h1|rfl
      .exact h k h1
      .exact .inr (hn b (.head _))
    have hm2:∀(l:List fS) (s:oW),AM Tn l->(∀k∈s.all,k=fJ\/Tn k)->∀k∈(Pp s l).all,k=fJ\/Tn k:=by
     intro l;induction l with
     |nil=>intro s _ h;exact h
     |cons b r ih=>
      intro s hn h;exact ih _ (λrow hr=>hn row (.tail _ hr)) (hm b s (hn b (.head _)) h)
    exact hm2 (dc y s.todo[0]!) ⟨s.all,s.todo.drop 1⟩ (aeq hy _) hI k hk
def BW (c:List Int)(is:List Bool):Prop:=is.length=c.length/\∀j:Nat,is[j]! =true->0<=c[j]!
def Sz (is:List Bool)(i j:Nat)(b:Bool)(h:(is.set i b)[j]! =true):(i=j/\b=true)\/is[j]! =true:=by
 by_cases e:i=j
 .subst e;rcases dX i is.length with h1|h1
  .rw[List.getElem!_eq_getElem?_getD,List.getElem?_set_self h1]at h;exact .inl ⟨rfl,rj⟩
  .rw[List.set_eq_of_length_le h1]at h;exact .inr h
 .rw[List.getElem!_eq_getElem?_getD,List.getElem?_set_ne e,<-List.getElem!_eq_getElem?_getD]at h;exact .inr h
section
variable {is:List Bool}
def Yf (w:bP)(c:List Int)(is:List Bool)(x:Want):List Bool:=is.set x.u.toNat (is[x.u.toNat]! ||kR w c x)
def adP (x:Want)(h:BW c is):BW c (Yf w c is x):=by
 refine⟨by unfold Yf;rw[List.length_set];exact h.1,λj hj=>?_⟩;rcases Sz _ _ _ _ hj with⟨rfl,h1⟩|h1
 .rcases Bool.or_eq_true_iff.1 h1 with h2|h2
  .exact h.2 _ h2
  .unfold kR at h2;simp only[aA,aT]at h2;exact h2.1
 .exact h.2 _ h1
def HC:∀(l:List Want){is:List Bool},BW c is->BW c (vP w c is l)
 |[],_,h=>h
 |x::r,_,h=>HC r (adP x h)
def HA:∀(l:List nR){is:List Bool},BW c is->BW c (xu w c is l)
 |[],_,h=>h
 |x::r,_,h=>HA r (HC x h)
def Bw:∀(n:Nat){is:List Bool},BW c is->BW c (jf w c n is)
 |0,_,h=>h
 |n+1,_,h=>by
  rw[jf];unfold HB;split
  .exact HA _ (Bw n h)
  .exact Bw n h
def RR:∀(n:Nat){is:List Bool},BW c is->BW c (j6 w c n is)
 |0,_,h=>h
 |n+1,_,h=>Bw _ (RR n h)
def adN:BW c (mQ c):=by
 refine⟨by simp[mQ],λj hj=>?_⟩;rcases Sz _ _ _ _ hj with⟨rfl,h1⟩|h1
 .simpa using h1
 .exfalso;rcases dX j c.length with h2|h2<;>simp[List.getElem!_eq_getElem?_getD,h2]at h1
def ajK {l:List Want}{q:Nat}(h:q<l.length):vP w c is (l.take (q+1))=Yf w c (vP w c is (l.take q)) l[q]! :=by
 rw[List.take_add_one,List.getElem?_eq_getElem h,getElem!_pos l q h];simp only[vP,Option.toList_some,List.foldl_append,List.foldl_cons,List.foldl_nil,Yf]
def ajJ {l:List nR}(h:k<l.length):xu w c is (l.take (k+1))=vP w c (xu w c is (l.take k)) l[k]! :=by
 rw[List.take_add_one,List.getElem?_eq_getElem h,getElem!_pos l k h];simp only[xu,Option.toList_some,List.foldl_append,List.foldl_cons,List.foldl_nil]
def ajI (h:(jf w c j is)[j]! =true):jf w c (j+1) is=xu w c (jf w c j is) (aU w c j).needs:=by rw[jf];unfold HB;rw[ak h]
def ajH (h:¬(jf w c j is)[j]! =true):jf w c (j+1) is=jf w c j is:=by rw[jf];unfold HB;rw[ah h]
def afD {i:Nat}(h:i<is.length)(b:Bool):(is.map D.bool).set i (rO ((is.map D.bool).getD i .any) 1 1 0 (.bool b))=(is.set i b).map D.bool:=by
 rw[List.getD_eq_getElem?_getD,List.getElem?_map,List.getElem?_eq_getElem h,List.map_set];rfl
def adO (h:0<c.length):(List.replicate c.length (D.bool false)).set 0 (rO ((List.replicate c.length (D.bool false)).getD 0 .any) 1 1 0 (.bool (decide (0<=c[0]!))))=(mQ c).map D.bool:=by
 have:=afD (is:=List.replicate c.length false) (i:=0) rj (decide (0<=c[0]!));rw[List.map_replicate]at this;exact this
def ajL (h:ey w c=false):fo w c=[]:=ak h
def RV (h:ey w c=true):fo w c=j6 w c c.length (mQ c):=ah gp
end
def C0 (h:ey w c=true):c.length=w.us.length/\(1<=c.length/\c.length<=48)/\∀i,i<c.length->-1<=c[i]! /\c[i]! <(w.us[i]!.cands.length:Int):=by
 have h2:=h;simp only[ey,aA]at h2;obtain⟨h3,h4⟩:=nv h2.2;exact⟨h3,OZ h,h4⟩
def aiH (n:Int):lz (iD n):=by
 have h:=iF n 3 aV;unfold lz iD;obtain⟨i,hi⟩:∃i:Nat,(iE n 3).toNat=i:=⟨_,rfl⟩
 rw[hi];have:i=0\/i=1\/i=2:=ae;rcases this with rfl|rfl|rfl<;>decide
def aeQ (ks ss:List Int)(most n:Int):GQ (IH (gu ks) (b8 ss most) (iD n)):=by
 have hg:=Np ss most;have hy:=aaD ks;refine⟨⟨⟨⟨hy,Nn _ _⟩,aC,(λk hk=>by cases hk), ?_⟩,Lw hg,λm hm=>?_⟩,hg,λm hm=>?_⟩
 .have:=(tH hy (i:=0) aC).2.2.1;have h2:(gG [gu ks]).length<=1:=this;show(gG [gu ks]).length<=1000;omega
 .rw[aD.1 hm,aaF];decide
 .rw[aD.1 hm];exact aaE ks
def NmS (l:List bA):=∀s∈l,s.name.length<=16
def Z4 {s:bA}(h:NmS l)(hs:s.name.length<=16):NmS (l.set k s):=λx hx=>by
 rcases List.mem_or_eq_of_mem_set hx with h1|rfl
 .exact h x h1
 .exact hs
def OB (h:NmS l)(k:Nat):l[k]!.name.length<=16:=vH (P:=λs:bA=>s.name.length<=16) aV h k
def akr {g:Gs}(h:NmS l):NmS (lS g l).1:=by
 by_cases h1:g.aS.aS.aS.val 6=0
 .by_cases h2:(Vv g l).2=0
  .rw[YY h1 h2];refine Z4 h ?_;have:=OB h (kG g l);unfold Vv oB;split
   .exact Nat.zero_le _
   .split
    .exact Nat.zero_le _
    .exact this
  .rw[YZ h1 h2];exact h
 .by_cases h2:(Vt g l).2=0
  .rw[Y0 h1 h2];refine Z4 h ?_;have:=OB h (kG g l);unfold Vt kU;split
   .exact Nat.zero_le _
   .split
    .exact Nat.zero_le _
    .split
     .exact Nat.zero_le _
     .split
      .exact Nat.zero_le _
      .exact this
  .rw[Y1 h1 h2];exact h
def afK (g:Gs):∀i,NmS (pS g i).1
 |0=>by
  intro s hs;simp only[pS,Nl,bG,cU,or_false]at hs;rcases hs with rfl|rfl<;>decide
 |i+1=>akr (afK g i)
def aeA (ss:List Int)(most:Int):NmS (b8 ss most):=afK _ _
def NmU (w:bP):=∀u∈w.us,u.name.length<=16/\u.feat.length<=16
def adL {s:au}(h:df s=true):s.length<=16:=by
 unfold df at h;simp only[aA,aT]at h;exact h.1.1.1.2
def Wm (hy:GQ y)(h:(eA y).2=true):NmU (eA y).1:=by
 obtain⟨all,h1,h2,_,_⟩:=sR hy.p.p h;have hk:=H4 hy 49 (s:=nE) (all:=all) (λk hk=>.inl (by simpa[nE]using hk)) h1;intro u hu;rw[h2]at hu;obtain⟨k,hk1,rfl⟩:=bY.1 hu;show k.n.length<=16/\k.f.length<=16;rcases hk k hk1 with rfl|⟨h3,h4⟩
 .decide
 .refine⟨adL h3, ?_⟩;rcases h4 with h4|h4|h4<;>rw[h4]<;>decide
structure Tl (n:Nat)(x:ea):Prop where
 v:x.v.sm
 name:x.name.length<=16
 shelf:x.shelf.length<=16
 nf:x.feats.length<=n
 ft:∀t∈x.feats,t.length<=16
structure LckW (n:Nat)(l:lI):Prop where
 len:l.lines.length<=48
 lines:∀x∈l.lines,Tl n x
 env:∀i,(l.env.at i).length<=16
theorem LckW.sm {l:lI}(h:LckW n l)(hn:n<=1000):l.sm:=by
 refine⟨by have:=h.len;omega,λx hx=>?_,λi=>by have:=h.env i;omega⟩;have k:=h.lines x hx;have k3:=k.name;have k4:=k.shelf;have k5:=k.nf;exact⟨k.v,ae,ae,ae,λt ht=>by have:=k.ft t ht;omega⟩
def Tl.mono {m:Nat}{x:ea}(h:Tl n x)(hm:n<=m):Tl m x:=⟨h.v,h.name,h.shelf,fg h.nf hm,h.ft⟩
section
variable {e:Env}
def Cc (hw:NmU w)(nm:au):∀i,i<=w.us.length->∀t∈fU w.us c nm i,t.length<=16
 |0,_=>λt ht=>by cases ht
 |i+1,hi=>by
  rw[fU];split
  .intro t ht;rcases List.mem_append.1 ht with h|h
   .exact Cc hw nm i ae t h
   .rw[aD.1 h];exact(hw _ (aq ae)).2
  .exact Cc hw nm i ae
def ajw (hs:NmS shop)(hm:w.sm)(hl:w.us.length<=48)(hw:NmU w){u:Nat}(hu:u<w.us.length)(h:(c9 shop w.us c u (cj w.us c u)).2=0):Tl 48 (c9 shop w.us c u (cj w.us c u)).1:=by
 have hn:=(hw _ (aq hu)).1;have hf:(lB w.us c u).length<=48:=fg (vC _ _) hl;have hft:∀t∈lB w.us c u,t.length<=16:=Cc hw _ _ (aN _)
 have hv:(cj w.us c u).v.sm:=vH (P:=λc:eB=>c.v.sm) ⟨aV,aV⟩ (λc hc=>((hm _ (aq hu)).2 c hc).1) _;unfold c9 at*
 split at h
 .rename_i h1;rw[ak h1];exact⟨hv,hn,Nat.zero_le _,hf,hft⟩
 .rename_i h1;rw[ah h1];split at h
  .cases h
  .rename_i h2;rw[ah h2];split at h
   .cases h
   .rename_i h3;rw[ah h3];exact⟨hv,hn,OB hs _,hf,hft⟩
def XT (hs:NmS shop)(hm:w.sm)(hl:w.us.length<=48)(hw:NmU w):∀i,i<=w.us.length->∀x∈(dC shop w.us c i).1,Tl 48 x
 |0,_=>λx hx=>by cases hx
 |i+1,hi=>by
  have ih:=XT hs hm hl hw i ae;rw[dC];split
  .exact ih
  .split
   .exact ih
   .split
    .intro x hx;cases hx
    .rename_i h3;intro x hx;rcases List.mem_append.1 hx with h|h
     .exact ih x h
     .rw[aD.1 h];exact ajw hs hm hl hw ae (Classical.not_not.1 h3)
theorem of_w (hs:NmS shop)(hm:w.sm)(hl:w.us.length<=48)(hw:NmU w)(he:∀i,(e.at i).length<=16):LckW 48 (wv shop e w c).1:=by
 have h0:LckW 48 Ho:=⟨aV,(λx hx=>by cases hx),λi=>by unfold Ho Env.at;grind⟩;unfold wv;split
 .exact h0
 .split
  .exact h0
  .split
   .exact h0
   .exact⟨fg (tp _) hl,XT hs hm hl hw _ (aN _),he⟩
end
def Vd (h:ey w c=true)(h0:0<=c[0]!):0<=(rI w c)[0]! :=by
 obtain⟨_,⟨h1,_⟩,_⟩:=C0 h;rw[tD h ae];have h2:(mQ c)[0]! =true:=by
  unfold mQ;rw[List.getElem!_eq_getElem?_getD,List.getElem?_set_self fh];simpa using h0
 have h3:=(Bx (w:=w) (c:=c) c.length (mQ c)).2 0 (by simp[mQ];omega) h2;rw[RV h,ak h3];exact h0
section
variable {m:gW}{e:Env}{os:List Int}
def U9 (hy:GQ (IH m shop e))(h:(cB m shop e os).2.2=true):((cB m shop e os).1.sm/\(cB m shop e os).1.us.length<=48/\NmU (cB m shop e os).1)/\0<=(cB m shop e os).2.1[0]! :=by
 by_cases h0:(eu m shop e).2≠0\/5000<Dd (eu m shop e).1.us
 .rw[DV h0]at h;cases h
 .have h1:(eu m shop e).2=0/\¬5000<Dd (eu m shop e).1.us:=⟨Classical.not_not.1 λh2=>h0 (.inl h2),λh2=>h0 (.inr h2)⟩;cases hf:kJ (eu m shop e).1.us (iV (eu m shop e).1.us os)with
  |none=>rw[DW h1 hf]at h;cases h
  |some c=>
   obtain⟨hb,hw⟩:=pF hy.p h1.1;have hc:=mG hb.msk (pX os) _ _ (sx _) hf;have hs16:∀x∈(eu m shop e).1.us,x.cands.length<=16:=λx hx=>(hb.u x hx).1
   obtain⟨⟨g1,_⟩,g2⟩:=Ci hw hs16 (Rc hc.2) hc.1;rw[DX h1 hf];refine⟨⟨hb.sm,hb.len.2, ?_⟩,Vd g1 g2⟩;have h2:=h1.1;unfold eu gP at h2⊢;split at h2
   .cases h2
   .split at h2
    .cases h2
    .split at h2
     .cases h2
     .rename_i h3;rw[ah mf,ah mf,ah h3];exact Wm hy (by simpa using h3)
end
def vW (c:List Int)(s:List Int)(Jq:List Nat):List Int:=Jq.foldl (λs j=>s.set j c[j]!) s
def Mr (c:List Int):∀(Jq:List Nat) (s:List Int),(vW c s Jq).length=s.length
 |[],_=>rfl
 |j::Jq,s=>by rw[vW,List.foldl_cons];exact(Mr c Jq _).trans (List.length_set ..)
def Za (c s:List Int)(Jq J':List Nat):vW c s (Jq++J')=vW c (vW c s Jq) J':=List.foldl_append ..
theorem Mq (c:List Int):∀(Jq:List Nat) (s:List Int) (i:Nat),(∀j∈Jq,j<s.length)->(vW c s Jq)[i]! =if i∈Jq then c[i]! else s[i]!
 |[],s,i,_=>by simp[vW]
 |j::Jq,s,i,h=>by
  have ih:=Mq c Jq (s.set j c[j]!) i (λq hq=>by rw[List.length_set];exact h q (by simp[hq]));rw[vW,List.foldl_cons];refine dk ih ?_;rw[DP (h j aC)];simp only[bG]
  grind
def V2 (us:List cI)(c:List Int)(a b:au)(v:bV)(t:Bool):Prop:=0<=fM us a b/\mC us (fM us a b) v t=c[(fM us a b).toNat]! /\0<=c[(fM us a b).toNat]!
def Rq {us:List cI}{c:List Int}{x:ea}:∀(l:List au) (s:List Int),(∀f∈l,V2 us c x.name f x.v false)->vG us x l s=(0,vW c s (l.map λf=>(fM us x.name f).toNat))
 |[],s,_=>rfl
 |f::r,s,h=>by
  obtain⟨h1,h2,h3⟩:=h f aC;rw[vG,ah ae,h2,Rq r _ (λg hg=>h g (by simp[hg]))];rfl
def CR (us:List cI)(x:ea):List Nat:=(fM us x.name []).toNat::x.feats.map λf=>(fM us x.name f).toNat
def V1 (shop:List bA)(us:List cI)(c:List Int)(x:ea):Prop:=V2 us c x.name [] x.v true/\ll shop us[(fM us x.name []).toNat]!.cands[c[(fM us x.name []).toNat]!.toNat]! x=0/\∀f∈x.feats,V2 us c x.name f x.v false
def HS {s:List Int}{x:ea}(h:V1 shop us c x):kT shop us x s=(0,vW c s (CR us x)):=by
 obtain⟨⟨h1,h2,h3⟩,h4,h5⟩:=h;rw[kT,ah ae,h2,ah (by rw[h4];exact λh=>h rfl),Rq _ _ h5];rfl
def RG {shop:List bA}{us:List cI}{c:List Int}:∀(l:List ea) (s:List Int),(∀x∈l,V1 shop us c x)->mz shop us l s=(vW c s (l.flatMap (CR us)),0,[])
 |[],s,_=>rfl
 |x::r,s,h=>by
  rw[mz,HS (h x aC),ah aC,RG r _ (λy hy=>h y (by simp[hy]))];rw[List.flatMap_cons,Za]
def pk (hw:eG w=true){i:Nat}(h1:1<=i)(hi:i<w.us.length):fM w.us w.us[i]!.name w.us[i]!.feat=(i:Nat):=by
 have hd:∀q,(w.us.drop 1)[q]! =w.us[1+q]! :=λq=>by simp[List.getElem!_eq_getElem?_getD,Nat.add_comm]
 have hu:n6 w.us[i]!.name w.us[i]!.feat w.us[i]! =true:=by simp[n6]
 unfold fM;rcases eX (f:=n6 w.us[i]!.name w.us[i]!.feat) (l:=w.us.drop 1) (k:=1)with⟨_,h2⟩|⟨j,h2,h3,h4,_⟩
 .have:=h2 (i-1) (by rw[jO];omega);rw[hd,show 1+(i-1)=i by omega,hu]at this;cases this
 .rw[jO]at h3;rw[hd]at h4;rw[h2];by_cases e:1+j=i
  .omega
  .rcases dX (1+j) i with h5|h5
   .exact(zo hw ae h5 hi h4 hu).elim
   .exact(zo hw h1 ae ae hu h4).elim
def SO:∀a∈bF,iL a a=0:=by decide+kernel
def acv (hw:eG w=true){i:Nat}(hi:i<w.us.length)(hk:k<w.us[i]!.cands.length)(h0:0<k):iL w.us[i]!.cands[k-1]!.v w.us[i]!.cands[k]!.v<0:=by
 simp only[eG,aA,bd,lF]at hw;have h1:=(hw.2 i (Nat.zero_le _) hi).2 k (Nat.zero_le _) hk;simp only[mZ,aA,cE,ep,ct]at h1;rcases h1.2 with h2|h2
 .exact absurd h0 h2
 .omega
def Re {w:bP}(hw:eG w=true){i:Nat}(hi:i<w.us.length)(hv:∀x∈w.us[i]!.cands,x.v∈bF){j:Nat}:∀{k:Nat},j<k->k<w.us[i]!.cands.length->iL w.us[i]!.cands[j]!.v w.us[i]!.cands[k]!.v<0
 |0,h,_=>absurd h (Nat.not_lt_zero _)
 |k+1,h,hk=>by
  have h1:=acv hw hi hk ae;rw[Nat.add_sub_cancel]at h1;by_cases e:j=k
  .subst e;exact h1
  .exact SP _ (hv _ (aq ae)) _ (hv _ (aq ae)) _ (hv _ (aq hk)) (Re hw hi hv ae ae) h1
def ad6 (hw:eG w=true){i:Nat}{v:bV}(hi:i<w.us.length)(hv:∀x∈w.us[i]!.cands,x.v∈bF)(hk:k<w.us[i]!.cands.length)(e:w.us[i]!.cands[k]!.v=v)(t:Bool):mC w.us (i:Nat) v t=(k:Nat):=by
 have hin:=hv _ (aq hk);rw[e]at hin;have hy:Vr v t w.us[i]!.cands[k]! =true:=by
  unfold Vr;rw[e];cases t<;>simp[SO v hin]
 unfold mC;rw[ah ae,Int.toNat_natCast];rcases eX (f:=Vr v t) (l:=w.us[i]!.cands) (k:=0)with⟨_,h2⟩|⟨j,h2,h3,h4,h5⟩
 .rw[h2 k hk]at hy;cases hy
 .rw[h2];rcases Nat.lt_trichotomy j k with h6|h6|h6
  .have h7:=Re hw hi hv h6 hk;rw[e]at h7;unfold Vr at h4;cases t
   .simp only[cond_false,aT]at h4;omega
   .simp only[cond_true,aT]at h4;rw[h4,SO v hin]at h7;omega
  .subst h6;simp
  .rw[h5 k h6]at hy;cases hy
def lL {shop:List bA}{us:List cI}{c:List Int}:∀n,(dC shop us c n).2=0->(dC shop us c n).1=((List.range n).filter λu=>!fq us c u).map (λu=>(c9 shop us c u (cj us c u)).1)/\∀u,u<n->fq us c u=false->(c9 shop us c u (cj us c u)).2=0
 |0,_=>⟨rfl,λu h=>absurd h (Nat.not_lt_zero _)⟩
 |n+1,h=>by
  rw[dC]at h⊢;split at h
  .rename_i h1;exact absurd h h1
  .rename_i h1;have h1':(dC shop us c n).2=0:=by simpa using h1
   obtain⟨i1,i2⟩:=lL n h1';rw[ah h1];split at h
   .rename_i h2;rw[ak h2,List.range_succ,List.filter_append,i1];refine⟨by simp[h2],λu hu hs=>?_⟩;by_cases e:u=n
    .subst e;rw[h2]at hs;cases hs
    .exact i2 u ae hs
   .rename_i h2;rw[ah h2];split at h
    .rename_i h3;exact absurd h h3
    .rename_i h3;rw[ah h3,List.range_succ,List.filter_append,i1];refine⟨by simp[h2],λu hu hs=>?_⟩;by_cases e:u=n
     .subst e;simpa using h3
     .exact i2 u ae hs
def pK {us:List cI}{c:List Int}{nm:au}:∀{n:Nat}{f:au},f∈fU us c nm n↔∃i,(0<i/\i<n)/\(us[i]!.name=nm/\us[i]!.feat=f/\f≠[])/\0<=c[i]!
 |0,f=>by simp[fU]
 |n+1,f=>by
  rw[fU];have ih:=pK (us:=us) (c:=c) (nm:=nm) (n:=n) (f:=f);split
  .rename_i h;rw[List.mem_append,ih,aD];constructor
   .rintro(⟨i,h1,h2,h3⟩|rfl)
    .exact⟨i,⟨h1.1,ae⟩,h2,h3⟩
    .exact⟨n,⟨h.1,ae⟩,⟨h.2.1.1,rfl,h.2.1.2⟩,h.2.2⟩
   .rintro⟨i,h1,h2,h3⟩;by_cases e:i=n
    .subst e;exact .inr h2.2.1.symm
    .exact .inl ⟨i,⟨h1.1,ae⟩,h2,h3⟩
  .rename_i h;rw[ih];constructor
   .rintro⟨i,h1,h2,h3⟩;exact⟨i,⟨h1.1,ae⟩,h2,h3⟩
   .rintro⟨i,h1,h2,h3⟩;by_cases e:i=n
    .subst e;exact absurd ⟨h1.1,⟨h2.1,by rw[h2.2.1];exact h2.2.2⟩,h3⟩ h
    .exact⟨i,⟨h1.1,ae⟩,h2,h3⟩
structure wC (w:bP):Prop where
 val:eG w=true
 ver:∀i,1<=i->i<w.us.length->∀x∈w.us[i]!.cands,x.v∈bF
 main:∀i,1<=i->i<w.us.length->w.us[i]!.feat≠[]->∀x∈w.us[i]!.cands,∃j,(1<=j/\j<w.us.length)/\(w.us[j]!.name=w.us[i]!.name/\w.us[j]!.feat=[])/\[(⟨(j:Nat),dH x.v⟩:Want)]∈x.needs
def TV:∀a∈bF,∀b∈bF,oY (dH a) b=true->b=a:=by decide+kernel
def Cr (h:ey w c=true):c.length=w.us.length/\∀i,i<w.us.length->-1<=c[i]! /\c[i]! <(w.us[i]!.cands.length:Int):=by
 simp only[ey,uD,aA,aT,bd,AS]at h;exact⟨h.2.1,λi hi=>h.2.2 i (Nat.zero_le _) ae⟩
def Hu (hq:wC w)(hm:ey w c=true)(hh:jh w c=[]){i:Nat}(h1:1<=i)(hi:i<w.us.length)(hf:w.us[i]!.feat≠[])(hc:0<=c[i]!):
  ∃j,(1<=j/\j<w.us.length)/\(w.us[j]!.name=w.us[i]!.name/\w.us[j]!.feat=[])/\0<=c[j]! /\(cj w.us c j).v=(cj w.us c i).v:=by
 obtain⟨hl,hb⟩:=Cr hm;have hin:c[i]!.toNat<w.us[i]!.cands.length:=by have:=(hb i hi).2;omega
 obtain⟨j,hj,hn,hr⟩:=hq.main i h1 hi hf _ (aq hin);have hw:=((BP hm).1 hh i ae hc).1;obtain⟨k,hk,hke⟩:=List.getElem_of_mem hr;have hs:=hw k hk;have e:(aU w c i).needs[k]! =[(⟨(j:Nat),dH w.us[i]!.cands[c[i]!.toNat]!.v⟩:Want)]:=by
  show w.us[i]!.cands[c[i]!.toNat]!.needs[k]! =_;rw[getElem!_pos _ k hk];exact hke
 rw[e]at hs;simp only[DY,List.any_cons,List.any_nil,Bool.or_false,kR,Int.toNat_natCast,aA,aT]at hs;refine⟨j,hj,hn,hs.1, ?_⟩;have hjn:c[j]!.toNat<w.us[j]!.cands.length:=by have:=(hb j hj.2).2;have:=hs.1;omega
 exact TV _ (hq.ver i h1 hi _ (aq hin)) _ (hq.ver j hj.1 hj.2 _ (aq hjn)) hs.2
def Z0 (hq:wC w)(hm:ey w c=true){i:Nat}(h1:1<=i)(hi:i<w.us.length)(hc:0<=c[i]!){v:bV}(e:(cj w.us c i).v=v)(t:Bool):V2 w.us c w.us[i]!.name w.us[i]!.feat v t:=by
 obtain⟨hl,hb⟩:=Cr hm;have hin:c[i]!.toNat<w.us[i]!.cands.length:=by have:=(hb i hi).2;omega
 unfold V2;rw[pk hq.val h1 hi,Int.toNat_natCast];exact⟨ae,by rw[ad6 hq.val hi (hq.ver i h1 hi) hin e t];omega,hc⟩
def fw {u:Nat}{x:eB}(h:(c9 shop us c u x).2=0):(c9 shop us c u x).1.name=us[u]!.name/\(c9 shop us c u x).1.v=x.v/\(c9 shop us c u x).1.feats=lB us c u/\ll shop x (c9 shop us c u x).1=0:=by
 unfold c9 at*
 split
 .rename_i h1;refine⟨rfl,rfl,rfl, ?_⟩;unfold ll;rw[ak h1,ah aC,ah aC]
 .rename_i h1;rw[ah h1]at h;split at h
  .cases h
  .rename_i h2;rw[ah h2];split at h
   .cases h
   .rename_i h3;rw[ah h3];refine⟨rfl,rfl,rfl, ?_⟩;unfold ll;rw[ah h1,ah (by simp only[ne_eq,not_true_eq_false,or_false];exact h2),ah (by simp only[ne_eq,not_true_eq_false,or_false];exact h3)]
def LU (hq:wC w)(hm:ey w c=true)(hh:jh w c=[]){u:Nat}(hu:u<w.us.length)(hs:fq w.us c u=false)(h:(c9 shop w.us c u (cj w.us c u)).2=0):V1 shop w.us c (c9 shop w.us c u (cj w.us c u)).1:=by
 obtain⟨e1,e2,e3,e4⟩:=fw h;simp only[fq,ec,ct,cZ,aT]at hs;obtain⟨⟨h0,hc⟩,hf⟩:=hs;have hu1:1<=u:=ae;have hc0:0<=c[u]! :=ae;have h1:=Z0 hq hm hu1 hu hc0 (v:=(cj w.us c u).v) rfl true;rw[hf]at h1;unfold V1;rw[e1,e2,e3];have hun:=pk hq.val hu1 hu;rw[hf]at hun;refine⟨h1,by rw[hun,Int.toNat_natCast];exact e4,λf hfm=>?_⟩;obtain⟨i,hi,⟨hn,hfe,hne⟩,hci⟩:=pK.1 hfm;obtain⟨j,hj,⟨hjn,hjf⟩,hjc,hjv⟩:=Hu hq hm hh (i:=i) ae ae (by rw[hfe];exact hne) hci;have:j=u:=by
  have a1:=pk hq.val hj.1 hj.2;rw[hjn,hjf,hn,hun]at a1;omega
 subst this;have h2:=Z0 hq hm (i:=i) ae ae hci (v:=(cj w.us c j).v) hjv.symm false;rw[hn,hfe]at h2;exact h2
def BJ {u:Nat}(h1:1<=u)(hc:0<=c[u]!)(hf:us[u]!.feat=[]):fq us c u=false:=by
 simp only[fq,ec,ct,cZ,aT];exact⟨⟨ae,ae⟩,hf⟩
def LS (hq:wC w)(hm:ey w c=true)(hh:jh w c=[])(h0:0<=c[0]!)(h:(dx shop w c).2=0):mz shop w.us (dx shop w c).1 (EH w.us.length w.us.length)=(c,0,[]):=by
 obtain⟨hl,hb⟩:=Cr hm;obtain⟨e1,e2⟩:=lL w.us.length h;have hsay:∀x∈(dx shop w c).1,V1 shop w.us c x:=by
  intro x hx;have hx':x∈(dC shop w.us c w.us.length).1:=hx;rw[e1]at hx';obtain⟨u,hu,rfl⟩:=bY.1 hx';obtain⟨hu1,hu2⟩:=List.mem_filter.1 hu;have hun:=List.mem_range.1 hu1;have hsk:fq w.us c u=false:=by simpa using hu2
  exact LU hq hm hh hun hsk (e2 u hun hsk)
 rw[RG _ _ hsay];refine Prod.ext ?_ rfl;show vW c _ _=c;have hJ:∀j,j∈(dx shop w c).1.flatMap (CR w.us)->j<w.us.length:=by
  intro j hj;obtain⟨x,hx,hjx⟩:=List.mem_flatMap.1 hj;obtain⟨⟨a1,a2,a3⟩,_,a4⟩:=hsay x hx;have lim:∀a b,0<=fM w.us a b->(fM w.us a b).toNat<w.us.length:=by
   intro a b hab;rcases Eb (us:=w.us) (a:=a) (b:=b)with h6|⟨i,h6,h7,h8⟩<;>omega
  rcases bG.1 hjx with rfl|h5
  .exact lim _ _ a1
  .obtain⟨f,hf,rfl⟩:=bY.1 h5;exact lim _ _ (a4 f hf).1
 apply List.ext_getElem
 .rw[Mr,Bm,hl]
 .intro i h1 h2;have h3:=Mq c ((dx shop w c).1.flatMap (CR w.us)) (EH w.us.length w.us.length) i (λj hj=>by rw[Bm];exact hJ j hj);rw[getElem!_pos _ i h1,getElem!_pos c i h2]at h3;rw[h3];split
  .rfl
  .rename_i hni;have hi:i<w.us.length:=ae;have hbi:=hb i hi;rw[getElem!_pos c i h2]at hbi;rw[G3 hi];split
   .rename_i hi1

    by_cases hc:0<=c[i]!
    .exfalso;apply hni;by_cases hf:w.us[i]!.feat=[]
     .refine List.mem_flatMap.2 ⟨(c9 shop w.us c i (cj w.us c i)).1, ?_, ?_⟩
      .show _∈(dC shop w.us c w.us.length).1;rw[e1];exact bY.2 ⟨i,List.mem_filter.2 ⟨List.mem_range.2 hi,by rw[BJ hi1 hc hf];rfl⟩,rfl⟩
      .have hsk:fq w.us c i=false:=BJ hi1 hc hf;obtain⟨b1,_⟩:=fw (e2 i hi hsk);have hun:=pk hq.val hi1 hi;rw[hf]at hun;exact bG.2 (.inl (by rw[b1,hun];simp))
     .obtain⟨j,hj,⟨hjn,hjf⟩,hjc,hjv⟩:=Hu hq hm hh hi1 hi hf hc;have hsk:fq w.us c j=false:=BJ hj.1 hjc hjf;refine List.mem_flatMap.2 ⟨(c9 shop w.us c j (cj w.us c j)).1, ?_, ?_⟩
      .show _∈(dC shop w.us c w.us.length).1;rw[e1];exact bY.2 ⟨j,List.mem_filter.2 ⟨List.mem_range.2 hj.2,by rw[hsk];rfl⟩,rfl⟩
      .obtain⟨b1,_,b3,_⟩:=fw (e2 j hj.2 hsk);refine bG.2 (.inr (bY.2 ⟨w.us[i]!.feat, ?_, ?_⟩))
       .rw[b3];exact pK.2 ⟨i,⟨ae,hi⟩,⟨hjn.symm,rfl,hf⟩,hc⟩
       .rw[b1,hjn,pk hq.val hi1 hi];simp
    .rw[getElem!_pos c i h2]at hc;omega
   .have:i=0:=ae;subst this;have h00:w.us[0]!.cands.length=1:=by
     have:=hq.val;simp only[eG,uR,aA,aT]at this;exact this.1.2.2
    rw[getElem!_pos c 0 h2]at h0;omega
def adz {all:List Key}(hs:KS all){i:Nat}(hij:i<j)(hj:j<all.length):eY all[i]! all[j]! =true:=by
 have:=List.pairwise_iff_getElem.1 hs i j ae hj hij;rw[getElem!_pos all i ae,getElem!_pos all j hj];exact this
def Hm {all:List Key}(hs:KS all)(hz:fJ∈all){i:Nat}(h1:1<=i)(hi:i<all.length):all[i]! ≠fJ:=by
 intro e;have:=adz hs (i:=0) (j:=i) ae hi;rw[(all_zero hs hz).1,e,tm]at this;cases this
def K8 {all:List Key}{k:Key}(hk:k≠fJ)(h:(ew y all k).2=true):(ew y all k).1=(eO y k).map (dU y all k):=by
 unfold ew at*
 rw[ah hk]at h⊢;split at h
 .cases h
 .rename_i h1;rw[ah h1]
def Og (hy:GQ y)(h:(eA y).2=true):wC (eA y).1:=by
 obtain⟨all,hr,hus,hc,hB⟩:=sR hy.p.p h;obtain⟨hz,h48,hcl⟩:=sC hr;obtain⟨hs,hnm⟩:=H3 hy.p.p hr;have hl:(eA y).1.us.length=all.length:=by rw[hus,a8]
 have hat:∀i,i<all.length->(eA y).1.us[i]! =rK y all all[i]! :=λi hi=>by rw[hus,fI hi]
 refine⟨Ei hy.p h,λi h1 hi x hx=>?_,λi h1 hi hf x hx=>?_⟩
 .rw[hl]at hi;rw[hat i hi]at hx;have hne:=Hm hs hz h1 hi;have hx':x∈(ew y all all[i]!).1:=hx;rw[K8 hne (hc i hi)]at hx';obtain⟨r,hr',rfl⟩:=bY.1 hx';exact CT hy.p.p hy.p.v hy.p.m all[i]!.n _ (List.mem_filter.1 hr').1
 .rw[hl]at hi⊢;rw[hat i hi]at hx hf;have hne:=Hm hs hz h1 hi;have hx':x∈(ew y all all[i]!).1:=hx;rw[K8 hne (hc i hi)]at hx';obtain⟨r,hr',rfl⟩:=bY.1 hx';have hf':all[i]!.f≠[]:=hf;have hrn:r.r.name=all[i]!.n:=(LW hy.p all[i]!.n r (List.mem_filter.1 hr').1).1;have hrow:[(⟨⟨r.r.name,[]⟩,dH r.r.v⟩:js)]∈cM r.r y.e all[i]!.f:=by
   unfold cM;rw[ah hf'];simp
  have hin:(⟨r.r.name,[]⟩:Key)∈all:=hcl _ (aq hi) [⟨⟨r.r.name,[]⟩,dH r.r.v⟩] (by unfold dc;rw[ah hne];exact List.mem_flatMap.2 ⟨r,hr',hrow⟩) _ (aD.2 rfl);obtain⟨p1,p2⟩:=y5 hin;have hk0:(⟨r.r.name,[]⟩:Key)≠fJ:=by
   intro e;have e2:r.r.name=[]:=aw Key.n e;have:=(hnm _ (aq hi));rcases this with h5|h5
   .exact hne h5
   .rw[hrn]at e2;exact h5 e2
  have hj0:=tv hs hz hk0;obtain⟨j,hj⟩:∃j:Nat,eo all ⟨r.r.name,[]⟩=(j:Nat):=⟨(eo all ⟨r.r.name,[]⟩).toNat,ae⟩
  have hje:all[j]! =⟨r.r.name,[]⟩:=by
   have:=hj;unfold eo at this;rcases eX (f:=λx=>decide (x=(⟨r.r.name,[]⟩:Key))) (l:=all) (k:=0)with⟨h6,_⟩|⟨q,h6,h7,h8,_⟩
   .omega
   .have:q=j:=ae;subst this;exact of_decide_eq_true h8
  refine⟨j,⟨ae,ae⟩, ?_, ?_⟩
  .rw[hat j ae,hat i hi];show all[j]!.n=all[i]!.n/\all[j]!.f=[];rw[hje,hrn];exact⟨rfl,rfl⟩
  .show _∈dG all (cM r.r y.e all[i]!.f);refine bY.2 ⟨_,hrow, ?_⟩;show [(⟨eo all ⟨r.r.name,[]⟩,dH r.r.v⟩:Want)]=_;rw[hj];rfl
def N2 (w:bP):=∀i,1<=i->i<w.us.length->df w.us[i]!.name=true/\(w.us[i]!.feat=[]\/w.us[i]!.feat=lv\/w.us[i]!.feat=fW)
def Tz (hy:GQ y)(h:(eA y).2=true):N2 (eA y).1:=by
 obtain⟨all,hr,hus,_,_⟩:=sR hy.p.p h;obtain⟨hz,_,_⟩:=sC hr;obtain⟨hs,_⟩:=H3 hy.p.p hr;have hk:=H4 hy 49 (s:=nE) (all:=all) (λk hk=>.inl (by simpa[nE]using hk)) hr;intro i h1 hi;have hi':i<all.length:=by rw[hus,a8]at hi;exact hi
 rw[hus,fI hi'];have hne:=Hm hs hz h1 hi';rcases hk _ (aq hi')with h5|h5
 .exact absurd h5 hne
 .exact h5
def Lj {w:bP}(hw:eG w=true){c:List Int}{nm:au}:∀n,n<=w.us.length->(fU w.us c nm n).Pairwise λa b=>Op.bytesLess a b=true
 |0,_=>by simp[fU]
 |n+1,hn=>by
  have ih:=Lj hw (c:=c) (nm:=nm) n ae;rw[fU];split
  .rename_i h;rw[List.pairwise_append];refine⟨ih,aC,λa ha b hb=>?_⟩;rw[aD.1 hb];obtain⟨i,hi,⟨hnm,hf,_⟩,_⟩:=pK.1 ha;have h2:=tE hw (i:=i) ae hi.2 ae;unfold jL at h2;rw[hnm,h.2.1.1,my,Bool.false_or,aA]at h2;rw[<-hf];exact h2.2
  .exact ih
def up_at {l:List au}(h:l.Pairwise λa b=>Op.bytesLess a b=true){i:Nat}(h0:0<i)(hi:i<l.length):Op.bytesLess l[i-1]! l[i]! =true:=by
 have:=List.pairwise_iff_getElem.1 h (i-1) i ae hi ae;rw[getElem!_pos l (i-1) ae,getElem!_pos l i hi];exact this
theorem aeL {l:List au}(h:l.Pairwise λa b=>Op.bytesLess a b=true)(h2:∀f∈l,f=lv\/f=fW):l.length<=9:=by
 match l with
 |[]=>simp
 |[_]=>simp
 |[_,_]=>simp
 |a::b::d::r=>
  exfalso;have ne:∀x y:au,Op.bytesLess x y=true->x≠y:=by
   intro x y hxy e;rw[e,my]at hxy;cases hxy
  have p1:=List.pairwise_cons.1 h;have p2:=List.pairwise_cons.1 p1.2;have n1:=ne _ _ (p1.1 b aC);have n2:=ne _ _ (p1.1 d aC);have n3:=ne _ _ (p2.1 d aC);have a1:=h2 a aC;have a2:=h2 b aC;have a3:=h2 d aC
  grind
def RQ {s:au}(h:df s=true):s≠[]:=by
 rintro rfl;revert h;decide
def XS (hq:wC w)(hn:N2 w)(hs:dr shop=true)(hm:ey w c=true){u:Nat}(hu:u<w.us.length)(hk:fq w.us c u=false)(h:(c9 shop w.us c u (cj w.us c u)).2=0):Hs (c9 shop w.us c u (cj w.us c u)).1=true:=by
 obtain⟨e1,e2,e3,_⟩:=fw h;obtain⟨hl,hb⟩:=Cr hm;simp only[fq,ec,ct,cZ,aT]at hk;obtain⟨⟨h0,hc⟩,hf⟩:=hk;have hin:c[u]!.toNat<w.us[u]!.cands.length:=by have:=(hb u hu).2;omega
 have hv:gJ (cj w.us c u).v=true:=by
  have hw:=hq.val;simp only[eG,aA,bd,lF,mZ]at hw;exact((hw.2 u (Nat.zero_le _) hu).2 _ (Nat.zero_le _) hin).1.1
 have hnm:=(hn u ae hu).1;have hup:=Lj hq.val (c:=c) (nm:=w.us[u]!.name) w.us.length (aN _);have hfe:∀f∈lB w.us c u,f=lv\/f=fW:=by
  intro f hf;obtain⟨i,hi,⟨_,h2,h3⟩,_⟩:=pK.1 hf;rcases(hn i ae hi.2).2 with h4|h4
  .rw[h4]at h2;exact absurd h2.symm h3
  .rw[<-h2];exact h4
 have h9:=aeL hup hfe;have hsh:∀j,j<shop.length->df shop[j]!.name=true:=by
  intro j hj;simp only[dr,aA,bd,sL,fO]at hs;exact(hs.2 j (Nat.zero_le _) hj).1.1.1
 have hsf:(decide ((c9 shop w.us c u (cj w.us c u)).1.shelf≠[])&& !df (c9 shop w.us c u (cj w.us c u)).1.shelf)=false/\(decide ((c9 shop w.us c u (cj w.us c u)).1.shelf=[])&&decide ((c9 shop w.us c u (cj w.us c u)).1.sum≠0))=false:=by
  unfold c9 at h⊢;split
  .exact⟨rfl,rfl⟩
  .rename_i h1;rw[ah h1]at h;split at h
   .cases h
   .rename_i h2;rw[ah h2];split at h
    .cases h
    .rename_i h3;rw[ah h3];have h4:=hsh (cj w.us c u).sh.toNat ae;refine⟨by show(_&& !df shop[(cj w.us c u).sh.toNat]!.name)=false;rw[h4];simp, ?_⟩;show(decide (shop[(cj w.us c u).sh.toNat]!.name=[])&&_)=false;rw[bL (RQ h4)];rfl
 unfold Hs;rw[hsf.1,hsf.2,e1,e2,e3,hnm,hv,br (show(lB w.us c u).length<=9 from h9)];simp only[Bool.and_self,eI,Bool.not_false];rw[bd];intro i _ hi;unfold zO;have hw:gL (lB w.us c u)[i]! =true:=by
  rcases hfe _ (aq hi)with h5|h5<;>rw[h5]<;>decide
 rw[hw,eI];by_cases hi0:0<i
 .rw[show Op.bytesLess (lB w.us c u)[i-1]! (lB w.us c u)[i]! =true from up_at hup hi0 hi];simp
 .simp[hi0]
def RB {e:Env}(hq:wC w)(hn:N2 w)(hs:dr shop=true)(he:nV e=true)(hm:ey w c=true)(h:(dx shop w c).2=0):LM ⟨e,(dx shop w c).1⟩=true:=by
 obtain⟨e1,e2⟩:=lL w.us.length h;have e1':(dx shop w c).1=_:=e1;have h48:=(Qn hq.val).2;unfold LM;show(nV e&&decide ((dx shop w c).1.length<=48)&&bW (xh (dx shop w c).1) 0 (dx shop w c).1.length)=true;rw[he,br (show(dx shop w c).1.length<=48 by have:=tp (shop:=shop) (us:=w.us) (c:=c) w.us.length;have e:(dx shop w c).1.length=(dC shop w.us c w.us.length).1.length:=rfl;omega),eI,eI,bd];have hp:(dx shop w c).1.Pairwise λa b=>Op.bytesLess a.name b.name=true:=by
  rw[e1',List.pairwise_map];have h1:(List.range w.us.length).Pairwise (· < ·):=List.pairwise_lt_range;refine List.Pairwise.imp_of_mem ?_ (List.Pairwise.sublist List.filter_sublist h1);intro a b ha hb hab;obtain⟨Vq,ha2⟩:=List.mem_filter.1 ha;obtain⟨hb1,qD⟩:=List.mem_filter.1 hb;have Vq:=List.mem_range.1 Vq;have hb1:=List.mem_range.1 hb1;have ha2:fq w.us c a=false:=by simpa using ha2
  have qD:fq w.us c b=false:=by simpa using qD
  rw[(fw (e2 a Vq ha2)).1,(fw (e2 b hb1 qD)).1];simp only[fq,ec,ct,cZ,aT]at ha2 qD;have h2:=tE hq.val (i:=a) ae hab hb1;unfold jL at h2;rw[ha2.2,qD.2,my,Bool.and_false,Bool.or_false]at h2;exact h2
 intro i _ hi;unfold xh;have hx:Hs (dx shop w c).1[i]! =true:=by
  have hmem:=aq hi;rw[e1']at hmem;obtain⟨u,hu,hue⟩:=bY.1 hmem;obtain⟨hu1,hu2⟩:=List.mem_filter.1 hu;have hu1:=List.mem_range.1 hu1;have hu2:fq w.us c u=false:=by simpa using hu2
  rw[e1',<-hue];exact XS hq hn hs hm hu1 hu2 (e2 u hu1 hu2)
 rw[hx,eI];by_cases hi0:0<i
 .have:=List.pairwise_iff_getElem.1 hp (i-1) i ae hi ae;rw[getElem!_pos _ (i-1) ae,getElem!_pos _ i hi,this];simp
 .simp[hi0]
theorem Pb {e:Env}(h:(wv shop e w c).2=0):((eG w=true/\dr shop=true)/\nV e=true)/\ey w c=true/\jh w c=[]/\(dx shop w c).2=0/\(wv shop e w c).1=⟨e,(dx shop w c).1⟩:=by
 unfold wv at h⊢;split at h
 .cases h
 .rename_i h1;rw[ah h1];split at h
  .cases h
  .rename_i h2;rw[ah h2];split at h
   .rename_i h3;exact absurd h h3
   .rename_i h3;rw[ah h3];refine⟨by grind,by grind,lV ae,ae,rfl⟩
def Wx {e:Env}(hq:wC w)(hn:N2 w)(h0:0<=c[0]!)(h:(wv shop e w c).2=0):jk shop e w (wv shop e w c).1=(c,0,[])/\wQ shop e w (wv shop e w c).1=(0,[]):=by
 obtain⟨h1,hm,hh,hl,he⟩:=Pb h;rw[he];have hmay:=RB (e:=e) hq hn h1.1.2 h1.2 hm hl;have hc:jk shop e w ⟨e,(dx shop w c).1⟩=(c,0,[]):=by
  rw[Wy h1 ⟨hmay,rfl⟩];exact LS hq hm hh h0 hl
 refine⟨hc, ?_⟩;exact Ww (by rw[hc]) (by rw[hc];show(jh w c).length=0;rw[hh];rfl)
section
variable {m:gW}{e:Env}{os:List Int}
def Nr (hy:GQ (IH m shop e))(h:(cB m shop e os).2.2=true):wC (cB m shop e os).1/\N2 (cB m shop e os).1/\ey (cB m shop e os).1 (cB m shop e os).2.1=true/\jh (cB m shop e os).1 (cB m shop e os).2.1=[]:=by
 by_cases h0:(eu m shop e).2≠0\/5000<Dd (eu m shop e).1.us
 .rw[DV h0]at h;cases h
 .have h1:(eu m shop e).2=0/\¬5000<Dd (eu m shop e).1.us:=⟨Classical.not_not.1 λh2=>h0 (.inl h2),λh2=>h0 (.inr h2)⟩;cases hf:kJ (eu m shop e).1.us (iV (eu m shop e).1.us os)with
  |none=>rw[DW h1 hf]at h;cases h
  |some c=>
   obtain⟨hb,hw⟩:=pF hy.p h1.1;have hc:=mG hb.msk (pX os) _ _ (sx _) hf;have hs16:∀x∈(eu m shop e).1.us,x.cands.length<=16:=λx hx=>(hb.u x hx).1
   obtain⟨⟨g1,g3⟩,g2⟩:=Ci hw hs16 (Rc hc.2) hc.1;rw[DX h1 hf];have hq:wC (eu m shop e).1/\N2 (eu m shop e).1:=by
    have h2:=h1.1;unfold eu gP at h2⊢;split at h2
    .cases h2
    .split at h2
     .cases h2
     .split at h2
      .cases h2
      .rename_i h3;rw[ah mf,ah mf,ah h3];exact⟨Og hy (by simpa using h3),Tz hy (by simpa using h3)⟩
   exact⟨hq.1,hq.2,Nw g1,Qg (VV hw) g1 g3⟩
end
def vM (shop:List bA)(us:List cI)(c:List Int)(K:List Nat):List ea:=K.map λu=>(c9 shop us c u (cj us c u)).1
def er (us:List cI)(c:List Int):List Nat:=(List.range us.length).filter λu=>!fq us c u
def kr {u:Nat}:u∈er us c↔u<us.length/\fq us c u=false:=by
 unfold er;rw[List.mem_filter,List.mem_range];simp
def X2 (us:List cI)(c:List Int):(er us c).Pairwise (· < ·):=List.Pairwise.sublist List.filter_sublist List.pairwise_lt_range
def mA (h:(dx shop w c).2=0):(dx shop w c).1=vM shop w.us c (er w.us c):=(lL w.us.length h).1
def Cg {l:List ea}{nm:au}:∀p,p<=l.length->(∀q,q<p->l[q]!.name≠nm)->iX l nm 0=iX l nm p
 |0,_,_=>rfl
 |p+1,hp,h=>by rw[Cg p ae (λq hq=>h q ae),Ll ae (h p ae)]
def tn {K:List Nat}{p:Nat}(hp:p<K.length):(vM shop us c K)[p]! =(c9 shop us c K[p]! (cj us c K[p]!)).1:=by
 unfold vM;rw[getElem!_pos _ p (by rw[a8];exact hp),List.getElem_map,getElem!_pos K p hp]
section
def Qm (hq:wC w)(hm:ey w c=true)(hh:jh w c=[])(h:(dx shop w c).2=0){u:Nat}(hu1:1<=u)(hu:u<w.us.length):
  (c[u]! <0->w.us[u]!.feat=[]->iX (dx shop w c).1 w.us[u]!.name 0=-1)/\
  (0<=c[u]! ->∃p:Nat,p<(dx shop w c).1.length/\iX (dx shop w c).1 w.us[u]!.name 0=(p:Int)/\(dx shop w c).1[p]!.v=(cj w.us c u).v):=by
 obtain⟨_,e2⟩:=lL w.us.length h;rw[mA h];have hll:(vM shop w.us c (er w.us c)).length=(er w.us c).length:=by unfold vM;rw[a8]
 have hK:∀q,q<(er w.us c).length->((er w.us c)[q]! <w.us.length/\fq w.us c (er w.us c)[q]! =false):=λq hq'=>kr.1 (aq hq')
 have hnm:∀q,q<(er w.us c).length->(vM shop w.us c (er w.us c))[q]!.name=w.us[(er w.us c)[q]!]!.name:=λq hq'=>by
  rw[tn hq'];exact(fw (e2 _ (hK q hq').1 (hK q hq').2)).1
 have hmain:∀q,q<(er w.us c).length->1<=(er w.us c)[q]! /\w.us[(er w.us c)[q]!]!.feat=[]/\0<=c[(er w.us c)[q]!]! :=λq hq'=>by
  have hs:=(hK q hq').2;simp only[fq,ec,ct,cZ,aT]at hs;exact⟨ae,hs.2,ae⟩
 have huniq:∀q j,q<(er w.us c).length->1<=j->j<w.us.length->w.us[j]!.feat=[]->w.us[(er w.us c)[q]!]!.name=w.us[j]!.name->(er w.us c)[q]! =j:=by
  intro q j hq' h1 h2 h3 h4;have a1:=pk hq.val (hmain q hq').1 (hK q hq').1;have a2:=pk hq.val h1 h2;rw[(hmain q hq').2.1,h4]at a1;rw[h3]at a2;omega
 constructor
 .intro hc hf;rw[Cg (vM shop w.us c (er w.us c)).length (aN _) (λq hq' e=>by
   rw[hll]at hq';rw[hnm q hq']at e;have:=huniq q u hq' hu1 hu hf e;have:=(hmain q hq').2.2;rw[huniq q u hq' hu1 hu hf e]at this;omega),Fz (aN _)]
 .intro hc;obtain⟨j,hj,hjn,hjf,hjc,hjv⟩:∃j,(1<=j/\j<w.us.length)/\w.us[j]!.name=w.us[u]!.name/\w.us[j]!.feat=[]/\0<=c[j]! /\(cj w.us c j).v=(cj w.us c u).v:=by
   by_cases hf:w.us[u]!.feat=[]
   .exact⟨u,⟨hu1,hu⟩,rfl,hf,hc,rfl⟩
   .obtain⟨j,hj,hjn,hjc,hjv⟩:=Hu hq hm hh hu1 hu hf hc;exact⟨j,hj,hjn.1,hjn.2,hjc,hjv⟩
  obtain⟨p,hp,hpe⟩:=List.getElem_of_mem (kr.2 ⟨hj.2,BJ hj.1 hjc hjf⟩);have hpe':(er w.us c)[p]! =j:=by rw[getElem!_pos _ p hp];exact hpe
  refine⟨p,by rw[hll];exact hp, ?_, ?_⟩
  .rw[Cg p (by rw[hll];omega) (λq hq' e=>by
    have hql:q<(er w.us c).length:=ae;rw[hnm q hql,<-hjn]at e;have e1:=huniq q j hql hj.1 hj.2 hjf e;have e3:=List.pairwise_iff_getElem.1 (X2 w.us c) q p hql hp hq';rw[<-getElem!_pos (er w.us c) q hql,<-getElem!_pos (er w.us c) p hp,e1,hpe']at e3;omega)]
   exact Lk (by rw[hll];exact hp) (by rw[hnm p hp,hpe'];exact hjn)
  .rw[tn hp,(fw (e2 _ (hK p hp).1 (hK p hp).2)).2.1,hpe'];exact hjv
end
end Go.Abs
end
