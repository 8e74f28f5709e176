/- A part of the proofs. -/
import Derived.Test.YtdhangmdmdegpaaGreatDoorP07
set_option linter.all false
set_option maxRecDepth 60000
set_option maxHeartbeats 2000000
noncomputable section
namespace Go.Abs
variable(T:Θ->D->Prop)(Z:Ctx){J:Src->a7}{α:Type}{g:Ν}{n k f:Nat}{env:Φ}{Y:Ctx}{ds:Θ}{d:D}{st:St}
def KR:=∀(x:Int),T [.int .i64 x] (.bool false)
def C714:Prop:=KR (aH Z 714)
def KQ:=∀(x:aw),T [.str x] (.bool false)
def C704:Prop:=KQ (aH Z 704)
def uE:=∀(a:Int) (b:Int),T [.int .i64 a,.int .i64 b] (.int .i64 (du a b))
def C532:Prop:=uE (aH Z 532)
def uD:=∀(a:aw) (b:aw),T [.str a,.str b] (.int .i64 (qc a b))
def C516:Prop:=uD (aH Z 516)
def Ku:=∀(l:Δ),T [.sl 1 (l.map (D.int .i64))] (.int .i64 (gh (λi=>l[i]!) 0 l.length))
def C531:Prop:=Ku (aH Z 531)
def Kt:=∀(v:b6),T [b6.D v] (b6.D (sw v))
def C530:Prop:=Kt (aH Z 530)
def uG:=∀(a:aw) (b:aw),T [.str a,.str b] (.int .i64 (yN a b))
def C534:Prop:=uG (aH Z 534)
def uu:=∀(a:b6) (b:b6),(a.sm/\b.sm)->T [b6.D a,b6.D b] (.int .i64 (iO a b))
def Uk:Prop:=uu (aH Z 295)
def uM:=∀(a:b6) (b:b6),(a.sm/\b.sm)->T [b6.D a,b6.D b] (.bool (Iw a b))
def C701:Prop:=uM (aH Z 701)
def KP:=∀(x:ju) (nm:aw) (v:b6),(x.r.v.sm/\v.sm)->T [ju.D x,.ref 1 [.str nm] 0 0,.ref 5 [b6.D v] 0 0] (.bool (BA nm v x))
def C700:Prop:=KP (aH Z 700)
def KO:=∀(l:ω) (nm:aw) (v:b6),((∀x∈l,x.r.v.sm)/\v.sm)->T [.sl 11 (l.map ju.D),.fn 700 [.ref 1 [.str nm] 0 0,.ref 5 [b6.D v] 0 0]] (.int .i64 (qt l nm v 0))
def C699:Prop:=KO (aH Z 699)
def uC:=∀(l:ω) (nm:aw) (v:b6),((∀x∈l,x.r.v.sm)/\v.sm)->T [.sl 11 (l.map ju.D),.str nm,b6.D v] (.int .i64 (qt l nm v 0))
def C511:Prop:=uC (aH Z 511)
def uw:=∀(s:bz),(∀x∈s.es,gM x.r)->T [bz.D s] (.bool (gA s))
def C353:Prop:=uw (aH Z 353)
def K5:=∀(n:Nat),(n<=9999)->T [.int .u64 (n:Nat)] (.str (og n))
def C882:Prop:=K5 (aH Z 882)
def C734:Prop:=pF (aH Z 734)
def C470:Prop:=uF (aH Z 470)
def Kb:=∀(c:Int),T [.int .u8 c] (.bool (jZ c))
def C453:Prop:=Kb (aH Z 453)
def Kd:=∀(c:Int),T [.int .u8 c] (.bool (bM c))
def C454:Prop:=Kd (aH Z 454)
def WL:Prop:=uv (aH Z 357)
def Hy:Prop:=ui (aH Z 216)
def C667:Prop:=uK (aH Z 667)
def C668:Prop:=uL (aH Z 668)
def KF:=∀(t:aw),T [.str t] (.bool (wR t))
def C666:Prop:=KF (aH Z 666)
def Ke:=∀(s:aw) (p:Bool),(s.length<=1048576)->T [.str s,.bool p] (.bool (EN s p))
def C456:Prop:=Ke (aH Z 456)
def C455:Prop:=uz (aH Z 455)
def Cw:Prop:=uj (aH Z 217)
def Kx:=∀(v:b6),(C6 v.major=true/\C6 v.minor=true/\C6 v.patch=true)->T [b6.D v] (.str (og v.major.toNat++[46]++og v.minor.toNat++[46]++og v.patch.toNat))
def C554:Prop:=Kx (aH Z 554)
def C316:Prop:=uB (aH Z 316)
def Kk:=∀(h:Int) (n:Nat),(n<=63)->T [.int .u64 h,.int .u64 (n:Nat)] (.int .u64 (rot h n))
def C464:Prop:=Kk (aH Z 464)
def C221:Prop:=uo (aH Z 221)
def KZ:=∀(l:Ψ) (al:Bool),T [.sl 1 (l.map D.str),.bool al] (.bool (nQ l al))
def C812:Prop:=KZ (aH Z 812)
def C669:Prop:=uA (aH Z 669)
def C457:Prop:=uk (aH Z 457)
def Kf:=∀(r:Rec) (b:mR),(b.sm)->T [Rec.D r,mR.D b] (.int .i64 (sg r b))
def C458:Prop:=Kf (aH Z 458)
def KG:=∀(r:Rec) (x:aw),T [Rec.D r,.str x] (.bool (ZR r.needs x))
def C673:Prop:=KG (aH Z 673)
def KH:=∀(r:Rec) (x:aw),T [Rec.D r,.str x] (.bool (Nk r.needs x))
def C674:Prop:=KH (aH Z 674)
def Kg:=∀(r:Rec) (of:Ψ),(∀t∈of,rS t)->T [Rec.D r,.sl 1 (of.map D.str)] (.int .i64 (mV r of))
def C460:Prop:=Kg (aH Z 460)
def Kh:=∀(w:cP),(w.fit)->T [cP.D w] (.str (j6 w))
def C461:Prop:=Kh (aH Z 461)
def Ki:=∀(s:aw),(s.length<=1048576)->T [.str s] (.str (kL s))
def C462:Prop:=Ki (aH Z 462)
def JI:=∀(r:Rec),(gM r)->T [Rec.D r] (.tup [.int .i64 (eD r).1,.int .i64 (eD r).2])
def C218:Prop:=JI (aH Z 218)
def C71:Prop:=Ad (aH Z 71)
def C73:Prop:=Ae (aH Z 73)
def C75:Prop:=Af (aH Z 75)
def WO:Prop:=uE (aH Z 630)
def C927:Prop:=uD (aH Z 927)
def C783:Prop:=uG (aH Z 783)
def KE:=∀(a:aw) (b:aw),(a.length<=1048576/\b.length<=1048576)->T [.str a,.str b] (.int .i64 (BJ a b))
def C631:Prop:=KE (aH Z 631)
def Um:Prop:=uu (aH Z 424)
def C501:Prop:=uM (aH Z 501)
def WN:Prop:=uC (aH Z 580)
def O0:Prop:=uw (aH Z 358)
def JZ:=∀(x:bz) (s:bz),T [bz.D x,.ref 2 [bz.D s] 0 0] (.bool (Gu s.name x))
def C355:Prop:=JZ (aH Z 355)
def JY:=∀(l:Β) (s:bz),T [.sl 2 (l.map bz.D),.fn 355 [.ref 2 [bz.D s] 0 0]] (.int .i64 (mK l s.name))
def C354:Prop:=JY (aH Z 354)
def ug:=∀(l:Β),(fq l)->T [.sl 2 (l.map bz.D)] (.bool (ea l))
def C142:Prop:=ug (aH Z 142)
def ux:=∀(l:Β) (nm:aw),T [.sl 2 (l.map bz.D),.str nm] (.int .i64 (mK l nm))
def C359:Prop:=ux (aH Z 359)
def C145:Prop:=ug (aH Z 145)
def ur:=∀(s:bz) (nm:aw) (v:b6),((∀x∈s.es,gM x.r)/\v.sm)->T [bz.D s,.str nm,b6.D v] (.int .i64 (iA s nm v))
def C274:Prop:=ur (aH Z 274)
def C695:Prop:=ur (aH Z 695)
def qL:=∀(c:Cut),(c.v.sm)->T [Cut.D c] (.bool (qd c))
def RS:Prop:=qL (aH Z 1086)
def qJ:=∀(a:Cut) (b:Cut),(a.v.sm/\b.v.sm)->T [Cut.D a,Cut.D b] (.int .i64 (lA a b))
def RR:Prop:=qJ (aH Z 1020)
def qK:=∀(c:Cut) (v:b6),(c.v.sm/\v.sm)->T [Cut.D c,b6.D v] (.bool (kf c v))
def agd:Prop:=qK (aH Z 1025)
def qI:=∀(s:Span),(s.sm)->T [Span.D s] (.bool (qz s))
def LG:Prop:=qI (aH Z 1019)
def uQ:=∀(s:Span) (v:b6),(s.sm/\v.sm)->T [Span.D s,b6.D v] (.bool (sK s v))
def C926:Prop:=uQ (aH Z 926)
def uP:=∀(l:Lae),(Al l)->T [.sl 14 (l.map Span.D)] (.bool (te l))
def WS:Prop:=uP (aH Z 916)
def uO:=∀(l:Lae) (v:b6),(Al l/\v.sm)->T [.sl 14 (l.map Span.D),b6.D v] (.bool (wJ l v))
def C782:Prop:=uO (aH Z 782)
def KA:=∀(v:b6),T [b6.D v] (.bool (wq v))
def C600:Prop:=KA (aH Z 600)
def Lb:=∀(c:Cut),T [Cut.D c] (.bool (m7 c))
def C917:Prop:=Lb (aH Z 917)
def uN:=∀(s:cy),(s.sm)->T [cy.D s] (.bool (wL s))
def WQ:Prop:=uN (aH Z 770)
def uJ:=∀(s:cy) (v:b6),(s.sm/\v.sm)->T [cy.D s,b6.D v] (.bool (pg s v))
def C627:Prop:=uJ (aH Z 627)
def Ua:Prop:=T [] (cy.D S9)
def C375:Prop:=Ua (aH Z 375)
def af4:Prop:=T [] (cy.D p8)
def C374:Prop:=af4 (aH Z 374)
def abQ {q:α->D}{xs:List α}{m:Γ}{l:Nat}{sh:ζ}(hq:∀x,xV m sh (q x)=q x)(hl:look m l=some (.buf k (xs.map q))):xV m [.sl k sh] (.own l k 0 xs.length)=.sl k (xs.map q):=by
 show D.sl k _=_;simp only[aK,hl,dN,bY,List.map_map];congr 1;apply List.map_congr_left;intro x _;have:=hq x;simp only[Function.comp];generalize q x=d at this;cases d<;>exact this
def TZ {q:α->D}{xs:List α}{m:Γ}{l:Nat}{sh:ζ}(hq:∀x,xVO m sh (q x))(hl:look m l=some (.buf k (xs.map q))):xVO m [.sl k sh] (.own l k 0 xs.length):=by
 refine⟨by simp only[ep,hl];exact⟨trivial,aJ⟩,λe he=>?_⟩;simp only[aK,hl,dN,bY,bI]at he;obtain⟨x,_,rfl⟩:=he;have:=hq x;generalize q x=d at this;cases d<;>exact this
def RV:Prop:=qL (aH Z 1087)
def WG:Prop:=qJ (aH Z 1024)
def age:Prop:=qK (aH Z 1055)
def WE:Prop:=qI (aH Z 1023)
def C980:Prop:=uQ (aH Z 980)
def C925:Prop:=uP (aH Z 925)
def C861:Prop:=uO (aH Z 861)
def Ld:=∀(c:Cut),T [Cut.D c] (.bool (rY c))
def C924:Prop:=Ld (aH Z 924)
def C780:Prop:=uN (aH Z 780)
def C712:Prop:=uJ (aH Z 712)
def J4:=∀(a:Key) (b:Key),T [Key.D a,Key.D b] (.int .i64 (IA a b))
def C408:Prop:=J4 (aH Z 408)
def KD:=∀(l:θ) (n:Int),(∀x∈l,x.sm)->T [.sl 3 (l.map Want.D),.int .i64 n] (.bool (pU n l))
def C622:Prop:=KD (aH Z 622)
def KY:=∀(w:Want) (n:Int),(w.sm)->T [Want.D w,.int .i64 n] (.bool (tn n w))
def C778:Prop:=KY (aH Z 778)
def KX:=∀(l:θ) (n:Int),(∀x∈l,x.sm)->T [.sl 3 (l.map Want.D),.int .i64 n] (.bool (rX n l))
def C777:Prop:=KX (aH Z 777)
def KC:=∀(c:eI) (n:Int),(c.sm)->T [eI.D c,.int .i64 n] (.bool (gN c.v&&nd n c))
def C618:Prop:=KC (aH Z 618)
def J5:=∀(c:eI) (n:Int),(c.sm)->T [eI.D c,.int .i64 n] (.bool (nd n c))
def C409:Prop:=J5 (aH Z 409)
def KB:=∀(a:cN) (b:cN),T [cN.D a,cN.D b] (.bool (jh a b))
def C617:Prop:=KB (aH Z 617)
def J3:=∀(w:bP) (i:Int),(w.sm/\(0<=i/\i<w.us.length)/\w.us.length<=48)->T [bP.D w,.int .i64 i] (.bool (tl w.us i.toNat))
def C403:Prop:=J3 (aH Z 403)
def uh:=∀(w:bP),(w.sm)->T [bP.D w] (.bool (eK w))
def C169:Prop:=uh (aH Z 169)
def C175:Prop:=uh (aH Z 175)
def Ks:=∀(w:bP) (c:Δ),(w.sm)->T [bP.D w,.sl 1 (c.map (D.int .i64))] (.bool (sF w c))
def C510:Prop:=Ks (aH Z 510)
def uq:=∀(w:bP) (c:Δ),(w.sm)->T [bP.D w,.sl 1 (c.map (D.int .i64))] (.bool (dw w c))
def C273:Prop:=uq (aH Z 273)
def uI:=∀(w:bP) (c:Δ) (x:Want),(MetW w c x)->T [bP.D w,.sl 1 (c.map (D.int .i64)),Want.D x] (.bool (iy w c x))
def C624:Prop:=uI (aH Z 624)
def uH:=∀(w:bP) (c:Δ) (l:θ),(∀x∈l,MetW w c x)->T [bP.D w,.sl 1 (c.map (D.int .i64)),.sl 3 (l.map Want.D)] (.bool (yL w c l))
def C623:Prop:=uH (aH Z 623)
def WK:Prop:=uq (aH Z 170)
def C629:Prop:=uI (aH Z 629)
def C628:Prop:=uH (aH Z 628)
def uy:=∀(w:bP) (c:Δ),(WrgP w c)->T [bP.D w,.sl 1 (c.map (D.int .i64))] (.sl 3 ((iX w c).map wZ.D))
def C410:Prop:=uy (aH Z 410)
def J8:=∀(w:bP) (c:Δ) (u:Nat),(OneP w c u)->T [bP.D w,.sl 1 (c.map (D.int .i64)),.int .i64 ((u:Nat):Int)] (.sl 3 ((BG w c u).map wZ.D))
def C417:Prop:=J8 (aH Z 417)
def C186:Prop:=uy (aH Z 186)
def Rw:=∀(w:bP) (c:Δ),(WrgP w c)->T [bP.D w,.sl 1 (c.map (D.int .i64))] (.bool (dw w c&&decide ((iX w c).length=0)))
def C52:Prop:=Rw (aH Z 52)
def Kr:=∀(s:bz) (nm:aw) (v:b6),((∀x∈s.es,gM x.r)/\v.sm)->T [bz.D s,.str nm,b6.D v] (.tup [ju.D (pe s nm v).1,.bool (pe s nm v).2])
def C508:Prop:=Kr (aH Z 508)
def KJ:=∀(c:eI) (x:dI),(c.v.sm/\x.v.sm)->T [eI.D c,.ref 9 [dI.D x] 0 0] (.bool (Wx x.v true c))
def C690:Prop:=KJ (aH Z 690)
def KK:=∀(c:eI) (x:dI),(c.v.sm/\x.v.sm)->T [eI.D c,.ref 9 [dI.D x] 0 0] (.bool (Wx x.v false c))
def C691:Prop:=KK (aH Z 691)
def KI:=∀(l:Lak) (b:Bool) (x:dI),((∀c∈l,c.v.sm)/\x.v.sm)->T [.sl 8 (l.map eI.D),.fn (bif b then 690 else 691) [.ref 9 [dI.D x] 0 0]] (.int .i64 (gp (Wx x.v b) l 0))
def C689:Prop:=KI (aH Z 689)
def C502:=∀(shop:Β) (w:bP) (x:dI) (c:Δ) (kvs:Θ),LinP shop w x c->W4 w.us kvs->∀(nx lm lc:Nat) (m:Γ) (K:Τ),lc<nx->lm<nx->look m lc=some (.buf 1 (c.map (D.int .i64)))->look m lm=some (.mpb kvs)->K (.int .i64 (mY shop w.us x c).1) ⟨nx,cW m lc (.buf 1 ((mY shop w.us x c).2.map (D.int .i64)))⟩->Z.tr 502 [.agg [.sl 2 (shop.map bz.D),.sl 3 (w.us.map cN.D),.fn 5000000 [.it lm],.own lc 1 0 w.us.length],dI.D x] ⟨nx,m⟩ K
def uf:=∀(e:Env),T [Env.D e] (.bool (mw e))
def C138:Prop:=uf (aH Z 138)
def Kw:=∀(x:dI),(x.sm)->T [dI.D x] (.bool (Ih x))
def C553:Prop:=Kw (aH Z 553)
def JV:=∀(l:j8),(l.sm)->T [j8.D l] (.bool (Mz l))
def C315:Prop:=JV (aH Z 315)
def JN:=∀(shop:Β) (e:Env) (w:bP) (l:j8),(ChoP shop w l)->T [.sl 2 (shop.map bz.D),Env.D e,bP.D w,j8.D l] (.tup [.sl 1 ((je shop e w l).1.map (D.int .i64)),.int .i64 (je shop e w l).2.1,.str (je shop e w l).2.2])
def C264:Prop:=JN (aH Z 264)
def WJ:Prop:=uf (aH Z 144)
def JO:=∀(shop:Β) (e:Env) (w:bP) (l:j8),(ChoP shop w l)->T [.sl 2 (shop.map bz.D),Env.D e,bP.D w,j8.D l] (.tup [.int .i64 (xu shop e w l).1,.str (xu shop e w l).2])
def C265:Prop:=JO (aH Z 265)
def Rs:=∀(v:Int) (n:Int),(n<=9223372036854775807)->T [.int .i64 v,.int .i64 n] (.int .i64 (jl v n))
def C25:Prop:=Rs (aH Z 25)
def JD:=∀(l:Δ) (i:Int),T [.sl 1 (l.map (D.int .i64)),.int .i64 i] (.int .i64 (atI l i))
def C159:Prop:=JD (aH Z 159)
def Hx:=∀(g:Gs) (n:Int),(n<=9223372036854775807)->(0<=g.i/\g.i<=1000000)->Z.fp 109 (Gs.D g) [.int .i64 n]/\Z.fv 109 (Gs.D g) [.int .i64 n]=.int .i64 (g.val n)/\Z.fs 109 (Gs.D g) [.int .i64 n]=Gs.D g.aU
def T3:Prop:=T [] (.sl 5 (bQ.map b6.D))
def C112:Prop:=T3 (aH Z 112)
def T2:Prop:=T [] (.sl 1 (cI.map D.str))
def C111:Prop:=T2 (aH Z 111)
def T5:Prop:=T [] (.sl 1 (kr.map D.str))
def C135:Prop:=T5 (aH Z 135)
def Kv:=∀(l:Ψ) (s:aw),T [.sl 1 (l.map D.str),.str s] (.int .i64 (FI l s))
def C536:Prop:=Kv (aH Z 536)
def C297:=∀(g:Gs) (own:aw),(0<=g.i/\g.i<=990000)->Z.fp 297 (Gs.D g) [.str own]/\Z.fv 297 (Gs.D g) [.str own]=.str (cV g own).1/\Z.fs 297 (Gs.D g) [.str own]=Gs.D (cV g own).2
def C535:=∀(g:Gs) (own:aw),(0<=g.i/\g.i<=990000)->Z.fp 535 (Gs.D g) [.str own]/\Z.fv 535 (Gs.D g) [.str own]=cP.D (dM g own).1/\Z.fs 535 (Gs.D g) [.str own]=Gs.D (dM g own).2
def C296:=∀(g:Gs) (own:aw),(0<=g.i/\g.i<=980000)->Z.fp 296 (Gs.D g) [.str own]/\Z.fv 296 (Gs.D g) [.str own]=bn.D (mF g own).1/\Z.fs 296 (Gs.D g) [.str own]=Gs.D (mF g own).2
def C298:=∀(g:Gs) (l:υ),(0<=g.i/\g.i<=980000)->((∀n∈l,n.sm)/\l.length<=1000)->Z.fp 298 (Gs.D g) [.sl 3 (l.map bn.D)]/\Z.fv 298 (Gs.D g) [.sl 3 (l.map bn.D)]=b7.D (nk g l).1/\Z.fs 298 (Gs.D g) [.sl 3 (l.map bn.D)]=Gs.D (nk g l).2
def C110:=∀(g:Gs) (nm:aw) (v:b6) (most:Int),(0<=g.i/\g.i<=970000)->(0<=most/\most<=100)->Z.fp 110 (Gs.D g) [.str nm,b6.D v,.int .i64 most]/\Z.fv 110 (Gs.D g) [.str nm,b6.D v,.int .i64 most]=Rec.D (pR g nm v most).1/\Z.fs 110 (Gs.D g) [.str nm,b6.D v,.int .i64 most]=Gs.D (pR g nm v most).2
def Kn:=∀(s:bz) (r:Rec),((∀x∈s.es,gM x.r)/\gM r)->T [bz.D s,Rec.D r] (.tup [bz.D (lg s r).1,.int .i64 (lg s r).2])
def C504:Prop:=Kn (aH Z 504)
def Km:=∀(s:bz) (nm:aw) (v:b6) (on:Bool),((∀x∈s.es,gM x.r)/\v.sm)->T [bz.D s,.str nm,b6.D v,.bool on] (.tup [bz.D (oW s nm v on).1,.int .i64 (oW s nm v on).2])
def C503:Prop:=Km (aH Z 503)
def C266:=∀(g:Gs) (l:Β),(0<=g.i/\g.i<=960000)->(fq l/\1<=l.length/\l.length<=100)->Z.fp 266 (Gs.D g) [.sl 2 (l.map bz.D)]/\Z.fv 266 (Gs.D g) [.sl 2 (l.map bz.D)]=.sl 2 ((lD g l).1.map bz.D)/\Z.fs 266 (Gs.D g) [.sl 2 (l.map bz.D)]=Gs.D (lD g l).2
def Ry:=∀(ks:Δ) (most:Int),(0<=most/\most<=100)->T [.sl 1 (ks.map (D.int .i64)),.int .i64 most] (.sl 2 ((G3 ks most).map bz.D))
def C90:Prop:=Ry (aH Z 90)
def Ru:=∀(n:Int),T [.int .i64 n] (Env.D (zh n))
def C29:Prop:=Ru (aH Z 29)
def eZ:Env:=⟨[],[],[]⟩
def R0:bP:=⟨[⟨[],[],[⟨zV,-1,[],[]⟩]⟩]⟩
def antL:dI:=⟨[97,110,116],zV,[],0,[]⟩
def awk_1:je [] eZ R0 ⟨eZ,[]⟩=([0],0,[]):=by decide+kernel
def awk_2:xu [] eZ R0 ⟨eZ,[]⟩=(0,[]):=by decide+kernel
def awk_3:xu [] eZ R0 ⟨zh 1,[]⟩=(34,[]):=by decide+kernel
def awk_4:xu [] eZ R0 ⟨eZ,[antL]⟩=(9,[97,110,116]):=by decide+kernel
def aiI:R0.sm:=by
 intro u hu;rw[aF.1 hu];refine⟨aX,λc hc=>?_⟩;rw[aF.1 hc];exact⟨⟨aX,aX⟩,λ_ h=>cb,λ_ h=>cb⟩
def R1 {l:j8}(h:l.sm):ChoP [] R0 l:=⟨(λ_ h=>cb),aiI,h⟩
theorem aj0 (n:Int):∀i,((zh n).at i).length<=1048576:=by
 intro i;have h:(Gj[(jl n 3).toNat]!).length<=1048576:=wj (P:=λs:aw=>s.length<=1048576) aX aX _;unfold zh Env.at
 grind
def abY:Prop:=T [] (.bool true)
def C89:Prop:=abY (aH Z 89)
def CJ (m:Γ)(l k n:Nat):Bool:=match look m l with
 |some (.buf k' es)=>decide (k=k')&&decide (n<=es.length)
 |_=>false
theorem xl {m:Γ}{l:Nat}(h:CJ m l k n=true):ep m l k n:=by
 unfold CJ at h;unfold ep;split at h<;>simp_all
def ef (b:Bool)(a:Option α):Option α:=match b with|true=>a|false=>none
def cC {b:Bool}{a:Option α}{x:α}(h:ef b a=some x):b=true/\a=some x:=by cases b<;>simp_all[ef]
def Tf {e:D}(h:ef d.aV (some d)=some e):d.aV=true/\d=e:=⟨(cC h).1,aZ (cC h).2⟩
def Zm (f:D->ε):Θ->Option (List D)
 |[]=>some []
 |d::r=>match f d with
  |some e=>match Zm f r with
   |some s=>some (e::s)
   |none=>none
  |none=>none
def puC (m:Γ)(pv:ζ->D->ε):Sh->D->ε
 | .a,d=>match d with
  | .aO=>some (.sl 0 [])
  |d=>ef d.aV (some d)
 | .sl k cs,d=>match d with
  | .aO=>some (.sl k [])
  | .own l k' i c=>ef (CJ m l k' (i+c)) ((Zm (pv cs) (((aK m l).drop i).take c)).map (.sl k'))
  |d=>ef d.aV (some d)
 | .pt cs,d=>match d with
  | .ptr l k i o=>ef (CJ m l k 0) ((Zm (pv cs) (aK m l)).map λes=>.ref k es i o)
  |d=>ef d.aV (some d)
 | .kp _,_=>none
def puL (pc:Sh->D->ε):ζ->Θ->Option (List D)
 |[],ds=>ef (aP ds) (some ds)
 |_::_,[]=>some []
 |s::r,d::ds=>match pc s d with
  |some e=>match puL pc r ds with
   |some es=>some (e::es)
   |none=>none
  |none=>none
def puV (m:Γ):Nat->ζ->D->ε
 |0,_,_=>none
 |n+1,ss,d=>match ss with
  |[]=>ef d.aV (some d)
  |s::r=>match d with
   | .agg cs=>(puL (puC m (puV m n)) (s::r) cs).map .agg
   |d=>puC m (puV m n) s d
def puS (m:Γ):Ι->Θ->Option (List D)
 |_,[]=>some []
 |[],d::r=>match puV m 9 [.a] d with
  |some e=>match puS m [] r with
   |some es=>some (e::es)
   |none=>none
  |none=>none
 |s::ss,d::r=>match puV m 9 s d with
  |some e=>match puS m ss r with
   |some es=>some (e::es)
   |none=>none
  |none=>none
theorem SU {P:D->Prop}{g f:D->_}(hf:∀d e,f d=some e->P d/\g d=e):∀{l r:Θ},Zm f l=some r->(∀d∈l,P d)/\l.map g=r:=by
 intro l;induction l<;>grind [Zm]
section
variable {m:Γ}
def alJ {pv:ζ->D->ε}(hv:∀s d e,pv s d=some e->gL m s d/\jf m s d=e){s:Sh}{e:D}(h:puC m pv s d=some e):iD m s d/\k9 m s d=e:=by
 cases s with
 |a=>cases d<;>simp only[puC,iD,k9]at h⊢ <;>first|exact Tf h|exact⟨rfl,aZ h⟩
 |kp cs=>cases h
 |sl k cs=>
  cases d<;>simp only[puC,iD,k9]at h⊢
  case own l k' i c=>
   obtain⟨h1,h2⟩:=cC h;obtain⟨es,h3,rfl⟩:=df.1 h2;obtain⟨h4,h5⟩:=SU (hv cs) h3;exact⟨⟨xl h1,h4⟩,by rw[h5]⟩
  all_goals first|exact Tf h|exact⟨rfl,aZ h⟩
 |pt cs=>
  cases d<;>simp only[puC,iD,k9]at h⊢
  case ptr l k i o=>
   obtain⟨h1,h2⟩:=cC h;obtain⟨es,h3,rfl⟩:=df.1 h2;obtain⟨h4,h5⟩:=SU (hv cs) h3;exact⟨⟨xl h1,h4⟩,by rw[h5]⟩
  all_goals first|exact Tf h|exact⟨rfl,aZ h⟩
theorem alK {pc:Sh->D->ε}(hc:∀s d e,pc s d=some e->iD m s d/\k9 m s d=e):∀{ss:ζ}{ds es:Θ},puL pc ss ds=some es->kH m ss ds/\nL m ss ds=es:=by
 intro ss;induction ss with
 |nil=>intro ds es h;simp only[kH,nL];exact⟨(cC h).1,aZ (cC h).2⟩
 |cons s r ih=>
  intro ds es h;cases ds with
  |nil=>simp_all[puL,kH,nL]
  |cons d ds=>
   simp only[puL]at h;simp only[kH,nL]
   grind
theorem Z9:∀{n:Nat}{ss:ζ}{d e:D},puV m n ss d=some e->gL m ss d/\jf m ss d=e:=by
 intro n;induction n with
 |zero=>intro ss d e h;cases h
 |succ n ih=>
  intro ss d e h;have hc:∀s d e,puC m (puV m n) s d=some e->iD m s d/\k9 m s d=e:=λs d e h=>alJ (λs d e h=>ih h) h
  cases ss with
  |nil=>simp only[gL,jf];exact Tf h
  |cons s r=>
   cases d
   case agg cs=>
    simp only[puV]at h;obtain⟨es,h3,rfl⟩:=df.1 h;have:=alK hc h3;simp only[gL,jf];exact⟨this.1,by rw[this.2]⟩
   all_goals simp only[puV]at h;simp only[gL,jf];exact hc _ _ _ h
theorem Z8:∀{sh:Ι}{ds es:Θ},puS m sh ds=some es->jm m sh ds/\iJ m sh ds=es:=by
 intro sh ds;induction ds generalizing sh with
 |nil=>intro es h;cases sh<;>simp_all[puS,jm,iJ]
 |cons d r ih=>
  intro es h;cases sh<;>simp only[puS]at h<;>simp only[jm,iJ]<;>grind [Z9]
end
def Sp (J:Src->a7)(len:Nat):ψ->Bool
 |[]=>true
 |(o,n,s)::r=>((J s).ok&&decide ((J s).d.cells.length=n))&&(decide (o+n<=len)&&Sp J len r)
def CV (J:Src->a7)(k n:Nat):Lac->Bool
 |[]=>true
 |(i,s)::r=>(decide (i<n)&&(J s).ok)&&(decide ((J s).d.cells.length=k)&&CV J k n r)
def Vx (J:Src->a7):ς->Bool
 |[]=>true
 |s::r=>(J s).ok&&Vx J r
theorem Yc {len:Nat}:∀{l:ψ},Sp J len l=true->Aw J len l:=by
 intro l;induction l<;>grind [Sp,Aw]
theorem UM:∀{l:Lac},CV J k n l=true->qW J k n l:=by
 intro l;induction l<;>grind [CV,qW]
theorem Iv:∀{l:ς},Vx J l=true->Ci J l:=by
 intro l;induction l<;>grind [Vx,Ci]
def ldB (m:Γ)(n:Nat):D->Bool
 | .ptr l k i o=>CJ m l k (i+1)&&decide (o+n<=k)
 | .ref k es i o=>decide (i<es.length)&&decide (o+n<=k)
 |_=>false
theorem Y1 {m:Γ}(h:ldB m n d=true):MA m n d:=by
 cases d<;>simp_all[ldB,MA]<;>exact xl h.1
def binB (op:BinOp):D->D->Bool
 | .int k a,.int k' b=>match op with
  | .quo=>decide (k=k')&&decide (b≠0)
  | .rem=>decide (k=k')&&decide (b≠0)
  | .shl=>false
  | .shr=>false
  |_=>decide (k=k')
 | .str a,.str b=>match op with
  | .add=>decide (a.length+b.length<=9223372036854775807)
  | .eql=>true| .neq=>true| .lss=>true| .geq=>true| .leq=>true| .gtr=>true
  |_=>false
 |_,_=>false
theorem adm {op:BinOp}{a b:D}(h:binB op a b=true):Br op a b:=by
 cases a<;>cases b<;>cases op<;>simp_all[binB,Br]
def FD (o:ε)(hi:Nat):Bool:=match o with
 |none=>true
 |some (.int _ n)=>decide (0<=n)&&decide (n<=hi)
 |_=>false
theorem adp {o:ε}{hi:Nat}(h:FD o hi=true):nE o hi:=by
 unfold FD at h;unfold nE;split at h<;>simp_all
def Vw (J:Src->a7):Lal->Bool
 |none=>true
 |some s=>(J s).ok
theorem ae3 {o:Lal}(h:Vw J o=true):M4 J o:=by cases o<;>simp_all[Vw,M4]
def elsB (m:Γ)(k:Nat):D->Bool
 | .sl k' _=>decide (k'=k)
 | .own l k' i n=>decide (k'=k)&&CJ m l k (i+n)
 | .str _=>decide (k=1)
 | .aO=>true
 |_=>false
theorem ad5 {m:Γ}(h:elsB m k d=true):CS m k d:=by
 cases d<;>simp_all[elsB,CS]<;>exact xl h.2
def oblB (J:Src->a7)(m:Γ):aA->Bool
 | .mv x=>(J x).ok
 | .pick c a b=>(J c).ok&&match(J c).d with
  | .bool true=>(J a).ok
  | .bool false=>(J b).ok
  |_=>false
 | .box k x=>(J x).ok&&decide ((J x).d.cells.length=k)
 | .build z ps=>Sp J z.length ps
 | .bsl k z n ps=>decide (z.cells.length=k)&&CV J k n ps
 | .ld n _ p=>(J p).ok&&ldB m n (J p).d
 | .st n p v=>((J p).ok&&(J v).ok)&&(decide ((J v).d.cells.length=n)&&match(J p).d with
  | .ptr l k i o=>CJ m l k (i+1)&&decide (o+n<=k)
  |_=>false)
 | .nilck x=>(J x).ok&&match(J x).d with| .ptr .. =>true| .ref .. =>true|_=>false
 | .bin op x y=>((J x).ok&&(J y).ok)&&binB op (J x).d (J y).d
 | .mn _ x y=>((J x).ok&&(J y).ok)&&match(J x).d,(J y).d with| .int _ _,.int _ _=>true|_,_=>false
 | .un op x=>(J x).ok&&match op,(J x).d with
  | .not,.bool _=>true
  | .neg,.int _ _=>true
  |_,_=>false
 | .cvi _ x=>(J x).ok&&match(J x).d with| .int _ _=>true|_=>false
 | .mks k z ln cp=>((J ln).ok&&(J cp).ok)&&(decide (z.cells.length=k)&&match(J ln).d,(J cp).d with
  | .int _ n,.int _ c=>decide (0<=n)&&(decide (n<=c)&&decide (c<=1073741824))
  |_,_=>false)
 | .slS x lo hi=>((J x).ok&&Vw J lo)&&(Vw J hi&&match(J x).d with
  | .str s=>FD (dO J hi) s.length&&FD (dO J lo) (er (dO J hi) s.length)
  |_=>false)
 | .slA k x lo hi=>((J x).ok&&Vw J lo)&&(Vw J hi&&match(J x).d with
  | .sl k' es=>decide (k'=k)&&(FD (dO J hi) es.length&&FD (dO J lo) (er (dO J hi) es.length))
  | .own _ k' _ n=>decide (k'=k)&&(FD (dO J hi) n&&FD (dO J lo) (er (dO J hi) n))
  | .aO=>FD (dO J hi) 0&&FD (dO J lo) 0
  |_=>false)
 | .slX k x hi mx=>((J x).ok&&(J hi).ok)&&((J mx).ok&&match(J hi).d,(J mx).d with
  | .int _ h,.int _ m=>decide (0<=h)&&(decide (h<=m)&&match(J x).d with
    | .sl k' es=>decide (k'=k)&&decide (m<=es.length)
    | .own _ k' _ n=>decide (k'=k)&&decide (m<=n)
    |_=>false)
  |_,_=>false)
 | .fa _ p=>(J p).ok&&match(J p).d with| .ptr .. =>true| .ref .. =>true|_=>false
 | .fld off n ag x=>(J x).ok&&match(J x).d with| .agg cs=>decide (off+n<=cs.length)&&(ag ||decide (n=1))|_=>false
 | .ia k x i=>((J x).ok&&(J i).ok)&&match(J x).d,(J i).d with
  | .sl k' es,.int _ n=>decide (k'=k)&&(decide (0<=n)&&decide (n<es.length))
  | .own _ k' _ c,.int _ n=>decide (k'=k)&&(decide (0<=n)&&decide (n<c))
  |_,_=>false
 | .iaP n _ x i=>((J x).ok&&(J i).ok)&&match(J x).d,(J i).d with
  | .ptr ..,.int _ c=>decide (0<=c)&&decide (c<n)
  | .ref ..,.int _ c=>decide (0<=c)&&decide (c<n)
  |_,_=>false
 | .ixS x i=>((J x).ok&&(J i).ok)&&match(J x).d,(J i).d with
  | .str s,.int _ n=>decide (0<=n)&&decide (n<s.length)
  |_,_=>false
 | .ixA n k ag x i=>((J x).ok&&(J i).ok)&&((ag ||decide (k=1))&&match(J x).d,(J i).d with
  | .agg cs,.int _ c=>decide (0<=c)&&(decide (c<n)&&decide (cs.length=n*k))
  |_,_=>false)
 | .ext x i=>(J x).ok&&match(J x).d with| .tup ds=>decide (i<ds.length)|_=>false
 | .len x=>(J x).ok&&match(J x).d with| .sl _ _=>true| .own .. =>true| .aO=>true|_=>false
 | .lenS x=>(J x).ok&&match(J x).d with| .str _=>true|_=>false
 | .app k x y=>((J x).ok&&(J y).ok)&&(elsB m k (J y).d&&match(J x).d with
  | .own l k' i n=>decide (k'=k)&&(CJ m l k (i+n)&&decide (n+(qO m (J y).d).length<=1073741824))
  | .aO=>decide ((qO m (J y).d).length<=1073741824)
  |_=>false)
 | .appN k y=>(J y).ok&&(elsB m k (J y).d&&decide ((qO m (J y).d).length<=1073741824))
 | .bslI k z n ps=>decide (z.cells.length=k)&&(CV J k n ps&&aP (my J (List.replicate n z) ps))
 | .ldU n _ p=>(J p).ok&&match(J p).d with
  | .ptr l k i o=>(CJ m l k (i+1)&&decide (o+n<=k))&& !aP (aK m l)
  | .ref k es i o=>decide (i<es.length)&&decide (o+n<=k)
  |_=>false
 | .ldW n _ p=>(J p).ok&&match(J p).d with
  | .ptr l k i o=>(CJ m l k (i+1)&&decide (o+n<=k))&&decide (4<k)
  | .ref k es i o=>decide (i<es.length)&&decide (o+n<=k)
  |_=>false
 | .ldI n _ p=>(J p).ok&&match(J p).d with
  | .ref k es i o=>decide (i<es.length)&&decide (o+n<=k)
  |_=>false
 | .stU n p v qs=>((J p).ok&&(J v).ok)&&(decide ((J v).d.cells.length=n)&&match(J p).d with
  | .ptr l k i o=>CJ m l k (i+1)&&(decide (o+n<=k)&&(decide (k<=4) ||qs.all λq=>!(cq (J q).d).contains l))
  |_=>false)
 |_=>false
theorem ae1 {m:Γ}{i:aA}(h:oblB J m i=true):i.eO Y J m:=by
 cases i<;>simp only[oblB,aD,iL]at h;all_goals simp only[aA.eO]
 all_goals grind [Yc,UM,xl,Y1,adm,adp,ad5,ae3]
def aA.spec:aA->Bool
 | .callM .. | .callvM .. | .isNl .. =>true
 |_=>false
def L4:Ctx:=⟨λ_ _=>False,λ_ _=>.any,λ_ _ _ _=>False,λ_ _ _=>False,λ_ _ _=>.any,λ_ _ _=>.any,0⟩
def aA.lone:aA->Bool
 | .call .. | .callv .. | .callM .. | .callvM .. | .callF .. | .isNl .. =>false
 |_=>true
def abG {m:Γ}{L:Nat}{i:aA}(h:i.lone=true):i.val L4 J m L=i.val Y J m L:=by
 cases i<;>first|rfl|cases h
def XV {m:Γ}{L:Nat}{i:aA}(h:i.lone=true):i.bS L4 J m L=i.bS Y J m L:=by
 cases i<;>first|rfl|cases h
def UW (vs:Φ)(i:aA):Ν->Bool
 |none=>true
 |some (j,_)=>i.calm&&(!(vs.getD j .un).ok ||(vs.getD j .un).d.isBool)
theorem HZ {vs:Φ}{i:aA}(h:UW vs i g=true):Ww vs i g:=by
 cases g<;>simp_all[UW,Ww]<;>grind
def Sy (vs:Φ):Ν->Bool
 |none=>true
 |some (j,_)=>!(vs.getD j .un).ok ||(vs.getD j .un).d.isBool
theorem Mk {vs:Φ}(h:Sy vs g=true):zk vs g:=by
 cases g<;>simp_all[Sy,zk]<;>grind
abbrev EP:=Nat->Θ->ε
abbrev EM:=Nat->Θ->St->Option (D×St)
variable{q:EM}
abbrev EL:=AC->Φ->St->Option (Ex×List a7×St)
def LD (p:EP)(q:EM):Υ->Φ->Φ->St->Option (List a7×St)
 |[],_,vs,st=>some (vs,{st with nx:=st.nx+vs.length})
 |⟨i,g⟩::r,env,vs,st=>match i with
  | .callM f args=>ef (Sy vs g) (match flag vs g with
   |true=>ef (Vx (Src.ev env vs) args) (match q f (iU (Src.ev env vs) args) {st with nx:=st.nx+vs.length}with
    |some (d,st')=>ef (decide (st.nx+vs.length<=st'.nx)) (LD p q r env (vs++[⟨true,d⟩]) {st' with nx:=st'.nx-vs.length})
    |none=>none)
   |false=>LD p q r env (vs++[⟨false,.any⟩]) st)
  | .callvM f args=>ef (Sy vs g) (match flag vs g with
   |true=>match Src.ev env vs f with
    |⟨true,.fn n caps⟩=>ef (decide (n<2000000)&&Vx (Src.ev env vs) args) (match q (Ph n) (Pg n (iU (Src.ev env vs) args) caps) {st with nx:=st.nx+vs.length}with
     |some (d,st')=>ef (decide (st.nx+vs.length<=st'.nx)) (LD p q r env (vs++[⟨true,d⟩]) {st' with nx:=st'.nx-vs.length})
     |none=>none)
    |_=>none
   |false=>LD p q r env (vs++[⟨false,.any⟩]) st)
  | .call f args sh=>ef (UW vs i g) (match flag vs g with
   |true=>ef (Vx (Src.ev env vs) args) (match puS st.m sh (iU (Src.ev env vs) args)with
    |some ds=>match p f ds with
     |some d=>ef (qR (iU (Src.ev env vs) args) d) (LD p q r env (vs++[⟨true,d⟩]) st)
     |none=>none
    |none=>none)
   |false=>LD p q r env (vs++[⟨false,.any⟩]) st)
  |i=>ef (i.lone&&UW vs i g) (match flag vs g with
   |true=>ef (oblB (Src.ev env vs) st.m i) (LD p q r env (vs++[⟨true,i.val L4 (Src.ev env vs) st.m (st.nx+vs.length)⟩]) {st with m:=i.bS L4 (Src.ev env vs) st.m (st.nx+vs.length)})
   |false=>LD p q r env (vs++[⟨false,.any⟩]) {st with m:=i.bS L4 (Src.ev env vs) st.m (st.nx+vs.length)})
def Td (Y:Ctx)(p:EP):=∀f ds d,p f ds=some d->Y.pre f ds/\Y.val f ds=d
def okQ (Y:Ctx)(q:EM):=∀f ds st d st',q f ds st=some (d,st')->∀K:Τ,K d st'->Y.tr f ds st K
def aj3 {p:EP}(hp:Td Y p)(hq:okQ Y q){draw:Bool}:∀{ins:Υ}{env vs:Φ}{st:St}{vs':Φ}{st':St},LD p q ins env vs st=some (vs',st')->∀K:Φ->St->Prop,K vs' st'->fg Y draw ins env vs st K:=by
 intro ins;induction ins with
 |nil=>intro env vs st vs' st' h K hK;simp only[LD,aG,dm]at h;obtain⟨rfl,rfl⟩:=h;exact hK
 |cons gi r ih=>
  obtain⟨i,g⟩:=gi;intro env vs st vs' st' h K hK;have fin:∀{d:D} {m':Γ},i.spec=false->i.lH draw g=false->Ww vs i g->(flag vs g=true->i.eO Y (Src.ev env vs) st.m/\i.val Y (Src.ev env vs) st.m (st.nx+vs.length)=d)->i.bS Y (Src.ev env vs) st.m (st.nx+vs.length)=m'->
    LD p q r env (vs++[⟨flag vs g,d⟩]) {st with m:=m'} =some (vs',st')->fg Y draw (⟨i,g⟩::r) env vs st K:=by
   intro d m' h0 h1 h2 h3 h4 h5;have h6:=ih h5 K hK;subst h4;rw[show fg Y draw (⟨i,g⟩::r) env vs st K=(Ww vs i g/\(flag vs g=true->i.eO Y (Src.ev env vs) st.m)/\((flag vs g=true->i.LC draw (Src.ev env vs))->∃d,(flag vs g=true->i.val Y (Src.ev env vs) st.m (st.nx+vs.length)=d)/\
    fg Y draw r env (vs++[⟨flag vs g,d⟩]) {st with m:=i.bS Y (Src.ev env vs) st.m (st.nx+vs.length)} K))by
    cases i<;>first|(cases h0;done)|(simp only[fg];rw[h1];rfl)]
   exact⟨h2,λh=>(h3 h).1,λ_=>⟨d,λh=>(h3 h).2,h6⟩⟩
  have lon:(ef (i.lone&&UW vs i g) (match flag vs g with
   |true=>ef (oblB (Src.ev env vs) st.m i) (LD p q r env (vs++[⟨true,i.val L4 (Src.ev env vs) st.m (st.nx+vs.length)⟩]) {st with m:=i.bS L4 (Src.ev env vs) st.m (st.nx+vs.length)})
   |false=>LD p q r env (vs++[⟨false,.any⟩]) {st with m:=i.bS L4 (Src.ev env vs) st.m (st.nx+vs.length)}))=some (vs',st')->fg Y draw (⟨i,g⟩::r) env vs st K:=by
   intro h;obtain⟨h1,h2⟩:=cC h;rw[aD]at h1;have h3:=HZ h1.2;have h4:i.spec=false:=by revert h1;cases i<;>simp[aA.spec,aA.lone]
   have h5:i.lH draw g=false:=by cases g<;>simp_all[aA.lH,UW]
   rw[XV (Y:=Y) h1.1,abG (Y:=Y) h1.1]at h2;cases hf:flag vs g
   .rw[hf]at h2;exact fin (d:=.any) h4 h5 h3 (λh=>by rw[hf]at h;cases h) rfl (by rw[hf];exact h2)
   .rw[hf]at h2;obtain⟨h6,h7⟩:=cC h2;exact fin h4 h5 h3 (λ_=>⟨ae1 h6,rfl⟩) rfl (by rw[hf];exact h7)
  cases i
  case callM f args=>
   obtain⟨h0,h⟩:=cC h;refine⟨Mk h0,λhf=>?_,λhf=>?_⟩<;>rw[hf]at h
   .obtain⟨h1,h2⟩:=cC h;split at h2
    .rename_i d st1 h3;obtain⟨h4,h5⟩:=cC h2;exact⟨Iv h1,hq _ _ _ _ _ h3 _ ⟨by simpa using h4,ih h5 K hK⟩⟩
    .cases h2
   .exact ih h K hK
  case callvM f args=>
   obtain⟨h0,h⟩:=cC h;refine⟨Mk h0,λhf=>?_,λhf=>?_⟩<;>rw[hf]at h
   .simp only at h;split at h
    .rename_i n caps h0;obtain⟨h1,h2⟩:=cC h;rw[aD]at h1;split at h2
     .rename_i d st1 h3;obtain⟨h4,h5⟩:=cC h2;rw[h0];exact⟨rfl,Iv h1.2,by simpa using h1.1,hq _ _ _ _ _ h3 _ ⟨by simpa using h4,ih h5 K hK⟩⟩
     .cases h2
    .cases h
   .exact ih h K hK
  case call f args sh=>
   simp only[LD]at h;obtain⟨h1,h2⟩:=cC h;cases hf:flag vs g
   .rw[hf]at h2;exact fin (d:=.any) rfl (by simp[aA.lH,aA.calm]) (HZ h1) (λh=>by rw[hf]at h;cases h) rfl (by rw[hf];exact h2)
   .rw[hf]at h2;obtain⟨h3,h4⟩:=cC h2;split at h4
    .rename_i ds h5;split at h4
     .rename_i d h6;obtain⟨h7,h8⟩:=cC h4;obtain⟨e1,e2⟩:=Z8 h5;obtain⟨e3,e4⟩:=hp _ _ _ h6;refine fin (d:=d) rfl (by simp[aA.lH,aA.calm]) (HZ h1) (λ_=>?_) rfl (by rw[hf];exact h8);simp only[aA.eO,aA.val,e2,e4];exact⟨⟨Iv h3,e1,e3,h7⟩,trivial⟩
     .cases h4
    .cases h4
  all_goals exact lon h
def il {b:Bool}{a a':Option α}{x:α}(hm:a=some x->a'=some x)(h:ef b a=some x):ef b a'=some x:=by
 obtain⟨h1,h2⟩:=cC h;rw[h1];exact hm h2
def XY {p p':EP}{q':EM}(hp:∀f ds d,p f ds=some d->p' f ds=some d)(hq:∀f ds st d,q f ds st=some d->q' f ds st=some d):∀{ins:Υ}{env vs:Φ}{st:St}{x:Φ×St},LD p q ins env vs st=some x->LD p' q' ins env vs st=some x:=by
 intro ins;induction ins with
 |nil=>exact λh=>h
 |cons gi r ih=>
  obtain⟨i,g⟩:=gi;intro env vs st x h;cases i
  case callM f args=>
   refine il (λh=>?_) h;cases hf:flag vs g<;>rw[hf]at h
   .exact ih h
   .refine il (λh=>?_) h;split at h
    .rename_i h1;rw[hq _ _ _ _ h1];exact il (λh=>ih h) h
    .cases h
  case callvM f args=>
   refine il (λh=>?_) h;cases hf:flag vs g<;>rw[hf]at h
   .exact ih h
   .simp only at h⊢;split at h
    .refine il (λh=>?_) h;split at h
     .rename_i h1;rw[hq _ _ _ _ h1];exact il (λh=>ih h) h
     .cases h
    .cases h
  case call f args sh=>
   refine il (λh=>?_) h;cases hf:flag vs g<;>rw[hf]at h
   .exact ih h
   .refine il (λh=>?_) h;split at h
    .split at h
     .rename_i h2;simp only[hp _ _ _ h2];exact il (λh=>ih h) h
     .cases h
    .cases h
  all_goals
   simp only[LD]at h⊢;obtain⟨h1,h2⟩:=cC h;rw[h1];cases hf:flag vs g<;>rw[hf]at h2
   .exact ih h2
   .obtain⟨h3,h4⟩:=cC h2;simp only[h3,ef];exact ih h4
def Bu (p:EP)(q:EM)(l:EL):AC->Φ->St->Option (Ex×List a7×St)
 | .reg _ ins cm,env,st=>match LD p q ins env [] st with
  |some (vs,st')=>some (.normal,iG env vs cm,st')
  |none=>none
 | .seq a b,env,st=>match Bu p q l a env st with
  |some (.normal,e,s)=>Bu p q l b e s
  |r=>r
 | .cond c a b,env,st=>match c.ev env []with
  |⟨true,.bool true⟩=>Bu p q l a env st
  |⟨true,.bool false⟩=>Bu p q l b env st
  |_=>none
 | .block id a,env,st=>match Bu p q l a env st with
  |some (.exit j,e,s)=>if j=id then some (.normal,e,s)else some (.exit j,e,s)
  |r=>r
 | .loop a,env,st=>l a env st
 | .exit id,env,st=>some (.exit id,env,st)
 | .ret,env,st=>some (.ret,env,st)
 | .skip,env,st=>some (.normal,env,st)
def okL (Y:Ctx)(l:EL):=∀a env st e env' st',l a env st=some (e,env',st')->∀Q:Ex->Φ->St->Prop,Q e env' st'->dD Y (.loop a) Q env st
def kV {lo:Nat}{p:Φ->St->Prop}(h:p env st):Gh lo p env st:=⟨env,st,.refl _ _,h⟩
def Pt {p:EP}{l:EL}(hp:Td Y p)(hq:okQ Y q)(hl:okL Y l):∀{c:AC}{env:Φ}{st:St}{e:Ex}{env':Φ}{st':St},Bu p q l c env st=some (e,env',st')->∀Q:Ex->Φ->St->Prop,Q e env' st'->dD Y c Q env st:=by
 intro c;induction c with
 |reg draw ins cm=>
  intro env st e env' st' h Q hQ;simp only[Bu]at h;split at h
  .rename_i vs s1 h1;simp only[aG,dm]at h;obtain⟨rfl,rfl,rfl⟩:=h;exact kV (aj3 hp hq h1 _ hQ)
  .cases h
 |seq a b iha ihb=>
  intro env st e env' st' h Q hQ;simp only[Bu]at h;split at h
  .rename_i e1 s1 h1;exact kV (iha h1 _ (ihb h _ hQ))
  .rename_i h1;refine kV (iha h _ ?_);cases e with
   |normal=>exact absurd h (h1 _ _)
   |exit j=>exact hQ
   |ret=>exact hQ
 |cond c a b iha ihb=>
  intro env st e env' st' h Q hQ;simp only[Bu]at h;split at h
  .rename_i h1;refine kV ⟨by rw[h1], ?_⟩;rw[h1];exact⟨λ_=>iha h _ hQ,λh=>cb⟩
  .rename_i h1;refine kV ⟨by rw[h1], ?_⟩;rw[h1];exact⟨λh=>cb,λ_=>ihb h _ hQ⟩
  .cases h
 |block id a iha=>
  intro env st e env' st' h Q hQ;simp only[Bu]at h;split at h
  .rename_i j e1 s1 h1;refine kV (iha h1 _ ?_);show if j=id then _ else _
   split at h
   .rename_i h2;simp only[aG,dm]at h;obtain⟨rfl,rfl,rfl⟩:=h;rw[ak h2];exact hQ
   .rename_i h2;simp only[aG,dm]at h;obtain⟨rfl,rfl,rfl⟩:=h;rw[ah h2];exact hQ
  .rename_i h1;refine kV (iha h _ ?_);cases e with
   |exit j=>exact absurd h (h1 _ _ _)
   |normal=>exact hQ
   |ret=>exact hQ
 |loop a _=>exact λh=>hl _ _ _ _ _ _ h
 |exit id=>intro env st e env' st' h Q hQ;simp only[Bu,aG,dm]at h;obtain⟨rfl,rfl,rfl⟩:=h;exact kV hQ
 |ret=>intro env st e env' st' h Q hQ;simp only[Bu,aG,dm]at h;obtain⟨rfl,rfl,rfl⟩:=h;exact kV hQ
 |skip=>intro env st e env' st' h Q hQ;simp only[Bu,aG,dm]at h;obtain⟨rfl,rfl,rfl⟩:=h;exact kV hQ
def XX {p p':EP}{q':EM}{l l':EL}(hp:∀f ds d,p f ds=some d->p' f ds=some d)(hq:∀f ds st d,q f ds st=some d->q' f ds st=some d)(hl:∀a env st d,l a env st=some d->l' a env st=some d):∀{c:AC}{env:Φ}{st:St}{x:Ex×Φ×St},Bu p q l c env st=some x->Bu p' q' l' c env st=some x:=by
 intro c;induction c with
 |reg draw ins cm=>
  intro env st x h;simp only[Bu]at h⊢;split at h
  .rename_i h1;rw[XY hp hq h1];exact h
  .cases h
 |seq a b iha ihb=>
  intro env st x h;simp only[Bu]at h⊢;split at h
  .rename_i h1;rw[iha h1];exact ihb h
  .rename_i h1;rw[iha h];obtain⟨e,e1,s1⟩:=x;cases e with
   |normal=>exact absurd h (h1 _ _)
   |exit j=>rfl
   |ret=>rfl
 |cond c a b iha ihb=>
  intro env st x h;simp only[Bu]at h⊢;split at h
  .exact iha h
  .exact ihb h
  .cases h
 |block id a iha=>
  intro env st x h;simp only[Bu]at h⊢;split at h
  .rename_i h1;rw[iha h1];exact h
  .rename_i h1;rw[iha h];obtain⟨e,e1,s1⟩:=x;cases e with
   |exit j=>exact absurd h (h1 _ _ _)
   |normal=>rfl
   |ret=>rfl
 |loop a _=>exact λh=>hl _ _ _ _ h
 |exit id=>exact λh=>h
 |ret=>exact λh=>h
 |skip=>exact λh=>h
def Ex.SD:Ex->Bool
 | .exit _=>false
 |_=>true
def aa6 (m:Γ)(env:Φ):List Hw->Bool
 |[]=>true
 |r::rs=>((env.getD r.s .un).ok&&match r.mem with
   |none=>true
   |some (n,_)=>ldB m n (env.getD r.s .un).d)&&aa6 m env rs
def Mo {e:Ex}(h:e.SD=true):e.home:=by cases e<;>simp_all[Ex.SD,Ex.home]
theorem Tz {m:Γ}:∀{l:List Hw},aa6 m env l=true->oO m env l:=by
 intro l;induction l<;>grind [aa6,oO,Y1]
structure EvS where
 p:EP
 q:EM
 l:EL
def evF (E:EvS)(a:aj)(ds:Θ):ε:=ef (decide (ds.length=a.np)) (match Bu E.p E.q E.l a.body (fV a ds) ⟨0,[]⟩with
 |some (e,env,st)=>ef (e.SD&&aa6 st.m env a.res) (match a.res with
  |[r]=>puV st.m 9 (a.rsh.getD 0 []) (Jc st.m env r)
  |rs=>(puS st.m a.rsh (rr st.m env rs)).map .tup)
 |none=>none)
def evM (E:EvS)(a:aj)(ds:Θ)(st:St):Option (D×St):=ef (decide (ds.length=a.np)) (match Bu E.p E.q E.l a.body (fV a ds) st with
 |some (e,env,st')=>ef (e.SD&&aa6 st'.m env a.res) (some (ku a env st',st'))
 |none=>none)
def lF (tb:Nat->Option aj)(ex:EP):Nat->EvS
 |0=>⟨λ_ _=>none,λ_ _ _=>none,λ_ _ _=>none⟩
 |n+1=>⟨λf ds=>match tb f with
   |some a=>evF (lF tb ex n) a ds
   |none=>ex f ds,λf ds st=>match tb f with
   |some a=>evM (lF tb ex n) a ds st
   |none=>none,λa env st=>match Bu (lF tb ex n).p (lF tb ex n).q (lF tb ex n).l a env st with
   |some (.normal,e,s)=>(lF tb ex n).l a e s
   |r=>r⟩
section
variable {tb:Nat->Option aj}{ex:EP}
def Gk (n:Nat):(∀f ds d,(lF tb ex n).p f ds=some d->(lF tb ex (n+1)).p f ds=some d)/\(∀f ds st d,(lF tb ex n).q f ds st=some d->(lF tb ex (n+1)).q f ds st=some d)/\∀a env st d,(lF tb ex n).l a env st=some d->(lF tb ex (n+1)).l a env st=some d:=by
 induction n with
 |zero=>exact⟨λ_ _ _ h=>cb,λ_ _ _ _ h=>cb,λ_ _ _ _ h=>cb⟩
 |succ n ih=>
  obtain⟨h1,h2,h3⟩:=ih;have hc:∀{c:AC} {env:Φ} {st:St} {x:Ex×Φ×St},Bu (lF tb ex n).p (lF tb ex n).q (lF tb ex n).l c env st=some x->Bu (lF tb ex (n+1)).p (lF tb ex (n+1)).q (lF tb ex (n+1)).l c env st=some x:=λh=>XX h1 h2 h3 h
  refine⟨λf ds d h=>?_,λf ds st d h=>?_,λa env st d h=>?_⟩
  .simp only[lF]at h⊢;split at h
   .refine il (λh=>?_) h;split at h
    .rename_i h4;have:=hc h4;simp only[lF]at this;rw[this];exact h
    .cases h
   .exact h
  .simp only[lF]at h⊢;split at h
   .refine il (λh=>?_) h;split at h
    .rename_i h4;have:=hc h4;simp only[lF]at this;rw[this];exact h
    .cases h
   .exact h
  .rw[lF]at h⊢;simp only at h⊢;split at h
   .rename_i h4;rw[hc h4];exact h3 _ _ _ _ h
   .rename_i h4;rw[hc h];obtain⟨e,e1,s1⟩:=d;cases e with
    |normal=>exact absurd h (h4 _ _)
    |exit j=>rfl
    |ret=>rfl
def L9 (h:(lF tb ex n).p f ds=some d)(hk:n<=k):(lF tb ex k).p f ds=some d:=by
 induction hk with
 |refl=>exact h
 |step _ ih=>exact(Gk _).1 _ _ _ ih
def X0 {d:D×St}(h:(lF tb ex n).q f ds st=some d)(hk:n<=k):(lF tb ex k).q f ds st=some d:=by
 induction hk with
 |refl=>exact h
 |step _ ih=>exact(Gk _).2.1 _ _ _ _ ih
end
def Wz (P:Lab):Nat:=Classical.epsilon λk=>P k/\∀j,P j->k<=j
def zu {P:Lab}:∀{n:Nat},P n->P (Wz P)/\∀j,P j->Wz P<=j:=by
 have h:∀n,P n->∃k,P k/\∀j,P j->k<=j:=by
  intro n;induction n using Nat.strongRecOn with
  |_ n ih=>
   intro hn;by_cases h:∃j,P j/\j<n
   .obtain⟨j,h1,h2⟩:=h;exact ih j h2 h1
   .exact⟨n,hn,λj hj=>by
     rcases dX j n with h1|h1
     .exact absurd ⟨j,hj,h1⟩ h
     .exact h1⟩
 exact λ{n} hn=>Classical.epsilon_spec (h n hn)
section
variable {tb:Nat->Option aj}{ex:EP}
def XZ {N:Nat}(hp:∀n,n<N->Td Y (lF tb ex n).p)(hq:∀n,n<N->okQ Y (lF tb ex n).q):okL Y (lF tb ex N).l:=by
 intro a env st e env' st' h Q hQ
 let P:Φ->St->Nat->Prop:=λenv st n=>n<=N/\(lF tb ex n).l a env st=some (e,env',st')
 refine kV ⟨λenv st=>∃n,P env st n,λenv st=>Wz (P env st),⟨N,aR _,h⟩,λenv st ⟨n,hn⟩=>?_⟩;obtain⟨⟨h1,h2⟩,h3⟩:=zu (P:=P env st) hn;obtain⟨k,hk⟩:∃k,Wz (P env st)=k:=⟨_,rfl⟩
 rw[hk]at h1 h2 h3;cases k with
 |zero=>cases h2
 |succ k=>
  rw[lF]at h2;simp only at h2;have ih:okL Y (lF tb ex k).l:=XZ (λn h=>hp n ae) λn h=>hq n ae
  split at h2
  .rename_i e1 s1 h4;refine Pt (hp k ae) (hq k ae) ih h4 _ ⟨e1,s1,.refl _ _,⟨k,ae,h2⟩, ?_⟩;have:=(zu (P:=P e1 s1) (n:=k) ⟨ae,h2⟩).2 k ⟨ae,h2⟩;show Wz (P e1 s1)<Wz (P env st);omega
  .rename_i h4;refine Pt (hp k ae) (hq k ae) ih h2 _ ?_;cases e with
   |normal=>exact absurd h2 (h4 _ _)
   |exit j=>exact hQ
   |ret=>exact hQ
termination_by N
end
def bX (tb:Nat->Option aj)(ex:EP)(k f:Nat):mS where
 key:=k
 rel ds d:=∃n,(lF tb ex n).p f ds=some d
 mu ds:=Wz λn=>∃d,(lF tb ex n).p f ds=some d
 relF:=noF
 tr ds st K:=∃n d st',(lF tb ex n).q f ds st=some (d,st')/\K d st'
 muE ds st:=Wz λn=>∃d,(lF tb ex n).q f ds st=some d
 mono _ _ _ _ h h1:=by obtain⟨n,d,st',h2,h3⟩:=h1;exact⟨n,d,st',h2,h _ _ h3⟩
section
variable {tb:Nat->Option aj}{ex:EP}{t:τ}
def Eu:Det (bX tb ex k f).rel:=by
 intro ds d d' ⟨n,h⟩ ⟨n',h'⟩;have h1:=L9 h (Nat.le_max_left n n');rw[L9 h' (Nat.le_max_right n n')]at h1;exact(aZ h1).symm
def kT {k' u:Nat}(hr:lk t f nu=bX tb ex k f)(hk:k<k')(h:(lF tb ex n).p f ds=some d):(under t k' u).pre f ds/\(under t k' u).val f ds=d:=
 okp (hr▸Eu) (.inl (by rw[hr];exact hk)) (by rw[hr];exact⟨n,h⟩)
def X1 (hrow:∀f a,tb f=some a->lk t f nu=bX tb ex k f)(hex:∀u,Td (under t k u) ex){u:Nat}(hn:n<u):Td (under t k u) (lF tb ex n).p:=by
 intro f ds d h;cases n with
 |zero=>cases h
 |succ n=>
  cases hf:tb f with
  |none=>simp only[lF,hf]at h;exact hex u f ds d h
  |some a=>
   have hr:=hrow f a hf;refine okp (hr▸Eu) (.inr ⟨by rw[hr];rfl, ?_⟩) (by rw[hr];exact⟨_,h⟩);rw[hr];have:=(zu (P:=λn=>∃d,(lF tb ex n).p f ds=some d) ⟨d,h⟩).2 _ ⟨d,h⟩;exact Nat.lt_of_le_of_lt this hn
def X2 (hrow:∀f a,tb f=some a->lk t f nu=bX tb ex k f)(hex:∀u,Td (under t k u) ex){u:Nat}(hn:n<u):okQ (under t k u) (lF tb ex n).q:=by
 intro f ds st d st' h K hK;cases n with
 |zero=>cases h
 |succ n=>
  cases hf:tb f with
  |none=>simp only[lF,hf]at h;cases h
  |some a=>
   have hr:=hrow f a hf;refine Te (.inr ⟨by rw[hr];rfl, ?_⟩) (by rw[hr];exact⟨_,_,_,h,hK⟩);rw[hr];have:=(zu (P:=λn=>∃d,(lF tb ex n).q f ds st=some d) ⟨_,h⟩).2 _ ⟨_,h⟩;exact Nat.lt_of_le_of_lt this hn
def So (hrow:∀f a,tb f=some a->lk t f nu=bX tb ex k f)(hex:∀u,Td (under t k u) ex){u l:Nat}(hn:n<u){c:AC}{e:Ex}{env':Φ}{st':St}(h:Bu (lF tb ex n).p (lF tb ex n).q (lF tb ex n).l c env st=some (e,env',st')){Q:Ex->Φ->St->Prop}(hQ:Q e env' st'):dD ((under t k u).at l) c Q env st:=
 Pt (Y:=(under t k u).at l) (X1 hrow hex hn) (X2 hrow hex hn) (XZ (λn' h=>X1 hrow hex ae) λn' h=>X2 hrow hex ae) h Q hQ
variable [cO]{P:Program}{ν:Ξ}{bS:Ε}{fid:Nat}{a:aj}
theorem aN (hrow:∀f a,tb f=some a->lk t f nu=bX tb ex k f)(hex:∀u,Td (under t k u) ex)(hmix:P.follows .mixedOrders=true)(hC:Wu P ν bS fid a)(hf:tb f=some a):Owe P ν bS t fid f:=by
 have hr:=hrow f a hf;refine⟨?_, ?_, ?_⟩<;>rw[hr]
 .intro ds d ⟨n,h⟩;obtain⟨⟨d',h1⟩,h2⟩:=zu (P:=λn=>∃d,(lF tb ex n).p f ds=some d) ⟨d,h⟩;have h3:d'=d:=Eu (k:=k) ds d' d ⟨_,h1⟩ ⟨_,h⟩;subst h3;show LK P ν bS (under t k (Wz λn=>∃d,(lF tb ex n).p f ds=some d)) fid ds d';generalize (Wz λn=>∃d,(lF tb ex n).p f ds=some d)=N at h1;cases N with
  |zero=>cases h1
  |succ N=>
   simp only[lF,hf]at h1;obtain⟨g1,g2⟩:=cC h1;split at g2
   .rename_i e env st g3;obtain⟨g4,g5⟩:=cC g2;rw[aD]at g4;refine av hmix hC (by simpa using g1) (So hrow hex (Nat.lt_succ_self N) g3 ⟨Mo g4.1,Tz g4.2, ?_⟩);unfold N5 aa7;split at g5
    .rename_i r hres;rw[hres];exact Z9 g5
    .rename_i rs hres;obtain⟨es,g6,rfl⟩:=df.1 g5;have:=Z8 g6;split
     .rename_i r hr;exact absurd hr (hres r)
     .exact⟨this.1,by rw[this.2]⟩
   .cases g2
 .exact Iu
 .intro ds st K ⟨n,d,st',h,hK⟩;obtain⟨⟨d',h1⟩,h2⟩:=zu (P:=λn=>∃d,(lF tb ex n).q f ds st=some d) ⟨_,h⟩;have h3:d'=(d,st'):=by
   have:=X0 h1 (h2 n ⟨_,h⟩);rw[h]at this;exact(aZ this).symm
  subst h3;show vj P ν bS (under t k (Wz λn=>∃d,(lF tb ex n).q f ds st=some d)) fid ds st K;generalize (Wz λn=>∃d,(lF tb ex n).q f ds st=some d)=N at h1;cases N with
  |zero=>cases h1
  |succ N=>
   simp only[lF,hf]at h1;obtain⟨g1,g2⟩:=cC h1;split at g2
   .rename_i e env s1 g3;obtain⟨g4,g5⟩:=cC g2;rw[aD]at g4;simp only[aG,dm]at g5;obtain⟨g6,rfl⟩:=g5;intro hok x args hl hargs hs hfr;obtain⟨fn,hfn,hc,hn⟩:=hC.split;obtain⟨body,c1,_⟩:=gJ hc;refine .inr ⟨fid,args,ic hfn hn (by rw[c1];rfl) args x.w, ?_⟩;refine Calls.mono (aj8 (K:=K) hok hmix hfn hc hl hargs hs hfr ⟨by simpa using g1,So hrow hex (Nat.lt_succ_self N) g3 ⟨Mo g4.1,Tz g4.2, ?_⟩⟩) λe w' he=>?_
    .rw[g6];exact hK
    .grind
   .cases g2
end
def rV:aj:=bd 259
def rW:aj:=bd 288
def vB:aj:=bd 191
def yG:aj:=bd 100
def vu:aj:=bd 260
def sD:aj:=bd 292
def AX:aj:=bd 144
def yw:aj:=bd 170
def xS:aj:=bd 289
def xT:aj:=bd 290
def vP:aj:=bd 310
def vO:aj:=bd 309
def vA:aj:=bd 216
def vC:aj:=bd 230
def yF:aj:=bd 150
def yH:aj:=bd 151
def rN:aj:=bd 293
def rO:aj:=bd 291
def vF:aj:=bd 192
def pB:aj:=bd 312
def DE:aj:=bd 313
def xU:aj:=bd 314
def yK:aj:=bd 331
def xx:aj:=bd 329
def Bj:aj:=bd 332
def lI:aj:=bd 248
def AV:aj:=bd 249
def vE:aj:=bd 267
def Bc:aj:=bd 196
def yB:aj:=bd 197
def Bd:aj:=bd 198
def Ep:aj:=bd 199
def Be:aj:=bd 200
def Em:aj:=bd 201
def sC:aj:=bd 317
def nq:aj:=bd 334
def oB:aj:=bd 335
def AJ:aj:=bd 336
def AI:aj:=bd 337
def CO:aj:=bd 354
def xy:aj:=bd 355
def Ap:aj:=bd 346
def nw:aj:=bd 277
def ny:aj:=bd 278
def oN:aj:=bd 279
def yu:aj:=bd 280
def yt:aj:=bd 298
def yC:aj:=bd 236
def yD:aj:=bd 233
def El:aj:=bd 234
def tc:aj:=bd 235
def Ek:aj:=bd 237
def pA:aj:=bd 359
def oC:aj:=bd 360
def pC:aj:=bd 361
def pz:aj:=bd 362
def AH:aj:=bd 363
def AG:aj:=bd 364
def Aq:aj:=bd 369
def vr:aj:=bd 368
def oM:aj:=bd 300
def yr:aj:=bd 301
def AW:aj:=bd 321
def yv:aj:=bd 322
def Bb:aj:=bd 271
def A9:aj:=bd 269
def vL:aj:=bd 270
def qn:aj:=bd 376
def nv:aj:=bd 323
def nA:aj:=bd 343
def yy:aj:=bd 166
def Ei:aj:=bd 253
def vG:aj:=bd 210
def vH:aj:=bd 211
def yz:aj:=bd 212
def vI:aj:=bd 213
def yA:aj:=bd 284
def A0:aj:=bd 242
def yx:aj:=bd 244
def A1:aj:=bd 245
def A2:aj:=bd 246
def GW:aj:=bd 282
def AZ:aj:=bd 276
def GU:aj:=bd 302
def Eg:aj:=bd 326
def Ea:aj:=bd 172
def AY:aj:=bd 173
def A3:aj:=bd 324
def A4:aj:=bd 306
def GV:aj:=bd 307
def A5:aj:=bd 308
def yq:aj:=bd 217
def GX:aj:=bd 218
def Eh:aj:=bd 328
def sX:aj:=bd 250
def En:aj:=bd 251
def Ej:aj:=bd 254
def vD:aj:=bd 281
def Eo:aj:=bd 283
def Ef:aj:=bd 285
def vK:aj:=bd 303
def A7:aj:=bd 304
def A6:aj:=bd 305
def Ba:aj:=bd 325
def vJ:aj:=bd 327
def A8:aj:=bd 344
def yE:aj:=bd 345
def tbT:List (Nat×aj):=[(212,rV),(444,rW),(670,vB),(572,yG),(213,vu),(448,sD),(459,AX),(672,yw),(445,xS),(446,xT),(496,vP),(495,vO),(813,vA),(814,vC),(744,yF),(745,yH),(449,rN),(447,rO),(671,vF),(660,pB),(661,DE),(662,xU),(684,yK),(682,xx),(685,Bj),(952,lI),(953,AV),(954,vE),(896,Bc),(897,yB),(898,Bd),(899,Ep),(900,Be),(901,Em),(663,sC),(808,nq),(809,oB),(810,AJ),(811,AI),(827,CO),(828,xy),(819,Ap),(1032,nw),(1033,ny),(1034,oN),(1035,yu),(1036,yt),(482,yC),(1006,yD),(1007,El),(1008,tc),(676,Ek),(946,pA),(947,oC),(948,pC),(949,pz),(950,AH),(951,AG),(957,Aq),(956,vr),(1097,oM),(1098,yr),(1099,AW),(1100,yv),(677,Bb),(678,A9),(1079,vL),(1031,qn),(1126,nv),(1141,nA),(156,yy),(374,Ei),(376,vG),(377,vH),(378,yz),(379,vI),(598,yA),(599,A0),(601,yx),(602,A1),(603,A2),(604,GW),(769,AZ),(771,GU),(772,Eg),(907,Ea),(908,AY),(918,A3),(919,A4),(920,GV),(921,A5),(1010,yq),(1011,GX),(1021,Eh),(1081,sX),(1082,En),(1085,Ej),(1118,vD),(1119,Eo),(1122,Ef),(1137,vK),(1138,A7),(1139,A6),(1144,Ba),(1145,vJ),(1147,A8),(1148,yE)]
def af6:=∀(s:aw),(kI s)->T [.str s] (cy.D (eY s))
def C908:Prop:=af6 (aH Z 908)
def af5:=∀(s:aw) (e:Env),(pD s/\kS e)->T [.str s,Env.D e] (.bool (GJ s e))
def C907:Prop:=af5 (aH Z 907)
def abW:=∀(s:aw),(kI s)->T [.str s] (.tup [cy.D (eY s),.int .i64 0])
def af8:Prop:=abW (aH Z 1011)
def abX:=∀(s:cy),(s∈hR)->T [cy.D p8,cy.D s] (cy.D s)
def agi:Prop:=abX (aH Z 1085)
def abZ:=∀(v:b6),(v∈bQ)->T [b6.D v] (cy.D (dS v))
def WR:Prop:=abZ (aH Z 156)
def Lg:=∀(l:γ) (nm:aw),T [.sl 2 (l.map b7.D),.str nm] (.int .i64 (findF l nm 0))
def C955:Prop:=Lg (aH Z 955)
def K1:=∀(l:γ) (nm:aw),T [.sl 2 (l.map b7.D),.str nm] (.bool (isF l nm))
def C816:Prop:=K1 (aH Z 816)
end Go.Abs
section
set_option maxRecDepth 10000
namespace Go.Abs
variable{d:D}{Y:Ctx}
def Re:Θ->Option (List aw)
 |[]=>some []
 | .str s::r=>match Re r with
  |some l=>some (s::l)
  |none=>none
 |_=>none
theorem Cr:∀{l:Θ}{r:Ψ},Re l=some r->l=r.map D.str:=by
 intro l;induction l with
 |nil=>intro r h;cases h;rfl
 |cons d l ih=>intro r h;cases d<;>simp only[Re]at h<;>grind
def uY (s:aw):Bool:=decide (s.length<=1048576)
def exO:EP:=λf ds=>match ds with
 |[.str s]=>bif Nat.beq f 349 ||Nat.beq f 357 then some (.bool (gP s))else bif Nat.beq f 208 ||Nat.beq f 216 then some (.bool (di s))else
  bif Nat.beq f 658 ||Nat.beq f 667 then some (.tup [.int .i64 (DN s),.bool (oI s)])else none
 |[.int .i64 n]=>ef ((Nat.beq f 665 ||Nat.beq f 734)&&(decide (0<=n)&&decide (n<=9999))) (some (.str (og n.toNat)))
 |[.str s,.int .u8 b]=>ef ((Nat.beq f 533 ||Nat.beq f 470)&&uY s) (some (.sl 1 ((bh s b).map D.str)))
 |[.str s,.str [124,124]]=>ef (uY s&&Nat.beq f 124) (some (.sl 1 ((jq s []).map D.str)))
 |[.str s,.str [b]]=>ef (uY s) (bif Nat.beq f 124 then some (.sl 1 ((bh s b.toNat).map D.str))else bif Nat.beq f 683&&b==32 then some (.str (CI s))else
  bif Nat.beq f 487 then some (.tup [.str (uX s b).1,.str (uX s b).2.1,.bool (uX s b).2.2])else bif Nat.beq f 254 then some (.tup [.str (qU s [b]).1,.bool (qU s [b]).2])else none)
 |[.sl 1 l]=>match Re l with
  |some l=>bif Nat.beq f 815 then some (.bool (rising l))else none
  |none=>none
 |[.sl 1 l,.int .u8 x]=>match Re l with
  |some l=>ef (Nat.beq f 249&&(decide (x=(x.toNat.toUInt8.toNat:Nat))&&uY (cv [x.toNat.toUInt8] l))) (some (.str (cv [x.toNat.toUInt8] l)))
  |none=>none
 |[.sl 1 l,.str s]=>match Re l with
  |some l=>ef (Nat.beq f 242&&(decide (l.length<=9)&&(decide (s.length<=4)&&l.all uY))) (some (.str (cv s l)))
  |none=>none
 |[.agg [.int .i64 a,.int .i64 b,.int .i64 c,.str p,.str q]]=>ef ((Nat.beq f 209 ||Nat.beq f 217)&&(uY p&&uY q)) (some (.bool (gN ⟨a,b,c,p,q⟩)))
 |_=>none
def e8 (n:Nat):Option aj:=lk (tbT.map λp=>(p.1,some p.2)) n none
def aj6 (h349:Ul Y)(h357:WL Y)(h208:Uj Y)(h216:Hy Y)(h658:C658 Y)(h667:C667 Y)(h665:C665 Y)(h734:C734 Y)(h533:WM Y)(h470:C470 Y)(h124:C124 Y)(h9124:agp Y)(h683:C683 Y)(h487:C487 Y)(h254:C254 Y)(h815:C815 Y)(h249:C249 Y)(h242:C242 Y)(h209:Bn Y)(h217:Cw Y):Td Y exO:=by
 intro f ds d h;unfold exO at h;split at h
 .simp only[Bool.cond_eq_ite,dk,Nat.beq_eq]at h;split at h
  .rename_i hf;cases h;rcases hf with rfl|rfl
   .exact h349 _
   .exact h357 _
  split at h
  .rename_i hf;cases h;rcases hf with rfl|rfl
   .exact h208 _
   .exact h216 _
  split at h
  .rename_i hf;cases h;rcases hf with rfl|rfl
   .exact h658 _
   .exact h667 _
  .cases h
 .obtain⟨h1,h2⟩:=cC h;simp only[dk,aD,Nat.beq_eq,aT]at h1;cases h2;rcases h1 with⟨rfl|rfl,h1⟩
  .exact h665 _ h1
  .exact h734 _ h1
 .obtain⟨h1,h2⟩:=cC h;simp only[dk,aD,Nat.beq_eq,uY,aT]at h1;cases h2;rcases h1 with⟨rfl|rfl,h1⟩
  .exact h533 _ _ h1
  .exact h470 _ _ h1
 .obtain⟨h1,h2⟩:=cC h;simp only[aD,Nat.beq_eq,uY,aT]at h1;cases h2;obtain⟨h1,rfl⟩:=h1;exact h9124 _ h1
 .obtain⟨h1,h2⟩:=cC h;simp only[uY,aT]at h1;simp only[Bool.cond_eq_ite,aD,Nat.beq_eq,beq_iff_eq]at h2;split at h2
  .rename_i hf;cases h2;subst hf;exact h124 _ _ h1
  split at h2
  .rename_i hf;cases h2;obtain⟨rfl,hb⟩:=hf;exact h683 _ _ hb h1
  split at h2
  .rename_i hf;cases h2;subst hf;exact h487 _ _ h1
  split at h2
  .rename_i hf;cases h2;subst hf;exact h254 _ _ h1 aJ
  .cases h2
 .split at h
  .rename_i l hl;obtain rfl:=Cr hl;simp only[Bool.cond_eq_ite,Nat.beq_eq]at h;split at h
   .rename_i hf;cases h;subst hf;exact h815 _
   .cases h
  .cases h
 .rename_i lx x;split at h
  .rename_i l hl;obtain rfl:=Cr hl;obtain⟨h1,h2⟩:=cC h;simp only[aD,Nat.beq_eq,uY,aT]at h1;cases h2;obtain⟨rfl,h3,h4⟩:=h1;revert h3 h4;generalize Nat.toUInt8 (Int.toNat x)=y;intro h3 h4;subst h3;exact h249 _ y (fC h4 aX)
  .cases h
 .split at h
  .rename_i l hl;obtain rfl:=Cr hl;obtain⟨h1,h2⟩:=cC h;simp only[aD,Nat.beq_eq,uY,List.all_eq_true,aT]at h1;cases h2;obtain⟨rfl,h3,h4,h5⟩:=h1;exact h242 _ _ ae h4 λt ht=>fC (h5 t ht) aX
  .cases h
 .obtain⟨h1,h2⟩:=cC h;simp only[dk,aD,Nat.beq_eq,uY,aT]at h1;cases h2;rcases h1 with⟨rfl|rfl,h1⟩
  .exact h209 ⟨_,_,_,_,_⟩ h1
  .exact h217 ⟨_,_,_,_,_⟩ h1
 .cases h
def jd:ε->Bool
 |some (.bool b)=>b
 |_=>false
def dU {o:ε}{b:Bool}(hb:b=true)(h:jd o=true):o=some (.bool b):=by unfold jd at h;split at h<;>simp_all
def fR (c:Bool):ε->Bool
 |some (.bool b)=>b==c
 |_=>false
def cB {o:ε}{b:Bool}(h:fR b o=true):o=some (.bool b):=by unfold fR at h;split at h<;>simp_all
def rR (x:Int×aw×aw):ε->Bool
 |some (.tup [.int .i64 a,.str b,.str c])=>decide (a=x.1)&&(b==x.2.1&&c==x.2.2)
 |_=>false
def jX {o:ε}{x:Int×aw×aw}(h:rR x o=true):o=some (.tup [.int .i64 x.1,.str x.2.1,.str x.2.2]):=by unfold rR at h;split at h<;>simp_all
def verO:D->Option b6
 | .agg [.int .i64 a,.int .i64 b,.int .i64 c,.str p,.str q]=>some ⟨a,b,c,p,q⟩
 |_=>none
def afY {v:b6}(h:verO d=some v):d=v.D:=by
 unfold verO at h;split at h
 .cases h;rfl
 .cases h
def cutO:D->Option Cut
 | .agg [.int .i64 e,.int .i64 a,.int .i64 b,.int .i64 c,.str p,.str q,.bool z]=>some ⟨e,⟨a,b,c,p,q⟩,z⟩
 |_=>none
def Sj {v:Cut}(h:cutO d=some v):d=v.D:=by
 unfold cutO at h;split at h
 .cases h;rfl
 .cases h
def G6:D->Option Span
 | .agg [.int .i64 e,.int .i64 a,.int .i64 b,.int .i64 c,.str p,.str q,.bool z,.int .i64 e',.int .i64 a',.int .i64 b',.int .i64 c',.str p',.str q',.bool z']=>some ⟨⟨e,⟨a,b,c,p,q⟩,z⟩,⟨e',⟨a',b',c',p',q'⟩,z'⟩⟩
 |_=>none
def yM {v:Span}(h:G6 d=some v):d=v.D:=by
 unfold G6 at h;split at h
 .cases h;rfl
 .cases h
def Dy {α:Type}(f:D->Option α):Θ->Option (List α)
 |[]=>some []
 |d::r=>match f d with
  |some a=>match Dy f r with
   |some l=>some (a::l)
   |none=>none
  |none=>none
def sM {α:Type}{f:D->Option α}{q:α->D}(hq:∀{d:D}{a:α},f d=some a->d=q a):∀{l:Θ}{r:List α},Dy f l=some r->l=r.map q
 |[],r,h=>by cases h;rfl
 |d::l,r,h=>by
  unfold Dy at h;split at h
  .rename_i a ha;split at h
   .rename_i t ht;cases h;rw[hq ha,sM hq ht];rfl
   .cases h
  .cases h
def X5:D->Option b7
 | .agg [.str n,.sl 1 l]=>match Re l with
  |some l=>some ⟨n,l⟩
  |none=>none
 |_=>none
def X7 {v:b7}(h:X5 d=some v):d=v.D:=by
 unfold X5 at h;split at h
 .split at h
  .rename_i l hl;cases h;rw[Cr hl];rfl
  .cases h
 .cases h
def smV (v:b6):Bool:=uY v.pre&&uY v.build
def Jg {v:b6}(h:smV v=true):v.sm:=by simpa[smV,uY,b6.sm]using h
def smS (s:Span):Bool:=smV s.f.v&&smV s.t.v
def abm {s:Span}(h:smS s=true):s.sm:=by
 rw[smS,aD]at h;exact⟨Jg h.1,Jg h.2⟩
def Q9 {l:Lae}(h:l.all smS=true):Al l:=λs hs=>abm (List.all_eq_true.1 h s hs)
def SF (d:D):Option cy:=match d with
 | .agg [.sl 14 a,.sl 14 b]=>match Dy G6 a with
  |some a=>match Dy G6 b with
   |some b=>some ⟨a,b⟩
   |none=>none
  |none=>none
 |_=>none
def Ms {v:cy}(h:SF d=some v):d=v.D:=by
 unfold SF at h;split at h
 .split at h
  .rename_i a ha;split at h
   .rename_i b hb;cases h;rw[sM yM ha,sM yM hb];rfl
   .cases h
  .cases h
 .cases h
def ex1 (f:Nat)(d:D):ε:=bif Nat.beq f 144 then(match d with
  | .agg [.str a,.str b,.str c]=>some (.bool (mw ⟨a,b,c⟩))
  |_=>none)else bif Nat.beq f 600 then(match verO d with
  |some v=>some (.bool (wq v))
  |none=>none)else bif Nat.beq f 1019 then(match G6 d with
  |some s=>ef (smS s) (some (.bool (qz s)))
  |none=>none)else bif Nat.beq f 770 then(match SF d with
  |some s=>ef (s.rel.all smS&&s.pr.all smS) (some (.bool (wL s)))
  |none=>none)else bif Nat.beq f 916 then(match d with
  | .sl 14 l=>match Dy G6 l with
   |some l=>ef (l.all smS) (some (.bool (te l)))
   |none=>none
  |_=>none)else none
def exN:EP:=λf ds=>match ds with
 |[]=>ef (Nat.beq f 375) (some (cy.D S9))
 |[d]=>ex1 f d
 |[.sl 2 l,.str s]=>match Dy X5 l with
  |some l=>ef (Nat.beq f 816) (some (.bool (isF l s)))
  |none=>none
 |[a,b]=>match cutO a with
  |some a=>match cutO b with
   |some b=>ef (Nat.beq f 1020&&(smV a.v&&smV b.v)) (some (.int .i64 (lA a b)))
   |none=>none
  |none=>none
 |_=>none
def aj4 (h144:WJ Y)(h600:C600 Y)(h1019:LG Y)(h770:WQ Y)(h916:WS Y){f:Nat}{e:D}(h:ex1 f d=some e):Y.pre f [d]/\Y.val f [d]=e:=by
 unfold ex1 at h;simp only[Bool.cond_eq_ite,Nat.beq_eq]at h;split at h
 .rename_i hf;subst hf;split at h
  .cases h;exact h144 ⟨_,_,_⟩
  .cases h
 split at h
 .rename_i hf;subst hf;split at h
  .rename_i v hv;cases h;rw[afY hv];exact h600 v
  .cases h
 split at h
 .rename_i hf;subst hf;split at h
  .rename_i s hs;obtain⟨h1,h2⟩:=cC h;cases h2;rw[yM hs];exact h1019 s (abm h1)
  .cases h
 split at h
 .rename_i hf;subst hf;split at h
  .rename_i s hs;obtain⟨h1,h2⟩:=cC h;rw[aD]at h1;cases h2;rw[Ms hs];exact h770 s ⟨Q9 h1.1,Q9 h1.2⟩
  .cases h
 split at h
 .rename_i hf;subst hf;split at h
  .split at h
   .rename_i l hl;obtain⟨h1,h2⟩:=cC h;cases h2;rw[sM yM hl];exact h916 l (Q9 h1)
   .cases h
  .cases h
 .cases h
def aj5 (h144:WJ Y)(h375:C375 Y)(h600:C600 Y)(h770:WQ Y)(h816:C816 Y)(h916:WS Y)(h1019:LG Y)(h1020:RR Y):Td Y exN:=by
 intro f ds d h;unfold exN at h;split at h
 .obtain⟨h1,h2⟩:=cC h;cases h2;obtain rfl:=Nat.eq_of_beq_eq_true h1;exact h375
 .exact aj4 h144 h600 h1019 h770 h916 h
 .split at h
  .rename_i l hl;obtain⟨h1,h2⟩:=cC h;cases h2;obtain rfl:=Nat.eq_of_beq_eq_true h1;rw[sM X7 hl];exact h816 _ _
  .cases h
 .split at h
  .rename_i a ha;split at h
   .rename_i b hb;obtain⟨h1,h2⟩:=cC h;simp only[aD]at h1;cases h2;obtain⟨h1,h3,h4⟩:=h1;obtain rfl:=Nat.eq_of_beq_eq_true h1;rw[Sj ha,Sj hb];exact h1020 _ _ ⟨Jg h3,Jg h4⟩
   .cases h
  .cases h
 .cases h
def eR:EP:=λf ds=>match exO f ds with
 |some d=>some d
 |none=>exN f ds
def aj7 (h1:Td Y exO)(h2:Td Y exN):Td Y eR:=by
 intro f ds d h;unfold eR at h;split at h
 .rename_i e he;cases h;exact h1 f ds d he
 .exact h2 f ds d h
def E2 (v:cy):ε->Bool
 |some d=>match SF d with
  |some x=>decide (x=v)
  |none=>false
 |none=>false
def gD {o:ε}{v:cy}(h:E2 v o=true):o=some v.D:=by
 unfold E2 at h;split at h
 .split at h
  .rename_i x hx;rw[Ms hx,of_decide_eq_true h]
  .cases h
 .cases h
def vsZ (v:cy):ε->Bool
 |some (.tup [d,.int .i64 0])=>E2 v (some d)
 |_=>false
def tm {o:ε}{v:cy}(h:vsZ v o=true):o=some (.tup [v.D,.int .i64 0]):=by
 unfold vsZ at h;split at h
 .rw[aZ (gD h)]
 .cases h
abbrev cn (f:Nat)(ds:Θ):ε:=(lF e8 eR 60).p f ds
end Go.Abs
end
namespace Go.Abs
variable{c:Δ}{shop l:Β}{us:Η}{w:bP}{od:Ο}(T:Θ->D->Prop){y:cu}{P:Key->Prop}{n j k:Nat}(ks:Δ){nm:aw}(Z:Ctx){r:Rec}
section
variable {Y:Ctx}{draw:Bool}{r:Υ}{env rs:Φ}{nx:Nat}{m:Γ}{K:Φ->St->Prop}{g:Ν}{f:Bool}
def r_mn {x y:Src}{fx fy:Bool}{k k2:IntKind}{a b:Int}(v:Int)(h:aC Y draw r env (⟨f,.int k v⟩::rs) nx m K)(hg:GF rs g f:=by first|exact rfl|exact⟨_,_,rfl,rfl⟩)(hx:bV env rs x=⟨fx,.int k a⟩:=by exact rfl)(hy:bV env rs y=⟨fy,.int k2 b⟩:=by exact rfl)(kx:f=true->fx=true:=by first|exact λ_=>rfl|exact λh=>h|(intro h;simp_all))(ky:f=true->fy=true:=by first|exact λ_=>rfl|exact λh=>h|(intro h;simp_all))(hv:f=true->(if b<a then b else a)=v):aC Y draw (⟨.mn false x y,g⟩::r) env rs nx m K:=
 bE rfl hg _ (λhf=>by simp[aA.eO,hx,hy,kx hf,ky hf]) (λhf=>by simp only[aA.val,hx,hy,iL,ba];rw[hv hf]) (λ_=>h)
end
def J2:=∀(n:Int),(0<=n/\n<=40)->T [.int .i64 n] (.int .i64 (2^n.toNat))
def C381:Prop:=J2 (aH Z 381)
def JC:=∀(w:bP) (u:Int),(w.sm)->T [bP.D w,.int .i64 u] (.int .i64 (ov w.us u))
def C158:Prop:=JC (aH Z 158)
def J6:=∀(w:bP) (x:Want),(w.sm/\x.sm)->T [bP.D w,Want.D x] (.int .i64 (uZ w.us x))
def C415:Prop:=J6 (aH Z 415)
section
inductive Rea (w:bP)(c:Δ):Lab
 |root:0<=c[0]! ->Rea w c 0
 |step {i:Nat} {row:mT} {x:Want}:Rea w c i->row∈(aW w c i).needs->x∈row->iy w c x=true->Rea w c x.u.toNat
def wX (w:bP)(c:Δ)(is:Μ):=∀i:Nat,is[i]! =true->Rea w c i
def MW:∀(l:θ) (is:Μ),wX w c is->(∀x∈l,iy w c x=true->Rea w c x.u.toNat)->wX w c (u6 w c is l)
 |[],is,h,_=>h
 |x::r,is,h,hx=>by
  refine MW r _ (λi hi=>?_) λy hy=>hx y (.tail _ hy)
  have hi:(is.set x.u.toNat (is[x.u.toNat]! ||iy w c x))[i]! =true:=hi;by_cases e:x.u.toNat=i
  .by_cases hl:x.u.toNat<is.length
   .rw[List.getElem!_eq_getElem?_getD,<-e,List.getElem?_set_self hl]at hi;have hi:(is[x.u.toNat]! ||iy w c x)=true:=hi;rw[dk]at hi;rcases hi with h1|h1
    .rw[<-e];exact h _ h1
    .rw[<-e];exact hx x (.head _) h1
   .rw[List.set_eq_of_length_le ae]at hi;exact h i hi
  .rw[List.getElem!_eq_getElem?_getD,List.getElem?_set_ne e,<-List.getElem!_eq_getElem?_getD]at hi;exact h i hi
def MT:∀(l:Laf) (is:Μ),wX w c is->(∀row∈l,∀x∈row,iy w c x=true->Rea w c x.u.toNat)->wX w c (wz w c is l)
 |[],is,h,_=>h
 |q::r,is,h,hx=>MT r _ (MW q is h (hx q (.head _))) λrow hr=>hx row (.tail _ hr)
def MS:∀(n:Nat) (is:Μ),wX w c is->wX w c (iP w c n is)
 |0,is,h=>h
 |n+1,is,h=>by
  have ih:=MS n is h;show wX w c (BC w c n (iP w c n is));unfold BC;split
  .rename_i h1;exact MT _ _ ih λrow hr x hx hm=>.step (ih n h1) hr hx hm
  .exact ih
def MV:∀(n:Nat) (is:Μ),wX w c is->wX w c (j3 w c n is)
 |0,is,h=>h
 |n+1,is,h=>MS _ _ (MV n is h)
theorem P5 (h:dw w c=true){i:Nat}(hn:(dC w c)[i]! =true):Rea w c i:=by
 unfold dC at hn;rw[ah jt]at hn;refine MV _ _ (λj hj=>?_) i hn;unfold kM at hj;have hl:=DG h;by_cases e:0=j
 .subst e;rw[List.getElem!_eq_getElem?_getD,List.getElem?_set_self (by rw[List.length_replicate];omega)]at hj;exact .root (of_decide_eq_true hj)
 .rw[List.getElem!_eq_getElem?_getD,List.getElem?_set_ne e,List.getElem?_replicate]at hj;split at hj<;>cases hj
def D4 (hI:InW w)(h:dw w c=true){i:Nat}(hr:Rea w c i):i<c.length/\(dC w c)[i]! =true/\0<=c[i]! :=by
 have hl:=DG h;have hnl:=oG h;have hb:=h;unfold dw at hb;rw[aD]at hb;obtain⟨hlen,hfit⟩:=me hb.2;have hfix:Fix w c (dC w c):=by
  unfold dC;rw[ah jt];exact DJ (by simp[kM])
 induction hr with
 |root h0=>
  refine⟨ae, ?_,h0⟩;unfold dC;rw[ah jt];refine(xZ c.length (kM c)).2 0 (by simp[kM];omega) ?_;unfold kM;rw[List.getElem!_eq_getElem?_getD,List.getElem?_set_self (by rw[List.length_replicate];omega)];exact aY h0
 | @step i row x _ hrow hx hm ih=>
  obtain⟨h1,h2,h3⟩:=ih;have hmem:aW w c i∈w.us[i]!.ar:=aq (by have:=hfit i h1;omega);have hxu:=(hI _ (aq ae) _ hmem).1 row hrow x hx;have hstep:=zB hfix i h1;unfold BC at hstep;rw[ak h2]at hstep;have hxl:x.u.toNat<(dC w c).length:=ae;refine⟨ae,zC hstep row hrow x hx hxl hm, ?_⟩;simp only[iy,aD,aT]at hm;exact hm.1
theorem afT (h:dw w c=true){i:Nat}(hi:i<c.length)(h0:0<=(ir w c)[i]!):(dC w c)[i]! =true:=by
 grind [nO,dC]
theorem abp (hI:InW w)(h:dw w c=true){P:Lab}(h0:P 0)(hs:∀i,i<c.length->P i->0<=(ir w c)[i]! ->∀row∈(aW w (ir w c) i).needs,∀x∈row,0<=(ir w c)[x.u.toNat]! ->P x.u.toNat):
  ∀i,i<c.length->0<=(ir w c)[i]! ->P i:=by
 have key:∀i,Rea w c i->P i:=by
  intro i hr;induction hr with
  |root _=>exact h0
  | @step i row x hri hrow hx hm ih=>
   obtain⟨a1,a2,a3⟩:=D4 hI h hri;obtain⟨b1,b2,b3⟩:=D4 hI h (.step hri hrow hx hm);have e:(ir w c)[i]! =c[i]! :=by rw[nO h a1,ak a2]
   have e2:(ir w c)[x.u.toNat]! =c[x.u.toNat]! :=by rw[nO h b1,ak b2]
   refine hs i a1 ih (by rw[e];exact a3) row ?_ x hx (by rw[e2];exact b3)
   grind [aW]
 grind [P5,afT]
end
def O4 (r:Rec):Prop:=r.v∈bQ/\∀n∈r.needs,∀w∈n.any,∀f∈w.feats,f=fW
def Hz (l:Β):=∀s∈l,∀x∈s.es,O4 x.r
def adg (g:Gs)(own:aw):∀w∈(hZ g own).1,∀f∈w.feats,f=fW:=by
 unfold hZ;split
 .intro w hw;simp only[bH,cX,or_false]at hw;rcases hw with rfl|rfl<;>intro f hf<;>cases hf
 .split
  .intro w hw f hf;rw[aF.1 hw]at hf;exact aF.1 hf
  .intro w hw f hf;rw[aF.1 hw]at hf;cases hf
def Zs (own:aw)(g:Gs):∀i,∀n∈(nS own g i).1,∀w∈n.any,∀f∈w.feats,f=fW
 |0=>λ_ h=>by cases h
 |i+1=>λn h=>by
  rcases List.mem_append.1 h with h|h
  .exact Zs own g i n h
  .rw[aF.1 h];exact adg _ _
def IU (g:Gs)(nm:aw){v:b6}(hv:v∈bQ)(most:Int):O4 (pR g nm v most).1:=⟨hv,Zs nm g.aU _⟩
section
variable {P:Rec->Prop}
def abe {p:bz×Int}(h:∀s∈l,∀x∈s.es,P x.r)(hp:∀x∈p.1.es,P x.r):∀s∈ry l k p,∀x∈s.es,P x.r:=by
 unfold ry;split
 .intro s hs;rcases List.mem_or_eq_of_mem_set hs with h1|rfl
  .exact h s h1
  .exact hp
 .exact h
def amH {s:bz}{v:b6}{on:Bool}(h:∀x∈s.es,P x.r):∀x∈(oW s nm v on).1.es,P x.r:=by
 unfold oW;split
 .intro x hx;cases hx
 .split
  .intro x hx;cases hx
  .rename_i h2;obtain⟨j,hj,hjl⟩:=(Ck (l:=s.es) (nm:=nm) (v:=v)).resolve_left ae;rw[hj,Int.toNat_natCast];intro x hx;rcases List.mem_or_eq_of_mem_set hx with h1|rfl
   .exact h x h1
   .exact h s.es[j]! (aq hjl)
def put_P {s:bz}(h:∀x∈s.es,P x.r)(hr:P r):∀x∈(lg s r).1.es,P x.r:=by
 unfold lg;split
 .intro x hx;cases hx
 .split
  .intro x hx;cases hx
  .split
   .intro x hx;cases hx
   .split
    .intro x hx;cases hx
    .intro x hx;rcases List.mem_append.1 hx with h1|h1
     .exact h x h1
     .rw[aF.1 h1];exact hr
def agG (h:∀s∈l,∀x∈s.es,P x.r)(k:Nat):∀x∈l[k]!.es,P x.r:=wj (P:=λs:bz=>∀x∈s.es,P x.r) (λ_ h=>cb) h k
def ag2 {g:Gs}(h:∀s∈l,∀x∈s.es,P x.r)(hr:∀h nm v,v∈bQ->nm∈cI->P (pR h nm v 2).1):∀s∈(lD g l).1,∀x∈s.es,P x.r:=by
 have r4:=g.aU.e7 4 ae;have r5:=g.aU.aU.e7 4 ae;by_cases h1:g.aU.aU.aU.val 6=0
 .rw[show lD g l=(ry l (kG g l) (WC g l),g.aU.aU.aU.aU.aU)from ak h1];exact abe h (amH (agG h _))
 .rw[show lD g l=(ry l (kG g l) (WA g l),(rcG g).2)from ah h1];exact abe h (put_P (agG h _) (hr _ _ _ (aq (by simp only[bQ,bJ,cj];omega)) (DI ae)))
def pS_P {g:Gs}(hr:∀h nm v,v∈bQ->nm∈cI->P (pR h nm v 2).1):∀i,∀s∈(pS g i).1,∀x∈s.es,P x.r
 |0=>λs hs=>by
  simp only[pS,Ol,bH,cX,or_false]at hs;rcases hs with rfl|rfl<;>intro x hx<;>cases hx
 |i+1=>by rw[pS];exact ag2 (pS_P hr i) hr
end
def On (most:Int):Hz (G3 ks most):=pS_P (λh nm v hv _=>IU h nm hv 2) _
def C9 (h:Hz l):Xf l:=λs hs x hx=>(h s hs x hx).1
def abT:(qE ks).r.v=bQ[0]! :=by
 unfold qE;split
 .rfl
 .rfl
def abS:O4 (qE ks).r:=by
 unfold qE;split
 .exact IU _ HC aX 3
 .exact⟨aX,λn hn=>by cases hn⟩
def sN (h:qP y)(nm:aw):∀x∈dc y nm,x.r.name=nm/\(x.sh=-1\/∃j i:Nat,x.sh=(j:Int)/\j<y.shop.length/\i<y.shop[j]!.es.length/\x.r=y.shop[j]!.es[i]!.r/\gA y.shop[j]! =true):=by
 unfold dc;split
 .rename_i h0;intro x hx;rw[aF.1 hx];refine⟨?_,.inl rfl⟩;rcases ew (f:=isM nm) (l:=y.l) (k:=0)with⟨h1,_⟩|⟨j,h1,h2,h3,_⟩
  .have:k8 y.l nm=-1:=h1;omega
  .have e:k8 y.l nm=((0+j:Nat):Int):=h1;rw[e,Int.toNat_natCast,cG];simpa[isM]using h3
 .split
  .intro x hx;cases hx
  .rename_i h1;have h1:(cA y.shop y.pins nm).2.2=0:=Classical.not_not.1 h1;have h2:(dy y.shop y.pins nm).2=0:=by
    unfold cA at h1;split at h1
    .rename_i h3;exact absurd h1 h3
    .rename_i h3;exact Classical.not_not.1 h3
   obtain⟨hB,j,hj,hjl⟩:=ou h2;have e1:cA y.shop y.pins nm=((j:Int),jk y.shop[j]! nm,0):=by
    unfold cA;rw[ah (λh=>h h2),hj,Int.toNat_natCast]
   rw[e1];simp only[Int.toNat_natCast];have hs:=tZ hB hjl;have e2:jk y.shop[j]! nm=eG y.shop[j]!.es nm y.shop[j]!.es.length:=by unfold jk;rw[hs,ah aJ]
   intro x hx;obtain⟨⟨i,hi,e⟩,hsh⟩:=(oA (y:=y) (nm:=nm) (a:=j) _).2 x hx;have hr:=(qk y.shop[j]! nm).2 i hi;have hn:=(wx hs (h.v _ (aq hjl)) nm _ (aR _)).2 i (by rw[<-e2];exact hi);exact⟨by rw[e,hn],.inr ⟨j,i.toNat,hsh,hjl,ae,e,hs⟩⟩
def Yf {s:bz}(hs:gA s=true){i:Nat}(hi:i<s.es.length)(hv:s.es[i]!.r.v∈bQ):∃k:Nat,iA s s.es[i]!.r.name s.es[i]!.r.v=(k:Int)/\k<s.es.length:=by
 refine(tH (s:=s) (nm:=s.es[i]!.r.name) (v:=s.es[i]!.r.v)).resolve_left λh=>?_
 unfold iA at h;rw[hs,ah aJ]at h;have h2:qt s.es s.es[i]!.r.name s.es[i]!.r.v 0<0:=ae;rw[Qg]at h2;have h3:=h2 _ (aq hi);unfold BA at h3;rw[aY rfl,zE (sA _ hv).2]at h3;cases h3
def FeK (k:Key):Prop:=k.f=[]\/k.f=lE\/k.f=fW
def Ut (k:Key):Prop:=di k.n=true/\FeK k
structure nD (y:cu):Prop where
 p:qP y
 g:Hz y.shop
 gm:∀m∈y.l,O4 m.r
def Zc (h:nD y)(nm:aw):∀x∈dc y nm,O4 x.r:=by
 intro x hx;rcases(sN h.p nm x hx).2 with hs|⟨j,i,_,hj,hi,e,_⟩
 ·
  unfold dc at hx;split at hx
  .rename_i h0;rw[aF.1 hx];obtain⟨j,hj,hjl⟩:=(rl y.l nm).resolve_left ae;rw[hj,Int.toNat_natCast];exact h.gm _ (aq hjl)
  .split at hx
   .cases hx
   .have h5:=(oA (y:=y) (nm:=nm) (a:=(cA y.shop y.pins nm).1.toNat) _).2 x hx;rw[h5.2]at hs;exact absurd hs ae
 .rw[e];exact h.g _ (aq hj) _ (aq hi)
def Bp (P:Key->Prop)(l:ο):=∀row∈l,∀a∈row,P a.k
def N9 {a b:ο}(h1:Bp P a)(h2:Bp P b):Bp P (a++b):=λr hr=>(List.mem_append.1 hr).elim (h1 r) (h2 r)
def Ev:Bp P []:=λr hr=>by cases hr
def tX {α:Type}{f:α->ο}{l:List α}(h:∀x∈l,Bp P (f x)):Bp P (l.flatMap f):=λr hr=>by
 obtain⟨x,hx,hr⟩:=List.mem_flatMap.1 hr;exact h x hx r hr
def Oa {k:Key}{s:cy}(h:P k):Bp P [[⟨k,s⟩]]:=λr hr b hb=>by
 rw[aF.1 hr]at hb;rw[aF.1 hb];exact h
def OE {w:cP}(hn:di w.name=true)(hf:∀f∈w.feats,f=fW):∀k∈fw w,Ut k:=by
 intro k hk;refine⟨by rw[EX w k hk];exact hn, ?_⟩;unfold fw at hk;rcases List.mem_append.1 hk with h|h
 .split at h
  .split at h
   .rw[aF.1 h];exact .inl rfl
   .cases h
  .rw[aF.1 h];exact .inr (.inl rfl)
 .obtain⟨f,hf2,rfl⟩:=bI.1 h;exact .inr (.inr (hf f hf2))
def TB {n:bn}(hN:xb n)(hn:∀w∈n.any,di w.name=true)(hf:∀w∈n.any,∀f∈w.feats,f=fW):Bp Ut (iQ n):=by
 unfold iQ;split
 .intro r hr a ha;obtain⟨k,hk,rfl⟩:=bI.1 hr;rw[aF.1 ha];have h0:=aq hN.1.1;exact OE (hn _ h0) (hf _ h0) k hk
 .intro r hr a ha;rw[aF.1 hr]at ha;obtain⟨w,hw,rfl⟩:=bI.1 ha;exact OE (hn w hw) (hf w hw) _ (aq (oT w).1)
def akE {s:aw}(h:rS s):(bN s).1=2\/((bN s).1=3/\(bN s).2.2=fW):=by
 have:∀s∈Vc,(bN s).1=2\/((bN s).1=3/\(bN s).2.2=fW):=by decide+kernel
 exact this s h
def ZT (h:CA r)(hg:O4 r)(e:Env)(o:aw):Bp Ut (rj r.needs e o):=tX λn hn=>by
 unfold BI;split
 .exact TB ((gH h).2 n hn) (qw h n hn) (hg.2 n hn)
 .exact Ev
def Zy (h:CA r)(hg:O4 r)(e:Env)(ft:aw):Bp Ut (cL r e ft):=by
 unfold cL;split
 .exact ZT h hg e []
 .refine N9 (Oa ⟨h.1.1.1,.inl rfl⟩) (tX λs hs=>?_);have hi:=akE ((x8 h ft).2 s hs);unfold mD;rw[ah (by rcases hi with h|h<;>omega)];split
  .exact ZT h hg e _
  .rename_i h2;obtain⟨_,h3⟩:=hi.resolve_left h2;refine tX λn hn=>?_
   unfold rT;split
   .rename_i hc;have hN:=(gH h).2 n hn;refine N9 ?_ (Oa ⟨?_,.inr (.inr h3)⟩)
    .split
     .exact Ev
     .exact TB hN (qw h n hn) (hg.2 n hn)
    .show di (bN s).2.1=true;rw[<-hc.1.2];exact qw h n hn _ (aq hN.1.1)
   .exact Ev
def afz (hy:nD y)(k:Key):Bp Ut (cJ y k):=by
 unfold cJ;split
 .obtain⟨⟨⟨m,hm,hM⟩,_⟩,_⟩:=hy.p.p;intro r hr a ha;rw[hm]at hr;rw[aF.1 hr]at ha;rw[aF.1 ha];exact⟨(Cd hM).1.1.1,.inr (.inl rfl)⟩
 .exact tX λx hx=>Zy ((x9 hy.p.p k).2 x hx).1 (Zc hy k.n x (List.mem_filter.1 hx).1) y.e k.f
def IS {y:cu}(hy:nD y):∀(n:Nat){s:pI}{all:Α},(∀k∈s.all,k=eV\/Ut k)->BM y n s=some all->∀k∈all,k=eV\/Ut k
 |0,s,all,_,h=>by cases h
 |n+1,s,all,hI,h=>by
  rw[BM]at h;split at h
  .obtain rfl:=aZ h;exact hI
  .split at h
   .cases h
   .refine IS hy n (λk hk=>?_) h;have hm:∀(row:fS) (s:pI),(∀a∈row,Ut a.k)->(∀k∈s.all,k=eV\/Ut k)->∀k∈(row.foldl mI s).all,k=eV\/Ut k:=by
     intro row;induction row with
     |nil=>intro s _ h;exact h
     |cons b r ih=>
      intro s hn h;refine ih _ (λa ha=>hn a (.tail _ ha)) λk hk=>?_
      rcases((IQ s b).1 k).1 hk with h1|rfl
      .exact h k h1
      .exact .inr (hn b (.head _))
    have hm2:∀(l:ο) (s:pI),Bp Ut l->(∀k∈s.all,k=eV\/Ut k)->∀k∈(Qo s l).all,k=eV\/Ut k:=by
     intro l;induction l with
     |nil=>intro s _ h;exact h
     |cons b r ih=>
      intro s hn h;exact ih _ (λrow hr=>hn row (.tail _ hr)) (hm b s (hn b (.head _)) h)
    exact hm2 (cJ y s.todo[0]!) ⟨s.all,s.todo.drop 1⟩ (afz hy _) hI k hk
def GrwS (a b:bz):Prop:=b.name=a.name/\a.es.length<=b.es.length/\∀i,i<a.es.length->b.es[i]!.r=a.es[i]!.r/\b.es[i]!.sum=a.es[i]!.sum
def W2 (a b:Β):Prop:=b.length=a.length/\∀j,j<a.length->GrwS a[j]! b[j]!
theorem SG {es:ω}{l:Δ}{i:Nat}{x:Int}(h:x∈l\/x=(i:Int)):x∈Dn es l i:=by
 unfold Dn;rcases h with h|rfl
 .rw[<-List.take_append_drop (zm es l i 0) l,List.mem_append]at h
  grind
 grind
theorem MH {es:ω}{nm:aw}{i:Nat}(h:es[i]!.r.name=nm):∀{n:Nat},i<n->(i:Int)∈eG es nm n
 |0,hi=>absurd hi (Nat.not_lt_zero i)
 |n+1,hi=>by
  rw[eG];rcases dX i n with h1|h1
  .have:=MH h h1
   grind [SG]
  grind [SG]
theorem MI {y:cu}{nm:aw}{a:Nat}{i:Int}(ht:EO y nm y.shop[a]!.es[i.toNat]! =true):∀{l:Δ},i∈l->(⟨y.shop[a]!.es[i.toNat]!.r,(a:Int)⟩:qM)∈gZ y nm a l
 |[],h=>by cases h
 |k::r,h=>by
  rw[gZ];rcases bH.1 h with rfl|h
  .grind
  .exact List.mem_append.2 (.inr (MI ht h))
theorem MJ {y:cu}{nm:aw}{a:Nat}{x:qM}:∀{l:Δ},x∈gZ y nm a l->∃i∈l,EO y nm y.shop[a]!.es[i.toNat]! =true/\x=⟨y.shop[a]!.es[i.toNat]!.r,(a:Int)⟩
 |[],h=>by cases h
 |k::r,h=>by
  rw[gZ]at h;rcases List.mem_append.1 h with h|h
  .grind
  .obtain⟨i,hi,h2⟩:=MJ h;exact⟨i,.tail _ hi,h2⟩
theorem MG {pins:π}(h:dy shop pins nm=((j:Int),0)):cA shop pins nm=((j:Int),jk shop[j]! nm,0):=by
 grind [cA]
def Zd {z:cu}(hl:z.l=y.l)(hp:z.pins=y.pins)(hg:W2 y.shop z.shop)(hz:ea z.shop=true){x:qM}(hx:x∈dc y nm)(hk:x.sh=-1\/AE z.keeps x.r=true/\dy z.shop y.pins nm=dy y.shop y.pins nm):x∈dc z nm:=by
 unfold dc at hx⊢;rw[hl,hp];by_cases h0:0<=k8 y.l nm
 .rw[ak h0]at hx⊢;exact hx
 rw[ah h0]at hx⊢;by_cases h1:(cA y.shop y.pins nm).2.2≠0
 .rw[ak h1]at hx;cases hx
 rw[ah h1]at hx;have h2:(dy y.shop y.pins nm).2=0:=by
  have h1:=Classical.not_not.1 h1;unfold cA at h1;split at h1
  .rename_i h3;exact absurd h1 h3
  .rename_i h3;exact Classical.not_not.1 h3
 obtain⟨hB,j,hj,hjl⟩:=ou h2;have e0:dy y.shop y.pins nm=((j:Int),0):=Prod.ext hj h2;rw[MG e0]at hx;simp only[Int.toNat_natCast]at hx;obtain⟨i,hi,ht,rfl⟩:=MJ hx;obtain⟨hkp,hfr⟩:=hk.resolve_left (by show ¬((j:Int)=-1);omega);rw[e0]at hfr;rw[MG hfr,ah aJ];simp only[Int.toNat_natCast];obtain⟨hgl,hgs⟩:=hg;obtain⟨hgn,hgle,hge⟩:=hgs j hjl;have hsz:=tZ hz (show j<z.shop.length by omega);obtain⟨hi0,hil⟩:=(qk y.shop[j]! nm).2 i hi;obtain⟨n,rfl⟩:∃n:Nat,i=(n:Int):=⟨i.toNat,ae⟩
 rw[Int.toNat_natCast]at*
 have hnl:n<y.shop[j]!.es.length:=ae;obtain⟨hr,_⟩:=hge n hnl;have hnm:y.shop[j]!.es[n]!.r.name=nm:=by
  have hsy:=tZ hB hjl;unfold jk at hi;rw[ah (by rw[hsy];simp)]at hi;clear hx ht hkp hr;generalize y.shop[j]!.es.length=m at hi;induction m with
  |zero=>cases hi
  |succ m ih=>
   rw[eG]at hi;split at hi
   .rename_i hm;rcases Dp hi with h|h
    .exact ih h
    .obtain rfl:n=m:=ae;exact hm
   .exact ih hi
 rw[<-hr];refine MI (i:=(n:Int)) (by
  rw[Int.toNat_natCast];unfold EO at ht⊢;rw[hr,hl,hkp,Bool.or_true,eh];rw[aD]at ht;exact ht.2) (by
  unfold jk;rw[ah (by rw[hsz];simp)];exact MH (by rw[hr];exact hnm) ae)
def Tl {r i:Nat}(h:0<r)(hn:n<1000000):Nj us r i n=Nj us (r-1) (i+1) (if us[i]!.feat=[]then n*(us[i]!.ar.length+1)else n):=by
 obtain⟨q,rfl⟩:∃q,r=q+1:=⟨r-1,ae⟩
 rw[Nj,ak hn];rfl
def Z6 {r i:Nat}(h:r=0\/¬n<1000000):Nj us r i n=n:=by
 cases r with
 |zero=>rfl
 |succ r=>rw[Nj,ah ae]
def aff {i:Nat}(h:us[i]!.ar.length<=16)(hn:wB us i<1000000):wB us (i+1)<=20000000:=by
 rw[wB];split
 .exact fC (Nat.mul_le_mul (show wB us i<=1000000 by omega) (show us[i]!.ar.length+1<=17 by omega)) aX
 .omega
def alG {i:Nat}(h:us[i]!.feat=[]):((wB us i:Nat):Int)*(((us[i]!.ar.length:Nat):Int)+1)=((wB us (i+1):Nat):Int):=by rw[wB,ak h];push_cast;rfl
def alF {i:Nat}(h:¬us[i]!.feat=[]):wB us i=wB us (i+1):=by rw[wB,ah h]
def qq (us:Η)(l:Δ)(u:Nat):Ο:=(List.range u).map (FP us l)
def VB (us:Η)(l:Δ)(u:Nat):(qq us l u).length=u:=by simp[qq]
def ae9 (us:Η)(l:Δ)(u:Nat):qq us l u++[FP us l u]=qq us l (u+1):=by simp[qq,List.range_succ]
def ord_z {l:Δ}(h:l.length=0):iq us l=[]:=ak h
def ord_e {l:Δ}(h:¬l.length=0):iq us l=qq us l us.length:=ah h
def Yx {o:Δ}{p:Int}(h:j<o.length):(pd (λk=>decide (o[k]! =p)) 0 j ||decide (o[j]! =p))=pd (λk=>decide (o[k]! =p)) 0 (j+1):=by
 rw[Bool.eq_iff_iff,dk,xe,xe];constructor
 .rintro(⟨i,h1,h2,h3⟩|h1)
  .exact⟨i,h1,ae,h3⟩
  .exact⟨j,ae,ae,h1⟩
 .rintro⟨i,h1,h2,h3⟩;rcases dX i j with h4|h4
  .exact .inl ⟨i,h1,h4,h3⟩
  .obtain rfl:i=j:=ae;exact .inr h3
def M9 {n:Nat}{k:Int}:∀i,(kN n k i).length<=i
 |0=>aR _
 |i+1=>by
  have:=M9 (n:=n) (k:=k) i;rw[kN];split
  .omega
  .rw[cx,List.length_singleton];omega
def alu {i:Nat}{k:Int}(h:U4 (kN n k i) (FQ n k i)=false):kN n k i++[FQ n k i]=kN n k (i+1):=by rw[kN,ah jt]
def als {i:Nat}{k:Int}(h:U4 (kN n k i) (FQ n k i)=true):kN n k i=kN n k (i+1):=by rw[kN,ak h]
def aa5 {a b:Int}(ha:0<=a):a.tmod b=a%b:=Int.tmod_eq_emod_of_nonneg ha
def alx {i:Nat}{k:Int}(hi:i<=16):0<=(i:Int)*(1+k%3)/\(i:Int)*(1+k%3)<=48:=by
 have h1:=Int.emod_nonneg k (show(3:Int)≠0 by decide);have h2:=Int.emod_lt_of_pos k (show(0:Int)<3 by decide);exact⟨Int.mul_nonneg ae ae,Int.le_trans (Int.mul_le_mul (show(i:Int)<=16 by omega) (show 1+k%3<=3 by omega) ae ae) aX⟩
def aeh (l k:Nat)(es:Θ)(o:Ο):pf l k es (o.map jW)=o.map jW:=ki l k es _ (cg (λ_=>rfl) _)
def Sx (l k:Nat)(es:Θ)(w:bP):jj l k es (bP.D w)=bP.D w:=rfl
def Oz (o:Δ)(n:Nat):∀i,(cK o n i).length<=o.length+i
 |0=>aR _
 |i+1=>by
  have:=Oz o n i;rw[cK];split
  .omega
  .rw[cx,List.length_singleton];omega
def amv {o:Δ}{t:Nat}(h:U4 (cK o n t) ((n:Int) -1-(t:Int))=false):cK o n t++[((n:Nat):Int) -1-((t:Nat):Int)]=cK o n (t+1):=by rw[cK,ah jt]
def amu {o:Δ}{t:Nat}(h:U4 (cK o n t) ((n:Int) -1-(t:Int))=true):cK o n t=cK o n (t+1):=by rw[cK,ak h]
def alw {u:Int}(h:u<(od.length:Int)):cU od u=od[u.toNat]! :=ak h
def alv {u:Int}(h:¬u<(od.length:Int)):cU od u=[]:=ah h
def wA {m:kB}{b:Bool}(hm:xa m)(hO:y3 m od)(hc:LB m c)(h:nlB (Qa (mM m od c)) b):(b=true->mM m od c=none)/\(b=false->∃d,mM m od c=some d):=by
 cases e:mM m od c with
 |none=>rw[e]at h;exact⟨λ_=>rfl,λhb=>by rw[hb]at h;cases h⟩
 |some d=>
  have h2:=(kJ hm hO _ _ hc e).2.1;have h3:=hm.1.1;refine⟨λhb=>?_,λ_=>⟨d,rfl⟩⟩;rw[e]at h;have h4:d.map (D.int .i64)=[]:=h hb;have h5:=ay List.length h4;simp only[bj,cj]at h5;omega
def Zo {x:Want}(hs:∀x∈w.us,x.ar.length<=16)(hc:ChP w.us c)(h0:0<=x.u)(h1:x.u<(w.us.length:Int)):Ur w.us (AD c) x↔iy w c x=true:=by
 obtain⟨u,hu⟩:∃u:Nat,x.u=((u:Nat):Int):=⟨x.u.toNat,ae⟩
 have hul:u<w.us.length:=ae;have hcu:=hc.2 u hul;unfold Ur iy AD;rw[Xu hu hul hs,hu,Int.toNat_natCast];simp only[aD,aT];constructor
 .rintro⟨⟨h2,h3⟩,h4⟩;have e:(c[u]! +1).toNat-1=c[u]!.toNat:=ae;rw[e]at h4;exact⟨ae,h4⟩
 .rintro⟨h2,h3⟩;have e:(c[u]! +1).toNat-1=c[u]!.toNat:=ae;rw[e];exact⟨⟨ae,ae⟩,h3⟩
def O5 (hw:eK w=true):InW w:=by
 intro u hu c hc;obtain⟨i,hi,rfl⟩:=ff hu;obtain⟨k,hk,rfl⟩:=ff hc;exact E5 hw hi hk
def wc (hw:eK w=true)(hs:∀x∈w.us,x.ar.length<=16)(hc:ChP w.us c)(h:CZ (dG w.us) c=true):(dw w c=true/\iX w c=[])/\0<=c[0]! :=by
 have hS:=amn hw hs hc h;have hI:=O5 hw;have hm:dw w c=true:=by
  unfold dw sF;rw[hw,eh,aD,aT,bw];refine⟨hc.1,λj _ hj=>?_⟩;have:=hc.2 j (by rw[<-hc.1];exact hj);unfold zj;rw[aD,aT,aT];exact this
 refine⟨⟨hm,(uc hm).2 λu hu h0=>?_⟩, ?_⟩
 .have hul:u<w.us.length:=by rw[<-hc.1];exact hu
  have hcu:=hc.2 u hul;have hk:AD c u≠0:=by unfold AD;omega
  have e:AD c u-1=c[u]!.toNat:=by unfold AD;omega
  obtain⟨_,_,_,g1,g2,_⟩:=hS;have g1:=g1 u hul hk;have g2:=g2 u hul hk;rw[e]at g1 g2;have hmem:aW w c u∈w.us[u]!.ar:=aq ae;obtain⟨hI1,hI2⟩:=hI _ (aq hul) _ hmem;refine⟨λk hk=>?_,λk hk=>?_⟩
  .obtain⟨x,hx,hmx⟩:=g1 _ (aq hk);have:=hI1 _ (aq hk) x hx;exact List.any_eq_true.2 ⟨x,hx,(Zo hs hc this.1 this.2).1 hmx⟩
  .have hx:=aq hk;have:=hI2 _ hx;cases hq:iy w c (aW w c u).bars[k]! with
   |false=>rfl
   |true=>exact absurd ((Zo hs hc this.1 this.2).2 hq) (g2 _ hx)
 .unfold CZ at h;rw[aD,aT]at h;exact h.1
section
variable {m:gI}{e:Env}{os:Δ}
abbrev dt (m:gI)(shop:Β)(e:Env):bP×Int:=dK [m] shop e []
abbrev ve (m:gI)(shop:Β)(e:Env):cu:=tq [m] shop e []
def tf (h:¬(dt m shop e).2=0\/5000<wC (dt m shop e).1.us):cM m shop e os=((dt m shop e).1,[],false):=ak h
def tg (h:(dt m shop e).2=0/\¬5000<wC (dt m shop e).1.us)(hn:jA (dt m shop e).1.us (iq (dt m shop e).1.us os)=none):cM m shop e os=((dt m shop e).1,[],false):=by
 unfold cM;rw[ah (by rintro(h1|h1);exact h1 h.1;exact h.2 h1),hn]
def th (h:(dt m shop e).2=0/\¬5000<wC (dt m shop e).1.us)(hn:jA (dt m shop e).1.us (iq (dt m shop e).1.us os)=some c):cM m shop e os=((dt m shop e).1,ir (dt m shop e).1 c,true):=by
 unfold cM;rw[ah (by rintro(h1|h1);exact h1 h.1;exact h.2 h1),hn]
def oc (hy:qP (ve m shop e))(h:(dt m shop e).2=0):LF (dt m shop e).1/\eK (dt m shop e).1=true:=by
 unfold dt dK at*
 split at h
 .cases h
 .split at h
  .cases h
  .split at h
   .cases h
   .rename_i h3;have h4:(az (ve m shop e)).2=true:=by simpa using h3
    rw[ah ml,ah ml,ah h3];obtain⟨_,_,_,_,h5⟩:=mO hy.p h4;exact⟨h5,E6 hy h4⟩
def UQ (hy:qP (ve m shop e))(h:(dt m shop e).2=0)(os:Δ):((((dt m shop e).1.sm/\(dt m shop e).1.us.length<=1000)/\Few (dt m shop e).1.us)/\eK (dt m shop e).1=true)/\y3 (dG (dt m shop e).1.us) (iq (dt m shop e).1.us os):=by
 obtain⟨h1,h2⟩:=oc hy h;have:=h1.len;exact⟨⟨⟨⟨h1.sm,ae⟩,h1.few⟩,h2⟩,nY os⟩
def UP (hy:qP (ve m shop e))(h:(dt m shop e).2=0)(hn:jA (dt m shop e).1.us (iq (dt m shop e).1.us os)=some c):c.length<=1000:=by
 obtain⟨h1,h2⟩:=oc hy h;have h3:=(kJ h1.msk (nY os) _ _ (qp _) hn).2.1;have h4:=h1.msk.1;omega
def Mc (hy:qP (ve m shop e))(h:(dt m shop e).2=0){b:Bool}(hb:nlB (Qa (jA (dt m shop e).1.us (iq (dt m shop e).1.us os))) b):(b=true->jA (dt m shop e).1.us (iq (dt m shop e).1.us os)=none)/\(b=false->∃d,jA (dt m shop e).1.us (iq (dt m shop e).1.us os)=some d):=
 wA (oc hy h).1.msk (nY os) (qp _) hb
end
section
variable {e:Env}{u:Nat}{x:eI}
def OfP (shop:Β)(w:bP)(c:Δ):Prop:=fq shop/\w.sm/\0<=c[0]!
def of_a (h:((eK w=false\/ea shop=false)\/mw e=false)\/dw w c=false):BE shop e w c=(Ib,1):=ak h
def of_b (h:((eK w=true/\ea shop=true)/\mw e=true)/\dw w c=true)(h2:dw w c=false\/¬(iX w c).length=0):BE shop e w c=(Ib,37):=by
 unfold BE;rw[ah gy,ak (h2.resolve_left (by simp[h.2]))]
def of_x (h:((eK w=true/\ea shop=true)/\mw e=true)/\dw w c=true)(h2:dw w c=true/\(iX w c).length=0):BE shop e w c=if ¬(dQ shop w c).2=0 then(Ib,(dQ shop w c).2)else(⟨e,(dQ shop w c).1⟩,0):=by
 unfold BE;rw[ah gy,ah (λh3=>h3 h2.2)]
def of_c (h:((eK w=true/\ea shop=true)/\mw e=true)/\dw w c=true)(h2:dw w c=true/\(iX w c).length=0)(h0:(dA shop w.us c u).2=0)(hs:fu w.us c u=false)(hu:u<w.us.length)(k:Int)(hk:¬k=0)(hl:(dq shop w.us c u (ec w.us c u)).2=k):BE shop e w c=(Ib,k):=by
 have h3:=Vj h0 hs rfl (by rw[hl];exact hk);rw[hl]at h3;have h4:dQ shop w c=([],k):=(Gx (i:=u+1) (by rw[h3];exact hk) ae).trans h3;rw[of_x h h2,h4,ak hk]
def of_d (h:((eK w=true/\ea shop=true)/\mw e=true)/\dw w c=true)(h2:dw w c=true/\(iX w c).length=0)(h0:(dQ shop w c).2=0):BE shop e w c=(⟨e,(dQ shop w c).1⟩,0):=by
 rw[of_x h h2,ah (λh=>h h0)]
def akM (h:x.sh=-1):dq shop w.us c u x=(⟨w.us[u]!.name,x.v,[],0,kC w.us c u⟩,0):=ak h
def akN (h:¬x.sh=-1)(h2:x.sh<0\/(shop.length:Int)<=x.sh):(dq shop w.us c u x).2=12:=by unfold dq;rw[ah h,ak h2]
def akO (h:¬x.sh=-1)(h2:¬x.sh<0/\¬(shop.length:Int)<=x.sh)(h3:(pe shop[x.sh.toNat]! w.us[u]!.name x.v).2=false):(dq shop w.us c u x).2=9:=by
 unfold dq pe at*
 rw[ah h,ah ae];split at h3
 .rename_i h4;rw[ak h4]
 .cases h3
def akP (h:¬x.sh=-1)(h2:¬x.sh<0/\¬(shop.length:Int)<=x.sh)(h3:(pe shop[x.sh.toNat]! w.us[u]!.name x.v).2=true):dq shop w.us c u x=(⟨w.us[u]!.name,x.v,shop[x.sh.toNat]!.name,(pe shop[x.sh.toNat]! w.us[u]!.name x.v).1.sum,kC w.us c u⟩,0):=by
 unfold dq pe at*
 rw[ah h,ah ae];split at h3
 .cases h3
 .rename_i h4;rw[ah h4,ah h4]
end
def SQ (shop:Β)(us:Η)(c:Δ):dA shop us c 1=([],0):=by
 rw[dA];show(if((([],0):Laa×Int).2≠0)then _ else _)=_;rw[ah (λh=>h rfl),ak (by unfold fu;simp)];rfl
def akR (l k:Nat)(es:Θ)(x:dI):jj l k es (dI.D x)=dI.D x:=rfl
def aei (l k:Nat)(es:Θ)(o:Laa):pf l k es (o.map dI.D)=o.map dI.D:=ki l k es _ (cg (λ_=>rfl) _)
def Cz (c:Δ)(is:Μ):Prop:=is.length=c.length/\∀j:Nat,is[j]! =true->0<=c[j]!
def TG (is:Μ)(i j:Nat)(b:Bool)(h:(is.set i b)[j]! =true):(i=j/\b=true)\/is[j]! =true:=by
 by_cases e:i=j
 .subst e;rcases dX i is.length with h1|h1
  .rw[List.getElem!_eq_getElem?_getD,List.getElem?_set_self h1]at h;exact .inl ⟨rfl,rJ⟩
  .rw[List.set_eq_of_length_le h1]at h;exact .inr h
 .rw[List.getElem!_eq_getElem?_getD,List.getElem?_set_ne e,<-List.getElem!_eq_getElem?_getD]at h;exact .inr h
section
variable {is:Μ}
def Zw (w:bP)(c:Δ)(is:Μ)(x:Want):Μ:=is.set x.u.toNat (is[x.u.toNat]! ||iy w c x)
def aeX (x:Want)(h:Cz c is):Cz c (Zw w c is x):=by
 refine⟨by unfold Zw;rw[List.length_set];exact h.1,λj hj=>?_⟩;rcases TG _ _ _ _ hj with⟨rfl,h1⟩|h1
 .rcases Bool.or_eq_true_iff.1 h1 with h2|h2
  .exact h.2 _ h2
  .unfold iy at h2;simp only[aD,aT]at h2;exact h2.1
 .exact h.2 _ h1
def Ir:∀(l:θ){is:Μ},Cz c is->Cz c (u6 w c is l)
 |[],_,h=>h
 |x::r,_,h=>Ir r (aeX x h)
def Iq:∀(l:Laf){is:Μ},Cz c is->Cz c (wz w c is l)
 |[],_,h=>h
 |x::r,_,h=>Iq r (Ir x h)
def Ce:∀(n:Nat){is:Μ},Cz c is->Cz c (iP w c n is)
 |0,_,h=>h
 |n+1,_,h=>by
  rw[iP];unfold BC;split
  .exact Iq _ (Ce n h)
  .exact Ce n h
def S0:∀(n:Nat){is:Μ},Cz c is->Cz c (j3 w c n is)
 |0,_,h=>h
 |n+1,_,h=>Ce _ (S0 n h)
def aeV:Cz c (kM c):=by
 refine⟨by simp[kM],λj hj=>?_⟩;rcases TG _ _ _ _ hj with⟨rfl,h1⟩|h1
 .simpa using h1
 .exfalso;rcases dX j c.length with h2|h2<;>simp[List.getElem!_eq_getElem?_getD,h2]at h1
def ak4 {l:θ}{q:Nat}(h:q<l.length):u6 w c is (l.take (q+1))=Zw w c (u6 w c is (l.take q)) l[q]! :=by
 rw[List.take_add_one,List.getElem?_eq_getElem h,getElem!_pos l q h];simp only[u6,Option.toList_some,List.foldl_append,List.foldl_cons,List.foldl_nil,Zw]
def ak3 {l:Laf}(h:k<l.length):wz w c is (l.take (k+1))=u6 w c (wz w c is (l.take k)) l[k]! :=by
 rw[List.take_add_one,List.getElem?_eq_getElem h,getElem!_pos l k h];simp only[wz,Option.toList_some,List.foldl_append,List.foldl_cons,List.foldl_nil]
def ak2 (h:(iP w c j is)[j]! =true):iP w c (j+1) is=wz w c (iP w c j is) (aW w c j).needs:=by rw[iP];unfold BC;rw[ak h]
def ak1 (h:¬(iP w c j is)[j]! =true):iP w c (j+1) is=iP w c j is:=by rw[iP];unfold BC;rw[ah h]
def agT {i:Nat}(h:i<is.length)(b:Bool):(is.map D.bool).set i (tj ((is.map D.bool).getD i .any) 1 1 0 (.bool b))=(is.set i b).map D.bool:=by
 rw[List.getD_eq_getElem?_getD,List.getElem?_map,List.getElem?_eq_getElem h,List.map_set];rfl
def aeW (h:0<c.length):(List.replicate c.length (D.bool false)).set 0 (tj ((List.replicate c.length (D.bool false)).getD 0 .any) 1 1 0 (.bool (decide (0<=c[0]!))))=(kM c).map D.bool:=by
 have:=agT (is:=List.replicate c.length false) (i:=0) rJ (decide (0<=c[0]!));rw[List.map_replicate]at this;exact this
def ak5 (h:dw w c=false):dC w c=[]:=ak h
def S2 (h:dw w c=true):dC w c=j3 w c c.length (kM c):=ah gy
end
def DF (h:dw w c=true):c.length=w.us.length/\(1<=c.length/\c.length<=48)/\∀i,i<c.length->-1<=c[i]! /\c[i]! <(w.us[i]!.ar.length:Int):=by
 have h2:=h;simp only[dw,aD]at h2;obtain⟨h3,h4⟩:=me h2.2;exact⟨h3,DG h,h4⟩
def ajZ (n:Int):kS (zh n):=by
 have h:=jG n 3 aX;unfold kS zh;obtain⟨i,hi⟩:∃i:Nat,(jl n 3).toNat=i:=⟨_,rfl⟩
 rw[hi];have:i=0\/i=1\/i=2:=ae;rcases this with rfl|rfl|rfl<;>decide
def af2 (ks ss:Δ)(most n:Int):nD (ve (qE ks) (G3 ss most) (zh n)):=by
 have hg:=On ss most;have hy:=abR ks;refine⟨⟨⟨⟨hy,Om _ _⟩,aJ,(λk hk=>by cases hk), ?_⟩,C9 hg,λm hm=>?_⟩,hg,λm hm=>?_⟩
 .have:=(ue hy (i:=0) aJ).2.2.1;have h2:(fm [qE ks]).length<=1:=this;show(fm [qE ks]).length<=1000;omega
 .rw[aF.1 hm,abT];decide
 .rw[aF.1 hm];exact abS ks
def W6 (l:Β):=∀s∈l,s.name.length<=16
def abg {s:bz}(h:W6 l)(hs:s.name.length<=16):W6 (l.set k s):=λx hx=>by
 rcases List.mem_or_eq_of_mem_set hx with h1|rfl
 .exact h x h1
 .exact hs
def Pz (h:W6 l)(k:Nat):l[k]!.name.length<=16:=wj (P:=λs:bz=>s.name.length<=16) aX h k
def alM {g:Gs}(h:W6 l):W6 (lD g l).1:=by
 by_cases h1:g.aU.aU.aU.val 6=0
 .by_cases h2:(WC g l).2=0
  .rw[aaa h1 h2];refine abg h ?_;have:=Pz h (kG g l);unfold WC oW;split
   .exact Nat.zero_le _
   .split
    .exact Nat.zero_le _
    .exact this
  .rw[aab h1 h2];exact h
 .by_cases h2:(WA g l).2=0
  .rw[aac h1 h2];refine abg h ?_;have:=Pz h (kG g l);unfold WA lg;split
   .exact Nat.zero_le _
   .split
    .exact Nat.zero_le _
    .split
     .exact Nat.zero_le _
     .split
      .exact Nat.zero_le _
      .exact this
  .rw[aad h1 h2];exact h
def ag0 (g:Gs):∀i,W6 (pS g i).1
 |0=>by
  intro s hs;simp only[pS,Ol,bH,cX,or_false]at hs;rcases hs with rfl|rfl<;>decide
 |i+1=>alM (ag0 g i)
def afM (ss:Δ)(most:Int):W6 (G3 ss most):=ag0 _ _
def NmU (w:bP):=∀u∈w.us,u.name.length<=16/\u.feat.length<=16
def aeT {s:aw}(h:di s=true):s.length<=16:=by
 unfold di at h;simp only[aD,aT]at h;exact h.1.1.1.2
def Xv (hy:nD y)(h:(az y).2=true):NmU (az y).1:=by
 obtain⟨all,h1,h2,_,_⟩:=mO hy.p.p h;have hk:=IS hy 49 (s:=nM) (all:=all) (λk hk=>.inl (by simpa[nM]using hk)) h1;intro u hu;rw[h2]at hu;obtain⟨k,hk1,rfl⟩:=bI.1 hu;show k.n.length<=16/\k.f.length<=16;rcases hk k hk1 with rfl|⟨h3,h4⟩
 .decide
 .refine⟨aeT h3, ?_⟩;rcases h4 with h4|h4|h4<;>rw[h4]<;>decide
structure Uq (n:Nat)(x:dI):Prop where
 v:x.v.sm
 name:x.name.length<=16
 shelf:x.shelf.length<=16
 nf:x.feats.length<=n
 ft:∀t∈x.feats,t.length<=16
structure Up (n:Nat)(l:j8):Prop where
 len:l.lines.length<=48
 lines:∀x∈l.lines,Uq n x
 env:∀i,(l.env.at i).length<=16
theorem Up.sm {l:j8}(h:Up n l)(hn:n<=1000):l.sm:=by
 refine⟨by have:=h.len;omega,λx hx=>?_,λi=>by have:=h.env i;omega⟩;have k:=h.lines x hx;have k3:=k.name;have k4:=k.shelf;have k5:=k.nf;exact⟨k.v,ae,ae,ae,λt ht=>by have:=k.ft t ht;omega⟩
def Uq.mono {m:Nat}{x:dI}(h:Uq n x)(hm:n<=m):Uq m x:=⟨h.v,h.name,h.shelf,fC h.nf hm,h.ft⟩
section
variable {e:Env}
def CU (hw:NmU w)(nm:aw):∀i,i<=w.us.length->∀t∈fI w.us c nm i,t.length<=16
 |0,_=>λt ht=>by cases ht
 |i+1,hi=>by
  rw[fI];split
  .intro t ht;rcases List.mem_append.1 ht with h|h
   .exact CU hw nm i ae t h
   .rw[aF.1 h];exact(hw _ (aq ae)).2
  .exact CU hw nm i ae
def akQ (hs:W6 shop)(hm:w.sm)(hl:w.us.length<=48)(hw:NmU w){u:Nat}(hu:u<w.us.length)(h:(dq shop w.us c u (ec w.us c u)).2=0):Uq 48 (dq shop w.us c u (ec w.us c u)).1:=by
 have hn:=(hw _ (aq hu)).1;have hf:(kC w.us c u).length<=48:=fC (v8 _ _) hl;have hft:∀t∈kC w.us c u,t.length<=16:=CU hw _ _ (aR _)
 have hv:(ec w.us c u).v.sm:=wj (P:=λc:eI=>c.v.sm) ⟨aX,aX⟩ (λc hc=>((hm _ (aq hu)).2 c hc).1) _;unfold dq at*
 split at h
 .rename_i h1;rw[ak h1];exact⟨hv,hn,Nat.zero_le _,hf,hft⟩
 .rename_i h1;rw[ah h1];split at h
  .cases h
  .rename_i h2;rw[ah h2];split at h
   .cases h
   .rename_i h3;rw[ah h3];exact⟨hv,hn,Pz hs _,hf,hft⟩
def Y8 (hs:W6 shop)(hm:w.sm)(hl:w.us.length<=48)(hw:NmU w):∀i,i<=w.us.length->∀x∈(dA shop w.us c i).1,Uq 48 x
 |0,_=>λx hx=>by cases hx
 |i+1,hi=>by
  have ih:=Y8 hs hm hl hw i ae;rw[dA];split
  .exact ih
  .split
   .exact ih
   .split
    .intro x hx;cases hx
    .rename_i h3;intro x hx;rcases List.mem_append.1 hx with h|h
     .exact ih x h
     .rw[aF.1 h];exact akQ hs hm hl hw ae (Classical.not_not.1 h3)
theorem of_w (hs:W6 shop)(hm:w.sm)(hl:w.us.length<=48)(hw:NmU w)(he:∀i,(e.at i).length<=16):Up 48 (BE shop e w c).1:=by
 have h0:Up 48 Ib:=⟨aX,(λx hx=>by cases hx),λi=>by unfold Ib Env.at;grind⟩;unfold BE;split
 .exact h0
 .split
  .exact h0
  .split
   .exact h0
   .exact⟨fC (tO _) hl,Y8 hs hm hl hw _ (aR _),he⟩
end
def Wk (h:dw w c=true)(h0:0<=c[0]!):0<=(ir w c)[0]! :=by
 obtain⟨_,⟨h1,_⟩,_⟩:=DF h;rw[nO h ae];have h2:(kM c)[0]! =true:=by
  unfold kM;rw[List.getElem!_eq_getElem?_getD,List.getElem?_set_self fM];simpa using h0
 have h3:=(xZ (w:=w) (c:=c) c.length (kM c)).2 0 (by simp[kM];omega) h2;rw[S2 h,ak h3];exact h0
section
variable {m:gI}{e:Env}{os:Δ}
def G5 (hy:nD (ve m shop e))(h:(cM m shop e os).2.2=true):((cM m shop e os).1.sm/\(cM m shop e os).1.us.length<=48/\NmU (cM m shop e os).1)/\0<=(cM m shop e os).2.1[0]! :=by
 by_cases h0:(dt m shop e).2≠0\/5000<wC (dt m shop e).1.us
 .rw[tf h0]at h;cases h
 .have h1:(dt m shop e).2=0/\¬5000<wC (dt m shop e).1.us:=⟨Classical.not_not.1 λh2=>h0 (.inl h2),λh2=>h0 (.inr h2)⟩;cases hf:jA (dt m shop e).1.us (iq (dt m shop e).1.us os)with
  |none=>rw[tg h1 hf]at h;cases h
  |some c=>
   obtain⟨hb,hw⟩:=oc hy.p h1.1;have hc:=kJ hb.msk (nY os) _ _ (qp _) hf;have hs16:∀x∈(dt m shop e).1.us,x.ar.length<=16:=λx hx=>(hb.u x hx).1
   obtain⟨⟨g1,_⟩,g2⟩:=wc hw hs16 (HP hc.2) hc.1;rw[th h1 hf];refine⟨⟨hb.sm,hb.len.2, ?_⟩,Wk g1 g2⟩;have h2:=h1.1;unfold dt dK at h2⊢;split at h2
   .cases h2
   .split at h2
    .cases h2
    .split at h2
     .cases h2
     .rename_i h3;rw[ah ml,ah ml,ah h3];exact Xv hy (by simpa using h3)
end
def BL (c:Δ)(s:Δ)(Jq:Ε):Δ:=Jq.foldl (λs j=>s.set j c[j]!) s
def Nn (c:Δ):∀(Jq:Ε) (s:Δ),(BL c s Jq).length=s.length
 |[],_=>rfl
 |j::Jq,s=>by rw[BL,List.foldl_cons];exact(Nn c Jq _).trans (List.length_set ..)
def aao (c s:Δ)(Jq J':Ε):BL c s (Jq++J')=BL c (BL c s Jq) J':=List.foldl_append ..
theorem Nl (c:Δ):∀(Jq:Ε) (s:Δ) (i:Nat),(∀j∈Jq,j<s.length)->(BL c s Jq)[i]! =if i∈Jq then c[i]! else s[i]!
 |[],s,i,_=>by simp[BL]
 |j::Jq,s,i,h=>by
  have ih:=Nl c Jq (s.set j c[j]!) i (λq hq=>by rw[List.length_set];exact h q (by simp[hq]))
  grind [BL,EA]
def Xa (us:Η)(c:Δ)(a b:aw)(v:b6)(t:Bool):Prop:=0<=gr us a b/\mG us (gr us a b) v t=c[(gr us a b).toNat]! /\0<=c[(gr us a b).toNat]!
def Sv {us:Η}{c:Δ}{x:dI}:∀(l:Ψ) (s:Δ),(∀f∈l,Xa us c x.name f x.v false)->wi us x l s=(0,BL c s (l.map λf=>(gr us x.name f).toNat))
 |[],s,_=>rfl
 |f::r,s,h=>by
  obtain⟨h1,h2,h3⟩:=h f aJ;rw[wi,ah ae,h2,Sv r _ (λg hg=>h g (by simp[hg]))];rfl
def SP (us:Η)(x:dI):Ε:=(gr us x.name []).toNat::x.feats.map λf=>(gr us x.name f).toNat
def W9 (shop:Β)(us:Η)(c:Δ)(x:dI):Prop:=Xa us c x.name [] x.v true/\ph shop us[(gr us x.name []).toNat]!.ar[c[(gr us x.name []).toNat]!.toNat]! x=0/\∀f∈x.feats,Xa us c x.name f x.v false
def afm {s:Δ}{x:dI}(h:W9 shop us c x):mY shop us x s=(0,BL c s (SP us x)):=by
 obtain⟨⟨h1,h2,h3⟩,h4,h5⟩:=h;rw[mY,ah ae,h2,ah (by rw[h4];exact λh=>h rfl),Sv _ _ h5];rfl
def SO {shop:Β}{us:Η}{c:Δ}:∀(l:Laa) (s:Δ),(∀x∈l,W9 shop us c x)->wv shop us l s=(BL c s (l.flatMap (SP us)),0,[])
 |[],s,_=>rfl
 |x::r,s,h=>by
  rw[wv,afm (h x aJ),ah aJ,SO r _ (λy hy=>h y (by simp[hy]))];rw[List.flatMap_cons,aao]
def EZ (hw:eK w=true){i:Nat}(h1:1<=i)(hi:i<w.us.length):gr w.us w.us[i]!.name w.us[i]!.feat=(i:Nat):=by
 have hd:∀q,(w.us.drop 1)[q]! =w.us[1+q]! :=λq=>by simp[List.getElem!_eq_getElem?_getD,Nat.add_comm]
 have hu:ox w.us[i]!.name w.us[i]!.feat w.us[i]! =true:=by simp[ox]
 unfold gr;rcases ew (f:=ox w.us[i]!.name w.us[i]!.feat) (l:=w.us.drop 1) (k:=1)with⟨_,h2⟩|⟨j,h2,h3,h4,_⟩
 .have:=h2 (i-1) (by rw[jS];omega);rw[hd,show 1+(i-1)=i by omega,hu]at this;cases this
 .rw[jS]at h3;rw[hd]at h4;rw[h2];by_cases e:1+j=i
  .omega
  .rcases dX (1+j) i with h5|h5
   .exact(z6 hw ae h5 hi h4 hu).elim
   .exact(z6 hw h1 ae ae hu h4).elim
theorem Jp:∀a∈bQ,iO a a=0:=by decide+kernel
theorem adD (hw:eK w=true){i:Nat}(hi:i<w.us.length)(hk:k<w.us[i]!.ar.length)(h0:0<k):iO w.us[i]!.ar[k-1]!.v w.us[i]!.ar[k]!.v<0:=by
 grind [eK,bw,lJ,nj]
def Si {w:bP}(hw:eK w=true){i:Nat}(hi:i<w.us.length)(hv:∀x∈w.us[i]!.ar,x.v∈bQ){j:Nat}:∀{k:Nat},j<k->k<w.us[i]!.ar.length->iO w.us[i]!.ar[j]!.v w.us[i]!.ar[k]!.v<0
 |0,h,_=>absurd h (Nat.not_lt_zero _)
 |k+1,h,hk=>by
  have h1:=adD hw hi hk ae;rw[Nat.add_sub_cancel]at h1;by_cases e:j=k
  .subst e;exact h1
  .exact TU _ (hv _ (aq ae)) _ (hv _ (aq ae)) _ (hv _ (aq hk)) (Si hw hi hv ae ae) h1
theorem afe (hw:eK w=true){i:Nat}{v:b6}(hi:i<w.us.length)(hv:∀x∈w.us[i]!.ar,x.v∈bQ)(hk:k<w.us[i]!.ar.length)(e:w.us[i]!.ar[k]!.v=v)(t:Bool):mG w.us (i:Nat) v t=(k:Nat):=by
 have hin:=hv _ (aq hk);rw[e]at hin;have hy:Wx v t w.us[i]!.ar[k]! =true:=by
  unfold Wx;rw[e];cases t<;>simp[Jp v hin]
 unfold mG;rw[ah ae,Int.toNat_natCast];rcases ew (f:=Wx v t) (l:=w.us[i]!.ar) (k:=0)with⟨_,h2⟩|⟨j,h2,h3,h4,h5⟩
 .rw[h2 k hk]at hy;cases hy
 .rw[h2];rcases Nat.lt_trichotomy j k with h6|h6|h6
  .have h7:=Si hw hi hv h6 hk
   grind [Wx,Jp]
  .subst h6;simp
  .rw[h5 k h6]at hy;cases hy
def lQ {shop:Β}{us:Η}{c:Δ}:∀n,(dA shop us c n).2=0->(dA shop us c n).1=((List.range n).filter λu=>!fu us c u).map (λu=>(dq shop us c u (ec us c u)).1)/\∀u,u<n->fu us c u=false->(dq shop us c u (ec us c u)).2=0
 |0,_=>⟨rfl,λu h=>absurd h (Nat.not_lt_zero _)⟩
 |n+1,h=>by
  rw[dA]at h⊢;split at h
  .rename_i h1;exact absurd h h1
  .rename_i h1;have h1':(dA shop us c n).2=0:=by simpa using h1
   obtain⟨i1,i2⟩:=lQ n h1';rw[ah h1];split at h
   .rename_i h2;rw[ak h2,List.range_succ,List.filter_append,i1];refine⟨by simp[h2],λu hu hs=>?_⟩;by_cases e:u=n
    .subst e;rw[h2]at hs;cases hs
    .exact i2 u ae hs
   .rename_i h2;rw[ah h2];split at h
    .rename_i h3;exact absurd h h3
    .rename_i h3;rw[ah h3,List.range_succ,List.filter_append,i1];refine⟨by simp[h2],λu hu hs=>?_⟩;by_cases e:u=n
     .subst e;simpa using h3
     .exact i2 u ae hs
theorem lN {us:Η}{c:Δ}{nm:aw}:∀{n:Nat}{f:aw},f∈fI us c nm n↔∃i,(0<i/\i<n)/\(us[i]!.name=nm/\us[i]!.feat=f/\f≠[])/\0<=c[i]!
 |0,f=>by simp[fI]
 |n+1,f=>by
  rw[fI];have ih:=lN (us:=us) (c:=c) (nm:=nm) (n:=n) (f:=f)
  grind
structure CD (w:bP):Prop where
 val:eK w=true
 ver:∀i,1<=i->i<w.us.length->∀x∈w.us[i]!.ar,x.v∈bQ
 main:∀i,1<=i->i<w.us.length->w.us[i]!.feat≠[]->∀x∈w.us[i]!.ar,∃j,(1<=j/\j<w.us.length)/\(w.us[j]!.name=w.us[i]!.name/\w.us[j]!.feat=[])/\[(⟨(j:Nat),dS x.v⟩:Want)]∈x.needs
def U6:∀a∈bQ,∀b∈bQ,pg (dS a) b=true->b=a:=by decide+kernel
theorem pK (h:dw w c=true):c.length=w.us.length/\∀i,i<w.us.length->-1<=c[i]! /\c[i]! <(w.us[i]!.ar.length:Int):=by
 grind [dw,sF,bw,zj]
def Ij (hq:CD w)(hm:dw w c=true)(hh:iX w c=[]){i:Nat}(h1:1<=i)(hi:i<w.us.length)(hf:w.us[i]!.feat≠[])(hc:0<=c[i]!):
  ∃j,(1<=j/\j<w.us.length)/\(w.us[j]!.name=w.us[i]!.name/\w.us[j]!.feat=[])/\0<=c[j]! /\(ec w.us c j).v=(ec w.us c i).v:=by
 obtain⟨hl,hb⟩:=pK hm;have hin:c[i]!.toNat<w.us[i]!.ar.length:=by have:=(hb i hi).2;omega
 obtain⟨j,hj,hn,hr⟩:=hq.main i h1 hi hf _ (aq hin);have hw:=((uc hm).1 hh i ae hc).1;obtain⟨k,hk,hke⟩:=List.getElem_of_mem hr;have hs:=hw k hk;have e:(aW w c i).needs[k]! =[(⟨(j:Nat),dS w.us[i]!.ar[c[i]!.toNat]!.v⟩:Want)]:=by
  show w.us[i]!.ar[c[i]!.toNat]!.needs[k]! =_;rw[getElem!_pos _ k hk];exact hke
 rw[e]at hs;simp only[yL,List.any_cons,List.any_nil,Bool.or_false,iy,Int.toNat_natCast,aD,aT]at hs;refine⟨j,hj,hn,hs.1, ?_⟩;have hjn:c[j]!.toNat<w.us[j]!.ar.length:=by have:=(hb j hj.2).2;have:=hs.1;omega
 exact U6 _ (hq.ver i h1 hi _ (aq hin)) _ (hq.ver j hj.1 hj.2 _ (aq hjn)) hs.2
def abc (hq:CD w)(hm:dw w c=true){i:Nat}(h1:1<=i)(hi:i<w.us.length)(hc:0<=c[i]!){v:b6}(e:(ec w.us c i).v=v)(t:Bool):Xa w.us c w.us[i]!.name w.us[i]!.feat v t:=by
 obtain⟨hl,hb⟩:=pK hm;have hin:c[i]!.toNat<w.us[i]!.ar.length:=by have:=(hb i hi).2;omega
 unfold Xa;rw[EZ hq.val h1 hi,Int.toNat_natCast];exact⟨ae,by rw[afe hq.val hi (hq.ver i h1 hi) hin e t];omega,hc⟩
theorem iI {u:Nat}{x:eI}(h:(dq shop us c u x).2=0):(dq shop us c u x).1.name=us[u]!.name/\(dq shop us c u x).1.v=x.v/\(dq shop us c u x).1.feats=kC us c u/\ph shop x (dq shop us c u x).1=0:=by
 grind [dq,ph]
def Y7 (hq:CD w)(hm:dw w c=true)(hh:iX w c=[]){u:Nat}(hu:u<w.us.length)(hs:fu w.us c u=false)(h:(dq shop w.us c u (ec w.us c u)).2=0):W9 shop w.us c (dq shop w.us c u (ec w.us c u)).1:=by
 obtain⟨e1,e2,e3,e4⟩:=iI h;simp only[fu,eg,bR,cF,aT]at hs;obtain⟨⟨h0,hc⟩,hf⟩:=hs;have hu1:1<=u:=ae;have hc0:0<=c[u]! :=ae;have h1:=abc hq hm hu1 hu hc0 (v:=(ec w.us c u).v) rfl true;rw[hf]at h1;unfold W9;rw[e1,e2,e3];have hun:=EZ hq.val hu1 hu;rw[hf]at hun;refine⟨h1,by rw[hun,Int.toNat_natCast];exact e4,λf hfm=>?_⟩;obtain⟨i,hi,⟨hn,hfe,hne⟩,hci⟩:=lN.1 hfm;obtain⟨j,hj,⟨hjn,hjf⟩,hjc,hjv⟩:=Ij hq hm hh (i:=i) ae ae (by rw[hfe];exact hne) hci;have:j=u:=by
  have a1:=EZ hq.val hj.1 hj.2;rw[hjn,hjf,hn,hun]at a1;omega
 subst this;have h2:=abc hq hm (i:=i) ae ae hci (v:=(ec w.us c j).v) hjv.symm false;rw[hn,hfe]at h2;exact h2
theorem Co {u:Nat}(h1:1<=u)(hc:0<=c[u]!)(hf:us[u]!.feat=[]):fu us c u=false:=by
 grind [fu]
def Y4 (hq:CD w)(hm:dw w c=true)(hh:iX w c=[])(h0:0<=c[0]!)(h:(dQ shop w c).2=0):wv shop w.us (dQ shop w c).1 (Ge w.us.length w.us.length)=(c,0,[]):=by
 obtain⟨hl,hb⟩:=pK hm;obtain⟨e1,e2⟩:=lQ w.us.length h;have hsay:∀x∈(dQ shop w c).1,W9 shop w.us c x:=by
  intro x hx;have hx':x∈(dA shop w.us c w.us.length).1:=hx;rw[e1]at hx';obtain⟨u,hu,rfl⟩:=bI.1 hx';obtain⟨hu1,hu2⟩:=List.mem_filter.1 hu;have hun:=List.mem_range.1 hu1;have hsk:fu w.us c u=false:=by simpa using hu2
  exact Y7 hq hm hh hun hsk (e2 u hun hsk)
 rw[SO _ _ hsay];refine Prod.ext ?_ rfl;show BL c _ _=c;have hJ:∀j,j∈(dQ shop w c).1.flatMap (SP w.us)->j<w.us.length:=by
  intro j hj;obtain⟨x,hx,hjx⟩:=List.mem_flatMap.1 hj;obtain⟨⟨a1,a2,a3⟩,_,a4⟩:=hsay x hx;have lim:∀a b,0<=gr w.us a b->(gr w.us a b).toNat<w.us.length:=by
   intro a b hab;rcases EY (us:=w.us) (a:=a) (b:=b)with h6|⟨i,h6,h7,h8⟩<;>omega
  rcases bH.1 hjx with rfl|h5
  .exact lim _ _ a1
  .obtain⟨f,hf,rfl⟩:=bI.1 h5;exact lim _ _ (a4 f hf).1
 apply List.ext_getElem
 .rw[Nn,B3,hl]
 .intro i h1 h2;have h3:=Nl c ((dQ shop w c).1.flatMap (SP w.us)) (Ge w.us.length w.us.length) i (λj hj=>by rw[B3];exact hJ j hj);rw[getElem!_pos _ i h1,getElem!_pos c i h2]at h3;rw[h3];split
  .rfl
  .rename_i hni;have hi:i<w.us.length:=ae;have hbi:=hb i hi;rw[getElem!_pos c i h2]at hbi;rw[HN hi];split
   .rename_i hi1

    by_cases hc:0<=c[i]!
    .exfalso;apply hni;by_cases hf:w.us[i]!.feat=[]
     .refine List.mem_flatMap.2 ⟨(dq shop w.us c i (ec w.us c i)).1, ?_, ?_⟩
      .show _∈(dA shop w.us c w.us.length).1;rw[e1];exact bI.2 ⟨i,List.mem_filter.2 ⟨List.mem_range.2 hi,by rw[Co hi1 hc hf];rfl⟩,rfl⟩
      .have hsk:fu w.us c i=false:=Co hi1 hc hf;obtain⟨b1,_⟩:=iI (e2 i hi hsk);have hun:=EZ hq.val hi1 hi;rw[hf]at hun;exact bH.2 (.inl (by rw[b1,hun];simp))
     .obtain⟨j,hj,⟨hjn,hjf⟩,hjc,hjv⟩:=Ij hq hm hh hi1 hi hf hc;have hsk:fu w.us c j=false:=Co hj.1 hjc hjf;refine List.mem_flatMap.2 ⟨(dq shop w.us c j (ec w.us c j)).1, ?_, ?_⟩
      .show _∈(dA shop w.us c w.us.length).1;rw[e1];exact bI.2 ⟨j,List.mem_filter.2 ⟨List.mem_range.2 hj.2,by rw[hsk];rfl⟩,rfl⟩
      .obtain⟨b1,_,b3,_⟩:=iI (e2 j hj.2 hsk);refine bH.2 (.inr (bI.2 ⟨w.us[i]!.feat, ?_, ?_⟩))
       .rw[b3];exact lN.2 ⟨i,⟨ae,hi⟩,⟨hjn.symm,rfl,hf⟩,hc⟩
       .rw[b1,hjn,EZ hq.val hi1 hi];simp
    .rw[getElem!_pos c i h2]at hc;omega
   .have:i=0:=ae;subst this;have h00:w.us[0]!.ar.length=1:=by
     have:=hq.val;simp only[eK,vv,aD,aT]at this;exact this.1.2.2
    rw[getElem!_pos c 0 h2]at h0;omega
def H9 {all:Α}(hs:KS all){i:Nat}(hij:i<j)(hj:j<all.length):fj all[i]! all[j]! =true:=by
 have:=List.pairwise_iff_getElem.1 hs i j ae hj hij;rw[getElem!_pos all i ae,getElem!_pos all j hj];exact this
def mg {all:Α}(hs:KS all)(hz:eV∈all){i:Nat}(h1:1<=i)(hi:i<all.length):all[i]! ≠eV:=by
 intro e;have:=H9 hs (i:=0) (j:=i) ae hi;rw[(all_zero hs hz).1,e,px]at this;cases this
def xp {all:Α}{k:Key}(hk:k≠eV)(h:(dW y all k).2=true):(dW y all k).1=(ei y k).map (cS y all k):=by
 unfold dW at*
 rw[ah hk]at h⊢;split at h
 .cases h
 .rename_i h1;rw[ah h1]
def oe (hy:nD y)(h:(az y).2=true):CD (az y).1:=by
 obtain⟨all,hr,hus,hc,hB⟩:=mO hy.p.p h;obtain⟨hz,h48,hcl⟩:=oL hr;obtain⟨hs,hnm⟩:=yo hy.p.p hr;have hl:(az y).1.us.length=all.length:=by rw[hus,bj]
 have hat:∀i,i<all.length->(az y).1.us[i]! =oR y all all[i]! :=λi hi=>by rw[hus,eu hi]
 refine⟨E6 hy.p h,λi h1 hi x hx=>?_,λi h1 hi hf x hx=>?_⟩
 .rw[hl]at hi;rw[hat i hi]at hx;have hne:=mg hs hz h1 hi;have hx':x∈(dW y all all[i]!).1:=hx;rw[xp hne (hc i hi)]at hx';obtain⟨r,hr',rfl⟩:=bI.1 hx';exact qm hy.p.p hy.p.v hy.p.m all[i]!.n _ (List.mem_filter.1 hr').1
 .rw[hl]at hi⊢;rw[hat i hi]at hx hf;have hne:=mg hs hz h1 hi;have hx':x∈(dW y all all[i]!).1:=hx;rw[xp hne (hc i hi)]at hx';obtain⟨r,hr',rfl⟩:=bI.1 hx';have hf':all[i]!.f≠[]:=hf;have hrn:r.r.name=all[i]!.n:=(sN hy.p all[i]!.n r (List.mem_filter.1 hr').1).1;have hrow:[(⟨⟨r.r.name,[]⟩,dS r.r.v⟩:jv)]∈cL r.r y.e all[i]!.f:=by
   unfold cL;rw[ah hf'];simp
  have hin:(⟨r.r.name,[]⟩:Key)∈all:=hcl _ (aq hi) [⟨⟨r.r.name,[]⟩,dS r.r.v⟩] (by unfold cJ;rw[ah hne];exact List.mem_flatMap.2 ⟨r,hr',hrow⟩) _ (aF.2 rfl);obtain⟨p1,p2⟩:=jH hin;have hk0:(⟨r.r.name,[]⟩:Key)≠eV:=by
   intro e;have e2:r.r.name=[]:=ay Key.n e;have:=(hnm _ (aq hi));rcases this with h5|h5
   .exact hne h5
   .rw[hrn]at e2;exact h5 e2
  have hj0:=tT hs hz hk0;obtain⟨j,hj⟩:∃j:Nat,cz all ⟨r.r.name,[]⟩=(j:Nat):=⟨(cz all ⟨r.r.name,[]⟩).toNat,ae⟩
  have hje:all[j]! =⟨r.r.name,[]⟩:=by
   have:=hj;unfold cz at this;rcases ew (f:=λx=>decide (x=(⟨r.r.name,[]⟩:Key))) (l:=all) (k:=0)with⟨h6,_⟩|⟨q,h6,h7,h8,_⟩
   .omega
   .have:q=j:=ae;subst this;exact of_decide_eq_true h8
  refine⟨j,⟨ae,ae⟩, ?_, ?_⟩
  .rw[hat j ae,hat i hi];show all[j]!.n=all[i]!.n/\all[j]!.f=[];rw[hje,hrn];exact⟨rfl,rfl⟩
  .show _∈dr all (cL r.r y.e all[i]!.f);refine bI.2 ⟨_,hrow, ?_⟩;show [(⟨cz all ⟨r.r.name,[]⟩,dS r.r.v⟩:Want)]=_;rw[hj];rfl
def Us (w:bP):=∀i,1<=i->i<w.us.length->di w.us[i]!.name=true/\(w.us[i]!.feat=[]\/w.us[i]!.feat=lE\/w.us[i]!.feat=fW)
def Gd (hy:nD y)(h:(az y).2=true):Us (az y).1:=by
 obtain⟨all,hr,hus,_,_⟩:=mO hy.p.p h;obtain⟨hz,_,_⟩:=oL hr;obtain⟨hs,_⟩:=yo hy.p.p hr;have hk:=IS hy 49 (s:=nM) (all:=all) (λk hk=>.inl (by simpa[nM]using hk)) hr;intro i h1 hi;have hi':i<all.length:=by rw[hus,bj]at hi;exact hi
 rw[hus,eu hi'];have hne:=mg hs hz h1 hi';rcases hk _ (aq hi')with h5|h5
 .exact absurd h5 hne
 .exact h5
theorem xE {w:bP}(hw:eK w=true){c:Δ}{nm:aw}:∀n,n<=w.us.length->(fI w.us c nm n).Pairwise λa b=>Op.bytesLess a b=true
 |0,_=>by simp[fI]
 |n+1,hn=>by
  have ih:=xE hw (c:=c) (nm:=nm) n ae;rw[fI];split
  .rename_i h;rw[List.pairwise_append];refine⟨ih,aJ,λa ha b hb=>?_⟩;rw[aF.1 hb];obtain⟨i,hi,⟨hnm,hf,_⟩,_⟩:=lN.1 ha;have h2:=qB hw (i:=i) ae hi.2 ae
   grind [jh,jY]
  .exact ih
theorem up_at {l:Ψ}(h:l.Pairwise λa b=>Op.bytesLess a b=true){i:Nat}(h0:0<i)(hi:i<l.length):Op.bytesLess l[i-1]! l[i]! =true:=by
 have:=List.pairwise_iff_getElem.1 h (i-1) i ae hi ae
 grind
theorem afX {l:Ψ}(h:l.Pairwise λa b=>Op.bytesLess a b=true)(h2:∀f∈l,f=lE\/f=fW):l.length<=9:=by
 match l with
 |[]=>simp
 |[_]=>simp
 |[_,_]=>simp
 |a::b::d::r=>
  exfalso;have ne:∀x y:aw,Op.bytesLess x y=true->x≠y:=by
   grind [jY]
  have p1:=List.pairwise_cons.1 h;have p2:=List.pairwise_cons.1 p1.2;have n1:=ne _ _ (p1.1 b aJ);have n2:=ne _ _ (p1.1 d aJ);have n3:=ne _ _ (p2.1 d aJ);have a1:=h2 a aJ;have a2:=h2 b aJ;have a3:=h2 d aJ
  grind
theorem SZ {s:aw}(h:di s=true):s≠[]:=by
 rintro rfl;revert h;decide
theorem Y6 (hq:CD w)(hn:Us w)(hs:ea shop=true)(hm:dw w c=true){u:Nat}(hu:u<w.us.length)(hk:fu w.us c u=false)(h:(dq shop w.us c u (ec w.us c u)).2=0):Ih (dq shop w.us c u (ec w.us c u)).1=true:=by
 obtain⟨e1,e2,e3,_⟩:=iI h;obtain⟨hl,hb⟩:=pK hm;simp only[fu,eg,bR,cF,aT]at hk;obtain⟨⟨h0,hc⟩,hf⟩:=hk;have hin:c[u]!.toNat<w.us[u]!.ar.length:=by have:=(hb u hu).2;omega
 have hv:gN (ec w.us c u).v=true:=by
  have hw:=hq.val;simp only[eK,aD,bw,lJ,nj]at hw;exact((hw.2 u (Nat.zero_le _) hu).2 _ (Nat.zero_le _) hin).1.1
 have hnm:=(hn u ae hu).1;have hup:=xE hq.val (c:=c) (nm:=w.us[u]!.name) w.us.length (aR _);have hfe:∀f∈kC w.us c u,f=lE\/f=fW:=by
  intro f hf;obtain⟨i,hi,⟨_,h2,h3⟩,_⟩:=lN.1 hf;rcases(hn i ae hi.2).2 with h4|h4
  .rw[h4]at h2;exact absurd h2.symm h3
  .rw[<-h2];exact h4
 have h9:=afX hup hfe;have hsh:∀j,j<shop.length->di shop[j]!.name=true:=by
  intro j hj;simp only[ea,aD,bw,zW,gA]at hs;exact(hs.2 j (Nat.zero_le _) hj).1.1.1
 have hsf:(decide ((dq shop w.us c u (ec w.us c u)).1.shelf≠[])&& !di (dq shop w.us c u (ec w.us c u)).1.shelf)=false/\(decide ((dq shop w.us c u (ec w.us c u)).1.shelf=[])&&decide ((dq shop w.us c u (ec w.us c u)).1.sum≠0))=false:=by
  grind [dq,ec,di,SZ]
 unfold Ih;rw[hsf.1,hsf.2,e1,e2,e3,hnm,hv,aY (show(kC w.us c u).length<=9 from h9)];simp only[Bool.and_self,eh,Bool.not_false];rw[bw];intro i _ hi;unfold Au;have hw:gP (kC w.us c u)[i]! =true:=by
  rcases hfe _ (aq hi)with h5|h5<;>rw[h5]<;>decide
 rw[hw,eh];by_cases hi0:0<i
 .rw[show Op.bytesLess (kC w.us c u)[i-1]! (kC w.us c u)[i]! =true from up_at hup hi0 hi];simp
 .simp[hi0]
def aeG {e:Env}(hq:CD w)(hn:Us w)(hs:ea shop=true)(he:mw e=true)(hm:dw w c=true)(h:(dQ shop w c).2=0):Mz ⟨e,(dQ shop w c).1⟩=true:=by
 obtain⟨e1,e2⟩:=lQ w.us.length h;have e1':(dQ shop w c).1=_:=e1;have h48:=(Ro hq.val).2;unfold Mz;show(mw e&&decide ((dQ shop w c).1.length<=48)&&bK (xQ (dQ shop w c).1) 0 (dQ shop w c).1.length)=true;rw[he,aY (show(dQ shop w c).1.length<=48 by have:=tO (shop:=shop) (us:=w.us) (c:=c) w.us.length;have e:(dQ shop w c).1.length=(dA shop w.us c w.us.length).1.length:=rfl;omega),eh,eh,bw];have hp:(dQ shop w c).1.Pairwise λa b=>Op.bytesLess a.name b.name=true:=by
  rw[e1',List.pairwise_map];have h1:(List.range w.us.length).Pairwise (· < ·):=List.pairwise_lt_range;refine List.Pairwise.imp_of_mem ?_ (List.Pairwise.sublist List.filter_sublist h1);intro a b ha hb hab;obtain⟨H0,SC⟩:=List.mem_filter.1 ha;obtain⟨hb1,pw⟩:=List.mem_filter.1 hb;have H0:=List.mem_range.1 H0;have hb1:=List.mem_range.1 hb1;have SC:fu w.us c a=false:=by simpa using SC
  have pw:fu w.us c b=false:=by simpa using pw
  rw[(iI (e2 a H0 SC)).1,(iI (e2 b hb1 pw)).1];simp only[fu,eg,bR,cF,aT]at SC pw;have h2:=qB hq.val (i:=a) ae hab hb1;unfold jh at h2;rw[SC.2,pw.2,jY,Bool.and_false,Bool.or_false]at h2;exact h2
 intro i _ hi;unfold xQ;have hx:Ih (dQ shop w c).1[i]! =true:=by
  have hmem:=aq hi;rw[e1']at hmem;obtain⟨u,hu,hue⟩:=bI.1 hmem;obtain⟨hu1,hu2⟩:=List.mem_filter.1 hu;have hu1:=List.mem_range.1 hu1;have hu2:fu w.us c u=false:=by simpa using hu2
  rw[e1',<-hue];exact Y6 hq hn hs hm hu1 hu2 (e2 u hu1 hu2)
 rw[hx,eh];by_cases hi0:0<i
 .have:=List.pairwise_iff_getElem.1 hp (i-1) i ae hi ae;rw[getElem!_pos _ (i-1) ae,getElem!_pos _ i hi,this];simp
 .simp[hi0]
theorem ZE {e:Env}(h:(BE shop e w c).2=0):((eK w=true/\ea shop=true)/\mw e=true)/\dw w c=true/\iX w c=[]/\(dQ shop w c).2=0/\(BE shop e w c).1=⟨e,(dQ shop w c).1⟩:=by
 unfold BE at h⊢;split at h
 .cases h
 .rename_i h1;rw[ah h1];split at h
  .cases h
  .rename_i h2;rw[ah h2];split at h
   .rename_i h3;exact absurd h h3
   .rename_i h3;rw[ah h3];refine⟨by grind,by grind,lZ ae,ae,rfl⟩
def XG {e:Env}(hq:CD w)(hn:Us w)(h0:0<=c[0]!)(h:(BE shop e w c).2=0):je shop e w (BE shop e w c).1=(c,0,[])/\xu shop e w (BE shop e w c).1=(0,[]):=by
 obtain⟨h1,hm,hh,hl,he⟩:=ZE h;rw[he];have hmay:=aeG (e:=e) hq hn h1.1.2 h1.2 hm hl;have hc:je shop e w ⟨e,(dQ shop w c).1⟩=(c,0,[]):=by
  rw[agC h1 ⟨hmay,rfl⟩];exact Y4 hq hm hh h0 hl
 refine⟨hc, ?_⟩;exact agB (by rw[hc]) (by rw[hc];show(iX w c).length=0;rw[hh];rfl)
section
variable {m:gI}{e:Env}{os:Δ}
def Oq (hy:nD (ve m shop e))(h:(cM m shop e os).2.2=true):CD (cM m shop e os).1/\Us (cM m shop e os).1/\dw (cM m shop e os).1 (cM m shop e os).2.1=true/\iX (cM m shop e os).1 (cM m shop e os).2.1=[]:=by
 by_cases h0:(dt m shop e).2≠0\/5000<wC (dt m shop e).1.us
 .rw[tf h0]at h;cases h
 .have h1:(dt m shop e).2=0/\¬5000<wC (dt m shop e).1.us:=⟨Classical.not_not.1 λh2=>h0 (.inl h2),λh2=>h0 (.inr h2)⟩;cases hf:jA (dt m shop e).1.us (iq (dt m shop e).1.us os)with
  |none=>rw[tg h1 hf]at h;cases h
  |some c=>
   obtain⟨hb,hw⟩:=oc hy.p h1.1;have hc:=kJ hb.msk (nY os) _ _ (qp _) hf;have hs16:∀x∈(dt m shop e).1.us,x.ar.length<=16:=λx hx=>(hb.u x hx).1
   obtain⟨⟨g1,g3⟩,g2⟩:=wc hw hs16 (HP hc.2) hc.1;rw[th h1 hf];have hq:CD (dt m shop e).1/\Us (dt m shop e).1:=by
    have h2:=h1.1;unfold dt dK at h2⊢;split at h2
    .cases h2
    .split at h2
     .cases h2
     .split at h2
      .cases h2
      .rename_i h3;rw[ah ml,ah ml,ah h3];exact⟨oe hy (by simpa using h3),Gd hy (by simpa using h3)⟩
   exact⟨hq.1,hq.2,ET g1,Ri (O5 hw) g1 g3⟩
end
def linK (shop:Β)(us:Η)(c:Δ)(K:Ε):Laa:=K.map λu=>(dq shop us c u (ec us c u)).1
def MO (us:Η)(c:Δ):Ε:=(List.range us.length).filter λu=>!fu us c u
theorem lR {u:Nat}:u∈MO us c↔u<us.length/\fu us c u=false:=by
 grind [MO]
def Zi (us:Η)(c:Δ):(MO us c).Pairwise (· < ·):=List.Pairwise.sublist List.filter_sublist List.pairwise_lt_range
def Dx (h:(dQ shop w c).2=0):(dQ shop w c).1=linK shop w.us c (MO w.us c):=(lQ w.us.length h).1
def MF {shop:Β}{us:Η}{c:Δ}:∀n,(∀u,u<n->fu us c u=false->(dq shop us c u (ec us c u)).2=0)->(dA shop us c n).2=0
 |0,_=>rfl
 |n+1,h=>by
  have ih:=MF n (λu hu=>h u ae);rw[dA,ah (λh2=>h2 ih)];split
  .exact ih
  .rename_i h2;rw[ah (λh3=>h3 (h n ae (by simpa using h2)))]
def Vn (hy:nD y)(h:(az y).2=true)(hm:dw (az y).1 c=true){u:Nat}(hu:u<(az y).1.us.length)(hs:fu (az y).1.us c u=false):(dq y.shop (az y).1.us c u (ec (az y).1.us c u)).2=0:=by
 obtain⟨all,hr,hus,hc,hB⟩:=mO hy.p.p h;obtain⟨hz,h48,hcl⟩:=oL hr;obtain⟨hks,hnm⟩:=yo hy.p.p hr;have hl:(az y).1.us.length=all.length:=by rw[hus,bj]
 have hat:∀i,i<all.length->(az y).1.us[i]! =oR y all all[i]! :=λi hi=>by rw[hus,eu hi]
 have hua:u<all.length:=ae;simp only[fu,eg,bR,cF,aT]at hs;have hin:c[u]!.toNat<(az y).1.us[u]!.ar.length:=by have:=((pK hm).2 u hu).2;omega
 have hmem:=aq hin;have hne:=mg hks hz (i:=u) ae hua;have hmem':ec (az y).1.us c u∈(ei y all[u]!).map (cS y all all[u]!):=by
  rw[<-xp hne (hc u hua)];have:(az y).1.us[u]!.ar=(dW y all all[u]!).1:=by rw[hat u hua];rfl
  unfold ec;rw[this]at hmem⊢;exact hmem
 obtain⟨r,hr',he⟩:=bI.1 hmem';have hlk:=(List.mem_filter.1 hr').1;have hname:(az y).1.us[u]!.name=all[u]!.n:=by rw[hat u hua];rfl
 obtain⟨h1,h2⟩:=sN hy.p all[u]!.n r hlk;rw[<-he];unfold dq;rcases h2 with h2|⟨j,i,h2,hj,hi,e,hsB⟩
 .rw[ak (show(cS y all all[u]! r).sh=-1 from h2)]
 .have hsh:(cS y all all[u]! r).sh=(j:Int):=h2;have hv:(cS y all all[u]! r).v=y.shop[j]!.es[i]!.r.v:=by show r.r.v=_;rw[e]
  have hver:=qm hy.p.p hy.p.v hy.p.m all[u]!.n _ hlk;rw[e]at hver;obtain⟨k,hk,_⟩:=Yf hsB hi hver;rw[ah (by rw[hsh];omega),ah (by rw[hsh];omega),hsh,Int.toNat_natCast,hname,<-h1,e,hv,ah (by rw[hk];omega)]
section
def PT (hs:ea shop=true){u:Nat}{x:eI}(h:(dq shop w.us c u x).2=0):decide ((dq shop w.us c u x).1.shelf≠[])=decide (0<=x.sh):=by
 have hsh:∀j,j<shop.length->di shop[j]!.name=true:=by
  intro j hj;simp only[ea,aD,bw,zW,gA]at hs;exact(hs.2 j (Nat.zero_le _) hj).1.1.1
 unfold dq at h⊢;split
 .rename_i h1;rw[h1];rfl
 .rename_i h1;rw[ah h1]at h;split at h
  .cases h
  .rename_i h2;rw[ah h2];split at h
   .cases h
   .rename_i h3;rw[ah h3];have:=SZ (hsh x.sh.toNat ae);exact lv.2 ⟨λ_=>ae,λ_=>this⟩
end
def alf:∀a∈bQ,Iw a a=true:=by decide+kernel
def alE {l:ω}{v:b6}(h:qt l nm v 0=(n:Int)):n<l.length/\BA nm v l[n]! =true/\∀q,q<n->BA nm v l[q]! =false:=by
 unfold qt at h;rw[dN]at h;cases hf:l.findIdx? (BA nm v)with
 |none=>rw[hf]at h;simp at h
 |some k=>
  rw[hf]at h;have hkn:k=n:=by simp only[cG]at h;omega
  subst hkn;obtain⟨h1,h2,h3⟩:=List.findIdx?_eq_some_iff_getElem.1 hf;refine⟨h1,by rw[getElem!_pos l k h1];exact h2,λq hq=>?_⟩;rw[getElem!_pos l q ae];have:=h3 q hq;simpa using this
section
variable {m:gI}{e:Env}{os:Δ}
theorem Ra (hy:nD (ve m shop e))(h:(cM m shop e os).2.2=true):(ea shop=true/\mw e=true)/\(az (ve m shop e)).2=true/\(cM m shop e os).1=(az (ve m shop e)).1:=by
 by_cases h0:(dt m shop e).2≠0\/5000<wC (dt m shop e).1.us
 .rw[tf h0]at h;cases h
 .have h1:(dt m shop e).2=0/\¬5000<wC (dt m shop e).1.us:=⟨Classical.not_not.1 λh2=>h0 (.inl h2),λh2=>h0 (.inr h2)⟩;have e1:(cM m shop e os).1=(dt m shop e).1:=by
   cases hf:jA (dt m shop e).1.us (iq (dt m shop e).1.us os)with
   |none=>rw[tg h1 hf]at h;cases h
   |some c=>rw[th h1 hf]
  rw[e1];have h2:=h1.1;unfold dt dK at h2⊢;split at h2
  .cases h2
  .rename_i g1;split at h2
   .cases h2
   .rename_i g2;split at h2
    .cases h2
    .rename_i g3;rw[ah g1,ah g2,ah g3];exact⟨by grind,by simpa using g3,rfl⟩
end
end Go.Abs
end
