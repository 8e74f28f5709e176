/- A part of the proofs. -/
import Derived.Test.YtkllcniplomebaaGreatDoorP07
set_option linter.all false
set_option maxRecDepth 60000
set_option maxHeartbeats 2000000
noncomputable section
namespace Go.Abs
variable(T:List D->D->Prop)(Z:Ctx)(n:Nat){env env' rs:List aY}{J:Src->aY}{α:Type}(x:List GI){g:Option (Nat×Bool)}{cm:List (Nat×Nat)}{d:D}{Y:Ctx}{draw:Bool}{ds:List D}(b:Bool){k nx f l:Nat}{st:St}
def ah {p:Prop}(h:p:=by exact rfl):p:=h
def UY {p:Prop}(h:p:=by repeat(first|exact eX.nil|refine eX.un ?_|refine eX.eq cE ?_)):p:=h
def dL {p:Prop}(h:p:=by first|exact rfl|exact cb (λ_=>rfl) _):p:=h
def PW {p:Prop}(h:p:=by repeat(first|exact eX.nil|refine eX.un ?_|refine eX.eq cE ?_|refine eX.nl cE cE ?_)):p:=h
def lO {p:Prop}(h:p:=by repeat' first|exact trivial|exact rfl|refine And.intro ?_ ?_):p:=h
def Fx {p:Prop}(h:p:=by repeat' first|exact trivial|exact rfl|exact aT _|refine And.intro ?_ ?_):p:=h
def xJ {p:Prop}(h:p:=by repeat(first|exact bn.nil|refine bn.Am cE cE (by first|exact rfl|exact cb (λ_=>rfl) _) ?_|refine bn.L4 cE cE cE ?_|refine bn.L6 cE cE cE cE ?_)):p:=h
def M0 {p:Prop}(h:p:=by simp only[yz,iX,oL,Bg,Ff,dd,Nat.reduceEqDiff,bo,a8,iP,ee,dE,iA,iB,cL,bh,aT,dM,bQ,reduceCtorEq,bH,b7,Nat.reduceAdd,Nat.reduceLeDiff];exact rfl):p:=h
def b0 {p:Prop}[Decidable p]:(decide p=true)=p:=aX
def b1 {p:Prop}[Decidable p]:decide p=false↔¬p:=b8
def b2:((!b)=true)=(b=false):=cg b
def b3:((!b)=false)=(b=true):=cX b
def b4:(¬(b=false))=(b=true):=Bool.not_eq_false b
def b5 (a b:Bool):((a ||b)=true)=(a=true\/b=true):=cW a b
abbrev wkk (Y:Ctx)(a:aj)(d:D)(ds:List D):Prop:=dk (Y.at 0) a.body (Rr a d) (fP a ds) ⟨0,[]⟩
def dj {a:aj}{d2:D}{e:Ex}{m:List (Nat×bm)}(h:d2=d)(he:e.home:=by exact trivial)(h1:oD m env a.res:=by exact Fx)(h2:EG a env m:=by exact lO)(h3:QW a env m=d2:=by exact rfl):Rr a d e env ⟨nx,m⟩:=QE he h1 h2 (h3.trans h)
def gtt {lo c nx2:Nat}{env2:List aY}{m m2:List (Nat×bm)}(σ:List (Nat×Nat))(hc:nx2=c:=by exact ah)(h:ig lo c σ=true:=by exact ah)(he:eX lo σ env env2:=by exact PW)(hm:bn lo c σ m m2:=by exact xJ):aZ lo env ⟨nx,m⟩ env2 ⟨nx2,m2⟩:=aZ.to σ hc h he hm
def aa9 {lo c:Nat}{σ:List (Nat×Nat)}{m r:List (Nat×bm)}{b:bm}(h:bn lo c σ m r)(hh:bn lo c σ m [(l,b)]:=by(first|refine bn.Am cE cE (by first|exact rfl|exact cb (λ_=>rfl) _) ?_|refine bn.L4 cE cE cE ?_|refine bn.L6 cE cE cE cE ?_)<;>exact bn.nil):bn lo c σ m ((l,b)::r):=⟨hh.1,h⟩
section
variable {Q:Ex->List aY->St->Prop}
def cmN:WY env rs []=env:=rfl
def cmC {s p:Nat}{r:List (Nat×Nat)}{env1:List aY}{f:Bool}(e:bS [] rs (.l p)=⟨f,d⟩)(hs:env.set s ⟨f,d⟩=env1)(h:WY env1 rs r=env'):WY env rs ((s,p)::r)=env':=by
 simp only[WY,e,hs,h]
def rrrg {b:AC}{nx':Nat}{m:List (Nat×bm)}{fP:List aY}(h:dk Y b Q env' ⟨nx',m⟩)(he:WY env rs cm=env':=by repeat(first|apply cmC cE (by simp only[List.set_cons_zero,List.set_cons_succ];exact rfl)|with_reducible exact cmN))(hn:nx+rs.length=nx':=by simp only[bH,b7,Nat.reduceAdd];exact rfl):aB Y draw [] fP rs nx m (λvs st'=>dk Y b Q (iv env vs cm) st'):=
 aS h he hn
def rrrh {nx':Nat}{m:List (Nat×bm)}{fP:List aY}(h:Q .normal env' ⟨nx',m⟩)(he:WY env rs cm=env':=by repeat(first|apply cmC cE (by simp only[List.set_cons_zero,List.set_cons_succ];exact rfl)|with_reducible exact cmN))(hn:nx+rs.length=nx':=by simp only[bH,b7,Nat.reduceAdd];exact rfl):aB Y draw [] fP rs nx m (λvs st'=>Q .normal (iv env vs cm) st'):=
 lV h he hn
end
def Fam (_:Prop):Type:=Unit
def wX {q:Prop}:Fam q:=()
structure Hid (q:Prop)(f:Fam q):Prop where
 val:q
def gL:(∀{p:Prop} [Decidable p],(decide p=true)=p)/\(∀{p:Prop} [Decidable p],decide p=false↔¬p)/\(∀b:Bool,((!b)=true)=(b=false))/\(∀b:Bool,((!b)=false)=(b=true))/\(∀b:Bool,(¬(b=false))=(b=true))/\(∀a b:Bool,((a ||b)=true)=(a=true\/b=true))/\(∀{a b:Bool},(a ||b)=false↔a=false/\b=false)/\(∀a b:Bool,((a&&b)=true)=(a=true/\b=true))/\(∀{a b:Bool},(a&&b)=false↔a=false\/b=false)/\(∀b:Bool,(¬(b=true))=(b=false))/\(∀b:Bool,(true&&b)=b)/\∀b:Bool,(b&&true)=b:=
 ⟨aX,b8,cg,cX,Bool.not_eq_false,cW,dX,aK,ew,Bool.not_eq_true,ez,fR⟩
section
variable {Q:Ex->List aY->St->Prop}
def dT {c:Src}{a b r:AC}{t:Bool}{c1 c2:Prop}(h1:c1->dk Y (.seq a r) Q env st)(h2:c2->dk Y (.seq b r) Q env st)(hc:bS env [] c=⟨true,.bool t⟩:=by exact rfl)(e1:t=true->c1:=by intro h;(try simp only[gL]at h);exact h)(e2:t=false->c2:=by intro h;(try simp only[gL]at h);exact h):dk Y (.seq (.cond c a b) r) Q env st:=aH (λh=>h1 (e1 h)) (λh=>h2 (e2 h)) hc
def K5 {c:Src}{a b:AC}{t:Bool}{c1 c2:Prop}(h1:c1->dk Y a Q env st)(h2:c2->dk Y b Q env st)(hc:bS env [] c=⟨true,.bool t⟩:=by exact rfl)(e1:t=true->c1:=by intro h;(try simp only[gL]at h);exact h)(e2:t=false->c2:=by intro h;(try simp only[gL]at h);exact h):dk Y (.cond c a b) Q env st:=wp_cond (λh=>h1 (e1 h)) (λh=>h2 (e2 h)) hc
end
abbrev zzh1:List Sh:=[.a,.a,.a,.a,.a,.a,.sl 3 [.sl 4 [.a,.a,.sl 1 [.a],.a],.a,.a],.sl 3 [.a,.a,.a],.sl 2 [.a,.sl 1 [.a]]]
abbrev s0:Src:=.s 0
abbrev s1:Src:=.s 1
abbrev s2:Src:=.s 2
abbrev s3:Src:=.s 3
abbrev s4:Src:=.s 4
abbrev s5:Src:=.s 5
abbrev s6:Src:=.s 6
abbrev s7:Src:=.s 7
abbrev s8:Src:=.s 8
abbrev s9:Src:=.s 9
abbrev s10:Src:=.s 10
abbrev VR:Src:=.s 11
abbrev s12:Src:=.s 12
abbrev s13:Src:=.s 13
abbrev Vs:Src:=.s 14
abbrev s15:Src:=.s 15
abbrev s16:Src:=.s 16
abbrev s17:Src:=.s 17
abbrev s18:Src:=.s 18
abbrev s19:Src:=.s 19
abbrev s20:Src:=.s 20
abbrev s21:Src:=.s 21
abbrev s22:Src:=.s 22
abbrev s23:Src:=.s 23
abbrev s24:Src:=.s 24
abbrev s25:Src:=.s 25
abbrev s26:Src:=.s 26
abbrev l0:Src:=.l 0
abbrev l1:Src:=.l 1
abbrev l2:Src:=.l 2
abbrev l3:Src:=.l 3
abbrev l4:Src:=.l 4
abbrev l5:Src:=.l 5
abbrev l6:Src:=.l 6
abbrev l7:Src:=.l 7
abbrev l8:Src:=.l 8
abbrev l9:Src:=.l 9
abbrev l10:Src:=.l 10
abbrev R5:Src:=.l 11
abbrev Yk:Src:=.l 12
abbrev l13:Src:=.l 13
abbrev l14:Src:=.l 14
abbrev l15:Src:=.l 15
abbrev l16:Src:=.l 16
abbrev l17:Src:=.l 17
abbrev l18:Src:=.l 18
abbrev l19:Src:=.l 19
abbrev l20:Src:=.l 20
abbrev l21:Src:=.l 21
abbrev l22:Src:=.l 22
abbrev l23:Src:=.l 23
abbrev l24:Src:=.l 24
abbrev l25:Src:=.l 25
abbrev l26:Src:=.l 26
abbrev l27:Src:=.l 27
abbrev l28:Src:=.l 28
abbrev l29:Src:=.l 29
abbrev l30:Src:=.l 30
abbrev l31:Src:=.l 31
abbrev l32:Src:=.l 32
abbrev l33:Src:=.l 33
abbrev l34:Src:=.l 34
abbrev l35:Src:=.l 35
abbrev l36:Src:=.l 36
abbrev l37:Src:=.l 37
abbrev l38:Src:=.l 38
abbrev l39:Src:=.l 39
abbrev l40:Src:=.l 40
abbrev l41:Src:=.l 41
abbrev l42:Src:=.l 42
abbrev gm (x:Src):GI:=⟨.mv x,none⟩
abbrev gn (x:az):GI:=⟨x,none⟩
abbrev i6 (n:Int):Src:=.c (.int .i64 n)
abbrev cs (s:List UInt8):Src:=.c (.str s)
abbrev gd (x:Src):GI:=⟨.ld 1 false x,none⟩
abbrev gk (b:Bool)(x:Src):GI:=⟨.ld n b x,none⟩
abbrev gf (x:Src):GI:=⟨.fa n x,none⟩
abbrev gl (x:Src):GI:=⟨.len x,none⟩
abbrev ga (x y:Src):GI:=⟨.ia n x y,none⟩
abbrev ge (x:Src)(n:Nat):GI:=⟨.ext x n,none⟩
abbrev gb (x:Src):GI:=⟨.box n x,none⟩
abbrev gt (x y:Src):GI:=⟨.st n x y,none⟩
abbrev gx (x:List Src)(y:List (List Sh)):GI:=⟨.call n x y,none⟩
abbrev rg (y:List (Nat×Nat)):AC:=.reg false x y
abbrev rt (y:List (Nat×Nat)):AC:=.reg true x y
abbrev afI (x y:Src):az:=.bin .lss x y
abbrev sa (x y:Src):az:=.bin .eql x y
abbrev WD (x y:Src):az:=.bin .gtr x y
abbrev afH (x y:Src):az:=.bin .geq x y
abbrev OS:Src:=.c (.bool false)
abbrev cbT:Src:=.c (.bool true)
abbrev cse:Src:=.c (.str [])
abbrev yW:Src:=.c (.int .i64 0)
abbrev R2:Src:=.c (.int .i64 1)
abbrev gmt (x:Src):GI:=⟨.mv x,some (n,true)⟩
abbrev LZ (x:Src):GI:=⟨.ld 1 false x,some (n,true)⟩
abbrev uV (n o:Nat)(x:Src):GI:=⟨.fa o x,some (n,true)⟩
abbrev rI (x:az):GI:=⟨x,some (n,true)⟩
abbrev gmf (x:Src):GI:=⟨.mv x,some (n,false)⟩
abbrev gdf (x:Src):GI:=⟨.ld 1 false x,some (n,false)⟩
abbrev gff (n o:Nat)(x:Src):GI:=⟨.fa o x,some (n,false)⟩
abbrev uW (x:az):GI:=⟨x,some (n,false)⟩
abbrev sq (a b:AC):AC:=.seq a b
abbrev gcr (c x:Src):AC:=.cond c (.seq (.reg false [⟨.mv x,none⟩] [(1,0)]) .ret) .skip
abbrev Pa:List (List Sh):=[[.a]]
abbrev ha2:List (List Sh):=[[.a,.a]]
abbrev ha5:List (List Sh):=[[.a,.a,.a,.a,.a]]
abbrev pF:List (List Sh):=[[.a],[.a]]
abbrev hb3:List (List Sh):=[[.a],[.a],[.a]]
abbrev hb4:List (List Sh):=[[.a],[.a],[.a],[.a]]
abbrev T7 (c x:Src):GI:=⟨.pick c (.c (.bool true)) x,none⟩
abbrev K7 (c x:Src):GI:=⟨.pick c x (.c (.bool false)),none⟩
abbrev gaf (c x:Src):GI:=⟨.pick c x (.c (.bool false)),some (n,false)⟩
abbrev mL (x y:Src):GI:=⟨.bin .lss x y,none⟩
abbrev sI (x y:Src):GI:=⟨.bin .eql x y,none⟩
abbrev pj (x y:Src):GI:=⟨.bin .add x y,none⟩
abbrev YI (x y:Src):GI:=⟨.bin .gtr x y,none⟩
abbrev sJ (x y:Src):GI:=⟨.bin .neq x y,none⟩
abbrev aj9 (x y:Src):GI:=⟨.bin .leq x y,none⟩
abbrev aj8 (x y:Src):GI:=⟨.bin .geq x y,none⟩
abbrev gce (c:Src)(n:Nat):AC:=.cond c .skip (.exit n)
abbrev i8 (n:Int):Src:=.c (.int .u8 n)
abbrev i3 (n:Int):Src:=.c (.int .i32 n)
abbrev gno (x:Src):GI:=⟨.un .not x,none⟩
abbrev r1 (a b:Nat):AC:=.reg false x [(a,b)]
abbrev r2 (a b:Nat):AC:=.reg true x [(a,b)]
abbrev re1:List G8:=[⟨1,none⟩]
def Jc:=∀(l:List av) (x:UInt8),((b6 [x] l).length<=1099511627776)->T [.sl 1 (l.map D.str),.int .u8 (x.toNat:Nat)] (.str (b6 [x] l))
def C249:=Jc (aE Z 249)
def Kw:=∀(l:List av),T [.sl 1 (l.map D.str)] (.bool (rising l))
def C815:=Kw (aE Z 815)
def oU:=∀(n:Int),(0<=n/\n<=9999)->T [.int .i64 n] (.str (nO n.toNat))
def C336:=oU (aE Z 336)
def Tn:=∀(l:List av) (sep:av),(l.length<=1048600)->(sep.length<=4)->(∀t∈l,t.length<=2097200)->T [.sl 1 (l.map D.str),.str sep] (.str (b6 sep l))
def VZ:=Tn (aE Z 242)
def Tj:=∀(s:av) (b:UInt8),(s.length<=1048576)->T [.str s,.str [b]] (.sl 1 ((aQ s b.toNat).map D.str))
def C124:=Tj (aE Z 124)
def Ts:=∀(s:av) (b:UInt8),(s.length<=1048576)->T [.str s,.str [b]] (.tup [.str (o9 s b).1,.str (o9 s b).2.1,.bool (o9 s b).2.2])
def C487:=Ts (aE Z 487)
def To:=∀(s:av) (p:av),(s.length<=1048576)->(p.length<=1048576)->T [.str s,.str p] (.tup [.str (dp s p).1,.bool (dp s p).2])
def C254:=To (aE Z 254)
def Tt:=∀(s:av) (b:UInt8),(s.length<=1048576)->T [.str s,.str [b]] (.bool (s.contains b))
def C491:=Tt (aE Z 491)
def Tl:=∀(s:av),(oR s)->T [.str s] (.bool (xm s))
def C212:=Tl (aE Z 212)
def C670:=Tl (aE Z 670)
def Tq:=∀(s:av),(kj s)->T [.str s] (.bool (qW s))
def C444:=Tq (aE Z 444)
def C572:=Tq (aE Z 572)
def Tm:=∀(l:List bY),(jn l)->T [.sl 2 (l.map bY.D)] (.bool (ep l))
def C213:=Tm (aE Z 213)
def Tr:=∀(s:av),(rK s)->T [.str s] (.tup [.int .i64 (bK s).1,.str (bK s).2.1,.str (bK s).2.2])
def C448:=Tr (aE Z 448)
def C459:=Tm (aE Z 459)
def C672:=Tr (aE Z 672)
def tX:=∀(r:Rec),(FY r/\iq r)->T [Rec.D r] (.str (Er r))
def C219:=tX (aE Z 219)
def C215:=tX (aE Z 215)
def Ox:=∀(s:av),(s.length<=1048576)->T [.str s,.str [124,124]] (.sl 1 ((jh s []).map D.str))
def afy:=Ox (aE Z 124)
def Tv:=∀(s:av) (b:UInt8),(b=32)->(s.length<=1048576)->T [.str s,.str [b]] (.str (Cl s))
def C683:=Tv (aE Z 683)
def ub:=∀(s:av),T [.str s] (.bool (gC s))
def Ty:=ub (aE Z 349)
def tT:=∀(s:av),T [.str s] (.bool (dc s))
def Tx:=tT (aE Z 208)
def uv:=∀(s:av),T [.str s] (.tup [.int .i64 (gM s),.bool (j0 s)])
def V4:=uv (aE Z 658)
def Kf:=∀(k:Nat),(k<16)->T [.int .u8 (k:Nat)] (.int .u8 ((L1 k).toNat:Nat))
def C686:=Kf (aE Z 686)
def uh:=∀(n:Int),T [.int .u64 n] (.str (jA n))
def C497:=uh (aE Z 497)
def um:=∀(s:av) (b:Int),(s.length<=1048576)->T [.str s,.int .u8 b] (.sl 1 ((aQ s b).map D.str))
def TA:=um (aE Z 533)
def uw:=∀(t:av),T [.str t] (.bool (cO t))
def C659:=uw (aE Z 659)
def ue:=∀(n:Int),T [.int .i64 n] (.bool (CL n))
def C440:=ue (aE Z 440)
def Ke:=∀(s:av) (b:Int),T [.str s,.int .u8 b] (.tup [.str (jU s b).1,.str (jU s b).2])
def C675:=Ke (aE Z 675)
def JA:=∀(s:av),(s.length<=1048576)->T [.str s] (.bool (sY s false))
def C442:=JA (aE Z 442)
def Jz:=∀(s:av),(s.length<=1048576)->T [.str s] (.bool (sY s true))
def C441:=Jz (aE Z 441)
def tV:=∀(v:bO),(v.sm)->T [bO.D v] (.bool (fT v))
def yB:=tV (aE Z 209)
def C665:=oU (aE Z 665)
def ug:=∀(v:bO),(v.sm)->T [bO.D v] (.str (oq v))
def C451:=ug (aE Z 451)
def JI:=∀(h:Int) (k:Nat),(k=13)->T [.int .u64 h,.int .i64 (k:Nat)] (.int .u64 (rot h k))
def C463:=JI (aE Z 463)
def tY:=∀(s:av),T [.sl 1 ((s).map λb=>D.int .u8 b.toNat)] (.int .u64 (En s))
def C220:=tY (aE Z 220)
def I9:=∀(r:Rec) (name:av) (rng:av),(kj rng)->T [Rec.D r,.str name,.str rng] (.int .i64 (gB r name rng))
def C211:=I9 (aE Z 211)
def uf:=∀(r:Rec) (w:c9) (al:Bool),(w.sm)->T [Rec.D r,c9.D w,.bool al] (.int .i64 (lB r w al))
def C443:=uf (aE Z 443)
def tW:=∀(r:Rec) (n:bp),(n.sm)->T [Rec.D r,bp.D n] (.int .i64 (jy r n))
def C210:=tW (aE Z 210)
def Ja:=∀(r:Rec) (s:av),(rK s)->T [Rec.D r,.str s] (.int .i64 (nW r s))
def C214:=Ja (aE Z 214)
def zN:=∀(r:Rec),(iq r)->T [Rec.D r] (.tup [.int .i64 (cV r).1,.int .i64 (cV r).2])
def C70:=zN (aE Z 70)
def zO:=∀(r:Rec),(iq r)->T [Rec.D r] (.tup [.str (fC r).1,.int .i64 (fC r).2])
def C72:=zO (aE Z 72)
def zP:=∀(r:Rec),(iq r)->T [Rec.D r] (.tup [.int .u64 (wj r),.int .i64 (fC r).2])
def C74:=zP (aE Z 74)
def Km:=∀(x:Int),T [.int .i64 x] (.bool false)
def C714:=Km (aE Z 714)
def Kl:=∀(x:av),T [.str x] (.bool false)
def C704:=Kl (aE Z 704)
def uk:=∀(a:Int) (b:Int),T [.int .i64 a,.int .i64 b] (.int .i64 (dn a b))
def C532:=uk (aE Z 532)
def uj:=∀(a:av) (b:av),T [.str a,.str b] (.int .i64 (pN a b))
def C516:=uj (aE Z 516)
def JU:=∀(l:List Int),T [.sl 1 (l.map (D.int .i64))] (.int .i64 (fQ (λi=>l[i]!) 0 l.length))
def C531:=JU (aE Z 531)
def JT:=∀(v:bO),T [bO.D v] (bO.D (si v))
def C530:=JT (aE Z 530)
def uo:=∀(a:av) (b:av),T [.str a,.str b] (.int .i64 (ym a b))
def C534:=uo (aE Z 534)
def ua:=∀(a:bO) (b:bO),(a.sm/\b.sm)->T [bO.D a,bO.D b] (.int .i64 (jm a b))
def V0:=ua (aE Z 295)
def ux:=∀(a:bO) (b:bO),(a.sm/\b.sm)->T [bO.D a,bO.D b] (.bool (MG a b))
def C701:=ux (aE Z 701)
def Kk:=∀(x:j8) (nm:av) (v:bO),(x.r.v.sm/\v.sm)->T [j8.D x,.ref 1 [.str nm] 0 0,.ref 5 [bO.D v] 0 0] (.bool (K8 nm v x))
def C700:=Kk (aE Z 700)
def Kj:=∀(l:List j8) (nm:av) (v:bO),((∀x∈l,x.r.v.sm)/\v.sm)->T [.sl 11 (l.map j8.D),.fn 700 [.ref 1 [.str nm] 0 0,.ref 5 [bO.D v] 0 0]] (.int .i64 (r7 l nm v 0))
def C699:=Kj (aE Z 699)
def ui:=∀(l:List j8) (nm:av) (v:bO),((∀x∈l,x.r.v.sm)/\v.sm)->T [.sl 11 (l.map j8.D),.str nm,bO.D v] (.int .i64 (r7 l nm v 0))
def C511:=ui (aE Z 511)
def uc:=∀(s:cj),(∀x∈s.es,iq x.r)->T [cj.D s] (.bool (gy s))
def C353:=uc (aE Z 353)
def KB:=∀(n:Nat),(n<=9999)->T [.int .u64 (n:Nat)] (.str (nO n))
def C882:=KB (aE Z 882)
def C734:=oU (aE Z 734)
def C470:=um (aE Z 470)
def JB:=∀(c:Int),T [.int .u8 c] (.bool (jN c))
def C453:=JB (aE Z 453)
def JC:=∀(c:Int),T [.int .u8 c] (.bool (bE c))
def C454:=JC (aE Z 454)
def V1:=ub (aE Z 357)
def Ha:=tT (aE Z 216)
def C667:=uv (aE Z 667)
def C668:=uw (aE Z 668)
def Ka:=∀(t:av),T [.str t] (.bool (wm t))
def C666:=Ka (aE Z 666)
def JD:=∀(s:av) (p:Bool),(s.length<=1048576)->T [.str s,.bool p] (.bool (Eo s p))
def C456:=JD (aE Z 456)
def C455:=ue (aE Z 455)
def Ca:=tV (aE Z 217)
def J2:=∀(v:bO),(CL v.major=true/\CL v.minor=true/\CL v.patch=true)->T [bO.D v] (.str (nO v.major.toNat++[46]++nO v.minor.toNat++[46]++nO v.patch.toNat))
def C554:=J2 (aE Z 554)
def C316:=ug (aE Z 316)
def JJ:=∀(h:Int) (n:Nat),(n<=63)->T [.int .u64 h,.int .u64 (n:Nat)] (.int .u64 (rot h n))
def C464:=JJ (aE Z 464)
def C221:=tY (aE Z 221)
def Kv:=∀(l:List av) (al:Bool),T [.sl 1 (l.map D.str),.bool al] (.bool (nD l al))
def C812:=Kv (aE Z 812)
def C669:=uf (aE Z 669)
def C457:=tW (aE Z 457)
def JE:=∀(r:Rec) (b:mF),(b.sm)->T [Rec.D r,mF.D b] (.int .i64 (sb r b))
def C458:=JE (aE Z 458)
def Kb:=∀(r:Rec) (x:av),T [Rec.D r,.str x] (.bool (Y8 r.needs x))
def C673:=Kb (aE Z 673)
def Kd:=∀(r:Rec) (x:av),T [Rec.D r,.str x] (.bool (MZ r.needs x))
def C674:=Kd (aE Z 674)
def JF:=∀(r:Rec) (of:List av),(∀t∈of,rK t)->T [Rec.D r,.sl 1 (of.map D.str)] (.int .i64 (mI r of))
def C460:=JF (aE Z 460)
def JG:=∀(w:c9),(w.fit)->T [c9.D w] (.str (jS w))
def C461:=JG (aE Z 461)
def JH:=∀(s:av),(s.length<=1048576)->T [.str s] (.str (ko s))
def C462:=JH (aE Z 462)
def Jb:=∀(r:Rec),(iq r)->T [Rec.D r] (.tup [.int .i64 (er r).1,.int .i64 (er r).2])
def C218:=Jb (aE Z 218)
def C71:=zN (aE Z 71)
def C73:=zO (aE Z 73)
def C75:=zP (aE Z 75)
def V3:=uk (aE Z 630)
def C927:=uj (aE Z 927)
def C783:=uo (aE Z 783)
def J9:=∀(a:av) (b:av),(a.length<=1048576/\b.length<=1048576)->T [.str a,.str b] (.int .i64 (Br a b))
def C631:=J9 (aE Z 631)
def Tz:=ua (aE Z 424)
def C501:=ux (aE Z 501)
def C580:=ui (aE Z 580)
def V2:=uc (aE Z 358)
def Jp:=∀(x:cj) (s:cj),T [cj.D x,.ref 2 [cj.D s] 0 0] (.bool (F3 s.name x))
def C355:=Jp (aE Z 355)
def Jo:=∀(l:List cj) (s:cj),T [.sl 2 (l.map cj.D),.fn 355 [.ref 2 [cj.D s] 0 0]] (.int .i64 (mz l s.name))
def C354:=Jo (aE Z 354)
def tR:=∀(l:List cj),(jG l)->T [.sl 2 (l.map cj.D)] (.bool (eR l))
def C142:=tR (aE Z 142)
def ud:=∀(l:List cj) (nm:av),T [.sl 2 (l.map cj.D),.str nm] (.int .i64 (mz l nm))
def C359:=ud (aE Z 359)
def C145:=tR (aE Z 145)
def Jg:=∀(s:cj) (nm:av) (v:bO),((∀x∈s.es,iq x.r)/\v.sm)->T [cj.D s,.str nm,bO.D v] (.int .i64 (oJ s nm v))
def C274:=Jg (aE Z 274)
def qv:=∀(c:Cut),(c.v.sm)->T [Cut.D c] (.bool (pO c))
def Ro:=qv (aE Z 1086)
def qt:=∀(a:Cut) (b:Cut),(a.v.sm/\b.v.sm)->T [Cut.D a,Cut.D b] (.int .i64 (lg a b))
def Rn:=qt (aE Z 1020)
def qu:=∀(c:Cut) (v:bO),(c.v.sm/\v.sm)->T [Cut.D c,bO.D v] (.bool (jY c v))
def afo:=qu (aE Z 1025)
def qq:=∀(s:Span),(s.sm)->T [Span.D s] (.bool (qf s))
def Lb:=qq (aE Z 1019)
def uB:=∀(s:Span) (v:bO),(s.sm/\v.sm)->T [Span.D s,bO.D v] (.bool (sC s v))
def C926:=uB (aE Z 926)
def uA:=∀(l:List Span),(zX l)->T [.sl 14 (l.map Span.D)] (.bool (sX l))
def V7:=uA (aE Z 916)
def uz:=∀(l:List Span) (v:bO),(zX l/\v.sm)->T [.sl 14 (l.map Span.D),bO.D v] (.bool (v7 l v))
def C782:=uz (aE Z 782)
def J4:=∀(v:bO),T [bO.D v] (.bool (vL v))
def C600:=J4 (aE Z 600)
def KH:=∀(c:Cut),T [Cut.D c] (.bool (mO c))
def C917:=KH (aE Z 917)
def uy:=∀(s:cu),(s.sm)->T [cu.D s] (.bool (wc s))
def V5:=uy (aE Z 770)
def uu:=∀(s:cu) (v:bO),(s.sm/\v.sm)->T [cu.D s,bO.D v] (.bool (pe s v))
def C627:=uu (aE Z 627)
def Tp:Prop:=T [] (cu.D Sq)
def C375:=Tp (aE Z 375)
def aff:Prop:=T [] (cu.D pH)
def C374:=aff (aE Z 374)
def aaZ {q:α->D}{xs:List α}{m:List (Nat×bm)}{sh:List Sh}(hq:∀x,xV m sh (q x)=q x)(hl:look m l=some (.buf k (xs.map q))):xV m [.sl k sh] (.own l k 0 xs.length)=.sl k (xs.map q):=by
 show D.sl k _=_;simp only[aL,hl,dM,bQ,List.map_map];congr 1;apply List.map_congr_left;intro x _;have:=hq x;simp only[Function.comp];generalize q x=d at this;cases d<;>exact this
def Td {q:α->D}{xs:List α}{m:List (Nat×bm)}{sh:List Sh}(hq:∀x,xVO m sh (q x))(hl:look m l=some (.buf k (xs.map q))):xVO m [.sl k sh] (.own l k 0 xs.length):=by
 refine⟨by simp only[ed,hl];exact⟨trivial,aF⟩,λe he=>?_⟩;simp only[aL,hl,dM,bQ,ch]at he;obtain⟨x,_,rfl⟩:=he;have:=hq x;generalize q x=d at this;cases d<;>exact this
def Rp:=qv (aE Z 1087)
def VX:=qt (aE Z 1024)
def afp:=qu (aE Z 1055)
def VW:=qq (aE Z 1023)
def C980:=uB (aE Z 980)
def C925:=uA (aE Z 925)
def C861:=uz (aE Z 861)
def KI:=∀(c:Cut),T [Cut.D c] (.bool (rR c))
def C924:=KI (aE Z 924)
def C780:=uy (aE Z 780)
def C712:=uu (aE Z 712)
def Ju:=∀(a:Key) (b:Key),T [Key.D a,Key.D b] (.int .i64 (H5 a b))
def C408:=Ju (aE Z 408)
def J7:=∀(l:List Want) (n:Int),(∀x∈l,x.sm)->T [.sl 3 (l.map Want.D),.int .i64 n] (.bool (py n l))
def C622:=J7 (aE Z 622)
def Ku:=∀(w:Want) (n:Int),(w.sm)->T [Want.D w,.int .i64 n] (.bool (td n w))
def C778:=Ku (aE Z 778)
def Kt:=∀(l:List Want) (n:Int),(∀x∈l,x.sm)->T [.sl 3 (l.map Want.D),.int .i64 n] (.bool (rQ n l))
def C777:=Kt (aE Z 777)
def J6:=∀(c:fj) (n:Int),(c.sm)->T [fj.D c,.int .i64 n] (.bool (fT c.v&&mU n c))
def C618:=J6 (aE Z 618)
def Jv:=∀(c:fj) (n:Int),(c.sm)->T [fj.D c,.int .i64 n] (.bool (mU n c))
def C409:=Jv (aE Z 409)
def J5:=∀(a:dz) (b:dz),T [dz.D a,dz.D b] (.bool (jF a b))
def C617:=J5 (aE Z 617)
def Jt:=∀(w:cA) (i:Int),(w.sm/\(0<=i/\i<w.us.length)/\w.us.length<=48)->T [cA.D w,.int .i64 i] (.bool (sZ w.us i.toNat))
def C403:=Jt (aE Z 403)
def tS:=∀(w:cA),(w.sm)->T [cA.D w] (.bool (hR w))
def C169:=tS (aE Z 169)
def C175:=tS (aE Z 175)
def JQ:=∀(w:cA) (c:List Int),(w.sm)->T [cA.D w,.sl 1 (c.map (D.int .i64))] (.bool (vI w c))
def C510:=JQ (aE Z 510)
def tZ:=∀(w:cA) (c:List Int),(w.sm)->T [cA.D w,.sl 1 (c.map (D.int .i64))] (.bool (eV w c))
def C273:=tZ (aE Z 273)
def ur:=∀(w:cA) (c:List Int) (x:Want),(MetW w c x)->T [cA.D w,.sl 1 (c.map (D.int .i64)),Want.D x] (.bool (lj w c x))
def C624:=ur (aE Z 624)
def J8:=∀(w:cA) (c:List Int) (l:List Want),(∀x∈l,MetW w c x)->T [cA.D w,.sl 1 (c.map (D.int .i64)),.sl 3 (l.map Want.D)] (.bool (FB w c l))
def C623:=J8 (aE Z 623)
def C170:=tZ (aE Z 170)
def C629:=ur (aE Z 629)
def Jw:=∀(w:cA) (c:List Int),(WrgP w c)->T [cA.D w,.sl 1 (c.map (D.int .i64))] (.sl 3 ((rq w c).map Ld.D))
def C410:=Jw (aE Z 410)
def tQ:=∀(e:Env),T [Env.D e] (.bool (pd e))
def C138:=tQ (aE Z 138)
def J1:=∀(x:ea),(x.sm)->T [ea.D x] (.bool (Da x))
def C553:=J1 (aE Z 553)
def Jl:=∀(l:jE),(l.sm)->T [jE.D l] (.bool (Mf l))
def C315:=Jl (aE Z 315)
def JL:=∀(a:List av) (b:List av),T [.sl 1 (a.map D.str),.sl 1 (b.map D.str)] (.bool (decide (a=b)))
def C486:=JL (aE Z 486)
def uq:=∀(a:ea) (b:ea),T [ea.D a,ea.D b] (.bool (decide (a=b)))
def C552:=uq (aE Z 552)
def C551:=uq (aE Z 551)
def J0:=∀(a:List ea) (b:List ea),T [.sl 9 (a.map ea.D),.sl 9 (b.map ea.D),.fn 551 []] (.bool (decide (a=b)))
def C550:=J0 (aE Z 550)
def Jk:=∀(a:jE) (b:jE),T [jE.D a,jE.D b] (.bool (decide (a=b)))
def C314:=Jk (aE Z 314)
def C313:=uh (aE Z 313)
def C144:=tQ (aE Z 144)
def JY:=∀(s:av),T [.str s] (.str (sk s))
def C548:=JY (aE Z 548)
def Kn:=∀(s:av),T [.str s] (.str (gA s))
def C733:=Kn (aE Z 733)
def IZ:=∀(l:jE),(l.sm)->T [jE.D l] (.sl 6 ((ph l.lines).map Kp.D))
def C101:=IZ (aE Z 101)
def JZ:=∀(x:ea),(x.sm)->T [ea.D x] (.str (Mm x))
def C549:=JZ (aE Z 549)
def Jj:=∀(l:jE),(l.sm)->T [jE.D l] (.tup [.str (prS l),.int .i64 (prE l)])
def C312:=Jj (aE Z 312)
def QY:=∀(v:Int) (n:Int),(n<=9223372036854775807)->T [.int .i64 v,.int .i64 n] (.int .i64 (kP v n))
def C25:=QY (aE Z 25)
def I5:=∀(l:List Int) (i:Int),T [.sl 1 (l.map (D.int .i64)),.int .i64 i] (.int .i64 (atI l i))
def C159:=I5 (aE Z 159)
def G9:=∀(g:Gs) (n:Int),(n<=9223372036854775807)->(0<=g.i/\g.i<=1000000)->Z.fp 109 (Gs.D g) [.int .i64 n]/\Z.fv 109 (Gs.D g) [.int .i64 n]=.int .i64 (g.val n)/\Z.fs 109 (Gs.D g) [.int .i64 n]=Gs.D g.aI
def C545:=∀(r:oY),(r.at'<=r.s.length)->(r.s.length<=1048576)->(r.n<=2097152)->Z.fp 545 (oY.D r) []/\Z.fv 545 (oY.D r) []=.tup [.str r.ln.1,.bool r.ln.2.2]/\Z.fs 545 (oY.D r) []=oY.D r.aI
def JM:=∀(s:av),T [.str s] (.tup [.int .u64 (xP s),.bool (m6 s)])
def C499:=JM (aE Z 499)
def Th:Prop:=T [] (.sl 5 (bT.map bO.D))
def C112:=Th (aE Z 112)
def Tg:Prop:=T [] (.sl 1 (cB.map D.str))
def C111:=Tg (aE Z 111)
def Tk:Prop:=T [] (.sl 1 (j4.map D.str))
def C135:=Tk (aE Z 135)
def JV:=∀(l:List av) (s:av),T [.sl 1 (l.map D.str),.str s] (.int .i64 (Fg l s))
def C536:=JV (aE Z 536)
def C297:=∀(g:Gs) (own:av),(0<=g.i/\g.i<=990000)->Z.fp 297 (Gs.D g) [.str own]/\Z.fv 297 (Gs.D g) [.str own]=.str (cQ g own).1/\Z.fs 297 (Gs.D g) [.str own]=Gs.D (cQ g own).2
def C535:=∀(g:Gs) (own:av),(0<=g.i/\g.i<=990000)->Z.fp 535 (Gs.D g) [.str own]/\Z.fv 535 (Gs.D g) [.str own]=c9.D (dD g own).1/\Z.fs 535 (Gs.D g) [.str own]=Gs.D (dD g own).2
def C296:=∀(g:Gs) (own:av),(0<=g.i/\g.i<=980000)->Z.fp 296 (Gs.D g) [.str own]/\Z.fv 296 (Gs.D g) [.str own]=bp.D (mr g own).1/\Z.fs 296 (Gs.D g) [.str own]=Gs.D (mr g own).2
def C298:=∀(g:Gs) (l:List bp),(0<=g.i/\g.i<=980000)->((∀n∈l,n.sm)/\l.length<=1000)->Z.fp 298 (Gs.D g) [.sl 3 (l.map bp.D)]/\Z.fv 298 (Gs.D g) [.sl 3 (l.map bp.D)]=bY.D (mV g l).1/\Z.fs 298 (Gs.D g) [.sl 3 (l.map bp.D)]=Gs.D (mV g l).2
def C110:=∀(g:Gs) (nm:av) (v:bO) (most:Int),(0<=g.i/\g.i<=970000)->(0<=most/\most<=100)->Z.fp 110 (Gs.D g) [.str nm,bO.D v,.int .i64 most]/\Z.fv 110 (Gs.D g) [.str nm,bO.D v,.int .i64 most]=Rec.D (pw g nm v most).1/\Z.fs 110 (Gs.D g) [.str nm,bO.D v,.int .i64 most]=Gs.D (pw g nm v most).2
def JO:=∀(s:cj) (r:Rec),((∀x∈s.es,iq x.r)/\iq r)->T [cj.D s,Rec.D r] (.tup [cj.D (kS s r).1,.int .i64 (kS s r).2])
def C504:=JO (aE Z 504)
def JN:=∀(s:cj) (nm:av) (v:bO) (on:Bool),((∀x∈s.es,iq x.r)/\v.sm)->T [cj.D s,.str nm,bO.D v,.bool on] (.tup [cj.D (ov s nm v on).1,.int .i64 (ov s nm v on).2])
def C503:=JN (aE Z 503)
def C266:=∀(g:Gs) (l:List cj),(0<=g.i/\g.i<=960000)->(jG l/\1<=l.length/\l.length<=100)->Z.fp 266 (Gs.D g) [.sl 2 (l.map cj.D)]/\Z.fv 266 (Gs.D g) [.sl 2 (l.map cj.D)]=.sl 2 ((lN g l).1.map cj.D)/\Z.fs 266 (Gs.D g) [.sl 2 (l.map cj.D)]=Gs.D (lN g l).2
def Q4:=∀(ks:List Int) (most:Int),(0<=most/\most<=100)->T [.sl 1 (ks.map (D.int .i64)),.int .i64 most] (.sl 2 ((GD ks most).map cj.D))
def C90:=Q4 (aE Z 90)
def Q0:=∀(n:Int),T [.int .i64 n] (Env.D (TZ n))
def C29:=Q0 (aE Z 29)
def Cm (m:List (Nat×bm))(l k n:Nat):Bool:=match look m l with
 |some (.buf k' es)=>decide (k=k')&&decide (n<=es.length)
 |_=>false
theorem wM {m:List (Nat×bm)}{n:Nat}(h:Cm m l k n=true):ed m l k n:=by
 unfold Cm at h;unfold ed;split at h<;>simp_all
def dW (a:Option α):Option α:=match b with|true=>a|false=>none
def cy {b:Bool}{a:Option α}{x:α}(h:dW b a=some x):b=true/\a=some x:=by cases b<;>simp_all[dW]
def Su {e:D}(h:dW d.aU (some d)=some e):d.aU=true/\d=e:=⟨(cy h).1,bc (cy h).2⟩
def YA (f:D->Option D):List D->Option (List D)
 |[]=>some []
 |d::r=>match f d with
  |some e=>match YA f r with
   |some s=>some (e::s)
   |none=>none
  |none=>none
def puC (m:List (Nat×bm))(pv:List Sh->D->Option D):Sh->D->Option D
 | .a,d=>match d with
  | .aR=>some (.sl 0 [])
  |d=>dW d.aU (some d)
 | .sl k cs,d=>match d with
  | .aR=>some (.sl k [])
  | .own l k' i c=>dW (Cm m l k' (i+c)) ((YA (pv cs) (((aL m l).drop i).take c)).map (.sl k'))
  |d=>dW d.aU (some d)
 | .pt cs,d=>match d with
  | .ptr l k i o=>dW (Cm m l k 0) ((YA (pv cs) (aL m l)).map λes=>.ref k es i o)
  |d=>dW d.aU (some d)
 | .kp _,_=>none
def puL (pc:Sh->D->Option D):List Sh->List D->Option (List D)
 |[],ds=>dW (aP ds) (some ds)
 |_::_,[]=>some []
 |s::r,d::ds=>match pc s d with
  |some e=>match puL pc r ds with
   |some es=>some (e::es)
   |none=>none
  |none=>none
def puV (m:List (Nat×bm)):Nat->List Sh->D->Option D
 |0,_,_=>none
 |n+1,ss,d=>match ss with
  |[]=>dW d.aU (some d)
  |s::r=>match d with
   | .agg cs=>(puL (puC m (puV m n)) (s::r) cs).map .agg
   |d=>puC m (puV m n) s d
def puS (m:List (Nat×bm)):List (List Sh)->List D->Option (List D)
 |_,[]=>some []
 |[],d::r=>match puV m 9 [.a] d with
  |some e=>match puS m [] r with
   |some es=>some (e::es)
   |none=>none
  |none=>none
 |s::ss,d::r=>match puV m 9 s d with
  |some e=>match puS m ss r with
   |some es=>some (e::es)
   |none=>none
  |none=>none
theorem Sb {P:D->Prop}{g f:D->_}(hf:∀d e,f d=some e->P d/\g d=e):∀{l r:List D},YA f l=some r->(∀d∈l,P d)/\l.map g=r:=by
 intro l;induction l<;>grind [YA]
section
variable {m:List (Nat×bm)}
def akP {pv:List Sh->D->Option D}(hv:∀s d e,pv s d=some e->gv m s d/\iZ m s d=e){s:Sh}{e:D}(h:puC m pv s d=some e):il m s d/\kR m s d=e:=by
 cases s with
 |a=>cases d<;>simp only[puC,il,kR]at h⊢ <;>first|exact Su h|exact⟨rfl,bc h⟩
 |kp cs=>cases h
 |sl k cs=>
  cases d<;>simp only[puC,il,kR]at h⊢
  case own l k' i c=>
   obtain⟨h1,h2⟩:=cy h;obtain⟨es,h3,rfl⟩:=c7.1 h2;obtain⟨h4,h5⟩:=Sb (hv cs) h3;exact⟨⟨wM h1,h4⟩,by rw[h5]⟩
  all_goals first|exact Su h|exact⟨rfl,bc h⟩
 |pt cs=>
  cases d<;>simp only[puC,il,kR]at h⊢
  case ptr l k i o=>
   obtain⟨h1,h2⟩:=cy h;obtain⟨es,h3,rfl⟩:=c7.1 h2;obtain⟨h4,h5⟩:=Sb (hv cs) h3;exact⟨⟨wM h1,h4⟩,by rw[h5]⟩
  all_goals first|exact Su h|exact⟨rfl,bc h⟩
theorem akQ {pc:Sh->D->Option D}(hc:∀s d e,pc s d=some e->il m s d/\kR m s d=e):∀{ss:List Sh}{ds es:List D},puL pc ss ds=some es->ki m ss ds/\nA m ss ds=es:=by
 intro ss;induction ss with
 |nil=>intro ds es h;simp only[ki,nA];exact⟨(cy h).1,bc (cy h).2⟩
 |cons s r ih=>
  intro ds es h;cases ds with
  |nil=>simp_all[puL,ki,nA]
  |cons d ds=>
   simp only[puL]at h;simp only[ki,nA]
   grind
theorem Zo:∀{n:Nat}{ss:List Sh}{d e:D},puV m n ss d=some e->gv m ss d/\iZ m ss d=e:=by
 intro n;induction n with
 |zero=>intro ss d e h;cases h
 |succ n ih=>
  intro ss d e h;have hc:∀s d e,puC m (puV m n) s d=some e->il m s d/\kR m s d=e:=λs d e h=>akP (λs d e h=>ih h) h
  cases ss with
  |nil=>simp only[gv,iZ];exact Su h
  |cons s r=>
   cases d
   case agg cs=>
    simp only[puV]at h;obtain⟨es,h3,rfl⟩:=c7.1 h;have:=akQ hc h3;simp only[gv,iZ];exact⟨this.1,by rw[this.2]⟩
   all_goals simp only[puV]at h;simp only[gv,iZ];exact hc _ _ _ h
theorem Zn:∀{sh:List (List Sh)}{ds es:List D},puS m sh ds=some es->je m sh ds/\iy m sh ds=es:=by
 intro sh ds;induction ds generalizing sh with
 |nil=>intro es h;cases sh<;>simp_all[puS,je,iy]
 |cons d r ih=>
  intro es h;cases sh<;>simp only[puS]at h<;>simp only[je,iy]<;>grind [Zo]
end
def RQ (J:Src->aY)(len:Nat):List (Nat×Nat×Src)->Bool
 |[]=>true
 |(o,n,s)::r=>((J s).ok&&decide ((J s).d.cells.length=n))&&(decide (o+n<=len)&&RQ J len r)
def Cx (J:Src->aY)(k n:Nat):List (Nat×Src)->Bool
 |[]=>true
 |(i,s)::r=>(decide (i<n)&&(J s).ok)&&(decide ((J s).d.cells.length=k)&&Cx J k n r)
def UK (J:Src->aY):List Src->Bool
 |[]=>true
 |s::r=>(J s).ok&&UK J r
theorem XA {len:Nat}:∀{l:List (Nat×Nat×Src)},RQ J len l=true->Af J len l:=by
 intro l;induction l<;>grind [RQ,Af]
theorem T0 {n:Nat}:∀{l:List (Nat×Src)},Cx J k n l=true->qF J k n l:=by
 intro l;induction l<;>grind [Cx,qF]
theorem HZ:∀{l:List Src},UK J l=true->BW J l:=by
 intro l;induction l<;>grind [UK,BW]
def ldB (m:List (Nat×bm))(n:Nat):D->Bool
 | .ptr l k i o=>Cm m l k (i+1)&&decide (o+n<=k)
 | .ref k es i o=>decide (i<es.length)&&decide (o+n<=k)
 |_=>false
theorem Ym {m:List (Nat×bm)}{n:Nat}(h:ldB m n d=true):Mg m n d:=by
 cases d<;>simp_all[ldB,Mg]<;>exact wM h.1
def binB (op:BinOp):D->D->Bool
 | .int k a,.int k' b=>match op with
  | .quo=>decide (k=k')&&decide (b≠0)
  | .rem=>decide (k=k')&&decide (b≠0)
  | .shl=>false
  | .shr=>false
  |_=>decide (k=k')
 | .str a,.str b=>match op with
  | .add=>decide (a.length+b.length<=9223372036854775807)
  | .eql=>true| .neq=>true| .lss=>true| .geq=>true| .leq=>true| .gtr=>true
  |_=>false
 |_,_=>false
theorem acz {op:BinOp}{a b:D}(h:binB op a b=true):Ba op a b:=by
 cases a<;>cases b<;>cases op<;>simp_all[binB,Ba]
def Fb (o:Option D)(hi:Nat):Bool:=match o with
 |none=>true
 |some (.int _ n)=>decide (0<=n)&&decide (n<=hi)
 |_=>false
theorem acC {o:Option D}{hi:Nat}(h:Fb o hi=true):nq o hi:=by
 unfold Fb at h;unfold nq;split at h<;>simp_all
def UJ (J:Src->aY):Option Src->Bool
 |none=>true
 |some s=>(J s).ok
theorem aek {o:Option Src}(h:UJ J o=true):MF J o:=by cases o<;>simp_all[UJ,MF]
def elsB (m:List (Nat×bm))(k:Nat):D->Bool
 | .sl k' _=>decide (k'=k)
 | .own l k' i n=>decide (k'=k)&&Cm m l k (i+n)
 | .str _=>decide (k=1)
 | .aR=>true
 |_=>false
theorem adf {m:List (Nat×bm)}(h:elsB m k d=true):Cu m k d:=by
 cases d<;>simp_all[elsB,Cu]<;>exact wM h.2
def oblB (J:Src->aY)(m:List (Nat×bm)):az->Bool
 | .mv x=>(J x).ok
 | .pick c a b=>(J c).ok&&match(J c).d with
  | .bool true=>(J a).ok
  | .bool false=>(J b).ok
  |_=>false
 | .box k x=>(J x).ok&&decide ((J x).d.cells.length=k)
 | .build z ps=>RQ J z.length ps
 | .bsl k z n ps=>decide (z.cells.length=k)&&Cx J k n ps
 | .ld n _ p=>(J p).ok&&ldB m n (J p).d
 | .st n p v=>((J p).ok&&(J v).ok)&&(decide ((J v).d.cells.length=n)&&match(J p).d with
  | .ptr l k i o=>Cm m l k (i+1)&&decide (o+n<=k)
  |_=>false)
 | .nilck x=>(J x).ok&&match(J x).d with| .ptr .. =>true| .ref .. =>true|_=>false
 | .bin op x y=>((J x).ok&&(J y).ok)&&binB op (J x).d (J y).d
 | .mn _ x y=>((J x).ok&&(J y).ok)&&match(J x).d,(J y).d with| .int _ _,.int _ _=>true|_,_=>false
 | .un op x=>(J x).ok&&match op,(J x).d with
  | .not,.bool _=>true
  | .neg,.int _ _=>true
  |_,_=>false
 | .cvi _ x=>(J x).ok&&match(J x).d with| .int _ _=>true|_=>false
 | .mks k z ln cp=>((J ln).ok&&(J cp).ok)&&(decide (z.cells.length=k)&&match(J ln).d,(J cp).d with
  | .int _ n,.int _ c=>decide (0<=n)&&(decide (n<=c)&&decide (c<=1073741824))
  |_,_=>false)
 | .slS x lo hi=>((J x).ok&&UJ J lo)&&(UJ J hi&&match(J x).d with
  | .str s=>Fb (dO J hi) s.length&&Fb (dO J lo) (ef (dO J hi) s.length)
  |_=>false)
 | .slA k x lo hi=>((J x).ok&&UJ J lo)&&(UJ J hi&&match(J x).d with
  | .sl k' es=>decide (k'=k)&&(Fb (dO J hi) es.length&&Fb (dO J lo) (ef (dO J hi) es.length))
  | .own _ k' _ n=>decide (k'=k)&&(Fb (dO J hi) n&&Fb (dO J lo) (ef (dO J hi) n))
  | .aR=>Fb (dO J hi) 0&&Fb (dO J lo) 0
  |_=>false)
 | .slX k x hi mx=>((J x).ok&&(J hi).ok)&&((J mx).ok&&match(J hi).d,(J mx).d with
  | .int _ h,.int _ m=>decide (0<=h)&&(decide (h<=m)&&match(J x).d with
    | .sl k' es=>decide (k'=k)&&decide (m<=es.length)
    | .own _ k' _ n=>decide (k'=k)&&decide (m<=n)
    |_=>false)
  |_,_=>false)
 | .fa _ p=>(J p).ok&&match(J p).d with| .ptr .. =>true| .ref .. =>true|_=>false
 | .fld off n ag x=>(J x).ok&&match(J x).d with| .agg cs=>decide (off+n<=cs.length)&&(ag ||decide (n=1))|_=>false
 | .ia k x i=>((J x).ok&&(J i).ok)&&match(J x).d,(J i).d with
  | .sl k' es,.int _ n=>decide (k'=k)&&(decide (0<=n)&&decide (n<es.length))
  | .own _ k' _ c,.int _ n=>decide (k'=k)&&(decide (0<=n)&&decide (n<c))
  |_,_=>false
 | .iaP n _ x i=>((J x).ok&&(J i).ok)&&match(J x).d,(J i).d with
  | .ptr ..,.int _ c=>decide (0<=c)&&decide (c<n)
  | .ref ..,.int _ c=>decide (0<=c)&&decide (c<n)
  |_,_=>false
 | .ixS x i=>((J x).ok&&(J i).ok)&&match(J x).d,(J i).d with
  | .str s,.int _ n=>decide (0<=n)&&decide (n<s.length)
  |_,_=>false
 | .ixA n k ag x i=>((J x).ok&&(J i).ok)&&((ag ||decide (k=1))&&match(J x).d,(J i).d with
  | .agg cs,.int _ c=>decide (0<=c)&&(decide (c<n)&&decide (cs.length=n*k))
  |_,_=>false)
 | .ext x i=>(J x).ok&&match(J x).d with| .tup ds=>decide (i<ds.length)|_=>false
 | .len x=>(J x).ok&&match(J x).d with| .sl _ _=>true| .own .. =>true| .aR=>true|_=>false
 | .lenS x=>(J x).ok&&match(J x).d with| .str _=>true|_=>false
 | .app k x y=>((J x).ok&&(J y).ok)&&(elsB m k (J y).d&&match(J x).d with
  | .own l k' i n=>decide (k'=k)&&(Cm m l k (i+n)&&decide (n+(qw m (J y).d).length<=1073741824))
  | .aR=>decide ((qw m (J y).d).length<=1073741824)
  |_=>false)
 | .appN k y=>(J y).ok&&(elsB m k (J y).d&&decide ((qw m (J y).d).length<=1073741824))
 | .bslI k z n ps=>decide (z.cells.length=k)&&(Cx J k n ps&&aP (mc J (List.replicate n z) ps))
 | .ldU n _ p=>(J p).ok&&match(J p).d with
  | .ptr l k i o=>(Cm m l k (i+1)&&decide (o+n<=k))&& !aP (aL m l)
  | .ref k es i o=>decide (i<es.length)&&decide (o+n<=k)
  |_=>false
 | .ldW n _ p=>(J p).ok&&match(J p).d with
  | .ptr l k i o=>(Cm m l k (i+1)&&decide (o+n<=k))&&decide (4<k)
  | .ref k es i o=>decide (i<es.length)&&decide (o+n<=k)
  |_=>false
 | .ldI n _ p=>(J p).ok&&match(J p).d with
  | .ref k es i o=>decide (i<es.length)&&decide (o+n<=k)
  |_=>false
 | .stU n p v qs=>((J p).ok&&(J v).ok)&&(decide ((J v).d.cells.length=n)&&match(J p).d with
  | .ptr l k i o=>Cm m l k (i+1)&&(decide (o+n<=k)&&(decide (k<=4) ||qs.all λq=>!(ca (J q).d).contains l))
  |_=>false)
 |_=>false
theorem aei {m:List (Nat×bm)}{i:az}(h:oblB J m i=true):i.eL Y J m:=by
 cases i<;>simp only[oblB,aK,ib]at h;all_goals simp only[az.eL]
 all_goals grind [XA,T0,wM,Ym,acz,acC,adf,aek]
def az.spec:az->Bool
 | .callM .. | .callvM .. | .isNl .. =>true
 |_=>false
def LC:Ctx:=⟨λ_ _=>False,λ_ _=>.any,λ_ _ _ _=>False,λ_ _ _=>False,λ_ _ _=>.any,λ_ _ _=>.any,0⟩
def az.lone:az->Bool
 | .call .. | .callv .. | .callM .. | .callvM .. | .callF .. | .isNl .. =>false
 |_=>true
def aaL {m:List (Nat×bm)}{L:Nat}{i:az}(h:i.lone=true):i.val LC J m L=i.val Y J m L:=by
 cases i<;>first|rfl|cases h
def Xi {m:List (Nat×bm)}{L:Nat}{i:az}(h:i.lone=true):i.bR LC J m L=i.bR Y J m L:=by
 cases i<;>first|rfl|cases h
def T9 (vs:List aY)(i:az):Option (Nat×Bool)->Bool
 |none=>true
 |some (j,_)=>i.calm&&(!(vs.getD j .un).ok ||(vs.getD j .un).d.isBool)
theorem Hv {vs:List aY}{i:az}(h:T9 vs i g=true):VN vs i g:=by
 cases g<;>simp_all[T9,VN]<;>grind
def RZ (vs:List aY):Option (Nat×Bool)->Bool
 |none=>true
 |some (j,_)=>!(vs.getD j .un).ok ||(vs.getD j .un).d.isBool
theorem L0 {vs:List aY}(h:RZ vs g=true):yV vs g:=by
 cases g<;>simp_all[RZ,yV]<;>grind
abbrev EP:=Nat->List D->Option D
abbrev EM:=Nat->List D->St->Option (D×St)
variable{q:EM}
abbrev EL:=AC->List aY->St->Option (Ex×List aY×St)
def K6 (p:EP)(q:EM):List GI->List aY->List aY->St->Option (List aY×St)
 |[],_,vs,st=>some (vs,{st with nx:=st.nx+vs.length})
 |⟨i,g⟩::r,env,vs,st=>match i with
  | .callM f args=>dW (RZ vs g) (match flag vs g with
   |true=>dW (UK (Src.ev env vs) args) (match q f (iL (Src.ev env vs) args) {st with nx:=st.nx+vs.length}with
    |some (d,st')=>dW (decide (st.nx+vs.length<=st'.nx)) (K6 p q r env (vs++[⟨true,d⟩]) {st' with nx:=st'.nx-vs.length})
    |none=>none)
   |false=>K6 p q r env (vs++[⟨false,.any⟩]) st)
  | .callvM f args=>dW (RZ vs g) (match flag vs g with
   |true=>match Src.ev env vs f with
    |⟨true,.fn n caps⟩=>dW (decide (n<2000000)&&UK (Src.ev env vs) args) (match q (OP n) (OO n (iL (Src.ev env vs) args) caps) {st with nx:=st.nx+vs.length}with
     |some (d,st')=>dW (decide (st.nx+vs.length<=st'.nx)) (K6 p q r env (vs++[⟨true,d⟩]) {st' with nx:=st'.nx-vs.length})
     |none=>none)
    |_=>none
   |false=>K6 p q r env (vs++[⟨false,.any⟩]) st)
  | .call f args sh=>dW (T9 vs i g) (match flag vs g with
   |true=>dW (UK (Src.ev env vs) args) (match puS st.m sh (iL (Src.ev env vs) args)with
    |some ds=>match p f ds with
     |some d=>dW (qB (iL (Src.ev env vs) args) d) (K6 p q r env (vs++[⟨true,d⟩]) st)
     |none=>none
    |none=>none)
   |false=>K6 p q r env (vs++[⟨false,.any⟩]) st)
  |i=>dW (i.lone&&T9 vs i g) (match flag vs g with
   |true=>dW (oblB (Src.ev env vs) st.m i) (K6 p q r env (vs++[⟨true,i.val LC (Src.ev env vs) st.m (st.nx+vs.length)⟩]) {st with m:=i.bR LC (Src.ev env vs) st.m (st.nx+vs.length)})
   |false=>K6 p q r env (vs++[⟨false,.any⟩]) {st with m:=i.bR LC (Src.ev env vs) st.m (st.nx+vs.length)})
def Ss (Y:Ctx)(p:EP):=∀f ds d,p f ds=some d->Y.pre f ds/\Y.val f ds=d
def okQ (Y:Ctx)(q:EM):=∀f ds st d st',q f ds st=some (d,st')->∀K:D->St->Prop,K d st'->Y.tr f ds st K
def ajf {p:EP}(hp:Ss Y p)(hq:okQ Y q):∀{ins:List GI}{env vs:List aY}{st:St}{vs':List aY}{st':St},K6 p q ins env vs st=some (vs',st')->∀K:List aY->St->Prop,K vs' st'->eW Y draw ins env vs st K:=by
 intro ins;induction ins with
 |nil=>intro env vs st vs' st' h K hK;simp only[K6,aC,dw]at h;obtain⟨rfl,rfl⟩:=h;exact hK
 |cons gi r ih=>
  obtain⟨i,g⟩:=gi;intro env vs st vs' st' h K hK;have fin:∀{d:D} {m':List (Nat×bm)},i.spec=false->i.lv draw g=false->VN vs i g->(flag vs g=true->i.eL Y (Src.ev env vs) st.m/\i.val Y (Src.ev env vs) st.m (st.nx+vs.length)=d)->i.bR Y (Src.ev env vs) st.m (st.nx+vs.length)=m'->
    K6 p q r env (vs++[⟨flag vs g,d⟩]) {st with m:=m'} =some (vs',st')->eW Y draw (⟨i,g⟩::r) env vs st K:=by
   intro d m' h0 h1 h2 h3 h4 h5;have h6:=ih h5 K hK;subst h4;rw[show eW Y draw (⟨i,g⟩::r) env vs st K=(VN vs i g/\(flag vs g=true->i.eL Y (Src.ev env vs) st.m)/\((flag vs g=true->i.K4 draw (Src.ev env vs))->∃d,(flag vs g=true->i.val Y (Src.ev env vs) st.m (st.nx+vs.length)=d)/\
    eW Y draw r env (vs++[⟨flag vs g,d⟩]) {st with m:=i.bR Y (Src.ev env vs) st.m (st.nx+vs.length)} K))by
    cases i<;>first|(cases h0;done)|(simp only[eW];rw[h1];rfl)]
   exact⟨h2,λh=>(h3 h).1,λ_=>⟨d,λh=>(h3 h).2,h6⟩⟩
  have lon:(dW (i.lone&&T9 vs i g) (match flag vs g with
   |true=>dW (oblB (Src.ev env vs) st.m i) (K6 p q r env (vs++[⟨true,i.val LC (Src.ev env vs) st.m (st.nx+vs.length)⟩]) {st with m:=i.bR LC (Src.ev env vs) st.m (st.nx+vs.length)})
   |false=>K6 p q r env (vs++[⟨false,.any⟩]) {st with m:=i.bR LC (Src.ev env vs) st.m (st.nx+vs.length)}))=some (vs',st')->eW Y draw (⟨i,g⟩::r) env vs st K:=by
   intro h;obtain⟨h1,h2⟩:=cy h;rw[aK]at h1;have h3:=Hv h1.2;have h4:i.spec=false:=by revert h1;cases i<;>simp[az.spec,az.lone]
   have h5:i.lv draw g=false:=by cases g<;>simp_all[az.lv,T9]
   rw[Xi (Y:=Y) h1.1,aaL (Y:=Y) h1.1]at h2;cases hf:flag vs g
   .rw[hf]at h2;exact fin (d:=.any) h4 h5 h3 (λh=>by rw[hf]at h;cases h) rfl (by rw[hf];exact h2)
   .rw[hf]at h2;obtain⟨h6,h7⟩:=cy h2;exact fin h4 h5 h3 (λ_=>⟨aei h6,rfl⟩) rfl (by rw[hf];exact h7)
  cases i
  case callM f args=>
   obtain⟨h0,h⟩:=cy h;refine⟨L0 h0,λhf=>?_,λhf=>?_⟩<;>rw[hf]at h
   .obtain⟨h1,h2⟩:=cy h;split at h2
    .rename_i d st1 h3;obtain⟨h4,h5⟩:=cy h2;exact⟨HZ h1,hq _ _ _ _ _ h3 _ ⟨by simpa using h4,ih h5 K hK⟩⟩
    .cases h2
   .exact ih h K hK
  case callvM f args=>
   obtain⟨h0,h⟩:=cy h;refine⟨L0 h0,λhf=>?_,λhf=>?_⟩<;>rw[hf]at h
   .simp only at h;split at h
    .rename_i n caps h0;obtain⟨h1,h2⟩:=cy h;rw[aK]at h1;split at h2
     .rename_i d st1 h3;obtain⟨h4,h5⟩:=cy h2;rw[h0];exact⟨rfl,HZ h1.2,by simpa using h1.1,hq _ _ _ _ _ h3 _ ⟨by simpa using h4,ih h5 K hK⟩⟩
     .cases h2
    .cases h
   .exact ih h K hK
  case call f args sh=>
   simp only[K6]at h;obtain⟨h1,h2⟩:=cy h;cases hf:flag vs g
   .rw[hf]at h2;exact fin (d:=.any) rfl (by simp[az.lv,az.calm]) (Hv h1) (λh=>by rw[hf]at h;cases h) rfl (by rw[hf];exact h2)
   .rw[hf]at h2;obtain⟨h3,h4⟩:=cy h2;split at h4
    .rename_i ds h5;split at h4
     .rename_i d h6;obtain⟨h7,h8⟩:=cy h4;obtain⟨e1,e2⟩:=Zn h5;obtain⟨e3,e4⟩:=hp _ _ _ h6;refine fin (d:=d) rfl (by simp[az.lv,az.calm]) (Hv h1) (λ_=>?_) rfl (by rw[hf];exact h8);simp only[az.eL,az.val,e2,e4];exact⟨⟨HZ h3,e1,e3,h7⟩,trivial⟩
     .cases h4
    .cases h4
  all_goals exact lon h
def gY {b:Bool}{a a':Option α}{x:α}(hm:a=some x->a'=some x)(h:dW b a=some x):dW b a'=some x:=by
 obtain⟨h1,h2⟩:=cy h;rw[h1];exact hm h2
def Xm {p p':EP}{q':EM}(hp:∀f ds d,p f ds=some d->p' f ds=some d)(hq:∀f ds st d,q f ds st=some d->q' f ds st=some d):∀{ins:List GI}{env vs:List aY}{st:St}{x:List aY×St},K6 p q ins env vs st=some x->K6 p' q' ins env vs st=some x:=by
 intro ins;induction ins with
 |nil=>exact λh=>h
 |cons gi r ih=>
  obtain⟨i,g⟩:=gi;intro env vs st x h;cases i
  case callM f args=>
   refine gY (λh=>?_) h;cases hf:flag vs g<;>rw[hf]at h
   .exact ih h
   .refine gY (λh=>?_) h;split at h
    .rename_i h1;rw[hq _ _ _ _ h1];exact gY (λh=>ih h) h
    .cases h
  case callvM f args=>
   refine gY (λh=>?_) h;cases hf:flag vs g<;>rw[hf]at h
   .exact ih h
   .simp only at h⊢;split at h
    .refine gY (λh=>?_) h;split at h
     .rename_i h1;rw[hq _ _ _ _ h1];exact gY (λh=>ih h) h
     .cases h
    .cases h
  case call f args sh=>
   refine gY (λh=>?_) h;cases hf:flag vs g<;>rw[hf]at h
   .exact ih h
   .refine gY (λh=>?_) h;split at h
    .split at h
     .rename_i h2;simp only[hp _ _ _ h2];exact gY (λh=>ih h) h
     .cases h
    .cases h
  all_goals
   simp only[K6]at h⊢;obtain⟨h1,h2⟩:=cy h;rw[h1];cases hf:flag vs g<;>rw[hf]at h2
   .exact ih h2
   .obtain⟨h3,h4⟩:=cy h2;simp only[h3,dW];exact ih h4
def Be (p:EP)(q:EM)(l:EL):AC->List aY->St->Option (Ex×List aY×St)
 | .reg _ ins cm,env,st=>match K6 p q ins env [] st with
  |some (vs,st')=>some (.normal,iv env vs cm,st')
  |none=>none
 | .seq a b,env,st=>match Be p q l a env st with
  |some (.normal,e,s)=>Be p q l b e s
  |r=>r
 | .cond c a b,env,st=>match c.ev env []with
  |⟨true,.bool true⟩=>Be p q l a env st
  |⟨true,.bool false⟩=>Be p q l b env st
  |_=>none
 | .block id a,env,st=>match Be p q l a env st with
  |some (.exit j,e,s)=>if j=id then some (.normal,e,s)else some (.exit j,e,s)
  |r=>r
 | .loop a,env,st=>l a env st
 | .exit id,env,st=>some (.exit id,env,st)
 | .ret,env,st=>some (.ret,env,st)
 | .skip,env,st=>some (.normal,env,st)
def okL (Y:Ctx)(l:EL):=∀a env st e env' st',l a env st=some (e,env',st')->∀Q:Ex->List aY->St->Prop,Q e env' st'->dk Y (.loop a) Q env st
def kK {lo:Nat}{p:List aY->St->Prop}(h:p env st):Gh lo p env st:=⟨env,st,.refl _ _,h⟩
def O1 {p:EP}{l:EL}(hp:Ss Y p)(hq:okQ Y q)(hl:okL Y l):∀{c:AC}{env:List aY}{st:St}{e:Ex}{env':List aY}{st':St},Be p q l c env st=some (e,env',st')->∀Q:Ex->List aY->St->Prop,Q e env' st'->dk Y c Q env st:=by
 intro c;induction c with
 |reg draw ins cm=>
  intro env st e env' st' h Q hQ;simp only[Be]at h;split at h
  .rename_i vs s1 h1;simp only[aC,dw]at h;obtain⟨rfl,rfl,rfl⟩:=h;exact kK (ajf hp hq h1 _ hQ)
  .cases h
 |seq a b iha ihb=>
  intro env st e env' st' h Q hQ;simp only[Be]at h;split at h
  .rename_i e1 s1 h1;exact kK (iha h1 _ (ihb h _ hQ))
  .rename_i h1;refine kK (iha h _ ?_);cases e with
   |normal=>exact absurd h (h1 _ _)
   |exit j=>exact hQ
   |ret=>exact hQ
 |cond c a b iha ihb=>
  intro env st e env' st' h Q hQ;simp only[Be]at h;split at h
  .rename_i h1;refine kK ⟨by rw[h1], ?_⟩;rw[h1];exact⟨λ_=>iha h _ hQ,λh=>cw⟩
  .rename_i h1;refine kK ⟨by rw[h1], ?_⟩;rw[h1];exact⟨λh=>cw,λ_=>ihb h _ hQ⟩
  .cases h
 |block id a iha=>
  intro env st e env' st' h Q hQ;simp only[Be]at h;split at h
  .rename_i j e1 s1 h1;refine kK (iha h1 _ ?_);show if j=id then _ else _
   split at h
   .rename_i h2;simp only[aC,dw]at h;obtain⟨rfl,rfl,rfl⟩:=h;rw[ak h2];exact hQ
   .rename_i h2;simp only[aC,dw]at h;obtain⟨rfl,rfl,rfl⟩:=h;rw[ai h2];exact hQ
  .rename_i h1;refine kK (iha h _ ?_);cases e with
   |exit j=>exact absurd h (h1 _ _ _)
   |normal=>exact hQ
   |ret=>exact hQ
 |loop a _=>exact λh=>hl _ _ _ _ _ _ h
 |exit id=>intro env st e env' st' h Q hQ;simp only[Be,aC,dw]at h;obtain⟨rfl,rfl,rfl⟩:=h;exact kK hQ
 |ret=>intro env st e env' st' h Q hQ;simp only[Be,aC,dw]at h;obtain⟨rfl,rfl,rfl⟩:=h;exact kK hQ
 |skip=>intro env st e env' st' h Q hQ;simp only[Be,aC,dw]at h;obtain⟨rfl,rfl,rfl⟩:=h;exact kK hQ
def Xl {p p':EP}{q':EM}{l l':EL}(hp:∀f ds d,p f ds=some d->p' f ds=some d)(hq:∀f ds st d,q f ds st=some d->q' f ds st=some d)(hl:∀a env st d,l a env st=some d->l' a env st=some d):∀{c:AC}{env:List aY}{st:St}{x:Ex×List aY×St},Be p q l c env st=some x->Be p' q' l' c env st=some x:=by
 intro c;induction c with
 |reg draw ins cm=>
  intro env st x h;simp only[Be]at h⊢;split at h
  .rename_i h1;rw[Xm hp hq h1];exact h
  .cases h
 |seq a b iha ihb=>
  intro env st x h;simp only[Be]at h⊢;split at h
  .rename_i h1;rw[iha h1];exact ihb h
  .rename_i h1;rw[iha h];obtain⟨e,e1,s1⟩:=x;cases e with
   |normal=>exact absurd h (h1 _ _)
   |exit j=>rfl
   |ret=>rfl
 |cond c a b iha ihb=>
  intro env st x h;simp only[Be]at h⊢;split at h
  .exact iha h
  .exact ihb h
  .cases h
 |block id a iha=>
  intro env st x h;simp only[Be]at h⊢;split at h
  .rename_i h1;rw[iha h1];exact h
  .rename_i h1;rw[iha h];obtain⟨e,e1,s1⟩:=x;cases e with
   |exit j=>exact absurd h (h1 _ _ _)
   |normal=>rfl
   |ret=>rfl
 |loop a _=>exact λh=>hl _ _ _ _ h
 |exit id=>exact λh=>h
 |ret=>exact λh=>h
 |skip=>exact λh=>h
def Ex.R1:Ex->Bool
 | .exit _=>false
 |_=>true
def aae (m:List (Nat×bm))(env:List aY):List G8->Bool
 |[]=>true
 |r::rs=>((env.getD r.s .un).ok&&match r.mem with
   |none=>true
   |some (n,_)=>ldB m n (env.getD r.s .un).d)&&aae m env rs
def L2 {e:Ex}(h:e.R1=true):e.home:=by cases e<;>simp_all[Ex.R1,Ex.home]
theorem SM {m:List (Nat×bm)}:∀{l:List G8},aae m env l=true->oD m env l:=by
 intro l;induction l<;>grind [aae,oD,Ym]
structure EvS where
 p:EP
 q:EM
 l:EL
def evF (E:EvS)(a:aj)(ds:List D):Option D:=dW (decide (ds.length=a.np)) (match Be E.p E.q E.l a.body (fP a ds) ⟨0,[]⟩with
 |some (e,env,st)=>dW (e.R1&&aae st.m env a.res) (match a.res with
  |[r]=>puV st.m 9 (a.rsh.getD 0 []) (IB st.m env r)
  |rs=>(puS st.m a.rsh (qZ st.m env rs)).map .tup)
 |none=>none)
def evM (E:EvS)(a:aj)(ds:List D)(st:St):Option (D×St):=dW (decide (ds.length=a.np)) (match Be E.p E.q E.l a.body (fP a ds) st with
 |some (e,env,st')=>dW (e.R1&&aae st'.m env a.res) (some (j5 a env st',st'))
 |none=>none)
def lq (tb:Nat->Option aj)(ex:EP):Nat->EvS
 |0=>⟨λ_ _=>none,λ_ _ _=>none,λ_ _ _=>none⟩
 |n+1=>⟨λf ds=>match tb f with
   |some a=>evF (lq tb ex n) a ds
   |none=>ex f ds,λf ds st=>match tb f with
   |some a=>evM (lq tb ex n) a ds st
   |none=>none,λa env st=>match Be (lq tb ex n).p (lq tb ex n).q (lq tb ex n).l a env st with
   |some (.normal,e,s)=>(lq tb ex n).l a e s
   |r=>r⟩
section
variable {tb:Nat->Option aj}{ex:EP}
def FP:(∀f ds d,(lq tb ex n).p f ds=some d->(lq tb ex (n+1)).p f ds=some d)/\(∀f ds st d,(lq tb ex n).q f ds st=some d->(lq tb ex (n+1)).q f ds st=some d)/\∀a env st d,(lq tb ex n).l a env st=some d->(lq tb ex (n+1)).l a env st=some d:=by
 induction n with
 |zero=>exact⟨λ_ _ _ h=>cw,λ_ _ _ _ h=>cw,λ_ _ _ _ h=>cw⟩
 |succ n ih=>
  obtain⟨h1,h2,h3⟩:=ih;have hc:∀{c:AC} {env:List aY} {st:St} {x:Ex×List aY×St},Be (lq tb ex n).p (lq tb ex n).q (lq tb ex n).l c env st=some x->Be (lq tb ex (n+1)).p (lq tb ex (n+1)).q (lq tb ex (n+1)).l c env st=some x:=λh=>Xl h1 h2 h3 h
  refine⟨λf ds d h=>?_,λf ds st d h=>?_,λa env st d h=>?_⟩
  .simp only[lq]at h⊢;split at h
   .refine gY (λh=>?_) h;split at h
    .rename_i h4;have:=hc h4;simp only[lq]at this;rw[this];exact h
    .cases h
   .exact h
  .simp only[lq]at h⊢;split at h
   .refine gY (λh=>?_) h;split at h
    .rename_i h4;have:=hc h4;simp only[lq]at this;rw[this];exact h
    .cases h
   .exact h
  .rw[lq]at h⊢;simp only at h⊢;split at h
   .rename_i h4;rw[hc h4];exact h3 _ _ _ _ h
   .rename_i h4;rw[hc h];obtain⟨e,e1,s1⟩:=d;cases e with
    |normal=>exact absurd h (h4 _ _)
    |exit j=>rfl
    |ret=>rfl
def LN {n:Nat}(h:(lq tb ex n).p f ds=some d)(hk:n<=k):(lq tb ex k).p f ds=some d:=by
 induction hk with
 |refl=>exact h
 |step _ ih=>exact(FP _).1 _ _ _ ih
def Xo {n:Nat}{d:D×St}(h:(lq tb ex n).q f ds st=some d)(hk:n<=k):(lq tb ex k).q f ds st=some d:=by
 induction hk with
 |refl=>exact h
 |step _ ih=>exact(FP _).2.1 _ _ _ _ ih
end
def VO (P:Nat->Prop):Nat:=Classical.epsilon λk=>P k/\∀j,P j->k<=j
def y4 {P:Nat->Prop}:∀{n:Nat},P n->P (VO P)/\∀j,P j->VO P<=j:=by
 have h:∀n,P n->∃k,P k/\∀j,P j->k<=j:=by
  intro n;induction n using Nat.strongRecOn with
  |_ n ih=>
   intro hn;by_cases h:∃j,P j/\j<n
   .obtain⟨j,h1,h2⟩:=h;exact ih j h2 h1
   .exact⟨n,hn,λj hj=>by
     rcases dZ j n with h1|h1
     .exact absurd ⟨j,hj,h1⟩ h
     .exact h1⟩
 exact λ{n} hn=>Classical.epsilon_spec (h n hn)
section
variable {tb:Nat->Option aj}{ex:EP}
def Xn {N:Nat}(hp:∀n,n<N->Ss Y (lq tb ex n).p)(hq:∀n,n<N->okQ Y (lq tb ex n).q):okL Y (lq tb ex N).l:=by
 intro a env st e env' st' h Q hQ
 let P:List aY->St->Nat->Prop:=λenv st n=>n<=N/\(lq tb ex n).l a env st=some (e,env',st')
 refine kK ⟨λenv st=>∃n,P env st n,λenv st=>VO (P env st),⟨N,aT _,h⟩,λenv st ⟨n,hn⟩=>?_⟩;obtain⟨⟨h1,h2⟩,h3⟩:=y4 (P:=P env st) hn;obtain⟨k,hk⟩:∃k,VO (P env st)=k:=⟨_,rfl⟩
 rw[hk]at h1 h2 h3;cases k with
 |zero=>cases h2
 |succ k=>
  rw[lq]at h2;simp only at h2;have ih:okL Y (lq tb ex k).l:=Xn (λn h=>hp n ae) λn h=>hq n ae
  split at h2
  .rename_i e1 s1 h4;refine O1 (hp k ae) (hq k ae) ih h4 _ ⟨e1,s1,.refl _ _,⟨k,ae,h2⟩, ?_⟩;have:=(y4 (P:=P e1 s1) (n:=k) ⟨ae,h2⟩).2 k ⟨ae,h2⟩;show VO (P e1 s1)<VO (P env st);omega
  .rename_i h4;refine O1 (hp k ae) (hq k ae) ih h2 _ ?_;cases e with
   |normal=>exact absurd h2 (h4 _ _)
   |exit j=>exact hQ
   |ret=>exact hQ
termination_by N
end
def bP (tb:Nat->Option aj)(ex:EP)(k f:Nat):mG where
 key:=k
 rel ds d:=∃n,(lq tb ex n).p f ds=some d
 mu ds:=VO λn=>∃d,(lq tb ex n).p f ds=some d
 relF:=noF
 tr ds st K:=∃n d st',(lq tb ex n).q f ds st=some (d,st')/\K d st'
 muE ds st:=VO λn=>∃d,(lq tb ex n).q f ds st=some d
 mono _ _ _ _ h h1:=by obtain⟨n,d,st',h2,h3⟩:=h1;exact⟨n,d,st',h2,h _ _ h3⟩
section
variable {tb:Nat->Option aj}{ex:EP}{t:List (Nat×mG)}
def D5:Det (bP tb ex k f).rel:=by
 intro ds d d' ⟨n,h⟩ ⟨n',h'⟩;have h1:=LN h (Nat.le_max_left n n');rw[LN h' (Nat.le_max_right n n')]at h1;exact(bc h1).symm
def kH {k' u n:Nat}(hr:lk t f mZ=bP tb ex k f)(hk:k<k')(h:(lq tb ex n).p f ds=some d):(under t k' u).pre f ds/\(under t k' u).val f ds=d:=
 okp (hr▸D5) (.inl (by rw[hr];exact hk)) (by rw[hr];exact⟨n,h⟩)
def Xp (hrow:∀f a,tb f=some a->lk t f mZ=bP tb ex k f)(hex:∀u,Ss (under t k u) ex){u n:Nat}(hn:n<u):Ss (under t k u) (lq tb ex n).p:=by
 intro f ds d h;cases n with
 |zero=>cases h
 |succ n=>
  cases hf:tb f with
  |none=>simp only[lq,hf]at h;exact hex u f ds d h
  |some a=>
   have hr:=hrow f a hf;refine okp (hr▸D5) (.inr ⟨by rw[hr];rfl, ?_⟩) (by rw[hr];exact⟨_,h⟩);rw[hr];have:=(y4 (P:=λn=>∃d,(lq tb ex n).p f ds=some d) ⟨d,h⟩).2 _ ⟨d,h⟩;exact Nat.lt_of_le_of_lt this hn
def Xq (hrow:∀f a,tb f=some a->lk t f mZ=bP tb ex k f)(hex:∀u,Ss (under t k u) ex){u n:Nat}(hn:n<u):okQ (under t k u) (lq tb ex n).q:=by
 intro f ds st d st' h K hK;cases n with
 |zero=>cases h
 |succ n=>
  cases hf:tb f with
  |none=>simp only[lq,hf]at h;cases h
  |some a=>
   have hr:=hrow f a hf;refine UL (.inr ⟨by rw[hr];rfl, ?_⟩) (by rw[hr];exact⟨_,_,_,h,hK⟩);rw[hr];have:=(y4 (P:=λn=>∃d,(lq tb ex n).q f ds st=some d) ⟨_,h⟩).2 _ ⟨_,h⟩;exact Nat.lt_of_le_of_lt this hn
def RP (hrow:∀f a,tb f=some a->lk t f mZ=bP tb ex k f)(hex:∀u,Ss (under t k u) ex){u n:Nat}(hn:n<u){c:AC}{e:Ex}{st':St}(h:Be (lq tb ex n).p (lq tb ex n).q (lq tb ex n).l c env st=some (e,env',st')){Q:Ex->List aY->St->Prop}(hQ:Q e env' st'):dk ((under t k u).at l) c Q env st:=
 O1 (Y:=(under t k u).at l) (Xp hrow hex hn) (Xq hrow hex hn) (Xn (λn' h=>Xp hrow hex ae) λn' h=>Xq hrow hex ae) h Q hQ
variable [cI]{P:Program}{ν:List (Nat×Nat)}{bR:List Nat}{fid:Nat}{a:aj}
theorem aO (hrow:∀f a,tb f=some a->lk t f mZ=bP tb ex k f)(hex:∀u,Ss (under t k u) ex)(hmix:P.follows .mixedOrders=true)(hC:V8 P ν bR fid a)(hf:tb f=some a):Owe P ν bR t fid f:=by
 have hr:=hrow f a hf;refine⟨?_, ?_, ?_⟩<;>rw[hr]
 .intro ds d ⟨n,h⟩;obtain⟨⟨d',h1⟩,h2⟩:=y4 (P:=λn=>∃d,(lq tb ex n).p f ds=some d) ⟨d,h⟩;have h3:d'=d:=D5 (k:=k) ds d' d ⟨_,h1⟩ ⟨_,h⟩;subst h3;show Lj P ν bR (under t k (VO λn=>∃d,(lq tb ex n).p f ds=some d)) fid ds d';generalize (VO λn=>∃d,(lq tb ex n).p f ds=some d)=N at h1;cases N with
  |zero=>cases h1
  |succ N=>
   simp only[lq,hf]at h1;obtain⟨g1,g2⟩:=cy h1;split at g2
   .rename_i e env st g3;obtain⟨g4,g5⟩:=cy g2;rw[aK]at g4;refine aw hmix hC (by simpa using g1) (RP hrow hex (Nat.lt_succ_self N) g3 ⟨L2 g4.1,SM g4.2, ?_⟩);unfold NI aaf;split at g5
    .rename_i r hres;rw[hres];exact Zo g5
    .rename_i rs hres;obtain⟨es,g6,rfl⟩:=c7.1 g5;have:=Zn g6;split
     .rename_i r hr;exact absurd hr (hres r)
     .exact⟨this.1,by rw[this.2]⟩
   .cases g2
 .exact HX
 .intro ds st K ⟨n,d,st',h,hK⟩;obtain⟨⟨d',h1⟩,h2⟩:=y4 (P:=λn=>∃d,(lq tb ex n).q f ds st=some d) ⟨_,h⟩;have h3:d'=(d,st'):=by
   have:=Xo h1 (h2 n ⟨_,h⟩);rw[h]at this;exact(bc this).symm
  subst h3;show wA P ν bR (under t k (VO λn=>∃d,(lq tb ex n).q f ds st=some d)) fid ds st K;generalize (VO λn=>∃d,(lq tb ex n).q f ds st=some d)=N at h1;cases N with
  |zero=>cases h1
  |succ N=>
   simp only[lq,hf]at h1;obtain⟨g1,g2⟩:=cy h1;split at g2
   .rename_i e env s1 g3;obtain⟨g4,g5⟩:=cy g2;rw[aK]at g4;simp only[aC,dw]at g5;obtain⟨g6,rfl⟩:=g5;intro hok x args hl hargs hs hfr;obtain⟨fn,hfn,hc,hn⟩:=hC.split;obtain⟨body,c1,_⟩:=gp hc;refine .inr ⟨fid,args,gR hfn hn (by rw[c1];rfl) args x.w, ?_⟩;refine Calls.mono (ajk (K:=K) hok hmix hfn hc hl hargs hs hfr ⟨by simpa using g1,RP hrow hex (Nat.lt_succ_self N) g3 ⟨L2 g4.1,SM g4.2, ?_⟩⟩) λe w' he=>?_
    .rw[g6];exact hK
    .grind
   .cases g2
end
def rN:aj:=bd 270
def rO:aj:=bd 304
def u7:aj:=bd 196
def yc:aj:=bd 101
def uU:aj:=bd 271
def sz:aj:=bd 308
def AI:aj:=bd 150
def xX:aj:=bd 198
def xh:aj:=bd 305
def xk:aj:=bd 306
def vv:aj:=bd 332
def vu:aj:=bd 331
def u6:aj:=bd 237
def va:aj:=bd 238
def yb:aj:=bd 156
def ye:aj:=bd 157
def rD:aj:=bd 309
def rE:aj:=bd 307
def vg:aj:=bd 197
def oP:aj:=bd 333
def Di:aj:=bd 334
def xl:aj:=bd 335
def yh:aj:=bd 355
def wS:aj:=bd 353
def A3:aj:=bd 356
def lA:aj:=bd 277
def AG:aj:=bd 278
def ve:aj:=bd 279
def AY:aj:=bd 202
def x7:aj:=bd 203
def AZ:aj:=bd 204
def D1:aj:=bd 205
def A0:aj:=bd 206
def DY:aj:=bd 207
def sy:aj:=bd 336
def mW:aj:=bd 357
def nZ:aj:=bd 358
def At:aj:=bd 359
def As:aj:=bd 360
def Cr:aj:=bd 377
def wT:aj:=bd 378
def z6:aj:=bd 369
def m8:aj:=bd 316
def m9:aj:=bd 317
def oe:aj:=bd 318
def xU:aj:=bd 319
def xT:aj:=bd 320
def x8:aj:=bd 244
def x9:aj:=bd 241
def DX:aj:=bd 242
def sV:aj:=bd 243
def DW:aj:=bd 245
def oO:aj:=bd 379
def n5:aj:=bd 380
def oQ:aj:=bd 381
def oN:aj:=bd 382
def Ar:aj:=bd 383
def Aq:aj:=bd 384
def z7:aj:=bd 389
def uS:aj:=bd 388
def oc:aj:=bd 342
def xS:aj:=bd 343
def AH:aj:=bd 344
def xW:aj:=bd 345
def AX:aj:=bd 283
def AV:aj:=bd 281
def vt:aj:=bd 282
def pY:aj:=bd 393
def m7:aj:=bd 363
def na:aj:=bd 385
def xZ:aj:=bd 211
def DU:aj:=bd 295
def vi:aj:=bd 249
def vj:aj:=bd 250
def x5:aj:=bd 251
def vl:aj:=bd 252
def x6:aj:=bd 328
def AL:aj:=bd 285
def xY:aj:=bd 287
def AM:aj:=bd 288
def AN:aj:=bd 289
def Gv:aj:=bd 324
def AK:aj:=bd 322
def Gt:aj:=bd 346
def DS:aj:=bd 366
def DP:aj:=bd 216
def AJ:aj:=bd 217
def AO:aj:=bd 364
def AP:aj:=bd 350
def Gu:aj:=bd 351
def AQ:aj:=bd 352
def xR:aj:=bd 255
def Gw:aj:=bd 256
def DT:aj:=bd 368
def sR:aj:=bd 291
def DZ:aj:=bd 292
def DV:aj:=bd 296
def vc:aj:=bd 323
def D0:aj:=bd 325
def DR:aj:=bd 329
def vr:aj:=bd 347
def AS:aj:=bd 348
def AR:aj:=bd 349
def AW:aj:=bd 365
def vo:aj:=bd 367
def AU:aj:=bd 386
def ya:aj:=bd 387
def tbT:List (Nat×aj):=[(212,rN),(444,rO),(670,u7),(572,yc),(213,uU),(448,sz),(459,AI),(672,xX),(445,xh),(446,xk),(496,vv),(495,vu),(813,u6),(814,va),(744,yb),(745,ye),(449,rD),(447,rE),(671,vg),(660,oP),(661,Di),(662,xl),(684,yh),(682,wS),(685,A3),(952,lA),(953,AG),(954,ve),(896,AY),(897,x7),(898,AZ),(899,D1),(900,A0),(901,DY),(663,sy),(808,mW),(809,nZ),(810,At),(811,As),(827,Cr),(828,wT),(819,z6),(1032,m8),(1033,m9),(1034,oe),(1035,xU),(1036,xT),(482,x8),(1006,x9),(1007,DX),(1008,sV),(676,DW),(946,oO),(947,n5),(948,oQ),(949,oN),(950,Ar),(951,Aq),(957,z7),(956,uS),(1097,oc),(1098,xS),(1099,AH),(1100,xW),(677,AX),(678,AV),(1079,vt),(1031,pY),(1126,m7),(1141,na),(156,xZ),(374,DU),(376,vi),(377,vj),(378,x5),(379,vl),(598,x6),(599,AL),(601,xY),(602,AM),(603,AN),(604,Gv),(769,AK),(771,Gt),(772,DS),(907,DP),(908,AJ),(918,AO),(919,AP),(920,Gu),(921,AQ),(1010,xR),(1011,Gw),(1021,DT),(1081,sR),(1082,DZ),(1085,DV),(1118,vc),(1119,D0),(1122,DR),(1137,vr),(1138,AS),(1139,AR),(1144,AW),(1145,vo),(1147,AU),(1148,ya)]
def afh:=∀(s:av),(kj s)->T [.str s] (cu.D (ff s))
def C908:=afh (aE Z 908)
def afg:=∀(s:av) (e:Env),(oR s/\kF e)->T [.str s,Env.D e] (.bool (Gj s e))
def C907:=afg (aE Z 907)
def aa5:=∀(s:av),(kj s)->T [.str s] (.tup [cu.D (ff s),.int .i64 0])
def afj:=aa5 (aE Z 1011)
def aa6:=∀(s:cu),(s∈gJ)->T [cu.D pH,cu.D s] (cu.D s)
def afu:=aa6 (aE Z 1085)
def aa7:=∀(v:bO),(v∈bT)->T [bO.D v] (cu.D (dG v))
def V6:=aa7 (aE Z 156)
def KJ:=∀(l:List bY) (nm:av),T [.sl 2 (l.map bY.D),.str nm] (.int .i64 (findF l nm 0))
def C955:=KJ (aE Z 955)
def Kx:=∀(l:List bY) (nm:av),T [.sl 2 (l.map bY.D),.str nm] (.bool (isF l nm))
def C816:=Kx (aE Z 816)
end Go.Abs
section
set_option maxRecDepth 10000
namespace Go.Abs
variable{d:D}{Y:Ctx}
def QL:List D->Option (List av)
 |[]=>some []
 | .str s::r=>match QL r with
  |some l=>some (s::l)
  |none=>none
 |_=>none
theorem B2:∀{l:List D}{r:List av},QL l=some r->l=r.map D.str:=by
 intro l;induction l with
 |nil=>intro r h;cases h;rfl
 |cons d l ih=>intro r h;cases d<;>simp only[QL]at h<;>grind
def uI (s:av):Bool:=decide (s.length<=1048576)
def exO:EP:=λf ds=>match ds with
 |[.str s]=>bif Nat.beq f 349 ||Nat.beq f 357 then some (.bool (gC s))else bif Nat.beq f 208 ||Nat.beq f 216 then some (.bool (dc s))else
  bif Nat.beq f 658 ||Nat.beq f 667 then some (.tup [.int .i64 (gM s),.bool (j0 s)])else none
 |[.int .i64 n]=>dW ((Nat.beq f 665 ||Nat.beq f 734)&&(decide (0<=n)&&decide (n<=9999))) (some (.str (nO n.toNat)))
 |[.str s,.int .u8 b]=>dW ((Nat.beq f 533 ||Nat.beq f 470)&&uI s) (some (.sl 1 ((aQ s b).map D.str)))
 |[.str s,.str [124,124]]=>dW (uI s&&Nat.beq f 124) (some (.sl 1 ((jh s []).map D.str)))
 |[.str s,.str [b]]=>dW (uI s) (bif Nat.beq f 124 then some (.sl 1 ((aQ s b.toNat).map D.str))else bif Nat.beq f 683&&b==32 then some (.str (Cl s))else
  bif Nat.beq f 487 then some (.tup [.str (o9 s b).1,.str (o9 s b).2.1,.bool (o9 s b).2.2])else bif Nat.beq f 254 then some (.tup [.str (dp s [b]).1,.bool (dp s [b]).2])else none)
 |[.sl 1 l]=>match QL l with
  |some l=>bif Nat.beq f 815 then some (.bool (rising l))else none
  |none=>none
 |[.sl 1 l,.int .u8 x]=>match QL l with
  |some l=>dW (Nat.beq f 249&&(decide (x=(x.toNat.toUInt8.toNat:Nat))&&uI (b6 [x.toNat.toUInt8] l))) (some (.str (b6 [x.toNat.toUInt8] l)))
  |none=>none
 |[.sl 1 l,.str s]=>match QL l with
  |some l=>dW (Nat.beq f 242&&(decide (l.length<=9)&&(decide (s.length<=4)&&l.all uI))) (some (.str (b6 s l)))
  |none=>none
 |[.agg [.int .i64 a,.int .i64 b,.int .i64 c,.str p,.str q]]=>dW ((Nat.beq f 209 ||Nat.beq f 217)&&(uI p&&uI q)) (some (.bool (fT ⟨a,b,c,p,q⟩)))
 |_=>none
def eS (n:Nat):Option aj:=lk (tbT.map λp=>(p.1,some p.2)) n none
def aji (h349:Ty Y)(h357:V1 Y)(h208:Tx Y)(h216:Ha Y)(h658:V4 Y)(h667:C667 Y)(h665:C665 Y)(h734:C734 Y)(h533:TA Y)(h470:C470 Y)(h124:C124 Y)(h9124:afy Y)(h683:C683 Y)(h487:C487 Y)(h254:C254 Y)(h815:C815 Y)(h249:C249 Y)(h242:VZ Y)(h209:yB Y)(h217:Ca Y):Ss Y exO:=by
 intro f ds d h;unfold exO at h;split at h
 .simp only[Bool.cond_eq_ite,cW,Nat.beq_eq]at h;split at h
  .rename_i hf;cases h;rcases hf with rfl|rfl
   .exact h349 _
   .exact h357 _
  split at h
  .rename_i hf;cases h;rcases hf with rfl|rfl
   .exact h208 _
   .exact h216 _
  split at h
  .rename_i hf;cases h;rcases hf with rfl|rfl
   .exact h658 _
   .exact h667 _
  .cases h
 .obtain⟨h1,h2⟩:=cy h;simp only[cW,aK,Nat.beq_eq,aX]at h1;cases h2;rcases h1 with⟨rfl|rfl,h1⟩
  .exact h665 _ h1
  .exact h734 _ h1
 .obtain⟨h1,h2⟩:=cy h;simp only[cW,aK,Nat.beq_eq,uI,aX]at h1;cases h2;rcases h1 with⟨rfl|rfl,h1⟩
  .exact h533 _ _ h1
  .exact h470 _ _ h1
 .obtain⟨h1,h2⟩:=cy h;simp only[aK,Nat.beq_eq,uI,aX]at h1;cases h2;obtain⟨h1,rfl⟩:=h1;exact h9124 _ h1
 .obtain⟨h1,h2⟩:=cy h;simp only[uI,aX]at h1;simp only[Bool.cond_eq_ite,aK,Nat.beq_eq,beq_iff_eq]at h2;split at h2
  .rename_i hf;cases h2;subst hf;exact h124 _ _ h1
  split at h2
  .rename_i hf;cases h2;obtain⟨rfl,hb⟩:=hf;exact h683 _ _ hb h1
  split at h2
  .rename_i hf;cases h2;subst hf;exact h487 _ _ h1
  split at h2
  .rename_i hf;cases h2;subst hf;exact h254 _ _ h1 aF
  .cases h2
 .split at h
  .rename_i l hl;obtain rfl:=B2 hl;simp only[Bool.cond_eq_ite,Nat.beq_eq]at h;split at h
   .rename_i hf;cases h;subst hf;exact h815 _
   .cases h
  .cases h
 .rename_i lx x;split at h
  .rename_i l hl;obtain rfl:=B2 hl;obtain⟨h1,h2⟩:=cy h;simp only[aK,Nat.beq_eq,uI,aX]at h1;cases h2;obtain⟨rfl,h3,h4⟩:=h1;revert h3 h4;generalize Nat.toUInt8 (Int.toNat x)=y;intro h3 h4;subst h3;exact h249 _ y (dN h4 a7)
  .cases h
 .split at h
  .rename_i l hl;obtain rfl:=B2 hl;obtain⟨h1,h2⟩:=cy h;simp only[aK,Nat.beq_eq,uI,List.all_eq_true,aX]at h1;cases h2;obtain⟨rfl,h3,h4,h5⟩:=h1;exact h242 _ _ ae h4 λt ht=>dN (h5 t ht) a7
  .cases h
 .obtain⟨h1,h2⟩:=cy h;simp only[cW,aK,Nat.beq_eq,uI,aX]at h1;cases h2;rcases h1 with⟨rfl|rfl,h1⟩
  .exact h209 ⟨_,_,_,_,_⟩ h1
  .exact h217 ⟨_,_,_,_,_⟩ h1
 .cases h
def iW:Option D->Bool
 |some (.bool b)=>b
 |_=>false
def dJ {o:Option D}{b:Bool}(hb:b=true)(h:iW o=true):o=some (.bool b):=by unfold iW at h;split at h<;>simp_all
def fJ (c:Bool):Option D->Bool
 |some (.bool b)=>b==c
 |_=>false
def cv {o:Option D}{b:Bool}(h:fJ b o=true):o=some (.bool b):=by unfold fJ at h;split at h<;>simp_all
def rJ (x:Int×av×av):Option D->Bool
 |some (.tup [.int .i64 a,.str b,.str c])=>decide (a=x.1)&&(b==x.2.1&&c==x.2.2)
 |_=>false
def jM {o:Option D}{x:Int×av×av}(h:rJ x o=true):o=some (.tup [.int .i64 x.1,.str x.2.1,.str x.2.2]):=by unfold rJ at h;split at h<;>simp_all
def verO:D->Option bO
 | .agg [.int .i64 a,.int .i64 b,.int .i64 c,.str p,.str q]=>some ⟨a,b,c,p,q⟩
 |_=>none
def ae7 {v:bO}(h:verO d=some v):d=v.D:=by
 unfold verO at h;split at h
 .cases h;rfl
 .cases h
def cutO:D->Option Cut
 | .agg [.int .i64 e,.int .i64 a,.int .i64 b,.int .i64 c,.str p,.str q,.bool z]=>some ⟨e,⟨a,b,c,p,q⟩,z⟩
 |_=>none
def RL {v:Cut}(h:cutO d=some v):d=v.D:=by
 unfold cutO at h;split at h
 .cases h;rfl
 .cases h
def GG:D->Option Span
 | .agg [.int .i64 e,.int .i64 a,.int .i64 b,.int .i64 c,.str p,.str q,.bool z,.int .i64 e',.int .i64 a',.int .i64 b',.int .i64 c',.str p',.str q',.bool z']=>some ⟨⟨e,⟨a,b,c,p,q⟩,z⟩,⟨e',⟨a',b',c',p',q'⟩,z'⟩⟩
 |_=>none
def yl {v:Span}(h:GG d=some v):d=v.D:=by
 unfold GG at h;split at h
 .cases h;rfl
 .cases h
def C9 {α:Type}(f:D->Option α):List D->Option (List α)
 |[]=>some []
 |d::r=>match f d with
  |some a=>match C9 f r with
   |some l=>some (a::l)
   |none=>none
  |none=>none
def sE {α:Type}{f:D->Option α}{q:α->D}(hq:∀{d:D}{a:α},f d=some a->d=q a):∀{l:List D}{r:List α},C9 f l=some r->l=r.map q
 |[],r,h=>by cases h;rfl
 |d::l,r,h=>by
  unfold C9 at h;split at h
  .rename_i a ha;split at h
   .rename_i t ht;cases h;rw[hq ha,sE hq ht];rfl
   .cases h
  .cases h
def Xt:D->Option bY
 | .agg [.str n,.sl 1 l]=>match QL l with
  |some l=>some ⟨n,l⟩
  |none=>none
 |_=>none
def Xv {v:bY}(h:Xt d=some v):d=v.D:=by
 unfold Xt at h;split at h
 .split at h
  .rename_i l hl;cases h;rw[B2 hl];rfl
  .cases h
 .cases h
def smV (v:bO):Bool:=uI v.pre&&uI v.build
def II {v:bO}(h:smV v=true):v.sm:=by simpa[smV,uI,bO.sm]using h
def smS (s:Span):Bool:=smV s.f.v&&smV s.t.v
def aau {s:Span}(h:smS s=true):s.sm:=by
 rw[smS,aK]at h;exact⟨II h.1,II h.2⟩
def QJ {l:List Span}(h:l.all smS=true):zX l:=λs hs=>aau (List.all_eq_true.1 h s hs)
def R3 (d:D):Option cu:=match d with
 | .agg [.sl 14 a,.sl 14 b]=>match C9 GG a with
  |some a=>match C9 GG b with
   |some b=>some ⟨a,b⟩
   |none=>none
  |none=>none
 |_=>none
def L7 {v:cu}(h:R3 d=some v):d=v.D:=by
 unfold R3 at h;split at h
 .split at h
  .rename_i a ha;split at h
   .rename_i b hb;cases h;rw[sE yl ha,sE yl hb];rfl
   .cases h
  .cases h
 .cases h
def ex1 (f:Nat)(d:D):Option D:=bif Nat.beq f 144 then(match d with
  | .agg [.str a,.str b,.str c]=>some (.bool (pd ⟨a,b,c⟩))
  |_=>none)else bif Nat.beq f 600 then(match verO d with
  |some v=>some (.bool (vL v))
  |none=>none)else bif Nat.beq f 1019 then(match GG d with
  |some s=>dW (smS s) (some (.bool (qf s)))
  |none=>none)else bif Nat.beq f 770 then(match R3 d with
  |some s=>dW (s.rel.all smS&&s.pr.all smS) (some (.bool (wc s)))
  |none=>none)else bif Nat.beq f 916 then(match d with
  | .sl 14 l=>match C9 GG l with
   |some l=>dW (l.all smS) (some (.bool (sX l)))
   |none=>none
  |_=>none)else none
def exN:EP:=λf ds=>match ds with
 |[]=>dW (Nat.beq f 375) (some (cu.D Sq))
 |[d]=>ex1 f d
 |[.sl 2 l,.str s]=>match C9 Xt l with
  |some l=>dW (Nat.beq f 816) (some (.bool (isF l s)))
  |none=>none
 |[a,b]=>match cutO a with
  |some a=>match cutO b with
   |some b=>dW (Nat.beq f 1020&&(smV a.v&&smV b.v)) (some (.int .i64 (lg a b)))
   |none=>none
  |none=>none
 |_=>none
def ajg (h144:C144 Y)(h600:C600 Y)(h1019:Lb Y)(h770:V5 Y)(h916:V7 Y){f:Nat}{e:D}(h:ex1 f d=some e):Y.pre f [d]/\Y.val f [d]=e:=by
 unfold ex1 at h;simp only[Bool.cond_eq_ite,Nat.beq_eq]at h;split at h
 .rename_i hf;subst hf;split at h
  .cases h;exact h144 ⟨_,_,_⟩
  .cases h
 split at h
 .rename_i hf;subst hf;split at h
  .rename_i v hv;cases h;rw[ae7 hv];exact h600 v
  .cases h
 split at h
 .rename_i hf;subst hf;split at h
  .rename_i s hs;obtain⟨h1,h2⟩:=cy h;cases h2;rw[yl hs];exact h1019 s (aau h1)
  .cases h
 split at h
 .rename_i hf;subst hf;split at h
  .rename_i s hs;obtain⟨h1,h2⟩:=cy h;rw[aK]at h1;cases h2;rw[L7 hs];exact h770 s ⟨QJ h1.1,QJ h1.2⟩
  .cases h
 split at h
 .rename_i hf;subst hf;split at h
  .split at h
   .rename_i l hl;obtain⟨h1,h2⟩:=cy h;cases h2;rw[sE yl hl];exact h916 l (QJ h1)
   .cases h
  .cases h
 .cases h
def ajh (h144:C144 Y)(h375:C375 Y)(h600:C600 Y)(h770:V5 Y)(h816:C816 Y)(h916:V7 Y)(h1019:Lb Y)(h1020:Rn Y):Ss Y exN:=by
 intro f ds d h;unfold exN at h;split at h
 .obtain⟨h1,h2⟩:=cy h;cases h2;obtain rfl:=Nat.eq_of_beq_eq_true h1;exact h375
 .exact ajg h144 h600 h1019 h770 h916 h
 .split at h
  .rename_i l hl;obtain⟨h1,h2⟩:=cy h;cases h2;obtain rfl:=Nat.eq_of_beq_eq_true h1;rw[sE Xv hl];exact h816 _ _
  .cases h
 .split at h
  .rename_i a ha;split at h
   .rename_i b hb;obtain⟨h1,h2⟩:=cy h;simp only[aK]at h1;cases h2;obtain⟨h1,h3,h4⟩:=h1;obtain rfl:=Nat.eq_of_beq_eq_true h1;rw[RL ha,RL hb];exact h1020 _ _ ⟨II h3,II h4⟩
   .cases h
  .cases h
 .cases h
def eK:EP:=λf ds=>match exO f ds with
 |some d=>some d
 |none=>exN f ds
def ajj (h1:Ss Y exO)(h2:Ss Y exN):Ss Y eK:=by
 intro f ds d h;unfold eK at h;split at h
 .rename_i e he;cases h;exact h1 f ds d he
 .exact h2 f ds d h
def Ey (v:cu):Option D->Bool
 |some d=>match R3 d with
  |some x=>decide (x=v)
  |none=>false
 |none=>false
def fY {o:Option D}{v:cu}(h:Ey v o=true):o=some v.D:=by
 unfold Ey at h;split at h
 .split at h
  .rename_i x hx;rw[L7 hx,of_decide_eq_true h]
  .cases h
 .cases h
def vsZ (v:cu):Option D->Bool
 |some (.tup [d,.int .i64 0])=>Ey v (some d)
 |_=>false
def tc {o:Option D}{v:cu}(h:vsZ v o=true):o=some (.tup [v.D,.int .i64 0]):=by
 unfold vsZ at h;split at h
 .rw[bc (fY h)]
 .cases h
abbrev b9 (f:Nat)(ds:List D):Option D:=(lq eS eK 60).p f ds
end Go.Abs
end
namespace Go.Abs
variable{c:List Int}{us:List dz}{shop l:List cj}(T:List D->D->Prop){w:cA}{od:List (List Int)}{P:Key->Prop}{y:cx}(ks:List Int){n j:Nat}(Z:Ctx){k:Int}{r:Rec}
section
variable {Y:Ctx}{draw:Bool}{r:List GI}{env rs:List aY}{nx:Nat}{m:List (Nat×bm)}{K:List aY->St->Prop}{g:Option (Nat×Bool)}{f:Bool}
def r_mn {x y:Src}{fx fy:Bool}{k k2:IntKind}{a b:Int}(v:Int)(h:aB Y draw r env (⟨f,.int k v⟩::rs) nx m K)(hg:GF rs g f:=by first|exact rfl|exact⟨_,_,rfl,rfl⟩)(hx:bS env rs x=⟨fx,.int k a⟩:=by exact rfl)(hy:bS env rs y=⟨fy,.int k2 b⟩:=by exact rfl)(kx:f=true->fx=true:=by first|exact λ_=>rfl|exact λh=>h|(intro h;simp_all))(ky:f=true->fy=true:=by first|exact λ_=>rfl|exact λh=>h|(intro h;simp_all))(hv:f=true->(if b<a then b else a)=v):aB Y draw (⟨.mn false x y,g⟩::r) env rs nx m K:=
 bz rfl hg _ (λhf=>by simp[az.eL,hx,hy,kx hf,ky hf]) (λhf=>by simp only[az.val,hx,hy,ib,a8];rw[hv hf]) (λ_=>h)
end
def Js:=∀(n:Int),(0<=n/\n<=40)->T [.int .i64 n] (.int .i64 (2^n.toNat))
def C381:=Js (aE Z 381)
def I4:=∀(w:cA) (u:Int),(w.sm)->T [cA.D w,.int .i64 u] (.int .i64 (nT w.us u))
def C158:=I4 (aE Z 158)
def Jx:=∀(w:cA) (x:Want),(w.sm/\x.sm)->T [cA.D w,Want.D x] (.int .i64 (uJ w.us x))
def C415:=Jx (aE Z 415)
def I6:=∀(w:cA) (c:List Int),(w.sm/\(eV w c=true->WrgP w c))->T [cA.D w,.sl 1 (c.map (D.int .i64))] (.bool (eV w c&&decide ((rq w c).length=0)))
def C176:=I6 (aE Z 176)
def SA {r i:Nat}(h:0<r)(hn:n<1000000):MY us r i n=MY us (r-1) (i+1) (if us[i]!.feat=[]then n*(us[i]!.cands.length+1)else n):=by
 obtain⟨q,rfl⟩:∃q,r=q+1:=⟨r-1,ae⟩
 rw[MY,ak hn];rfl
def Zl {r i:Nat}(h:r=0\/¬n<1000000):MY us r i n=n:=by
 cases r with
 |zero=>rfl
 |succ r=>rw[MY,ai ae]
def aeu {i:Nat}(h:us[i]!.cands.length<=16)(hn:vQ us i<1000000):vQ us (i+1)<=20000000:=by
 rw[vQ];split
 .exact dN (Nat.mul_le_mul (show vQ us i<=1000000 by omega) (show us[i]!.cands.length+1<=17 by omega)) a7
 .omega
def akM {i:Nat}(h:us[i]!.feat=[]):((vQ us i:Nat):Int)*(((us[i]!.cands.length:Nat):Int)+1)=((vQ us (i+1):Nat):Int):=by rw[vQ,ak h];push_cast;rfl
def akL {i:Nat}(h:¬us[i]!.feat=[]):vQ us i=vQ us (i+1):=by rw[vQ,ai h]
def pZ (us:List dz)(l:List Int)(u:Nat):List (List Int):=(List.range u).map (Fs us l)
def UP (us:List dz)(l:List Int)(u:Nat):(pZ us l u).length=u:=by simp[pZ]
def aeq (us:List dz)(l:List Int)(u:Nat):pZ us l u++[Fs us l u]=pZ us l (u+1):=by simp[pZ,List.range_succ]
def ord_z {l:List Int}(h:l.length=0):ix us l=[]:=ak h
def ord_e {l:List Int}(h:¬l.length=0):ix us l=pZ us l us.length:=ai h
def XQ {o:List Int}{p:Int}(h:j<o.length):(o8 (λk=>decide (o[k]! =p)) 0 j ||decide (o[j]! =p))=o8 (λk=>decide (o[k]! =p)) 0 (j+1):=by
 rw[Bool.eq_iff_iff,cW,wH,wH];constructor
 .rintro(⟨i,h1,h2,h3⟩|h1)
  .exact⟨i,h1,ae,h3⟩
  .exact⟨j,ae,ae,h1⟩
 .rintro⟨i,h1,h2,h3⟩;rcases dZ i j with h4|h4
  .exact .inl ⟨i,h1,h4,h3⟩
  .obtain rfl:i=j:=ae;exact .inr h3
def MK {n:Nat}{k:Int}:∀i,(kv n k i).length<=i
 |0=>aT _
 |i+1=>by
  have:=MK (n:=n) (k:=k) i;rw[kv];split
  .omega
  .rw[bV,List.length_singleton];omega
def akB {i:Nat}(h:Uc (kv n k i) (Ft n k i)=false):kv n k i++[Ft n k i]=kv n k (i+1):=by rw[kv,ai mS]
def akA {i:Nat}(h:Uc (kv n k i) (Ft n k i)=true):kv n k i=kv n k (i+1):=by rw[kv,ak h]
def aad {a b:Int}(ha:0<=a):a.tmod b=a%b:=Int.tmod_eq_emod_of_nonneg ha
def akE {i:Nat}(hi:i<=16):0<=(i:Int)*(1+k%3)/\(i:Int)*(1+k%3)<=48:=by
 have h1:=Int.emod_nonneg k (show(3:Int)≠0 by decide);have h2:=Int.emod_lt_of_pos k (show(0:Int)<3 by decide);exact⟨Int.mul_nonneg ae ae,Int.le_trans (Int.mul_le_mul (show(i:Int)<=16 by omega) (show 1+k%3<=3 by omega) ae ae) a7⟩
def ads (l k:Nat)(es:List Abs.D)(o:List (List Int)):oL l k es (o.map jL)=o.map jL:=kJ l k es _ (cb (λ_=>rfl) _)
def RY (l k:Nat)(es:List Abs.D)(w:cA):iX l k es (cA.D w)=cA.D w:=rfl
def N6 (o:List Int)(n:Nat):∀i,(cD o n i).length<=o.length+i
 |0=>aT _
 |i+1=>by
  have:=N6 o n i;rw[cD];split
  .omega
  .rw[bV,List.length_singleton];omega
def aly {o:List Int}{t:Nat}(h:Uc (cD o n t) ((n:Int) -1-(t:Int))=false):cD o n t++[((n:Nat):Int) -1-((t:Nat):Int)]=cD o n (t+1):=by rw[cD,ai mS]
def alx {o:List Int}{t:Nat}(h:Uc (cD o n t) ((n:Int) -1-(t:Int))=true):cD o n t=cD o n (t+1):=by rw[cD,ak h]
def akD {u:Int}(h:u<(od.length:Int)):cP od u=od[u.toNat]! :=ak h
def akC {u:Int}(h:¬u<(od.length:Int)):cP od u=[]:=ai h
def vP {m:j9}{b:Bool}(hm:wB m)(hO:yC m od)(hc:K3 m c)(h:nlB (PN (mC m od c)) b):(b=true->mC m od c=none)/\(b=false->∃d,mC m od c=some d):=by
 cases e:mC m od c with
 |none=>rw[e]at h;exact⟨λ_=>rfl,λhb=>by rw[hb]at h;cases h⟩
 |some d=>
  have h2:=(mB hm hO _ _ hc e).2.1;have h3:=hm.1.1;refine⟨λhb=>?_,λ_=>⟨d,rfl⟩⟩;rw[e]at h;have h4:d.map (D.int .i64)=[]:=h hb;have h5:=ar List.length h4;simp only[bh,b7]at h5;omega
def YC {x:Want}(hs:∀x∈w.us,x.cands.length<=16)(hc:ChP w.us c)(h0:0<=x.u)(h1:x.u<(w.us.length:Int)):TD w.us (Ao c) x↔lj w c x=true:=by
 obtain⟨u,hu⟩:∃u:Nat,x.u=((u:Nat):Int):=⟨x.u.toNat,ae⟩
 have hul:u<w.us.length:=ae;have hcu:=hc.2 u hul;unfold TD lj Ao;rw[WM hu hul hs,hu,Int.toNat_natCast];simp only[aK,aX];constructor
 .rintro⟨⟨h2,h3⟩,h4⟩;have e:(c[u]! +1).toNat-1=c[u]!.toNat:=ae;rw[e]at h4;exact⟨ae,h4⟩
 .rintro⟨h2,h3⟩;have e:(c[u]! +1).toNat-1=c[u]!.toNat:=ae;rw[e];exact⟨⟨ae,ae⟩,h3⟩
def Wi (hw:hR w=true):InW w:=by
 intro u hu c hc;obtain⟨i,hi,rfl⟩:=fS hu;obtain⟨k,hk,rfl⟩:=fS hc;exact EB hw hi hk
def CD (hw:hR w=true)(hs:∀x∈w.us,x.cands.length<=16)(hc:ChP w.us c)(h:CB (dx w.us) c=true):(eV w c=true/\rq w c=[])/\0<=c[0]! :=by
 have hS:=alp hw hs hc h;have hI:=Wi hw;have hm:eV w c=true:=by
  unfold eV vI;rw[hw,ez,aK,aX,bG];refine⟨hc.1,λj _ hj=>?_⟩;have:=hc.2 j (by rw[<-hc.1];exact hj);unfold CM;rw[aK,aX,aX];exact this
 refine⟨⟨hm,(B6 hm).2 λu hu h0=>?_⟩, ?_⟩
 .have hul:u<w.us.length:=by rw[<-hc.1];exact hu
  have hcu:=hc.2 u hul;have hk:Ao c u≠0:=by unfold Ao;omega
  have e:Ao c u-1=c[u]!.toNat:=by unfold Ao;omega
  obtain⟨_,_,_,g1,g2,_⟩:=hS;have g1:=g1 u hul hk;have g2:=g2 u hul hk;rw[e]at g1 g2;have hmem:bJ w c u∈w.us[u]!.cands:=aq ae;obtain⟨hI1,hI2⟩:=hI _ (aq hul) _ hmem;refine⟨λk hk=>?_,λk hk=>?_⟩
  .obtain⟨x,hx,hmx⟩:=g1 _ (aq hk);have:=hI1 _ (aq hk) x hx;exact List.any_eq_true.2 ⟨x,hx,(YC hs hc this.1 this.2).1 hmx⟩
  .have hx:=aq hk;have:=hI2 _ hx;cases hq:lj w c (bJ w c u).bars[k]! with
   |false=>rfl
   |true=>exact absurd ((YC hs hc this.1 this.2).2 hq) (g2 _ hx)
 .unfold CB at h;rw[aK,aX]at h;exact h.1
section
variable {m:gI}{e:Env}{os:List Int}
abbrev dH (m:gI)(shop:List cj)(e:Env):cA×Int:=fV [m] shop e []
abbrev yu (m:gI)(shop:List cj)(e:Env):cx:=yr [m] shop e []
def yi (h:¬(dH m shop e).2=0\/5000<zj (dH m shop e).1.us):di m shop e os=((dH m shop e).1,[],false):=ak h
def yj (h:(dH m shop e).2=0/\¬5000<zj (dH m shop e).1.us)(hn:jV (dH m shop e).1.us (ix (dH m shop e).1.us os)=none):di m shop e os=((dH m shop e).1,[],false):=by
 unfold di;rw[ai (by rintro(h1|h1);exact h1 h.1;exact h.2 h1),hn]
def yk (h:(dH m shop e).2=0/\¬5000<zj (dH m shop e).1.us)(hn:jV (dH m shop e).1.us (ix (dH m shop e).1.us os)=some c):di m shop e os=((dH m shop e).1,rS (dH m shop e).1 c,true):=by
 unfold di;rw[ai (by rintro(h1|h1);exact h1 h.1;exact h.2 h1),hn]
def pL (hy:qy (yu m shop e))(h:(dH m shop e).2=0):La (dH m shop e).1/\hR (dH m shop e).1=true:=by
 unfold dH fV at*
 split at h
 .cases h
 .split at h
  .cases h
  .split at h
   .cases h
   .rename_i h3;have h4:(cK (yu m shop e)).2=true:=by simpa using h3
    rw[ai lY,ai lY,ai h3];obtain⟨_,_,_,_,h5⟩:=qk hy.p h4;exact⟨h5,EC hy h4⟩
def T4 (hy:qy (yu m shop e))(h:(dH m shop e).2=0)(os:List Int):((((dH m shop e).1.sm/\(dH m shop e).1.us.length<=1000)/\Few (dH m shop e).1.us)/\hR (dH m shop e).1=true)/\yC (dx (dH m shop e).1.us) (ix (dH m shop e).1.us os):=by
 obtain⟨h1,h2⟩:=pL hy h;have:=h1.len;exact⟨⟨⟨⟨h1.sm,ae⟩,h1.few⟩,h2⟩,p0 os⟩
def T3 (hy:qy (yu m shop e))(h:(dH m shop e).2=0)(hn:jV (dH m shop e).1.us (ix (dH m shop e).1.us os)=some c):c.length<=1000:=by
 obtain⟨h1,h2⟩:=pL hy h;have h3:=(mB h1.msk (p0 os) _ _ (sL _) hn).2.1;have h4:=h1.msk.1;omega
def LV (hy:qy (yu m shop e))(h:(dH m shop e).2=0){b:Bool}(hb:nlB (PN (jV (dH m shop e).1.us (ix (dH m shop e).1.us os))) b):(b=true->jV (dH m shop e).1.us (ix (dH m shop e).1.us os)=none)/\(b=false->∃d,jV (dH m shop e).1.us (ix (dH m shop e).1.us os)=some d):=
 vP (pL hy h).1.msk (p0 os) (sL _) hb
end
section
variable {e:Env}{u:Nat}{x:fj}
def OfP (shop:List cj)(w:cA)(c:List Int):Prop:=jG shop/\w.sm/\0<=c[0]!
def of_a (h:((hR w=false\/eR shop=false)\/pd e=false)\/eV w c=false):HY shop e w c=(HJ,1):=ak h
def of_b (h:((hR w=true/\eR shop=true)/\pd e=true)/\eV w c=true)(h2:eV w c=false\/¬(rq w c).length=0):HY shop e w c=(HJ,37):=by
 unfold HY;rw[ai gQ,ak (h2.resolve_left (by simp[h.2]))]
def of_x (h:((hR w=true/\eR shop=true)/\pd e=true)/\eV w c=true)(h2:eV w c=true/\(rq w c).length=0):HY shop e w c=if ¬(eQ shop w c).2=0 then(HJ,(eQ shop w c).2)else(⟨e,(eQ shop w c).1⟩,0):=by
 unfold HY;rw[ai gQ,ai (λh3=>h3 h2.2)]
def of_c (h:((hR w=true/\eR shop=true)/\pd e=true)/\eV w c=true)(h2:eV w c=true/\(rq w c).length=0)(h0:(dP shop w.us c u).2=0)(hs:ei w.us c u=false)(hu:u<w.us.length)(k:Int)(hk:¬k=0)(hl:(eA shop w.us c u (cG w.us c u)).2=k):HY shop e w c=(HJ,k):=by
 have h3:=Ut h0 hs rfl (by rw[hl];exact hk);rw[hl]at h3;have h4:eQ shop w c=([],k):=(F5 (i:=u+1) (by rw[h3];exact hk) ae).trans h3;rw[of_x h h2,h4,ak hk]
def of_d (h:((hR w=true/\eR shop=true)/\pd e=true)/\eV w c=true)(h2:eV w c=true/\(rq w c).length=0)(h0:(eQ shop w c).2=0):HY shop e w c=(⟨e,(eQ shop w c).1⟩,0):=by
 rw[of_x h h2,ai (λh=>h h0)]
def ajW (h:x.sh=-1):eA shop w.us c u x=(⟨w.us[u]!.name,x.v,[],0,mb w.us c u⟩,0):=ak h
def ajX (h:¬x.sh=-1)(h2:x.sh<0\/(shop.length:Int)<=x.sh):(eA shop w.us c u x).2=12:=by unfold eA;rw[ai h,ak h2]
def ajY (h:¬x.sh=-1)(h2:¬x.sh<0/\¬(shop.length:Int)<=x.sh)(h3:(entP shop[x.sh.toNat]! w.us[u]!.name x.v).2=false):(eA shop w.us c u x).2=9:=by
 unfold eA entP at*
 rw[ai h,ai ae];split at h3
 .rename_i h4;rw[ak h4]
 .cases h3
end
def aj0 (l k:Nat)(es:List Abs.D)(x:ea):iX l k es (ea.D x)=ea.D x:=rfl
def adt (l k:Nat)(es:List Abs.D)(o:List ea):oL l k es (o.map ea.D)=o.map ea.D:=kJ l k es _ (cb (λ_=>rfl) _)
def OC (r:Rec):Prop:=r.v∈bT/\∀n∈r.needs,∀w∈n.any,∀f∈w.feats,f=fW
def GenS (l:List cj):=∀s∈l,∀x∈s.es,OC x.r
def acp (g:Gs)(own:av):∀w∈(gK g own).1,∀f∈w.feats,f=fW:=by
 unfold gK;split
 .intro w hw;simp only[bU,de,or_false]at hw;rcases hw with rfl|rfl<;>intro f hf<;>cases hf
 .split
  .intro w hw f hf;rw[aJ.1 hw]at hf;exact aJ.1 hf
  .intro w hw f hf;rw[aJ.1 hw]at hf;cases hf
def YG (own:av)(g:Gs):∀i,∀n∈(nS own g i).1,∀w∈n.any,∀f∈w.feats,f=fW
 |0=>λ_ h=>by cases h
 |i+1=>λn h=>by
  rcases List.mem_append.1 h with h|h
  .exact YG own g i n h
  .rw[aJ.1 h];exact acp _ _
def SK (g:Gs)(nm:av){v:bO}(hv:v∈bT)(most:Int):OC (pw g nm v most).1:=⟨hv,YG nm g.aI _⟩
section
variable {P:Rec->Prop}
def aam {k:Nat}{p:cj×Int}(h:∀s∈l,∀x∈s.es,P x.r)(hp:∀x∈p.1.es,P x.r):∀s∈ra l k p,∀x∈s.es,P x.r:=by
 unfold ra;split
 .intro s hs;rcases List.mem_or_eq_of_mem_set hs with h1|rfl
  .exact h s h1
  .exact hp
 .exact h
def alJ {s:cj}{nm:av}{v:bO}{on:Bool}(h:∀x∈s.es,P x.r):∀x∈(ov s nm v on).1.es,P x.r:=by
 unfold ov;split
 .intro x hx;cases hx
 .split
  .intro x hx;cases hx
  .rename_i h2;obtain⟨j,hj,hjl⟩:=(BY (l:=s.es) (nm:=nm) (v:=v)).resolve_left ae;rw[hj,Int.toNat_natCast];intro x hx;rcases List.mem_or_eq_of_mem_set hx with h1|rfl
   .exact h x h1
   .exact h s.es[j]! (aq hjl)
def put_P {s:cj}(h:∀x∈s.es,P x.r)(hr:P r):∀x∈(kS s r).1.es,P x.r:=by
 unfold kS;split
 .intro x hx;cases hx
 .split
  .intro x hx;cases hx
  .split
   .intro x hx;cases hx
   .split
    .intro x hx;cases hx
    .intro x hx;rcases List.mem_append.1 hx with h1|h1
     .exact h x h1
     .rw[aJ.1 h1];exact hr
def afN (h:∀s∈l,∀x∈s.es,P x.r)(k:Nat):∀x∈l[k]!.es,P x.r:=yU (P:=λs:cj=>∀x∈s.es,P x.r) (λ_ h=>cw) h k
def pub_P {g:Gs}(h:∀s∈l,∀x∈s.es,P x.r)(hr:∀h nm v,v∈bT->nm∈cB->P (pw h nm v 2).1):∀s∈(lN g l).1,∀x∈s.es,P x.r:=by
 have r4:=g.aI.eP 4 ae;have r5:=g.aI.aI.eP 4 ae;by_cases h1:g.aI.aI.aI.val 6=0
 .rw[show lN g l=(ra l (kG g l) (VU g l),g.aI.aI.aI.aI.aI)from ak h1];exact aam h (alJ (afN h _))
 .rw[show lN g l=(ra l (kG g l) (VP g l),(rcG g).2)from ai h1];exact aam h (put_P (afN h _) (hr _ _ _ (aq (by simp only[bT,bH,b7];omega)) (Dl ae)))
def pS_P {g:Gs}(hr:∀h nm v,v∈bT->nm∈cB->P (pw h nm v 2).1):∀i,∀s∈(pS g i).1,∀x∈s.es,P x.r
 |0=>λs hs=>by
  simp only[pS,NX,bU,de,or_false]at hs;rcases hs with rfl|rfl<;>intro x hx<;>cases hx
 |i+1=>by rw[pS];exact pub_P (pS_P hr i) hr
end
def aar (most:Int):GenS (GD ks most):=pS_P (λh nm v hv _=>SK h nm hv 2) _
def XO (h:GenS l):Ws l:=λs hs x hx=>(h s hs x hx).1
def aa2:(qm ks).r.v=bT[0]! :=by
 unfold qm;split
 .rfl
 .rfl
def aa1:OC (qm ks).r:=by
 unfold qm;split
 .exact SK _ Hc a7 3
 .exact⟨a7,λn hn=>by cases hn⟩
def Dd (h:qy y)(nm:av):∀x∈dI y nm,x.r.name=nm/\(x.sh=-1\/∃j i:Nat,x.sh=(j:Int)/\j<y.shop.length/\i<y.shop[j]!.es.length/\x.r=y.shop[j]!.es[i]!.r/\gy y.shop[j]! =true):=by
 unfold dI;split
 .rename_i h0;intro x hx;rw[aJ.1 hx];refine⟨?_,.inl rfl⟩;rcases gW (f:=isM nm) (l:=y.l) (k:=0)with⟨h1,_⟩|⟨j,h1,h2,h3,_⟩
  .have:lM y.l nm=-1:=h1;omega
  .have e:lM y.l nm=((0+j:Nat):Int):=h1;rw[e,Int.toNat_natCast,cL];simpa[isM]using h3
 .split
  .intro x hx;cases hx
  .rename_i h1;have h1:(cH y.shop y.pins nm).2.2=0:=Classical.not_not.1 h1;have h2:(fU y.shop y.pins nm).2=0:=by
    unfold cH at h1;split at h1
    .rename_i h3;exact absurd h1 h3
    .rename_i h3;exact Classical.not_not.1 h3
   obtain⟨hB,j,hj,hjl⟩:=pR h2;have e1:cH y.shop y.pins nm=((j:Int),kg y.shop[j]! nm,0):=by
    unfold cH;rw[ai (λh=>h h2),hj,Int.toNat_natCast]
   rw[e1];simp only[Int.toNat_natCast];have hs:=IF hB hjl;have e2:kg y.shop[j]! nm=eF y.shop[j]!.es nm y.shop[j]!.es.length:=by unfold kg;rw[hs,ai aF]
   intro x hx;obtain⟨⟨i,hi,e⟩,hsh⟩:=(pX (y:=y) (nm:=nm) (a:=j) _).2 x hx;have hr:=(sD y.shop[j]! nm).2 i hi;have hn:=(vM hs (h.v _ (aq hjl)) nm _ (aT _)).2 i (by rw[<-e2];exact hi);exact⟨by rw[e,hn],.inr ⟨j,i.toNat,hsh,hjl,ae,e,hs⟩⟩
def XD {s:cj}(hs:gy s=true){i:Nat}(hi:i<s.es.length)(hv:s.es[i]!.r.v∈bT):∃k:Nat,oJ s s.es[i]!.r.name s.es[i]!.r.v=(k:Int)/\k<s.es.length:=by
 refine(FW (s:=s) (nm:=s.es[i]!.r.name) (v:=s.es[i]!.r.v)).resolve_left λh=>?_
 unfold oJ at h;rw[hs,ai aF]at h;have h2:r7 s.es s.es[i]!.r.name s.es[i]!.r.v 0<0:=ae;rw[PU]at h2;have h3:=h2 _ (aq hi);unfold K8 at h3;rw[bg rfl,zb (sw _ hv).2]at h3;cases h3
def FeK (k:Key):Prop:=k.f=[]\/k.f=ll\/k.f=fW
def TE (k:Key):Prop:=dc k.n=true/\FeK k
structure yD (y:cx):Prop where
 p:qy y
 g:GenS y.shop
 gm:∀m∈y.l,OC m.r
def Yt (h:yD y)(nm:av):∀x∈dI y nm,OC x.r:=by
 intro x hx;rcases(Dd h.p nm x hx).2 with hs|⟨j,i,_,hj,hi,e,_⟩
 ·
  unfold dI at hx;split at hx
  .rename_i h0;rw[aJ.1 hx];obtain⟨j,hj,hjl⟩:=(qS y.l nm).resolve_left ae;rw[hj,Int.toNat_natCast];exact h.gm _ (aq hjl)
  .split at hx
   .cases hx
   .have h5:=(pX (y:=y) (nm:=nm) (a:=(cH y.shop y.pins nm).1.toNat) _).2 x hx;rw[h5.2]at hs;exact absurd hs ae
 .rw[e];exact h.g _ (aq hj) _ (aq hi)
def A8 (P:Key->Prop)(l:List fN):=∀row∈l,∀a∈row,P a.k
def NM {a b:List fN}(h1:A8 P a)(h2:A8 P b):A8 P (a++b):=λr hr=>(List.mem_append.1 hr).elim (h1 r) (h2 r)
def D6:A8 P []:=λr hr=>by cases hr
def tI {α:Type}{f:α->List fN}{l:List α}(h:∀x∈l,A8 P (f x)):A8 P (l.flatMap f):=λr hr=>by
 obtain⟨x,hx,hr⟩:=List.mem_flatMap.1 hr;exact h x hx r hr
def NN {k:Key}{s:cu}(h:P k):A8 P [[⟨k,s⟩]]:=λr hr b hb=>by
 rw[aJ.1 hr]at hb;rw[aJ.1 hb];exact h
def Od {w:c9}(hn:dc w.name=true)(hf:∀f∈w.feats,f=fW):∀k∈fg w,TE k:=by
 intro k hk;refine⟨by rw[Eu w k hk];exact hn, ?_⟩;unfold fg at hk;rcases List.mem_append.1 hk with h|h
 .split at h
  .split at h
   .rw[aJ.1 h];exact .inl rfl
   .cases h
  .rw[aJ.1 h];exact .inr (.inl rfl)
 .obtain⟨f,hf2,rfl⟩:=ch.1 h;exact .inr (.inr (hf f hf2))
def SO {n:bp}(hN:wC n)(hn:∀w∈n.any,dc w.name=true)(hf:∀w∈n.any,∀f∈w.feats,f=fW):A8 TE (iG n):=by
 unfold iG;split
 .intro r hr a ha;obtain⟨k,hk,rfl⟩:=ch.1 hr;rw[aJ.1 ha];have h0:=aq hN.1.1;exact Od (hn _ h0) (hf _ h0) k hk
 .intro r hr a ha;rw[aJ.1 hr]at ha;obtain⟨w,hw,rfl⟩:=ch.1 ha;exact Od (hn w hw) (hf w hw) _ (aq (oo w).1)
def ajP {s:av}(h:rK s):(bK s).1=2\/((bK s).1=3/\(bK s).2.2=fW):=by
 have:∀s∈Uj,(bK s).1=2\/((bK s).1=3/\(bK s).2.2=fW):=by decide+kernel
 exact this s h
def Za (h:Cd r)(hg:OC r)(e:Env)(o:av):A8 TE (qR r.needs e o):=tI λn hn=>by
 unfold Bo;split
 .exact SO ((gh h).2 n hn) (qb h n hn) (hg.2 n hn)
 .exact D6
def YO (h:Cd r)(hg:OC r)(e:Env)(ft:av):A8 TE (cJ r e ft):=by
 unfold cJ;split
 .exact Za h hg e []
 .refine NM (NN ⟨h.1.1.1,.inl rfl⟩) (tI λs hs=>?_);have hi:=ajP ((xx h ft).2 s hs);unfold mj;rw[ai (by rcases hi with h|h<;>omega)];split
  .exact Za h hg e _
  .rename_i h2;obtain⟨_,h3⟩:=hi.resolve_left h2;refine tI λn hn=>?_
   unfold rL;split
   .rename_i hc;have hN:=(gh h).2 n hn;refine NM ?_ (NN ⟨?_,.inr (.inr h3)⟩)
    .split
     .exact D6
     .exact SO hN (qb h n hn) (hg.2 n hn)
    .show dc (bK s).2.1=true;rw[<-hc.1.2];exact qb h n hn _ (aq hN.1.1)
   .exact D6
def aeN (hy:yD y)(k:Key):A8 TE (cZ y k):=by
 unfold cZ;split
 .obtain⟨⟨⟨m,hm,hM⟩,_⟩,_⟩:=hy.p.p;intro r hr a ha;rw[hm]at hr;rw[aJ.1 hr]at ha;rw[aJ.1 ha];exact⟨(BP hM).1.1.1,.inr (.inl rfl)⟩
 .exact tI λx hx=>YO ((xy hy.p.p k).2 x hx).1 (Yt hy k.n x (List.mem_filter.1 hx).1) y.e k.f
def Ii {y:cx}(hy:yD y):∀(n:Nat){s:oX}{all:List Key},(∀k∈s.all,k=fI\/TE k)->Bs y n s=some all->∀k∈all,k=fI\/TE k
 |0,s,all,_,h=>by cases h
 |n+1,s,all,hI,h=>by
  rw[Bs]at h;split at h
  .obtain rfl:=bc h;exact hI
  .split at h
   .cases h
   .refine Ii hy n (λk hk=>?_) h;have hm:∀(row:fN) (s:oX),(∀a∈row,TE a.k)->(∀k∈s.all,k=fI\/TE k)->∀k∈(row.foldl mw s).all,k=fI\/TE k:=by
     intro row;induction row with
     |nil=>intro s _ h;exact h
     |cons b r ih=>
      intro s hn h;refine ih _ (λa ha=>hn a (.tail _ ha)) λk hk=>?_
      rcases((Ih s b).1 k).1 hk with h1|rfl
      .exact h k h1
      .exact .inr (hn b (.head _))
    have hm2:∀(l:List fN) (s:oX),A8 TE l->(∀k∈s.all,k=fI\/TE k)->∀k∈(P4 s l).all,k=fI\/TE k:=by
     intro l;induction l with
     |nil=>intro s _ h;exact h
     |cons b r ih=>
      intro s hn h;exact ih _ (λrow hr=>hn row (.tail _ hr)) (hm b s (hn b (.head _)) h)
    exact hm2 (cZ y s.todo[0]!) ⟨s.all,s.todo.drop 1⟩ (aeN hy _) hI k hk
def Cc (c:List Int)(is:List Bool):Prop:=is.length=c.length/\∀j:Nat,is[j]! =true->0<=c[j]!
def SS (is:List Bool)(i j:Nat)(b:Bool)(h:(is.set i b)[j]! =true):(i=j/\b=true)\/is[j]! =true:=by
 by_cases e:i=j
 .subst e;rcases dZ i is.length with h1|h1
  .rw[List.getElem!_eq_getElem?_getD,List.getElem?_set_self h1]at h;exact .inl ⟨rfl,rA⟩
  .rw[List.set_eq_of_length_le h1]at h;exact .inr h
 .rw[List.getElem!_eq_getElem?_getD,List.getElem?_set_ne e,<-List.getElem!_eq_getElem?_getD]at h;exact .inr h
section
variable {is:List Bool}
def YM (w:cA)(c:List Int)(is:List Bool)(x:Want):List Bool:=is.set x.u.toNat (is[x.u.toNat]! ||lj w c x)
def aee (x:Want)(h:Cc c is):Cc c (YM w c is x):=by
 refine⟨by unfold YM;rw[List.length_set];exact h.1,λj hj=>?_⟩;rcases SS _ _ _ _ hj with⟨rfl,h1⟩|h1
 .rcases Bool.or_eq_true_iff.1 h1 with h2|h2
  .exact h.2 _ h2
  .unfold lj at h2;simp only[aK,aX]at h2;exact h2.1
 .exact h.2 _ h1
def HU:∀(l:List Want){is:List Bool},Cc c is->Cc c (vO w c is l)
 |[],_,h=>h
 |x::r,_,h=>HU r (aee x h)
def HS:∀(l:List nM){is:List Bool},Cc c is->Cc c (xq w c is l)
 |[],_,h=>h
 |x::r,_,h=>HS r (HU x h)
def BR:∀(n:Nat){is:List Bool},Cc c is->Cc c (iY w c n is)
 |0,_,h=>h
 |n+1,_,h=>by
  rw[iY];unfold HT;split
  .exact HS _ (BR n h)
  .exact BR n h
def Sg:∀(n:Nat){is:List Bool},Cc c is->Cc c (jZ w c n is)
 |0,_,h=>h
 |n+1,_,h=>BR _ (Sg n h)
def aec:Cc c (mM c):=by
 refine⟨by simp[mM],λj hj=>?_⟩;rcases SS _ _ _ _ hj with⟨rfl,h1⟩|h1
 .simpa using h1
 .exfalso;rcases dZ j c.length with h2|h2<;>simp[List.getElem!_eq_getElem?_getD,h2]at h1
def ake {l:List Want}{q:Nat}(h:q<l.length):vO w c is (l.take (q+1))=YM w c (vO w c is (l.take q)) l[q]! :=by
 rw[List.take_add_one,List.getElem?_eq_getElem h,getElem!_pos l q h];simp only[vO,Option.toList_some,List.foldl_append,List.foldl_cons,List.foldl_nil,YM]
def akd {l:List nM}{k:Nat}(h:k<l.length):xq w c is (l.take (k+1))=vO w c (xq w c is (l.take k)) l[k]! :=by
 rw[List.take_add_one,List.getElem?_eq_getElem h,getElem!_pos l k h];simp only[xq,Option.toList_some,List.foldl_append,List.foldl_cons,List.foldl_nil]
def akc (h:(iY w c j is)[j]! =true):iY w c (j+1) is=xq w c (iY w c j is) (bJ w c j).needs:=by rw[iY];unfold HT;rw[ak h]
def akb (h:¬(iY w c j is)[j]! =true):iY w c (j+1) is=iY w c j is:=by rw[iY];unfold HT;rw[ai h]
def afZ {i:Nat}(h:i<is.length)(b:Bool):(is.map D.bool).set i (rj ((is.map D.bool).getD i .any) 1 1 0 (.bool b))=(is.set i b).map D.bool:=by
 rw[List.getD_eq_getElem?_getD,List.getElem?_map,List.getElem?_eq_getElem h,List.map_set];rfl
def aed (h:0<c.length):(List.replicate c.length (D.bool false)).set 0 (rj ((List.replicate c.length (D.bool false)).getD 0 .any) 1 1 0 (.bool (decide (0<=c[0]!))))=(mM c).map D.bool:=by
 have:=afZ (is:=List.replicate c.length false) (i:=0) rA (decide (0<=c[0]!));rw[List.map_replicate]at this;exact this
def akf (h:eV w c=false):fq w c=[]:=ak h
def Sj (h:eV w c=true):fq w c=jZ w c c.length (mM c):=ai gQ
end
def Dj (h:eV w c=true):c.length=w.us.length/\(1<=c.length/\c.length<=48)/\∀i,i<c.length->-1<=c[i]! /\c[i]! <(w.us[i]!.cands.length:Int):=by
 have h2:=h;simp only[eV,aK]at h2;obtain⟨h3,h4⟩:=oK h2.2;exact⟨h3,YB h,h4⟩
def ajc (n:Int):kF (TZ n):=by
 have h:=kQ n 3 a7;unfold kF TZ;obtain⟨i,hi⟩:∃i:Nat,(kP n 3).toNat=i:=⟨_,rfl⟩
 rw[hi];have:i=0\/i=1\/i=2:=ae;rcases this with rfl|rfl|rfl<;>decide
def afd (ks ss:List Int)(most n:Int):yD (yu (qm ks) (GD ss most) (TZ n)):=by
 have hg:=aar ss most;have hy:=aa0 ks;refine⟨⟨⟨⟨hy,NY _ _⟩,aF,(λk hk=>by cases hk), ?_⟩,XO hg,λm hm=>?_⟩,hg,λm hm=>?_⟩
 .have:=(tP hy (i:=0) aF).2.2.1;have h2:(gu [qm ks]).length<=1:=this;show(gu [qm ks]).length<=1000;omega
 .rw[aJ.1 hm,aa2];decide
 .rw[aJ.1 hm];exact aa1 ks
def Wm (l:List cj):=∀s∈l,s.name.length<=16
def aao {k:Nat}{s:cj}(h:Wm l)(hs:s.name.length<=16):Wm (l.set k s):=λx hx=>by
 rcases List.mem_or_eq_of_mem_set hx with h1|rfl
 .exact h x h1
 .exact hs
def O8 (h:Wm l)(k:Nat):l[k]!.name.length<=16:=yU (P:=λs:cj=>s.name.length<=16) a7 h k
def akS {g:Gs}(h:Wm l):Wm (lN g l).1:=by
 by_cases h1:g.aI.aI.aI.val 6=0
 .by_cases h2:(VU g l).2=0
  .rw[Zp h1 h2];refine aao h ?_;have:=O8 h (kG g l);unfold VU ov;split
   .exact Nat.zero_le _
   .split
    .exact Nat.zero_le _
    .exact this
  .rw[Zq h1 h2];exact h
 .by_cases h2:(VP g l).2=0
  .rw[Zr h1 h2];refine aao h ?_;have:=O8 h (kG g l);unfold VP kS;split
   .exact Nat.zero_le _
   .split
    .exact Nat.zero_le _
    .split
     .exact Nat.zero_le _
     .split
      .exact Nat.zero_le _
      .exact this
  .rw[Zs h1 h2];exact h
def af7 (g:Gs):∀i,Wm (pS g i).1
 |0=>by
  intro s hs;simp only[pS,NX,bU,de,or_false]at hs;rcases hs with rfl|rfl<;>decide
 |i+1=>akS (af7 g i)
def aeX (ss:List Int)(most:Int):Wm (GD ss most):=af7 _ _
def NmU (w:cA):=∀u∈w.us,u.name.length<=16/\u.feat.length<=16
def aea {s:av}(h:dc s=true):s.length<=16:=by
 unfold dc at h;simp only[aK,aX]at h;exact h.1.1.1.2
def WN (hy:yD y)(h:(cK y).2=true):NmU (cK y).1:=by
 obtain⟨all,h1,h2,_,_⟩:=qk hy.p.p h;have hk:=Ii hy 49 (s:=nB) (all:=all) (λk hk=>.inl (by simpa[nB]using hk)) h1;intro u hu;rw[h2]at hu;obtain⟨k,hk1,rfl⟩:=ch.1 hu;show k.n.length<=16/\k.f.length<=16;rcases hk k hk1 with rfl|⟨h3,h4⟩
 .decide
 .refine⟨aea h3, ?_⟩;rcases h4 with h4|h4|h4<;>rw[h4]<;>decide
structure TC (n:Nat)(x:ea):Prop where
 v:x.v.sm
 name:x.name.length<=16
 shelf:x.shelf.length<=16
 nf:x.feats.length<=n
 ft:∀t∈x.feats,t.length<=16
structure LckW (n:Nat)(l:jE):Prop where
 len:l.lines.length<=48
 lines:∀x∈l.lines,TC n x
 env:∀i,(l.env.at i).length<=16
theorem LckW.sm {l:jE}(h:LckW n l)(hn:n<=1000):l.sm:=by
 refine⟨by have:=h.len;omega,λx hx=>?_,λi=>by have:=h.env i;omega⟩;have k:=h.lines x hx;have k3:=k.name;have k4:=k.shelf;have k5:=k.nf;exact⟨k.v,ae,ae,ae,λt ht=>by have:=k.ft t ht;omega⟩
def TC.mono {m:Nat}{x:ea}(h:TC n x)(hm:n<=m):TC m x:=⟨h.v,h.name,h.shelf,dN h.nf hm,h.ft⟩
section
variable {e:Env}
def Cw (hw:NmU w)(nm:av):∀i,i<=w.us.length->∀t∈eM w.us c nm i,t.length<=16
 |0,_=>λt ht=>by cases ht
 |i+1,hi=>by
  rw[eM];split
  .intro t ht;rcases List.mem_append.1 ht with h|h
   .exact Cw hw nm i ae t h
   .rw[aJ.1 h];exact(hw _ (aq ae)).2
  .exact Cw hw nm i ae
def ajZ (hs:Wm shop)(hm:w.sm)(hl:w.us.length<=48)(hw:NmU w){u:Nat}(hu:u<w.us.length)(h:(eA shop w.us c u (cG w.us c u)).2=0):TC 48 (eA shop w.us c u (cG w.us c u)).1:=by
 have hn:=(hw _ (aq hu)).1;have hf:(mb w.us c u).length<=48:=dN (vH _ _) hl;have hft:∀t∈mb w.us c u,t.length<=16:=Cw hw _ _ (aT _)
 have hv:(cG w.us c u).v.sm:=yU (P:=λc:fj=>c.v.sm) ⟨a7,a7⟩ (λc hc=>((hm _ (aq hu)).2 c hc).1) _;unfold eA at*
 split at h
 .rename_i h1;rw[ak h1];exact⟨hv,hn,Nat.zero_le _,hf,hft⟩
 .rename_i h1;rw[ai h1];split at h
  .cases h
  .rename_i h2;rw[ai h2];split at h
   .cases h
   .rename_i h3;rw[ai h3];exact⟨hv,hn,O8 hs _,hf,hft⟩
def Yp (hs:Wm shop)(hm:w.sm)(hl:w.us.length<=48)(hw:NmU w):∀i,i<=w.us.length->∀x∈(dP shop w.us c i).1,TC 48 x
 |0,_=>λx hx=>by cases hx
 |i+1,hi=>by
  have ih:=Yp hs hm hl hw i ae;rw[dP];split
  .exact ih
  .split
   .exact ih
   .split
    .intro x hx;cases hx
    .rename_i h3;intro x hx;rcases List.mem_append.1 hx with h|h
     .exact ih x h
     .rw[aJ.1 h];exact ajZ hs hm hl hw ae (Classical.not_not.1 h3)
theorem of_w (hs:Wm shop)(hm:w.sm)(hl:w.us.length<=48)(hw:NmU w)(he:∀i,(e.at i).length<=16):LckW 48 (HY shop e w c).1:=by
 have h0:LckW 48 HJ:=⟨a7,(λx hx=>by cases hx),λi=>by unfold HJ Env.at;grind⟩;unfold HY;split
 .exact h0
 .split
  .exact h0
  .split
   .exact h0
   .exact⟨dN (tC _) hl,Yp hs hm hl hw _ (aT _),he⟩
end
def VD (h:eV w c=true)(h0:0<=c[0]!):0<=(rS w c)[0]! :=by
 obtain⟨_,⟨h1,_⟩,_⟩:=Dj h;rw[tM h ae];have h2:(mM c)[0]! =true:=by
  unfold mM;rw[List.getElem!_eq_getElem?_getD,List.getElem?_set_self eJ];simpa using h0
 have h3:=(BS (w:=w) (c:=c) c.length (mM c)).2 0 (by simp[mM];omega) h2;rw[Sj h,ak h3];exact h0
section
variable {m:gI}{e:Env}{os:List Int}
def Vx (hy:yD (yu m shop e))(h:(di m shop e os).2.2=true):((di m shop e os).1.sm/\(di m shop e os).1.us.length<=48/\NmU (di m shop e os).1)/\0<=(di m shop e os).2.1[0]! :=by
 by_cases h0:(dH m shop e).2≠0\/5000<zj (dH m shop e).1.us
 .rw[yi h0]at h;cases h
 .have h1:(dH m shop e).2=0/\¬5000<zj (dH m shop e).1.us:=⟨Classical.not_not.1 λh2=>h0 (.inl h2),λh2=>h0 (.inr h2)⟩;cases hf:jV (dH m shop e).1.us (ix (dH m shop e).1.us os)with
  |none=>rw[yj h1 hf]at h;cases h
  |some c=>
   obtain⟨hb,hw⟩:=pL hy.p h1.1;have hc:=mB hb.msk (p0 os) _ _ (sL _) hf;have hs16:∀x∈(dH m shop e).1.us,x.cands.length<=16:=λx hx=>(hb.u x hx).1
   obtain⟨⟨g1,_⟩,g2⟩:=CD hw hs16 (RI hc.2) hc.1;rw[yk h1 hf];refine⟨⟨hb.sm,hb.len.2, ?_⟩,VD g1 g2⟩;have h2:=h1.1;unfold dH fV at h2⊢;split at h2
   .cases h2
   .split at h2
    .cases h2
    .split at h2
     .cases h2
     .rename_i h3;rw[ai lY,ai lY,ai h3];exact WN hy (by simpa using h3)
end
def aaJ (hw:hR w=true){i:Nat}(h1:1<=i)(hi:i<w.us.length):untI w.us w.us[i]!.name w.us[i]!.feat=(i:Nat):=by
 have hd:∀q,(w.us.drop 1)[q]! =w.us[1+q]! :=λq=>by simp[List.getElem!_eq_getElem?_getD,Nat.add_comm]
 have hu:rX w.us[i]!.name w.us[i]!.feat w.us[i]! =true:=by simp[rX]
 unfold untI;rcases gW (f:=rX w.us[i]!.name w.us[i]!.feat) (l:=w.us.drop 1) (k:=1)with⟨_,h2⟩|⟨j,h2,h3,h4,_⟩
 .have:=h2 (i-1) (by rw[iQ];omega);rw[hd,show 1+(i-1)=i by omega,hu]at this;cases this
 .rw[iQ]at h3;rw[hd]at h4;rw[h2];by_cases e:1+j=i
  .omega
  .rcases dZ (1+j) i with h5|h5
   .exact(GV hw ae h5 hi h4 hu).elim
   .exact(GV hw h1 ae ae hu h4).elim
def pW {shop:List cj}{us:List dz}{c:List Int}:∀n,(dP shop us c n).2=0->(dP shop us c n).1=((List.range n).filter λu=>!ei us c u).map (λu=>(eA shop us c u (cG us c u)).1)/\∀u,u<n->ei us c u=false->(eA shop us c u (cG us c u)).2=0
 |0,_=>⟨rfl,λu h=>absurd h (Nat.not_lt_zero _)⟩
 |n+1,h=>by
  rw[dP]at h⊢;split at h
  .rename_i h1;exact absurd h h1
  .rename_i h1;have h1':(dP shop us c n).2=0:=by simpa using h1
   obtain⟨i1,i2⟩:=pW n h1';rw[ai h1];split at h
   .rename_i h2;rw[ak h2,List.range_succ,List.filter_append,i1];refine⟨by simp[h2],λu hu hs=>?_⟩;by_cases e:u=n
    .subst e;rw[h2]at hs;cases hs
    .exact i2 u ae hs
   .rename_i h2;rw[ai h2];split at h
    .rename_i h3;exact absurd h h3
    .rename_i h3;rw[ai h3,List.range_succ,List.filter_append,i1];refine⟨by simp[h2],λu hu hs=>?_⟩;by_cases e:u=n
     .subst e;simpa using h3
     .exact i2 u ae hs
theorem yS {us:List dz}{c:List Int}{nm:av}:∀{n:Nat}{f:av},f∈eM us c nm n↔∃i,(0<i/\i<n)/\(us[i]!.name=nm/\us[i]!.feat=f/\f≠[])/\0<=c[i]!
 |0,f=>by simp[eM]
 |n+1,f=>by
  rw[eM];have ih:=yS (us:=us) (c:=c) (nm:=nm) (n:=n) (f:=f)
  grind
structure OG (w:cA):Prop where
 val:hR w=true
 ver:∀i,1<=i->i<w.us.length->∀x∈w.us[i]!.cands,x.v∈bT
 main:∀i,1<=i->i<w.us.length->w.us[i]!.feat≠[]->∀x∈w.us[i]!.cands,∃j,(1<=j/\j<w.us.length)/\(w.us[j]!.name=w.us[i]!.name/\w.us[j]!.feat=[])/\[(⟨(j:Nat),dG x.v⟩:Want)]∈x.needs
def Ud:∀a∈bT,∀b∈bT,pe (dG a) b=true->b=a:=by decide+kernel
theorem Ht (h:eV w c=true):c.length=w.us.length/\∀i,i<w.us.length->-1<=c[i]! /\c[i]! <(w.us[i]!.cands.length:Int):=by
 grind [eV,vI,bG,CM]
def ad2 (hq:OG w)(hm:eV w c=true)(hh:rq w c=[]){i:Nat}(h1:1<=i)(hi:i<w.us.length)(hf:w.us[i]!.feat≠[])(hc:0<=c[i]!):
  ∃j,(1<=j/\j<w.us.length)/\(w.us[j]!.name=w.us[i]!.name/\w.us[j]!.feat=[])/\0<=c[j]! /\(cG w.us c j).v=(cG w.us c i).v:=by
 obtain⟨hl,hb⟩:=Ht hm;have hin:c[i]!.toNat<w.us[i]!.cands.length:=by have:=(hb i hi).2;omega
 obtain⟨j,hj,hn,hr⟩:=hq.main i h1 hi hf _ (aq hin);have hw:=((B6 hm).1 hh i ae hc).1;obtain⟨k,hk,hke⟩:=List.getElem_of_mem hr;have hs:=hw k hk;have e:(bJ w c i).needs[k]! =[(⟨(j:Nat),dG w.us[i]!.cands[c[i]!.toNat]!.v⟩:Want)]:=by
  show w.us[i]!.cands[c[i]!.toNat]!.needs[k]! =_;rw[getElem!_pos _ k hk];exact hke
 rw[e]at hs;simp only[FB,List.any_cons,List.any_nil,Bool.or_false,lj,Int.toNat_natCast,aK,aX]at hs;refine⟨j,hj,hn,hs.1, ?_⟩;have hjn:c[j]!.toNat<w.us[j]!.cands.length:=by have:=(hb j hj.2).2;have:=hs.1;omega
 exact Ud _ (hq.ver i h1 hi _ (aq hin)) _ (hq.ver j hj.1 hj.2 _ (aq hjn)) hs.2
theorem nY {u:Nat}{x:fj}(h:(eA shop us c u x).2=0):(eA shop us c u x).1.name=us[u]!.name/\(eA shop us c u x).1.v=x.v/\(eA shop us c u x).1.feats=mb us c u/\shlE shop x (eA shop us c u x).1=0:=by
 grind [eA,shlE]
theorem IG {u:Nat}(h1:1<=u)(hc:0<=c[u]!)(hf:us[u]!.feat=[]):ei us c u=false:=by
 grind [ei]
def adR {all:List Key}(hs:KS all){i:Nat}(hij:i<j)(hj:j<all.length):e7 all[i]! all[j]! =true:=by
 have:=List.pairwise_iff_getElem.1 hs i j ae hj hij;rw[getElem!_pos all i ae,getElem!_pos all j hj];exact this
def BO {all:List Key}(hs:KS all)(hz:fI∈all){i:Nat}(h1:1<=i)(hi:i<all.length):all[i]! ≠fI:=by
 intro e;have:=adR hs (i:=0) (j:=i) ae hi;rw[(all_zero hs hz).1,e,tA]at this;cases this
def Co {all:List Key}{k:Key}(hk:k≠fI)(h:(eo y all k).2=true):(eo y all k).1=(eG y k).map (dA y all k):=by
 unfold eo at*
 rw[ai hk]at h⊢;split at h
 .cases h
 .rename_i h1;rw[ai h1]
def OR (hy:yD y)(h:(cK y).2=true):OG (cK y).1:=by
 obtain⟨all,hr,hus,hc,hB⟩:=qk hy.p.p h;obtain⟨hz,h48,hcl⟩:=qc hr;obtain⟨hs,hnm⟩:=B1 hy.p.p hr;have hl:(cK y).1.us.length=all.length:=by rw[hus,bh]
 have hat:∀i,i<all.length->(cK y).1.us[i]! =qi y all all[i]! :=λi hi=>by rw[hus,eZ hi]
 refine⟨EC hy.p h,λi h1 hi x hx=>?_,λi h1 hi hf x hx=>?_⟩
 .rw[hl]at hi;rw[hat i hi]at hx;have hne:=BO hs hz h1 hi;have hx':x∈(eo y all all[i]!).1:=hx;rw[Co hne (hc i hi)]at hx';obtain⟨r,hr',rfl⟩:=ch.1 hx';exact xg hy.p.p hy.p.v hy.p.m all[i]!.n _ (List.mem_filter.1 hr').1
 .rw[hl]at hi⊢;rw[hat i hi]at hx hf;have hne:=BO hs hz h1 hi;have hx':x∈(eo y all all[i]!).1:=hx;rw[Co hne (hc i hi)]at hx';obtain⟨r,hr',rfl⟩:=ch.1 hx';have hf':all[i]!.f≠[]:=hf;have hrn:r.r.name=all[i]!.n:=(Dd hy.p all[i]!.n r (List.mem_filter.1 hr').1).1;have hrow:[(⟨⟨r.r.name,[]⟩,dG r.r.v⟩:jk)]∈cJ r.r y.e all[i]!.f:=by
   unfold cJ;rw[ai hf'];simp
  have hin:(⟨r.r.name,[]⟩:Key)∈all:=hcl _ (aq hi) [⟨⟨r.r.name,[]⟩,dG r.r.v⟩] (by unfold cZ;rw[ai hne];exact List.mem_flatMap.2 ⟨r,hr',hrow⟩) _ (aJ.2 rfl);obtain⟨p1,p2⟩:=zi hin;have hk0:(⟨r.r.name,[]⟩:Key)≠fI:=by
   intro e;have e2:r.r.name=[]:=ar Key.n e;have:=(hnm _ (aq hi));rcases this with h5|h5
   .exact hne h5
   .rw[hrn]at e2;exact h5 e2
  have hj0:=tG hs hz hk0;obtain⟨j,hj⟩:∃j:Nat,eu all ⟨r.r.name,[]⟩=(j:Nat):=⟨(eu all ⟨r.r.name,[]⟩).toNat,ae⟩
  have hje:all[j]! =⟨r.r.name,[]⟩:=by
   have:=hj;unfold eu at this;rcases gW (f:=λx=>decide (x=(⟨r.r.name,[]⟩:Key))) (l:=all) (k:=0)with⟨h6,_⟩|⟨q,h6,h7,h8,_⟩
   .omega
   .have:q=j:=ae;subst this;exact of_decide_eq_true h8
  refine⟨j,⟨ae,ae⟩, ?_, ?_⟩
  .rw[hat j ae,hat i hi];show all[j]!.n=all[i]!.n/\all[j]!.f=[];rw[hje,hrn];exact⟨rfl,rfl⟩
  .show _∈dF all (cJ r.r y.e all[i]!.f);refine ch.2 ⟨_,hrow, ?_⟩;show [(⟨eu all ⟨r.r.name,[]⟩,dG r.r.v⟩:Want)]=_;rw[hj];rfl
def Wk (w:cA):=∀i,1<=i->i<w.us.length->dc w.us[i]!.name=true/\(w.us[i]!.feat=[]\/w.us[i]!.feat=ll\/w.us[i]!.feat=fW)
def TQ (hy:yD y)(h:(cK y).2=true):Wk (cK y).1:=by
 obtain⟨all,hr,hus,_,_⟩:=qk hy.p.p h;obtain⟨hz,_,_⟩:=qc hr;obtain⟨hs,_⟩:=B1 hy.p.p hr;have hk:=Ii hy 49 (s:=nB) (all:=all) (λk hk=>.inl (by simpa[nB]using hk)) hr;intro i h1 hi;have hi':i<all.length:=by rw[hus,bh]at hi;exact hi
 rw[hus,eZ hi'];have hne:=BO hs hz h1 hi';rcases hk _ (aq hi')with h5|h5
 .exact absurd h5 hne
 .exact h5
theorem LO {w:cA}(hw:hR w=true){c:List Int}{nm:av}:∀n,n<=w.us.length->(eM w.us c nm n).Pairwise λa b=>Op.bytesLess a b=true
 |0,_=>by simp[eM]
 |n+1,hn=>by
  have ih:=LO hw (c:=c) (nm:=nm) n ae;rw[eM];split
  .rename_i h;rw[List.pairwise_append];refine⟨ih,aF,λa ha b hb=>?_⟩;rw[aJ.1 hb];obtain⟨i,hi,⟨hnm,hf,_⟩,_⟩:=yS.1 ha;have h2:=tN hw (i:=i) ae hi.2 ae
   grind [jF,mq]
  .exact ih
theorem up_at {l:List av}(h:l.Pairwise λa b=>Op.bytesLess a b=true){i:Nat}(h0:0<i)(hi:i<l.length):Op.bytesLess l[i-1]! l[i]! =true:=by
 have:=List.pairwise_iff_getElem.1 h (i-1) i ae hi ae
 grind
theorem ae6 {l:List av}(h:l.Pairwise λa b=>Op.bytesLess a b=true)(h2:∀f∈l,f=ll\/f=fW):l.length<=9:=by
 match l with
 |[]=>simp
 |[_]=>simp
 |[_,_]=>simp
 |a::b::d::r=>
  exfalso;have ne:∀x y:av,Op.bytesLess x y=true->x≠y:=by
   grind [mq]
  have p1:=List.pairwise_cons.1 h;have p2:=List.pairwise_cons.1 p1.2;have n1:=ne _ _ (p1.1 b aF);have n2:=ne _ _ (p1.1 d aF);have n3:=ne _ _ (p2.1 d aF);have a1:=h2 a aF;have a2:=h2 b aF;have a3:=h2 d aF
  grind
theorem Sf {s:av}(h:dc s=true):s≠[]:=by
 rintro rfl;revert h;decide
theorem Yo (hq:OG w)(hn:Wk w)(hs:eR shop=true)(hm:eV w c=true){u:Nat}(hu:u<w.us.length)(hk:ei w.us c u=false)(h:(eA shop w.us c u (cG w.us c u)).2=0):Da (eA shop w.us c u (cG w.us c u)).1=true:=by
 obtain⟨e1,e2,e3,_⟩:=nY h;obtain⟨hl,hb⟩:=Ht hm;simp only[ei,dX,b8,cX,aX]at hk;obtain⟨⟨h0,hc⟩,hf⟩:=hk;have hin:c[u]!.toNat<w.us[u]!.cands.length:=by have:=(hb u hu).2;omega
 have hv:fT (cG w.us c u).v=true:=by
  have hw:=hq.val;simp only[hR,aK,bG,mE,nN]at hw;exact((hw.2 u (Nat.zero_le _) hu).2 _ (Nat.zero_le _) hin).1.1
 have hnm:=(hn u ae hu).1;have hup:=LO hq.val (c:=c) (nm:=w.us[u]!.name) w.us.length (aT _);have hfe:∀f∈mb w.us c u,f=ll\/f=fW:=by
  intro f hf;obtain⟨i,hi,⟨_,h2,h3⟩,_⟩:=yS.1 hf;rcases(hn i ae hi.2).2 with h4|h4
  .rw[h4]at h2;exact absurd h2.symm h3
  .rw[<-h2];exact h4
 have h9:=ae6 hup hfe;have hsh:∀j,j<shop.length->dc shop[j]!.name=true:=by
  intro j hj;simp only[eR,aK,bG,zC,gy]at hs;exact(hs.2 j (Nat.zero_le _) hj).1.1.1
 have hsf:(decide ((eA shop w.us c u (cG w.us c u)).1.shelf≠[])&& !dc (eA shop w.us c u (cG w.us c u)).1.shelf)=false/\(decide ((eA shop w.us c u (cG w.us c u)).1.shelf=[])&&decide ((eA shop w.us c u (cG w.us c u)).1.sum≠0))=false:=by
  grind [eA,cG,dc,Sf]
 unfold Da;rw[hsf.1,hsf.2,e1,e2,e3,hnm,hv,bg (show(mb w.us c u).length<=9 from h9)];simp only[Bool.and_self,ez,Bool.not_false];rw[bG];intro i _ hi;unfold Ad;have hw:gC (mb w.us c u)[i]! =true:=by
  rcases hfe _ (aq hi)with h5|h5<;>rw[h5]<;>decide
 rw[hw,ez];by_cases hi0:0<i
 .rw[show Op.bytesLess (mb w.us c u)[i-1]! (mb w.us c u)[i]! =true from up_at hup hi0 hi];simp
 .simp[hi0]
def adS {e:Env}(hq:OG w)(hn:Wk w)(hs:eR shop=true)(he:pd e=true)(hm:eV w c=true)(h:(eQ shop w c).2=0):Mf ⟨e,(eQ shop w c).1⟩=true:=by
 obtain⟨e1,e2⟩:=pW w.us.length h;have e1':(eQ shop w c).1=_:=e1;have h48:=(aaS hq.val).2;unfold Mf;show(pd e&&decide ((eQ shop w c).1.length<=48)&&bI (xe (eQ shop w c).1) 0 (eQ shop w c).1.length)=true;rw[he,bg (show(eQ shop w c).1.length<=48 by have:=tC (shop:=shop) (us:=w.us) (c:=c) w.us.length;have e:(eQ shop w c).1.length=(dP shop w.us c w.us.length).1.length:=rfl;omega),ez,ez,bG];have hp:(eQ shop w c).1.Pairwise λa b=>Op.bytesLess a.name b.name=true:=by
  rw[e1',List.pairwise_map];have h1:(List.range w.us.length).Pairwise (· < ·):=List.pairwise_lt_range;refine List.Pairwise.imp_of_mem ?_ (List.Pairwise.sublist List.filter_sublist h1);intro a b ha hb hab;obtain⟨Pa,ha2⟩:=List.mem_filter.1 ha;obtain⟨hb1,pF⟩:=List.mem_filter.1 hb;have Pa:=List.mem_range.1 Pa;have hb1:=List.mem_range.1 hb1;have ha2:ei w.us c a=false:=by simpa using ha2
  have pF:ei w.us c b=false:=by simpa using pF
  rw[(nY (e2 a Pa ha2)).1,(nY (e2 b hb1 pF)).1];simp only[ei,dX,b8,cX,aX]at ha2 pF;have h2:=tN hq.val (i:=a) ae hab hb1;unfold jF at h2;rw[ha2.2,pF.2,mq,Bool.and_false,Bool.or_false]at h2;exact h2
 intro i _ hi;unfold xe;have hx:Da (eQ shop w c).1[i]! =true:=by
  have hmem:=aq hi;rw[e1']at hmem;obtain⟨u,hu,hue⟩:=ch.1 hmem;obtain⟨hu1,hu2⟩:=List.mem_filter.1 hu;have hu1:=List.mem_range.1 hu1;have hu2:ei w.us c u=false:=by simpa using hu2
  rw[e1',<-hue];exact Yo hq hn hs hm hu1 hu2 (e2 u hu1 hu2)
 rw[hx,ez];by_cases hi0:0<i
 .have:=List.pairwise_iff_getElem.1 hp (i-1) i ae hi ae;rw[getElem!_pos _ (i-1) ae,getElem!_pos _ i hi,this];simp
 .simp[hi0]
theorem akl {e:Env}(h:(HY shop e w c).2=0):((hR w=true/\eR shop=true)/\pd e=true)/\eV w c=true/\rq w c=[]/\(eQ shop w c).2=0/\(HY shop e w c).1=⟨e,(eQ shop w c).1⟩:=by
 unfold HY at h⊢;split at h
 .cases h
 .rename_i h1;rw[ai h1];split at h
  .cases h
  .rename_i h2;rw[ai h2];split at h
   .rename_i h3;exact absurd h h3
   .rename_i h3;rw[ai h3];refine⟨by grind,by grind,lP ae,ae,rfl⟩
section
variable {m:gI}{e:Env}{os:List Int}
def A4 (hy:yD (yu m shop e))(h:(di m shop e os).2.2=true):OG (di m shop e os).1/\Wk (di m shop e os).1/\eV (di m shop e os).1 (di m shop e os).2.1=true/\rq (di m shop e os).1 (di m shop e os).2.1=[]:=by
 by_cases h0:(dH m shop e).2≠0\/5000<zj (dH m shop e).1.us
 .rw[yi h0]at h;cases h
 .have h1:(dH m shop e).2=0/\¬5000<zj (dH m shop e).1.us:=⟨Classical.not_not.1 λh2=>h0 (.inl h2),λh2=>h0 (.inr h2)⟩;cases hf:jV (dH m shop e).1.us (ix (dH m shop e).1.us os)with
  |none=>rw[yj h1 hf]at h;cases h
  |some c=>
   obtain⟨hb,hw⟩:=pL hy.p h1.1;have hc:=mB hb.msk (p0 os) _ _ (sL _) hf;have hs16:∀x∈(dH m shop e).1.us,x.cands.length<=16:=λx hx=>(hb.u x hx).1
   obtain⟨⟨g1,g3⟩,g2⟩:=CD hw hs16 (RI hc.2) hc.1;rw[yk h1 hf];have hq:OG (dH m shop e).1/\Wk (dH m shop e).1:=by
    have h2:=h1.1;unfold dH fV at h2⊢;split at h2
    .cases h2
    .split at h2
     .cases h2
     .split at h2
      .cases h2
      .rename_i h3;rw[ai lY,ai lY,ai h3];exact⟨OR hy (by simpa using h3),TQ hy (by simpa using h3)⟩
   exact⟨hq.1,hq.2,N5 g1,QO (Wi hw) g1 g3⟩
end
def HM (shop:List cj)(us:List dz)(c:List Int)(K:List Nat):List ea:=K.map λu=>(eA shop us c u (cG us c u)).1
def iE (us:List dz)(c:List Int):List Nat:=(List.range us.length).filter λu=>!ei us c u
theorem F8 {u:Nat}:u∈iE us c↔u<us.length/\ei us c u=false:=by
 grind [iE]
def Yx (us:List dz)(c:List Int):(iE us c).Pairwise (· < ·):=List.Pairwise.sublist List.filter_sublist List.pairwise_lt_range
def C8 (h:(eQ shop w c).2=0):(eQ shop w c).1=HM shop w.us c (iE w.us c):=(pW w.us.length h).1
def Mk {shop:List cj}{us:List dz}{c:List Int}:∀n,(∀u,u<n->ei us c u=false->(eA shop us c u (cG us c u)).2=0)->(dP shop us c n).2=0
 |0,_=>rfl
 |n+1,h=>by
  have ih:=Mk n (λu hu=>h u ae);rw[dP,ai (λh2=>h2 ih)];split
  .exact ih
  .rename_i h2;rw[ai (λh3=>h3 (h n ae (by simpa using h2)))]
def UB (hy:yD y)(h:(cK y).2=true)(hm:eV (cK y).1 c=true){u:Nat}(hu:u<(cK y).1.us.length)(hs:ei (cK y).1.us c u=false):(eA y.shop (cK y).1.us c u (cG (cK y).1.us c u)).2=0:=by
 obtain⟨all,hr,hus,hc,hB⟩:=qk hy.p.p h;obtain⟨hz,h48,hcl⟩:=qc hr;obtain⟨hks,hnm⟩:=B1 hy.p.p hr;have hl:(cK y).1.us.length=all.length:=by rw[hus,bh]
 have hat:∀i,i<all.length->(cK y).1.us[i]! =qi y all all[i]! :=λi hi=>by rw[hus,eZ hi]
 have hua:u<all.length:=ae;simp only[ei,dX,b8,cX,aX]at hs;have hin:c[u]!.toNat<(cK y).1.us[u]!.cands.length:=by have:=((Ht hm).2 u hu).2;omega
 have hmem:=aq hin;have hne:=BO hks hz (i:=u) ae hua;have hmem':cG (cK y).1.us c u∈(eG y all[u]!).map (dA y all all[u]!):=by
  rw[<-Co hne (hc u hua)];have:(cK y).1.us[u]!.cands=(eo y all all[u]!).1:=by rw[hat u hua];rfl
  unfold cG;rw[this]at hmem⊢;exact hmem
 obtain⟨r,hr',he⟩:=ch.1 hmem';have hlk:=(List.mem_filter.1 hr').1;have hname:(cK y).1.us[u]!.name=all[u]!.n:=by rw[hat u hua];rfl
 obtain⟨h1,h2⟩:=Dd hy.p all[u]!.n r hlk;rw[<-he];unfold eA;rcases h2 with h2|⟨j,i,h2,hj,hi,e,hsB⟩
 .rw[ak (show(dA y all all[u]! r).sh=-1 from h2)]
 .have hsh:(dA y all all[u]! r).sh=(j:Int):=h2;have hv:(dA y all all[u]! r).v=y.shop[j]!.es[i]!.r.v:=by show r.r.v=_;rw[e]
  have hver:=xg hy.p.p hy.p.v hy.p.m all[u]!.n _ hlk;rw[e]at hver;obtain⟨k,hk,_⟩:=XD hsB hi hver;rw[ai (by rw[hsh];omega),ai (by rw[hsh];omega),hsh,Int.toNat_natCast,hname,<-h1,e,hv,ai (by rw[hk];omega)]
def CA {l:List ea}{nm:av}:∀p,p<=l.length->(∀q,q<p->l[q]!.name≠nm)->me l nm 0=me l nm p
 |0,_,_=>rfl
 |p+1,hp,h=>by rw[CA p ae (λq hq=>h q ae),LR ae (h p ae)]
def R8 {K:List Nat}{p:Nat}(hp:p<K.length):(HM shop us c K)[p]! =(eA shop us c K[p]! (cG us c K[p]!)).1:=by
 unfold HM;rw[getElem!_pos _ p (by rw[bh];exact hp),List.getElem_map,getElem!_pos K p hp]
section
def QV (hq:OG w)(hm:eV w c=true)(hh:rq w c=[])(h:(eQ shop w c).2=0){u:Nat}(hu1:1<=u)(hu:u<w.us.length):
  (c[u]! <0->w.us[u]!.feat=[]->me (eQ shop w c).1 w.us[u]!.name 0=-1)/\
  (0<=c[u]! ->∃p:Nat,p<(eQ shop w c).1.length/\me (eQ shop w c).1 w.us[u]!.name 0=(p:Int)/\(eQ shop w c).1[p]!.v=(cG w.us c u).v):=by
 obtain⟨_,e2⟩:=pW w.us.length h;rw[C8 h];have hll:(HM shop w.us c (iE w.us c)).length=(iE w.us c).length:=by unfold HM;rw[bh]
 have hK:∀q,q<(iE w.us c).length->((iE w.us c)[q]! <w.us.length/\ei w.us c (iE w.us c)[q]! =false):=λq hq'=>F8.1 (aq hq')
 have hnm:∀q,q<(iE w.us c).length->(HM shop w.us c (iE w.us c))[q]!.name=w.us[(iE w.us c)[q]!]!.name:=λq hq'=>by
  rw[R8 hq'];exact(nY (e2 _ (hK q hq').1 (hK q hq').2)).1
 have hmain:∀q,q<(iE w.us c).length->1<=(iE w.us c)[q]! /\w.us[(iE w.us c)[q]!]!.feat=[]/\0<=c[(iE w.us c)[q]!]! :=λq hq'=>by
  have hs:=(hK q hq').2;simp only[ei,dX,b8,cX,aX]at hs;exact⟨ae,hs.2,ae⟩
 have huniq:∀q j,q<(iE w.us c).length->1<=j->j<w.us.length->w.us[j]!.feat=[]->w.us[(iE w.us c)[q]!]!.name=w.us[j]!.name->(iE w.us c)[q]! =j:=by
  intro q j hq' h1 h2 h3 h4;have a1:=aaJ hq.val (hmain q hq').1 (hK q hq').1;have a2:=aaJ hq.val h1 h2;rw[(hmain q hq').2.1,h4]at a1;rw[h3]at a2;omega
 constructor
 .intro hc hf;rw[CA (HM shop w.us c (iE w.us c)).length (aT _) (λq hq' e=>by
   rw[hll]at hq';rw[hnm q hq']at e;have:=huniq q u hq' hu1 hu hf e;have:=(hmain q hq').2.2;rw[huniq q u hq' hu1 hu hf e]at this;omega),FV (aT _)]
 .intro hc;obtain⟨j,hj,hjn,hjf,hjc,hjv⟩:∃j,(1<=j/\j<w.us.length)/\w.us[j]!.name=w.us[u]!.name/\w.us[j]!.feat=[]/\0<=c[j]! /\(cG w.us c j).v=(cG w.us c u).v:=by
   by_cases hf:w.us[u]!.feat=[]
   .exact⟨u,⟨hu1,hu⟩,rfl,hf,hc,rfl⟩
   .obtain⟨j,hj,hjn,hjc,hjv⟩:=ad2 hq hm hh hu1 hu hf hc;exact⟨j,hj,hjn.1,hjn.2,hjc,hjv⟩
  obtain⟨p,hp,hpe⟩:=List.getElem_of_mem (F8.2 ⟨hj.2,IG hj.1 hjc hjf⟩);have hpe':(iE w.us c)[p]! =j:=by rw[getElem!_pos _ p hp];exact hpe
  refine⟨p,by rw[hll];exact hp, ?_, ?_⟩
  .rw[CA p (by rw[hll];omega) (λq hq' e=>by
    have hql:q<(iE w.us c).length:=ae;rw[hnm q hql,<-hjn]at e;have e1:=huniq q j hql hj.1 hj.2 hjf e;have e3:=List.pairwise_iff_getElem.1 (Yx w.us c) q p hql hp hq';rw[<-getElem!_pos (iE w.us c) q hql,<-getElem!_pos (iE w.us c) p hp,e1,hpe']at e3;omega)]
   exact LP (by rw[hll];exact hp) (by rw[hnm p hp,hpe'];exact hjn)
  .rw[R8 hp,(nY (e2 _ (hK p hp).1 (hK p hp).2)).2.1,hpe'];exact hjv
def wR (us:List dz)(c:List Int)(n:Nat):Nat:=((List.range n).filter λu=>!ei us c u).length
def yL (us:List dz)(c:List Int)(n:Nat):Nat:=((List.range n).filter λu=>!ei us c u&&decide (0<=(cG us c u).sh)).length
def W3 (h:(eQ shop w c).2=0):wR w.us c w.us.length=(eQ shop w c).1.length:=by
 rw[C8 h];unfold HM;rw[bh];rfl
def Pp (hs:eR shop=true){u:Nat}{x:fj}(h:(eA shop w.us c u x).2=0):decide ((eA shop w.us c u x).1.shelf≠[])=decide (0<=x.sh):=by
 have hsh:∀j,j<shop.length->dc shop[j]!.name=true:=by
  intro j hj;simp only[eR,aK,bG,zC,gy]at hs;exact(hs.2 j (Nat.zero_le _) hj).1.1.1
 unfold eA at h⊢;split
 .rename_i h1;rw[h1];rfl
 .rename_i h1;rw[ai h1]at h;split at h
  .cases h
  .rename_i h2;rw[ai h2];split at h
   .cases h
   .rename_i h3;rw[ai h3];have:=Sf (hsh x.sh.toNat ae);exact kZ.2 ⟨λ_=>ae,λ_=>this⟩
def Un (hs:eR shop=true)(h:(eQ shop w c).2=0):(ph (eQ shop w c).1).length=yL w.us c w.us.length:=by
 obtain⟨_,e2⟩:=pW w.us.length h;rw[C8 h];unfold ph yL HM iE;rw[bh,List.filter_map,bh,List.filter_filter];congr 1;apply List.filter_congr;intro u hu;have hu:=List.mem_range.1 hu;show(decide _&&_)=_;cases hk:ei w.us c u
 .simp only[Bool.not_false,ez,fR];exact Pp hs (e2 u hu hk)
 .simp
end
end Go.Abs
end
