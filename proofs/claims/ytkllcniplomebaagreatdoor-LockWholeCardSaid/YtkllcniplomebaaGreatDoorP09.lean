/- A part of the proofs. -/
import Derived.Test.YtkllcniplomebaaGreatDoorP08
set_option linter.all false
set_option maxRecDepth 60000
set_option maxHeartbeats 2000000
namespace Go.Abs
variable(T:List D->D->Prop)(Z:Ctx){σ:List (Nat×Nat)}{q:Prop}{Q:Ex->List aY->St->Prop}{env:List aY}{fx:Bool}{ds es:List D}{ι α:Type}{x:Src}{a d:D}{n k nx lo l c:Nat}{r:List (Nat×bm)}{F2:Nat->List aY}{st:St}
section
variable {m:gI}{shop:List cj}{e:Env}{os:List Int}
theorem Eg (hy:yD (yu m shop e))(h:(di m shop e os).2.2=true):(eR shop=true/\pd e=true)/\(cK (yu m shop e)).2=true/\(di m shop e os).1=(cK (yu m shop e)).1:=by
 by_cases h0:(dH m shop e).2≠0\/5000<zj (dH m shop e).1.us
 .rw[yi h0]at h;cases h
 .have h1:(dH m shop e).2=0/\¬5000<zj (dH m shop e).1.us:=⟨Classical.not_not.1 λh2=>h0 (.inl h2),λh2=>h0 (.inr h2)⟩;have e1:(di m shop e os).1=(dH m shop e).1:=by
   cases hf:jV (dH m shop e).1.us (ix (dH m shop e).1.us os)with
   |none=>rw[yj h1 hf]at h;cases h
   |some c=>rw[yk h1 hf]
  rw[e1];have h2:=h1.1;unfold dH fV at h2⊢;split at h2
  .cases h2
  .rename_i g1;split at h2
   .cases h2
   .rename_i g2;split at h2
    .cases h2
    .rename_i g3;rw[ai g1,ai g2,ai g3];exact⟨by grind,by simpa using g3,rfl⟩
def Vw (hy:yD (yu m shop e))(h:(di m shop e os).2.2=true):(HY shop e (di m shop e os).1 (di m shop e os).2.1).2=0:=by
 obtain⟨⟨hs,he⟩,hw,hwe⟩:=Eg hy h;obtain⟨hq,hn,hm,hh⟩:=A4 hy h;have hl:(eQ shop (di m shop e os).1 (di m shop e os).2.1).2=0:=by
  refine Mk _ (λu hu hsk=>?_);have hm2:=hm;rw[hwe]at hm2 hu hsk⊢;exact UB hy hw hm2 hu hsk
 unfold HY;rw[ai (by rw[hq.val,hs,he,hm];simp),ai (by rw[hh];simp),ai (by rw[hl];simp)]
end
section
variable {us:List dz}{c:List Int}{u:Nat}
def W2 (h:ei us c u=false):wR us c (u+1)=wR us c u+1:=by unfold wR;rw[List.range_succ,List.filter_append,bV];simp[h]
def W1 (h:ei us c u=true):wR us c (u+1)=wR us c u:=by unfold wR;rw[List.range_succ,List.filter_append,bV];simp[h]
def ah5 (h:ei us c u=false)(h2:0<=(cG us c u).sh):yL us c (u+1)=yL us c u+1:=by unfold yL;rw[List.range_succ,List.filter_append,bV];simp[h,h2]
def OX (h:ei us c u=true\/¬0<=(cG us c u).sh):yL us c (u+1)=yL us c u:=by unfold yL;rw[List.range_succ,List.filter_append,bV];rcases h with h|h<;>simp[h]
def acM (n:Nat):wR us c n<=n/\yL us c n<=n:=by
 unfold wR yL;have h1:=List.length_filter_le (λu=>!ei us c u) (List.range n);have h2:=List.length_filter_le (λu=>!ei us c u&&decide (0<=(cG us c u).sh)) (List.range n);rw[List.length_range]at h1 h2;exact⟨h1,h2⟩
def SY (h:c[u]! <0):ei us c u=true:=by unfold ei;rw[bg h,Bool.or_true];rfl
def SX (h:¬us[u]!.feat=[]):ei us c u=true:=by unfold ei;rw[bB h];simp
end
def JK:=∀(s:av),(s.length<=1048576)->T [.str s] (.tup [bO.D ((uL s).getD By),.int .i64 (QS s)])
def C466:=JK (aE Z 466)
def JW:=∀(s:av),(s.length<=8192)->T [.str s] (.tup [Env.D (Bd s),.bool (LK s)])
def C546:=JW (aE Z 546)
def JX:=∀(t:av),(t.length<=8192)->T [.str t] (.tup [ea.D (Fk t),.bool (Ml t)])
def C547:=JX (aE Z 547)
def Ji:=∀(s:av),(s.length<=1048576)->T [.str s] (.tup [jE.D (gZ s).1,.int .i64 (gZ s).2.1,.int .i64 (gZ s).2.2])
def C309:=Ji (aE Z 309)
def JS:=∀(x:ea) (nm:av),T [ea.D x,.ref 1 [.str nm] 0 0] (.bool (decide (x.name=nm)))
def C529:=JS (aE Z 529)
def JR:=∀(l:List ea) (nm:av),T [.sl 9 (l.map ea.D),.fn 529 [.ref 1 [.str nm] 0 0]] (.int .i64 (me l nm 0))
def C528:=JR (aE Z 528)
def Jh:=∀(l:jE) (nm:av),T [jE.D l,.str nm] (.int .i64 (me l.lines nm 0))
def C294:=Jh (aE Z 294)
def Ti:Prop:=T [] (.bool true)
def C119:=Ti (aE Z 119)
def aeJ (g:Gs)(nm:av)(v:bO):oZ 60 g (pw g nm v 3).2:=by
 have r:=(g.S8 (3+1)).1 ae;have h1:=xr nm g.aI (g.val (3+1)).toNat;have h2:=Hg (nS nm g.aI (g.val (3+1)).toNat).2 nm;have h3:=Hs (eE (nS nm g.aI (g.val (3+1)).toNat).2 nm).2 (nS nm g.aI (g.val (3+1)).toNat).1;show oZ 60 g (lu (eE (nS nm g.aI (g.val (3+1)).toNat).2 nm).2 (nS nm g.aI (g.val (3+1)).toNat).1).2;rw[h1.2]at h3;have h4:=h1.1;unfold oZ at*
 simp only[Gs.YT]at*
 omega
section
variable {g:Gs}
def akK (h:g.val 4=0):j2 g=([⟨cB[(g.aI.val 4).toNat]!,Ef⟩],g.aI.aI):=ak h
def akJ (h:¬g.val 4=0):j2 g=([],g.aI):=ai h
def adF (h:g.val 4=0):CT g=([⟨cB[(g.aI.val 4).toNat]!,j4[(g.aI.aI.val 8).toNat]!⟩],g.aI.aI.aI):=ak h
def adE (h:¬g.val 4=0):CT g=([],g.aI):=ai h
def aet (g:Gs):oZ 2 g (j2 g).2:=by unfold j2 oZ;split<;>simp only[Gs.aI]<;>omega
end
def Jq:=∀(l:List gI) (nm:av),T [.sl 11 (l.map gI.D),.str nm] (.int .i64 (lM l nm))
def C356:=Jq (aE Z 356)
def Jm:=∀(l:List iH),T [.sl 2 (l.map iH.D)] (.tup [.int .i64 (Dv l).1,.int .i64 (Dv l).2])
def C344:=Jm (aE Z 344)
def Jn:=∀(l:List kB),(∀x∈l,kj x.range)->T [.sl 2 (l.map kB.D)] (.tup [.int .i64 (CU l).1,.int .i64 (CU l).2])
def C345:=Jn (aE Z 345)
def I1:=∀(m:gI),(Yz m)->T [gI.D m] (.tup [.int .i64 (kE m).1,.int .i64 (kE m).2])
def C136:=I1 (aE Z 136)
def QZ:=∀(ks:List Int),T [.sl 1 (ks.map (D.int .i64))] (.sl 11 ([qm ks].map gI.D))
def C28:=QZ (aE Z 28)
def Jy:=∀(c:List Int) (x:ec),(Lk c x)->T [.sl 1 (c.map (D.int .i64)),ec.D x] (.bool (Dk c x))
def C416:=Jy (aE Z 416)
def I8:=∀(c:List Int) (l:List ec),(∀x∈l,Lk c x)->T [.sl 1 (c.map (D.int .i64)),.sl 2 (l.map ec.D)] (.bool (kf c l))
def C184:=I8 (aE Z 184)
def Ky:=∀(al:List Int) (u:Int) (p:Int),(al=[])->T [.sl 1 (al.map (D.int .i64)),.int .i64 u,.int .i64 p] (.bool true)
def C829:=Ky (aE Z 829)
def Kg:=∀(m:j9) (al:List Int) (c:List Int),((wB m/\K3 m c)/\al=[])->T [j9.D m,.sl 1 (al.map (D.int .i64)),.sl 1 (c.map (D.int .i64))] (.bool (yI m c))
def C692:=Kg (aE Z 692)
def Kz:=∀(od:List (List Int)) (u:Int) (n:Nat),(((0<=u/\u<=1000)/\n<=16)/\(cP od u).length<=16)->T [.sl 1 (od.map jL),.int .i64 u,.int .i64 ((n:Nat):Int)] (.sl 1 ((cD (cP od u) n n).map (D.int .i64)))
def C830:=Kz (aE Z 830)
def KA:=∀(l:List ec) (o:ec),T [.sl 2 (l.map ec.D),ec.D o] (.bool (offB l o))
def C831:=KA (aE Z 831)
def Kh:=∀(m:j9) (al:List Int) (c:List Int),((wB m/\K3 m c)/\al=[])->T [j9.D m,.sl 1 (al.map (D.int .i64)),.sl 1 (c.map (D.int .i64))] (.tup [.int .i64 (eg m c).1,.int .i64 (eg m c).2])
def C693:=Kh (aE Z 693)
def Ki:=∀(m:j9) (al:List Int) (od:List (List Int)) (c:List Int),((wB m/\K3 m c)/\al=[]/\yC m od)->T [j9.D m,.sl 1 (al.map (D.int .i64)),.sl 1 (od.map jL),.sl 1 (c.map (D.int .i64))] (.sl 2 ((ek m od c).map ec.D))
def C694:=Ki (aE Z 694)
def Tu:=∀(m:j9) (od:List (List Int)) (c:List Int),((wB m/\K3 m c)/\yC m od)->T [j9.D m,Ask.D ⟨[],od⟩,.sl 1 (c.map (D.int .i64))] (PN (mC m od c))
def C505:=Tu (aE Z 505)
def afx (Y:Ctx)(u:Nat):=∀(m:j9) (od:List (List Int)) (c:List Int),((wB m/\K3 m c)/\yC m od)->Fp c<u->Y.pre 505 [j9.D m,Ask.D ⟨[],od⟩,.sl 1 (c.map (D.int .i64))]/\Y.val 505 [j9.D m,Ask.D ⟨[],od⟩,.sl 1 (c.map (D.int .i64))]=PN (mC m od c)
def I7:=∀(w:cA) (l:List Want),(w.sm/\(∀x∈l,x.sm)/\l.length<=1000)->T [cA.D w,.sl 3 (l.map Want.D)] (.sl 2 ((eD w.us l).map ec.D))
def C183:=I7 (aE Z 183)
def Q3:=∀(w:cA),((w.sm/\w.us.length<=1000)/\Few w.us)->T [cA.D w] ((dx w.us).D)
def C46:=Q3 (aE Z 46)
def Jd:=∀(w:cA) (od:List (List Int)),((((w.sm/\w.us.length<=1000)/\Few w.us)/\hR w=true)/\yC (dx w.us) od)->T [cA.D w,Ask.D ⟨[],od⟩] (PN (jV w.us od))
def C267:=Jd (aE Z 267)
def Je:=∀(w:cA) (l:List Int),(w.sm/\w.us.length<=1000)->T [cA.D w,.sl 1 (l.map (D.int .i64))] (.sl 1 ((ix w.us l).map jL))
def C268:=Je (aE Z 268)
def I0:=∀(w:cA),(w.sm)->T [cA.D w] (.int .i64 ((zj w.us:Nat):Int))
def C114:=I0 (aE Z 114)
def J3:=∀(l:List iH) (p:iH),(l.length<=10000)->T [.sl 2 (l.map iH.D),iH.D p] (.tup [.sl 2 ((lL l p).1.map iH.D),.bool (lL l p).2])
def C581:=J3 (aE Z 581)
def I2:=∀(l:List gI),(wE l)->T [.sl 11 (l.map gI.D)] (.tup [.int .i64 0,.int .i64 0])
def VY:=I2 (aE Z 143)
def EK:=∀(l:List gI) (nm:av),(wE l)->T [.sl 11 (l.map gI.D),.str nm] (.int .i64 (lM l nm))
def afk:=EK (aE Z 1012)
def EW:=∀(s:cj) (nm:av),T [cj.D s,.str nm] (.bool (CP nm s))
def afw:=EW (aE Z 1121)
def C361:=ud (aE Z 361)
def EV:=∀(l:List iH),T [.sl 2 (l.map iH.D)] (.bool (Ay l))
def afv:=EV (aE Z 1120)
def ET:=∀(shop:List cj) (ps:List iH) (nm:av),(jG shop)->T [.sl 2 (shop.map cj.D),.sl 2 (ps.map iH.D),.str nm] (.tup [.int .i64 (fU shop ps nm).1,.int .i64 (fU shop ps nm).2])
def afr:=ET (aE Z 1083)
def EU:=∀(s:cj) (nm:av),(∀x∈s.es,iq x.r)->T [cj.D s,.str nm] (.sl 1 ((kg s nm).map (D.int .i64)))
def afs:=EU (aE Z 1084)
def EN:=∀(shop:List cj) (ps:List iH) (nm:av),(jG shop)->T [.sl 2 (shop.map cj.D),.sl 2 (ps.map iH.D),.str nm] (.tup [.int .i64 (cH shop ps nm).1,.sl 1 ((cH shop ps nm).2.1.map (D.int .i64)),.int .i64 (cH shop ps nm).2.2])
def afl:=EN (aE Z 1013)
def EO:=∀(l:List gI) (nm:av),(wE l)->T [.sl 11 (l.map gI.D),.str nm] (.tup [cu.D (kL l nm),.int .i64 0])
def afm:=EO (aE Z 1014)
def ER:=∀(y:cx) (ns:List av) (r:Rec),((∀k∈y.keeps,k.v.sm)/\r.v.sm)->T [cx.D y (fdR y ns),Rec.D r] (.bool (Mb y.keeps r))
def afn:=ER (aE Z 1015)
def C909:=∀(y:cx) (ns:List av) (nm:av),pG y->OB Z 909 y (λf=>[cx.D y f,.str nm]) ns ns (uK (dI y nm))
def C755:=∀(y:cx) (ns:List av) (nm:av),pG y->ns.length<=1000->OB Z 755 y (λf=>[cx.D y f,.str nm]) ns (eU ns nm) (uK (dI y nm))
def C752:=∀(y:cx) (ns:List av) (k:Key),pG y->ns.length<=999->OB Z 752 y (λf=>[cx.D y f,Key.D k]) ns (eU ns k.n) (uK (eG y k))
def C751:=∀(y:cx) (ns:List av),(∀m∈y.l,m.r.v∈bT)->y.l.length<=1000->OB Z 751 y (λf=>[cx.D y f]) ns ns (.sl 1 ((eH y.l).map dU))
def KC:=∀(a:Key) (b:Key),T [Key.D a,Key.D b] (.bool (e7 a b))
def C902:=KC (aE Z 902)
def ES:=∀(x:c9),(x.feats.length<=10000)->T [c9.D x] (.sl 2 ((fg x).map Key.D))
def afq:=ES (aE Z 1080)
def EJ:=∀(n:bp),(wC n/\n.sm)->T [bp.D n] (.sl 1 ((iG n).map dU))
def VV:=EJ (aE Z 1009)
def KG:=∀(r:Rec) (e:Env) (nm:av) (ft:av),(Cd r/\kF e)->T [Rec.D r,Env.D e,.str nm,.str ft] (.sl 1 ((iT r.needs e nm ft).map dU))
def C906:=KG (aE Z 906)
def KE:=∀(r:Rec) (e:Env) (o:av),(Cd r/\kF e)->T [Rec.D r,Env.D e,.str o] (.sl 1 ((qR r.needs e o).map dU))
def C904:=KE (aE Z 904)
def KF:=∀(l:List bY) (nm:av),T [.sl 2 (l.map bY.D),.str nm] (.sl 1 ((uY l nm).map D.str))
def C905:=KF (aE Z 905)
def Kr:=∀(r:Rec) (e:Env) (ft:av),((Cd r/\r.v∈bT)/\kF e)->T [Rec.D r,Env.D e,.str ft] (.sl 1 ((cJ r e ft).map dU))
def C753:=Kr (aE Z 753)
def KD:=∀(l:List Key) (k:Key),T [.sl 2 (l.map Key.D),Key.D k] (.int .i64 (eu l k))
def C903:=KD (aE Z 903)
def Kq:=∀(all:List Key) (l:List fN),(l.length<=1000/\∀r∈l,r.length<=1000)->T [.sl 2 (all.map Key.D),.sl 1 (l.map dU)] (.sl 1 ((dF all l).map jC))
def C750:=Kq (aE Z 750)
def Ks:=∀(all:List Key) (r:Rec) (e:Env),(Cd r/\kF e)->T [.sl 2 (all.map Key.D),Rec.D r,Env.D e] (.sl 3 ((wK all r e).map Want.D))
def C754:=Ks (aE Z 754)
def C583:=∀(y:cx) (ns:List av) (all:List Key) (k:Key),(qy y/\kF y.e)->ns.length<=990->OB Z 583 y (λf=>[cx.D y f,.sl 2 (all.map Key.D),Key.D k]) ns (jq ns k) (sf y all k)
def C748:=∀(y:cx) (ns:List av) (k:Key),(qy y/\kF y.e)->ns.length<=998->OB Z 748 y (λf=>[cx.D y f,Key.D k]) ns (jq ns k) (.sl 1 ((cZ y k).map dU))
def Ko:=∀(l:List Key) (k:Key),(l.length<=200000)->T [.sl 2 (l.map Key.D),Key.D k] (.sl 2 ((sN l k).map Key.D))
def C749:=Ko (aE Z 749)
def C582:=∀(y:cx) (ns:List av),(qy y/\kF y.e)->ns.length<=900->OB Z 582 y (λf=>[cx.D y f]) ns (sP y 49 nB ns) (qX y)
def C362:=∀(y:cx),(qy y/\kF y.e)->WldC Z 362 y (zJ y)
def Jr:=∀(l:List gI),(wE l)->T [.sl 11 (l.map gI.D)] (.tup [.sl 2 ((gu l).map iH.D),.int .i64 0])
def C360:=Jr (aE Z 360)
def I3:=∀(l:List gI) (shop:List cj) (e:Env) (ks:List Kp),(qy (yr l shop e ks)/\kF e)->T [.sl 11 (l.map gI.D),.sl 2 (shop.map cj.D),Env.D e,.sl 6 (ks.map Kp.D)] (.tup [cA.D (fV l shop e ks).1,.int .i64 (fV l shop e ks).2])
def C147:=I3 (aE Z 147)
def JP:=∀(w:cA) (c:List Int),(w.sm)->T [cA.D w,.sl 1 (c.map (D.int .i64))] (.sl 1 ((fq w c).map D.bool))
def C506:=JP (aE Z 506)
def Jf:=∀(w:cA) (c:List Int),(w.sm)->(c.length<=1000)->T [cA.D w,.sl 1 (c.map (D.int .i64))] (.sl 1 ((rS w c).map (D.int .i64)))
def C269:=Jf (aE Z 269)
def Q5:=∀(m:gI) (shop:List cj) (e:Env) (os:List Int),(qy (yu m shop e)/\kF e)->T [.sl 11 ([m].map gI.D),.sl 2 (shop.map cj.D),Env.D e,.sl 1 (os.map (D.int .i64))] (.tup [cA.D (di m shop e os).1,.sl 1 ((di m shop e os).2.1.map (D.int .i64)),.bool (di m shop e os).2.2])
def C91:=Q5 (aE Z 91)
def Q6:=∀(shop:List cj) (e:Env) (w:cA) (c:List Int),(OfP shop w c)->T [.sl 2 (shop.map cj.D),Env.D e,cA.D w,.sl 1 (c.map (D.int .i64))] (.tup [jE.D (HY shop e w c).1,.int .i64 (HY shop e w c).2])
def C98:=Q6 (aE Z 98)
def EX:=∀(ys:List Int) (ss:List Int) (os:List Int) (n:Int),T [.sl 1 (ys.map (D.int .i64)),.sl 1 (ss.map (D.int .i64)),.sl 1 (os.map (D.int .i64)),.int .i64 n] (.bool true)
def aN {p:Prop}(h:p:=by((repeat intro _);exact okp W5 (.inl (by assumption)) λT hT=>(by apply hT<;>assumption))):p:=h
def aG {t:List (Nat×mG)}{key u q:Nat}:((under t key u).at q).bN:=Ob t key u q
def c8 {a:Option α}{b c:α}(h:a=some b)(e:b=c:=by kernel_rfl):a=some c:=h.trans (congrArg some e)
def zvI {k:IntKind}{n:Int}(h:a=.int k n):a=.int k n:=h
def zvS {s:List UInt8}(h:a=.str s):a=.str s:=h
def zvB {s:Bool}(h:a=.bool s):a=.bool s:=h
def zvL {s:List D}(h:a=.sl k s):a=.sl k s:=h
def zvO {i:Nat}(h:a=.own l k i n):a=.own l k i n:=h
def zvP {i:Nat}(h:a=.ptr l k i n):a=.ptr l k i n:=h
def zvN (h:a=.aR):a=.aR:=h
def zM (q:α->D){x:α}(h:a=q x):a=q x:=h
def zvW {e:D}{o:Nat}{ag:Bool}(h:kN e k n o ag=e):kN e k n o ag=e:=h
def fold {v:D}(h:a=v:=by first|exact zvW rfl|exact zvI rfl|exact zvS rfl|exact zvB rfl|exact zvL rfl|exact zvO rfl|exact zvN rfl|exact zvP rfl|exact zM bO.D rfl|exact zM Cut.D rfl|exact zM Span.D rfl|exact zM cu.D rfl|exact zM Want.D rfl|exact zM Key.D rfl|exact zM iH.D rfl|exact zM kB.D rfl|exact zM c9.D rfl|exact zM bp.D rfl|exact zM mF.D rfl|exact zM bY.D rfl|exact zM Rec.D rfl|exact zM j8.D rfl|exact zM cj.D rfl|exact zM uG.D rfl|exact zM gI.D rfl|exact zM fj.D rfl|exact zM dz.D rfl|exact zM cA.D rfl|exact zM ec.D rfl|exact zM jl.D rfl|exact zM ea.D rfl|exact zM jE.D rfl|exact zM Env.D rfl|exact zM Kp.D rfl|exact zM jk.D rfl):a=v:=h
def pT {F R:Prop}(h:Hid (F->q) wX)(a:F)(k:Hid q wX->R):R:=k ⟨h.1 a⟩
structure Hol {α:Type}(a:α):Prop
section
variable {Y:Ctx}{draw:Bool}{r:List GI}{rs:List aY}{m:List (Nat×bm)}{K:List aY->St->Prop}{g:Option (Nat×Bool)}{f:Bool}
def ak3 {o:Nat}{ag:Bool}{v:D}(h:aB Y draw r env (⟨f,v⟩::rs) nx m K)(hg:GF rs g f:=by exact cz)(hx:bS env rs x=⟨fx,.ptr l k 0 o⟩:=by exact rfl)(kx:f=true->fx=true:=by exact bw)(hl:f=true->look m l=some (.buf k [d]):=by exact λ_=>rfl)(hv:kN d k n o ag=v:=by exact fold)(ho:o+n<=k:=by omega):aB Y draw (⟨.ld n ag x,g⟩::r) env rs nx m K:=lz v h hg hx kx hl (λ_=>hv) ho
def ak6 {i o:Nat}{ag:Bool}{v:D}[Inhabited α]{q:α->D}{xs:List α}(h:aB Y draw r env (⟨f,v⟩::rs) nx m K)(hg:GF rs g f:=by exact cz)(hx:bS env rs x=⟨fx,.ref k (xs.map q) i o⟩:=by exact rfl)(kx:f=true->fx=true:=by exact bw)(hi:f=true->i<xs.length:=by exact rr)(hv:kN (q xs[i]!) k n o ag=v:=by exact fold)(ho:o+n<=k:=by omega):aB Y draw (⟨.ld n ag x,g⟩::r) env rs nx m K:=dm v h hg hx kx hi (λ_=>hv) ho
def ak5 {i o:Nat}{ag:Bool}{v:D}(h:aB Y draw r env (⟨f,v⟩::rs) nx m K)(hg:GF rs g f:=by exact cz)(hx:bS env rs x=⟨fx,.ref k es i o⟩:=by exact rfl)(kx:f=true->fx=true:=by exact bw)(hi:f=true->i<es.length:=by intro _;simp only[List.length_cons,List.length_nil];omega)(hv:kN (es.getD i .any) k n o ag=v:=by exact fold)(ho:o+n<=k:=by omega):aB Y draw (⟨.ld n ag x,g⟩::r) env rs nx m K:=ZG v h hg hx kx hi (λ_=>hv) ho
def ak4 {i o:Nat}{ag:Bool}{v:D}[Inhabited α]{q:α->D}{xs:List α}(h:aB Y draw r env (⟨f,v⟩::rs) nx m K)(hg:GF rs g f:=by exact cz)(hx:bS env rs x=⟨fx,.ptr l k i o⟩:=by exact rfl)(kx:f=true->fx=true:=by exact bw)(hl:f=true->look m l=some (.buf k (xs.map q)):=by exact λ_=>rfl)(hi:f=true->i<xs.length:=by exact rr)(hv:kN (q xs[i]!) k n o ag=v:=by exact fold)(ho:o+n<=k:=by omega):aB Y draw (⟨.ld n ag x,g⟩::r) env rs nx m K:=uZ v h hg hx kx hl hi (λ_=>hv) ho
def akZ {i:Nat}{v:D}(h:aB Y draw r env (⟨f,v⟩::rs) nx m K)(hg:GF rs g f:=by exact cz)(hx:bS env rs x=⟨fx,.tup ds⟩:=by exact rfl)(kx:f=true->fx=true:=by exact bw)(hv:ds.getD i .any=v:=by simp only[List.getD_cons_zero,List.getD_cons_succ];exact rfl)(hb:f=true->i<ds.length:=by intro _;simp only[List.length_cons,List.length_nil];omega):aB Y draw (⟨.ext x i,g⟩::r) env rs nx m K:=gw v h hg hx kx (λ_=>hv) hb
def r_stW {o:Nat}{y:Src}{v:D}{m2:List (Nat×bm)}(h:aB Y draw r env (⟨true,.any⟩::rs) nx m2 K)(hx:bS env rs x=⟨true,.ptr l k 0 o⟩:=by exact rfl)(hy:bS env rs y=⟨true,v⟩:=by exact rfl)(hl:look m l=some (.buf k [d]):=by exact rfl)(hc:v.cells.length=n:=by exact rfl)(he:rj d k n o v=v:=by exact rfl)(ho:o+n<=k:=by omega)(hm:dh m l (.buf k [v])=m2:=by simp only[dh,dd,Nat.reduceEqDiff,if_true,if_false,Nat.reduceAdd,reduceCtorEq];exact rfl):aB Y draw (⟨.st n x y,none⟩::r) env rs nx m K:=br v h hx hy hl hc he ho hm
def akY {y:Src}{fy:Bool}{ag:Bool}{ks:List CK}{b:D}{v:Bool}(h:aB Y draw r env (⟨f,.bool (v)⟩::rs) nx m K)(hg:GF rs g f:=by exact cz)(hx:bS env rs x=⟨fx,a⟩:=by exact rfl)(hy:bS env rs y=⟨fy,b⟩:=by exact rfl)(kx:f=true->fx=true:=by exact bw)(ky:f=true->fy=true:=by exact bw)(hb:gU a.cells b.cells=v:=by first|exact bO.eq _ _|exact Key.eqD _ _|exact eqBb _ _|exact iH.eq _ _|exact Env.eq _ _|exact Kp.eq _ _|exact mF.eq _ _|exact ec.eq _ _)(h1:f=true->a.isAgg=ag/\b.isAgg=ag/\fH ks a.cells/\fH ks b.cells:=by exact uM):aB Y draw (⟨.eqA false ag ks x y,g⟩::r) env rs nx m K:=r_eqP h hb hg hx hy kx ky h1
def akX {y:Src}{fy:Bool}{ag:Bool}{ks:List CK}{b:D}{v:Bool}(h:aB Y draw r env (⟨f,.bool (!v)⟩::rs) nx m K)(hg:GF rs g f:=by exact cz)(hx:bS env rs x=⟨fx,a⟩:=by exact rfl)(hy:bS env rs y=⟨fy,b⟩:=by exact rfl)(kx:f=true->fx=true:=by exact bw)(ky:f=true->fy=true:=by exact bw)(hb:gU a.cells b.cells=v:=by first|exact bO.eq _ _|exact Key.eqD _ _|exact eqBb _ _|exact iH.eq _ _|exact Env.eq _ _|exact Kp.eq _ _|exact mF.eq _ _|exact ec.eq _ _)(h1:f=true->a.isAgg=ag/\b.isAgg=ag/\fH ks a.cells/\fH ks b.cells:=by exact uM):aB Y draw (⟨.eqA true ag ks x y,g⟩::r) env rs nx m K:=r_eqN h hb hg hx hy kx ky h1
def aeD {y:Src}{fy:Bool}{a b:List UInt8}(h:aB Y draw r env (⟨f,.str (a++b)⟩::rs) nx m K)(hg:GF rs g f:=by exact cz)(hx:bS env rs x=⟨fx,.str a⟩:=by exact rfl)(hy:bS env rs y=⟨fy,.str b⟩:=by exact rfl)(kx:f=true->fx=true:=by exact bw)(ky:f=true->fy=true:=by exact bw)(hb:f=true->a.length+b.length<=9223372036854775807:=by intro _;simp only[List.length_append,List.length_cons,List.length_nil];omega):aB Y draw (⟨.bin .add x y,g⟩::r) env rs nx m K:=zn h hg hx hy kx ky hb
theorem aeE {args:List Src}{sh:List (List Sh)}{v:D}(h:aB Y draw r env (⟨f,v⟩::rs) nx m K)(hg:GF rs g f:=by exact cz)(hc:f=true->Y.pre n (jf m sh (iL (bS env rs) args))/\Y.val n (jf m sh (iL (bS env rs) args))=v:=by intro hf;apply_assumption (transparency:=.default) (exfalso:=false) (symm:=false) only[*];(all_goals first|assumption|omega|(simp at hf;omega)|grind))(ho:f=true->BW (bS env rs) args:=by exact uM)(hp:f=true->iU m sh (iL (bS env rs) args):=by exact uM)(hk:f=true->qB (iL (bS env rs) args) v=true:=by exact λ_=>rfl):aB Y draw (⟨.call n args sh,g⟩::r) env rs nx m K:=bX h hg hc (λ_=>rfl) ho hp hk
end
section
variable {Y:Ctx}{draw:Bool}{r:List GI}{rs:List aY}{m:List (Nat×bm)}{K:List aY->St->Prop}{g:GI}
def tgW {a:AC}(h:dk Y a Q env st):dk Y a Q env st:=h
def tgR (h:aB Y draw (g::r) env rs nx m K):aB Y draw (g::r) env rs nx m K:=h
def tgS {a:aj}(h:dk Y a.body (Rr a d) (fP a ds) ⟨0,[]⟩):dk Y a.body (Rr a d) (fP a ds) ⟨0,[]⟩:=h
def tgE (h:aB Y draw [] env rs nx m K):aB Y draw [] env rs nx m K:=h
def tgl1 {id:Nat}{a b:AC}(h:dk Y (.seq (.block id (.loop a)) b) Q env st):dk Y (.seq (.block id (.loop a)) b) Q env st:=h
def tgl2 {id:Nat}{a:AC}(h:dk Y (.block id (.loop a)) Q env st):dk Y (.block id (.loop a)) Q env st:=h
end
inductive Lc:List D->Nat->List aY->Prop
 |A {d:D} {ds:List D} {n:Nat} {e:List aY} (h:Lc ds n e):Lc (d::ds) n (⟨true,d⟩::e)
 |U {n n':Nat} {e:List aY} (hn:n=n'+1) (h:Lc [] n' e):Lc [] n (.un::e)
 |N {n:Nat} (hn:n=0):Lc [] n []
def Lc.eq {e:List aY}(h:Lc ds n e):(ds.map λd=>⟨true,d⟩)++List.replicate n .un=e:=by
 induction h with
 |A _ ih=>simp[ih]
 |U hn _ ih=>subst hn;simpa[List.replicate_succ]using ih
 |N hn=>subst hn;rfl
def zst0 {Y:Ctx}{a:aj}{e:List aY}(h:dk (Y.at 0) a.body (Rr a d) e ⟨0,[]⟩)(he:Lc ds (a.ns-a.np) e:=by repeat(first|apply Lc.A|apply Lc.U (by exact rfl)|exact Lc.N (by exact rfl))):dk (Y.at 0) a.body (Rr a d) (fP a ds) ⟨0,[]⟩:=by
 unfold fP;rw[he.eq];exact h
def zsx {Y:Ctx}{a:aj}(k:q)(h:Hid q wX->dk (Y.at 0) a.body (Rr a d) (fP a ds) ⟨0,[]⟩:=by intro h;refine zst0 ?_;(first|refine ax ?_|refine cF ?_|refine eB ?_|refine ou ?_|refine kr ?_|refine wp_ret ?_|refine kq ?_ hm|refine zK ?_ hm|skip);exact h.1):dk (Y.at 0) a.body (Rr a d) (fP a ds) ⟨0,[]⟩:=h ⟨k⟩
def cY {p:Prop}(k:q)(h:Hid q wX->p:=by
 intro h;first
 |((with_reducible refine tgR ?_);first|(refine aW ?_;exact h.1)|(refine iF ?_;exact h.1)|(refine ak3 ?_;exact h.1)|(refine ak6 ?_;exact h.1)|(refine ak5 ?_;exact h.1)|(refine ak4 ?_;exact h.1)|(refine DH ?_;exact h.1)|(refine ak9 ?_;exact h.1)|(refine zp ?_;exact h.1)|(refine PX ?_;exact h.1)|(refine aeE ?_;exact h.1)|(refine p9 ?_;exact h.1)|(refine rM ?_;exact h.1)|(refine qa ?_;exact h.1)|(refine xK ?_;exact h.1)|(refine DI ?_;exact h.1)|exact P1 λa=>(h.1:_->_) (a rfl rfl)|exact P2 λa=>(h.1:_->_) (a rfl rfl)|exact P1 λ_=>h.1|exact P2 λ_=>h.1|(refine ak7 ?_;exact h.1)|exact cC _ h.1|exact ak1 h.1|exact DC _ h.1|exact ak2 h.1|(refine sO ?_;exact h.1)|(refine kT ?_;exact h.1)|(refine aeD ?_;exact h.1)|(refine xN ?_;exact h.1)|(refine r_stW ?_;exact h.1)|exact br _ h.1|(refine oa ?_;exact h.1)|(refine ak0 ?_;exact h.1)|(refine po ?_;exact h.1)|(refine ZL ?_;exact h.1)|(refine ZI ?_;exact h.1)|(refine ak8 ?_;exact h.1)|(refine PY ?_;exact h.1)|(refine ZD ?_;exact h.1)|(refine akZ ?_;exact h.1)|(refine P3 ?_;exact h.1)|(refine zt ?_;exact h.1)|exact DG λa=>(h.1:_->_) (a rfl rfl)|exact DG λ_=>h.1|exact AB _ h.1|exact ZF h.1|(refine cR ?_;exact h.1)|(refine akY ?_;exact h.1)|(refine akX ?_;exact h.1)|(refine r_rng ?_;exact h.1)|(refine ZM ?_;exact h.1)|(refine r_mkB ?_;exact h.1)|exact ZN _ h.1|exact ZP _ h.1|exact DJ _ h.1|exact M3 _ h.1|exact ZO _ _ h.1|exact ZQ _ _ h.1|exact M4 _ h.1|exact M5 _ h.1|exact ZR _ _ h.1)
 |((with_reducible refine tgW ?_);first|((with_reducible refine tgS ?_);exact zsx h.1)|with_reducible exact ax h.1|with_reducible exact cF h.1|with_reducible exact eB h.1|with_reducible exact ou h.1|with_reducible exact kr h.1|with_reducible exact wp_ret h.1|with_reducible exact wp_skip h.1|with_reducible exact rp h.1|with_reducible exact wp_exit h.1|((fail_if_success with_reducible refine tgl1 ?_);with_reducible exact kq h.1 hm)|((fail_if_success with_reducible refine tgl2 ?_);with_reducible exact zK h.1 hm))
 |((with_reducible refine tgE ?_);first|(refine rrrh ?_;exact h.1)|(refine rrrg ?_;exact h.1))
 |with_reducible exact BQ.normal h.1|with_reducible exact BQ.ret h.1|with_reducible exact LQ.normal h.1|with_reducible exact LQ.out h.1|with_reducible exact LQ.ret h.1|with_reducible exact BQ.out h.1|with_reducible exact E2.normal h.1|with_reducible exact E2.ret h.1|with_reducible exact wv.normal h.1|with_reducible exact wv.ret h.1|with_reducible exact E2.out h.1|with_reducible exact wv.out h.1|with_reducible exact CQ.normal h.1|with_reducible exact CQ.ret h.1|with_reducible exact CQ.other h.1|((with_reducible refine BQ.other ?_ h.1);exact rfl)|((with_reducible refine LQ.other ?_ h.1);exact rfl)|((with_reducible refine E2.other ?_ h.1);exact rfl)|((with_reducible refine wv.other ?_ h.1);exact rfl)):p:=h ⟨k⟩
def zg {p:Prop}(k:q)(h:Hid q wX->p:=by intro h;(repeat(refine cY ?_;try(intro a;apply pT h a;intro h)));exact h.1):p:=h ⟨k⟩
def zc {p q1 q2 c1 c2:Prop}(k1:c1->q1)(k2:c2->q2)(h:Hid (c1->q1) wX->Hid (c2->q2) wX->p:=by intro h1 h2;(repeat(refine cY ?_;try intro _));first|exact dT h1.1 h2.1|exact K5 h1.1 h2.1):p:=h ⟨k1⟩ ⟨k2⟩
def Yc (σ:List (Nat×Nat))(l:Nat):Option Nat:=match σ with
 |[]=>none
 |(a,b)::r=>bif Nat.beq b l then some a else Yc r l
def bn.nlx {l':Nat}{m:List (Nat×bm)}{es':List D}(h:bn lo c σ m r)(hi:Yc σ l'=some l:=by exact rfl)(hl:nb lo σ l=some l':=by exact rfl)(hm:look m l=some (.buf k es):=by exact rfl)(he:es'=es:=by exact rfl)(hn:aP es=true:=by first|exact rfl|exact cb (λ_=>rfl) _):bn lo c σ m ((l',.buf k es')::r):=.nl l hl hm he hn h
def bn.eqx {l':Nat}{m:List (Nat×bm)}{es':List D}(h:bn lo c σ m r)(hi:Yc σ l'=some l:=by exact rfl)(hl:nb lo σ l=some l':=by exact rfl)(hm:look m l=some (.buf k es):=by exact rfl)(he:rY lo σ es=some es':=by exact rfl):bn lo c σ m ((l',.buf k es')::r):=.eq l hl hm he h
def bn.rwx {l':Nat}{m:List (Nat×bm)}{s s':List UInt8}(h:bn lo c σ m r)(hi:Yc σ l'=some l:=by exact rfl)(hl:nb lo σ l=some l':=by exact rfl)(hm:look m l=some (.row s):=by exact rfl)(hs:s'=s:=by exact rfl):bn lo c σ m ((l',.row s')::r):=.rw l hl hm hs h
def bn.blx {l' l1 l2 n':Nat}{u u':Bool}{m:List (Nat×bm)}(h:bn lo c σ m r)(hi:Yc σ l'=some l:=by exact rfl)(hl:nb lo σ l=some l':=by exact rfl)(hm:look m l=some (.bld (some l1) n u):=by exact rfl)(h1:nb lo σ l1=some l2:=by exact rfl)(hn:n'=n:=by exact rfl)(hu:u'=u:=by exact rfl):bn lo c σ m ((l',.bld (some l2) n' u')::r):=.bl l hl hm h1 hn hu h
def zge {a b:List aY}(h:eX lo σ a b:=by repeat(first|exact eX.nil|refine eX.un ?_|refine eX.eq (by exact rfl) ?_|refine eX.nl (by exact rfl) (by exact rfl) ?_|refine eX.ni (Or.inr ⟨_,_,_,rfl⟩) ?_)):eX lo σ a b:=h
def zgm {m m':List (Nat×bm)}(h:bn lo c σ m m':=by repeat(first|exact bn.nil|refine bn.Am (by exact rfl) (by exact rfl) (by first|exact rfl|exact cb (λ_=>rfl) _) ?_|refine bn.L4 (by exact rfl) (by exact rfl) (by exact rfl) ?_|refine bn.L6 (by exact rfl) (by exact rfl) (by exact rfl) (by exact rfl) ?_|refine bn.nlx ?_|refine bn.eqx ?_|refine bn.rwx ?_|refine bn.blx ?_|refine bn.mt (by exact rfl) (by exact rfl) (by exact rfl) (by exact rfl) ?_)):bn lo c σ m m':=h
def zl0 {nx2:Nat}{m:List (Nat×bm)}{F:ι->List aY}{G:ι->List (Nat×bm)}{P:ι->Prop}{μ:ι->Nat}{i j:ι}(_:Hol j)(_:Hol σ)(hP:P j)(hm:μ j<μ i:=by(try dsimp only);omega)(hc:nx2=c:=by exact rfl)(h:ig lo c σ=true:=by exact rfl)(he:eX lo σ env (F j):=by exact zge)(hg:bn lo c σ m (G j):=by exact zgm):∃j,P j/\μ j<μ i/\aZ lo env ⟨nx,m⟩ (F j) ⟨nx2,G j⟩:=⟨j,hP,hm,aZ.to σ hc h he hg⟩
def zl {p:Prop}(j:ι)(σ:List (Nat×Nat))(k:q)(h:Hid q wX->Hol j->Hol σ->p:=by intro h a b;(repeat(refine cY ?_;try intro _));exact zl0 a b h.1):p:=h ⟨k⟩ ⟨⟩ ⟨⟩
def fM {p:Prop}(j:ι)(σ:List (Nat×Nat))(k:q)(h:Hid q wX->Hol j->Hol σ->p:=by intro h a b;(repeat(refine cY ?_;try intro _));exact zl0 a b ⟨by(try dsimp only);omega,h.1⟩):p:=h ⟨k⟩ ⟨⟩ ⟨⟩
def ir {p:Prop}(j:ι)(σ:List (Nat×Nat))(h:Hol j->Hol σ->p:=by intro a b;(repeat(refine cY ?_;try intro _));exact zl0 a b (by(try dsimp only);omega)):p:=h ⟨⟩ ⟨⟩
def zro {a:aj}{d2:D}{e:Ex}{m:List (Nat×bm)}(h:d2=d)(he:e.home:=by exact trivial)(h1:oD m env a.res:=by repeat' first|exact trivial|exact rfl|exact Nat.le_refl _|refine And.intro ?_ ?_)(h2:EG a env m:=by repeat' first|exact trivial|exact rfl|refine And.intro ?_ ?_)(h3:QW a env m=d2:=by exact rfl):Rr a d e env ⟨nx,m⟩:=QE he h1 h2 (h3.trans h)
def zrb {a:aj}{d d2:Bool}{e:Ex}{m:List (Nat×bm)}(h:d2=d)(he:e.home:=by exact trivial)(h1:oD m env a.res:=by repeat' first|exact trivial|exact rfl|exact Nat.le_refl _|refine And.intro ?_ ?_)(h2:EG a env m:=by repeat' first|exact trivial|exact rfl|refine And.intro ?_ ?_)(h3:QW a env m=.bool d2:=by exact rfl):Rr a (.bool d) e env ⟨nx,m⟩:=zro (congrArg _ h) he h1 h2 h3
def zrs {a:aj}{d d2:List UInt8}{e:Ex}{m:List (Nat×bm)}(h:d2=d)(he:e.home:=by exact trivial)(h1:oD m env a.res:=by repeat' first|exact trivial|exact rfl|exact Nat.le_refl _|refine And.intro ?_ ?_)(h2:EG a env m:=by repeat' first|exact trivial|exact rfl|refine And.intro ?_ ?_)(h3:QW a env m=.str d2:=by exact rfl):Rr a (.str d) e env ⟨nx,m⟩:=zro (congrArg _ h) he h1 h2 h3
def zri {a:aj}{d d2:Int}{e:Ex}{m:List (Nat×bm)}(h:d2=d)(he:e.home:=by exact trivial)(h1:oD m env a.res:=by repeat' first|exact trivial|exact rfl|exact Nat.le_refl _|refine And.intro ?_ ?_)(h2:EG a env m:=by repeat' first|exact trivial|exact rfl|refine And.intro ?_ ?_)(h3:QW a env m=.int .i64 d2:=by exact rfl):Rr a (.int .i64 d) e env ⟨nx,m⟩:=zro (congrArg _ h) he h1 h2 h3
def zr {p:Prop}(k:q)(h:Hid q wX->p:=by intro h;(repeat(refine cY ?_;try intro _));first|exact zrb h.1|exact zrs h.1|exact zri h.1|exact zro h.1):p:=h ⟨k⟩
def mQ {p:Prop}(h:p:=by(repeat(refine cY ?_;try intro _));first|exact zrb rfl|exact zrs rfl|exact zri rfl|exact zro rfl):p:=h
def uns:Nat->List aY->List aY
 |0,r=>r
 |n+1,r=>.un::uns n r
def SE:=List aY->List aY
def SE.u (n:Nat):SE:=uns n
def SE.e (d:D):SE:=λr=>⟨true,d⟩::r
def SE.i (n:Int):SE:=λr=>⟨true,.int .i64 n⟩::r
def SE.p (l k:Nat):SE:=λr=>⟨true,.ptr l k 0 0⟩::r
def SE.o (l k n:Nat):SE:=λr=>⟨true,.own l k 0 n⟩::r
def SE.m (k:Nat)(xs:List α)(q:α->D):SE:=λr=>⟨true,.sl k (xs.map q)⟩::r
def spE:List SE->List aY
 |[]=>[]
 |f::r=>f (spE r)
section
variable {Y:Ctx}{a r:AC}{id:Nat}{m:List (Nat×bm)}
def zf (htr:Y.bN)(F:Nat->List SE)(G:Nat->List (Nat×bm))(c:Nat)(P:Nat->Prop)(μ:Nat->Nat)(hP:P 0)(σ:List (Nat×Nat))(hr:∀i,P i->dk Y a (LQ Y id r (λenv2 st2=>∃j,P j/\μ j<μ i/\aZ Y.lo env2 st2 (F2 j) ⟨c,G j⟩) Q) (F2 i) ⟨c,G i⟩)(hF:∀i,spE (F i)=F2 i:=by intro i;simp only[spE,SE.u,SE.e,SE.i,SE.p,SE.o,SE.m,uns];exact rfl)(h:ig Y.lo c σ=true:=by exact rfl)(he:eX Y.lo σ env (F2 0):=by exact zge)(hg:bn Y.lo c σ m (G 0):=by exact zgm):dk Y (.seq (.block id (.loop a)) r) Q env ⟨nx,m⟩:=gG htr F2 G c P μ 0 hP (aZ.to σ rfl h he hg) hr
def zfx (htr:Y.bN)(i0:ι)(F:ι->List SE)(G:ι->List (Nat×bm))(c:Nat)(P:ι->Prop)(μ:ι->Nat)(hP:P i0)(σ:List (Nat×Nat)){F2:ι->List aY}(hr:∀i,P i->dk Y a (LQ Y id r (λenv2 st2=>∃j,P j/\μ j<μ i/\aZ Y.lo env2 st2 (F2 j) ⟨c,G j⟩) Q) (F2 i) ⟨c,G i⟩)(hF:∀i,spE (F i)=F2 i:=by intro i;simp only[spE,SE.u,SE.e,SE.i,SE.p,SE.o,SE.m,uns];exact rfl)(h:ig Y.lo c σ=true:=by exact rfl)(he:eX Y.lo σ env (F2 i0):=by exact zge)(hg:bn Y.lo c σ m (G i0):=by exact zgm):dk Y (.seq (.block id (.loop a)) r) Q env ⟨nx,m⟩:=gG htr F2 G c P μ i0 hP (aZ.to σ rfl h he hg) hr
def zfL (htr:Y.bN)(F:Nat->List SE)(G:Nat->List (Nat×bm))(c:Nat)(P:Nat->Prop)(μ:Nat->Nat)(hP:P 0)(σ:List (Nat×Nat))(hr:∀i,P i->dk Y a (wv id (λenv2 st2=>∃j,P j/\μ j<μ i/\aZ Y.lo env2 st2 (F2 j) ⟨c,G j⟩) Q) (F2 i) ⟨c,G i⟩)(hF:∀i,spE (F i)=F2 i:=by intro i;simp only[spE,SE.u,SE.e,SE.i,SE.p,SE.o,SE.m,uns];exact rfl)(h:ig Y.lo c σ=true:=by exact rfl)(he:eX Y.lo σ env (F2 0):=by exact zge)(hg:bn Y.lo c σ m (G 0):=by exact zgm):dk Y (.block id (.loop a)) Q env ⟨nx,m⟩:=B5 htr F2 G c P μ 0 hP (aZ.to σ rfl h he hg) hr
def zfxL (htr:Y.bN)(i0:ι)(F:ι->List SE)(G:ι->List (Nat×bm))(c:Nat)(P:ι->Prop)(μ:ι->Nat)(hP:P i0)(σ:List (Nat×Nat)){F2:ι->List aY}(hr:∀i,P i->dk Y a (wv id (λenv2 st2=>∃j,P j/\μ j<μ i/\aZ Y.lo env2 st2 (F2 j) ⟨c,G j⟩) Q) (F2 i) ⟨c,G i⟩)(hF:∀i,spE (F i)=F2 i:=by intro i;simp only[spE,SE.u,SE.e,SE.i,SE.p,SE.o,SE.m,uns];exact rfl)(h:ig Y.lo c σ=true:=by exact rfl)(he:eX Y.lo σ env (F2 i0):=by exact zge)(hg:bn Y.lo c σ m (G i0):=by exact zgm):dk Y (.block id (.loop a)) Q env ⟨nx,m⟩:=B5 htr F2 G c P μ i0 hP (aZ.to σ rfl h he hg) hr
end
abbrev cn (Y:Ctx)(a:aj)(ds:List D)(d:D):Prop:=wkk Y a d ds
def zk1 {p:Prop}(k:q)(h:Hid q wX->p:=by intro h;(iterate 1(refine cY ?_;try(intro a;apply pT h a;intro h)));exact h.1):p:=h ⟨k⟩
def cU {p:Prop}(k:q)(h:Hid q wX->p:=by intro h;(iterate 2(refine cY ?_;try(intro a;apply pT h a;intro h)));exact h.1):p:=h ⟨k⟩
def dt {p:Prop}(k:q)(h:Hid q wX->p:=by intro h;(iterate 3(refine cY ?_;try(intro a;apply pT h a;intro h)));exact h.1):p:=h ⟨k⟩
def fw {p:Prop}(k:q)(h:Hid q wX->p:=by intro h;(iterate 4(refine cY ?_;try(intro a;apply pT h a;intro h)));exact h.1):p:=h ⟨k⟩
def k9 {p:Prop}(k:q)(h:Hid q wX->p:=by intro h;(iterate 5(refine cY ?_;try(intro a;apply pT h a;intro h)));exact h.1):p:=h ⟨k⟩
def jX {p:Prop}(k:q)(h:Hid q wX->p:=by intro h;(iterate 6(refine cY ?_;try(intro a;apply pT h a;intro h)));exact h.1):p:=h ⟨k⟩
def ru {p:Prop}(k:q)(h:Hid q wX->p:=by intro h;(iterate 7(refine cY ?_;try(intro a;apply pT h a;intro h)));exact h.1):p:=h ⟨k⟩
def pz {p:Prop}(k:q)(h:Hid q wX->p:=by intro h;(iterate 8(refine cY ?_;try(intro a;apply pT h a;intro h)));exact h.1):p:=h ⟨k⟩
def B8 {p:Prop}(k:q)(h:Hid q wX->p:=by intro h;(iterate 9(refine cY ?_;try(intro a;apply pT h a;intro h)));exact h.1):p:=h ⟨k⟩
def qp {p:Prop}(k:q)(h:Hid q wX->p:=by intro h;(iterate 10(refine cY ?_;try(intro a;apply pT h a;intro h)));exact h.1):p:=h ⟨k⟩
def Ov {p:Prop}(k:q)(h:Hid q wX->p:=by intro h;(iterate 11(refine cY ?_;try(intro a;apply pT h a;intro h)));exact h.1):p:=h ⟨k⟩
def EH {p:Prop}(k:q)(h:Hid q wX->p:=by intro h;(iterate 12(refine cY ?_;try(intro a;apply pT h a;intro h)));exact h.1):p:=h ⟨k⟩
def EI {p:Prop}(k:q)(h:Hid q wX->p:=by intro h;(iterate 13(refine cY ?_;try(intro a;apply pT h a;intro h)));exact h.1):p:=h ⟨k⟩
def jb {p:Prop}(k:q)(h:Hid q wX->p:=by intro h;(iterate 14(refine cY ?_;try(intro a;apply pT h a;intro h)));exact h.1):p:=h ⟨k⟩
def IY {p:Prop}(k:q)(h:Hid q wX->p:=by intro h;(iterate 15(refine cY ?_;try(intro a;apply pT h a;intro h)));exact h.1):p:=h ⟨k⟩
def zk17 {p:Prop}(k:q)(h:Hid q wX->p:=by intro h;(iterate 17(refine cY ?_;try(intro a;apply pT h a;intro h)));exact h.1):p:=h ⟨k⟩
def zk18 {p:Prop}(k:q)(h:Hid q wX->p:=by intro h;(iterate 18(refine cY ?_;try(intro a;apply pT h a;intro h)));exact h.1):p:=h ⟨k⟩
def zk20 {p:Prop}(k:q)(h:Hid q wX->p:=by intro h;(iterate 20(refine cY ?_;try(intro a;apply pT h a;intro h)));exact h.1):p:=h ⟨k⟩
def zk21 {p:Prop}(k:q)(h:Hid q wX->p:=by intro h;(iterate 21(refine cY ?_;try(intro a;apply pT h a;intro h)));exact h.1):p:=h ⟨k⟩
end Go.Abs
