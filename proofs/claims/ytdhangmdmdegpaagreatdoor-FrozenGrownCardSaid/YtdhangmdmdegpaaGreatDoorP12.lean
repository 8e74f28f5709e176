/- A part of the proofs. -/
import Derived.Test.YtdhangmdmdegpaaGreatDoorP09
set_option linter.all false
set_option maxRecDepth 60000
set_option maxHeartbeats 2000000
noncomputable section
namespace Go.Abs
variable {Y:Ctx}(hm:(Y.at 0).bU)
def sY:aj:=⟨3,17,[⟨3,none⟩,⟨4,none⟩],[[.sl 8 [.a,.a,.a,.a,.a,.a,.sl 1 [.sl 3 [.a,.sl 14 [.a,.a],.sl 14 [.a,.a]]],.sl 3 [.a,.sl 14 [.a,.a,.a,.a,.a,.a],.sl 14 [.a,.a,.a,.a,.a,.a]]]],[.a]],(sq (rg [gb 8 s0,gb 2 s2,gm (.c (.aO)),gm HO] [(7,0),(5,1),(3,2),(4,3)]) (sq (sq (r1 [gk 2 true s5,gn (.build [.str [],.str []] []),gn (.eqA false true [.s,.s] l0 l1)] 6 2) (.cond s6 (sq (rg [gm s1,gk 8 true s7,gn (.callM 751 [l1]),gx 750 [l0,l2] [[.sl 2 [.a,.a]],[.sl 1 [.sl 4 [.a,.a,.sl 14 [.a,.a,.a,.a,.a,.a,.a,.a,.a,.a,.a,.a,.a,.a],.sl 14 [.a,.a,.a,.a,.a,.a,.a,.a,.a,.a,.a,.a,.a,.a]]]]],gn (.build [.int .i64 0,.int .i64 0,.int .i64 0,.str [],.str [],.int .i64 0,.aO,.aO] [(5,1,(.c (.int .i64 (-1)))),(6,1,l3)]),gn (.bsl 8 (.agg [.int .i64 0,.int .i64 0,.int .i64 0,.str [],.str [],.int .i64 0,.aO,.aO]) 1 [(0,l4)]),gm l5,gm cbT] [(3,6),(4,7)]) .ret) .skip)) (sq (r1 [gm (.c (.aO))] 16 0) (sq (sq (rg [gk 8 true s7,gk 2 true s5,gn (.callM 752 [l0,l1]),gl l2,gm vx] [(11,2),(9,3),(8,4)]) (.block 0 (.loop (sq (r1 [kj s8 s9] 10 0) (sq (UT TE 0) (sq (.block 1 (sq (r1 [ga 10 s11 s8,gk 10 true l0,gb 10 (.c (.agg [.str [],.int .i64 0,.int .i64 0,.int .i64 0,.str [],.str [],.aO,.aO,.aO,.int .i64 0])),gt 10 l2 l1] 12 2) (sq (r2 [gf 0 Of,gf 1 l0,gk 5 true l1,gf 9 Of,gd l3,gm s1,gf 0 Of,gk 9 true l6,gf 2 s7,gk 3 true l8,gf 1 s5,gd l10,gx 753 [l7,l9,Wy] [zzh1,[.a,.a,.a],[.a]],gx 750 [l5,l12] [[.sl 2 [.a,.a]],[.sl 1 [.sl 4 [.a,.a,.sl 14 [.a,.a,.a,.a,.a,.a,.a,.a,.a,.a,.a,.a,.a,.a],.sl 14 [.a,.a,.a,.a,.a,.a,.a,.a,.a,.a,.a,.a,.a,.a]]]]],gn (.build [.int .i64 0,.int .i64 0,.int .i64 0,.str [],.str [],.int .i64 0,.aO,.aO] [(0,5,l2),(5,1,l4),(6,1,l13)]),gb 8 (.c (.agg [.int .i64 0,.int .i64 0,.int .i64 0,.str [],.str [],.int .i64 0,.aO,.aO])),gt 8 l15 l14] 14 15) (sq (sq (r1 [gf 1 s5,gd l0,Im l1 cse] 13 2) (.cond s13 (rg [gm s1,gf 0 Of,gk 9 true l1,gf 2 s7,gk 3 true l3,gx 754 [l0,l2,l4] [[.sl 2 [.a,.a]],zzh1,[.a,.a,.a]],gf 7 s14,gt 1 l6 l5] []) .skip)) (sq (sq (r1 [gf 6 s14,gd l0,gl l1,Zu l2 (i6 24),gm l3,Bw 4 7 s14,Gp 4 l5,nX 4 (.len l6),nX 4 (b_gtr l7 (i6 24)),HY l4 l8] 15 9) (.cond s15 (sq (rg [gm (.c (.aO)),gm HO] [(3,0),(4,1)]) .ret) .skip)) (r1 [gm s16,gk 8 true s14,gn (.bsl 8 (.agg [.int .i64 0,.int .i64 0,.int .i64 0,.str [],.str [],.int .i64 0,.aO,.aO]) 1 [(0,l1)]),gn (.app 8 l0 l2),gm l3] 16 4)))))) (r1 [lS s8 Mq,gm l0] 8 1))))))) (sq (rg [gm s16,gk 8 true s7,gf 0 s5,gd l2,gn (.callM 755 [l1,l3]),gl l4,akZ l5 (i6 16),gm l0,gm l6] [(3,7),(4,8)]) .ret)))))⟩
def w583 (hm:(Y.at 3).bU)(y:cu)(ns:Ψ)(all:Α)(k:Key)(hA:C750 (Y.at 3))(hB:C751 (Y.at 3))(hC:C752 (Y.at 3))(hD:C753 (Y.at 3))(hE:C754 (Y.at 3))(hF:C755 (Y.at 3))(hp0:qP y/\kS y.e)(hp1:ns.length<=990):dD (Y.at 3) sY.body (uV sY (LH y (jD ns k) (sn y all k)):Ex->Φ->St->Prop) (fV sY [cu.D y (.ptr 0 2 0 0),.sl 2 (all.map Key.D),Key.D k]) ⟨3,[(0,.buf 2 [eS 1 2 ns.length]),(1,.buf 1 (ns.map D.str)),(2,.buf 1 (dn y ns))]⟩:=by
 show dD _ _ _ [⟨true,cu.D y (.ptr 0 2 0 0)⟩,⟨true,.sl 2 (all.map Key.D)⟩,⟨true,Key.D k⟩,.un,.un,.un,.un,.un,.un,.un,.un,.un,.un,.un,.un,.un,.un] ⟨3,[(0,.buf 2 [eS 1 2 ns.length]),(1,.buf 1 (ns.map D.str)),(2,.buf 1 (dn y ns))]⟩;refine aS ?_;refine qH ?_;refine bc (Key.D eV) ?_;refine zc ?_ ?_<;>intro hc0
 .refine c7 ?_;have hrl:=Jd hp0.1.p;refine c7 ?_;refine dT (nx':=12) (v:=.sl 1 ((eH y.l).map ed)) (m':=[(12,.buf 1 ((ns).map D.str)),(13,.buf 1 (dn y (ns))),(0,.buf 2 [eS 12 13 (ns).length]),(3,.buf 8 [cu.D y (.ptr 0 2 0 0)]),(4,.buf 2 [Key.D k])]) (hc:=λK' hK=>hB y ns hp0.1.m (T1 hp0.1.p) _ 0 1 2 _ K' eL eL eL aX ⟨rfl,rfl,rfl⟩ hK) (hn:=aX) ?_;refine c9 ?_;refine bc (.agg [.int .i64 (⟨zV,-1,dr all (eH y.l),[]⟩:eI).v.major,.int .i64 (⟨zV,-1,dr all (eH y.l),[]⟩:eI).v.minor,.int .i64 (⟨zV,-1,dr all (eH y.l),[]⟩:eI).v.patch,.str (⟨zV,-1,dr all (eH y.l),[]⟩:eI).v.pre,.str (⟨zV,-1,dr all (eH y.l),[]⟩:eI).v.build,.int .i64 (⟨zV,-1,dr all (eH y.l),[]⟩:eI).sh,.sl 1 ((⟨zV,-1,dr all (eH y.l),[]⟩:eI).needs.map jP),.aO]) ?_;refine bm [.agg [.int .i64 (⟨zV,-1,dr all (eH y.l),[]⟩:eI).v.major,.int .i64 (⟨zV,-1,dr all (eH y.l),[]⟩:eI).v.minor,.int .i64 (⟨zV,-1,dr all (eH y.l),[]⟩:eI).v.patch,.str (⟨zV,-1,dr all (eH y.l),[]⟩:eI).v.pre,.str (⟨zV,-1,dr all (eH y.l),[]⟩:eI).v.build,.int .i64 (⟨zV,-1,dr all (eH y.l),[]⟩:eI).sh,.sl 1 ((⟨zV,-1,dr all (eH y.l),[]⟩:eI).needs.map jP),.aO]] ?_;refine dR ?_;refine Bk [(0,.buf 2 [eS 12 13 (ns).length]),(12,.buf 1 ((ns).map D.str)),(13,.buf 1 (dn y (ns))),(17,.buf 8 [eI.D (⟨zV,-1,dr all (eH y.l),[]⟩:eI)])] ((.id ai (.id ai (.id ai (.bf ai (.cons (.ag ((.cons (.refl _) (.cons (.refl _) (.cons (.refl _) (.cons (.refl _) (.cons (.refl _) (.cons (.refl _) (.cons (.refl _) (.cons (.nil 3) .nil)))))))))) .nil) .nil))))) ?_;refine bG 17 ?_;refine zg ?_;refine eB trivial jJ (dp ai (?_)) ai ⟨by first|(rw[sn,L2 hc0];done)|(rw[sn,L2 hc0];exact rfl),12,13,⟨ae,ae,ae⟩,by rw[YX hc0];exact tx⟩;rfl
 refine qH ?_;refine dT (nx':=13) (v:=u7 (ei y k)) (m':=[(13,.buf 1 ((fe ns k.n).map D.str)),(14,.buf 1 (dn y (fe ns k.n))),(0,.buf 2 [eS 13 14 (fe ns k.n).length]),(3,.buf 8 [cu.D y (.ptr 0 2 0 0)]),(4,.buf 2 [Key.D k])]) (hc:=λK' hK=>hC y ns k hp0.1.p ae _ 0 1 2 _ K' eL eL eL aX ⟨rfl,rfl,rfl⟩ hK) (hn:=aX) ?_;refine c7 ?_;intro u0;refine bg (env':=[_,_,_,_,_,_,_,_,⟨_,(.int _ _)⟩,⟨_,(.int _ _)⟩,_,⟨_,(.sl _ _)⟩,_,_,_,_,_]) ?_;refine zf hm (λi=>[.u 1,.m 2 all Key.D,.u 3,.p 4 2,.u 1,.p 3 8,.i i,.i ((ei y k).length:Nat),.u 1,.m 10 (ei y k) qM.D,.u 4,.o 7 8 (((ei y k).take i).map (cS y all k)).length]) (λi=>[(0,.buf 2 [eS 5 6 (fe ns k.n).length]),(5,.buf 1 ((fe ns k.n).map D.str)),(6,.buf 1 (dn y (fe ns k.n))),(3,.buf 8 [cu.D y (.ptr 0 2 0 0)]),(4,.buf 2 [Key.D k]),(7,.buf 8 ((((ei y k).take i).map (cS y all k)).map eI.D))]) 20 (λi=>i<=(ei y k).length/\(((ei y k).take i).map (cS y all k)).any oU=false) (λi=>(ei y k).length-i) ⟨ae,rfl⟩ [(13,5),(14,6),(3,3),(4,4)] ?_;rintro i ⟨hi,hwd⟩;have hof:=(x9 hp0.1.p k).1;have hcl:(((ei y k).take i).map (cS y all k)).length<=i:=by rw[bj,eE];omega
 refine zc ?_ ?_<;>intro hc1
 .refine dR ?_;obtain⟨hxp,hxv⟩:=agY hp0.1 (k:=k) (i:=i) ae;obtain⟨hql,hq3⟩:=lU (e:=y.e) (ft:=k.f) hxp;refine dR ?_;refine cE _ ?_;refine iz ?_;refine c7 ?_;refine bc (.agg [.int .i64 (⟨(ei y k)[i]!.r.v,(ei y k)[i]!.sh,dr all (cL (ei y k)[i]!.r y.e k.f),[]⟩:eI).v.major,.int .i64 (⟨(ei y k)[i]!.r.v,(ei y k)[i]!.sh,dr all (cL (ei y k)[i]!.r y.e k.f),[]⟩:eI).v.minor,.int .i64 (⟨(ei y k)[i]!.r.v,(ei y k)[i]!.sh,dr all (cL (ei y k)[i]!.r y.e k.f),[]⟩:eI).v.patch,.str (⟨(ei y k)[i]!.r.v,(ei y k)[i]!.sh,dr all (cL (ei y k)[i]!.r y.e k.f),[]⟩:eI).v.pre,.str (⟨(ei y k)[i]!.r.v,(ei y k)[i]!.sh,dr all (cL (ei y k)[i]!.r y.e k.f),[]⟩:eI).v.build,.int .i64 (⟨(ei y k)[i]!.r.v,(ei y k)[i]!.sh,dr all (cL (ei y k)[i]!.r y.e k.f),[]⟩:eI).sh,.sl 1 ((⟨(ei y k)[i]!.r.v,(ei y k)[i]!.sh,dr all (cL (ei y k)[i]!.r y.e k.f),[]⟩:eI).needs.map jP),.aO]) ?_;refine dR ?_;refine Bk [(0,.buf 2 [eS 5 6 (fe ns k.n).length]),(5,.buf 1 ((fe ns k.n).map D.str)),(6,.buf 1 (dn y (fe ns k.n))),(3,.buf 8 [cu.D y (.ptr 0 2 0 0)]),(4,.buf 2 [Key.D k]),(7,.buf 8 ((((ei y k).take i).map (cS y all k)).map eI.D)),(23,.buf 10 [qM.D (ei y k)[i]!]),(40,.buf 8 [eI.D (⟨(ei y k)[i]!.r.v,(ei y k)[i]!.sh,dr all (cL (ei y k)[i]!.r y.e k.f),[]⟩:eI)])] ((.id ai (.id ai (.id ai (.id ai (.id ai (.id ai (.id ai (.bf ai (.cons (.ag ((.cons (.refl _) (.cons (.refl _) (.cons (.refl _) (.cons (.refl _) (.cons (.refl _) (.cons (.refl _) (.cons (.refl _) (.cons (.nil 3) .nil)))))))))) .nil) .nil))))))))) ?_;refine zc ?_ ?_<;>intro hc2
  .refine qH ?_;refine cE (eI.D (⟨(ei y k)[i]!.r.v,(ei y k)[i]!.sh,dr all (cL (ei y k)[i]!.r y.e k.f),si all (ei y k)[i]!.r y.e⟩:eI)) (he:=dh) ?_;refine c7 ?_;rw[show(⟨(ei y k)[i]!.r.v,(ei y k)[i]!.sh,dr all (cL (ei y k)[i]!.r y.e k.f),si all (ei y k)[i]!.r y.e⟩:eI)=(cS y all k (ei y k)[i]!)from adA hc2];refine zg ?_;intro u1;refine dF ?_ ?_<;>intro hc3
   .refine j7 ?_;refine iu (a8.nz _ [_,_,_,⟨true,.sl 8 []⟩,_,_,_,_,_,_,_,_,_,_,_,_,_] _ _ [(0,.buf 2 [eS 5 6 (fe ns k.n).length]),(5,.buf 1 ((fe ns k.n).map D.str)),(6,.buf 1 (dn y (fe ns k.n)))] ⟨⟨rfl,.refl _⟩,⟨rfl,.refl _⟩,⟨rfl,.refl _⟩,⟨rfl,.nil 8⟩,⟨rfl,.refl _⟩,⟨rfl,.refl _⟩,⟨rfl,.refl _⟩,⟨rfl,.refl _⟩,⟨rfl,.refl _⟩,⟨rfl,.refl _⟩,⟨rfl,.refl _⟩,⟨rfl,.refl _⟩,⟨rfl,.refl _⟩,⟨rfl,.refl _⟩,⟨rfl,.refl _⟩,⟨rfl,.refl _⟩,⟨rfl,.refl _⟩,trivial⟩ (.id ai (.id ai (.id ai .nil)))) ?_;refine zg ?_;refine eB trivial jJ (dp ai (?_)) ai ⟨acv,5,6,⟨ae,ae,ae⟩,acs⟩;rfl
   refine fA ?_;refine bm [eI.D (cS y all k (ei y k)[i]!)] ?_;refine cQ (q:=eI.D) (xs:=(((ei y k).take i).map (cS y all k))) (e:=(cS y all k (ei y k)[i]!)) (hb:=ae) ?_;refine zg ?_;rw[<-map_take (f:=cS y all k) (l:=ei y k) (i:=i) ae];refine fX (i+1) [(3,3),(4,4),(5,5),(6,6),(66,7)] ?_;exact Se ae hwd ae
  refine c7 ?_;rw[show(⟨(ei y k)[i]!.r.v,(ei y k)[i]!.sh,dr all (cL (ei y k)[i]!.r y.e k.f),[]⟩:eI)=(cS y all k (ei y k)[i]!)from adz hc2];refine zg ?_;intro u1;refine dF ?_ ?_<;>intro hc3
  .refine j7 ?_;refine iu (a8.nz _ [_,_,_,⟨true,.sl 8 []⟩,_,_,_,_,_,_,_,_,_,_,_,_,_] _ _ [(0,.buf 2 [eS 5 6 (fe ns k.n).length]),(5,.buf 1 ((fe ns k.n).map D.str)),(6,.buf 1 (dn y (fe ns k.n)))] ⟨⟨rfl,.refl _⟩,⟨rfl,.refl _⟩,⟨rfl,.refl _⟩,⟨rfl,.nil 8⟩,⟨rfl,.refl _⟩,⟨rfl,.refl _⟩,⟨rfl,.refl _⟩,⟨rfl,.refl _⟩,⟨rfl,.refl _⟩,⟨rfl,.refl _⟩,⟨rfl,.refl _⟩,⟨rfl,.refl _⟩,⟨rfl,.refl _⟩,⟨rfl,.refl _⟩,⟨rfl,.refl _⟩,⟨rfl,.refl _⟩,⟨rfl,.refl _⟩,trivial⟩ (.id ai (.id ai (.id ai .nil)))) ?_;refine zg ?_;refine eB trivial jJ (dp ai (?_)) ai ⟨acv,5,6,⟨ae,ae,ae⟩,acs⟩;rfl
  refine fA ?_;refine bm [eI.D (cS y all k (ei y k)[i]!)] ?_;refine cQ (q:=eI.D) (xs:=(((ei y k).take i).map (cS y all k))) (e:=(cS y all k (ei y k)[i]!)) (hb:=ae) ?_;refine zg ?_;rw[<-map_take (f:=cS y all k) (l:=ei y k) (i:=i) ae];refine fX (i+1) [(3,3),(4,4),(5,5),(6,6),(58,7)] ?_;exact Se ae hwd ae
 refine c7 ?_;obtain rfl:i=(ei y k).length:=ae;rw[List.take_length]at hwd⊢;refine bG 7 ?_ (he:=ab2) (hm:=ab2);refine j7 ?_;refine dT (nx':=23) (v:=u7 (dc y k.n)) (m':=[(25,.buf 1 ((fe (fe ns k.n) k.n).map D.str)),(26,.buf 1 (dn y (fe (fe ns k.n) k.n))),(0,.buf 2 [eS 25 26 (fe (fe ns k.n) k.n).length]),(3,.buf 8 [cu.D y (.ptr 0 2 0 0)]),(4,.buf 2 [Key.D k])]) (hc:=λK' hK=>hF y (fe ns k.n) k.n hp0.1.p (by have:=LU ns k.n;omega) _ 0 5 6 _ K' eL eL eL aX ⟨rfl,rfl,rfl⟩ hK) (hn:=aX) ?_;refine zg ?_;intro u2;refine eB trivial jJ (dp ai (?_)) ai ⟨by first|(rw[sn,L0 hc0 hwd];done)|(rw[sn,L0 hc0 hwd];simp),25,26,⟨ae,ae,ae⟩,by rw[show jD ns k=fe (fe ns k.n) k.n by rw[PJ hc0,Ux]];exact tx⟩;rw[gG aJ,show decide ((dc y k.n).length<=16)=decide (((dc y k.n).length:Int)<=16)from lv.2 ae];rfl
def Vm:aj:=bd 5
def w28 (hA:Hx Y)(hB:C110 Y)(hC:C111 Y)(hD:C112 Y)(hE:C135 Y)(hF:C136 Y):Rt (ct Y Vm):=λks=>by
 refine j7 ?_;refine bc (Gs.D (⟨ks,0⟩:Gs)) ?_;refine kv ?_;refine cD 0 (hj:=λ_=>rfl) (hb:=λ_=>aX) ?_;refine dj (v:=b6.D bQ[0]!) (hi:=λ_=>aX) ?_;refine dd (hc:=hB (⟨ks,0⟩:Gs) HC bQ[0]! 3 aJ aX) ?_;refine bc (.agg [.str (jN ks).1.name,.int .i64 (jN ks).1.v.major,.int .i64 (jN ks).1.v.minor,.int .i64 (jN ks).1.v.patch,.str (jN ks).1.v.pre,.str (jN ks).1.v.build,.sl 3 ((jN ks).1.needs.map bn.D),.sl 3 ((jN ks).1.bars.map mR.D),.sl 2 ((jN ks).1.feats.map b7.D),.aO,.aO]) ?_;refine dR ?_;refine Bk [(3,.buf 2 [Gs.D (jN ks).2]),(11,.buf 11 [gI.D ⟨(jN ks).1,[],[]⟩])] ((.id ai (.bf ai (.cons (.ag ((.cons (.refl _) (.cons (.refl _) (.cons (.refl _) (.cons (.refl _) (.cons (.refl _) (.cons (.refl _) (.cons (.refl _) (.cons (.refl _) (.cons (.refl _) (.cons (.nil 2) (.cons (.nil 2) .nil))))))))))))) .nil) .nil))) ?_;refine c7 ?_;have hst0:=afv (⟨ks,0⟩:Gs) HC bQ[0]!;rw[show pR (⟨ks,0⟩:Gs) HC bQ[0]! 3=jN ks from rfl]at hst0;have hst1:=afc (jN ks).2;have r4:=(jN ks).2.aU.e7 4 ae;have r5:=(ko (jN ks).2).2.aU.e7 4 ae;have r8:=(ko (jN ks).2).2.aU.aU.e7 8 ae;obtain⟨hq1,hq2⟩:=hst0;obtain⟨hq3,hq4⟩:=hst1;simp only at hq1 hq2;refine c9 ?_;refine dd (hc:=hA (jN ks).2 4 ae lz) ?_;refine zg ?_;refine rE hm (ι:=Unit) (λ_=>[.un,.un,⟨true,.ptr 0 2 0 0⟩,.un,⟨true,.ptr 1 11 0 0⟩,.un,.un,.un]) (λ_=>[(0,.buf 2 [Gs.D (ko (jN ks).2).2]),(1,.buf 11 [gI.D ⟨(jN ks).1,(ko (jN ks).2).1,[]⟩])]) 100 (λ_=>True) ?_ ?_
 .refine B5 ?_ ?_<;>intro hc0
  .refine dR ?_;refine dd (hc:=hA (jN ks).2.aU 4 ae lz) ?_;refine cD ((jN ks).2.aU.val 4).toNat (hj:=λ_=>ae) (hb:=λ_=>pZ) ?_;refine dj (v:=.str cI[((jN ks).2.aU.val 4).toNat]!) (hi:=λ_=>pZ) ?_;refine bc (gY.D (⟨cI[((jN ks).2.aU.val 4).toNat]!,EF⟩:gY)) ?_;refine bm [gY.D (⟨cI[((jN ks).2.aU.val 4).toNat]!,EF⟩:gY)] ?_;refine c9 ?_;refine cE (.agg [.str (jN ks).1.name,.int .i64 (jN ks).1.v.major,.int .i64 (jN ks).1.v.minor,.int .i64 (jN ks).1.v.patch,.str (jN ks).1.v.pre,.str (jN ks).1.v.build,.sl 3 ((jN ks).1.needs.map bn.D),.sl 3 ((jN ks).1.bars.map mR.D),.sl 2 ((jN ks).1.feats.map b7.D),.own 22 2 0 1,.sl 2 []]) (he:=dh) ?_;refine zg ?_;rw[alD hc0];exact⟨(),trivial,(a8.fz 22 ai eo Np Np (a8.to [(3,0),(11,1)] ai ai eQ ab9))⟩
  refine zg ?_;rw[alC hc0];exact⟨(),trivial,(a8.to [(3,0),(11,1)] ai ai eQ ab9)⟩
 .rintro _-
  refine dR ?_;refine dd (hc:=hA (ko (jN ks).2).2 4 ae lz) ?_;refine zg ?_;refine rE hm (ι:=Unit) (λ_=>[.un,.un,.un,.un,⟨true,.ptr 0 11 0 0⟩,.un,.un,.un]) (λ_=>[(0,.buf 11 [gI.D (zy ks)])]) 100 (λ_=>True) ?_ ?_
  .refine B5 ?_ ?_<;>intro hc1
   .refine dR ?_;refine dd (hc:=hA (ko (jN ks).2).2.aU 4 ae lz) ?_;refine cD ((ko (jN ks).2).2.aU.val 4).toNat (hj:=λ_=>ae) (hb:=λ_=>pZ) ?_;refine D1 (v:=.str cI[((ko (jN ks).2).2.aU.val 4).toNat]!) (hi:=λ_=>pZ) ?_;refine fA ?_;refine dd (hc:=hA (ko (jN ks).2).2.aU.aU kr.length aX (by simp only[Gs.aU];omega)) ?_;refine cD ((ko (jN ks).2).2.aU.aU.val 8).toNat (hj:=λ_=>by show(ko (jN ks).2).2.aU.aU.val 8=_;omega) (hb:=λ_=>uU) ?_;refine dj (v:=.str kr[((ko (jN ks).2).2.aU.aU.val 8).toNat]!) (hi:=λ_=>uU) ?_;refine bc (kP.D (⟨cI[((ko (jN ks).2).2.aU.val 4).toNat]!,kr[((ko (jN ks).2).2.aU.aU.val 8).toNat]!⟩:kP)) ?_;refine bm [kP.D (⟨cI[((ko (jN ks).2).2.aU.val 4).toNat]!,kr[((ko (jN ks).2).2.aU.aU.val 8).toNat]!⟩:kP)] ?_;refine c9 ?_;refine cE (.agg [.str (jN ks).1.name,.int .i64 (jN ks).1.v.major,.int .i64 (jN ks).1.v.minor,.int .i64 (jN ks).1.v.patch,.str (jN ks).1.v.pre,.str (jN ks).1.v.build,.sl 3 ((jN ks).1.needs.map bn.D),.sl 3 ((jN ks).1.bars.map mR.D),.sl 2 ((jN ks).1.feats.map b7.D),.sl 2 ((ko (jN ks).2).1.map gY.D),.own 116 2 0 1]) (he:=dh) ?_;refine zg ?_;rw[show zy ks=⟨(jN ks).1,(ko (jN ks).2).1,[(⟨cI[((ko (jN ks).2).2.aU.val 4).toNat]!,kr[((ko (jN ks).2).2.aU.aU.val 8).toNat]!⟩:kP)]⟩by unfold zy;rw[aeu hc1]];exact⟨(),trivial,(a8.fz 116 ai eo Np Np (a8.to [(1,0)] ai ai eQ ace))⟩
   refine zg ?_;rw[show zy ks=⟨(jN ks).1,(ko (jN ks).2).1,[]⟩by unfold zy;rw[aet hc1]];exact⟨(),trivial,(a8.to [(1,0)] ai ai eQ ace)⟩
  .rintro _-
   refine dR ?_;refine aE (hc:=hF (zy ks) (SS ks).1) ?_;refine zc ?_ ?_<;>intro hc2
   .refine dR ?_;refine cD 0 (hj:=λ_=>rfl) (hb:=λ_=>aX) ?_;refine dj (v:=b6.D bQ[0]!) (hi:=λ_=>aX) ?_;refine bc (.agg [.str HC,.int .i64 bQ[0]!.major,.int .i64 bQ[0]!.minor,.int .i64 bQ[0]!.patch,.str bQ[0]!.pre,.str bQ[0]!.build,.aO,.aO,.aO]) ?_;refine bc (.agg [.str HC,.int .i64 bQ[0]!.major,.int .i64 bQ[0]!.minor,.int .i64 bQ[0]!.patch,.str bQ[0]!.pre,.str bQ[0]!.build,.aO,.aO,.aO,.aO,.aO]) ?_;refine bm [.agg [.str HC,.int .i64 bQ[0]!.major,.int .i64 bQ[0]!.minor,.int .i64 bQ[0]!.patch,.str bQ[0]!.pre,.str bQ[0]!.build,.aO,.aO,.aO,.aO,.aO]] ?_;refine c7 ?_;refine Bk [(114,.buf 11 [gI.D Zk])] ((.bf ai (.cons (.ag ((.cons (.refl _) (.cons (.refl _) (.cons (.refl _) (.cons (.refl _) (.cons (.refl _) (.cons (.refl _) (.cons (.nil 3) (.cons (.nil 3) (.cons (.nil 2) (.cons (.nil 2) (.cons (.nil 2) .nil))))))))))))) .nil) .nil)) ?_;refine bG 114 ?_;refine zr ?_;rw[show qE ks=Zk from ah hc2];rfl
   refine dR ?_;refine bm [gI.D (zy ks)] ?_;refine c7 ?_;refine bG 110 ?_;refine zr ?_;rw[show qE ks=zy ks from ak hc2];rfl
def OO:aj:=bd 77
def w408 (hm:(Y.at 0).bU)(hA:C516 Y)(hB:C531 Y):J4 (ct Y OO):=λa b=>by
 refine Fa ?_;refine c9 ?_;refine bm [.int .i64 (qc a.n b.n),.int .i64 (qc a.f b.f)] ?_;refine aE (hc:=hB [qc a.n b.n,qc a.f b.f]) (ha:=λ_=>ay (λd=>[d]) (ud (q:=D.int .i64) (xs:=[qc a.n b.n,qc a.f b.f]) (λ_=>rfl) ai)) (hp:=λ_=>⟨qD (q:=D.int .i64) (xs:=[qc a.n b.n,qc a.f b.f]) (λ_=>rfl) ai,trivial⟩) ?_;refine zr ?_;unfold IA;simp[gh,sE];grind
def OP:aj:=bd 133
def w622 (hA:C780 Y):KD (ct Y OP):=λl n hp0=>by
 refine zg ?_;intro u0;refine zf hm (λi=>[.u 1,.i n,.u 1,.i i,.i l.length,.u 1,.m 3 l Want.D,.u 2]) (λi=>[]) 4 (λi=>i<=l.length/\pU n l=bK (λi=>tn n l[i]!) i l.length) (λi=>l.length-i) ⟨ae,rfl⟩ [] ?_;rintro i ⟨hi,hr⟩;refine zc ?_ ?_<;>intro hc0
 .refine kv ?_;refine cE _ ?_;refine iz ?_;refine ca (hc:=λhf=>hA _ ?_) ?_;rotate_left;first|assumption|omega|exact hp0 _ (aq ae)
  refine zc ?_ ?_<;>intro hc1
  .refine zr ?_;rw[hr,ax ae];simp only[tn];grind
  refine fX (i+1) [] ?_;rw[hr,ax ae];simp only[tn];grind
 refine zr ?_;rw[hr,bp ae]
def QN:aj:=bd 206
def w778 (hm:(Y.at 0).bU)(hA:WQ Y):KY (ct Y QN):=λw n hp0=>by
 refine zr ?_;first|(grind [tn];done)|(simp_all[tn];done)
def NR:aj:=bd 205
def w777 (hA:C778 Y):KX (ct Y NR):=λl n hp0=>by
 refine zg ?_;refine zf hm (λi=>[.m 3 l Want.D,.i n,.u 1,.i i,.u 2]) (λi=>[]) 2 (λi=>i<=l.length/\pU n l=bK (λi=>tn n l[i]!) i l.length) (λi=>l.length-i) ⟨ae,rfl⟩ [] ?_;rintro i ⟨hi,hr⟩;refine zg ?_;intro u0;refine dF ?_ ?_<;>intro hc0
 .refine zc ?_ ?_<;>intro hc1
  .refine zr ?_;unfold rX;rw[hr,ax ae];grind
  refine fX (i+1) [] ?_;rw[hr,ax ae];grind
 refine zg ?_;intro u1;refine zr ?_;unfold rX;rw[hr,bp ae];grind
def QG:aj:=bd 160
def w618 (hA:Cw Y)(hB:C777 Y)(hC:C778 Y):KC (ct Y QG):=λc n hp0=>by
 refine qH ?_;refine aE (hc:=hA (c.v) RH) ?_;refine zc ?_ ?_<;>intro hc0
 .refine zr ?_;unfold nd;grind
 refine zg ?_;refine zf hm (λi=>[.u 1,.i n,.u 1,.p 0 8,.u 1,.i i,.u 5]) (λi=>[(0,.buf 8 [eI.D c])]) 19 (λi=>i<=c.needs.length/\bK (λi=>rX n c.needs[i]!) 0 c.needs.length=bK (λi=>rX n c.needs[i]!) i c.needs.length) (λi=>c.needs.length-i) ⟨ae,rfl⟩ [(0,0)] ?_;rintro i ⟨hi,hr⟩;refine zg ?_;intro u0;refine dF ?_ ?_<;>intro hc1
 .refine pW ?_;refine dj (v:=.sl 3 (((c.needs)[i]!).map Want.D)) (hi:=λhf=>cr) ?_;refine c9 ?_;refine aE (hc:=hB ((c.needs)[i]!) (n) RH) ?_;refine zc ?_ ?_<;>intro hc2
  .refine zr ?_;unfold nd;rw[hr,ax ae];grind
  refine fX (i+1) [(0,0)] ?_;rw[hr,ax ae];grind
 refine zg ?_;refine zf hm (λk=>[.u 1,.i n,.u 1,.p 0 8,.u 4,.i k,.u 2]) (λk=>[(0,.buf 8 [eI.D c])]) 25 (λk=>k<=c.bars.length/\pU n c.bars=bK (λi=>tn n c.bars[i]!) k c.bars.length) (λk=>c.bars.length-k) ⟨ae,rfl⟩ [(0,0)] ?_;rintro k ⟨hk,hr2⟩;refine zg ?_;intro u1;refine dF ?_ ?_<;>intro hc3
 .refine yZ ?_;refine aE (hc:=hC ((c.bars)[k]!) (n) RH) ?_;refine zc ?_ ?_<;>intro hc4
  .refine zr ?_;unfold nd;rw[hr2,ax (i:=k) ae];grind
  refine fX (k+1) [(0,0)] ?_;rw[hr2,ax ae];grind
 refine zr ?_;unfold nd;rw[hr2,bp (i:=k) ae,hr,bp (i:=i) ae];grind
def BW:aj:=bd 80
def w409 (hA:C622 Y):J5 (ct Y BW):=λc n hp0=>by
 refine zg ?_;intro u0;refine dF ?_ ?_<;>intro hc0
 .refine zr ?_;unfold nd;grind
 refine zg ?_;intro u1;refine zf hm (λi=>[.u 1,.i n,.u 1,.p 0 8,.u 1,.i i,.i c.needs.length,.u 1,.m 1 c.needs jP,.u 2]) (λi=>[(0,.buf 8 [eI.D c])]) 16 (λi=>i<=c.needs.length/\bK (λi=>rX n c.needs[i]!) 0 c.needs.length=bK (λi=>rX n c.needs[i]!) i c.needs.length) (λi=>c.needs.length-i) ⟨ae,rfl⟩ [(0,0)] ?_;rintro i ⟨hi,hr⟩;refine zc ?_ ?_<;>intro hc1
 .refine fA ?_;refine dj (v:=.sl 3 (((c.needs)[i]!).map Want.D)) (hi:=λhf=>cr) ?_;refine iz ?_;intro u2;refine ca (hc:=λhf=>hA ((c.needs)[i]!) (n) acq) ?_;refine zc ?_ ?_<;>intro hc2
  .refine zr ?_;unfold nd;rw[hr,ax ae];simp only[rX];grind
  refine fX (i+1) [(0,0)] ?_;rw[hr,ax ae];simp only[rX];grind
 refine kv ?_;refine aE (hc:=hA (c.bars) (n) acq) ?_;refine zr ?_;unfold nd;rw[hr,bp ae];grind
def NN:aj:=bd 159
def w617 (hm:(Y.at 0).bU):KB (ct Y NN):=λa b=>by
 refine zr ?_;first|(grind [jh];done)|(simp_all[jh];done)
def ra:aj:=bd 53
def w298 (hm:(Y.at 1).bU)(hA:Hx (Y.at 1))(g:Gs)(l:υ)(hp0:0<=g.i/\g.i<=980000)(hp1:(∀n∈l,n.sm)/\l.length<=1000):dD (Y.at 1) ra.body (HB ra 2 (b7.D (nk g l).1) (Gs.D (nk g l).2):Ex->Φ->St->Prop) (fV ra (.ptr 0 2 0 0::[.sl 3 (l.map bn.D)])) ⟨1,[(0,.buf 2 [(Gs.D g)])]⟩:=by
 show dD _ _ _ [⟨true,.ptr 0 2 0 0⟩,⟨true,.sl 3 (l.map bn.D)⟩,.un,.un,.un,.un,.un,.un,.un,.un] ⟨1,[(0,.buf 2 [(Gs.D g)])]⟩;refine aS ?_;refine dR ?_;refine bW [.str [102],.aO] ?_;refine zg ?_;refine gE hm (ι:=Nat) (λi=>[⟨true,.ptr 0 2 0 0⟩,⟨true,.sl 3 ((l).map bn.D)⟩,⟨true,.ptr 1 2 0 0⟩,⟨true,.int .i64 (i:Nat)⟩,.un,⟨true,.ptr 2 2 0 0⟩,.un,.un,.un,.un]) (λi=>[(0,.buf 2 [Gs.D g]),(1,.buf 2 [.agg [.str [],.aO]]),(2,.buf 2 [.agg [.str [102],.own 3 1 0 (rv l i).length]]),(3,.buf 1 ((rv l i).map D.str))]) 6 (λi=>i<=l.length) (λi=>l.length-i) 0 ae (a8.to [(1,1),(3,2)] ai ai eQ (by refine bB.nl 0 ai ai ai eo ?_;refine bB.nl 1 ai ai ai eo ?_;refine bB.ni 3 ai ai (by exact⟨_,_,rfl,⟨_,rfl,⟨_,_,rfl,⟨rfl,rfl⟩,⟨_,_,rfl,Or.inr ⟨_,_,_,rfl⟩,rfl⟩⟩⟩,rfl⟩) ?_;refine bB.mt ai ai ai ai ?_;exact bB.nil)) ?_;intro i hi;have hrl:=N8 l i;refine zg ?_;intro u0;refine dF ?_ ?_<;>intro hc0
 .refine zc ?_ ?_<;>intro hc1
  .refine c9 ?_;refine bm [.str qoW] ?_;refine c9 ?_;refine cE (.agg [.str [102],.own 22 1 0 1]) (he:=dh) ?_;refine zg ?_;have hro:=ame ae hc1;exact⟨i+1,ae,ae,(a8.to [(1,1),(2,2),(22,3)] ai ai eQ (by refine bB.nl 0 ai ai ai eo ?_;refine bB.nl 1 ai ai ai eo ?_;refine bB.eq 2 ai ai (by rw[hro];exact rfl) ?_;refine bB.nl 22 ai ai (by rw[hro];exact rfl) ai ?_;exact bB.nil))⟩
  refine zg ?_;rw[amd ae hc1];exact iw (i+1) [(1,1),(2,2),(3,3)]
 refine dR ?_;obtain rfl:i=l.length:=ae;refine zg ?_;refine zf hm (λi=>[.p 0 2,.m 3 l bn.D,.p 1 2,.u 2,.p 2 2,.u 1,.i i,.u 2]) (λi=>[(0,.buf 2 [Gs.D (gS l g i)]),(1,.buf 2 [.agg [.str [],.aO]]),(2,.buf 2 [.agg [.str [102],.own 3 1 0 (rv l l.length).length]]),(3,.buf 1 ((rv l l.length).map D.str))]) 11 (λi=>i<=l.length/\iC l g=iC (l.drop i) (gS l g i)) (λi=>l.length-i) ⟨ae,rfl⟩ [(1,1),(2,2),(3,3)] ?_;rintro i ⟨hi,hr⟩;have hgs:=agF l g i;have hrl:=N8 l l.length;refine zg ?_;intro u1;refine dF ?_ ?_<;>intro hc2
 .refine dR ?_;by_cases hl1:l[i]!.any.length=1
  .refine kv ?_;intro u2;refine Qk ?_;rw[aY (show((l[i]!.any.length:Nat):Int)=1 by omega)];refine c7 ?_;refine aat (hc:=hA (gS l g i) 3 ae lz) ?_;refine zc ?_ ?_<;>intro hc3
   .refine c9 ?_;have hnm:=((hp1.1 _ (aq (show i<l.length by omega))).1 _ (aq (show 0<l[i]!.any.length by omega))).1.1;refine pW ?_;refine cD 0 (hj:=λ_=>rfl) (hb:=λ_=>ae) ?_;refine dR ?_;refine bm [.str (l[i]!.any[0]!.name++[47,102])] ?_;refine cQ (q:=D.str) (xs:=(rv l l.length)) (e:=(l[i]!.any[0]!.name++[47,102])) (hb:=ae) ?_;refine c9 ?_;refine cE (.agg [.str [102],.own 39 1 0 ((rv l l.length)++[(l[i]!.any[0]!.name++[47,102])]).length]) (he:=dh) ?_;refine qH ?_;refine bG 39 ?_;refine zg ?_;refine jc trivial DZ (dp ai (?_)) (by rw[X8 hr ae hl1 hc3];exact rfl) ai ai;rw[X8 hr ae hl1 hc3];rfl
   refine zg ?_;rw[show(gS l g i).aU=(gS l g (i+1))from by rw[gS,ak hl1]];refine fX (i+1) [(1,1),(2,2),(3,3)] ?_;rw[hr,alz ae hl1 hc3]
  .refine kv ?_;intro u2;refine Qk ?_;rw[bA (show ¬((l[i]!.any.length:Nat):Int)=1 by omega)];refine c7 ?_;refine alO ?_;refine r_off (.bool false) ?_;refine zg ?_;refine wp_cond (t:=false) (λh=>cb) (λ_=>?_);refine zg ?_;rw[show(gS l g i)=(gS l g (i+1))from by rw[gS,ah hl1]];refine fX (i+1) [(1,1),(2,2),(3,3)] ?_;rw[hr,alA ae hl1]
 refine kv ?_;refine bG 3 ?_;refine zg ?_;refine jc trivial DZ (dp ai (?_)) (by rw[X9 hr ae];exact rfl) ai ai;rw[X9 hr ae];rfl
def NZ:aj:=bd 102
def w693 (hA:C184 Y)(hB:C829 Y):KM (ct Y NZ):=λm al c hp0=>by
 refine c9 ?_;obtain⟨⟨hmp,hcp⟩,rfl⟩:=hp0;have hfp:=Ma hmp hcp;have hml:=hmp.1;have hcl:=hcp.1;refine pW ?_;refine cD 0 (hj:=λ_=>ae) (hb:=λ_=>ae) ?_;refine zc ?_ ?_<;>intro hc0
 .refine zr ?_;unfold ey;rw[ak hc0];rfl
 refine zg ?_;refine zf hm (λu=>[.u 1,.m 1 ([]:Δ) (D.int .i64),.m 1 c (D.int .i64),.u 3,.i u,.u 5,.p 0 3,.u 4]) (λu=>[(0,.buf 3 [kB.D m])]) 8 (λu=>u<=c.length) (λu=>c.length-u) ae [(0,0)] ?_;intro u hu;refine zg ?_;intro u0;refine dF ?_ ?_<;>intro hc1
 .refine zg ?_;refine wp_cond (λhc2=>?_) (λhc2=>?_)
  ·

   exfalso;revert hc2;cases decide (c[u]! <0)<;>decide
  try simp only[gR]at hc2
  exact iw (u+1) [(0,0)]
 refine zg ?_;refine zf hm (λu=>[.u 1,.m 1 ([]:Δ) (D.int .i64),.m 1 c (D.int .i64),.u 6,.i u,.u 2,.p 0 3,.u 4]) (λu=>[(0,.buf 3 [kB.D m])]) 13 (λu=>u<=c.length/\nt m c=mU (yb m c) (c.length-u) u) (λu=>c.length-u) ⟨ae,rfl⟩ [(0,0)] ?_;rintro u ⟨hu,hr⟩;refine zg ?_;intro u1;refine dF ?_ ?_<;>intro hc3
 .refine zg ?_;refine aQ (λhc4=>?_) (λhc4=>?_)
  .try simp only[gR]at hc4
   refine fX (u+1) [(0,0)] ?_;rw[hr,HF ae (by unfold yb;rw[aY hc4];rfl)]
  simp only[bR]at hc4;obtain⟨v,hv⟩:∃v:Nat,c[u]! =(v:Int):=⟨c[u]!.toNat,ae⟩
  have hfu:=hfp.2 u ae ae;rw[hv,Int.toNat_natCast]at hfu;have hro:Je m c u=mU (λk=>kF c m.needs[u]![v]![k]!) m.needs[u]![v]!.length 0:=by unfold Je;rw[hv,Int.toNat_natCast]
  have hou:yb m c u=decide (Je m c u=m.needs[u]![v]!.length):=by unfold yb;rw[hv,Int.toNat_natCast,bA (show ¬((v:Nat):Int)<0 by omega),Bool.false_or]
  refine kv ?_;refine dj (v:=.sl 1 (((m.needs)[u]!).map pj)) (hi:=λhf=>cr) ?_;refine j7 ?_;refine dj (v:=.sl 1 (m.needs[u]![v]!.map Jj)) (hi:=λ_=>ae) ?_;refine zg ?_;refine zfL hm (λk=>[.u 1,.m 1 ([]:Δ) (D.int .i64),.m 1 c (D.int .i64),.u 6,.i u,.u 2,.p 0 3,.i k,.m 1 (m.needs[u]![v]!) Jj,.u 2]) (λk=>[(0,.buf 3 [kB.D m])]) 35 (λk=>k<=m.needs[u]![v]!.length/\Je m c u=mU (λk=>kF c m.needs[u]![v]![k]!) (m.needs[u]![v]!.length-k) k) (λk=>m.needs[u]![v]!.length-k) ⟨ae,by rw[hro];rfl⟩ [(0,0)] ?_;rintro k ⟨hk,hr2⟩;refine zg ?_;intro u2;refine dF ?_ ?_<;>intro hc5
  .refine pW ?_;refine dj (v:=.sl 2 (((m.needs[u]![v]!)[k]!).map ek.D)) (hi:=λhf=>cr) ?_;refine zg ?_;refine wp_cond (λhc6=>?_) (λhc6=>?_)
   .have hk6:Je m c u=k:=hr2.trans (R3 (f:=λk=>kF c m.needs[u]![v]![k]!) ae (by simpa using hc6));refine zr ?_;have h5:nt m c=u:=by rw[hr,R3 ae (by rw[hou,hk6];exact bA ae)]
    unfold ey;rw[ah hc0,ak ae,h5,hk6];rfl
   try simp only[gR]at hc6
   refine fX (k+1) [(0,0)] ?_;exact hr2.trans (HF (f:=λk=>kF c m.needs[u]![v]![k]!) ae hc6)
  refine fX (u+1) [(0,0)] ?_;rw[hr,HF ae (by rw[hou,hr2,LY ae];exact aY ae)]
 refine zr ?_;have h5:nt m c=u:=by rw[hr,LY ae]
 unfold ey;rw[ah hc0,ah ae];rfl
def Mx:aj:=bd 4
def w89 (hm:(Y.at 0).bU)(hA:C29 Y)(hB:C264 Y)(hC:C265 Y)    :wkk Y Mx (.bool true) []:=by
 refine fA ?_;refine bW [.int .i64 0,.int .i64 0,.int .i64 0,.str [],.str [],.int .i64 (-1),.aO,.aO] ?_;refine bm [.agg [.int .i64 0,.int .i64 0,.int .i64 0,.str [],.str [],.int .i64 (-1),.aO,.aO]] ?_;refine bW [.str [],.str [],.own 2 8 0 1] ?_;refine bm [.agg [.str [],.str [],.own 2 8 0 1]] ?_;refine bW [.own 4 3 0 1] ?_;refine dR ?_;refine Bk [(2,.buf 8 [eI.D ⟨zV,-1,[],[]⟩]),(4,.buf 3 [.agg [.str [],.str [],.own 2 8 0 1]]),(6,.buf 1 [.agg [.own 4 3 0 1]])] (.bf ai (.cons (.ag (.cons (.refl _) (.cons (.refl _) (.cons (.refl _) (.cons (.refl _) (.cons (.refl _) (.cons (.refl _) (.cons (.nil 1) (.cons (.nil 3) .nil))))))))) .nil) (.id ai (.id ai .nil))) ?_;refine bG 2 ?_;refine bG 4 ?_;refine c9 ?_;refine bW [.str [],.str [],.str []] ?_;refine qv (v:=bP.D R0) ?_;refine bW [.str [],.str [],.str [],.aO] ?_;refine aE (hc:=hB [] eZ R0 ⟨eZ,[]⟩ (R1 ⟨aX,(λ_ h=>cb),(λi=>by unfold Env.at;split<;>decide)⟩)) ?_;refine qH ?_;rw[awk_1];refine c9 ?_;refine bW [.str [],.str [],.str []] ?_;refine qv (v:=bP.D R0) ?_;refine bW [.str [],.str [],.str [],.aO] ?_;refine aE (hc:=hC [] eZ R0 ⟨eZ,[]⟩ (R1 ⟨aX,(λ_ h=>cb),(λi=>by unfold Env.at;split<;>decide)⟩)) ?_;refine kv ?_;rw[awk_2];refine c9 ?_;refine bW [.str [],.str [],.str []] ?_;refine qv (v:=bP.D R0) ?_;refine c9 ?_;refine bW [.str (zh 1).e0,.str (zh 1).e1,.str (zh 1).e2,.aO] ?_;refine aE (hc:=hC [] eZ R0 ⟨zh 1,[]⟩ (R1 ⟨aX,(λ_ h=>cb),aj0 1⟩)) ?_;refine kv ?_;rw[awk_3];refine c9 ?_;refine bW [.str [],.str [],.str []] ?_;refine qv (v:=bP.D R0) ?_;refine bW [.str [97,110,116],.int .i64 0,.int .i64 0,.int .i64 0,.str [],.str [],.str [],.int .u64 0,.aO] ?_;refine bm [.agg [.str [97,110,116],.int .i64 0,.int .i64 0,.int .i64 0,.str [],.str [],.str [],.int .u64 0,.aO]] ?_;refine bW [.str [],.str [],.str [],.own 41 9 0 1] ?_;refine aE (hc:=hC [] eZ R0 ⟨eZ,[antL]⟩ (R1 ⟨aX,(λx hx=>by rw[aF.1 hx];exact⟨⟨aX,aX⟩,aX,aX,aX,λ_ h=>cb⟩),(λi=>by unfold Env.at;split<;>decide)⟩)) (hp:=λ_=>by repeat' first|exact trivial|exact rfl|refine And.intro ?_ ?_|(intro e he;obtain rfl:=aF.1 he)|simp) ?_;refine kv ?_;rw[awk_4];refine j7 ?_;refine zzn ?_;refine fA ?_;refine cD 0 (hj:=λ_=>rfl) (hb:=λ_=>aX) ?_;refine dj (v:=.int .i64 0) (hi:=λ_=>aX) ?_;refine iz ?_;refine j7 ?_;refine bg (env':=[⟨_,(.bool _)⟩,_,_,_,_,_,_,_]) ?_;refine zr ?_;decide
def D9:aj:=bd 120
def w752 (hm:(Y.at 3).bU)(y:cu)(ns:Ψ)(k:Key)(hA:C755 (Y.at 3))(hB:C816 (Y.at 3))(hp0:p0 y)(hp1:ns.length<=999):dD (Y.at 3) D9.body (uV D9 (LH y (fe ns k.n) (u7 (ei y k))):Ex->Φ->St->Prop) (fV D9 [cu.D y (.ptr 0 2 0 0),Key.D k]) ⟨3,[(0,.buf 2 [eS 1 2 ns.length]),(1,.buf 1 (ns.map D.str)),(2,.buf 1 (dn y ns))]⟩:=by
 show dD _ _ _ [⟨true,cu.D y (.ptr 0 2 0 0)⟩,⟨true,Key.D k⟩,.un,.un,.un,.un,.un,.un,.un,.un] ⟨3,[(0,.buf 2 [eS 1 2 ns.length]),(1,.buf 1 (ns.map D.str)),(2,.buf 1 (dn y ns))]⟩;refine aS ?_;refine Jw ?_;refine dT (nx':=9) (v:=u7 (dc y k.n)) (m':=[(10,.buf 1 ((fe ns k.n).map D.str)),(11,.buf 1 (dn y (fe ns k.n))),(0,.buf 2 [eS 10 11 (fe ns k.n).length]),(3,.buf 8 [cu.D y (.ptr 0 2 0 0)]),(4,.buf 2 [Key.D k])]) (hc:=λK' hK=>hA y ns k.n hp0 ae _ 0 1 2 _ K' eL eL eL aX ⟨rfl,rfl,rfl⟩ hK) (hn:=aX) ?_;refine c9 ?_;refine bg (env':=[_,_,_,_,_,_,⟨_,(.sl _ _)⟩,_,_,_]) ?_;refine zg ?_;refine zf hm (λi=>[.u 4,.p 4 2,.i i,.m 10 (dc y k.n) qM.D,.u 2,.o 7 10 (((dc y k.n).take i).filter (Tb k.f)).length]) (λi=>[(0,.buf 2 [eS 5 6 (fe ns k.n).length]),(5,.buf 1 ((fe ns k.n).map D.str)),(6,.buf 1 (dn y (fe ns k.n))),(4,.buf 2 [Key.D k]),(7,.buf 10 ((((dc y k.n).take i).filter (Tb k.f)).map qM.D))]) 20 (λi=>i<=(dc y k.n).length) (λi=>(dc y k.n).length-i) ae [(10,5),(11,6),(4,4)] ?_;intro i hi;have hfl:=List.length_filter_le (Tb k.f) ((dc y k.n).take i);have hl64:=(look_ok hp0 k.n).1;rw[eE]at hfl;refine zg ?_;intro u0;refine dF ?_ ?_<;>intro hc0
 .refine zc ?_ ?_<;>intro hc1
  .refine kv ?_;refine bm [qM.D (dc y k.n)[i]!] ?_;refine cQ (q:=qM.D) (xs:=((dc y k.n).take i).filter (Tb k.f)) (e:=(dc y k.n)[i]!) (hb:=ae) ?_;refine zg ?_;rw[ofT_y ae hc1];exact iw (i+1) [(4,4),(5,5),(6,6),(44,7)]
  refine zg ?_;rw[ofT_n ae hc1];exact iw (i+1) [(4,4),(5,5),(6,6),(7,7)]
 refine c7 ?_;obtain rfl:i=(dc y k.n).length:=ae;rw[List.take_length];refine bG 7 ?_;refine zg ?_;refine eB trivial jJ (dp ai (?_)) ai ⟨dh,5,6,⟨ae,ae,ae⟩,tx⟩;rfl
def I4:aj:=bd 101
def w692 (hA:C184 Y)(hB:C829 Y):KL (ct Y I4):=λm al c hp0=>by
 refine c9 ?_;obtain⟨⟨hmp,hcp⟩,rfl⟩:=hp0;have hfp:=Ma hmp hcp;have hml:=hmp.1;have hcl:=hcp.1;refine zg ?_;refine zf hm (λu=>[.u 1,.m 1 ([]:Δ) (D.int .i64),.m 1 c (D.int .i64),.u 1,.i u,.u 1,.p 0 3,.u 1]) (λu=>[(0,.buf 3 [kB.D m])]) 3 (λu=>u<=c.length/\y7 m c=bK (vW m c) u c.length) (λu=>c.length-u) ⟨ae,rfl⟩ [(0,0)] ?_;rintro u ⟨hu,hr⟩;refine zg ?_;intro u0;refine dF ?_ ?_<;>intro hc0
 .refine dR ?_;have hfu:=λh=>hfp.2 u ae h
  refine iz ?_;refine kv ?_;refine dj (v:=.sl 1 (((m.bars)[u]!).map Jj)) (hi:=λhf=>cr) ?_;refine fA ?_;refine cD c[u]!.toNat (hj:=λhf=>by have hcu:0<=c[u]! :=Decidable.byContradiction λhn=>(by rw[bA hn]at hf;revert hf;decide);omega) (hb:=λhf=>aco) ?_;refine dj (v:=.sl 2 (m.bars[u]![c[u]!.toNat]!.map ek.D)) (hi:=λhf=>aco) ?_;refine zg ?_;refine wp_cond (λhc1=>?_) (λhc1=>?_)
  .have hcx:vW m c u=false:=by
    unfold vW;by_cases hq:c[u]! <0
    .rw[bA (show ¬0<=c[u]! by omega)]at hc1;cases hc1
    .rw[aY (show 0<=c[u]! by omega)]at hc1;rw[bA hq,show kF c m.bars[u]![c[u]!.toNat]! =true from hc1];rfl
   refine zr ?_;rw[hr,ax ae,hcx,Bool.false_and]
  have hcx:vW m c u=true:=by
   unfold vW;by_cases hq:c[u]! <0
   .rw[aY hq];rfl
   .rw[aY (show 0<=c[u]! by omega)]at hc1;rw[bA hq,show kF c m.bars[u]![c[u]!.toNat]! =false from hc1];rfl
  refine fX (u+1) [(0,0)] ?_;rw[hr,ax ae,hcx,eh]
 refine zr ?_;rw[hr,bp ae]
def PY:aj:=bd 11
def w25 (hm:(Y.at 0).bU):Rs (ct Y PY):=λv n hp0=>by
 refine zc ?_ ?_<;>intro hc0
 .refine zr ?_;simp[jl,hc0]
 refine fA ?_;refine AU (v.tmod n) (hn:=by intro _;omega) (hb:=λ_=>rfl) ?_;have ht:=EU v n ae;refine zc ?_ ?_<;>intro hc1
 .refine zr ?_;simp only[jl];rw[ah hc0,ak hc1]
 refine zr ?_;simp only[jl];rw[ah hc0,ah hc1]
def aeO:aj:=bd 54
def w159 (hm:(Y.at 0).bU):JD (ct Y aeO):=λl i=>by
 refine zc ?_ ?_<;>intro hc0
 .refine dR ?_;refine AU (i.tmod 3) (hn:=by intro _;omega) (hb:=λ_=>rfl) ?_;refine zr ?_;simp only[atI];rw[ak hc0]
 refine zr ?_;simp only[atI];rw[ah ae]
def sO:aj:=bd 23
def w109 (hm:(Y.at 1).bU)(hA:C25 (Y.at 1))(hB:C159 (Y.at 1))(g:Gs)(n:Int)(hp0:n<=9223372036854775807)(hp1:0<=g.i/\g.i<=1000000):dD (Y.at 1) sO.body (HB sO 2 (.int .i64 (g.val n)) (Gs.D g.aU):Ex->Φ->St->Prop) (fV sO (.ptr 0 2 0 0::[.int .i64 n])) ⟨1,[(0,.buf 2 [(Gs.D g)])]⟩:=by
 show dD _ _ _ [⟨true,.ptr 0 2 0 0⟩,⟨true,.int .i64 n⟩,.un] ⟨1,[(0,.buf 2 [(Gs.D g)])]⟩;refine aS ?_;refine iz ?_;refine pW ?_;refine Cn ?_;rw[show g.i+1-1=g.i by omega];refine zg ?_;refine jc trivial jJ (dp ai (ay (D.int .i64) ?_)) ai ai ai;rfl
def QC:aj:=bd 56
def w344 (hA:Hy Y):JW (ct Y QC):=λl=>by
 refine zg ?_;refine zf hm (λi=>[.m 2 l gY.D,.u 2,.i i,.u 2]) (λi=>[]) 3 (λi=>i<=l.length/\DS l=gU (Ng l) i l.length) (λi=>l.length-i) ⟨ae,rfl⟩ [] ?_;rintro i ⟨hi,hr⟩;refine zg ?_;intro u0;refine dF ?_ ?_<;>intro hc0
 .refine iz ?_;refine F1 ?_;refine cD (i-1) (hj:=λhf=>Cv) (hb:=λhf=>Cv) ?_;refine zg ?_;refine wp_cond (λhc1=>?_) (λhc1=>?_)
  .simp only[gR]at hc1;simp only[gt_iff_lt,Int.natCast_pos]at hc1;have hz:=Nh hc1;refine zg ?_;refine fQ (bZ (ay (D.int .i64) ?_) (ay (D.int .i64) ?_));all_goals rw[hr,gV ae (by rw[hz];decide),hz]
  simp only[gR]at hc1;simp only[gt_iff_lt,Int.natCast_pos]at hc1;have hz:=Tj (l:=l) (i:=i) (by rintro((h|h)|⟨h,h2⟩)<;>simp_all);refine fX (i+1) [] ?_;rw[hr,kE ae hz]
 refine zg ?_;refine fQ (bZ (ay (D.int .i64) ?_) (ay (D.int .i64) ?_));all_goals rw[hr,kD ae]
def IX:aj:=bd 39
def w144 (hA:WL Y):uf (ct Y IX):=λe=>by
 refine zg ?_;refine zf hm (λi=>[.u 2,.i i,.u 1,.p 0 3,.u 1]) (λi=>[(0,.buf 3 [Env.D e])]) 3 (λi=>i<=3/\mw e=bK (λi=>decide (e.at i=[]) ||gP (e.at i)) i 3) (λi=>3-i) ⟨ae,rfl⟩ [(0,0)] ?_;rintro i ⟨hi,hr⟩;refine zc ?_ ?_<;>intro hc0
 .refine j7 ?_;refine Ql i ?_;refine qv (v:=.str (e.at i)) (hv:=λ_=>Env.ld e ae) ?_;refine fA ?_;refine Ql i ?_;refine qv (v:=.str (e.at i)) (hv:=λ_=>Env.ld e ae) ?_;refine zg ?_;refine wp_cond (λhc1=>?_) (λhc1=>?_)
  .simp only[aD,b8,bR]at hc1;refine zr ?_;rw[hr,ax ae];rw[bA hc1.1,hc1.2];rfl
  simp only[eJ,cF,aT]at hc1;refine fX (i+1) [(0,0)] ?_;rw[hr,ax ae];rw[show(decide (e.at i=[]) ||gP (e.at i))=true by rw[dk,aT];exact hc1];rfl
 refine zr ?_;rw[hr,bp ae]
def QB:aj:=bd 71
def w1120 (hA:Hy Y):Fk (ct Y QB):=λl=>by
 refine zg ?_;refine zf hm (λi=>[.m 2 l gY.D,.u 1,.i i,.u 2]) (λi=>[]) 2 (λi=>i<=l.length/\AO l=bK (λi=>decide (Ng l i=0)) i l.length) (λi=>l.length-i) ⟨ae,rfl⟩ [] ?_;rintro i ⟨hi,hr⟩;refine zg ?_;intro u0;refine dF ?_ ?_<;>intro hc0
 .refine iz ?_;refine F1 ?_;refine cD ((i-1)) (hj:=λhf=>cr) (hb:=λhf=>cr) ?_;refine zc ?_ ?_<;>intro hc1
  .refine zr ?_;rw[hr,ax ae,ZZ (by rcases hc1 with(h|h)|⟨h,h2⟩<;>simp_all)];rfl
  refine fX (i+1) [] ?_;rw[hr,ax ae,VE (by rintro((h|h)|⟨h,h2⟩)<;>simp_all)];rfl
 refine zr ?_;rw[hr,bp ae]
def HV:aj:=bd 18
def w265 (hm:(Y.at 0).bU)(hA:C264 Y)(hB:C410 Y):JO (ct Y HV):=λshop e w l hp0=>by
 refine zc ?_ ?_<;>intro hc0
 .refine zr ?_;rw[chk_a hc0];rfl
 refine dR ?_;have hcw:=adC (l:=l) (e:=e) (shop:=shop) hp0.2.1 hc0;refine zg ?_;intro u0;refine dF ?_ ?_<;>intro hc1
 .refine c7 ?_;have hun:=hcw.2.2 ae;refine dR ?_;refine cD 0 (hj:=λ_=>ae) (hb:=λ_=>ae) ?_;refine zr ?_;rw[chk_c hc0 ae];rfl
 refine zr ?_;rw[agB hc0 ae];rfl
def N3:aj:=bd 65
def w508 (hm:(Y.at 0).bU)(hA:C695 Y):Kr (ct Y N3):=λs nm v hp0=>by
 refine Fa ?_;have hlm:=tH (s:=s) (nm:=nm) (v:=v);refine zc ?_ ?_<;>intro hc0
 .refine c7 ?_;refine bW _ ?_;refine cE _ ?_;refine zr ?_;rw[show pe s nm v=(default,false)from ak ae];rfl
 refine c7 ?_;obtain⟨j,hj,hjl⟩:=hlm.resolve_left ae;refine zr ?_;rw[show pe s nm v=(s.es[j]!,true)from by rw[pe,ah ae,hj];rfl];rfl
end Go.Abs
end
