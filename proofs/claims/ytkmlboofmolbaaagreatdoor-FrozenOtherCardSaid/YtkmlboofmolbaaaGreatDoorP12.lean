/- A part of the proofs. -/
import Derived.Test.YtkmlboofmolbaaaGreatDoorP09
set_option linter.all false
set_option maxRecDepth 60000
set_option maxHeartbeats 2000000
noncomputable section
namespace Go.Abs
variable {Y:Ctx}(hm:(Y.at 0).bU)
def sF:aj:=⟨3,17,[⟨3,none⟩,⟨4,none⟩],[[.sl 8 [.a,.a,.a,.a,.a,.a,.sl 1 [.sl 3 [.a,.sl 14 [.a,.a],.sl 14 [.a,.a]]],.sl 3 [.a,.sl 14 [.a,.a,.a,.a,.a,.a],.sl 14 [.a,.a,.a,.a,.a,.a]]]],[.a]],(sq (rg [gb 8 s0,gb 2 s2,gm (.c (.aL)),gm cbF] [(7,0),(5,1),(3,2),(4,3)]) (sq (sq (r1 [gk 2 true s5,gn (.build [.str [],.str []] []),gn (.eqA false true [.s,.s] l0 l1)] 6 2) (.cond s6 (sq (rg [gm s1,gk 8 true s7,gn (.callM 751 [l1]),gx 750 [l0,l2] [[.sl 2 [.a,.a]],[.sl 1 [.sl 4 [.a,.a,.sl 14 [.a,.a,.a,.a,.a,.a,.a,.a,.a,.a,.a,.a,.a,.a],.sl 14 [.a,.a,.a,.a,.a,.a,.a,.a,.a,.a,.a,.a,.a,.a]]]]],gn (.build [.int .i64 0,.int .i64 0,.int .i64 0,.str [],.str [],.int .i64 0,.aL,.aL] [(5,1,(.c (.int .i64 (-1)))),(6,1,l3)]),gn (.bsl 8 (.agg [.int .i64 0,.int .i64 0,.int .i64 0,.str [],.str [],.int .i64 0,.aL,.aL]) 1 [(0,l4)]),gm l5,gm cbT] [(3,6),(4,7)]) .ret) .skip)) (sq (r1 [gm (.c (.aL))] 16 0) (sq (sq (rg [gk 8 true s7,gk 2 true s5,gn (.callM 752 [l0,l1]),gl l2,gm yy] [(11,2),(9,3),(8,4)]) (.block 0 (.loop (sq (r1 [om s8 s9] 10 0) (sq (gce U4 0) (sq (.block 1 (sq (r1 [ga 10 s11 s8,gk 10 true l0,gb 10 (.c (.agg [.str [],.int .i64 0,.int .i64 0,.int .i64 0,.str [],.str [],.aL,.aL,.aL,.int .i64 0])),gt 10 l2 l1] 12 2) (sq (r2 [gf 0 ZY,gf 1 l0,gk 5 true l1,gf 9 ZY,gd l3,gm s1,gf 0 ZY,gk 9 true l6,gf 2 s7,gk 3 true l8,gf 1 s5,gd l10,gx 753 [l7,l9,l11] [zzh1,[.a,.a,.a],[.a]],gx 750 [l5,l12] [[.sl 2 [.a,.a]],[.sl 1 [.sl 4 [.a,.a,.sl 14 [.a,.a,.a,.a,.a,.a,.a,.a,.a,.a,.a,.a,.a,.a],.sl 14 [.a,.a,.a,.a,.a,.a,.a,.a,.a,.a,.a,.a,.a,.a]]]]],gn (.build [.int .i64 0,.int .i64 0,.int .i64 0,.str [],.str [],.int .i64 0,.aL,.aL] [(0,5,l2),(5,1,l4),(6,1,l13)]),gb 8 (.c (.agg [.int .i64 0,.int .i64 0,.int .i64 0,.str [],.str [],.int .i64 0,.aL,.aL])),gt 8 l15 l14] 14 15) (sq (sq (r1 [gf 1 s5,gd l0,Hx l1 cse] 13 2) (.cond s13 (rg [gm s1,gf 0 ZY,gk 9 true l1,gf 2 s7,gk 3 true l3,gx 754 [l0,l2,l4] [[.sl 2 [.a,.a]],zzh1,[.a,.a,.a]],gf 7 s14,gt 1 l6 l5] []) .skip)) (sq (sq (r1 [gf 6 s14,gd l0,gl l1,Yd l2 (i6 24),gm l3,gff 4 7 s14,gdf 4 l5,Bt 4 (.len l6),Bt 4 (b_gtr l7 (i6 24)),go1 l4 l8] 15 9) (.cond s15 (sq (rg [gm (.c (.aL)),gm cbF] [(3,0),(4,1)]) .ret) .skip)) (r1 [gm s16,gk 8 true s14,gn (.bsl 8 (.agg [.int .i64 0,.int .i64 0,.int .i64 0,.str [],.str [],.int .i64 0,.aL,.aL]) 1 [(0,l1)]),gn (.app 8 l0 l2),gm l3] 16 4)))))) (r1 [qJ s8 TY,gm l0] 8 1))))))) (sq (rg [gm s16,gk 8 true s7,gf 0 s5,gd l2,gn (.callM 755 [l1,l3]),gl l4,ajF l5 (i6 16),gm l0,gm l6] [(3,7),(4,8)]) .ret)))))⟩
def w583 (hm:(Y.at 3).bU)(y:cC)(ns:List au)(all:List Key)(k:Key)(hA:C750 (Y.at 3))(hB:C751 (Y.at 3))(hC:C752 (Y.at 3))(hD:C753 (Y.at 3))(hE:C754 (Y.at 3))(hF:C755 (Y.at 3))(hp0:qq y/\lz y.e)(hp1:ns.length<=990):du (Y.at 3) sF.body (uA sF (KN y (jz ns k) (rW y all k)):Ex->List aY->St->Prop) (fQ sF [cC.D y (.ptr 0 2 0 0),.sl 2 (all.map Key.D),Key.D k]) ⟨3,[(0,.buf 2 [eP 1 2 ns.length]),(1,.buf 1 (ns.map D.str)),(2,.buf 1 (dm y ns))]⟩:=by
 show du _ _ _ [⟨true,cC.D y (.ptr 0 2 0 0)⟩,⟨true,.sl 2 (all.map Key.D)⟩,⟨true,Key.D k⟩,.un,.un,.un,.un,.un,.un,.un,.un,.un,.un,.un,.un,.un,.un] ⟨3,[(0,.buf 2 [eP 1 2 ns.length]),(1,.buf 1 (ns.map D.str)),(2,.buf 1 (dm y ns))]⟩;refine aP ?_;refine pA ?_;refine a7 (Key.D fJ) ?_;refine zc ?_ ?_<;>intro hc0
 .refine cX ?_;have hrl:=Iq hp0.1.p;refine cX ?_;refine dI (nx':=12) (v:=.sl 1 ((eL y.l).map dS)) (m':=[(12,.buf 1 ((ns).map D.str)),(13,.buf 1 (dm y (ns))),(0,.buf 2 [eP 12 13 (ns).length]),(3,.buf 8 [cC.D y (.ptr 0 2 0 0)]),(4,.buf 2 [Key.D k])]) (hc:=λK' hK=>hB y ns hp0.1.m (SX hp0.1.p) _ 0 1 2 _ K' eC eC eC aV ⟨rfl,rfl,rfl⟩ hK) (hn:=aV) ?_;refine cO ?_;refine a7 (.agg [.int .i64 (⟨zV,-1,dG all (eL y.l),[]⟩:eB).v.major,.int .i64 (⟨zV,-1,dG all (eL y.l),[]⟩:eB).v.minor,.int .i64 (⟨zV,-1,dG all (eL y.l),[]⟩:eB).v.patch,.str (⟨zV,-1,dG all (eL y.l),[]⟩:eB).v.pre,.str (⟨zV,-1,dG all (eL y.l),[]⟩:eB).v.build,.int .i64 (⟨zV,-1,dG all (eL y.l),[]⟩:eB).sh,.sl 1 ((⟨zV,-1,dG all (eL y.l),[]⟩:eB).needs.map jJ),.aL]) ?_;refine bg [.agg [.int .i64 (⟨zV,-1,dG all (eL y.l),[]⟩:eB).v.major,.int .i64 (⟨zV,-1,dG all (eL y.l),[]⟩:eB).v.minor,.int .i64 (⟨zV,-1,dG all (eL y.l),[]⟩:eB).v.patch,.str (⟨zV,-1,dG all (eL y.l),[]⟩:eB).v.pre,.str (⟨zV,-1,dG all (eL y.l),[]⟩:eB).v.build,.int .i64 (⟨zV,-1,dG all (eL y.l),[]⟩:eB).sh,.sl 1 ((⟨zV,-1,dG all (eL y.l),[]⟩:eB).needs.map jJ),.aL]] ?_;refine dJ ?_;refine AH [(0,.buf 2 [eP 12 13 (ns).length]),(12,.buf 1 ((ns).map D.str)),(13,.buf 1 (dm y (ns))),(17,.buf 8 [eB.D (⟨zV,-1,dG all (eL y.l),[]⟩:eB)])] ((.id ai (.id ai (.id ai (.bf ai (.cons (.ag ((.cons (.refl _) (.cons (.refl _) (.cons (.refl _) (.cons (.refl _) (.cons (.refl _) (.cons (.refl _) (.cons (.refl _) (.cons (.nil 3) .nil)))))))))) .nil) .nil))))) ?_;refine bz 17 ?_;refine zg ?_;refine ei trivial jD (dk ai (?_)) ai ⟨by first|(rw[rW,K7 hc0];done)|(rw[rW,K7 hc0];exact rfl),12,13,⟨ae,ae,ae⟩,by rw[XL hc0];exact sW⟩;rfl
 refine pA ?_;refine dI (nx':=13) (v:=uG (eO y k)) (m':=[(13,.buf 1 ((eU ns k.n).map D.str)),(14,.buf 1 (dm y (eU ns k.n))),(0,.buf 2 [eP 13 14 (eU ns k.n).length]),(3,.buf 8 [cC.D y (.ptr 0 2 0 0)]),(4,.buf 2 [Key.D k])]) (hc:=λK' hK=>hC y ns k hp0.1.p ae _ 0 1 2 _ K' eC eC eC aV ⟨rfl,rfl,rfl⟩ hK) (hn:=aV) ?_;refine cX ?_;intro u0;refine bm (env':=[_,_,_,_,_,_,_,_,⟨_,(.int _ _)⟩,⟨_,(.int _ _)⟩,_,⟨_,(.sl _ _)⟩,_,_,_,_,_]) ?_;refine zf hm (λi=>[.u 1,.m 2 all Key.D,.u 3,.p 4 2,.u 1,.p 3 8,.i i,.i ((eO y k).length:Nat),.u 1,.m 10 (eO y k) uz.D,.u 4,.o 7 8 (((eO y k).take i).map (dU y all k)).length]) (λi=>[(0,.buf 2 [eP 5 6 (eU ns k.n).length]),(5,.buf 1 ((eU ns k.n).map D.str)),(6,.buf 1 (dm y (eU ns k.n))),(3,.buf 8 [cC.D y (.ptr 0 2 0 0)]),(4,.buf 2 [Key.D k]),(7,.buf 8 ((((eO y k).take i).map (dU y all k)).map eB.D))]) 20 (λi=>i<=(eO y k).length/\(((eO y k).take i).map (dU y all k)).any oz=false) (λi=>(eO y k).length-i) ⟨ae,rfl⟩ [(13,5),(14,6),(3,3),(4,4)] ?_;rintro i ⟨hi,hwd⟩;have hof:=(xA hp0.1.p k).1;have hcl:(((eO y k).take i).map (dU y all k)).length<=i:=by rw[a8,dF];omega
 refine zc ?_ ?_<;>intro hc1
 .refine dJ ?_;obtain⟨hxp,hxv⟩:=afI hp0.1 (k:=k) (i:=i) ae;obtain⟨hql,hq3⟩:=lN (e:=y.e) (ft:=k.f) hxp;refine dJ ?_;refine cy _ ?_;refine gZ ?_;refine cX ?_;refine a7 (.agg [.int .i64 (⟨(eO y k)[i]!.r.v,(eO y k)[i]!.sh,dG all (cM (eO y k)[i]!.r y.e k.f),[]⟩:eB).v.major,.int .i64 (⟨(eO y k)[i]!.r.v,(eO y k)[i]!.sh,dG all (cM (eO y k)[i]!.r y.e k.f),[]⟩:eB).v.minor,.int .i64 (⟨(eO y k)[i]!.r.v,(eO y k)[i]!.sh,dG all (cM (eO y k)[i]!.r y.e k.f),[]⟩:eB).v.patch,.str (⟨(eO y k)[i]!.r.v,(eO y k)[i]!.sh,dG all (cM (eO y k)[i]!.r y.e k.f),[]⟩:eB).v.pre,.str (⟨(eO y k)[i]!.r.v,(eO y k)[i]!.sh,dG all (cM (eO y k)[i]!.r y.e k.f),[]⟩:eB).v.build,.int .i64 (⟨(eO y k)[i]!.r.v,(eO y k)[i]!.sh,dG all (cM (eO y k)[i]!.r y.e k.f),[]⟩:eB).sh,.sl 1 ((⟨(eO y k)[i]!.r.v,(eO y k)[i]!.sh,dG all (cM (eO y k)[i]!.r y.e k.f),[]⟩:eB).needs.map jJ),.aL]) ?_;refine dJ ?_;refine AH [(0,.buf 2 [eP 5 6 (eU ns k.n).length]),(5,.buf 1 ((eU ns k.n).map D.str)),(6,.buf 1 (dm y (eU ns k.n))),(3,.buf 8 [cC.D y (.ptr 0 2 0 0)]),(4,.buf 2 [Key.D k]),(7,.buf 8 ((((eO y k).take i).map (dU y all k)).map eB.D)),(23,.buf 10 [uz.D (eO y k)[i]!]),(40,.buf 8 [eB.D (⟨(eO y k)[i]!.r.v,(eO y k)[i]!.sh,dG all (cM (eO y k)[i]!.r y.e k.f),[]⟩:eB)])] ((.id ai (.id ai (.id ai (.id ai (.id ai (.id ai (.id ai (.bf ai (.cons (.ag ((.cons (.refl _) (.cons (.refl _) (.cons (.refl _) (.cons (.refl _) (.cons (.refl _) (.cons (.refl _) (.cons (.refl _) (.cons (.nil 3) .nil)))))))))) .nil) .nil))))))))) ?_;refine zc ?_ ?_<;>intro hc2
  .refine pA ?_;refine cy (eB.D (⟨(eO y k)[i]!.r.v,(eO y k)[i]!.sh,dG all (cM (eO y k)[i]!.r y.e k.f),wJ all (eO y k)[i]!.r y.e⟩:eB)) (he:=c8) ?_;refine cX ?_;rw[show(⟨(eO y k)[i]!.r.v,(eO y k)[i]!.sh,dG all (cM (eO y k)[i]!.r y.e k.f),wJ all (eO y k)[i]!.r y.e⟩:eB)=(dU y all k (eO y k)[i]!)from acr hc2];refine zg ?_;intro u1;refine dP ?_ ?_<;>intro hc3
   .refine k9 ?_;refine ij (aZ.nz _ [_,_,_,⟨true,.sl 8 []⟩,_,_,_,_,_,_,_,_,_,_,_,_,_] _ _ [(0,.buf 2 [eP 5 6 (eU ns k.n).length]),(5,.buf 1 ((eU ns k.n).map D.str)),(6,.buf 1 (dm y (eU ns k.n)))] ⟨⟨rfl,.refl _⟩,⟨rfl,.refl _⟩,⟨rfl,.refl _⟩,⟨rfl,.nil 8⟩,⟨rfl,.refl _⟩,⟨rfl,.refl _⟩,⟨rfl,.refl _⟩,⟨rfl,.refl _⟩,⟨rfl,.refl _⟩,⟨rfl,.refl _⟩,⟨rfl,.refl _⟩,⟨rfl,.refl _⟩,⟨rfl,.refl _⟩,⟨rfl,.refl _⟩,⟨rfl,.refl _⟩,⟨rfl,.refl _⟩,⟨rfl,.refl _⟩,trivial⟩ (.id ai (.id ai (.id ai .nil)))) ?_;refine zg ?_;refine ei trivial jD (dk ai (?_)) ai ⟨abh,5,6,⟨ae,ae,ae⟩,abf⟩;rfl
   refine fE ?_;refine bg [eB.D (dU y all k (eO y k)[i]!)] ?_;refine cH (q:=eB.D) (xs:=(((eO y k).take i).map (dU y all k))) (e:=(dU y all k (eO y k)[i]!)) (hb:=ae) ?_;refine zg ?_;rw[<-map_take (f:=dU y all k) (l:=eO y k) (i:=i) ae];refine gM (i+1) [(3,3),(4,4),(5,5),(6,6),(66,7)] ?_;exact Ra ae hwd ae
  refine cX ?_;rw[show(⟨(eO y k)[i]!.r.v,(eO y k)[i]!.sh,dG all (cM (eO y k)[i]!.r y.e k.f),[]⟩:eB)=(dU y all k (eO y k)[i]!)from acq hc2];refine zg ?_;intro u1;refine dP ?_ ?_<;>intro hc3
  .refine k9 ?_;refine ij (aZ.nz _ [_,_,_,⟨true,.sl 8 []⟩,_,_,_,_,_,_,_,_,_,_,_,_,_] _ _ [(0,.buf 2 [eP 5 6 (eU ns k.n).length]),(5,.buf 1 ((eU ns k.n).map D.str)),(6,.buf 1 (dm y (eU ns k.n)))] ⟨⟨rfl,.refl _⟩,⟨rfl,.refl _⟩,⟨rfl,.refl _⟩,⟨rfl,.nil 8⟩,⟨rfl,.refl _⟩,⟨rfl,.refl _⟩,⟨rfl,.refl _⟩,⟨rfl,.refl _⟩,⟨rfl,.refl _⟩,⟨rfl,.refl _⟩,⟨rfl,.refl _⟩,⟨rfl,.refl _⟩,⟨rfl,.refl _⟩,⟨rfl,.refl _⟩,⟨rfl,.refl _⟩,⟨rfl,.refl _⟩,⟨rfl,.refl _⟩,trivial⟩ (.id ai (.id ai (.id ai .nil)))) ?_;refine zg ?_;refine ei trivial jD (dk ai (?_)) ai ⟨abh,5,6,⟨ae,ae,ae⟩,abf⟩;rfl
  refine fE ?_;refine bg [eB.D (dU y all k (eO y k)[i]!)] ?_;refine cH (q:=eB.D) (xs:=(((eO y k).take i).map (dU y all k))) (e:=(dU y all k (eO y k)[i]!)) (hb:=ae) ?_;refine zg ?_;rw[<-map_take (f:=dU y all k) (l:=eO y k) (i:=i) ae];refine gM (i+1) [(3,3),(4,4),(5,5),(6,6),(58,7)] ?_;exact Ra ae hwd ae
 refine cX ?_;obtain rfl:i=(eO y k).length:=ae;rw[List.take_length]at hwd⊢;refine bz 7 ?_ (he:=aaR) (hm:=aaR);refine k9 ?_;refine dI (nx':=23) (v:=uG (dL y k.n)) (m':=[(25,.buf 1 ((eU (eU ns k.n) k.n).map D.str)),(26,.buf 1 (dm y (eU (eU ns k.n) k.n))),(0,.buf 2 [eP 25 26 (eU (eU ns k.n) k.n).length]),(3,.buf 8 [cC.D y (.ptr 0 2 0 0)]),(4,.buf 2 [Key.D k])]) (hc:=λK' hK=>hF y (eU ns k.n) k.n hp0.1.p (by have:=KZ ns k.n;omega) _ 0 5 6 _ K' eC eC eC aV ⟨rfl,rfl,rfl⟩ hK) (hn:=aV) ?_;refine zg ?_;intro u2;refine ei trivial jD (dk ai (?_)) ai ⟨by first|(rw[rW,K5 hc0 hwd];done)|(rw[rW,K5 hc0 hwd];simp),25,26,⟨ae,ae,ae⟩,by rw[show jz ns k=eU (eU ns k.n) k.n by rw[OK hc0,Tr]];exact sW⟩;rw[gU aC,show decide ((dL y k.n).length<=16)=decide (((dL y k.n).length:Int)<=16)from lW.2 ae];rfl
def xf:aj:=bc 5
def w1218 (hm:(Y.at 0).bU)(hA:C25 Y)(hB:C28 Y)(hC:C29 Y)(hD:C75 Y)(hE:C89 Y)(hF:C90 Y)(hG:C91 Y)(hH:C92 Y)(hI:C190 Y)(hJ:C265 Y)(hK:C501 Y):EB (cw Y xf):=λys ss os n at1=>by
 refine zg ?_;intro u0;refine dP ?_ ?_<;>intro hc0
 .exact lU
 refine gZ ?_;have hyG:=aeQ ys ss 10 n;refine fE ?_;refine aF (hc:=hG (gu ys) (b8 ss 10) (iD n) os ⟨hyG.p,aiH n⟩) ?_;refine zc ?_ ?_<;>intro hc1
 .exact lU
 refine cX ?_;obtain⟨⟨hw,hwl,hwn⟩,hc00⟩:=U9 hyG (os:=os) lY;obtain⟨hq,hqn,hqm,hqh⟩:=Nr hyG (os:=os) lY;have hss:=Nn ss 10;have hlk:=of_w (c:=(cB (gu ys) (b8 ss 10) (iD n) os).2.1) (aeA ss 10) hw hwl hwn (acZ n);have hl0:=hlk.sm aV;refine fE ?_;refine aF (hc:=hH (b8 ss 10) (iD n) (cB (gu ys) (b8 ss 10) (iD n) os).1 (cB (gu ys) (b8 ss 10) (iD n) os).2.1 ⟨hss,hw,hc00⟩) ?_;refine pA ?_;have hpk:=iF at1 2 aV;have hsl:=U7 ss 10;refine k9 ?_;obtain⟨k,hk⟩:∃k:Nat,iE at1 2=(k:Int):=⟨(iE at1 2).toNat,ae⟩
 rw[hk];refine zc ?_ ?_<;>intro hc2
 .exact lU
 refine cX ?_;have hz:(wv (b8 ss 10) (iD n) (cB (gu ys) (b8 ss 10) (iD n) os).1 (cB (gu ys) (b8 ss 10) (iD n) os).2.1).2=0:=hc2.1;obtain⟨h1,hm2,hh2,hl2,he2⟩:=Pb hz;obtain⟨hcb,hkb⟩:=Wx hq hqn hc00 hz;have hkl:k<(b8 ss 10).length:=ae;obtain⟨hes,hbr⟩:=Z8 h1.1.2 hkl;have hpj:=iF (IntKind.i64.wrap (at1.tdiv 2)) (b8 ss 10)[k]!.es.length ae;refine cO ?_;refine afP (IntKind.i64.wrap (at1.tdiv 2)) (hn:=λ_=>aV) (hb:=λ_=>rfl) ?_;refine yr ?_;intro u1;obtain⟨j,hj⟩:∃j:Nat,iE (IntKind.i64.wrap (at1.tdiv 2)) (b8 ss 10)[k]!.es.length=(j:Int):=⟨(iE (IntKind.i64.wrap (at1.tdiv 2)) (b8 ss 10)[k]!.es.length).toNat,ae⟩
 rw[hj];have hjl:j<(b8 ss 10)[k]!.es.length:=ae;have hb8:=hbr j hjl;have hzs:=aaK (hss _ (aq hkl) _ (aq hjl));refine gZ ?_;refine cX ?_;refine qO (he:=mW.sl) (n:=(b8 ss 10)[k]!.es[j]!.r.bars.length) (hn:=aC) (hb:=ae) ?_;refine a7 (lu.D aaI) ?_;refine bg [lu.D aaI] ?_;refine cH (q:=lu.D) (xs:=(b8 ss 10)[k]!.es[j]!.r.bars) (e:=aaI) (hb:=ae) ?_;refine cO ?_;refine cy (.agg [.str (b8 ss 10)[k]!.es[j]!.r.name,.int .i64 (b8 ss 10)[k]!.es[j]!.r.v.major,.int .i64 (b8 ss 10)[k]!.es[j]!.r.v.minor,.int .i64 (b8 ss 10)[k]!.es[j]!.r.v.patch,.str (b8 ss 10)[k]!.es[j]!.r.v.pre,.str (b8 ss 10)[k]!.es[j]!.r.v.build,.sl 3 ((b8 ss 10)[k]!.es[j]!.r.needs.map bn.D),.own 90 3 0 ((b8 ss 10)[k]!.es[j]!.r.bars++[aaI]).length,.sl 2 ((b8 ss 10)[k]!.es[j]!.r.feats.map b6.D)]) (he:=c8) ?_;refine cO ?_;refine bz 90 ?_ (he:=GK) (hm:=GK);refine cO ?_;refine kW (d:=Rec.D (Eo (b8 ss 10)[k]!.es[j]!.r)) ?_;refine pA ?_;obtain⟨pz,hpz⟩:∃pz,(ez (Eo (b8 ss 10)[k]!.es[j]!.r)).2=pz:=⟨_,rfl⟩
 obtain⟨sz,hsz⟩:∃sz,qY (Eo (b8 ss 10)[k]!.es[j]!.r)=sz:=⟨_,rfl⟩
 rw[hpz,hsz];refine zc ?_ ?_<;>intro hc3
 .exact lU
 refine cX ?_;subst hpz;subst hsz;have ho:=aeS hkl hjl hc3.1 hc3.2;have hso:=aaJ hss hkl hjl;have hol:=Us hq hqn hc00 hz ho (Lw (Np ss 10));refine cO ?_;refine qO (he:=mW.sl) (n:=(b8 ss 10).length) (hn:=aC) (hb:=ae) ?_;refine rb ?_;refine qO (he:=mW.sl) (n:=(b8 ss 10)[k]!.es.length) (hn:=aC) (hb:=ae) ?_;refine cX ?_;refine pZ (((b8 ss 10).map bA.D).set k (.agg [.str (b8 ss 10)[k]!.name,.own 125 11 0 (b8 ss 10)[k]!.es.length])) (hi:=kf) (he:=akd hkl _ _) ?_;refine kB ?_;refine r_ldE (v:=.own 125 11 0 (b8 ss 10)[k]!.es.length) (hi:=λ_=>by rw[List.length_set,a8];omega) (hv:=λ_=>by rw[akc hkl];rfl) ?_;refine cO ?_;refine kW (d:=Rec.D (Eo (b8 ss 10)[k]!.es[j]!.r)) ?_;refine rb ?_;refine a7 (iQ.D (Qr (b8 ss 10)[k]!.es[j]!)) ?_;refine cO ?_;refine pZ (((b8 ss 10)[k]!.es.set j (Qr (b8 ss 10)[k]!.es[j]!)).map iQ.D) (hi:=kf) (he:=BL hjl rfl) ?_;refine cO ?_;rw[show D.own 125 11 0 (b8 ss 10)[k]!.es.length=D.own 125 11 0 ((b8 ss 10)[k]!.es.set j (Qr (b8 ss 10)[k]!.es[j]!)).length by rw[List.length_set]];refine bz 125 ?_ (he:=GK) (hm:=GK);refine qp ?_;obtain⟨fi,hfi⟩:∃fi,(iX (wv (b8 ss 10) (iD n) (cB (gu ys) (b8 ss 10) (iD n) os).1 (cB (gu ys) (b8 ss 10) (iD n) os).2.1).1.lines (b8 ss 10)[k]!.es[j]!.r.name 0)=fi:=⟨_,rfl⟩
 have hfl:0<=fi->fi.toNat<(wv (b8 ss 10) (iD n) (cB (gu ys) (b8 ss 10) (iD n) os).1 (cB (gu ys) (b8 ss 10) (iD n) os).2.1).1.lines.length:=λh=>by rw[<-hfi]at h⊢;exact W9 h
 rw[hfi];refine gZ ?_;refine Ff ?_;refine cv (hc:=λhf=>by have hf2:0<=fi:=(by simp at hf;exact hf.1);have hf3:=hfl hf2;exact hK (wv (b8 ss 10) (iD n) (cB (gu ys) (b8 ss 10) (iD n) os).1 (cB (gu ys) (b8 ss 10) (iD n) os).2.1).1.lines[fi.toNat]!.v (b8 ss 10)[k]!.es[j]!.r.v ⟨(hl0.2.1 _ (aq hf3)).1,hzs.1.2⟩) ?_;refine dJ ?_;rw[show D.own 116 2 0 (b8 ss 10).length=D.own 116 2 0 (lj (b8 ss 10) k j (Qr (b8 ss 10)[k]!.es[j]!)).length by rw[BD]];refine bz 116 ?_ (he:=GK) (hm:=GK);refine k9 ?_;refine aF (hc:=hJ (lj (b8 ss 10) k j (Qr (b8 ss 10)[k]!.es[j]!)) (iD n) (cB (gu ys) (b8 ss 10) (iD n) os).1 (wv (b8 ss 10) (iD n) (cB (gu ys) (b8 ss 10) (iD n) os).1 (cB (gu ys) (b8 ss 10) (iD n) os).2.1).1 ⟨hso,hw,hl0⟩) ?_;refine Em ?_;refine aF (hc:=hJ (b8 ss 10) (iD n) (cB (gu ys) (b8 ss 10) (iD n) os).1 (wv (b8 ss 10) (iD n) (cB (gu ys) (b8 ss 10) (iD n) os).1 (cB (gu ys) (b8 ss 10) (iD n) os).2.1).1 ⟨hss,hw,hl0⟩) ?_;refine zc ?_ ?_<;>intro hc4
 .refine cO ?_;have ho2:=hol.2 λhL=>by
   unfold Fh at hL;rw[hfi]at hL;rcases hc4 with(h|h)|h
   .exact h hL.1
   .exact h hL.2.1
   .have:=hL.2.2;rw[h]at this;cases this
  rw[ho2,hkb];refine Em ?_;refine bm (env':=[_,_,_,_,_,⟨_,(.bool _)⟩,_,_,_,_,_,_,_,_,_,_,_,_,_,_,_,_,_,_,_,_,_,_,_,_]) ?_;exact lU
 refine cO ?_;have ho2:=hol.1 (by unfold Fh;rw[hfi];exact⟨hc4.1.1,hc4.1.2,hc4.2⟩);rw[ho2,hkb];refine kB ?_;refine oR (v:=.str ((Eo (b8 ss 10)[k]!.es[j]!.r).name)) ?_;refine rb ?_;refine bm (env':=[_,_,_,_,_,⟨_,(.bool _)⟩,_,_,_,_,_,_,_,_,_,_,_,_,_,_,_,_,_,_,_,_,_,_,_,_]) ?_;refine zr ?_;simp[Eo]
def ME:aj:=bc 93
def w218 (hA:C457 Y)(hB:C458 Y)(hC:C459 Y)(hD:C460 Y):IY (cw Y ME):=λr hp0=>by
 refine zg ?_;refine zf hm (λi=>[.u 3,.i i,.p 0 9,.u 12]) (λi=>[(0,.buf 9 [Rec.D r])]) 4 (λi=>i<=r.needs.length/\lM r=gR (λi=>jG r r.needs[i]!) i r.needs.length) (λi=>r.needs.length-i) ⟨ae,rfl⟩ [(0,0)] ?_;rintro i ⟨hi,hr⟩;refine zg ?_;intro u0;refine dP ?_ ?_<;>intro hc0
 .refine yr ?_;refine aF (hc:=hA r r.needs[i]! (hp0.2.1 _ (aq ae))) ?_;refine zc ?_ ?_<;>intro hc1
  .refine zg ?_;refine fK (bT (aw (D.int .i64) ?_) (aw (D.int .i64) ?_));all_goals
    have hq:en r=(jG r r.needs[i]!,((i:Nat):Int)):=by
     exact Mi (by rw[hr,gT ae hc1]) hc1
    rw[hq];first|done|rfl
  refine gM (i+1) [(0,0)] ?_;rw[hr,kn ae hc1]
 refine fE ?_;have hn0:lM r=(0,0):=by rw[hr,kj ae]
 refine zg ?_;refine zf hm (λi=>[.u 4,.p 0 9,.u 3,.i i,.u 8]) (λi=>[(0,.buf 9 [Rec.D r])]) 10 (λi=>i<=r.bars.length/\uN r=gR (λi=>rT r r.bars[i]!) i r.bars.length) (λi=>r.bars.length-i) ⟨ae,rfl⟩ [(0,0)] ?_;rintro i ⟨hi,hr⟩;refine zg ?_;intro u1;refine dP ?_ ?_<;>intro hc2
 .refine yr ?_;refine aF (hc:=hB r r.bars[i]! (hp0.2.2.1 _ (aq ae))) ?_;refine zc ?_ ?_<;>intro hc3
  .refine zg ?_;refine fK (bT (aw (D.int .i64) ?_) (aw (D.int .i64) ?_));all_goals
    have hq:en r=(rT r r.bars[i]!,((i:Nat):Int)):=by
     exact Db hn0 (by rw[hr,gT ae hc3]) hc3
    rw[hq];first|done|rfl
  refine gM (i+1) [(0,0)] ?_;rw[hr,kn ae hc3]
 refine fE ?_;have hb0:uN r=(0,0):=by rw[hr,kj ae]
 refine cX ?_;refine aF (hc:=hC r.feats hp0.2.2.2) ?_;refine zg ?_;refine aQ (λhc4=>?_) (λhc4=>?_)
 .try simp only[gO]at hc4
  refine zg ?_;refine fK (bT (aw (D.int .i64) ?_) (aw (D.int .i64) ?_));all_goals
   have hq:en r=(11,0):=by
    exact Mj hn0 hb0 hc4
   rw[hq];first|done|rfl
 simp only[cZ]at hc4;refine zg ?_;refine zf hm (λi=>[.u 4,.p 0 9,.u 8,.i i,.u 3]) (λi=>[(0,.buf 9 [Rec.D r])]) 20 (λi=>i<=r.feats.length/\G7 r=gR (λi=>mO r r.feats[i]!.of) i r.feats.length) (λi=>r.feats.length-i) ⟨ae,rfl⟩ [(0,0)] ?_;rintro i ⟨hi,hr⟩;refine zg ?_;intro u2;refine dP ?_ ?_<;>intro hc5
 .refine rb ?_;refine aF (hc:=hD r r.feats[i]!.of (jv.it hp0.2.2.2 _ (aq ae))) ?_;refine zc ?_ ?_<;>intro hc6
  .refine zg ?_;refine fK (bT (aw (D.int .i64) ?_) (aw (D.int .i64) ?_));all_goals
    have hq:en r=(mO r r.feats[i]!.of,((i:Nat):Int)):=by
     exact xK hn0 hb0 hc4 (by rw[hr,gT (f:=(λi=>mO r r.feats[i]!.of)) ae hc6])
    rw[hq];first|done|rfl
  refine gM (i+1) [(0,0)] ?_;rw[hr,kn (f:=(λi=>mO r r.feats[i]!.of)) ae hc6]
 refine zg ?_;refine fK (bT (aw (D.int .i64) ?_) (aw (D.int .i64) ?_));all_goals
  have hq:en r=(0,0):=by
   exact xK hn0 hb0 hc4 (by rw[hr,kj ae])
  rw[hq];first|done|rfl
def MB:aj:=bc 50
def w71 (hA:GN Y)(hB:BT Y)(hC:C218 Y)(hD:C219 Y):zx (cw Y MB):=λr hp0=>by
 refine zg ?_;refine wp_cond (λhc0=>?_) (λhc0=>?_)
 .try simp only[gO]at hc0
  refine zg ?_;refine fK (bT (aw (D.int .i64) ?_) (aw (D.int .i64) ?_));all_goals (have hq:cQ r=(4,0):=(by rw[cQ,ak hc0]);rw[hq];first|done|rfl)
 simp only[cZ]at hc0;refine dJ ?_;refine aF (hc:=hB r.v hp0.1.2) ?_;refine zg ?_;refine wp_cond (λhc1=>?_) (λhc1=>?_)
 .try simp only[gO]at hc1
  refine zg ?_;refine fK (bT (aw (D.int .i64) ?_) (aw (D.int .i64) ?_));all_goals (have hq:cQ r=(5,0):=(by rw[cQ,ah jP,ak hc1]);rw[hq];first|done|rfl)
 simp only[cZ]at hc1;refine zg ?_;intro u0;refine Bo ?_ ?_<;>intro hc2
 .refine zg ?_;refine fK (bT (aw (D.int .i64) ?_) (aw (D.int .i64) ?_));all_goals (have hq:cQ r=(3,0):=(by rw[cQ,ah jP,ah (by simp[hc1]),ak ae]);rw[hq];first|done|rfl)
 refine zg ?_;refine aQ (λhc3=>?_) (λhc3=>?_)
 .try simp only[gO]at hc3
  refine zg ?_;refine fK (bT (aw (D.int .i64) ?_) (aw (D.int .i64) ?_));all_goals
   have hq:cQ r=en r:=by
    exact pG hc0 hc1 ae ae rfl hc3
   rw[hq];first|done|rfl
 simp only[cZ,aT]at hc3;have hpz:en r=(0,0):=Mk hc3;have hgd:FB r:=⟨⟨hc0,hc1⟩,⟨ae,ae⟩,hpz⟩;refine fZ ?_;refine fY ?_;refine aP ?_;refine kW ?_;refine aF (hc:=hD r ⟨hgd,hp0⟩) ?_;refine Dn λu1=>?_;specialize u1 rfl rfl
 refine pe ?_;refine bm (env':=[_,_,_,_,_,_,_,_,_,_,⟨_,(.bool _)⟩]) ?_;refine dP ?_ ?_<;>intro hc4
 .refine zg ?_;refine fK (bT (aw (D.int .i64) ?_) (aw (D.int .i64) ?_));all_goals
   have hq:cQ r=(3,0):=by
    rw[wP hc0 hc1 ae ae hpz,ak ae]
   rw[hq];first|done|rfl
 refine zg ?_;refine fK (bT (aw (D.int .i64) ?_) (aw (D.int .i64) ?_));all_goals
  have hq:cQ r=(0,0):=by
   rw[wP hc0 hc1 ae ae hpz,ah ae]
  rw[hq];first|done|rfl
def qR:aj:=⟨2,12,[⟨2,none⟩],[[.sl 1 [.sl 4 [.a,.a,.sl 14 [.a,.a,.a,.a,.a,.a,.a,.a,.a,.a,.a,.a,.a,.a],.sl 14 [.a,.a,.a,.a,.a,.a,.a,.a,.a,.a,.a,.a,.a,.a]]]]],(sq (rg [gb 8 s0,gb 2 s1,gm (.c (.aL))] [(5,0),(3,1),(2,2)]) (sq (sq (r1 [gk 2 true s3,gn (.build [.str [],.str []] []),gn (.eqA false true [.s,.s] l0 l1)] 4 2) (.cond s4 (sq (r1 [gk 8 true s5,gn (.callM 751 [l0]),gm l1] 2 2) .ret) .skip)) (sq (r1 [gm (.c (.aL))] 10 0) (sq (sq (rg [gk 8 true s5,gk 2 true s3,gn (.callM 752 [l0,l1]),gl l2,gm yy] [(9,2),(7,3),(6,4)]) (.block 0 (.loop (sq (r1 [om s6 s7] 8 0) (sq (gce s8 0) (sq (.block 1 (sq (r1 [ga 10 s9 s6,gk 10 true l0,gb 10 (.c (.agg [.str [],.int .i64 0,.int .i64 0,.int .i64 0,.str [],.str [],.aL,.aL,.aL,.int .i64 0])),gt 10 l2 l1] 11 2) (r1 [gm U4,gf 0 s11,gk 9 true l1,gf 2 s5,gk 3 true l3,gf 1 s3,gd l5,gx 753 [l2,l4,l6] [zzh1,[.a,.a,.a],[.a]],gn (.app 1 l0 l7),gm l8] 10 9))) (r1 [qJ s6 TY,gm l0] 6 1))))))) (sq (r1 [gm U4,gm l0] 2 1) .ret)))))⟩
def w748 (hm:(Y.at 3).bU)(y:cC)(ns:List au)(k:Key)(hA:C751 (Y.at 3))(hB:C752 (Y.at 3))(hC:C753 (Y.at 3))(hp0:qq y/\lz y.e)(hp1:ns.length<=998):du (Y.at 3) qR.body (uA qR (KN y (jz ns k) (.sl 1 ((dc y k).map dS))):Ex->List aY->St->Prop) (fQ qR [cC.D y (.ptr 0 2 0 0),Key.D k]) ⟨3,[(0,.buf 2 [eP 1 2 ns.length]),(1,.buf 1 (ns.map D.str)),(2,.buf 1 (dm y ns))]⟩:=by
 show du _ _ _ [⟨true,cC.D y (.ptr 0 2 0 0)⟩,⟨true,Key.D k⟩,.un,.un,.un,.un,.un,.un,.un,.un,.un,.un] ⟨3,[(0,.buf 2 [eP 1 2 ns.length]),(1,.buf 1 (ns.map D.str)),(2,.buf 1 (dm y ns))]⟩;refine aP ?_;refine qp ?_;refine a7 (Key.D fJ) ?_;refine zc ?_ ?_<;>intro hc0
 .refine dJ ?_;refine dI (nx':=11) (v:=.sl 1 ((eL y.l).map dS)) (m':=[(10,.buf 1 ((ns).map D.str)),(11,.buf 1 (dm y (ns))),(0,.buf 2 [eP 10 11 (ns).length]),(3,.buf 8 [cC.D y (.ptr 0 2 0 0)]),(4,.buf 2 [Key.D k])]) (hc:=λK' hK=>hA y ns hp0.1.m (SX hp0.1.p) _ 0 1 2 _ K' eC eC eC aV ⟨rfl,rfl,rfl⟩ hK) (hn:=aV) ?_;refine zg ?_;refine ei trivial jD (dk ai (?_)) ai ⟨by first|(rw[Sx hc0];done)|(rw[Sx hc0];exact rfl),10,11,⟨ae,ae,ae⟩,by rw[XL hc0];refine⟨?_, ?_, ?_⟩<;>first|exact rfl|(rw[nA];exact rfl)|(rw[ny];exact rfl)⟩;rfl
 refine pA ?_;refine dI (nx':=12) (v:=uG (eO y k)) (m':=[(12,.buf 1 ((eU ns k.n).map D.str)),(13,.buf 1 (dm y (eU ns k.n))),(0,.buf 2 [eP 12 13 (eU ns k.n).length]),(3,.buf 8 [cC.D y (.ptr 0 2 0 0)]),(4,.buf 2 [Key.D k])]) (hc:=λK' hK=>hB y ns k hp0.1.p ae _ 0 1 2 _ K' eC eC eC aV ⟨rfl,rfl,rfl⟩ hK) (hn:=aV) ?_;refine cX ?_;intro u0;refine bm (env':=[_,_,_,_,_,_,⟨_,(.int _ _)⟩,⟨_,(.int _ _)⟩,_,⟨_,(.sl _ _)⟩,_,_]) ?_;refine zf hm (λi=>[.u 3,.p 4 2,.u 1,.p 3 8,.i i,.i ((eO y k).length:Nat),.u 1,.m 10 (eO y k) uz.D,.o 7 1 (((eO y k).take i).flatMap λx=>cM x.r y.e k.f).length,.u 1]) (λi=>[(0,.buf 2 [eP 5 6 (eU ns k.n).length]),(5,.buf 1 ((eU ns k.n).map D.str)),(6,.buf 1 (dm y (eU ns k.n))),(3,.buf 8 [cC.D y (.ptr 0 2 0 0)]),(4,.buf 2 [Key.D k]),(7,.buf 1 ((((eO y k).take i).flatMap λx=>cM x.r y.e k.f).map dS))]) 20 (λi=>i<=(eO y k).length) (λi=>(eO y k).length-i) ae [(12,5),(13,6),(3,3),(4,4)] ?_;intro i hi;have hof:=(xA hp0.1.p k).1;have hrl:=iv (f:=λx:uz=>cM x.r y.e k.f) (B:=385) (l:=(eO y k).take i) λx hx=>(lN ((xA hp0.1.p k).2 x (D5 hx)).1).1
 rw[dF]at hrl;refine zc ?_ ?_<;>intro hc1
 .refine kB ?_;refine cy _ ?_;refine cX ?_;obtain⟨hxp,hxv⟩:=afI hp0.1 (k:=k) (i:=i) ae;have hql:=(lN (e:=y.e) (ft:=k.f) hxp).1;refine pA ?_;refine pd (q:=dS) (xs:=(((eO y k).take i).flatMap λx=>cM x.r y.e k.f)) (ys:=cM (eO y k)[i]!.r y.e k.f) (he:=mW.sl) (hb:=ae) ?_;refine zg ?_;rw[<-nW (f:=λx:uz=>cM x.r y.e k.f) (l:=eO y k) (i:=i) ae];exact iy (i+1) [(3,3),(4,4),(5,5),(6,6),(33,7)]
 refine cX ?_;obtain rfl:i=(eO y k).length:=ae;rw[List.take_length];refine bz 7 ?_;refine zg ?_;refine ei trivial jD (dk ai (?_)) ai ⟨by first|(rw[Sw hc0];done)|(rw[Sw hc0];exact rfl),5,6,⟨ae,ae,ae⟩,by rw[OK hc0];refine⟨?_, ?_, ?_⟩<;>first|exact rfl|(rw[nA];exact rfl)|(rw[ny];exact rfl)⟩;rfl
def P6:aj:=bc 73
def w355 (hm:(Y.at 0).bU):Ja (cw Y P6):=λx s=>by
 exact lU
def P7:aj:=bc 72
def w354 (hA:C355 Y):I9 (cw Y P7):=λl s=>by
 refine zg ?_;intro u0;refine zf hm (λi=>[.m 2 l bA.D,.e (.fn 355 [.ref 2 [bA.D s] 0 0]),.u 1,.i i,.i l.length,.u 1,.m 2 l bA.D,.u 3]) (λi=>[]) 4 (λi=>i<=l.length/\lq l s.name=fR (AZ s.name) (l.drop i) i) (λi=>l.length-i) ⟨ae,rfl⟩ [] ?_;rintro i ⟨hi,hr⟩;refine zc ?_ ?_<;>intro hc0
 .refine pA ?_;refine cy _ ?_;refine fE ?_;refine BH (hc:=λ_=>hA l[i]! s) ?_;refine zc ?_ ?_<;>intro hc1
  .refine zr ?_;rw[hr,kN ae hc1]
  refine gM (i+1) [] ?_;rw[hr,jy ae hc1]
 refine zr ?_;rw[hr,ml ae]
def Z7:aj:=bc 35
def w142 (hA:C353 Y)(hB:C354 Y):tJ (cw Y Z7):=λl hp0=>by
 refine zg ?_;intro u0;refine dP ?_ ?_<;>intro hc0
 .refine zr ?_;unfold dr;rw[bL ae,Bool.false_and]
 refine zg ?_;intro u1;refine zf hm (λi=>[.m 2 l bA.D,.u 2,.i i,.i l.length,.u 1,.m 2 l bA.D,.u 3]) (λi=>[]) 7 (λi=>i<=l.length/\dr l=bW (sL l) i l.length) (λi=>l.length-i) ⟨ae,by unfold dr;rw[br ae,eI]⟩ [] ?_;rintro i ⟨hi,hr⟩;refine zc ?_ ?_<;>intro hc1
 .refine rb ?_;refine bz 11 ?_ (he:=aaW) (hm:=aaW);refine cX ?_;refine aF (hc:=hA (l[i]!) (by first|assumption|omega|exact hp0 _ (aq ae)|exact hp0.1|exact hp0.2)) ?_;refine dJ ?_;refine Si [.ref 2 [bA.D l[i]!] 0 0] ?_;refine zc ?_ ?_<;>intro hc2
  .refine zr ?_;rw[hr,aB ae,Z9 hc2];rfl
  refine gM (i+1) [] ?_;rw[hr,aB ae,U8 ae hc2];rfl
 refine zr ?_;rw[hr,bE ae]
def MH:aj:=bc 98
def w359:tW (cw Y MH):=λl nm=>by
 refine zg ?_;refine zf hm (λi=>[.m 2 l bA.D,.e (.str nm),.u 1,.i i,.u 2]) (λi=>[]) 2 (λi=>i<=l.length/\lq l nm=fR (AZ nm) (l.drop i) i) (λi=>l.length-i) ⟨ae,rfl⟩ [] ?_;rintro i ⟨hi,hr⟩;refine zg ?_;intro u0;refine dP ?_ ?_<;>intro hc0
 .refine zc ?_ ?_<;>intro hc1
  .refine zr ?_;rw[hr,kN ae (by simpa[AZ]using hc1)]
  refine gM (i+1) [] ?_;rw[hr,jy ae (by simpa[AZ]using hc1)]
 refine zr ?_;rw[hr,ml ae]
def UF:aj:=bc 56
def w145 (hA:Ti Y)(hB:C359 Y):tJ (cw Y UF):=λl hp0=>by
 refine zg ?_;intro u0;refine dP ?_ ?_<;>intro hc0
 .refine zr ?_;unfold dr;rw[bL ae,Bool.false_and]
 refine zg ?_;refine zf hm (λi=>[.m 2 l bA.D,.u 2,.i i,.u 2]) (λi=>[]) 5 (λi=>i<=l.length/\dr l=bW (sL l) i l.length) (λi=>l.length-i) ⟨ae,by unfold dr;rw[br ae,eI]⟩ [] ?_;rintro i ⟨hi,hr⟩;refine zg ?_;intro u1;refine dP ?_ ?_<;>intro hc1
 .refine qp ?_;refine aF (hc:=hA ((l)[i]!) (by first|assumption|omega|exact hp0 _ (aq ae)|exact hp0.1|exact hp0.2)) ?_;refine zc ?_ ?_<;>intro hc2
  .refine zr ?_;rw[hr,aB ae,aeB hc2];rfl
  refine gM (i+1) [] ?_;rw[hr,aB ae,Nq hc2];rfl
 refine zr ?_;rw[hr,bE ae]
def P5:aj:=bc 78
def w274 (hm:(Y.at 0).bU)(hA:C353 Y)(hB:C511 Y):tR (cw Y P5):=λs nm v hp0=>by
 refine zc ?_ ?_<;>intro hc0
 .refine zr ?_;unfold fG;rw[ak hc0]
 refine kB ?_;refine aF (hc:=hB (s.es) (nm) (v) (by first|assumption|omega|exact hp0.1|exact⟨λx hx=>(hp0.1 x hx).1.2,hp0.2⟩)) ?_;refine zr ?_;unfold fG;rw[ah (by rw[hc0];simp)]
def Pw:aj:=bc 110
def w695 (hm:(Y.at 0).bU)(hA:Ti Y)(hB:VE Y):tR (cw Y Pw):=λs nm v hp0=>by
 refine zc ?_ ?_<;>intro hc0
 .refine zr ?_;unfold fG;rw[ak hc0]
 refine kB ?_;refine aF (hc:=hB (s.es) (nm) (v) (by first|assumption|omega|exact hp0.1|exact⟨λx hx=>(hp0.1 x hx).1.2,hp0.2⟩)) ?_;refine zr ?_;unfold fG;rw[ah (by rw[hc0];simp)]
def M0:aj:=bc 154
def w830:J9 (cw Y M0):=λod u n hp0=>by
 refine cO ?_;obtain⟨⟨⟨hu0,hu1⟩,hn⟩,hol⟩:=hp0;refine zg ?_;intro u0;refine ra hm (ι:=Unit) (λ_=>[⟨true,.sl 1 ((od).map jS)⟩,⟨true,.int .i64 u⟩,⟨true,.int .i64 (n:Nat)⟩,.un,.un,⟨true,.own 0 1 0 (cR od u).length⟩,.un,.un,.un,.un,.un,.un]) (λ_=>[(0,.buf 1 ((cR od u).map (D.int .i64)))]) 100 (λ_=>True) ?_ ?_
 .refine Bo ?_ ?_<;>intro hc0
  .refine cO ?_;have hou:=aj9 (od:=od) (u:=u) ae;rw[hou]at hol;refine k9 ?_;refine qO (he:=mW.sl) (n:=od[u.toNat]!.length) (hn:=aC) (hb:=ae) ?_;refine zg ?_;rw[hou];exact⟨(),trivial,(aZ.to [(11,0)] ai ai eM (by repeat(first|exact bo.nil|refine bo.AW ai ai dZ ?_|refine bo.NU ai ai ai ?_|refine bo.NV ai ai ai ai ?_|refine bo.nl 11 ai ai ai dZ ?_)))⟩
  refine zg ?_;rw[aj8 (od:=od) (u:=u) ae];exact⟨(),trivial,(aZ.to [] ai ai eM (by repeat(first|exact bo.nil|refine bo.AW ai ai dZ ?_|refine bo.NU ai ai ai ?_|refine bo.NV ai ai ai ai ?_|refine bo.mt ai ai ai ai ?_)))⟩
 .rintro _-
  refine zg ?_;rw[show((n:Nat):Int) -1=((n:Nat):Int) -1-((0:Nat):Int)by omega];refine zf hm (λt=>[.m 1 od jS,.i u,.i n,.u 2,.o 0 1 (cG (cR od u) n t).length,.i (((n:Nat):Int) -1-((t:Nat):Int)),.u 5]) (λt=>[(0,.buf 1 ((cG (cR od u) n t).map (D.int .i64)))]) 103 (λt=>t<=n) (λt=>n-t) ae [(0,0)] ?_;intro t ht;have htl:=Nx (cR od u) n t;refine zc ?_ ?_<;>intro hc1
  .refine zg ?_;refine zf hm (λk=>[.m 1 od jS,.i u,.i n,.u 2,.o 0 1 (cG (cR od u) n t).length,.i (((n:Nat):Int) -1-((t:Nat):Int)),.u 1,.i k,.u 1,.e (.bool (oF (λk=>decide ((cG (cR od u) n t)[k]! =(((n:Nat):Int) -1-((t:Nat):Int)))) 0 k)),.u 1]) (λk=>[(0,.buf 1 ((cG (cR od u) n t).map (D.int .i64)))]) 107 (λk=>k<=(cG (cR od u) n t).length) (λk=>(cG (cR od u) n t).length-k) ae [(0,0)] ?_;intro k hk;refine zg ?_;intro _;refine dP ?_ ?_<;>intro hc2
   .refine pA ?_;refine xQ (q:=D.int .i64) (xs:=(cG (cR od u) n t)) (v:=.int .i64 (cG (cR od u) n t)[k]!) (hi:=λ_=>ae) (hv:=λ_=>ux) ?_;refine zg ?_;rw[Xl ae];exact iy (k+1) [(0,0)]
   refine cX ?_;obtain rfl:k=(cG (cR od u) n t).length:=ae;refine zc ?_ ?_<;>intro hc3
   .refine dJ ?_;refine bg [.int .i64 (((n:Nat):Int) -1-((t:Nat):Int))] ?_;refine cH (q:=D.int .i64) (xs:=(cG (cR od u) n t)) (e:=(((n:Nat):Int) -1-((t:Nat):Int))) (hb:=ae) ?_;refine zg ?_;rw[ald hc3,show(((n:Nat):Int) -1-((t:Nat):Int)) -1=((n:Nat):Int) -1-((t+1:Nat):Int)by omega];exact iy (t+1) [(116,0)]
   refine zg ?_;rw[alc hc3,show(((n:Nat):Int) -1-((t:Nat):Int)) -1=((n:Nat):Int) -1-((t+1:Nat):Int)by omega];exact iy (t+1) [(0,0)]
  refine cX ?_;obtain rfl:t=n:=ae;refine bz 0 ?_;exact lU
def OU:aj:=bc 24
def w111 (hm:(Y.at 0).bU)     :wkk Y OU (.sl 1 (cF.map D.str)) []:=by
 refine fE ?_;refine bg (cF.map D.str) ?_;refine cX ?_;refine bz 1 ?_;exact lU
def LY:aj:=bc 25
def w135 (hm:(Y.at 0).bU)     :wkk Y LY (.sl 1 (kd.map D.str)) []:=by
 refine fE ?_;refine bg (kd.map D.str) ?_;refine cX ?_;refine bz 1 ?_;exact lU
def OY:aj:=bc 91
def w536:JD (cw Y OY):=λl s=>by
 refine zg ?_;refine zf hm (λi=>[.m 1 l D.str,.e (.str s),.u 1,.i i,.u 2]) (λi=>[]) 2 (λi=>i<=l.length/\fR (λt=>decide (t=s)) l 0=fR (λt=>decide (t=s)) (l.drop i) i) (λi=>l.length-i) ⟨ae,rfl⟩ [] ?_;rintro i ⟨hi,hr⟩;refine zg ?_;intro u0;refine dP ?_ ?_<;>intro hc0
 .refine zc ?_ ?_<;>intro hc1
  .refine zr ?_;unfold EX;rw[hr,kN ae lY,ah ae]
  refine gM (i+1) [] ?_;rw[hr,jy ae lY]
 refine zr ?_;unfold EX;rw[hr,ml ae];rfl
def vO:aj:=bc 47
def w297 (hm:(Y.at 1).bU)(hA:GM (Y.at 1))(hB:C111 (Y.at 1))(hC:C536 (Y.at 1))(g:Gs)(own:au)(hp0:0<=g.i/\g.i<=990000):du (Y.at 1) vO.body (GP vO 2 (.str (cS g own).1) (Gs.D (cS g own).2):Ex->List aY->St->Prop) (fQ vO (.ptr 0 2 0 0::[.str own])) ⟨1,[(0,.buf 2 [(Gs.D g)])]⟩:=by
 show du _ _ _ [⟨true,.ptr 0 2 0 0⟩,⟨true,.str own⟩,.un,.un,.un,.un] ⟨1,[(0,.buf 2 [(Gs.D g)])]⟩;refine aP ?_;refine dJ ?_;have r4:=g.eR 4 ae;have r3:=g.aS.eR 3 ae;have rz:=XE cF own;simp only[cF,bD,ca]at rz;refine pA ?_;intro u0;refine di (hc:=hA g 4 ae iK) ?_;refine cK (g.val 4).toNat (hj:=λ_=>ae) (hb:=λ_=>py) ?_;refine dh (v:=.str cF[(g.val 4).toNat]!) (hi:=λ_=>py) ?_;refine zc ?_ ?_<;>intro hc0
 .refine fE ?_;refine di (hc:=hA g.aS 3 ae iK) ?_;refine fE ?_;refine mb (hb:=by first|omega|(simp only[cF]at rz⊢;omega)) ?_;refine cX ?_;intro u1;refine Ai ((g.aS.val 3+1+EX cF own)%4) (hn:=by intro _;decide) (hb:=λ_=>Int.tmod_eq_emod_of_nonneg (by first|omega|(simp only[cF]at rz⊢;omega))) ?_;refine cK ((g.aS.val 3+1+EX cF own)%4).toNat (hj:=λ_=>ae) (hb:=λ_=>py) ?_;refine dh (v:=.str cF[((g.aS.val 3+1+EX cF own)%4).toNat]!) (hi:=λ_=>py) ?_;refine zg ?_;refine jc trivial jD (dk ai (aw D.str ?_)) (by unfold cS;rw[ak hc0];exact rfl) ai ai;unfold cS;rw[ak hc0]
 refine zg ?_;refine jc trivial jD (dk ai (aw D.str ?_)) (by unfold cS;rw[ah hc0];exact rfl) ai ai;unfold cS;rw[ah hc0]
def UN:aj:=bc 130
def w249:IZ (cw Y UN):=λl x hp0=>by
 refine zg ?_;refine zf hm (λi=>[.m 1 l D.str,.e (.int .u8 (x.toNat:Nat)),.u 1,.i i,.u 2,.e (.str (cn [x] (l.take i)))]) (λi=>[]) 3 (λi=>i<=l.length) (λi=>l.length-i) ae [] ?_;intro i hi;refine zg ?_;intro u0;refine dP ?_ ?_<;>intro hc0
 .refine fE ?_;have hj:=FD [x] l (i+1);refine zg ?_;refine aQ (λhc1=>?_) (λhc1=>?_)
  .simp only[aT]at hc1;have ht:=CM [x] l i ae;rw[ak ae]at ht;have htl:=aw List.length ht;simp only[cu,List.length_singleton]at htl;refine dJ ?_;refine bg [.int .u8 _] ?_;refine Zd [x] (he:=λ_=>mW.all ai rfl) (hs:=λ_=>rfl) ?_;refine zg ?_;exact⟨i+1,ae,ae,(aZ.to [] ai ai (by repeat(first|exact fD.nil|refine fD.un ?_|refine fD.eq ai ?_|refine fD.nl (aw D.str (by rw[ht])) ai ?_)) Dj)⟩
  simp only[ct]at hc1;have ht:=CM [x] l i ae;rw[ah ae]at ht;have htl:=aw List.length ht;simp only[cu,ca]at htl;have hi0:i=0:=ae;refine qp ?_;refine Pk (hb:=λ_=>by first|(simp only[cu,List.length_singleton];omega)|(subst hi0;simp only[List.take_zero,cn,ca]at htl⊢;omega)) ?_;refine zg ?_;exact⟨i+1,ae,ae,(aZ.to [] ai ai (by repeat(first|exact fD.nil|refine fD.un ?_|refine fD.eq ai ?_|refine fD.nl (aw D.str (by rw[ht];subst hi0;rfl)) ai ?_)) Dj)⟩
 refine zr ?_;rw[gU ae]
def MW:aj:=bc 211
def w815:J6 (cw Y MW):=λl=>by
 refine zg ?_;refine zfx hm (1:Nat) (λi=>[.m 1 l D.str,.u 1,.i i,.u 2]) (λi=>[]) 2 (λi=>1<=i/\(i<=l.length\/i=1)/\rising l=bW (λi=>Op.bytesLess l[i-1]! l[i]!) i l.length) (λi=>l.length-i) ⟨ae,ae,rfl⟩ [] ?_;rintro i ⟨h1,hi,hr⟩;refine zg ?_;intro u0;refine dP ?_ ?_<;>intro hc0
 .refine kB ?_;refine cK (i-1) ?_;refine zg ?_;refine wp_cond (λhc1=>?_) (λhc1=>?_)
  .simp only[cE]at hc1;refine zr ?_;rw[hr,aB ae,hc1];rfl
  simp only[cZ]at hc1;refine zl (i+1) [] ?_;exact⟨ae,ae,by rw[hr,aB ae,hc1];rfl⟩
 refine zr ?_;rw[hr,bE ae]
def UQ:aj:=bc 156
def w415 (hA:C381 Y)(hB:C627 Y):Jh (cw Y UQ):=λw x hp0=>by
 refine zc ?_ ?_<;>intro hc0
 .refine zr ?_;unfold uF;rw[ak ae]
 refine k9 ?_;obtain⟨j,hwj⟩:∃j:Nat,x.u=(j:Int):=⟨(x.u).toNat,ae⟩
 have hjl:j<w.us.length:=ae;have hju:=hp0.1 _ (aq hjl);have hj16:=hju.1;refine zg ?_;refine zf hm (λi=>[.u 3,.p 0 3,.u 2,.i i,.m 8 (w.us[j]!.cands) eB.D,.u 2,.i ((qI w.us[j]!.cands x.s i))]) (λi=>[(0,.buf 3 [Want.D x])]) 24 (λi=>i<=w.us[j]!.cands.length) (λi=>w.us[j]!.cands.length-i) ae [(1,0)] ?_;intro i hi;have hmr:=O0 w.us[j]!.cands x.s i;have hpb:=FW (k:=i+1) ae;have hpp:=pY (i+1);refine zg ?_;intro u0;refine dP ?_ ?_<;>intro hc1
 .refine rb ?_;refine aF (hc:=hB (x.s) ((w.us[j]!.cands)[i]!.v) (by first|assumption|omega|exact⟨hp0.2,(hju.2 _ (aq ae)).1⟩)) ?_;refine zg ?_;refine wp_cond (λhc2=>?_) (λhc2=>?_)
  .have hst:qI w.us[j]!.cands x.s (i+1)=qI w.us[j]!.cands x.s i+2^(i+1):=by rw[qI,ak hc2]
   refine k9 ?_;refine mb (hb:=by simp only[show(((i:Nat):Int)+1).toNat=i+1 from rfl];omega) ?_;refine zg ?_;rw[show qI w.us[j]!.cands x.s i+2^(((i:Nat):Int)+1).toNat=qI w.us[j]!.cands x.s (i+1)from hst.symm];exact iy (i+1) [(0,0)]
  have hst:qI w.us[j]!.cands x.s (i+1)=qI w.us[j]!.cands x.s i:=by rw[qI,ah (by rw[hc2];exact Bool.false_ne_true)]
  refine zg ?_;rw[<-hst];exact iy (i+1) [(0,0)]
 refine zr ?_;unfold uF;rw[ah ae,show i=w.us[j]!.cands.length by omega,hwj];rfl
def Ia:aj:=bc 128
def w461 (hm:(Y.at 0).bU)(hA:C249 Y):Jr (cw Y Ia):=λw hp0=>by
 show du _ _ _ [⟨_,_⟩,_,_,_,_,_,_] _;have q1:=Ef hp0;have q2:=hp0.1.1.1;have q3:=hp0.1.1.2.len;refine aP ?_;refine zg ?_;intro u0;refine dP ?_ ?_<;>intro hc0
 .refine dJ ?_;refine aF (hc:=hA w.feats 44 ae) ?_;refine zc ?_ ?_<;>intro hc1
  .refine zr ?_;all_goals
    simp only[j0,cq,sQ,cn,rQ,rM,rL];first|rw[ak (show w.feats.length=0 by omega)]|rw[ah (show ¬w.feats.length=0 by omega)]
    simp[hc1]
  refine zr ?_;all_goals
   simp only[j0,cq,sQ,cn,rQ,rM,rL];first|rw[ak (show w.feats.length=0 by omega)]|rw[ah (show ¬w.feats.length=0 by omega)]
   simp[hc1]
 refine zc ?_ ?_<;>intro hc1
 .refine zr ?_;all_goals
   simp only[j0,cq,sQ,cn,rQ,rM,rL];first|rw[ak (show w.feats.length=0 by omega)]|rw[ah (show ¬w.feats.length=0 by omega)]
   simp[hc1]
 refine zr ?_;all_goals
  simp only[j0,cq,sQ,cn,rQ,rM,rL];first|rw[ak (show w.feats.length=0 by omega)]|rw[ah (show ¬w.feats.length=0 by omega)]
  simp[hc1]
def Pu:aj:=bc 129
def w462 (hm:(Y.at 0).bU):Js (cw Y Pu):=λs hp0=>by
 refine zc ?_ ?_<;>intro hc0
 .refine zr ?_;rw[kA,ak hc0]
 refine zr ?_;rw[kA,ah hc0];simp[cq,cn,yo]
def PC:aj:=bc 51
def w344 (hA:GN Y):I7 (cw Y PC):=λl=>by
 refine zg ?_;refine zf hm (λi=>[.m 2 l iN.D,.u 2,.i i,.u 2]) (λi=>[]) 3 (λi=>i<=l.length/\Dc l=gR (Ml l) i l.length) (λi=>l.length-i) ⟨ae,rfl⟩ [] ?_;rintro i ⟨hi,hr⟩;refine zg ?_;intro u0;refine dP ?_ ?_<;>intro hc0
 .refine gZ ?_;refine Ff ?_;refine cK (i-1) (hj:=λhf=>BS) (hb:=λhf=>BS) ?_;refine zg ?_;refine wp_cond (λhc1=>?_) (λhc1=>?_)
  .simp only[gO]at hc1;simp only[gt_iff_lt,Int.natCast_pos]at hc1;have hz:=Mm hc1;refine zg ?_;refine fK (bT (aw (D.int .i64) ?_) (aw (D.int .i64) ?_));all_goals rw[hr,gT ae (by rw[hz];decide),hz]
  simp only[gO]at hc1;simp only[gt_iff_lt,Int.natCast_pos]at hc1;have hz:=Sb (l:=l) (i:=i) (by rintro((h|h)|⟨h,h2⟩)<;>simp_all);refine gM (i+1) [] ?_;rw[hr,kn ae hz]
 refine zg ?_;refine fK (bT (aw (D.int .i64) ?_) (aw (D.int .i64) ?_));all_goals rw[hr,kj ae]
def M1:aj:=bc 106
def w183 (hA:C415 Y):IS (cw Y M1):=λw l hp0=>by
 refine zg ?_;refine zf hm (λi=>[.u 1,.m 3 l Want.D,.u 1,.i i,.u 1,.o 0 2 (eF w.us (l.take i)).length,.p 1 1]) (λi=>[(0,.buf 2 ((eF w.us (l.take i)).map dY.D)),(1,.buf 1 [bP.D w])]) 4 (λi=>i<=l.length) (λi=>l.length-i) ae [(0,1)] ?_;intro i hi;have hwl:=Vi w.us l i;refine zg ?_;intro u0;refine dP ?_ ?_<;>intro hc0
 .refine gZ ?_;refine cO ?_;refine a7 (dY.D ⟨l[i]!.u,uF w.us l[i]!⟩) ?_;refine bg [dY.D ⟨l[i]!.u,uF w.us l[i]!⟩] ?_;refine cH (q:=dY.D) (xs:=(eF w.us (l.take i))) (e:=⟨l[i]!.u,uF w.us l[i]!⟩) (hb:=ae) ?_;refine zg ?_;rw[Vh ae];exact iy (i+1) [(22,0),(1,1)]
 refine cX ?_;obtain rfl:i=l.length:=ae;rw[List.take_length];refine bz 0 ?_;exact lU
def PA:aj:=bc 227
def w1013 (hm:(Y.at 0).bU)(hA:ae5 Y)(hC:ae6 Y):Es (cw Y PA):=λshop ps nm hp0=>by
 refine zc ?_ ?_<;>intro hc0
 .refine zr ?_;rw[show(cJ shop ps nm)=(0,[],(gr shop ps nm).2)from ak hc0];rfl
 refine cX ?_;obtain⟨hB,j,hj,hjl⟩:=pN (by simpa using hc0:(gr shop ps nm).2=0);refine kB ?_;refine aF (hc:=hC shop[j]! nm (hp0 _ (aq hjl))) ?_;refine zr ?_;rw[show(cJ shop ps nm)=((gr shop ps nm).1,kq shop[(gr shop ps nm).1.toNat]! nm,0)from ah (by simpa using hc0),hj,Int.toNat_natCast];rfl
def PY:aj:=bc 19
def w190:IV (cw Y PY):=λl nm=>by
 refine zg ?_;refine zf hm (λi=>[.u 1,.e (.str nm),.u 1,.i i,.p 0 4,.u 2]) (λi=>[(0,.buf 4 [lI.D l])]) 3 (λi=>i<=l.lines.length/\iX l.lines nm 0=iX l.lines nm i) (λi=>l.lines.length-i) ⟨ae,rfl⟩ [(0,0)] ?_;rintro i ⟨hi,hr⟩;refine zg ?_;intro u0;refine dP ?_ ?_<;>intro hc0
 .refine zc ?_ ?_<;>intro hc1
  .refine zr ?_;rw[hr,Lk ae hc1]
  refine gM (i+1) [(0,0)] ?_;rw[hr,Ll ae hc1]
 refine zr ?_;rw[hr,Fz ae]
end Go.Abs
end
