/- A part of the proofs. -/
import Derived.Test.YtkmlboofmolbaaaGreatDoorP09
set_option linter.all false
set_option maxRecDepth 60000
set_option maxHeartbeats 2000000
noncomputable section
namespace Go.Abs
variable {Y:Ctx}(hm:(Y.at 0).cb)
def sN:aj:=⟨3,17,[⟨3,none⟩,⟨4,none⟩],[[.sl 8 [.a,.a,.a,.a,.a,.a,.sl 1 [.sl 3 [.a,.sl 14 [.a,.a],.sl 14 [.a,.a]]],.sl 3 [.a,.sl 14 [.a,.a,.a,.a,.a,.a],.sl 14 [.a,.a,.a,.a,.a,.a]]]],[.a]],(sq (rg [gb 8 s0,gb 2 s2,gm (.c (.aL)),gm cbF] [(7,0),(5,1),(3,2),(4,3)]) (sq (sq (r1 [gk 2 true s5,gn (.build [.str [],.str []] []),gn (.eqA false true [.s,.s] l0 l1)] 6 2) (.cond s6 (sq (rg [gm s1,gk 8 true s7,gn (.callM 751 [l1]),gx 750 [l0,l2] [[.sl 2 [.a,.a]],[.sl 1 [.sl 4 [.a,.a,.sl 14 [.a,.a,.a,.a,.a,.a,.a,.a,.a,.a,.a,.a,.a,.a],.sl 14 [.a,.a,.a,.a,.a,.a,.a,.a,.a,.a,.a,.a,.a,.a]]]]],gn (.build [.int .i64 0,.int .i64 0,.int .i64 0,.str [],.str [],.int .i64 0,.aL,.aL] [(5,1,(.c (.int .i64 (-1)))),(6,1,l3)]),gn (.bsl 8 (.agg [.int .i64 0,.int .i64 0,.int .i64 0,.str [],.str [],.int .i64 0,.aL,.aL]) 1 [(0,l4)]),gm l5,gm cbT] [(3,6),(4,7)]) .ret) .skip)) (sq (r1 [gm (.c (.aL))] 16 0) (sq (sq (rg [gk 8 true s7,gk 2 true s5,gn (.callM 752 [l0,l1]),gl l2,gm yE] [(11,2),(9,3),(8,4)]) (.block 0 (.loop (sq (r1 [ou s8 s9] 10 0) (sq (gce UQ 0) (sq (.block 1 (sq (r1 [ga 10 s11 s8,gk 10 true l0,gb 10 (.c (.agg [.str [],.int .i64 0,.int .i64 0,.int .i64 0,.str [],.str [],.aL,.aL,.aL,.int .i64 0])),gt 10 l2 l1] 12 2) (sq (r2 [gf 0 ZM,gf 1 l0,gk 5 true l1,gf 9 ZM,gd l3,gm s1,gf 0 ZM,gk 9 true l6,gf 2 s7,gk 3 true l8,gf 1 s5,gd l10,gx 753 [l7,l9,l11] [zzh1,[.a,.a,.a],[.a]],gx 750 [l5,l12] [[.sl 2 [.a,.a]],[.sl 1 [.sl 4 [.a,.a,.sl 14 [.a,.a,.a,.a,.a,.a,.a,.a,.a,.a,.a,.a,.a,.a],.sl 14 [.a,.a,.a,.a,.a,.a,.a,.a,.a,.a,.a,.a,.a,.a]]]]],gn (.build [.int .i64 0,.int .i64 0,.int .i64 0,.str [],.str [],.int .i64 0,.aL,.aL] [(0,5,l2),(5,1,l4),(6,1,l13)]),gb 8 (.c (.agg [.int .i64 0,.int .i64 0,.int .i64 0,.str [],.str [],.int .i64 0,.aL,.aL])),gt 8 l15 l14] 14 15) (sq (sq (r1 [gf 1 s5,gd l0,Hs l1 cse] 13 2) (.cond s13 (rg [gm s1,gf 0 ZM,gk 9 true l1,gf 2 s7,gk 3 true l3,gx 754 [l0,l2,l4] [[.sl 2 [.a,.a]],zzh1,[.a,.a,.a]],gf 7 s14,gt 1 l6 l5] []) .skip)) (sq (sq (r1 [gf 6 s14,gd l0,gl l1,X3 l2 (i6 24),gm l3,gff 4 7 s14,gdf 4 l5,BA 4 (.len l6),BA 4 (b_gtr l7 (i6 24)),go1 l4 l8] 15 9) (.cond s15 (sq (rg [gm (.c (.aL)),gm cbF] [(3,0),(4,1)]) .ret) .skip)) (r1 [gm s16,gk 8 true s14,gn (.bsl 8 (.agg [.int .i64 0,.int .i64 0,.int .i64 0,.str [],.str [],.int .i64 0,.aL,.aL]) 1 [(0,l1)]),gn (.app 8 l0 l2),gm l3] 16 4)))))) (r1 [qP s8 TN,gm l0] 8 1))))))) (sq (rg [gm s16,gk 8 true s7,gf 0 s5,gd l2,gn (.callM 755 [l1,l3]),gl l4,ajx l5 (i6 16),gm l0,gm l6] [(3,7),(4,8)]) .ret)))))⟩
def w583 (hm:(Y.at 3).cb)(y:cF)(ns:List au)(all:List Key)(k:Key)(hA:C750 (Y.at 3))(hB:C751 (Y.at 3))(hC:C752 (Y.at 3))(hD:C753 (Y.at 3))(hE:C754 (Y.at 3))(hF:C755 (Y.at 3))(hp0:qy y/\lz y.e)(hp1:ns.length<=990):dx (Y.at 3) sN.body (uG sN (KG y (jy ns k) (r9 y all k)):Ex->List ba->St->Prop) (fU sN [cF.D y (.ptr 0 2 0 0),.sl 2 (all.map Key.D),Key.D k]) ⟨3,[(0,.buf 2 [eO 1 2 ns.length]),(1,.buf 1 (ns.map D.str)),(2,.buf 1 (dp y ns))]⟩:=by
 show dx _ _ _ [⟨true,cF.D y (.ptr 0 2 0 0)⟩,⟨true,.sl 2 (all.map Key.D)⟩,⟨true,Key.D k⟩,.un,.un,.un,.un,.un,.un,.un,.un,.un,.un,.un,.un,.un,.un] ⟨3,[(0,.buf 2 [eO 1 2 ns.length]),(1,.buf 1 (ns.map D.str)),(2,.buf 1 (dp y ns))]⟩;refine aQ ?_;refine qx ?_;refine bg (Key.D fL) ?_;refine zc ?_ ?_<;>intro hc0
 .refine cC ?_;have hrl:=Ih hp0.1.p;refine cC ?_;refine dK (nx':=12) (v:=.sl 1 ((eJ y.l).map dU)) (m':=[(12,.buf 1 ((ns).map D.str)),(13,.buf 1 (dp y (ns))),(0,.buf 2 [eO 12 13 (ns).length]),(3,.buf 8 [cF.D y (.ptr 0 2 0 0)]),(4,.buf 2 [Key.D k])]) (hc:=λK' hK=>hB y ns hp0.1.m (SN hp0.1.p) _ 0 1 2 _ K' eB eB eB aU ⟨rfl,rfl,rfl⟩ hK) (hn:=aU) ?_;refine cN ?_;refine bg (.agg [.int .i64 (⟨zV,-1,dH all (eJ y.l),[]⟩:eA).v.major,.int .i64 (⟨zV,-1,dH all (eJ y.l),[]⟩:eA).v.minor,.int .i64 (⟨zV,-1,dH all (eJ y.l),[]⟩:eA).v.patch,.str (⟨zV,-1,dH all (eJ y.l),[]⟩:eA).v.pre,.str (⟨zV,-1,dH all (eJ y.l),[]⟩:eA).v.build,.int .i64 (⟨zV,-1,dH all (eJ y.l),[]⟩:eA).sh,.sl 1 ((⟨zV,-1,dH all (eJ y.l),[]⟩:eA).needs.map jI),.aL]) ?_;refine bc [.agg [.int .i64 (⟨zV,-1,dH all (eJ y.l),[]⟩:eA).v.major,.int .i64 (⟨zV,-1,dH all (eJ y.l),[]⟩:eA).v.minor,.int .i64 (⟨zV,-1,dH all (eJ y.l),[]⟩:eA).v.patch,.str (⟨zV,-1,dH all (eJ y.l),[]⟩:eA).v.pre,.str (⟨zV,-1,dH all (eJ y.l),[]⟩:eA).v.build,.int .i64 (⟨zV,-1,dH all (eJ y.l),[]⟩:eA).sh,.sl 1 ((⟨zV,-1,dH all (eJ y.l),[]⟩:eA).needs.map jI),.aL]] ?_;refine dI ?_;refine AQ [(0,.buf 2 [eO 12 13 (ns).length]),(12,.buf 1 ((ns).map D.str)),(13,.buf 1 (dp y (ns))),(17,.buf 8 [eA.D (⟨zV,-1,dH all (eJ y.l),[]⟩:eA)])] ((.id ah (.id ah (.id ah (.bf ah (.cons (.ag ((.cons (.refl _) (.cons (.refl _) (.cons (.refl _) (.cons (.refl _) (.cons (.refl _) (.cons (.refl _) (.cons (.refl _) (.cons (.nil 3) .nil)))))))))) .nil) .nil))))) ?_;refine bm 17 ?_;refine zg ?_;refine ei trivial jC (dm ah (?_)) ah ⟨by first|(rw[r9,K1 hc0];done)|(rw[r9,K1 hc0];exact rfl),12,13,⟨ae,ae,ae⟩,by rw[XA hc0];exact tf⟩;rfl
 refine qx ?_;refine dK (nx':=13) (v:=uM (eN y k)) (m':=[(13,.buf 1 ((eV ns k.n).map D.str)),(14,.buf 1 (dp y (eV ns k.n))),(0,.buf 2 [eO 13 14 (eV ns k.n).length]),(3,.buf 8 [cF.D y (.ptr 0 2 0 0)]),(4,.buf 2 [Key.D k])]) (hc:=λK' hK=>hC y ns k hp0.1.p ae _ 0 1 2 _ K' eB eB eB aU ⟨rfl,rfl,rfl⟩ hK) (hn:=aU) ?_;refine cC ?_;intro u0;refine bB (env':=[_,_,_,_,_,_,_,_,⟨_,(.int _ _)⟩,⟨_,(.int _ _)⟩,_,⟨_,(.sl _ _)⟩,_,_,_,_,_]) ?_;refine zf hm (λi=>[.u 1,.m 2 all Key.D,.u 3,.p 4 2,.u 1,.p 3 8,.i i,.i ((eN y k).length:Nat),.u 1,.m 10 (eN y k) uF.D,.u 4,.o 7 8 (((eN y k).take i).map (dV y all k)).length]) (λi=>[(0,.buf 2 [eO 5 6 (eV ns k.n).length]),(5,.buf 1 ((eV ns k.n).map D.str)),(6,.buf 1 (dp y (eV ns k.n))),(3,.buf 8 [cF.D y (.ptr 0 2 0 0)]),(4,.buf 2 [Key.D k]),(7,.buf 8 ((((eN y k).take i).map (dV y all k)).map eA.D))]) 20 (λi=>i<=(eN y k).length/\(((eN y k).take i).map (dV y all k)).any oF=false) (λi=>(eN y k).length-i) ⟨ae,rfl⟩ [(13,5),(14,6),(3,3),(4,4)] ?_;rintro i ⟨hi,hwd⟩;have hof:=(xI hp0.1.p k).1;have hcl:(((eN y k).take i).map (dV y all k)).length<=i:=by rw[aZ,dQ];omega
 refine zc ?_ ?_<;>intro hc1
 .refine dI ?_;obtain⟨hxp,hxv⟩:=afv hp0.1 (k:=k) (i:=i) ae;obtain⟨hql,hq3⟩:=lM (e:=y.e) (ft:=k.f) hxp;refine dI ?_;refine bY _ ?_;refine iw ?_;refine cC ?_;refine bg (.agg [.int .i64 (⟨(eN y k)[i]!.r.v,(eN y k)[i]!.sh,dH all (cQ (eN y k)[i]!.r y.e k.f),[]⟩:eA).v.major,.int .i64 (⟨(eN y k)[i]!.r.v,(eN y k)[i]!.sh,dH all (cQ (eN y k)[i]!.r y.e k.f),[]⟩:eA).v.minor,.int .i64 (⟨(eN y k)[i]!.r.v,(eN y k)[i]!.sh,dH all (cQ (eN y k)[i]!.r y.e k.f),[]⟩:eA).v.patch,.str (⟨(eN y k)[i]!.r.v,(eN y k)[i]!.sh,dH all (cQ (eN y k)[i]!.r y.e k.f),[]⟩:eA).v.pre,.str (⟨(eN y k)[i]!.r.v,(eN y k)[i]!.sh,dH all (cQ (eN y k)[i]!.r y.e k.f),[]⟩:eA).v.build,.int .i64 (⟨(eN y k)[i]!.r.v,(eN y k)[i]!.sh,dH all (cQ (eN y k)[i]!.r y.e k.f),[]⟩:eA).sh,.sl 1 ((⟨(eN y k)[i]!.r.v,(eN y k)[i]!.sh,dH all (cQ (eN y k)[i]!.r y.e k.f),[]⟩:eA).needs.map jI),.aL]) ?_;refine dI ?_;refine AQ [(0,.buf 2 [eO 5 6 (eV ns k.n).length]),(5,.buf 1 ((eV ns k.n).map D.str)),(6,.buf 1 (dp y (eV ns k.n))),(3,.buf 8 [cF.D y (.ptr 0 2 0 0)]),(4,.buf 2 [Key.D k]),(7,.buf 8 ((((eN y k).take i).map (dV y all k)).map eA.D)),(23,.buf 10 [uF.D (eN y k)[i]!]),(40,.buf 8 [eA.D (⟨(eN y k)[i]!.r.v,(eN y k)[i]!.sh,dH all (cQ (eN y k)[i]!.r y.e k.f),[]⟩:eA)])] ((.id ah (.id ah (.id ah (.id ah (.id ah (.id ah (.id ah (.bf ah (.cons (.ag ((.cons (.refl _) (.cons (.refl _) (.cons (.refl _) (.cons (.refl _) (.cons (.refl _) (.cons (.refl _) (.cons (.refl _) (.cons (.nil 3) .nil)))))))))) .nil) .nil))))))))) ?_;refine zc ?_ ?_<;>intro hc2
  .refine qx ?_;refine bY (eA.D (⟨(eN y k)[i]!.r.v,(eN y k)[i]!.sh,dH all (cQ (eN y k)[i]!.r y.e k.f),wR all (eN y k)[i]!.r y.e⟩:eA)) (he:=cZ) ?_;refine cC ?_;rw[show(⟨(eN y k)[i]!.r.v,(eN y k)[i]!.sh,dH all (cQ (eN y k)[i]!.r y.e k.f),wR all (eN y k)[i]!.r y.e⟩:eA)=(dV y all k (eN y k)[i]!)from acd hc2];refine zg ?_;intro u1;refine dN ?_ ?_<;>intro hc3
   .refine kI ?_;refine iu (aY.nz _ [_,_,_,⟨true,.sl 8 []⟩,_,_,_,_,_,_,_,_,_,_,_,_,_] _ _ [(0,.buf 2 [eO 5 6 (eV ns k.n).length]),(5,.buf 1 ((eV ns k.n).map D.str)),(6,.buf 1 (dp y (eV ns k.n)))] ⟨⟨rfl,.refl _⟩,⟨rfl,.refl _⟩,⟨rfl,.refl _⟩,⟨rfl,.nil 8⟩,⟨rfl,.refl _⟩,⟨rfl,.refl _⟩,⟨rfl,.refl _⟩,⟨rfl,.refl _⟩,⟨rfl,.refl _⟩,⟨rfl,.refl _⟩,⟨rfl,.refl _⟩,⟨rfl,.refl _⟩,⟨rfl,.refl _⟩,⟨rfl,.refl _⟩,⟨rfl,.refl _⟩,⟨rfl,.refl _⟩,⟨rfl,.refl _⟩,trivial⟩ (.id ah (.id ah (.id ah .nil)))) ?_;refine zg ?_;refine ei trivial jC (dm ah (?_)) ah ⟨aa5,5,6,⟨ae,ae,ae⟩,aa3⟩;rfl
   refine eX ?_;refine bc [eA.D (dV y all k (eN y k)[i]!)] ?_;refine cL (q:=eA.D) (xs:=(((eN y k).take i).map (dV y all k))) (e:=(dV y all k (eN y k)[i]!)) (hb:=ae) ?_;refine zg ?_;rw[<-map_take (f:=dV y all k) (l:=eN y k) (i:=i) ae];refine gI (i+1) [(3,3),(4,4),(5,5),(6,6),(66,7)] ?_;exact QX ae hwd ae
  refine cC ?_;rw[show(⟨(eN y k)[i]!.r.v,(eN y k)[i]!.sh,dH all (cQ (eN y k)[i]!.r y.e k.f),[]⟩:eA)=(dV y all k (eN y k)[i]!)from acb hc2];refine zg ?_;intro u1;refine dN ?_ ?_<;>intro hc3
  .refine kI ?_;refine iu (aY.nz _ [_,_,_,⟨true,.sl 8 []⟩,_,_,_,_,_,_,_,_,_,_,_,_,_] _ _ [(0,.buf 2 [eO 5 6 (eV ns k.n).length]),(5,.buf 1 ((eV ns k.n).map D.str)),(6,.buf 1 (dp y (eV ns k.n)))] ⟨⟨rfl,.refl _⟩,⟨rfl,.refl _⟩,⟨rfl,.refl _⟩,⟨rfl,.nil 8⟩,⟨rfl,.refl _⟩,⟨rfl,.refl _⟩,⟨rfl,.refl _⟩,⟨rfl,.refl _⟩,⟨rfl,.refl _⟩,⟨rfl,.refl _⟩,⟨rfl,.refl _⟩,⟨rfl,.refl _⟩,⟨rfl,.refl _⟩,⟨rfl,.refl _⟩,⟨rfl,.refl _⟩,⟨rfl,.refl _⟩,⟨rfl,.refl _⟩,trivial⟩ (.id ah (.id ah (.id ah .nil)))) ?_;refine zg ?_;refine ei trivial jC (dm ah (?_)) ah ⟨aa5,5,6,⟨ae,ae,ae⟩,aa3⟩;rfl
  refine eX ?_;refine bc [eA.D (dV y all k (eN y k)[i]!)] ?_;refine cL (q:=eA.D) (xs:=(((eN y k).take i).map (dV y all k))) (e:=(dV y all k (eN y k)[i]!)) (hb:=ae) ?_;refine zg ?_;rw[<-map_take (f:=dV y all k) (l:=eN y k) (i:=i) ae];refine gI (i+1) [(3,3),(4,4),(5,5),(6,6),(58,7)] ?_;exact QX ae hwd ae
 refine cC ?_;obtain rfl:i=(eN y k).length:=ae;rw[List.take_length]at hwd⊢;refine bm 7 ?_ (he:=aaD) (hm:=aaD);refine kI ?_;refine dK (nx':=23) (v:=uM (dL y k.n)) (m':=[(25,.buf 1 ((eV (eV ns k.n) k.n).map D.str)),(26,.buf 1 (dp y (eV (eV ns k.n) k.n))),(0,.buf 2 [eO 25 26 (eV (eV ns k.n) k.n).length]),(3,.buf 8 [cF.D y (.ptr 0 2 0 0)]),(4,.buf 2 [Key.D k])]) (hc:=λK' hK=>hF y (eV ns k.n) k.n hp0.1.p (by have:=KT ns k.n;omega) _ 0 5 6 _ K' eB eB eB aU ⟨rfl,rfl,rfl⟩ hK) (hn:=aU) ?_;refine zg ?_;intro u2;refine ei trivial jC (dm ah (?_)) ah ⟨by first|(rw[r9,KZ hc0 hwd];done)|(rw[r9,KZ hc0 hwd];simp),25,26,⟨ae,ae,ae⟩,by rw[show jy ns k=eV (eV ns k.n) k.n by rw[OC hc0,Th]];exact tf⟩;rw[fj aB,show decide ((dL y k.n).length<=16)=decide (((dL y k.n).length:Int)<=16)from lT.2 ae];rfl
def Lu:aj:=bj 118
def w533:uk (cz Y Lu):=λs b hp0=>by
 refine zg ?_;intro u0;refine gp hm (ι:=(Nat×Nat×List au)) (λp:Nat×Nat×List au=>[⟨true,.str s⟩,⟨true,.int .u8 b⟩,.un,⟨true,.int .i64 (p.1:Nat)⟩,⟨true,.int .i64 (s.length:Nat)⟩,.un,.un,.un,⟨true,.own 0 1 0 p.2.2.length⟩,⟨true,.int .i64 (p.2.1:Nat)⟩]) (λp=>[(0,.buf 1 (p.2.2.map D.str))]) 6 (λp=>p.1<=s.length/\p.2.1<=p.1/\p.2.2.length<=p.1/\bd s b=p.2.2++fE b (s.drop p.1) ((s.take p.1).drop p.2.1)) (λp=>s.length-p.1) (0,0,[]) ⟨aB,aB,aB,rfl⟩ (aY.to [] ah ah aaY (by repeat(first|exact bp.nil|refine bp.mt ah ah ah ah ?_))) ?_;rintro⟨i,fr,acc⟩ ⟨hi,hf,ha,hr⟩;dsimp only at hi hf ha hr⊢;refine zc ?_ ?_<;>intro hc0
 .refine zg ?_;refine wp_cond (λhc1=>?_) (λhc1=>?_)
  .try simp only[gJ]at hc1
   refine kF ?_;refine bc [(.str _)] ?_;refine zg ?_;exact⟨(i+1,i+1,acc++[(s.take i).drop fr]),⟨mL,mL,dR,by rw[hr,Ge ae hc1];simp⟩,mL,(aY.to [(20,0)] ah ah Pa (by refine bp.nl 20 ah ah ah ec ?_;exact bp.nil))⟩
  simp only[cy]at hc1;refine zg ?_;exact⟨(i+1,fr,acc),⟨mL,mL,mL,by rw[hr,Gf ae ae hc1]⟩,mL,(aY.to [(0,0)] ah ah Pa Ki)⟩
 refine qo ?_;refine bc [(.str _)] ?_;refine dI ?_;refine bm 12 ?_;refine zr ?_;have hs:bd s b=acc++[s.drop fr]:=by rw[hr,DZ ae]
 rw[hs];exact rfl
def Bm:aj:=bj 163
def w659:uv (cz Y Bm):=λt=>by
 refine zg ?_;intro u0;refine zf hm (λi=>[.e (.str t),.u 1,.i i,.i t.length,.u 3]) (λi=>[]) 4 (λi=>i<=t.length/\b9 (λi=>bO (at8 t i)) 0 t.length=b9 (λi=>bO (at8 t i)) i t.length) (λi=>t.length-i) ⟨ae,rfl⟩ [] ?_;rintro i ⟨hi,hr⟩;refine zc ?_ ?_<;>intro hc0
 .refine zc ?_ ?_<;>intro hc1
  .refine zr ?_;simp only[cU];rw[hr,aA ae];rcases hc1 with h|h<;>simp[bO]<;>omega
  refine gI (i+1) [] ?_;rw[hr,aA ae];rw[show bO (at8 t i)=true by simp only[bO,aC,aV];omega];rfl
 refine zr ?_;simp only[cU];rw[hr,bI ae];cases t<;>simp
def Ix:aj:=bj 113
def w440 (hm:(Y.at 0).cb):ue (cz Y Ix):=λn=>by
 exact mK
def Iy:aj:=bj 115
def w442 (hA:Vr Y):Je (cz Y Iy):=λs hp0=>by
 refine zg ?_;intro u0 u1;refine zf hm (λi=>[.u 2,.m 1 (bd s 46) D.str,.i i,.i ((bd s 46).length:Nat),.u 1,.m 1 (bd s 46) D.str,.u 7,.e (.bool (decide (((bd s 46).length:Int)<=4)))]) (λi=>[]) 11 (λi=>i<=(bd s 46).length/\sU s false=(decide ((bd s 46).length<=4)&&b9 (λi=>jn false (bd s 46)[i]!) i (bd s 46).length)) (λi=>(bd s 46).length-i) ⟨ae,rfl⟩ [] ?_;rintro i ⟨hi,hr⟩;refine zc ?_ ?_<;>intro hc0
 .refine yx ?_;generalize ht:(bd s 46)[i]! =t;refine zc ?_ ?_<;>intro hc1
  .refine zr ?_;first
    |(rw[hr,bI ae,gG];exact lT.2 ae)
    |(have hb:wx t=false:=by
       first
       |(simp only[wx];rcases hc1 with h|h
         .subst h;simp
         .rw[bN (by omega:¬t.length<=8)];simp)
       |(have hz:nr (at8 t j)=false:=by
          rcases hcw with⟨_,h,_⟩|⟨_,h⟩<;>(simp only[nr,jU,bO,eF,er,cy];omega)
         rw[hj,aA hnx,hz];rfl)
      rw[hr,aA ae,show jn false (bd s 46)[i]! =false from(by simp only[jn,ht,hb,Bool.false_and])];simp)
  refine zg ?_;have hT:wx t=b9 (λi=>nr (at8 t i)) 0 t.length:=by
   have:=List.length_pos_iff.2 hc1.1;simp only[wx];rw[bA ae,bA ae];rfl
  refine zfL hm (λj=>[.u 2,.m 1 (bd s 46) D.str,.i i,.i ((bd s 46).length:Nat),.u 1,.m 1 (bd s 46) D.str,.u 2,.e (.it 23),.u 4,.e (.bool (decide (((bd s 46).length:Int)<=4)))]) (λj=>[(23,.iter t j)]) 24 (λj=>j<=t.length/\wx t=b9 (λi=>nr (at8 t i)) j t.length) (λj=>t.length-j) ⟨ae,hT⟩ [(23,23)] ?_;rintro j ⟨hj0,hj⟩;refine zg ?_;by_cases hnx:j<t.length
  .obtain⟨c,w,hdec,hw,hcw⟩:=xa t j hnx;refine HQ c w (hp:=hnx) (hc:=hdec) ?_;refine zg ?_;refine aR (t:=true) (λ_=>?_) (λh=>cj);refine gr ?_;refine lS ?_ hm;refine aQ ?_;refine kY (.int _ _) ?_;refine bK ?_;refine bB (env':=[_,_,_,_,_,_,_,_,_,_,_,_,⟨_,(.int _ _)⟩,_,_]) ?_;refine aQ ?_;refine bK ?_;refine zk ?_;refine bK ?_;refine bK ?_;refine pn ?_;refine Mn ?_;refine bK ?_;refine bK ?_;refine zk ?_;refine bK ?_;refine bK ?_;refine pn ?_;refine Mn ?_;refine u7 ?_;refine bK ?_;refine bK ?_;refine po ?_;refine u7 ?_;refine bB (env':=[_,_,_,_,_,_,_,_,_,_,_,_,_,⟨_,(.bool _)⟩,_]) ?_;refine Bv ?_ ?_<;>intro hc3
   .refine zg ?_;refine rrrb ?_;first
     |(rw[hr,bI ae,gG];exact lT.2 ae)
     |(have hb:wx t=false:=by
        first
        |(simp only[wx];rcases hc1 with h|h
          .subst h;simp
          .rw[bN (by omega:¬t.length<=8)];simp)
        |(have hz:nr (at8 t j)=false:=by
           rcases hcw with⟨_,h,_⟩|⟨_,h⟩<;>(simp only[nr,jU,bO,eF,er,cy];omega)
          rw[hj,aA hnx,hz];rfl)
       rw[hr,aA ae,show jn false (bd s 46)[i]! =false from(by simp only[jn,ht,hb,Bool.false_and])];simp)
   refine dI ?_;obtain⟨rfl,hat,-⟩:w=1/\(c:Int)=at8 t j/\c<128:=by
    rcases hcw with h|h
    .exact h
    .omega
   have hz:nr (at8 t j)=true:=by
    simp only[nr,jU,bO,dF,aC,aV];omega
   refine gI (j+1) [(23,23)] ?_;rw[hj,aA hnx,hz];rfl
  .refine HP (hp:=hnx) ?_;refine zg ?_;refine aR (t:=false) (λh=>cj) (λ_=>?_);refine gI (i+1) [] ?_;rw[hr,aA ae];rw[show jn false (bd s 46)[i]! =true from(by simp only[jn,Bool.false_and,Bool.not_false,gG];rw[ht,hj,bI ae])];rfl
 refine zr ?_;first
  |(rw[hr,bI ae,gG];exact lT.2 ae)
  |(have hb:wx t=false:=by
     first
     |(simp only[wx];rcases hc1 with h|h
       .subst h;simp
       .rw[bN (by omega:¬t.length<=8)];simp)
     |(have hz:nr (at8 t j)=false:=by
        rcases hcw with⟨_,h,_⟩|⟨_,h⟩<;>(simp only[nr,jU,bO,eF,er,cy];omega)
       rw[hj,aA hnx,hz];rfl)
    rw[hr,aA ae,show jn false (bd s 46)[i]! =false from(by simp only[jn,ht,hb,Bool.false_and])];simp)
def Nz:aj:=bj 114
def w441 (hA:C442 Y)(hB:Vr Y)(hC:C658 Y)(hD:C659 Y):Jd (cz Y Nz):=λs hp0=>by
 refine zg ?_;refine aR (λhc0=>?_) (λhc0=>?_)
 .simp only[cG]at hc0;refine zr ?_;symm;simp only[sU]at hc0⊢;rw[er]at hc0⊢;rcases hc0 with h|h
  .exact Or.inl h
  .right;rw[Bool.eq_false_iff]at h⊢;intro h2;apply h;rw[bD]at h2⊢;intro j a b;have:=h2 j a b;simp only[jn,aC]at this⊢;exact⟨this.1,rfl⟩
 simp only[dq]at hc0;refine zg ?_;intro u0;have hT:=hc0;simp only[sU,aC,aV]at hT;obtain⟨hT4,hTa⟩:=hT;rw[bD]at hTa;have hP:sU s true=b9 (λi=>jn true (bd s 46)[i]!) 0 (bd s 46).length:=by
  simp only[sU];rw[bA hT4];rfl
 refine zf hm (λi=>[.u 3,.i i,.i ((bd s 46).length:Nat),.u 1,.m 1 (bd s 46) D.str,.u 3]) (λi=>[]) 8 (λi=>i<=(bd s 46).length/\sU s true=b9 (λi=>jn true (bd s 46)[i]!) i (bd s 46).length) (λi=>(bd s 46).length-i) ⟨ae,hP⟩ [] ?_;rintro i ⟨hi,hr⟩;refine zc ?_ ?_<;>intro hc1
 .refine zg ?_;refine wp_cond (λhc2=>?_) (λhc2=>?_)
  .skip
   refine zr ?_;have hz:jn true (bd s 46)[i]! =false:=by
    simp only[jn];revert hc2;generalize wx (bd s 46)[i]! =c;generalize cU (bd s 46)[i]! =a;generalize ox (bd s 46)[i]! =b;cases a<;>cases b<;>cases c<;>simp
   rw[hr,aA ae,hz];rfl
  skip
  refine zg ?_;have hz:jn true (bd s 46)[i]! =true:=by
   have:=hTa i ae ae;simp only[jn,Bool.false_and,Bool.not_false,gG]at this;simp only[jn,this];revert hc2;generalize cU (bd s 46)[i]! =a;generalize ox (bd s 46)[i]! =b;cases a<;>cases b<;>simp
  refine gI (i+1) [] ?_;rw[hr,aA ae,hz];rfl
 refine zr ?_;rw[hr,bI ae]
def Ny:aj:=bj 68
def w209 (hm:(Y.at 0).cb)(hA:C440 Y)(hB:C441 Y)(hC:C442 Y):tS (cz Y Ny):=λv hp0=>by
 refine En ?_;refine uQ ?_;refine cB (hc:=λhf=>hB v.pre hp0.1) ?_;refine yx ?_;refine cB (hc:=λhf=>hC v.build hp0.2) ?_;exact mK
def Hb:aj:=bj 277
def w665 (hm:(Y.at 0).cb)(hA:C336 Y):oZ (cz Y Hb):=λn hp0=>by
 exact mK
def Fa:aj:=bj 241
def w451 (hm:(Y.at 0).cb)(hA:AU Y)(hB:C665 Y):ug (cz Y Fa):=λv hp0=>by
 show dx _ _ _ [⟨_,_⟩,_,_,_,_,_,_] _;obtain⟨hs1,hs2⟩:=hp0;have hp0:v.sm:=⟨hs1,hs2⟩;refine aQ ?_;refine zg ?_;refine aR (λhc0=>?_) (λhc0=>?_)
 .simp only[cG]at hc0;refine zr ?_;simp[uO,hc0]
 simp only[dq]at hc0;refine cC ?_;have hv:=hc0;simp only[gQ,aC]at hv;obtain⟨⟨⟨⟨hv1,hv2⟩,hv3⟩,_⟩,_⟩:=hv;have hq1:=hv1;have hq2:=hv2;have hq3:=hv3;simp only[Cs,aC,aV]at hq1 hq2 hq3;have hl1:=ij 4 v.major.toNat ae ae;have hl2:=ij 4 v.minor.toNat ae ae;have hl3:=ij 4 v.patch.toNat ae ae;refine zc ?_ ?_<;>intro hc1
 .refine zc ?_ ?_<;>intro hc2
  .refine zr ?_;simp[uO,E9,hc0,hc1,hc2]
  refine zr ?_;simp[uO,E9,hc0,hc1,hc2]
 refine zc ?_ ?_<;>intro hc2
 .refine zr ?_;simp[uO,E9,hc0,hc1,hc2]
 refine zr ?_;simp[uO,E9,hc0,hc1,hc2]
def qN:aj:=bj 205
def w463 (hm:(Y.at 0).cb):Jm (cz Y qN):=λh k hp0=>by
 show dx _ _ _ [⟨_,_⟩,⟨_,_⟩,_,_] _;subst hp0;refine aQ ?_;refine eX ?_;refine qb 13 (hb:=λ_=>by rw[IntKind.wrap_u64];rfl) ?_;refine Dl 13 (hb:=λ_=>by rw[IntKind.wrap_u64];rfl) ?_;refine kI ?_;refine FY (ZU h 13) (hb:=λ_=>by rw[show min (Int.toNat (13:Int)) (IntKind.bits .u64)=13 by simp[IntKind.bits]];rfl) ?_;refine cC ?_;refine HR 51 (hb:=λ_=>by rw[IntKind.wrap_u64];rfl) ?_;refine R8 (Ga h 51) (hb:=λ_=>by rw[show min (Int.toNat (51:Int)) (IntKind.bits .u64)=51 by simp[IntKind.bits]];rfl) ?_;refine afz (rot h 13) (hb:=λ_=>rfl) ?_;refine zg ?_;refine fM (aw (D.int .u64) ?_);rfl
def Oh:aj:=bj 167
def w220 (hA:C463 Y):tW (cz Y Oh):=λs=>by
 refine zg ?_;intro u0;refine zf hm (λi=>[.u 2,.i i,.i s.length,.u 1,.e (.sl 1 (s.map λb=>D.int .u8 b.toNat)),.e (.int .u64 (zy (s.take i))),.u 1]) (λi=>[]) 5 (λi=>i<=s.length) (λi=>s.length-i) ae [] ?_;intro i hi;refine zc ?_ ?_<;>intro hc0
 .refine eX ?_;refine dd (v:=.int .u8 (at8 s i)) (hv:=λ_=>ld8 s i) ?_;refine kI ?_;refine qb (at8 s i) (hb:=λ_=>by have:=GP s i;rw[IntKind.wrap_u64];omega) ?_;refine HL (SM (zy (s.take i)) (at8 s i)) (hb:=λ_=>rfl) ?_;refine cN ?_;refine Y9 (zy (s.take (i+1))) (hb:=λ_=>by rw[Gj s i ae];rfl) ?_;exact iC (i+1) []
 refine dI ?_;have ht:s.take i=s:=fj ae;rw[ht];refine cC ?_;refine R8 (Ga (zy s) 29) (hb:=λ_=>rfl) ?_;refine HL (sumL s) (hb:=λ_=>rfl) ?_;refine zg ?_;refine fM (aw (D.int .u64) ?_);rfl
def qM:aj:=bj 48
def w298 (hm:(Y.at 1).cb)(hA:GH (Y.at 1))(g:Gs)(l:List bw)(hp0:0<=g.i/\g.i<=980000)(hp1:(∀n∈l,n.sm)/\l.length<=1000):dx (Y.at 1) qM.body (GL qM 2 (cn.D (m7 g l).1) (Gs.D (m7 g l).2):Ex->List ba->St->Prop) (fU qM (.ptr 0 2 0 0::[.sl 3 (l.map bw.D)])) ⟨1,[(0,.buf 2 [(Gs.D g)])]⟩:=by
 show dx _ _ _ [⟨true,.ptr 0 2 0 0⟩,⟨true,.sl 3 (l.map bw.D)⟩,.un,.un,.un,.un,.un,.un,.un,.un] ⟨1,[(0,.buf 2 [(Gs.D g)])]⟩;refine aQ ?_;refine dI ?_;refine bT [.str [102],.aL] ?_;refine zg ?_;refine gp hm (ι:=Nat) (λi=>[⟨true,.ptr 0 2 0 0⟩,⟨true,.sl 3 ((l).map bw.D)⟩,⟨true,.ptr 1 2 0 0⟩,⟨true,.int .i64 (i:Nat)⟩,.un,⟨true,.ptr 2 2 0 0⟩,.un,.un,.un,.un]) (λi=>[(0,.buf 2 [Gs.D g]),(1,.buf 2 [.agg [.str [],.aL]]),(2,.buf 2 [.agg [.str [102],.own 3 1 0 (qZ l i).length]]),(3,.buf 1 ((qZ l i).map D.str))]) 6 (λi=>i<=l.length) (λi=>l.length-i) 0 ae (aY.to [(1,1),(3,2)] ah ah eL (by refine bp.nl 0 ah ah ah ec ?_;refine bp.nl 1 ah ah ah ec ?_;refine bp.ni 3 ah ah (by exact⟨_,_,rfl,⟨_,rfl,⟨_,_,rfl,⟨rfl,rfl⟩,⟨_,_,rfl,Or.inr ⟨_,_,_,rfl⟩,rfl⟩⟩⟩,rfl⟩) ?_;refine bp.mt ah ah ah ah ?_;exact bp.nil)) ?_;intro i hi;have hrl:=M0 l i;refine zg ?_;intro u0;refine dN ?_ ?_<;>intro hc0
 .refine zc ?_ ?_<;>intro hc1
  .refine cN ?_;refine bc [.str qoW] ?_;refine cN ?_;refine bY (.agg [.str [102],.own 22 1 0 1]) (he:=cZ) ?_;refine zg ?_;have hro:=akK ae hc1;exact⟨i+1,ae,ae,(aY.to [(1,1),(2,2),(22,3)] ah ah eL (by refine bp.nl 0 ah ah ah ec ?_;refine bp.nl 1 ah ah ah ec ?_;refine bp.eq 2 ah ah (by rw[hro];exact rfl) ?_;refine bp.nl 22 ah ah (by rw[hro];exact rfl) ah ?_;exact bp.nil))⟩
  refine zg ?_;rw[akJ ae hc1];exact iC (i+1) [(1,1),(2,2),(3,3)]
 refine dI ?_;obtain rfl:i=l.length:=ae;refine zg ?_;refine zf hm (λi=>[.p 0 2,.m 3 l bw.D,.p 1 2,.u 2,.p 2 2,.u 1,.i i,.u 2]) (λi=>[(0,.buf 2 [Gs.D (gS l g i)]),(1,.buf 2 [.agg [.str [],.aL]]),(2,.buf 2 [.agg [.str [102],.own 3 1 0 (qZ l l.length).length]]),(3,.buf 1 ((qZ l l.length).map D.str))]) 11 (λi=>i<=l.length/\iA l g=iA (l.drop i) (gS l g i)) (λi=>l.length-i) ⟨ae,rfl⟩ [(1,1),(2,2),(3,3)] ?_;rintro i ⟨hi,hr⟩;have hgs:=afb l g i;have hrl:=M0 l l.length;refine zg ?_;intro u1;refine dN ?_ ?_<;>intro hc2
 .refine dI ?_;by_cases hl1:l[i]!.any.length=1
  .refine kF ?_;intro u2;refine Pd ?_;rw[bA (show((l[i]!.any.length:Nat):Int)=1 by omega)];refine cC ?_;refine Y2 (hc:=hA (gS l g i) 3 ae iK) ?_;refine zc ?_ ?_<;>intro hc3
   .refine cN ?_;have hnm:=((hp1.1 _ (aq (show i<l.length by omega))).1 _ (aq (show 0<l[i]!.any.length by omega))).1.1;refine qo ?_;refine cM 0 (hj:=λ_=>rfl) (hb:=λ_=>ae) ?_;refine dI ?_;refine bc [.str (l[i]!.any[0]!.name++[47,102])] ?_;refine cL (q:=D.str) (xs:=(qZ l l.length)) (e:=(l[i]!.any[0]!.name++[47,102])) (hb:=ae) ?_;refine cN ?_;refine bY (.agg [.str [102],.own 39 1 0 ((qZ l l.length)++[(l[i]!.any[0]!.name++[47,102])]).length]) (he:=cZ) ?_;refine qx ?_;refine bm 39 ?_;refine zg ?_;refine ja trivial Dk (dm ah (?_)) (by rw[WO hr ae hl1 hc3];exact rfl) ah ah;rw[WO hr ae hl1 hc3];rfl
   refine zg ?_;rw[show(gS l g i).aS=(gS l g (i+1))from by rw[gS,ak hl1]];refine gI (i+1) [(1,1),(2,2),(3,3)] ?_;rw[hr,aj5 ae hl1 hc3]
  .refine kF ?_;intro u2;refine Pd ?_;rw[bN (show ¬((l[i]!.any.length:Nat):Int)=1 by omega)];refine cC ?_;refine akl ?_;refine r_off (.bool false) ?_;refine zg ?_;refine wp_cond (t:=false) (λh=>cj) (λ_=>?_);refine zg ?_;rw[show(gS l g i)=(gS l g (i+1))from by rw[gS,ai hl1]];refine gI (i+1) [(1,1),(2,2),(3,3)] ?_;rw[hr,aj6 ae hl1]
 refine kF ?_;refine bm 3 ?_;refine zg ?_;refine ja trivial Dk (dm ah (?_)) (by rw[WQ hr ae];exact rfl) ah ah;rw[WQ hr ae];rfl
def MS:aj:=bj 104
def w693 (hA:C184 Y)(hB:C829 Y):JM (cz Y MS):=λm al c hp0=>by
 refine cN ?_;obtain⟨⟨hmp,hcp⟩,rfl⟩:=hp0;have hfp:=Lg hmp hcp;have hml:=hmp.1;have hcl:=hcp.1;refine qo ?_;refine cM 0 (hj:=λ_=>ae) (hb:=λ_=>ae) ?_;refine zc ?_ ?_<;>intro hc0
 .refine zr ?_;unfold ef;rw[ak hc0];rfl
 refine zg ?_;refine zf hm (λu=>[.u 1,.m 1 ([]:List Int) (D.int .i64),.m 1 c (D.int .i64),.u 3,.i u,.u 5,.p 0 3,.u 4]) (λu=>[(0,.buf 3 [kn.D m])]) 8 (λu=>u<=c.length) (λu=>c.length-u) ae [(0,0)] ?_;intro u hu;refine zg ?_;intro u0;refine dN ?_ ?_<;>intro hc1
 .refine zg ?_;refine wp_cond (λhc2=>?_) (λhc2=>?_)
  ·

   exfalso;revert hc2;cases decide (c[u]! <0)<;>decide
  try simp only[gJ]at hc2
  exact iC (u+1) [(0,0)]
 refine zg ?_;refine zf hm (λu=>[.u 1,.m 1 ([]:List Int) (D.int .i64),.m 1 c (D.int .i64),.u 6,.i u,.u 2,.p 0 3,.u 4]) (λu=>[(0,.buf 3 [kn.D m])]) 13 (λu=>u<=c.length/\na m c=mP (xM m c) (c.length-u) u) (λu=>c.length-u) ⟨ae,rfl⟩ [(0,0)] ?_;rintro u ⟨hu,hr⟩;refine zg ?_;intro u1;refine dN ?_ ?_<;>intro hc3
 .refine zg ?_;refine aR (λhc4=>?_) (λhc4=>?_)
  .try simp only[gJ]at hc4
   refine gI (u+1) [(0,0)] ?_;rw[hr,GQ ae (by unfold xM;rw[bA hc4];rfl)]
  simp only[cy]at hc4;obtain⟨v,hv⟩:∃v:Nat,c[u]! =(v:Int):=⟨c[u]!.toNat,ae⟩
  have hfu:=hfp.2 u ae ae;rw[hv,Int.toNat_natCast]at hfu;have hro:Ii m c u=mP (λk=>kr c m.needs[u]![v]![k]!) m.needs[u]![v]!.length 0:=by unfold Ii;rw[hv,Int.toNat_natCast]
  have hou:xM m c u=decide (Ii m c u=m.needs[u]![v]!.length):=by unfold xM;rw[hv,Int.toNat_natCast,bN (show ¬((v:Nat):Int)<0 by omega),Bool.false_or]
  refine kF ?_;refine dd (v:=.sl 1 (((m.needs)[u]!).map oN)) (hi:=λhf=>cv) ?_;refine kI ?_;refine dd (v:=.sl 1 (m.needs[u]![v]!.map Iq)) (hi:=λ_=>ae) ?_;refine zg ?_;refine zfL hm (λk=>[.u 1,.m 1 ([]:List Int) (D.int .i64),.m 1 c (D.int .i64),.u 6,.i u,.u 2,.p 0 3,.i k,.m 1 (m.needs[u]![v]!) Iq,.u 2]) (λk=>[(0,.buf 3 [kn.D m])]) 35 (λk=>k<=m.needs[u]![v]!.length/\Ii m c u=mP (λk=>kr c m.needs[u]![v]![k]!) (m.needs[u]![v]!.length-k) k) (λk=>m.needs[u]![v]!.length-k) ⟨ae,by rw[hro];rfl⟩ [(0,0)] ?_;rintro k ⟨hk,hr2⟩;refine zg ?_;intro u2;refine dN ?_ ?_<;>intro hc5
  .refine qo ?_;refine dd (v:=.sl 2 (((m.needs[u]![v]!)[k]!).map ea.D)) (hi:=λhf=>cv) ?_;refine zg ?_;refine wp_cond (λhc6=>?_) (λhc6=>?_)
   .have hk6:Ii m c u=k:=hr2.trans (QN (f:=λk=>kr c m.needs[u]![v]![k]!) ae (by simpa using hc6));refine zr ?_;have h5:na m c=u:=by rw[hr,QN ae (by rw[hou,hk6];exact bN ae)]
    unfold ef;rw[ai hc0,ak ae,h5,hk6];rfl
   try simp only[gJ]at hc6
   refine gI (k+1) [(0,0)] ?_;exact hr2.trans (GQ (f:=λk=>kr c m.needs[u]![v]![k]!) ae hc6)
  refine gI (u+1) [(0,0)] ?_;rw[hr,GQ ae (by rw[hou,hr2,KX ae];exact bA ae)]
 refine zr ?_;have h5:na m c=u:=by rw[hr,KX ae]
 unfold ef;rw[ai hc0,ai ae];rfl
def LD:aj:=bj 6
def w89 (hm:(Y.at 0).cb)(hA:C29 Y)(hB:C264 Y)(hC:C265 Y)    :wkk Y LD (.bool true) []:=by
 refine eX ?_;refine bT [.int .i64 0,.int .i64 0,.int .i64 0,.str [],.str [],.int .i64 (-1),.aL,.aL] ?_;refine bc [.agg [.int .i64 0,.int .i64 0,.int .i64 0,.str [],.str [],.int .i64 (-1),.aL,.aL]] ?_;refine bT [.str [],.str [],.own 2 8 0 1] ?_;refine bc [.agg [.str [],.str [],.own 2 8 0 1]] ?_;refine bT [.own 4 3 0 1] ?_;refine dI ?_;refine AQ [(2,.buf 8 [eA.D ⟨zV,-1,[],[]⟩]),(4,.buf 3 [.agg [.str [],.str [],.own 2 8 0 1]]),(6,.buf 1 [.agg [.own 4 3 0 1]])] (.bf ah (.cons (.ag (.cons (.refl _) (.cons (.refl _) (.cons (.refl _) (.cons (.refl _) (.cons (.refl _) (.cons (.refl _) (.cons (.nil 1) (.cons (.nil 3) .nil))))))))) .nil) (.id ah (.id ah .nil))) ?_;refine bm 2 ?_;refine bm 4 ?_;refine cN ?_;refine bT [.str [],.str [],.str []] ?_;refine qc (v:=bR.D QK) ?_;refine bT [.str [],.str [],.str [],.aL] ?_;refine aG (hc:=hB [] eZ QK ⟨eZ,[]⟩ (QL ⟨aU,(λ_ h=>cj),(λi=>by unfold Env.at;split<;>decide)⟩)) ?_;refine qx ?_;rw[awk_1];refine cN ?_;refine bT [.str [],.str [],.str []] ?_;refine qc (v:=bR.D QK) ?_;refine bT [.str [],.str [],.str [],.aL] ?_;refine aG (hc:=hC [] eZ QK ⟨eZ,[]⟩ (QL ⟨aU,(λ_ h=>cj),(λi=>by unfold Env.at;split<;>decide)⟩)) ?_;refine kF ?_;rw[awk_2];refine cN ?_;refine bT [.str [],.str [],.str []] ?_;refine qc (v:=bR.D QK) ?_;refine cN ?_;refine bT [.str (bV 1).e0,.str (bV 1).e1,.str (bV 1).e2,.aL] ?_;refine aG (hc:=hC [] eZ QK ⟨bV 1,[]⟩ (QL ⟨aU,(λ_ h=>cj),aix 1⟩)) ?_;refine kF ?_;rw[awk_3];refine cN ?_;refine bT [.str [],.str [],.str []] ?_;refine qc (v:=bR.D QK) ?_;refine bT [.str [97,110,116],.int .i64 0,.int .i64 0,.int .i64 0,.str [],.str [],.str [],.int .u64 0,.aL] ?_;refine bc [.agg [.str [97,110,116],.int .i64 0,.int .i64 0,.int .i64 0,.str [],.str [],.str [],.int .u64 0,.aL]] ?_;refine bT [.str [],.str [],.str [],.own 41 9 0 1] ?_;refine aG (hc:=hC [] eZ QK ⟨eZ,[antL]⟩ (QL ⟨aU,(λx hx=>by rw[aD.1 hx];exact⟨⟨aU,aU⟩,aU,aU,aU,λ_ h=>cj⟩),(λi=>by unfold Env.at;split<;>decide)⟩)) (hp:=λ_=>by repeat' first|exact trivial|exact rfl|refine And.intro ?_ ?_|(intro e he;obtain rfl:=aD.1 he)|simp) ?_;refine kF ?_;rw[awk_4];refine kI ?_;refine zzn ?_;refine eX ?_;refine cM 0 (hj:=λ_=>rfl) (hb:=λ_=>aU) ?_;refine dd (v:=.int .i64 0) (hi:=λ_=>aU) ?_;refine iw ?_;refine kI ?_;refine bB (env':=[⟨_,(.bool _)⟩,_,_,_,_,_,_,_]) ?_;refine zr ?_;decide
def Dt:aj:=bj 148
def w752 (hm:(Y.at 3).cb)(y:cF)(ns:List au)(k:Key)(hA:C755 (Y.at 3))(hB:C816 (Y.at 3))(hp0:pG y)(hp1:ns.length<=999):dx (Y.at 3) Dt.body (uG Dt (KG y (eV ns k.n) (uM (eN y k))):Ex->List ba->St->Prop) (fU Dt [cF.D y (.ptr 0 2 0 0),Key.D k]) ⟨3,[(0,.buf 2 [eO 1 2 ns.length]),(1,.buf 1 (ns.map D.str)),(2,.buf 1 (dp y ns))]⟩:=by
 show dx _ _ _ [⟨true,cF.D y (.ptr 0 2 0 0)⟩,⟨true,Key.D k⟩,.un,.un,.un,.un,.un,.un,.un,.un] ⟨3,[(0,.buf 2 [eO 1 2 ns.length]),(1,.buf 1 (ns.map D.str)),(2,.buf 1 (dp y ns))]⟩;refine aQ ?_;refine Fb ?_;refine dK (nx':=9) (v:=uM (dL y k.n)) (m':=[(10,.buf 1 ((eV ns k.n).map D.str)),(11,.buf 1 (dp y (eV ns k.n))),(0,.buf 2 [eO 10 11 (eV ns k.n).length]),(3,.buf 8 [cF.D y (.ptr 0 2 0 0)]),(4,.buf 2 [Key.D k])]) (hc:=λK' hK=>hA y ns k.n hp0 ae _ 0 1 2 _ K' eB eB eB aU ⟨rfl,rfl,rfl⟩ hK) (hn:=aU) ?_;refine cN ?_;refine bB (env':=[_,_,_,_,_,_,⟨_,(.sl _ _)⟩,_,_,_]) ?_;refine zg ?_;refine zf hm (λi=>[.u 4,.p 4 2,.i i,.m 10 (dL y k.n) uF.D,.u 2,.o 7 10 (((dL y k.n).take i).filter (Yd k.f)).length]) (λi=>[(0,.buf 2 [eO 5 6 (eV ns k.n).length]),(5,.buf 1 ((eV ns k.n).map D.str)),(6,.buf 1 (dp y (eV ns k.n))),(4,.buf 2 [Key.D k]),(7,.buf 10 ((((dL y k.n).take i).filter (Yd k.f)).map uF.D))]) 20 (λi=>i<=(dL y k.n).length) (λi=>(dL y k.n).length-i) ae [(10,5),(11,6),(4,4)] ?_;intro i hi;have hfl:=List.length_filter_le (Yd k.f) ((dL y k.n).take i);have hl64:=(look_ok hp0 k.n).1;rw[dQ]at hfl;refine zg ?_;intro u0;refine dN ?_ ?_<;>intro hc0
 .refine zc ?_ ?_<;>intro hc1
  .refine kF ?_;refine bc [uF.D (dL y k.n)[i]!] ?_;refine cL (q:=uF.D) (xs:=((dL y k.n).take i).filter (Yd k.f)) (e:=(dL y k.n)[i]!) (hb:=ae) ?_;refine zg ?_;rw[ofT_y ae hc1];exact iC (i+1) [(4,4),(5,5),(6,6),(44,7)]
  refine zg ?_;rw[ofT_n ae hc1];exact iC (i+1) [(4,4),(5,5),(6,6),(7,7)]
 refine cC ?_;obtain rfl:i=(dL y k.n).length:=ae;rw[List.take_length];refine bm 7 ?_;refine zg ?_;refine ei trivial jC (dm ah (?_)) ah ⟨cZ,5,6,⟨ae,ae,ae⟩,tf⟩;rfl
def Dv:aj:=bj 190
def w904 (hA:C907 Y)(hB:Vk Y):J7 (cz Y Dv):=λr e o hp0=>by
 refine cN ?_;have hns:=gH hp0.1;refine zg ?_;refine zf hm (λi=>[.u 2,.e (.str o),.u 1,.i i,.p 1 9,.u 2,.p 2 3,.u 1,.o 0 1 ((qS (r.needs.take i) e o)).length]) (λi=>[(0,.buf 1 (((qS (r.needs.take i) e o)).map dU)),(1,.buf 9 [Rec.D r]),(2,.buf 3 [Env.D e])]) 5 (λi=>i<=r.needs.length) (λi=>r.needs.length-i) ae [(0,1),(1,2)] ?_;intro i hi;have hol:=(xN (ns:=r.needs.take i) (e:=e) (o:=o) λn hn=>hns.2 n (D6 hn)).1;rw[dQ]at hol;refine zg ?_;intro u0;refine dN ?_ ?_<;>intro hc0
 .refine yx ?_;refine bY _ ?_;refine uQ ?_;refine cB (hc:=λhf=>hA _ (e) ?_) ?_;rotate_left;first|assumption|omega|exact⟨hns.2 _ (aq ae),hp0.1.2.2.1 _ (aq ae)⟩|exact⟨(hp0.1.2.2.1 _ (aq ae)).2.1,hp0.2⟩
  refine zc ?_ ?_<;>intro hc1
  .refine cN ?_;have hrl:=(tF (hns.2 _ (aq (show i<r.needs.length by omega)))).1;refine cC ?_;refine aG (hc:=hB _ ?_) ?_;rotate_left;first|assumption|omega|exact⟨hns.2 _ (aq ae),hp0.1.2.2.1 _ (aq ae)⟩|exact⟨(hp0.1.2.2.1 _ (aq ae)).2.1,hp0.2⟩
   refine pk (q:=dU) (xs:=(qS (r.needs.take i) e o)) (ys:=iM r.needs[i]!) (he:=lW.sl) (hb:=ae) ?_;refine zg ?_;rw[<-ajY hc1,Yu ae];exact iC (i+1) [(30,0),(1,1),(2,2)]
  refine zg ?_;rw[show(qS (r.needs.take i) e o)=qS (r.needs.take (i+1)) e o from by rw[<-Yu ae,ajX hc1,gF]];exact iC (i+1) [(0,0),(1,1),(2,2)]
 refine cC ?_;obtain rfl:i=r.needs.length:=ae;rw[List.take_length];refine bm 0 ?_;exact mK
def H2:aj:=bj 128
def w461 (hm:(Y.at 0).cb)(hA:C249 Y):Jk (cz Y H2):=λw hp0=>by
 show dx _ _ _ [⟨_,_⟩,_,_,_,_,_,_] _;have q1:=Ef hp0;have q2:=hp0.1.1.1;have q3:=hp0.1.1.2.len;refine aQ ?_;refine zg ?_;intro u0;refine dN ?_ ?_<;>intro hc0
 .refine dI ?_;refine aG (hc:=hA w.feats 44 ae) ?_;refine zc ?_ ?_<;>intro hc1
  .refine zr ?_;all_goals
    simp only[j0,cx,sY,cw,rU,rQ,rO];first|rw[ak (show w.feats.length=0 by omega)]|rw[ai (show ¬w.feats.length=0 by omega)]
    simp[hc1]
  refine zr ?_;all_goals
   simp only[j0,cx,sY,cw,rU,rQ,rO];first|rw[ak (show w.feats.length=0 by omega)]|rw[ai (show ¬w.feats.length=0 by omega)]
   simp[hc1]
 refine zc ?_ ?_<;>intro hc1
 .refine zr ?_;all_goals
   simp only[j0,cx,sY,cw,rU,rQ,rO];first|rw[ak (show w.feats.length=0 by omega)]|rw[ai (show ¬w.feats.length=0 by omega)]
   simp[hc1]
 refine zr ?_;all_goals
  simp only[j0,cx,sY,cw,rU,rQ,rO];first|rw[ak (show w.feats.length=0 by omega)]|rw[ai (show ¬w.feats.length=0 by omega)]
  simp[hc1]
def Pn:aj:=bj 129
def w462 (hm:(Y.at 0).cb):Jl (cz Y Pn):=λs hp0=>by
 refine zc ?_ ?_<;>intro hc0
 .refine zr ?_;rw[kC,ak hc0]
 refine zr ?_;rw[kC,ai hc0];simp[cx,cw,yu]
def Pv:aj:=bj 51
def w344 (hA:GJ Y):I0 (cz Y Pv):=λl=>by
 refine zg ?_;refine zf hm (λi=>[.m 2 l iN.D,.u 2,.i i,.u 2]) (λi=>[]) 3 (λi=>i<=l.length/\Dc l=gX (Mf l) i l.length) (λi=>l.length-i) ⟨ae,rfl⟩ [] ?_;rintro i ⟨hi,hr⟩;refine zg ?_;intro u0;refine dN ?_ ?_<;>intro hc0
 .refine iw ?_;refine ID ?_;refine cM (i-1) (hj:=λhf=>BV) (hb:=λhf=>BV) ?_;refine zg ?_;refine wp_cond (λhc1=>?_) (λhc1=>?_)
  .simp only[gJ]at hc1;simp only[gt_iff_lt,Int.natCast_pos]at hc1;have hz:=Mg hc1;refine zg ?_;refine fM (b7 (aw (D.int .i64) ?_) (aw (D.int .i64) ?_));all_goals rw[hr,gY ae (by rw[hz];decide),hz]
  simp only[gJ]at hc1;simp only[gt_iff_lt,Int.natCast_pos]at hc1;have hz:=RZ (l:=l) (i:=i) (by rintro((h|h)|⟨h,h2⟩)<;>simp_all);refine gI (i+1) [] ?_;rw[hr,kq ae hz]
 refine zg ?_;refine fM (b7 (aw (D.int .i64) ?_) (aw (D.int .i64) ?_));all_goals rw[hr,ko ae]
def MI:aj:=⟨2,7,[⟨2,none⟩],ha1,(sq (rg [gb 2 s1,gm yE] [(5,0),(2,1)]) (sq (sq (r1 [gm yE] 3 0) (.block 0 (.loop (sq (sq (r1 [gm s3,gm s0,gl l1,ou l0 l2] 4 3) (gce s4 0)) (sq (.block 1 (sq (r2 [gm s0,gm s3,ga 2 l0 l1,gk 2 true l2,gk 2 true s5,gn (.eqA false true [.s,.s] l3 l4)] 6 5) (.cond s6 (sq (r1 [gm s3,gm l0] 2 1) .ret) .skip))) (r1 [gm s3,qP l0 TN,gm l1] 3 2)))))) (sq (r1 [gn (.mv (.c (.int .i64 (-1))))] 2 0) .ret)))⟩
def w903:J6 (cz Y MI):=λl k=>by
 refine zg ?_;refine zf hm (λi=>[.m 2 l Key.D,.u 2,.i i,.u 1,.p 0 2,.u 1]) (λi=>[(0,.buf 2 [Key.D k])]) 3 (λi=>i<=l.length/\ep l k=gM (λx=>decide (x=k)) (l.drop i) i) (λi=>l.length-i) ⟨ae,rfl⟩ [(0,0)] ?_;rintro i ⟨hi,hr⟩;refine zg ?_;intro u0;refine dN ?_ ?_<;>intro hc0
 .refine zc ?_ ?_<;>intro hc1
  .refine zr ?_;rw[hr,kR ae lV]
  refine gI (i+1) [(0,0)] ?_;rw[hr,jx ae lV]
 refine zr ?_;rw[hr,ml ae]
def Uv:aj:=bj 289
def w1121:Ez (cz Y Uv):=λs nm=>by
 refine zg ?_;refine zf hm (λi=>[.u 1,.e (.str nm),.u 1,.i i,.p 0 2,.u 2]) (λi=>[(0,.buf 2 [bM.D s])]) 3 (λi=>i<=s.es.length/\Cw nm s=(s.es.drop i).any λx=>decide (x.r.name=nm)) (λi=>s.es.length-i) ⟨ae,rfl⟩ [(0,0)] ?_;rintro i ⟨hi,hr⟩;refine zg ?_;intro u0;refine dN ?_ ?_<;>intro hc0
 .refine zc ?_ ?_<;>intro hc1
  .refine zr ?_;rw[hr,wP ae lV]
  refine gI (i+1) [(0,0)] ?_;rw[hr,B2 ae lV]
 refine zr ?_;rw[hr,wO ae]
def MV:aj:=bj 66
def w508 (hm:(Y.at 0).cb)(hA:C695 Y):Js (cz Y MV):=λs nm v hp0=>by
 refine En ?_;have hlm:=Fw (s:=s) (nm:=nm) (v:=v);refine zc ?_ ?_<;>intro hc0
 .refine cC ?_;refine bT _ ?_;refine bY _ ?_;refine zr ?_;rw[show oM s nm v=(default,false)from ak ae];rfl
 refine cC ?_;obtain⟨j,hj,hjl⟩:=hlm.resolve_left ae;refine zr ?_;rw[show oM s nm v=(s.es[j]!,true)from by rw[oM,ai ae,hj];rfl];rfl
end Go.Abs
end
