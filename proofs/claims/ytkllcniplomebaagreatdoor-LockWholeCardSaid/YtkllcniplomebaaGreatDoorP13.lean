/- A part of the proofs. -/
import Derived.Test.YtkllcniplomebaaGreatDoorP09
set_option linter.all false
set_option maxRecDepth 60000
set_option maxHeartbeats 2000000
noncomputable section
namespace Go.Abs
variable {Y:Ctx}(hm:(Y.at 0).bN)
def sS:aj:=⟨3,17,[⟨3,none⟩,⟨4,none⟩],[[.sl 8 [.a,.a,.a,.a,.a,.a,.sl 1 [.sl 3 [.a,.sl 14 [.a,.a],.sl 14 [.a,.a]]],.sl 3 [.a,.sl 14 [.a,.a,.a,.a,.a,.a],.sl 14 [.a,.a,.a,.a,.a,.a]]]],[.a]],(sq (rg [gb 8 s0,gb 2 s2,gm (.c (.aR)),gm OS] [(7,0),(5,1),(3,2),(4,3)]) (sq (sq (r1 [gk 2 true s5,gn (.build [.str [],.str []] []),gn (.eqA false true [.s,.s] l0 l1)] 6 2) (.cond s6 (sq (rg [gm s1,gk 8 true s7,gn (.callM 751 [l1]),gx 750 [l0,l2] [[.sl 2 [.a,.a]],[.sl 1 [.sl 4 [.a,.a,.sl 14 [.a,.a,.a,.a,.a,.a,.a,.a,.a,.a,.a,.a,.a,.a],.sl 14 [.a,.a,.a,.a,.a,.a,.a,.a,.a,.a,.a,.a,.a,.a]]]]],gn (.build [.int .i64 0,.int .i64 0,.int .i64 0,.str [],.str [],.int .i64 0,.aR,.aR] [(5,1,(.c (.int .i64 (-1)))),(6,1,l3)]),gn (.bsl 8 (.agg [.int .i64 0,.int .i64 0,.int .i64 0,.str [],.str [],.int .i64 0,.aR,.aR]) 1 [(0,l4)]),gm l5,gm cbT] [(3,6),(4,7)]) .ret) .skip)) (sq (r1 [gm (.c (.aR))] 16 0) (sq (sq (rg [gk 8 true s7,gk 2 true s5,gn (.callM 752 [l0,l1]),gl l2,gm yW] [(11,2),(9,3),(8,4)]) (.block 0 (.loop (sq (r1 [mL s8 s9] 10 0) (sq (gce s10 0) (sq (.block 1 (sq (r1 [ga 10 VR s8,gk 10 true l0,gb 10 (.c (.agg [.str [],.int .i64 0,.int .i64 0,.int .i64 0,.str [],.str [],.aR,.aR,.aR,.int .i64 0])),gt 10 l2 l1] 12 2) (sq (r2 [gf 0 s12,gf 1 l0,gk 5 true l1,gf 9 s12,gd l3,gm s1,gf 0 s12,gk 9 true l6,gf 2 s7,gk 3 true l8,gf 1 s5,gd l10,gx 753 [l7,l9,R5] [zzh1,[.a,.a,.a],[.a]],gx 750 [l5,Yk] [[.sl 2 [.a,.a]],[.sl 1 [.sl 4 [.a,.a,.sl 14 [.a,.a,.a,.a,.a,.a,.a,.a,.a,.a,.a,.a,.a,.a],.sl 14 [.a,.a,.a,.a,.a,.a,.a,.a,.a,.a,.a,.a,.a,.a]]]]],gn (.build [.int .i64 0,.int .i64 0,.int .i64 0,.str [],.str [],.int .i64 0,.aR,.aR] [(0,5,l2),(5,1,l4),(6,1,l13)]),gb 8 (.c (.agg [.int .i64 0,.int .i64 0,.int .i64 0,.str [],.str [],.int .i64 0,.aR,.aR])),gt 8 l15 l14] 14 15) (sq (sq (r1 [gf 1 s5,gd l0,sI l1 cse] 13 2) (.cond s13 (rg [gm s1,gf 0 s12,gk 9 true l1,gf 2 s7,gk 3 true l3,gx 754 [l0,l2,l4] [[.sl 2 [.a,.a]],zzh1,[.a,.a,.a]],gf 7 Vs,gt 1 l6 l5] []) .skip)) (sq (sq (r1 [gf 6 Vs,gd l0,gl l1,YI l2 (i6 24),gm l3,gff 4 7 Vs,gdf 4 l5,uW 4 (.len l6),uW 4 (WD l7 (i6 24)),T7 l4 l8] 15 9) (.cond s15 (sq (rg [gm (.c (.aR)),gm OS] [(3,0),(4,1)]) .ret) .skip)) (r1 [gm s16,gk 8 true Vs,gn (.bsl 8 (.agg [.int .i64 0,.int .i64 0,.int .i64 0,.str [],.str [],.int .i64 0,.aR,.aR]) 1 [(0,l1)]),gn (.app 8 l0 l2),gm l3] 16 4)))))) (r1 [pj s8 R2,gm l0] 8 1))))))) (sq (rg [gm s16,gk 8 true s7,gf 0 s5,gd l2,gn (.callM 755 [l1,l3]),gl l4,aj9 l5 (i6 16),gm l0,gm l6] [(3,7),(4,8)]) .ret)))))⟩
def w583 (hm:(Y.at 3).bN)(y:cx)(ns:List av)(all:List Key)(k:Key)(hA:C750 (Y.at 3))(hB:C751 (Y.at 3))(hC:C752 (Y.at 3))(hD:C753 (Y.at 3))(hE:C754 (Y.at 3))(hF:C755 (Y.at 3))(hp0:qy y/\kF y.e)(hp1:ns.length<=990):dk (Y.at 3) sS.body (wD sS (Lg y (jq ns k) (sf y all k)):Ex->List aY->St->Prop) (fP sS [cx.D y (.ptr 0 2 0 0),.sl 2 (all.map Key.D),Key.D k]) ⟨3,[(0,.buf 2 [eN 1 2 ns.length]),(1,.buf 1 (ns.map D.str)),(2,.buf 1 (df y ns))]⟩:=by
 show dk _ _ _ [⟨true,cx.D y (.ptr 0 2 0 0)⟩,⟨true,.sl 2 (all.map Key.D)⟩,⟨true,Key.D k⟩,.un,.un,.un,.un,.un,.un,.un,.un,.un,.un,.un,.un,.un,.un] ⟨3,[(0,.buf 2 [eN 1 2 ns.length]),(1,.buf 1 (ns.map D.str)),(2,.buf 1 (df y ns))]⟩;refine ax ?_;refine pz ?_;refine aV (Key.D fI) ?_;refine zc ?_ ?_<;>intro hc0
 .refine cU ?_;have hrl:=IC hp0.1.p;refine cU ?_;refine dS (nx':=12) (v:=.sl 1 ((eH y.l).map dU)) (m':=[(12,.buf 1 ((ns).map D.str)),(13,.buf 1 (df y (ns))),(0,.buf 2 [eN 12 13 (ns).length]),(3,.buf 8 [cx.D y (.ptr 0 2 0 0)]),(4,.buf 2 [Key.D k])]) (hc:=λK' hK=>hB y ns hp0.1.m (Tf hp0.1.p) _ 0 1 2 _ K' eI eI eI a7 ⟨rfl,rfl,rfl⟩ hK) (hn:=a7) ?_;refine cY ?_;refine aV (.agg [.int .i64 (⟨zV,-1,dF all (eH y.l),[]⟩:fj).v.major,.int .i64 (⟨zV,-1,dF all (eH y.l),[]⟩:fj).v.minor,.int .i64 (⟨zV,-1,dF all (eH y.l),[]⟩:fj).v.patch,.str (⟨zV,-1,dF all (eH y.l),[]⟩:fj).v.pre,.str (⟨zV,-1,dF all (eH y.l),[]⟩:fj).v.build,.int .i64 (⟨zV,-1,dF all (eH y.l),[]⟩:fj).sh,.sl 1 ((⟨zV,-1,dF all (eH y.l),[]⟩:fj).needs.map jC),.aR]) ?_;refine bj [.agg [.int .i64 (⟨zV,-1,dF all (eH y.l),[]⟩:fj).v.major,.int .i64 (⟨zV,-1,dF all (eH y.l),[]⟩:fj).v.minor,.int .i64 (⟨zV,-1,dF all (eH y.l),[]⟩:fj).v.patch,.str (⟨zV,-1,dF all (eH y.l),[]⟩:fj).v.pre,.str (⟨zV,-1,dF all (eH y.l),[]⟩:fj).v.build,.int .i64 (⟨zV,-1,dF all (eH y.l),[]⟩:fj).sh,.sl 1 ((⟨zV,-1,dF all (eH y.l),[]⟩:fj).needs.map jC),.aR]] ?_;refine dt ?_;refine EE [(0,.buf 2 [eN 12 13 (ns).length]),(12,.buf 1 ((ns).map D.str)),(13,.buf 1 (df y (ns))),(17,.buf 8 [fj.D (⟨zV,-1,dF all (eH y.l),[]⟩:fj)])] ((.id ah (.id ah (.id ah (.bf ah (.cons (.ag ((.cons (.refl _) (.cons (.refl _) (.cons (.refl _) (.cons (.refl _) (.cons (.refl _) (.cons (.refl _) (.cons (.refl _) (.cons (.nil 3) .nil)))))))))) .nil) .nil))))) ?_;refine bD 17 ?_;refine zg ?_;refine gP trivial lO (dY ah (?_)) ah ⟨by first|(rw[sf,LA hc0];done)|(rw[sf,LA hc0];exact rfl),12,13,⟨ae,ae,ae⟩,by rw[Yh hc0];exact tj⟩;rfl
 refine pz ?_;refine dS (nx':=13) (v:=uK (eG y k)) (m':=[(13,.buf 1 ((eU ns k.n).map D.str)),(14,.buf 1 (df y (eU ns k.n))),(0,.buf 2 [eN 13 14 (eU ns k.n).length]),(3,.buf 8 [cx.D y (.ptr 0 2 0 0)]),(4,.buf 2 [Key.D k])]) (hc:=λK' hK=>hC y ns k hp0.1.p ae _ 0 1 2 _ K' eI eI eI a7 ⟨rfl,rfl,rfl⟩ hK) (hn:=a7) ?_;refine cU ?_;intro u0;refine aS (env':=[_,_,_,_,_,_,_,_,⟨_,(.int _ _)⟩,⟨_,(.int _ _)⟩,_,⟨_,(.sl _ _)⟩,_,_,_,_,_]) ?_;refine zf hm (λi=>[.u 1,.m 2 all Key.D,.u 3,.p 4 2,.u 1,.p 3 8,.i i,.i ((eG y k).length:Nat),.u 1,.m 10 (eG y k) uG.D,.u 4,.o 7 8 (((eG y k).take i).map (dA y all k)).length]) (λi=>[(0,.buf 2 [eN 5 6 (eU ns k.n).length]),(5,.buf 1 ((eU ns k.n).map D.str)),(6,.buf 1 (df y (eU ns k.n))),(3,.buf 8 [cx.D y (.ptr 0 2 0 0)]),(4,.buf 2 [Key.D k]),(7,.buf 8 ((((eG y k).take i).map (dA y all k)).map fj.D))]) 20 (λi=>i<=(eG y k).length/\(((eG y k).take i).map (dA y all k)).any ot=false) (λi=>(eG y k).length-i) ⟨ae,rfl⟩ [(13,5),(14,6),(3,3),(4,4)] ?_;rintro i ⟨hi,hwd⟩;have hof:=(xy hp0.1.p k).1;have hcl:(((eG y k).take i).map (dA y all k)).length<=i:=by rw[bh,ey];omega
 refine zc ?_ ?_<;>intro hc1
 .refine dt ?_;obtain⟨hxp,hxv⟩:=af4 hp0.1 (k:=k) (i:=i) ae;obtain⟨hql,hq3⟩:=lI (e:=y.e) (ft:=k.f) hxp;refine dt ?_;refine br _ ?_;refine jb ?_;refine cU ?_;refine aV (.agg [.int .i64 (⟨(eG y k)[i]!.r.v,(eG y k)[i]!.sh,dF all (cJ (eG y k)[i]!.r y.e k.f),[]⟩:fj).v.major,.int .i64 (⟨(eG y k)[i]!.r.v,(eG y k)[i]!.sh,dF all (cJ (eG y k)[i]!.r y.e k.f),[]⟩:fj).v.minor,.int .i64 (⟨(eG y k)[i]!.r.v,(eG y k)[i]!.sh,dF all (cJ (eG y k)[i]!.r y.e k.f),[]⟩:fj).v.patch,.str (⟨(eG y k)[i]!.r.v,(eG y k)[i]!.sh,dF all (cJ (eG y k)[i]!.r y.e k.f),[]⟩:fj).v.pre,.str (⟨(eG y k)[i]!.r.v,(eG y k)[i]!.sh,dF all (cJ (eG y k)[i]!.r y.e k.f),[]⟩:fj).v.build,.int .i64 (⟨(eG y k)[i]!.r.v,(eG y k)[i]!.sh,dF all (cJ (eG y k)[i]!.r y.e k.f),[]⟩:fj).sh,.sl 1 ((⟨(eG y k)[i]!.r.v,(eG y k)[i]!.sh,dF all (cJ (eG y k)[i]!.r y.e k.f),[]⟩:fj).needs.map jC),.aR]) ?_;refine dt ?_;refine EE [(0,.buf 2 [eN 5 6 (eU ns k.n).length]),(5,.buf 1 ((eU ns k.n).map D.str)),(6,.buf 1 (df y (eU ns k.n))),(3,.buf 8 [cx.D y (.ptr 0 2 0 0)]),(4,.buf 2 [Key.D k]),(7,.buf 8 ((((eG y k).take i).map (dA y all k)).map fj.D)),(23,.buf 10 [uG.D (eG y k)[i]!]),(40,.buf 8 [fj.D (⟨(eG y k)[i]!.r.v,(eG y k)[i]!.sh,dF all (cJ (eG y k)[i]!.r y.e k.f),[]⟩:fj)])] ((.id ah (.id ah (.id ah (.id ah (.id ah (.id ah (.id ah (.bf ah (.cons (.ag ((.cons (.refl _) (.cons (.refl _) (.cons (.refl _) (.cons (.refl _) (.cons (.refl _) (.cons (.refl _) (.cons (.refl _) (.cons (.nil 3) .nil)))))))))) .nil) .nil))))))))) ?_;refine zc ?_ ?_<;>intro hc2
  .refine pz ?_;refine br (fj.D (⟨(eG y k)[i]!.r.v,(eG y k)[i]!.sh,dF all (cJ (eG y k)[i]!.r y.e k.f),wK all (eG y k)[i]!.r y.e⟩:fj)) (he:=cE) ?_;refine cU ?_;rw[show(⟨(eG y k)[i]!.r.v,(eG y k)[i]!.sh,dF all (cJ (eG y k)[i]!.r y.e k.f),wK all (eG y k)[i]!.r y.e⟩:fj)=(dA y all k (eG y k)[i]!)from acK hc2];refine zg ?_;intro u1;refine dT ?_ ?_<;>intro hc3
   .refine k9 ?_;refine hY (aZ.nz _ [_,_,_,⟨true,.sl 8 []⟩,_,_,_,_,_,_,_,_,_,_,_,_,_] _ _ [(0,.buf 2 [eN 5 6 (eU ns k.n).length]),(5,.buf 1 ((eU ns k.n).map D.str)),(6,.buf 1 (df y (eU ns k.n)))] ⟨⟨rfl,.refl _⟩,⟨rfl,.refl _⟩,⟨rfl,.refl _⟩,⟨rfl,.nil 8⟩,⟨rfl,.refl _⟩,⟨rfl,.refl _⟩,⟨rfl,.refl _⟩,⟨rfl,.refl _⟩,⟨rfl,.refl _⟩,⟨rfl,.refl _⟩,⟨rfl,.refl _⟩,⟨rfl,.refl _⟩,⟨rfl,.refl _⟩,⟨rfl,.refl _⟩,⟨rfl,.refl _⟩,⟨rfl,.refl _⟩,⟨rfl,.refl _⟩,trivial⟩ (.id ah (.id ah (.id ah .nil)))) ?_;refine zg ?_;refine gP trivial lO (dY ah (?_)) ah ⟨abx,5,6,⟨ae,ae,ae⟩,abw⟩;rfl
   refine fw ?_;refine bj [fj.D (dA y all k (eG y k)[i]!)] ?_;refine cR (q:=fj.D) (xs:=(((eG y k).take i).map (dA y all k))) (e:=(dA y all k (eG y k)[i]!)) (hb:=ae) ?_;refine zg ?_;rw[<-map_take (f:=dA y all k) (l:=eG y k) (i:=i) ae];refine fM (i+1) [(3,3),(4,4),(5,5),(6,6),(66,7)] ?_;exact RG ae hwd ae
  refine cU ?_;rw[show(⟨(eG y k)[i]!.r.v,(eG y k)[i]!.sh,dF all (cJ (eG y k)[i]!.r y.e k.f),[]⟩:fj)=(dA y all k (eG y k)[i]!)from acJ hc2];refine zg ?_;intro u1;refine dT ?_ ?_<;>intro hc3
  .refine k9 ?_;refine hY (aZ.nz _ [_,_,_,⟨true,.sl 8 []⟩,_,_,_,_,_,_,_,_,_,_,_,_,_] _ _ [(0,.buf 2 [eN 5 6 (eU ns k.n).length]),(5,.buf 1 ((eU ns k.n).map D.str)),(6,.buf 1 (df y (eU ns k.n)))] ⟨⟨rfl,.refl _⟩,⟨rfl,.refl _⟩,⟨rfl,.refl _⟩,⟨rfl,.nil 8⟩,⟨rfl,.refl _⟩,⟨rfl,.refl _⟩,⟨rfl,.refl _⟩,⟨rfl,.refl _⟩,⟨rfl,.refl _⟩,⟨rfl,.refl _⟩,⟨rfl,.refl _⟩,⟨rfl,.refl _⟩,⟨rfl,.refl _⟩,⟨rfl,.refl _⟩,⟨rfl,.refl _⟩,⟨rfl,.refl _⟩,⟨rfl,.refl _⟩,trivial⟩ (.id ah (.id ah (.id ah .nil)))) ?_;refine zg ?_;refine gP trivial lO (dY ah (?_)) ah ⟨abx,5,6,⟨ae,ae,ae⟩,abw⟩;rfl
  refine fw ?_;refine bj [fj.D (dA y all k (eG y k)[i]!)] ?_;refine cR (q:=fj.D) (xs:=(((eG y k).take i).map (dA y all k))) (e:=(dA y all k (eG y k)[i]!)) (hb:=ae) ?_;refine zg ?_;rw[<-map_take (f:=dA y all k) (l:=eG y k) (i:=i) ae];refine fM (i+1) [(3,3),(4,4),(5,5),(6,6),(58,7)] ?_;exact RG ae hwd ae
 refine cU ?_;obtain rfl:i=(eG y k).length:=ae;rw[List.take_length]at hwd⊢;refine bD 7 ?_ (he:=abb) (hm:=abb);refine k9 ?_;refine dS (nx':=23) (v:=uK (dI y k.n)) (m':=[(25,.buf 1 ((eU (eU ns k.n) k.n).map D.str)),(26,.buf 1 (df y (eU (eU ns k.n) k.n))),(0,.buf 2 [eN 25 26 (eU (eU ns k.n) k.n).length]),(3,.buf 8 [cx.D y (.ptr 0 2 0 0)]),(4,.buf 2 [Key.D k])]) (hc:=λK' hK=>hF y (eU ns k.n) k.n hp0.1.p (by have:=Lr ns k.n;omega) _ 0 5 6 _ K' eI eI eI a7 ⟨rfl,rfl,rfl⟩ hK) (hn:=a7) ?_;refine zg ?_;intro u2;refine gP trivial lO (dY ah (?_)) ah ⟨by first|(rw[sf,Ly hc0 hwd];done)|(rw[sf,Ly hc0 hwd];simp),25,26,⟨ae,ae,ae⟩,by rw[show jq ns k=eU (eU ns k.n) k.n by rw[Pg hc0,TI]];exact tj⟩;rw[fE aF,show decide ((dI y k.n).length<=16)=decide (((dI y k.n).length:Int)<=16)from kZ.2 ae];rfl
def L5:aj:=bd 125
def w533:um (cn Y L5):=λs b hp0=>by
 refine zg ?_;intro u0;refine gG hm (ι:=(Nat×Nat×List av)) (λp:Nat×Nat×List av=>[⟨true,.str s⟩,⟨true,.int .u8 b⟩,.un,⟨true,.int .i64 (p.1:Nat)⟩,⟨true,.int .i64 (s.length:Nat)⟩,.un,.un,.un,⟨true,.own 0 1 0 p.2.2.length⟩,⟨true,.int .i64 (p.2.1:Nat)⟩]) (λp=>[(0,.buf 1 (p.2.2.map D.str))]) 6 (λp=>p.1<=s.length/\p.2.1<=p.1/\p.2.2.length<=p.1/\aQ s b=p.2.2++fD b (s.drop p.1) ((s.take p.1).drop p.2.1)) (λp=>s.length-p.1) (0,0,[]) ⟨aF,aF,aF,rfl⟩ (aZ.to [] ah ah abr (by repeat(first|exact bn.nil|refine bn.mt ah ah ah ah ?_))) ?_;rintro⟨i,fr,acc⟩ ⟨hi,hf,ha,hr⟩;dsimp only at hi hf ha hr⊢;refine zc ?_ ?_<;>intro hc0
 .refine zg ?_;refine wp_cond (λhc1=>?_) (λhc1=>?_)
  .try simp only[gL]at hc1
   refine jX ?_;refine bj [(.str _)] ?_;refine zg ?_;exact⟨(i+1,i+1,acc++[(s.take i).drop fr]),⟨k8,k8,eJ,by rw[hr,GK ae hc1];simp⟩,k8,(aZ.to [(20,0)] ah ah UY (by refine bn.nl 20 ah ah ah dL ?_;exact bn.nil))⟩
  simp only[b8]at hc1;refine zg ?_;exact⟨(i+1,fr,acc),⟨k8,k8,k8,by rw[hr,GL ae ae hc1]⟩,k8,(aZ.to [(0,0)] ah ah UY KM)⟩
 refine ru ?_;refine bj [(.str _)] ?_;refine dt ?_;refine bD 12 ?_;refine zr ?_;have hs:aQ s b=acc++[s.drop fr]:=by rw[hr,Eh ae]
 rw[hs];exact rfl
def BA:aj:=bd 177
def w659:uw (cn Y BA):=λt=>by
 refine zg ?_;intro u0;refine zf hm (λi=>[.e (.str t),.u 1,.i i,.i t.length,.u 3]) (λi=>[]) 4 (λi=>i<=t.length/\bI (λi=>bE (at8 t i)) 0 t.length=bI (λi=>bE (at8 t i)) i t.length) (λi=>t.length-i) ⟨ae,rfl⟩ [] ?_;rintro i ⟨hi,hr⟩;refine zc ?_ ?_<;>intro hc0
 .refine zc ?_ ?_<;>intro hc1
  .refine zr ?_;simp only[cO];rw[hr,ay ae];rcases hc1 with h|h<;>simp[bE]<;>omega
  refine fM (i+1) [] ?_;rw[hr,ay ae];rw[show bE (at8 t i)=true by simp only[bE,aK,aX];omega];rfl
 refine zr ?_;simp only[cO];rw[hr,bA ae];cases t<;>simp
def IU:aj:=bd 120
def w440 (hm:(Y.at 0).bN):ue (cn Y IU):=λn=>by
 exact mQ
def Ew:aj:=bd 142
def w675:Ke (cn Y Ew):=λs b=>by
 refine zg ?_;intro u0;refine zf hm (λi=>[.e (.str s),.e (.int .u8 b),.u 2,.i i,.i s.length,.u 3]) (λi=>[]) 5 (λi=>i<=s.length/\jU s b=lS s b i) (λi=>s.length-i) ⟨ae,rfl⟩ [] ?_;rintro i ⟨hi,hr⟩;refine zc ?_ ?_<;>intro hc0
 .refine zc ?_ ?_<;>intro hc1
  .refine fw ?_;refine M5 (i+1) ?_;refine zg ?_;refine dj (ba (ar D.str ?_) (ar D.str ?_));all_goals rw[hr,OJ ae hc1]
  refine fM (i+1) [] ?_;rw[hr,OK ae hc1]
 refine zg ?_;refine dj (ba (ar D.str ?_) (ar D.str ?_));all_goals rw[hr,Lw ae]
def IV:aj:=bd 122
def w442 (hA:TA Y):JA (cn Y IV):=λs hp0=>by
 refine zg ?_;intro u0 u1;refine zf hm (λi=>[.u 2,.m 1 (aQ s 46) D.str,.i i,.i ((aQ s 46).length:Nat),.u 1,.m 1 (aQ s 46) D.str,.u 7,.e (.bool (decide (((aQ s 46).length:Int)<=4)))]) (λi=>[]) 11 (λi=>i<=(aQ s 46).length/\sY s false=(decide ((aQ s 46).length<=4)&&bI (λi=>ji false (aQ s 46)[i]!) i (aQ s 46).length)) (λi=>(aQ s 46).length-i) ⟨ae,rfl⟩ [] ?_;rintro i ⟨hi,hr⟩;refine zc ?_ ?_<;>intro hc0
 .refine B8 ?_;generalize ht:(aQ s 46)[i]! =t;refine zc ?_ ?_<;>intro hc1
  .refine zr ?_;first
    |(rw[hr,bA ae,fR];exact kZ.2 ae)
    |(have hb:wm t=false:=by
       first
       |(simp only[wm];rcases hc1 with h|h
         .subst h;simp
         .rw[bB (by omega:¬t.length<=8)];simp)
       |(have hz:nd (at8 t j)=false:=by
          rcases hcw with⟨_,h,_⟩|⟨_,h⟩<;>(simp only[nd,jN,bE,dX,ew,b8];omega)
         rw[hj,ay hnx,hz];rfl)
      rw[hr,ay ae,show ji false (aQ s 46)[i]! =false from(by simp only[ji,ht,hb,Bool.false_and])];simp)
  refine zg ?_;have hT:wm t=bI (λi=>nd (at8 t i)) 0 t.length:=by
   have:=List.length_pos_iff.2 hc1.1;simp only[wm];rw[bg ae,bg ae];rfl
  refine zfL hm (λj=>[.u 2,.m 1 (aQ s 46) D.str,.i i,.i ((aQ s 46).length:Nat),.u 1,.m 1 (aQ s 46) D.str,.u 2,.e (.it 23),.u 4,.e (.bool (decide (((aQ s 46).length:Int)<=4)))]) (λj=>[(23,.iter t j)]) 24 (λj=>j<=t.length/\wm t=bI (λi=>nd (at8 t i)) j t.length) (λj=>t.length-j) ⟨ae,hT⟩ [(23,23)] ?_;rintro j ⟨hj0,hj⟩;refine zg ?_;by_cases hnx:j<t.length
  .obtain⟨c,w,hdec,hw,hcw⟩:=wU t j hnx;refine Ie c w (hp:=hnx) (hc:=hdec) ?_;refine zg ?_;refine aH (t:=true) (λ_=>?_) (λh=>cw);refine zc ?_ ?_<;>intro hc3
   .refine zr ?_;first
     |(rw[hr,bA ae,fR];exact kZ.2 ae)
     |(have hb:wm t=false:=by
        first
        |(simp only[wm];rcases hc1 with h|h
          .subst h;simp
          .rw[bB (by omega:¬t.length<=8)];simp)
        |(have hz:nd (at8 t j)=false:=by
           rcases hcw with⟨_,h,_⟩|⟨_,h⟩<;>(simp only[nd,jN,bE,dX,ew,b8];omega)
          rw[hj,ay hnx,hz];rfl)
       rw[hr,ay ae,show ji false (aQ s 46)[i]! =false from(by simp only[ji,ht,hb,Bool.false_and])];simp)
   refine zg ?_;obtain⟨rfl,hat,-⟩:w=1/\(c:Int)=at8 t j/\c<128:=by
    rcases hcw with h|h
    .exact h
    .omega
   have hz:nd (at8 t j)=true:=by
    simp only[nd,jN,bE,cW,aK,aX];omega
   refine fM (j+1) [(23,23)] ?_;rw[hj,ay hnx,hz];rfl
  .refine Ic (hp:=hnx) ?_;refine zg ?_;refine aH (t:=false) (λh=>cw) (λ_=>?_);refine fM (i+1) [] ?_;rw[hr,ay ae];rw[show ji false (aQ s 46)[i]! =true from(by simp only[ji,Bool.false_and,Bool.not_false,fR];rw[ht,hj,bA ae])];rfl
 refine zr ?_;first
  |(rw[hr,bA ae,fR];exact kZ.2 ae)
  |(have hb:wm t=false:=by
     first
     |(simp only[wm];rcases hc1 with h|h
       .subst h;simp
       .rw[bB (by omega:¬t.length<=8)];simp)
     |(have hz:nd (at8 t j)=false:=by
        rcases hcw with⟨_,h,_⟩|⟨_,h⟩<;>(simp only[nd,jN,bE,dX,ew,b8];omega)
       rw[hj,ay hnx,hz];rfl)
    rw[hr,ay ae,show ji false (aQ s 46)[i]! =false from(by simp only[ji,ht,hb,Bool.false_and])];simp)
def Na:aj:=bd 269
def w211 (hA:Tx Y)(hB:C444 Y):I9 (cn Y Na):=λr name rng hp0=>by
 refine zc ?_ ?_<;>intro hc0
 .refine zr ?_;rw[gB,ak hc0]
 refine zc ?_ ?_<;>intro hc1
 .refine zr ?_;rw[gB,ai jI,ak hc1]
 refine zc ?_ ?_<;>intro hc2
 .refine zr ?_;rw[gB,ai jI,ai hc1,ak hc2]
 refine zr ?_;rw[gB,ai jI,ai hc1,ai (by simp[hc2])]
def Nb:aj:=bd 303
def w443 (hA:C211 Y)(hB:Ty Y):uf (cn Y Nb):=λr w al hp0=>by
 refine EH ?_;refine aD (hc:=hA r w.name w.range hp0.1.2) ?_;refine zc ?_ ?_<;>intro hc0
 .refine zr ?_;rw[lB,ak hc0]
 refine zg ?_;intro u0;refine aH (λhc1=>?_) (λhc1=>?_)
 .have hq:(decide (w.feats.length<=6)&&(al ||decide (w.feats.length=0)))=false:=by rw[<-cg,<-aaP];exact hc1
  refine zr ?_;rw[lB,ai jI,ak (by unfold nD;rw[hq];rfl)]
 have hq:(decide (w.feats.length<=6)&&(al ||decide (w.feats.length=0)))=true:=by rw[<-cX,<-aaP];exact hc1
 refine zg ?_;intro u1;refine zf hm (λi=>[.u 2,.e (.bool al),.u 1,.p 0 9,.p 1 4,.u 3,.i i,.i w.feats.length,.u 1,.m 1 w.feats D.str,.u 3]) (λi=>[(0,.buf 9 [Rec.D r]),(1,.buf 4 [c9.D w])]) 30 (λi=>i<=w.feats.length/\nD w.feats al=bI (wfB w.feats) i w.feats.length) (λi=>w.feats.length-i) ⟨ae,by unfold nD;rw[hq,ez]⟩ [(0,0),(1,1)] ?_;rintro i ⟨hi,hr⟩;refine zc ?_ ?_<;>intro hc2
 .refine jb ?_;refine ru ?_;refine cC (i-1) ?_;refine zg ?_;refine wp_cond (λhc3=>?_) (λhc3=>?_)
  .have hz:wfB w.feats i=false:=by rw[<-cg,<-wf_c];exact hc3
   refine zr ?_;rw[lB,ai jI,ak (by rw[hr,ay ae,hz];rfl)]
  have hz:wfB w.feats i=true:=by rw[<-cX,<-wf_c];exact hc3
  refine fM (i+1) [(0,0),(1,1)] ?_;rw[hr,ay ae,hz];rfl
 refine zr ?_;rw[lB,ai jI,ai (by rw[hr,bA ae];simp)]
def M8:aj:=bd 268
def w210 (hA:C212 Y)(hB:Ty Y)(hC:C443 Y):tW (cn Y M8):=λr n hp0=>by
 refine zg ?_;intro u0;refine dT ?_ ?_<;>intro hc0
 .refine zr ?_;rw[jy,ak ae]
 refine zg ?_;intro u1;refine dT ?_ ?_<;>intro hc1
 .refine zr ?_;rw[jy,ai ae,ak ae]
 refine zg ?_;intro u2;refine zf hm (λi=>[.u 3,.p 1 3,.u 2,.i i,.i n.any.length,.u 1,.m 4 n.any c9.D,.p 0 9,.u 5]) (λi=>[(0,.buf 9 [Rec.D r]),(1,.buf 3 [bp.D n])]) 15 (λi=>i<=n.any.length/\nE r n.any=fQ (λi=>lB r n.any[i]! (decide ((n.any.length:Int)=1))) i n.any.length) (λi=>n.any.length-i) ⟨ae,rfl⟩ [(0,0),(1,1)] ?_;rintro i ⟨hi,hr⟩;refine zc ?_ ?_<;>intro hc2
 .refine IY ?_;intro u3;refine aD (hc:=hC r n.any[i]! _ (hp0.1 _ (aq ae))) ?_;refine zc ?_ ?_<;>intro hc3
  .refine zr ?_;have hw:nE r n.any=lB r n.any[i]! (decide ((n.any.length:Int)=1)):=by rw[hr,lE ae hc3]
   rw[jy,ai ae,ai ae,ak (by rw[hw];exact hc3),hw]
  refine fM (i+1) [(0,0),(1,1)] ?_;rw[hr,pQ ae hc3]
 refine fw ?_;have hw0:nE r n.any=0:=by rw[hr,pP ae]
 refine cU ?_;refine aD (hc:=hA n.when' hp0.2.1) ?_;refine zg ?_;refine aH (λhc4=>?_) (λhc4=>?_)
 .try simp only[gL]at hc4
  refine zr ?_;rw[jy,ai ae,ai ae,ai lZ,ak hc4]
 simp only[cX]at hc4;refine zg ?_;refine aH (λhc5=>?_) (λhc5=>?_)
 .try simp only[gL]at hc5
  refine zr ?_;rw[jy,ai ae,ai ae,ai lZ,ai (by simp[hc4]),ak hc5]
 simp only[ew,cX,aX]at hc5;refine zr ?_;rw[jy,ai ae,ai ae,ai lZ,ai (by simp[hc4]),ai (by rintro⟨g1,g2⟩;rcases hc5 with h|h;exact g1 h;rw[g2]at h;cases h)]
def M7:aj:=bd 272
def w214 (hA:C448 Y):Ja (cn Y M7):=λr s hp0=>by
 refine zg ?_;intro u0;refine zf hm (λi=>[.u 3,.p 0 9,.i i,.i r.needs.length,.u 1,.m 3 r.needs bp.D,.i (bK s).1,.u 1,.e (.str (bK s).2.1),.u 4]) (λi=>[(0,.buf 9 [Rec.D r])]) 15 (λi=>i<=r.needs.length/\nW r s=(if(r.needs.drop i).any (itC (bK s).1 (bK s).2.1)=true then 0 else itE (bK s).1)) (λi=>r.needs.length-i) ⟨ae,Yd r s⟩ [(0,0)] ?_;rintro i ⟨hi,hr⟩;refine zc ?_ ?_<;>intro hc0
 .refine jb ?_;refine jb ?_;refine cY ?_;refine cC 0 (hb:=λh=>K0) ?_;refine cY ?_;refine dm (q:=c9.D) (xs:=r.needs[i]!.any) (i:=0) (hi:=λh=>K0) (v:=(.str r.needs[i]!.any[0]!.name)) ?_;refine zg ?_;refine wp_cond (λhc1=>?_) (λhc1=>?_)
  .have hz:itC (bK s).1 (bK s).2.1 r.needs[i]! =true:=hc1;refine zr ?_;rw[hr,wJ ae hz];rfl
  have hz:itC (bK s).1 (bK s).2.1 r.needs[i]! =false:=hc1;refine fM (i+1) [(0,0)] ?_;rw[hr,Cf ae hz]
 refine fw ?_;have he:nW r s=itE (bK s).1:=by rw[hr,wI ae];rfl
 refine zc ?_ ?_<;>intro hc2
 .refine zr ?_;rw[he,itE,ak hc2]
 refine zc ?_ ?_<;>intro hc3
 .refine zr ?_;rw[he,itE,ai hc2,ak hc3]
 refine zr ?_;rw[he,itE,ai hc2,ai hc3]
def qM:aj:=bd 56
def w298 (hm:(Y.at 1).bN)(hA:G9 (Y.at 1))(g:Gs)(l:List bp)(hp0:0<=g.i/\g.i<=980000)(hp1:(∀n∈l,n.sm)/\l.length<=1000):dk (Y.at 1) qM.body (E5 qM 2 (bY.D (mV g l).1) (Gs.D (mV g l).2):Ex->List aY->St->Prop) (fP qM (.ptr 0 2 0 0::[.sl 3 (l.map bp.D)])) ⟨1,[(0,.buf 2 [(Gs.D g)])]⟩:=by
 show dk _ _ _ [⟨true,.ptr 0 2 0 0⟩,⟨true,.sl 3 (l.map bp.D)⟩,.un,.un,.un,.un,.un,.un,.un,.un] ⟨1,[(0,.buf 2 [(Gs.D g)])]⟩;refine ax ?_;refine dt ?_;refine cq [.str [102],.aR] ?_;refine zg ?_;refine gG hm (ι:=Nat) (λi=>[⟨true,.ptr 0 2 0 0⟩,⟨true,.sl 3 ((l).map bp.D)⟩,⟨true,.ptr 1 2 0 0⟩,⟨true,.int .i64 (i:Nat)⟩,.un,⟨true,.ptr 2 2 0 0⟩,.un,.un,.un,.un]) (λi=>[(0,.buf 2 [Gs.D g]),(1,.buf 2 [.agg [.str [],.aR]]),(2,.buf 2 [.agg [.str [102],.own 3 1 0 (q9 l i).length]]),(3,.buf 1 ((q9 l i).map D.str))]) 6 (λi=>i<=l.length) (λi=>l.length-i) 0 ae (aZ.to [(1,1),(3,2)] ah ah fK (by refine bn.nl 0 ah ah ah dL ?_;refine bn.nl 1 ah ah ah dL ?_;refine bn.ni 3 ah ah (by exact⟨_,_,rfl,⟨_,rfl,⟨_,_,rfl,⟨rfl,rfl⟩,⟨_,_,rfl,Or.inr ⟨_,_,_,rfl⟩,rfl⟩⟩⟩,rfl⟩) ?_;refine bn.mt ah ah ah ah ?_;exact bn.nil)) ?_;intro i hi;have hrl:=NL l i;refine zg ?_;intro u0;refine dT ?_ ?_<;>intro hc0
 .refine zc ?_ ?_<;>intro hc1
  .refine cY ?_;refine bj [.str qoW] ?_;refine cY ?_;refine br (.agg [.str [102],.own 22 1 0 1]) (he:=cE) ?_;refine zg ?_;have hro:=alh ae hc1;exact⟨i+1,ae,ae,(aZ.to [(1,1),(2,2),(22,3)] ah ah fK (by refine bn.nl 0 ah ah ah dL ?_;refine bn.nl 1 ah ah ah dL ?_;refine bn.eq 2 ah ah (by rw[hro];exact rfl) ?_;refine bn.nl 22 ah ah (by rw[hro];exact rfl) ah ?_;exact bn.nil))⟩
  refine zg ?_;rw[alg ae hc1];exact ir (i+1) [(1,1),(2,2),(3,3)]
 refine dt ?_;obtain rfl:i=l.length:=ae;refine zg ?_;refine zf hm (λi=>[.p 0 2,.m 3 l bp.D,.p 1 2,.u 2,.p 2 2,.u 1,.i i,.u 2]) (λi=>[(0,.buf 2 [Gs.D (gS l g i)]),(1,.buf 2 [.agg [.str [],.aR]]),(2,.buf 2 [.agg [.str [102],.own 3 1 0 (q9 l l.length).length]]),(3,.buf 1 ((q9 l l.length).map D.str))]) 11 (λi=>i<=l.length/\ik l g=ik (l.drop i) (gS l g i)) (λi=>l.length-i) ⟨ae,rfl⟩ [(1,1),(2,2),(3,3)] ?_;rintro i ⟨hi,hr⟩;have hgs:=afL l g i;have hrl:=NL l l.length;refine zg ?_;intro u1;refine dT ?_ ?_<;>intro hc2
 .refine dt ?_;by_cases hl1:l[i]!.any.length=1
  .refine jX ?_;intro u2;refine zp ?_;rw[bg (show((l[i]!.any.length:Nat):Int)=1 by omega)];refine cU ?_;refine ZB (hc:=hA (gS l g i) 3 ae iC) ?_;refine zc ?_ ?_<;>intro hc3
   .refine cY ?_;have hnm:=((hp1.1 _ (aq (show i<l.length by omega))).1 _ (aq (show 0<l[i]!.any.length by omega))).1.1;refine ru ?_;refine cC 0 (hj:=λ_=>rfl) (hb:=λ_=>ae) ?_;refine dt ?_;refine bj [.str (l[i]!.any[0]!.name++[47,102])] ?_;refine cR (q:=D.str) (xs:=(q9 l l.length)) (e:=(l[i]!.any[0]!.name++[47,102])) (hb:=ae) ?_;refine cY ?_;refine br (.agg [.str [102],.own 39 1 0 ((q9 l l.length)++[(l[i]!.any[0]!.name++[47,102])]).length]) (he:=cE) ?_;refine pz ?_;refine bD 39 ?_;refine zg ?_;refine gO trivial Fx (dY ah (?_)) (by rw[Xw hr ae hl1 hc3];exact rfl) ah ah;rw[Xw hr ae hl1 hc3];rfl
   refine zg ?_;rw[show(gS l g i).aI=(gS l g (i+1))from by rw[gS,ak hl1]];refine fM (i+1) [(1,1),(2,2),(3,3)] ?_;rw[hr,akG ae hl1 hc3]
  .refine jX ?_;intro u2;refine zp ?_;rw[bB (show ¬((l[i]!.any.length:Nat):Int)=1 by omega)];refine cU ?_;refine akW ?_;refine r_off (.bool false) ?_;refine zg ?_;refine wp_cond (t:=false) (λh=>cw) (λ_=>?_);refine zg ?_;rw[show(gS l g i)=(gS l g (i+1))from by rw[gS,ai hl1]];refine fM (i+1) [(1,1),(2,2),(3,3)] ?_;rw[hr,akH ae hl1]
 refine jX ?_;refine bD 3 ?_;refine zg ?_;refine gO trivial Fx (dY ah (?_)) (by rw[Xx hr ae];exact rfl) ah ah;rw[Xx hr ae];rfl
def QH:aj:=bd 78
def w355 (hm:(Y.at 0).bN):Jp (cn Y QH):=λx s=>by
 exact mQ
def QI:aj:=bd 77
def w354 (hA:C355 Y):Jo (cn Y QI):=λl s=>by
 refine zg ?_;intro u0;refine zf hm (λi=>[.m 2 l cj.D,.e (.fn 355 [.ref 2 [cj.D s] 0 0]),.u 1,.i i,.i l.length,.u 1,.m 2 l cj.D,.u 3]) (λi=>[]) 4 (λi=>i<=l.length/\mz l s.name=iD (F3 s.name) (l.drop i) i) (λi=>l.length-i) ⟨ae,rfl⟩ [] ?_;rintro i ⟨hi,hr⟩;refine zc ?_ ?_<;>intro hc0
 .refine pz ?_;refine br _ ?_;refine fw ?_;refine B0 (hc:=λ_=>hA l[i]! s) ?_;refine zc ?_ ?_<;>intro hc1
  .refine zr ?_;rw[hr,nV ae hc1]
  refine fM (i+1) [] ?_;rw[hr,lF ae hc1]
 refine zr ?_;rw[hr,nU ae]
def aaq:aj:=bd 32
def w142 (hA:C353 Y)(hB:C354 Y):tR (cn Y aaq):=λl hp0=>by
 refine zg ?_;intro u0;refine dT ?_ ?_<;>intro hc0
 .refine zr ?_;unfold eR;rw[bB ae,Bool.false_and]
 refine zg ?_;intro u1;refine zf hm (λi=>[.m 2 l cj.D,.u 2,.i i,.i l.length,.u 1,.m 2 l cj.D,.u 3]) (λi=>[]) 7 (λi=>i<=l.length/\eR l=bI (zC l) i l.length) (λi=>l.length-i) ⟨ae,by unfold eR;rw[bg ae,ez]⟩ [] ?_;rintro i ⟨hi,hr⟩;refine zc ?_ ?_<;>intro hc1
 .refine qp ?_;refine bD 11 ?_ (he:=abg) (hm:=abg);refine cU ?_;refine aD (hc:=hA (l[i]!) (by first|assumption|omega|exact hp0 _ (aq ae)|exact hp0.1|exact hp0.2)) ?_;refine dt ?_;refine ZJ [.ref 2 [cj.D l[i]!] 0 0] ?_;refine zc ?_ ?_<;>intro hc2
  .refine zr ?_;rw[hr,ay ae,aas hc2];rfl
  refine fM (i+1) [] ?_;rw[hr,ay ae,Vv ae hc2];rfl
 refine zr ?_;rw[hr,bA ae]
def Nk:aj:=bd 106
def w359:ud (cn Y Nk):=λl nm=>by
 refine zg ?_;refine zf hm (λi=>[.m 2 l cj.D,.e (.str nm),.u 1,.i i,.u 2]) (λi=>[]) 2 (λi=>i<=l.length/\mz l nm=iD (F3 nm) (l.drop i) i) (λi=>l.length-i) ⟨ae,rfl⟩ [] ?_;rintro i ⟨hi,hr⟩;refine zg ?_;intro u0;refine dT ?_ ?_<;>intro hc0
 .refine zc ?_ ?_<;>intro hc1
  .refine zr ?_;rw[hr,nV ae (by simpa[F3]using hc1)]
  refine fM (i+1) [] ?_;rw[hr,lF ae (by simpa[F3]using hc1)]
 refine zr ?_;rw[hr,nU ae]
def U6:aj:=bd 64
def w145 (hA:V2 Y)(hB:C359 Y):tR (cn Y U6):=λl hp0=>by
 refine zg ?_;intro u0;refine dT ?_ ?_<;>intro hc0
 .refine zr ?_;unfold eR;rw[bB ae,Bool.false_and]
 refine zg ?_;refine zf hm (λi=>[.m 2 l cj.D,.u 2,.i i,.u 2]) (λi=>[]) 5 (λi=>i<=l.length/\eR l=bI (zC l) i l.length) (λi=>l.length-i) ⟨ae,by unfold eR;rw[bg ae,ez]⟩ [] ?_;rintro i ⟨hi,hr⟩;refine zg ?_;intro u1;refine dT ?_ ?_<;>intro hc1
 .refine ru ?_;refine aD (hc:=hA ((l)[i]!) (by first|assumption|omega|exact hp0 _ (aq ae)|exact hp0.1|exact hp0.2)) ?_;refine zc ?_ ?_<;>intro hc2
  .refine zr ?_;rw[hr,ay ae,aeY hc2];rfl
  refine fM (i+1) [] ?_;rw[hr,ay ae,NZ hc2];rfl
 refine zr ?_;rw[hr,bA ae]
def QG:aj:=bd 36
def w274 (hm:(Y.at 0).bN)(hA:C353 Y)(hB:C511 Y):Jg (cn Y QG):=λs nm v hp0=>by
 refine zc ?_ ?_<;>intro hc0
 .refine zr ?_;unfold oJ;rw[ak hc0]
 refine jX ?_;refine aD (hc:=hB (s.es) (nm) (v) (by first|assumption|omega|exact hp0.1|exact⟨λx hx=>(hp0.1 x hx).1.2,hp0.2⟩)) ?_;refine zr ?_;unfold oJ;rw[ai (by rw[hc0];simp)]
def Ix:aj:=bd 201
def w554 (hm:(Y.at 0).bN)(hA:C734 Y):J2 (cn Y Ix):=λv hp0=>by
 show dk _ _ _ [⟨_,_⟩,_,_,_] _;obtain⟨hq1,hq2,hq3⟩:=hp0;simp only[CL,aK,aX]at hq1 hq2 hq3;have hl1:=gT 4 v.major.toNat ae ae;have hl2:=gT 4 v.minor.toNat ae ae;have hl3:=gT 4 v.patch.toNat ae ae;refine ax ?_;exact mQ
def Qy:aj:=bd 152
def w316 (hm:(Y.at 0).bN)(hA:Ca Y)(hB:C554 Y):ug (cn Y Qy):=λv hp0=>by
 show dk _ _ _ [⟨_,_⟩,_,_,_,_,_,_] _;obtain⟨hs1,hs2⟩:=hp0;have hp0:v.sm:=⟨hs1,hs2⟩;refine ax ?_;refine zg ?_;refine aH (λhc0=>?_) (λhc0=>?_)
 .simp only[cg]at hc0;refine zr ?_;simp[oq,hc0]
 simp only[cX]at hc0;refine cU ?_;have hv:=hc0;simp only[fT,aK]at hv;obtain⟨⟨⟨⟨hv1,hv2⟩,hv3⟩,_⟩,_⟩:=hv;have hq1:=hv1;have hq2:=hv2;have hq3:=hv3;simp only[CL,aK,aX]at hq1 hq2 hq3;have hl1:=gT 4 v.major.toNat ae ae;have hl2:=gT 4 v.minor.toNat ae ae;have hl3:=gT 4 v.patch.toNat ae ae;refine zc ?_ ?_<;>intro hc1
 .refine zc ?_ ?_<;>intro hc2
  .refine zr ?_;simp[oq,FD,hc0,hc1,hc2]
  refine zr ?_;simp[oq,FD,hc0,hc1,hc2]
 refine zc ?_ ?_<;>intro hc2
 .refine zr ?_;simp[oq,FD,hc0,hc1,hc2]
 refine zr ?_;simp[oq,FD,hc0,hc1,hc2]
def Vn:aj:=bd 50
def w464 (hm:(Y.at 0).bN):JJ (cn Y Vn):=λh n hp0=>by
 refine jX ?_;refine AE (GC h n) (hb:=λ_=>by rw[show min (Int.toNat (n:Int)) (IntKind.bits .u64)=n by simp[IntKind.bits];omega];rfl) ?_;refine cU ?_;refine vW ((64-n:Nat):Int) (hb:=λ_=>wu) ?_;refine Gq (vw h (64-n)) (hb:=λ_=>by rw[show min (Int.toNat ((64-n:Nat):Int)) (IntKind.bits .u64)=64-n by simp[IntKind.bits]];rfl) ?_;refine SD (rot h n) (hb:=λ_=>rfl) ?_;refine zg ?_;refine dj (ar (D.int .u64) ?_);rfl
def aab:aj:=bd 16
def w221 (hA:C464 Y):tY (cn Y aab):=λs=>by
 refine zg ?_;refine zf hm (λi=>[.e (.sl 1 (s.map λb=>D.int .u8 b.toNat)),.u 1,.i i,.u 1,.e (.int .u64 (zG (s.take i)))]) (λi=>[]) 3 (λi=>i<=s.length) (λi=>s.length-i) ae [] ?_;intro i hi;refine zg ?_;intro u0;refine dT ?_ ?_<;>intro hc0
 .refine ru ?_;refine dm (v:=.int .u8 (at8 s i)) (hv:=λ_=>ld8 s i) ?_;refine m5 (at8 s i) (hb:=λ_=>by have:=yF s i;rw[IntKind.wrap_u64];omega) ?_;refine Ia (Te (zG (s.take i)) (at8 s i)) (hb:=λ_=>rfl) ?_;refine cY ?_;refine ZK (zG (s.take (i+1))) (hb:=λ_=>by rw[GO s i ae];rfl) ?_;exact ir (i+1) []
 refine dt ?_;have ht:s.take i=s:=fE ae;rw[ht];refine cU ?_;refine Gq (vw (zG s) 29) (hb:=λ_=>rfl) ?_;refine Ia (En s) (hb:=λ_=>rfl) ?_;refine zg ?_;refine dj (ar (D.int .u64) ?_);rfl
def Qq:aj:=bd 220
def w403 (hA:Tz Y)(hB:C617 Y)(hC:C618 Y):Jt (cn Y Qq):=λw i hp0=>by
 refine cY ?_;obtain⟨j,rfl⟩:∃j:Nat,i=(j:Int):=⟨i.toNat,ae⟩
 have hjl:j<w.us.length:=ae;have hju:=hp0.1 _ (aq hjl);simp only[Int.toNat_natCast];refine qp ?_;refine br _ ?_;refine zg ?_;intro u0;refine dT ?_ ?_<;>intro hc0
 .refine zr ?_;unfold sZ mE;grind
 refine zc ?_ ?_<;>intro hc1
 .refine zr ?_;unfold sZ mE Al;grind
 refine jb ?_;refine fw ?_;refine cC ((j-1)) (hj:=λhf=>ct) (hb:=λhf=>ct) ?_;refine zc ?_ ?_<;>intro hc2
 .refine zr ?_;unfold sZ mE;grind
 refine zg ?_;refine zf hm (λk=>[.u 1,.i j,.u 1,.p 0 1,.p 1 3,.u 3,.i k,.u 2]) (λk=>[(0,.buf 1 [cA.D w]),(1,.buf 3 [dz.D (w.us[j]!)])]) 54 (λk=>k<=w.us[j]!.cands.length/\bI (nN w.us.length w.us[j]!.cands) 0 w.us[j]!.cands.length=bI (nN w.us.length w.us[j]!.cands) k w.us[j]!.cands.length) (λk=>w.us[j]!.cands.length-k) ⟨ae,rfl⟩ [(0,0),(7,1)] ?_;rintro k ⟨hk,hr⟩;refine zg ?_;intro u1;refine dT ?_ ?_<;>intro hc3
 .refine Ov ?_;refine aD (hc:=hC ((w.us[j]!.cands)[k]!) _ ?_) ?_;rotate_left;first|assumption|omega|(grind [cA.sm,dz.sm,fj.sm,aq])
  refine B8 ?_;refine cC ((k-1)) (hj:=λhf=>ct) (hb:=λhf=>ct) ?_;refine pz ?_;refine bX (hc:=λhf=>hA ((w.us[j]!.cands)[(k-1)]!.v) ((w.us[j]!.cands)[k]!.v) (by first|assumption|omega|(grind [cA.sm,dz.sm,fj.sm,aq]))) ?_;refine zc ?_ ?_<;>intro hc4
  .refine zr ?_;unfold sZ mE;rw[hr,ay (i:=k) ae];simp only[nN];grind
  refine fM (k+1) [(0,0),(1,1)] ?_;rw[hr,ay ae];simp only[nN];grind
 refine zr ?_;unfold sZ mE Al;rw[hr,bA (i:=k) ae];grind
def U9:aj:=bd 174
def w169 (hA:C403 Y):tS (cn Y U9):=λw hp0=>by
 refine zg ?_;intro u0;refine dT ?_ ?_<;>intro hc0
 .refine zr ?_;rw[EA];grind
 refine zg ?_;refine zf hm (λi=>[.u 2,.p 0 1,.u 1,.i i,.u 2]) (λi=>[(0,.buf 1 [cA.D w])]) 13 (λi=>i<=w.us.length/\bI (sZ w.us) 0 w.us.length=bI (sZ w.us) i w.us.length) (λi=>w.us.length-i) ⟨ae,rfl⟩ [(0,0)] ?_;rintro i ⟨hi,hr⟩;refine zg ?_;intro u1;refine dT ?_ ?_<;>intro hc1
 .refine zc ?_ ?_<;>intro hc2
  .refine zr ?_;rw[EA,hr,ay ae];grind
  refine fM (i+1) [(0,0)] ?_;rw[hr,ay ae];grind
 refine zr ?_;rw[EA,hr,bA ae];grind
def Qp:aj:=bd 162
def w750 (hA:C903 Y):Kq (cn Y Qp):=λall l hp0=>by
 refine zg ?_;intro u0;refine zf hm (λi=>[.m 2 all Key.D,.u 2,.i i,.i l.length,.u 1,.m 1 l dU,.u 7,.o 0 1 (dF all (l.take i)).length]) (λi=>[(0,.buf 1 ((dF all (l.take i)).map jC))]) 5 (λi=>i<=l.length) (λi=>l.length-i) ae [] ?_;intro i hi;have htl:=VE all l i;refine zc ?_ ?_<;>intro hc0
 .refine fw ?_;refine dm (v:=.sl 4 (((l)[i]!).map jk.D)) (hi:=λhf=>ct) ?_;refine dt ?_;have hrl:=hp0.2 _ (aq (show i<l.length by omega));refine zg ?_;intro u1;refine zf hm (λj=>[.m 2 all Key.D,.u 2,.i i,.i l.length,.u 1,.m 1 l dU,.u 1,.i j,.i (l[i]!.length:Nat),.u 1,.m 4 (l[i]!) jk.D,.o 1 3 (rT all l[i]! j).length,.u 1,.o 0 1 (dF all (l.take i)).length]) (λj=>[(0,.buf 1 ((dF all (l.take i)).map jC)),(1,.buf 3 ((rT all l[i]! j).map Want.D))]) 13 (λj=>j<=l[i]!.length) (λj=>l[i]!.length-j) ae [(0,0)] ?_;intro j hj;have htl2:=VF all l[i]! j;refine zc ?_ ?_<;>intro hc1
  .refine jX ?_;refine br _ ?_;refine B8 ?_;refine aV (Want.D ⟨eu all l[i]![j]!.k,l[i]![j]!.s⟩) ?_;refine bj [Want.D ⟨eu all l[i]![j]!.k,l[i]![j]!.s⟩] ?_;refine cR (q:=Want.D) (xs:=rT all l[i]! j) (e:=⟨eu all l[i]![j]!.k,l[i]![j]!.s⟩) (hb:=ae) ?_;refine zg ?_;rw[ae5 ae];exact ir (j+1) [(0,0),(27,1)]
  refine cU ?_;obtain rfl:j=l[i]!.length:=ae;refine bD 1 ?_ (he:=KQ) (hm:=KQ);refine dt ?_;refine bj [jC (rT all l[i]! l[i]!.length)] ?_;refine cR (q:=jC) (xs:=dF all (l.take i)) (e:=rT all l[i]! l[i]!.length) (hb:=ae) ?_;refine zg ?_;rw[ae4 ae];exact ir (i+1) [(17,0)]
 refine cU ?_;obtain rfl:i=l.length:=ae;rw[List.take_length];refine bD 0 ?_ (he:=KQ) (hm:=KQ);exact mQ
def Qj:aj:=bd 166
def w754 (hA:C903 Y)(hB:C907 Y)(hC:C908 Y):Ks (cn Y Qj):=λall r e hp0=>by
 refine cY ?_;have hbl:=hp0.1.1.2.1.2;refine zg ?_;refine zf hm (λi=>[.m 2 all Key.D,.u 3,.i i,.p 1 9,.u 2,.p 2 3,.u 1,.o 0 3 (((r.bars.take i).flatMap (qz all e))).length]) (λi=>[(0,.buf 3 ((((r.bars.take i).flatMap (qz all e))).map Want.D)),(1,.buf 9 [Rec.D r]),(2,.buf 3 [Env.D e])]) 5 (λi=>i<=r.bars.length) (λi=>r.bars.length-i) ae [(0,1),(1,2)] ?_;intro i hi;have hol:=TP all e r.bars i;refine zg ?_;intro u0;refine dT ?_ ?_<;>intro hc0
 .refine qp ?_;refine aV (Key.D ⟨r.bars[i]!.name,[]⟩) ?_;refine jb ?_;refine bX (hc:=λhf=>hB ((r.bars)[i]!.when') (e) abv) ?_;refine zc ?_ ?_<;>intro hc1
  .refine B8 ?_;refine aD (hc:=hC ((r.bars)[i]!.range) abv) ?_;refine aV (Want.D (⟨eu all ⟨r.bars[i]!.name,[]⟩,ff r.bars[i]!.range⟩:Want)) ?_;refine bj [Want.D (⟨eu all ⟨r.bars[i]!.name,[]⟩,ff r.bars[i]!.range⟩:Want)] ?_;refine cR (q:=Want.D) (xs:=((r.bars.take i).flatMap (qz all e))) (e:=(⟨eu all ⟨r.bars[i]!.name,[]⟩,ff r.bars[i]!.range⟩:Want)) (hb:=ae) ?_;refine zg ?_;rw[<-ahU hc1,Rx ae];exact ir (i+1) [(43,0),(1,1),(2,2)]
  refine zg ?_;rw[show((r.bars.take i).flatMap (qz all e))=(r.bars.take (i+1)).flatMap (qz all e)from by rw[<-Rx ae,ahT hc1,fZ]];exact ir (i+1) [(0,0),(1,1),(2,2)]
 refine cU ?_;obtain rfl:i=r.bars.length:=ae;rw[List.take_length];refine bD 0 ?_;exact mQ
def Fz:aj:=⟨2,7,[⟨2,none⟩],Pa,(sq (rg [gb 2 s1,gm OS] [(5,0),(2,1)]) (sq (sq (r1 [gm yW] 3 0) (.block 0 (.loop (sq (sq (r1 [gm s3,gm s0,gl l1,mL l0 l2] 4 3) (gce s4 0)) (sq (.block 1 (sq (r2 [gm s0,gm s3,ga 2 l0 l1,gk 2 true l2,gk 2 true s5,gn (.eqA false true [.i .i64,.i .i64] l3 l4)] 6 5) (.cond s6 (sq (r1 [gm cbT] 2 0) .ret) .skip))) (r1 [gm s3,pj l0 R2,gm l1] 3 2)))))) (sq (r1 [gm OS] 2 0) .ret)))⟩
def w831:KA (cn Y Fz):=λl o=>by
 refine zg ?_;refine zf hm (λi=>[.m 2 l ec.D,.u 2,.i i,.u 1,.p 0 2,.u 1]) (λi=>[(0,.buf 2 [ec.D o])]) 3 (λi=>i<=l.length/\offB l o=o8 (λi=>decide (l[i]! =o)) i l.length) (λi=>l.length-i) ⟨ae,rfl⟩ [(0,0)] ?_;rintro i ⟨hi,hr⟩;refine zg ?_;intro u0;refine dT ?_ ?_<;>intro hc0
 .refine zc ?_ ?_<;>intro hc1
  .refine zr ?_;rw[hr,lR ae,bg hc1,Bool.true_or]
  refine fM (i+1) [(0,0)] ?_;rw[hr,lR ae,bB hc1,Bool.false_or]
 refine zr ?_;rw[hr,wG ae]
def Ik:aj:=bd 180
def w72 (hm:(Y.at 0).bN)(hA:C70 Y)(hB:C215 Y):zO (cn Y Ik):=λr hp0=>by
 refine zc ?_ ?_<;>intro hc0
 .refine zg ?_;refine dj (ba (ar D.str ?_) (ar (D.int .i64) ?_));all_goals
   simp[fC,hc0]
 refine cU ?_;have hgd:=ma hc0;refine zg ?_;refine dj (ba (ar D.str ?_) (ar (D.int .i64) ?_));all_goals
  simp[fC,hc0]
def P5:aj:=bd 128
def w74 (hm:(Y.at 0).bN)(hA:C72 Y)(hB:C220 Y):zP (cn Y P5):=λr hp0=>by
 refine zc ?_ ?_<;>intro hc0
 .refine zg ?_;refine dj (ba (ar (D.int .u64) ?_) (ar (D.int .i64) ?_));all_goals
   simp[wj,hc0]
 refine fw ?_;refine aD (hc:=hB (fC r).1) (ha:=λ_=>ar (λd=>[d]) (lX (q:=λb:UInt8=>D.int .u8 b.toNat) (λ_=>rfl) ah)) (hp:=λ_=>⟨jT (q:=λb:UInt8=>D.int .u8 b.toNat) (λ_=>rfl) ah,trivial⟩) ?_;refine zg ?_;refine dj (ba (ar (D.int .u64) ?_) (ar (D.int .i64) ?_));all_goals
  simp[wj,hc0]
def Qf:aj:=bd 326
def w1120 (hA:Ha Y):EV (cn Y Qf):=λl=>by
 refine zg ?_;refine zf hm (λi=>[.m 2 l iH.D,.u 1,.i i,.u 2]) (λi=>[]) 2 (λi=>i<=l.length/\Ay l=bI (λi=>decide (MW l i=0)) i l.length) (λi=>l.length-i) ⟨ae,rfl⟩ [] ?_;rintro i ⟨hi,hr⟩;refine zg ?_;intro u0;refine dT ?_ ?_<;>intro hc0
 .refine jb ?_;refine EH ?_;refine cC ((i-1)) (hj:=λhf=>ct) (hb:=λhf=>ct) ?_;refine zc ?_ ?_<;>intro hc1
  .refine zr ?_;rw[hr,ay ae,Zg (by rcases hc1 with(h|h)|⟨h,h2⟩<;>simp_all)];rfl
  refine fM (i+1) [] ?_;rw[hr,ay ae,US (by rintro((h|h)|⟨h,h2⟩)<;>simp_all)];rfl
 refine zr ?_;rw[hr,bA ae]
def Nj:aj:=bd 67
def w361 (hm:(Y.at 0).bN)(hA:C359 Y):ud (cn Y Nj):=λl nm=>by
 exact mQ
end Go.Abs
end
