/- A part of the proofs. -/
import Derived.Test.YtgdpmljblomcfaaGreatDoorP04
set_option linter.all false
set_option maxRecDepth 60000
set_option maxHeartbeats 2000000
noncomputable section
namespace Go.Abs
variable {Y:Ctx}(hm:(Y.at 0).bR)
def sJ:aj:=⟨3,17,[⟨3,none⟩,⟨4,none⟩],[[.sl 8 [.a,.a,.a,.a,.a,.a,.sl 1 [.sl 3 [.a,.sl 14 [.a,.a],.sl 14 [.a,.a]]],.sl 3 [.a,.sl 14 [.a,.a,.a,.a,.a,.a],.sl 14 [.a,.a,.a,.a,.a,.a]]]],[.a]],(sq (rg [gb 8 s0,gb 2 s2,gm (.c (.aJ)),gm cbF] [(7,0),(5,1),(3,2),(4,3)]) (sq (sq (r1 [gk 2 true s5,gn (.build [.str [],.str []] []),gn (.eqA false true [.s,.s] l0 l1)] 6 2) (.cond s6 (sq (rg [gm s1,gk 8 true s7,gn (.callM 751 [l1]),gx 750 [l0,l2] [[.sl 2 [.a,.a]],[.sl 1 [.sl 4 [.a,.a,.sl 14 [.a,.a,.a,.a,.a,.a,.a,.a,.a,.a,.a,.a,.a,.a],.sl 14 [.a,.a,.a,.a,.a,.a,.a,.a,.a,.a,.a,.a,.a,.a]]]]],gn (.build [.int .i64 0,.int .i64 0,.int .i64 0,.str [],.str [],.int .i64 0,.aJ,.aJ] [(5,1,(.c (.int .i64 (-1)))),(6,1,l3)]),gn (.bsl 8 (.agg [.int .i64 0,.int .i64 0,.int .i64 0,.str [],.str [],.int .i64 0,.aJ,.aJ]) 1 [(0,l4)]),gm l5,gm cbT] [(3,6),(4,7)]) .ret) .skip)) (sq (r1 [gm (.c (.aJ))] 16 0) (sq (sq (rg [gk 8 true s7,gk 2 true s5,gn (.callM 752 [l0,l1]),gl l2,gm rM] [(11,2),(9,3),(8,4)]) (.block 0 (.loop (sq (r1 [lz s8 s9] 10 0) (sq (US H5 0) (sq (.block 1 (sq (r1 [ga 10 s11 s8,gk 10 true l0,gb 10 (.c (.agg [.str [],.int .i64 0,.int .i64 0,.int .i64 0,.str [],.str [],.aJ,.aJ,.aJ,.int .i64 0])),gt 10 l2 l1] 12 2) (sq (r2 [gf 0 R5,gf 1 l0,gk 5 true l1,gf 9 R5,gd l3,gm s1,gf 0 R5,gk 9 true l6,gf 2 s7,gk 3 true l8,gf 1 s5,gd l10,gx 753 [l7,l9,Xg] [zzh1,[.a,.a,.a],[.a]],gx 750 [l5,l12] [[.sl 2 [.a,.a]],[.sl 1 [.sl 4 [.a,.a,.sl 14 [.a,.a,.a,.a,.a,.a,.a,.a,.a,.a,.a,.a,.a,.a],.sl 14 [.a,.a,.a,.a,.a,.a,.a,.a,.a,.a,.a,.a,.a,.a]]]]],gn (.build [.int .i64 0,.int .i64 0,.int .i64 0,.str [],.str [],.int .i64 0,.aJ,.aJ] [(0,5,l2),(5,1,l4),(6,1,l13)]),gb 8 (.c (.agg [.int .i64 0,.int .i64 0,.int .i64 0,.str [],.str [],.int .i64 0,.aJ,.aJ])),gt 8 l15 l14] 14 15) (sq (sq (r1 [gf 1 s5,gd l0,Hh l1 cse] 13 2) (.cond s13 (rg [gm s1,gf 0 R5,gk 9 true l1,gf 2 s7,gk 3 true l3,gx 754 [l0,l2,l4] [[.sl 2 [.a,.a]],zzh1,[.a,.a,.a]],gf 7 s14,gt 1 l6 l5] []) .skip)) (sq (sq (r1 [gf 6 s14,gd l0,gl l1,XC l2 (i6 24),gm l3,gff 4 7 s14,gdf 4 l5,uD 4 (.len l6),uD 4 (b_gtr l7 (i6 24)),Q3 l4 l8] 15 9) (.cond s15 (sq (rg [gm (.c (.aJ)),gm cbF] [(3,0),(4,1)]) .ret) .skip)) (r1 [gm s16,gk 8 true s14,gn (.bsl 8 (.agg [.int .i64 0,.int .i64 0,.int .i64 0,.str [],.str [],.int .i64 0,.aJ,.aJ]) 1 [(0,l1)]),gn (.app 8 l0 l2),gm l3] 16 4)))))) (r1 [mE s8 Kq,gm l0] 8 1))))))) (sq (rg [gm s16,gk 8 true s7,gf 0 s5,gd l2,gn (.callM 755 [l1,l3]),gl l4,ai9 l5 (i6 16),gm l0,gm l6] [(3,7),(4,8)]) .ret)))))⟩
def w583 {Y:Ctx}(hm:(Y.at 3).bR)(y:cD)(ns:List av)(all:List Key)(k:Key)(hA:C750 (Y.at 3))(hB:C751 (Y.at 3))(hC:C752 (Y.at 3))(hD:C753 (Y.at 3))(hE:C754 (Y.at 3))(hF:C755 (Y.at 3))(hp0:qp y/\kX y.e)(hp1:ns.length<=990):dp (Y.at 3) sJ.body (rI sJ (Ku y (jo ns k) (rV y all k)):Ex->List aX->St->Prop) (fq sJ [cD.D y (.ptr 0 2 0 0),.sl 2 (all.map Key.D),Key.D k]) ⟨3,[(0,.buf 2 [eF 1 2 ns.length]),(1,.buf 1 (ns.map D.str)),(2,.buf 1 (dk y ns))]⟩:=by
 show dp _ _ _ [⟨true,cD.D y (.ptr 0 2 0 0)⟩,⟨true,.sl 2 (all.map Key.D)⟩,⟨true,Key.D k⟩,.un,.un,.un,.un,.un,.un,.un,.un,.un,.un,.un,.un,.un,.un] ⟨3,[(0,.buf 2 [eF 1 2 ns.length]),(1,.buf 1 (ns.map D.str)),(2,.buf 1 (dk y ns))]⟩;refine aO ?_;refine pA ?_;refine bg (Key.D fZ) ?_;refine zc ?_ ?_<;>intro hc0
 .refine cx ?_;have hrl:=H3 hp0.1.p;refine cx ?_;refine dC (nx':=12) (v:=.sl 1 ((eC y.l).map dR)) (m':=[(12,.buf 1 ((ns).map D.str)),(13,.buf 1 (dk y (ns))),(0,.buf 2 [eF 12 13 (ns).length]),(3,.buf 8 [cD.D y (.ptr 0 2 0 0)]),(4,.buf 2 [Key.D k])]) (hc:=fun K' hK=>hB y ns hp0.1.m (Sr hp0.1.p) _ 0 1 2 _ K' ep ep ep aT ⟨rfl,rfl,rfl⟩ hK) (hn:=aT) ?_;refine cH ?_;refine bg (.agg [.int .i64 (⟨zV,-1,dL all (eC y.l),[]⟩:ei).v.major,.int .i64 (⟨zV,-1,dL all (eC y.l),[]⟩:ei).v.minor,.int .i64 (⟨zV,-1,dL all (eC y.l),[]⟩:ei).v.patch,.str (⟨zV,-1,dL all (eC y.l),[]⟩:ei).v.pre,.str (⟨zV,-1,dL all (eC y.l),[]⟩:ei).v.build,.int .i64 (⟨zV,-1,dL all (eC y.l),[]⟩:ei).sh,.sl 1 ((⟨zV,-1,dL all (eC y.l),[]⟩:ei).needs.map jC),.aJ]) ?_;refine ba [.agg [.int .i64 (⟨zV,-1,dL all (eC y.l),[]⟩:ei).v.major,.int .i64 (⟨zV,-1,dL all (eC y.l),[]⟩:ei).v.minor,.int .i64 (⟨zV,-1,dL all (eC y.l),[]⟩:ei).v.patch,.str (⟨zV,-1,dL all (eC y.l),[]⟩:ei).v.pre,.str (⟨zV,-1,dL all (eC y.l),[]⟩:ei).v.build,.int .i64 (⟨zV,-1,dL all (eC y.l),[]⟩:ei).sh,.sl 1 ((⟨zV,-1,dL all (eC y.l),[]⟩:ei).needs.map jC),.aJ]] ?_;refine dx ?_;refine AO [(0,.buf 2 [eF 12 13 (ns).length]),(12,.buf 1 ((ns).map D.str)),(13,.buf 1 (dk y (ns))),(17,.buf 8 [ei.D (⟨zV,-1,dL all (eC y.l),[]⟩:ei)])] ((.id ah (.id ah (.id ah (.bf ah (.cons (.ag ((.cons (.refl _) (.cons (.refl _) (.cons (.refl _) (.cons (.refl _) (.cons (.refl _) (.cons (.refl _) (.cons (.refl _) (.cons (.nil 3) .nil)))))))))) .nil) .nil))))) ?_;refine bh 17 ?_;refine zg ?_;refine dD trivial iF (cU ah (?_)) ah ⟨by first|(rw[rV,KN hc0];done)|(rw[rV,KN hc0];exact rfl),12,13,⟨ae,ae,ae⟩,by rw[Xd hc0];exact sZ⟩;rfl
 refine pA ?_;refine dC (nx':=13) (v:=uG (eH y k)) (m':=[(13,.buf 1 ((eL ns k.n).map D.str)),(14,.buf 1 (dk y (eL ns k.n))),(0,.buf 2 [eF 13 14 (eL ns k.n).length]),(3,.buf 8 [cD.D y (.ptr 0 2 0 0)]),(4,.buf 2 [Key.D k])]) (hc:=fun K' hK=>hC y ns k hp0.1.p ae _ 0 1 2 _ K' ep ep ep aT ⟨rfl,rfl,rfl⟩ hK) (hn:=aT) ?_;refine cx ?_;intro u0;refine bp (env':=[_,_,_,_,_,_,_,_,⟨_,(.int _ _)⟩,⟨_,(.int _ _)⟩,_,⟨_,(.sl _ _)⟩,_,_,_,_,_]) ?_;refine zf hm (fun i=>[.u 1,.m 2 all Key.D,.u 3,.p 4 2,.u 1,.p 3 8,.i i,.i ((eH y k).length:Nat),.u 1,.m 10 (eH y k) uA.D,.u 4,.o 7 8 (((eH y k).take i).map (dX y all k)).length]) (fun i=>[(0,.buf 2 [eF 5 6 (eL ns k.n).length]),(5,.buf 1 ((eL ns k.n).map D.str)),(6,.buf 1 (dk y (eL ns k.n))),(3,.buf 8 [cD.D y (.ptr 0 2 0 0)]),(4,.buf 2 [Key.D k]),(7,.buf 8 ((((eH y k).take i).map (dX y all k)).map ei.D))]) 20 (fun i=>i<=(eH y k).length/\(((eH y k).take i).map (dX y all k)).any ou=false) (fun i=>(eH y k).length-i) ⟨ae,rfl⟩ [(13,5),(14,6),(3,3),(4,4)] ?_;rintro i ⟨hi,hwd⟩;have hof:=(xI hp0.1.p k).1;have hcl:(((eH y k).take i).map (dX y all k)).length<=i:=by rw[bj,eg];omega
 refine zc ?_ ?_<;>intro hc1
 .refine dx ?_;obtain⟨hxp,hxv⟩:=aeY hp0.1 (k:=k) (i:=i) ae;obtain⟨hql,hq3⟩:=lB (e:=y.e) (ft:=k.f) hxp;refine dx ?_;refine bS _ ?_;refine fG ?_;refine cx ?_;refine bg (.agg [.int .i64 (⟨(eH y k)[i]!.r.v,(eH y k)[i]!.sh,dL all (dc (eH y k)[i]!.r y.e k.f),[]⟩:ei).v.major,.int .i64 (⟨(eH y k)[i]!.r.v,(eH y k)[i]!.sh,dL all (dc (eH y k)[i]!.r y.e k.f),[]⟩:ei).v.minor,.int .i64 (⟨(eH y k)[i]!.r.v,(eH y k)[i]!.sh,dL all (dc (eH y k)[i]!.r y.e k.f),[]⟩:ei).v.patch,.str (⟨(eH y k)[i]!.r.v,(eH y k)[i]!.sh,dL all (dc (eH y k)[i]!.r y.e k.f),[]⟩:ei).v.pre,.str (⟨(eH y k)[i]!.r.v,(eH y k)[i]!.sh,dL all (dc (eH y k)[i]!.r y.e k.f),[]⟩:ei).v.build,.int .i64 (⟨(eH y k)[i]!.r.v,(eH y k)[i]!.sh,dL all (dc (eH y k)[i]!.r y.e k.f),[]⟩:ei).sh,.sl 1 ((⟨(eH y k)[i]!.r.v,(eH y k)[i]!.sh,dL all (dc (eH y k)[i]!.r y.e k.f),[]⟩:ei).needs.map jC),.aJ]) ?_;refine dx ?_;refine AO [(0,.buf 2 [eF 5 6 (eL ns k.n).length]),(5,.buf 1 ((eL ns k.n).map D.str)),(6,.buf 1 (dk y (eL ns k.n))),(3,.buf 8 [cD.D y (.ptr 0 2 0 0)]),(4,.buf 2 [Key.D k]),(7,.buf 8 ((((eH y k).take i).map (dX y all k)).map ei.D)),(23,.buf 10 [uA.D (eH y k)[i]!]),(40,.buf 8 [ei.D (⟨(eH y k)[i]!.r.v,(eH y k)[i]!.sh,dL all (dc (eH y k)[i]!.r y.e k.f),[]⟩:ei)])] ((.id ah (.id ah (.id ah (.id ah (.id ah (.id ah (.id ah (.bf ah (.cons (.ag ((.cons (.refl _) (.cons (.refl _) (.cons (.refl _) (.cons (.refl _) (.cons (.refl _) (.cons (.refl _) (.cons (.refl _) (.cons (.nil 3) .nil)))))))))) .nil) .nil))))))))) ?_;refine zc ?_ ?_<;>intro hc2
  .refine pA ?_;refine bS (ei.D (⟨(eH y k)[i]!.r.v,(eH y k)[i]!.sh,dL all (dc (eH y k)[i]!.r y.e k.f),wN all (eH y k)[i]!.r y.e⟩:ei)) (he:=cW) ?_;refine cx ?_;rw[show(⟨(eH y k)[i]!.r.v,(eH y k)[i]!.sh,dL all (dc (eH y k)[i]!.r y.e k.f),wN all (eH y k)[i]!.r y.e⟩:ei)=(dX y all k (eH y k)[i]!)from abG hc2];refine zg ?_;intro u1;refine dE ?_ ?_<;>intro hc3
   .refine ko ?_;refine ig (aV.nz _ [_,_,_,⟨true,.sl 8 []⟩,_,_,_,_,_,_,_,_,_,_,_,_,_] _ _ [(0,.buf 2 [eF 5 6 (eL ns k.n).length]),(5,.buf 1 ((eL ns k.n).map D.str)),(6,.buf 1 (dk y (eL ns k.n)))] ⟨⟨rfl,.refl _⟩,⟨rfl,.refl _⟩,⟨rfl,.refl _⟩,⟨rfl,.nil 8⟩,⟨rfl,.refl _⟩,⟨rfl,.refl _⟩,⟨rfl,.refl _⟩,⟨rfl,.refl _⟩,⟨rfl,.refl _⟩,⟨rfl,.refl _⟩,⟨rfl,.refl _⟩,⟨rfl,.refl _⟩,⟨rfl,.refl _⟩,⟨rfl,.refl _⟩,⟨rfl,.refl _⟩,⟨rfl,.refl _⟩,⟨rfl,.refl _⟩,trivial⟩ (.id ah (.id ah (.id ah .nil)))) ?_;refine zg ?_;refine dD trivial iF (cU ah (?_)) ah ⟨aay,5,6,⟨ae,ae,ae⟩,aaw⟩;rfl
   refine ez ?_;refine ba [ei.D (dX y all k (eH y k)[i]!)] ?_;refine cJ (q:=ei.D) (xs:=(((eH y k).take i).map (dX y all k))) (e:=(dX y all k (eH y k)[i]!)) (hb:=ae) ?_;refine zg ?_;rw[<-map_take (f:=dX y all k) (l:=eH y k) (i:=i) ae];refine gh (i+1) [(3,3),(4,4),(5,5),(6,6),(66,7)] ?_;exact QJ ae hwd ae
  refine cx ?_;rw[show(⟨(eH y k)[i]!.r.v,(eH y k)[i]!.sh,dL all (dc (eH y k)[i]!.r y.e k.f),[]⟩:ei)=(dX y all k (eH y k)[i]!)from abF hc2];refine zg ?_;intro u1;refine dE ?_ ?_<;>intro hc3
  .refine ko ?_;refine ig (aV.nz _ [_,_,_,⟨true,.sl 8 []⟩,_,_,_,_,_,_,_,_,_,_,_,_,_] _ _ [(0,.buf 2 [eF 5 6 (eL ns k.n).length]),(5,.buf 1 ((eL ns k.n).map D.str)),(6,.buf 1 (dk y (eL ns k.n)))] ⟨⟨rfl,.refl _⟩,⟨rfl,.refl _⟩,⟨rfl,.refl _⟩,⟨rfl,.nil 8⟩,⟨rfl,.refl _⟩,⟨rfl,.refl _⟩,⟨rfl,.refl _⟩,⟨rfl,.refl _⟩,⟨rfl,.refl _⟩,⟨rfl,.refl _⟩,⟨rfl,.refl _⟩,⟨rfl,.refl _⟩,⟨rfl,.refl _⟩,⟨rfl,.refl _⟩,⟨rfl,.refl _⟩,⟨rfl,.refl _⟩,⟨rfl,.refl _⟩,trivial⟩ (.id ah (.id ah (.id ah .nil)))) ?_;refine zg ?_;refine dD trivial iF (cU ah (?_)) ah ⟨aay,5,6,⟨ae,ae,ae⟩,aaw⟩;rfl
  refine ez ?_;refine ba [ei.D (dX y all k (eH y k)[i]!)] ?_;refine cJ (q:=ei.D) (xs:=(((eH y k).take i).map (dX y all k))) (e:=(dX y all k (eH y k)[i]!)) (hb:=ae) ?_;refine zg ?_;rw[<-map_take (f:=dX y all k) (l:=eH y k) (i:=i) ae];refine gh (i+1) [(3,3),(4,4),(5,5),(6,6),(58,7)] ?_;exact QJ ae hwd ae
 refine cx ?_;obtain rfl:i=(eH y k).length:=ae;rw[List.take_length]at hwd⊢;refine bh 7 ?_ (he:=Z7) (hm:=Z7);refine ko ?_;refine dC (nx':=23) (v:=uG (dK y k.n)) (m':=[(25,.buf 1 ((eL (eL ns k.n) k.n).map D.str)),(26,.buf 1 (dk y (eL (eL ns k.n) k.n))),(0,.buf 2 [eF 25 26 (eL (eL ns k.n) k.n).length]),(3,.buf 8 [cD.D y (.ptr 0 2 0 0)]),(4,.buf 2 [Key.D k])]) (hc:=fun K' hK=>hF y (eL ns k.n) k.n hp0.1.p (by have:=KF ns k.n;omega) _ 0 5 6 _ K' ep ep ep aT ⟨rfl,rfl,rfl⟩ hK) (hn:=aT) ?_;refine zg ?_;intro u2;refine dD trivial iF (cU ah (?_)) ah ⟨by first|(rw[rV,KL hc0 hwd];done)|(rw[rV,KL hc0 hwd];simp),25,26,⟨ae,ae,ae⟩,by rw[show jo ns k=eL (eL ns k.n) k.n by rw[Oe hc0,SZ]];exact sZ⟩;rw[eU aG,show decide ((dK y k.n).length<=16)=decide (((dK y k.n).length:Int)<=16)from lJ.2 ae];rfl
def Y4:aj:=⟨1,4,re1,ha1,(sq (rg [gb 7 s0,gm cbF] [(2,0),(1,1)]) (sq (sq (r1 [gf 0 s2,gd l0,Hh l1 rM] 3 2) (.cond s3 (sq (r1 [gf 1 s2,gk 5 true l0,gx 217 [l1] ha5,gm l2,Nq 3 1 s2,Nq 3 4 l4,WJ 3 l5,sg 3 (wL l6 cse),UR l3 l7,gm l8] 1 9) .ret) .skip)) (sq (r1 [gf 0 s2,gd l0,gn (wL l1 (.c (.int .i64 (-1)))),gm l2,gff 3 0 s2,gdf 3 l4,uD 3 (wL l5 Kq),Q3 l3 l6,gm l7,Nq 8 1 s2,sg 8 (.ld 5 true l9),sg 8 (.build [.int .i64 0,.int .i64 0,.int .i64 0,.str [],.str []] []),sg 8 (.eqA false true [.i .i64,.i .i64,.i .i64,.s,.s] l10 Xg),UR l8 l12,gm l13,Nq 14 6 s2,WJ 14 l15,sg 14 (.un .not l16),UR l14 l17,gm l18] 1 19) .ret)))⟩
def w1086 {Y:Ctx}(hm:(Y.at 0).bR)(hA:AS Y):qm (cu Y Y4):=fun c hp0=>by
 refine zc ?_ ?_<;>intro hc0
 .refine zr ?_;first|(grind [pI,zV];done)|(simp_all[pI,zV];done)
 refine Bp ?_;refine bg (bZ.D (⟨0,0,0,[],[]⟩)) ?_;refine zr ?_;first|(grind [pI,zV];done)|(simp_all[pI,zV];done)
def HZ:aj:=bc 270
def w1020 (hA:Nv Y)(hB:U8 Y)(hC:Qp Y):qj (cu Y HZ):=fun a b hp0=>by
 refine zc ?_ ?_<;>intro hc0
 .refine zr ?_;first|(grind [kV,dq];done)|(simp_all[kV,dq];done)
 refine zc ?_ ?_<;>intro hc1
 .refine zr ?_;first|(grind [kV,dq];done)|(simp_all[kV,dq];done)
 refine zc ?_ ?_<;>intro hc2
 .refine zr ?_;first|(grind [kV,dq];done)|(simp_all[kV,dq];done)
 refine zc ?_ ?_<;>intro hc3
 .refine zr ?_;first|(grind [kV,dq];done)|(simp_all[kV,dq];done)
 refine zc ?_ ?_<;>intro hc4
 .refine zr ?_;first|(grind [kV,dq];done)|(simp_all[kV,dq];done)
 refine zr ?_;first|(grind [kV,dq];done)|(simp_all[kV,dq];done)
def Py:aj:=bc 271
def w1025 {Y:Ctx}(hm:(Y.at 0).bR)(hA:AS Y)(hB:Nv Y)(hC:Qp Y):qk (cu Y Py):=fun c v hp0=>by
 refine zc ?_ ?_<;>intro hc0
 .refine zr ?_;first|(grind [jX];done)|(simp_all[jX];done)
 refine zc ?_ ?_<;>intro hc1
 .refine zr ?_;first|(grind [jX];done)|(simp_all[jX];done)
 refine zr ?_;first|(grind [jX];done)|(simp_all[jX];done)
def H0:aj:=bc 269
def w1019 {Y:Ctx}(hm:(Y.at 0).bR)(hA:Qo Y)(hB:Qp Y):qi (cu Y H0):=fun s hp0=>by
 refine qo ?_;refine aB (hc:=hB (s.f) jD) ?_;refine dx ?_;refine bQ (hc:=fun hf=>hB (s.t) jD) ?_;refine zr ?_;first|(grind [qa];done)|(simp_all[qa];done)
def Pz:aj:=bc 236
def w926 {Y:Ctx}(hm:(Y.at 0).bR)(hA:AS Y)(hB:Kt Y)(hC:aee Y):uv (cu Y Pz):=fun s v hp0=>by
 refine Bq ?_;refine cH ?_;refine bQ (hc:=fun hf=>hC (s.f) (v) jD) ?_;refine ko ?_;refine bQ (hc:=fun hf=>hC (s.t) (v) jD) ?_;refine zr ?_;first|(grind [sj,qa];done)|(simp_all[sj,qa];done)
def Y6:aj:=bc 234
def w916 (hA:Kt Y)(hB:Qo Y):uu (cu Y Y6):=fun l hp0=>by
 refine zg ?_;refine zf hm (fun i=>[.m 14 l Span.D,.u 1,.i i,.u 2]) (fun i=>[]) 2 (fun i=>i<=l.length/\sO l=bO (Bh l) i l.length) (fun i=>l.length-i) ⟨ae,rfl⟩ [] ?_;rintro i ⟨hi,hr⟩;refine zg ?_;intro u0;refine dE ?_ ?_<;>intro hc0
 .refine qo ?_;refine aB (hc:=hA ((l)[i]!) jD) ?_;refine pA ?_;refine cz ((i-1)) (hj:=fun hf=>cr) (hb:=fun hf=>cr) ?_;refine qo ?_;refine bQ (hc:=fun hf=>hB ((l)[(i-1)]!.t) ((l)[i]!.f) jD) ?_;refine zc ?_ ?_<;>intro hc1
  .refine zr ?_;rw[hr,ay ae];first|(grind [Bh];done)|(simp_all[Bh];done)
  refine gh (i+1) [] ?_;rw[hr,ay ae];first|(grind [Bh];done)|(simp_all[Bh];done)
 refine zr ?_;rw[hr,bB ae]
def Y5:aj:=bc 200
def w782 (hA:Vb Y)(hB:C926 Y):ur (cu Y Y5):=fun l v hp0=>by
 refine zg ?_;refine zf hm (fun i=>[.m 14 l Span.D,.u 2,.i i,.u 1,.p 0 5,.u 1]) (fun i=>[(0,.buf 5 [bZ.D v])]) 3 (fun i=>i<=l.length/\vY l v=(sO l&&oA (fun i=>sj l[i]! v) i l.length)) (fun i=>l.length-i) ⟨ae,rfl⟩ [(0,0)] ?_;rintro i ⟨hi,hr⟩;refine zg ?_;intro u0;refine dE ?_ ?_<;>intro hc0
 .refine pA ?_;refine aB (hc:=hB ((l)[i]!) (v) jD) ?_;refine zc ?_ ?_<;>intro hc1
  .refine zr ?_;rw[hr,jU ae];simp_all
  refine gh (i+1) [(0,0)] ?_;rw[hr,jU ae];simp_all
 refine zr ?_;rw[hr];rcases hc0 with h|h
 .rw[td ae];simp
 .rw[h];rfl
def PA:aj:=bc 258
def w600 {Y:Ctx}(hm:(Y.at 0).bR):Jk (cu Y PA):=fun v=>by
 refine zr ?_;first|(grind [vL];done)|(simp_all[vL];done)
def PB:aj:=bc 235
def w917 {Y:Ctx}(hm:(Y.at 0).bR)(hA:C600 Y):JX (cu Y PB):=fun c=>by
 refine zr ?_;first|(grind [mH];done)|(simp_all[mH];done)
def Y8:aj:=bc 199
def w770 (hA:Vb Y)(hB:C917 Y):uq (cu Y Y8):=fun s hp0=>by
 refine pA ?_;refine aB (hc:=hA (s.rel) jD) ?_;refine ez ?_;refine bQ (hc:=fun hf=>hA (s.pr) jD) ?_;refine zc ?_ ?_<;>intro hc0
 .refine zr ?_;unfold wc;rcases hc0 with h|h<;>simp[h]
 refine zg ?_;refine zf hm (fun i=>[.u 2,.p 0 2,.u 1,.i i,.u 2]) (fun i=>[(0,.buf 2 [cy.D s])]) 13 (fun i=>i<=s.rel.length/\wc s=bO (fun i=>mH s.rel[i]!.f&&mH s.rel[i]!.t) i s.rel.length) (fun i=>s.rel.length-i) ⟨ae,by unfold wc;simp_all⟩ [(0,0)] ?_;rintro i ⟨hi,hr⟩;refine zg ?_;intro u0;refine dE ?_ ?_<;>intro hc1
 .refine zc ?_ ?_<;>intro hc2
  .refine zr ?_;rw[hr,ay ae];rcases hc2 with h|h<;>simp only[h,Bool.and_false,Bool.false_and]
  refine gh (i+1) [(0,0)] ?_;rw[hr,ay ae];simp_all
 refine zr ?_;rw[hr,bB ae]
def Y7:aj:=bc 154
def w627 {Y:Ctx}(hm:(Y.at 0).bR)(hA:AS Y)(hB:U9 Y)(hC:C782 Y):uj (cu Y Y7):=fun s v hp0=>by
 refine zc ?_ ?_<;>intro hc0
 .refine zr ?_;first|(grind [pM];done)|(simp_all[pM];done)
 refine zc ?_ ?_<;>intro hc1
 .refine ko ?_;refine aB (hc:=hC (s.rel) (v) jD) ?_;refine zr ?_;first|(grind [pM];done)|(simp_all[pM];done)
 refine ko ?_;refine aB (hc:=hC (s.pr) (v) jD) ?_;refine zr ?_;first|(grind [pM];done)|(simp_all[pM];done)
def M9:aj:=bc 111
def w441 (hA:C442 Y)(hB:U6 Y)(hC:C658 Y)(hD:C659 Y):IY (cu Y M9):=fun s hp0=>by
 refine zg ?_;refine aQ (fun hc0=>?_) (fun hc0=>?_)
 .simp only[cG]at hc0;refine zr ?_;symm;simp only[sP]at hc0⊢;rw[eo]at hc0⊢;rcases hc0 with h|h
  .exact Or.inl h
  .right;rw[Bool.eq_false_iff]at h⊢;intro h2;apply h;rw[cb]at h2⊢;intro j a b;have:=h2 j a b;simp only[ji,aN]at this⊢;exact⟨this.1,rfl⟩
 simp only[dH]at hc0;refine zg ?_;intro u0;have hT:=hc0;simp only[sP,aN,bn]at hT;obtain⟨hT4,hTa⟩:=hT;rw[cb]at hTa;have hP:sP s true=bO (fun i=>ji true (bd s 46)[i]!) 0 (bd s 46).length:=by
  simp only[sP];rw[bz hT4];rfl
 refine zf hm (fun i=>[.u 3,.i i,.i ((bd s 46).length:Nat),.u 1,.m 1 (bd s 46) D.str,.u 3]) (fun i=>[]) 8 (fun i=>i<=(bd s 46).length/\sP s true=bO (fun i=>ji true (bd s 46)[i]!) i (bd s 46).length) (fun i=>(bd s 46).length-i) ⟨ae,hP⟩ [] ?_;rintro i ⟨hi,hr⟩;refine zc ?_ ?_<;>intro hc1
 .refine zg ?_;refine wp_cond (fun hc2=>?_) (fun hc2=>?_)
  .skip
   refine zr ?_;have hz:ji true (bd s 46)[i]! =false:=by
    simp only[ji];revert hc2;generalize wo (bd s 46)[i]! =c;generalize cP (bd s 46)[i]! =a;generalize oc (bd s 46)[i]! =b;cases a<;>cases b<;>cases c<;>simp
   rw[hr,ay ae,hz];rfl
  skip
  refine zg ?_;have hz:ji true (bd s 46)[i]! =true:=by
   have:=hTa i ae ae;simp only[ji,Bool.false_and,Bool.not_false,gQ]at this;simp only[ji,this];revert hc2;generalize cP (bd s 46)[i]! =a;generalize oc (bd s 46)[i]! =b;cases a<;>cases b<;>simp
  refine gh (i+1) [] ?_;rw[hr,ay ae,hz];rfl
 refine zr ?_;rw[hr,bB ae]
def M8:aj:=bc 64
def w209 {Y:Ctx}(hm:(Y.at 0).bR)(hA:C440 Y)(hB:C441 Y)(hC:C442 Y):tJ (cu Y M8):=fun v hp0=>by
 refine Bq ?_;refine uK ?_;refine bQ (hc:=fun hf=>hB v.pre hp0.1) ?_;refine wA ?_;refine bQ (hc:=fun hf=>hC v.build hp0.2) ?_;exact mr
def G3:aj:=bc 283
def w665 {Y:Ctx}(hm:(Y.at 0).bR)(hA:C336 Y):oV (cu Y G3):=fun n hp0=>by
 exact mr
def E9:aj:=bc 246
def w451 {Y:Ctx}(hm:(Y.at 0).bR)(hA:AR Y)(hB:C665 Y):ua (cu Y E9):=fun v hp0=>by
 show dp _ _ _ [⟨_,_⟩,_,_,_,_,_,_] _;obtain⟨hs1,hs2⟩:=hp0;have hp0:v.sm:=⟨hs1,hs2⟩;refine aO ?_;refine zg ?_;refine aQ (fun hc0=>?_) (fun hc0=>?_)
 .simp only[cG]at hc0;refine zr ?_;simp[uI,hc0]
 simp only[dH]at hc0;refine cx ?_;have hv:=hc0;simp only[gy,aN]at hv;obtain⟨⟨⟨⟨hv1,hv2⟩,hv3⟩,_⟩,_⟩:=hv;have hq1:=hv1;have hq2:=hv2;have hq3:=hv3;simp only[Cq,aN,bn]at hq1 hq2 hq3;have hl1:=hJ 4 v.major.toNat ae ae;have hl2:=hJ 4 v.minor.toNat ae ae;have hl3:=hJ 4 v.patch.toNat ae ae;refine zc ?_ ?_<;>intro hc1
 .refine zc ?_ ?_<;>intro hc2
  .refine zr ?_;simp[uI,E8,hc0,hc1,hc2]
  refine zr ?_;simp[uI,E8,hc0,hc1,hc2]
 refine zc ?_ ?_<;>intro hc2
 .refine zr ?_;simp[uI,E8,hc0,hc1,hc2]
 refine zr ?_;simp[uI,E8,hc0,hc1,hc2]
def qG:aj:=bc 209
def w463 {Y:Ctx}(hm:(Y.at 0).bR):I7 (cu Y qG):=fun h k hp0=>by
 show dp _ _ _ [⟨_,_⟩,⟨_,_⟩,_,_] _;subst hp0;refine aO ?_;refine ez ?_;refine pY 13 (hb:=fun _=>by rw[IntKind.wrap_u64];rfl) ?_;refine Dj 13 (hb:=fun _=>by rw[IntKind.wrap_u64];rfl) ?_;refine ko ?_;refine FR (Zo h 13) (hb:=fun _=>by rw[show min (Int.toNat (13:Int)) (IntKind.bits .u64)=13 by simp[IntKind.bits]];rfl) ?_;refine cx ?_;refine HG 51 (hb:=fun _=>by rw[IntKind.wrap_u64];rfl) ?_;refine RO (F5 h 51) (hb:=fun _=>by rw[show min (Int.toNat (51:Int)) (IntKind.bits .u64)=51 by simp[IntKind.bits]];rfl) ?_;refine ae3 (rot h 13) (hb:=fun _=>rfl) ?_;refine zg ?_;refine fw (aw (D.int .u64) ?_);rfl
def NX:aj:=bc 165
def w220 (hA:C463 Y):tM (cu Y NX):=fun s=>by
 refine zg ?_;intro u0;refine zf hm (fun i=>[.u 2,.i i,.i s.length,.u 1,.e (.sl 1 (s.map fun b=>D.int .u8 b.toNat)),.e (.int .u64 (zx (s.take i))),.u 1]) (fun i=>[]) 5 (fun i=>i<=s.length) (fun i=>s.length-i) ae [] ?_;intro i hi;refine zc ?_ ?_<;>intro hc0
 .refine ez ?_;refine c8 (v:=.int .u8 (at8 s i)) (hv:=fun _=>ld8 s i) ?_;refine ko ?_;refine pY (at8 s i) (hb:=fun _=>by have:=GK s i;rw[IntKind.wrap_u64];omega) ?_;refine HB (Sq (zx (s.take i)) (at8 s i)) (hb:=fun _=>rfl) ?_;refine cH ?_;refine YG (zx (s.take (i+1))) (hb:=fun _=>by rw[Gd s i ae];rfl) ?_;exact iq (i+1) []
 refine dx ?_;have ht:s.take i=s:=eU ae;rw[ht];refine cx ?_;refine RO (F5 (zx s) 29) (hb:=fun _=>rfl) ?_;refine HB (sumL s) (hb:=fun _=>rfl) ?_;refine zg ?_;refine fw (aw (D.int .u64) ?_);rfl
def qF:aj:=bc 39
def w298 {Y:Ctx}(hm:(Y.at 1).bR)(hA:GB (Y.at 1))(g:Gs)(l:List br)(hp0:0<=g.i/\g.i<=980000)(hp1:(∀n∈l,n.sm)/\l.length<=1000):dp (Y.at 1) qF.body (GG qF 2 (ch.D (mN g l).1) (Gs.D (mN g l).2):Ex->List aX->St->Prop) (fq qF (.ptr 0 2 0 0::[.sl 3 (l.map br.D)])) ⟨1,[(0,.buf 2 [(Gs.D g)])]⟩:=by
 show dp _ _ _ [⟨true,.ptr 0 2 0 0⟩,⟨true,.sl 3 (l.map br.D)⟩,.un,.un,.un,.un,.un,.un,.un,.un] ⟨1,[(0,.buf 2 [(Gs.D g)])]⟩;refine aO ?_;refine dx ?_;refine bM [.str [102],.aJ] ?_;refine zg ?_;refine fP hm (ι:=Nat) (fun i=>[⟨true,.ptr 0 2 0 0⟩,⟨true,.sl 3 ((l).map br.D)⟩,⟨true,.ptr 1 2 0 0⟩,⟨true,.int .i64 (i:Nat)⟩,.un,⟨true,.ptr 2 2 0 0⟩,.un,.un,.un,.un]) (fun i=>[(0,.buf 2 [Gs.D g]),(1,.buf 2 [.agg [.str [],.aJ]]),(2,.buf 2 [.agg [.str [102],.own 3 1 0 (qR l i).length]]),(3,.buf 1 ((qR l i).map D.str))]) 6 (fun i=>i<=l.length) (fun i=>l.length-i) 0 ae (aV.to [(1,1),(3,2)] ah ah eD (by refine bo.nl 0 ah ah ah dV ?_;refine bo.nl 1 ah ah ah dV ?_;refine bo.ni 3 ah ah (by exact⟨_,_,rfl,⟨_,rfl,⟨_,_,rfl,⟨rfl,rfl⟩,⟨_,_,rfl,Or.inr ⟨_,_,_,rfl⟩,rfl⟩⟩⟩,rfl⟩) ?_;refine bo.mt ah ah ah ah ?_;exact bo.nil)) ?_;intro i hi;have hrl:=ME l i;refine zg ?_;intro u0;refine dE ?_ ?_<;>intro hc0
 .refine zc ?_ ?_<;>intro hc1
  .refine cH ?_;refine ba [.str qoW] ?_;refine cH ?_;refine bS (.agg [.str [102],.own 22 1 0 1]) (he:=cW) ?_;refine zg ?_;have hro:=akm ae hc1;exact⟨i+1,ae,ae,(aV.to [(1,1),(2,2),(22,3)] ah ah eD (by refine bo.nl 0 ah ah ah dV ?_;refine bo.nl 1 ah ah ah dV ?_;refine bo.eq 2 ah ah (by rw[hro];exact rfl) ?_;refine bo.nl 22 ah ah (by rw[hro];exact rfl) ah ?_;exact bo.nil))⟩
  refine zg ?_;rw[akl ae hc1];exact iq (i+1) [(1,1),(2,2),(3,3)]
 refine dx ?_;obtain rfl:i=l.length:=ae;refine zg ?_;refine zf hm (fun i=>[.p 0 2,.m 3 l br.D,.p 1 2,.u 2,.p 2 2,.u 1,.i i,.u 2]) (fun i=>[(0,.buf 2 [Gs.D (gS l g i)]),(1,.buf 2 [.agg [.str [],.aJ]]),(2,.buf 2 [.agg [.str [102],.own 3 1 0 (qR l l.length).length]]),(3,.buf 1 ((qR l l.length).map D.str))]) 11 (fun i=>i<=l.length/\iu l g=iu (l.drop i) (gS l g i)) (fun i=>l.length-i) ⟨ae,rfl⟩ [(1,1),(2,2),(3,3)] ?_;rintro i ⟨hi,hr⟩;have hgs:=aeF l g i;have hrl:=ME l l.length;refine zg ?_;intro u1;refine dE ?_ ?_<;>intro hc2
 .refine dx ?_;by_cases hl1:l[i]!.any.length=1
  .refine jS ?_;intro u2;refine OU ?_;rw[bz (show((l[i]!.any.length:Nat):Int)=1 by omega)];refine cx ?_;refine Yy (hc:=hA (gS l g i) 3 ae iE) ?_;refine zc ?_ ?_<;>intro hc3
   .refine cH ?_;have hnm:=((hp1.1 _ (aq (show i<l.length by omega))).1 _ (aq (show 0<l[i]!.any.length by omega))).1.1;refine qo ?_;refine cz 0 (hj:=fun _=>rfl) (hb:=fun _=>ae) ?_;refine dx ?_;refine ba [.str (l[i]!.any[0]!.name++[47,102])] ?_;refine cJ (q:=D.str) (xs:=(qR l l.length)) (e:=(l[i]!.any[0]!.name++[47,102])) (hb:=ae) ?_;refine cH ?_;refine bS (.agg [.str [102],.own 39 1 0 ((qR l l.length)++[(l[i]!.any[0]!.name++[47,102])]).length]) (he:=cW) ?_;refine pA ?_;refine bh 39 ?_;refine zg ?_;refine iV trivial Di (cU ah (?_)) (by rw[Wp hr ae hl1 hc3];exact rfl) ah ah;rw[Wp hr ae hl1 hc3];rfl
   refine zg ?_;rw[show(gS l g i).aS=(gS l g (i+1))from by rw[gS,ak hl1]];refine gh (i+1) [(1,1),(2,2),(3,3)] ?_;rw[hr,ajH ae hl1 hc3]
  .refine jS ?_;intro u2;refine OU ?_;rw[bI (show ¬((l[i]!.any.length:Nat):Int)=1 by omega)];refine cx ?_;refine ajX ?_;refine r_off (.bool false) ?_;refine zg ?_;refine wp_cond (t:=false) (fun h=>ca) (fun _=>?_);refine zg ?_;rw[show(gS l g i)=(gS l g (i+1))from by rw[gS,ai hl1]];refine gh (i+1) [(1,1),(2,2),(3,3)] ?_;rw[hr,ajI ae hl1]
 refine jS ?_;refine bh 3 ?_;refine zg ?_;refine iV trivial Di (cU ah (?_)) (by rw[Wq hr ae];exact rfl) ah ah;rw[Wq hr ae];rfl
def E4:aj:=bc 103
def w418 (hA:EA Y)(hB:AS Y)(hC:SN Y):ug (cu Y E4):=fun x hp0=>by
 refine Bp ?_;refine bQ (hc:=fun hf=>hB x.v hp0.1) ?_;refine zc ?_ ?_<;>intro hc0
 .refine zr ?_;symm;simp only[A6];by_cases h9:x.feats.length<=9
  .rw[bz h9];have h9':¬(9:Int)<x.feats.length:=ae;revert hc0;generalize bO (nO x.feats) 0 x.feats.length=z;generalize dn x.name=a;generalize gy x.v=b;generalize dn x.shelf=c;by_cases e:x.shelf=[]<;>by_cases e2:x.sum=0<;>cases a<;>cases b<;>cases c<;>cases z<;>simp_all
  .rw[bI h9];simp
 refine zg ?_;have hb:A6 x=bO (nO x.feats) 0 x.feats.length:=by
  simp only[A6];have h9:x.feats.length<=9:=ae;rw[bz h9];revert hc0;generalize bO (nO x.feats) 0 x.feats.length=z;generalize dn x.name=a;generalize gy x.v=b;generalize dn x.shelf=c;by_cases e:x.shelf=[]<;>by_cases e2:x.sum=0<;>cases a<;>cases b<;>cases c<;>cases z<;>simp_all
 refine zf hm (fun i=>[.u 2,.p 0 9,.u 1,.i i,.u 2]) (fun i=>[(0,.buf 9 [dm.D x])]) 40 (fun i=>i<=x.feats.length/\A6 x=bO (nO x.feats) i x.feats.length) (fun i=>x.feats.length-i) ⟨ae,hb⟩ [(0,0)] ?_;rintro i ⟨hi,hr⟩;refine zg ?_;intro u0;refine dE ?_ ?_<;>intro hc1
 .refine fG ?_;refine ez ?_;refine cz (i-1) ?_;refine zc ?_ ?_<;>intro hc2
  .refine zr ?_;have hz:nO x.feats i=false:=by
    simp only[nO];revert hc2;generalize gr x.feats[i]! =z0;generalize Op.bytesLess x.feats[i-1]! x.feats[i]! =z1;by_cases e0:0<i<;>cases z0<;>cases z1<;>simp_all
   rw[hr,ay ae,hz];rfl
  refine zg ?_;have hz:nO x.feats i=true:=by
   simp only[nO];revert hc2;generalize gr x.feats[i]! =z0;generalize Op.bytesLess x.feats[i-1]! x.feats[i]! =z1;by_cases e0:0<i<;>cases z0<;>cases z1<;>simp_all
  refine gh (i+1) [(0,0)] ?_;rw[hr,ay ae,hz];rfl
 refine zr ?_;rw[hr,bB ae]
def Ur:aj:=bc 60
def w189 (hA:Nu Y)(hB:C418 Y):tS (cu Y Ur):=fun l hp0=>by
 refine zc ?_ ?_<;>intro hc0
 .refine zr ?_;symm;simp only[EO];rcases hc0 with h|h
  .rw[h];rfl
  .rw[bI (by omega:¬l.lines.length<=48)];simp
 refine zg ?_;have hb:EO l=bO (pR l.lines) 0 l.lines.length:=by
  simp only[EO];have h9:l.lines.length<=48:=ae;rw[bz h9];revert hc0;generalize o8 l.env=a;cases a<;>simp_all
 refine zf hm (fun i=>[.u 2,.p 0 4,.u 1,.i i,.u 2]) (fun i=>[(0,.buf 4 [jT.D l])]) 13 (fun i=>i<=l.lines.length/\EO l=bO (pR l.lines) i l.lines.length) (fun i=>l.lines.length-i) ⟨ae,hb⟩ [(0,0)] ?_;rintro i ⟨hi,hr⟩;refine zg ?_;intro u0;refine dE ?_ ?_<;>intro hc1
 .refine pA ?_;refine aB (hc:=hB l.lines[i]! (hp0.2.1 _ (aq ae))) ?_;refine wA ?_;refine cz (i-1) ?_;refine zc ?_ ?_<;>intro hc2
  .refine zr ?_;have hz:pR l.lines i=false:=by
    simp only[pR];revert hc2;generalize A6 l.lines[i]! =z0;generalize Op.bytesLess l.lines[i-1]!.name l.lines[i]!.name=z1;by_cases e0:0<i<;>cases z0<;>cases z1<;>simp_all
   rw[hr,ay ae,hz];rfl
  refine zg ?_;have hz:pR l.lines i=true:=by
   simp only[pR];revert hc2;generalize A6 l.lines[i]! =z0;generalize Op.bytesLess l.lines[i-1]!.name l.lines[i]!.name=z1;by_cases e0:0<i<;>cases z0<;>cases z1<;>simp_all
  refine gh (i+1) [(0,0)] ?_;rw[hr,ay ae,hz];rfl
 refine zr ?_;rw[hr,bB ae]
def Mu:aj:=bc 150
def w830:JP (cu Y Mu):=fun od u n hp0=>by
 refine cH ?_;obtain⟨⟨⟨hu0,hu1⟩,hn⟩,hol⟩:=hp0;refine zg ?_;intro u0;refine qY hm (ι:=Unit) (fun _=>[⟨true,.sl 1 ((od).map jK)⟩,⟨true,.int .i64 u⟩,⟨true,.int .i64 (n:Nat)⟩,.un,.un,⟨true,.own 0 1 0 (cR od u).length⟩,.un,.un,.un,.un,.un,.un]) (fun _=>[(0,.buf 1 ((cR od u).map (D.int .i64)))]) 100 (fun _=>True) ?_ ?_
 .refine Bw ?_ ?_<;>intro hc0
  .refine cH ?_;have hou:=ajE (od:=od) (u:=u) ae;rw[hou]at hol;refine ko ?_;refine sE (he:=lT.sl) (n:=od[u.toNat]!.length) (hn:=aG) (hb:=ae) ?_;refine zg ?_;rw[hou];exact⟨(),trivial,(aV.to [(11,0)] ah ah eD (by repeat(first|exact bo.nil|refine bo.vI ah ah dV ?_|refine bo.Kr ah ah ah ?_|refine bo.Nr ah ah ah ah ?_|refine bo.nl 11 ah ah ah dV ?_)))⟩
  refine zg ?_;rw[ajD (od:=od) (u:=u) ae];exact⟨(),trivial,(aV.to [] ah ah eD (by repeat(first|exact bo.nil|refine bo.vI ah ah dV ?_|refine bo.Kr ah ah ah ?_|refine bo.Nr ah ah ah ah ?_|refine bo.mt ah ah ah ah ?_)))⟩
 .rintro _-
  refine zg ?_;rw[show((n:Nat):Int) -1=((n:Nat):Int) -1-((0:Nat):Int)by omega];refine zf hm (fun t=>[.m 1 od jK,.i u,.i n,.u 2,.o 0 1 (cI (cR od u) n t).length,.i (((n:Nat):Int) -1-((t:Nat):Int)),.u 5]) (fun t=>[(0,.buf 1 ((cI (cR od u) n t).map (D.int .i64)))]) 103 (fun t=>t<=n) (fun t=>n-t) ae [(0,0)] ?_;intro t ht;have htl:=MZ (cR od u) n t;refine zc ?_ ?_<;>intro hc1
  .refine zg ?_;refine zf hm (fun k=>[.m 1 od jK,.i u,.i n,.u 2,.o 0 1 (cI (cR od u) n t).length,.i (((n:Nat):Int) -1-((t:Nat):Int)),.u 1,.i k,.u 1,.e (.bool (oA (fun k=>decide ((cI (cR od u) n t)[k]! =(((n:Nat):Int) -1-((t:Nat):Int)))) 0 k)),.u 1]) (fun k=>[(0,.buf 1 ((cI (cR od u) n t).map (D.int .i64)))]) 107 (fun k=>k<=(cI (cR od u) n t).length) (fun k=>(cI (cR od u) n t).length-k) ae [(0,0)] ?_;intro k hk;refine zg ?_;intro _;refine dE ?_ ?_<;>intro hc2
   .refine pA ?_;refine oS (q:=D.int .i64) (xs:=(cI (cR od u) n t)) (v:=.int .i64 (cI (cR od u) n t)[k]!) (hi:=fun _=>ae) (hv:=fun _=>uy) ?_;refine zg ?_;rw[WM ae];exact iq (k+1) [(0,0)]
   refine cx ?_;obtain rfl:k=(cI (cR od u) n t).length:=ae;refine zc ?_ ?_<;>intro hc3
   .refine dx ?_;refine ba [.int .i64 (((n:Nat):Int) -1-((t:Nat):Int))] ?_;refine cJ (q:=D.int .i64) (xs:=(cI (cR od u) n t)) (e:=(((n:Nat):Int) -1-((t:Nat):Int))) (hb:=ae) ?_;refine zg ?_;rw[akE hc3,show(((n:Nat):Int) -1-((t:Nat):Int)) -1=((n:Nat):Int) -1-((t+1:Nat):Int)by omega];exact iq (t+1) [(116,0)]
   refine zg ?_;rw[akD hc3,show(((n:Nat):Int) -1-((t:Nat):Int)) -1=((n:Nat):Int) -1-((t+1:Nat):Int)by omega];exact iq (t+1) [(0,0)]
  refine cx ?_;obtain rfl:t=n:=ae;refine bh 0 ?_;exact mr
def HU:aj:=bc 52
def w505 (hA:C692 Y)(hB:C693 Y)(hC:C694 Y)(m:j7)(od:List (List Int))(c:List Int)(hD:aem (Y.at 0) (EW c))(hp0:(wE m/\Km m c)/\yH m od):wkk Y HU (OI (mi m od c)) [j7.D m,Ask.D ⟨[],od⟩,.sl 1 (c.map (D.int .i64))]:=by
 refine cH ?_;obtain⟨⟨hmp,hcp⟩,hop⟩:=hp0;have hml:=hmp.1;have hcl:=hcp.1;refine zc ?_ ?_<;>intro hc0
 .refine zr ?_;rw[D0 hmp hop hcp,ak hc0];rfl
 refine zc ?_ ?_<;>intro hc1
 .refine zr ?_;rw[D0 hmp hop hcp,ai (by rw[hc0];decide),ak hc1];rfl
 refine Bp ?_;have hS:mi m od c=iN (fun o=>mi m od (xU c o)) (ed m od c):=by rw[D0 hmp hop hcp,ai (by rw[hc0];decide),ai hc1]
 have hofl:=(qK hmp hop hcp).2;refine zg ?_;refine zf hm (fun i=>[.u 2,.m 1 c (D.int .i64),.u 1,.p 0 3,.p 1 2,.u 3,.i i,.m 2 (ed m od c) dU.D,.u 4]) (fun i=>[(0,.buf 3 [j7.D m]),(1,.buf 2 [Ask.D (⟨[],od⟩:Ask)])]) 30 (fun i=>i<=(ed m od c).length/\mi m od c=iN (fun o=>mi m od (xU c o)) ((ed m od c).drop i)) (fun i=>(ed m od c).length-i) ⟨ae,hS⟩ [(0,0),(1,1)] ?_;rintro i ⟨hi,hr⟩;refine zg ?_;intro u0;refine dE ?_ ?_<;>intro hc2
 .refine dx ?_;have ho:=(qK hmp hop hcp).1 _ (aq (show i<(ed m od c).length by omega));have hput:=HA hcp ho;obtain⟨U,hU⟩:∃U:Nat,(ed m od c)[i]!.u=(U:Int):=⟨(ed m od c)[i]!.u.toNat,by have:=ho.1;omega⟩
  have hUl:U<c.length:=by have:=ho.1;omega
  refine cH ?_;refine sE (he:=lT.sl) (n:=(xU c (ed m od c)[i]!).length) (hn:=by simp[xU]) (hb:=by rw[show(xU c (ed m od c)[i]!).length=c.length from List.length_set ..];omega) ?_;refine fG ?_;refine sF U (hj:=fun _=>hU) (hb:=fun _=>by rw[show(xU c (ed m od c)[i]!).length=c.length from List.length_set ..];omega) ?_;refine kg ((xU c (ed m od c)[i]!).map (D.int .i64)) (hi:=by simp only[b8,bj];omega) (he:=by rw[b8,stI64 hUl,xU,hU,Int.toNat_natCast]) ?_;refine cH ?_;refine bh 35 ?_;refine cH ?_;refine mc (d:=j7.D m) ?_;refine mc (d:=Ask.D (⟨[],od⟩:Ask)) ?_;refine jS ?_;refine YB (fun bq hbq=>?_) (hs:=Rx _);refine zg ?_;refine wp_cond (fun hc3=>?_) (fun hc3=>?_)
  .have hbf:bq=false:=by revert hc3;cases bq<;>decide
   obtain⟨d,hsd⟩:=(vQ hmp hop hput.1 hbq).2 hbf;rw[hsd];refine zr ?_;rw[hr,N2 ae hsd];rfl
  have hbt:bq=true:=by revert hc3;cases bq<;>decide
  have hsn:=(vQ hmp hop hput.1 hbq).1 hbt;refine gh (i+1) [(0,0),(1,1)] ?_;rw[hr];exact KX ae hsn
 refine zr ?_;rw[hr,N1 ae];rfl
def Pl:aj:=bc 142
def w750 (hA:C903 Y):JG (cu Y Pl):=fun all l hp0=>by
 refine zg ?_;intro u0;refine zf hm (fun i=>[.m 2 all Key.D,.u 2,.i i,.i l.length,.u 1,.m 1 l dR,.u 7,.o 0 1 (dL all (l.take i)).length]) (fun i=>[(0,.buf 1 ((dL all (l.take i)).map jC))]) 5 (fun i=>i<=l.length) (fun i=>l.length-i) ae [] ?_;intro i hi;have htl:=UG all l i;refine zc ?_ ?_<;>intro hc0
 .refine ez ?_;refine c8 (v:=.sl 4 (((l)[i]!).map jv.D)) (hi:=fun hf=>cr) ?_;refine dx ?_;have hrl:=hp0.2 _ (aq (show i<l.length by omega));refine zg ?_;intro u1;refine zf hm (fun j=>[.m 2 all Key.D,.u 2,.i i,.i l.length,.u 1,.m 1 l dR,.u 1,.i j,.i (l[i]!.length:Nat),.u 1,.m 4 (l[i]!) jv.D,.o 1 3 (rD all l[i]! j).length,.u 1,.o 0 1 (dL all (l.take i)).length]) (fun j=>[(0,.buf 1 ((dL all (l.take i)).map jC)),(1,.buf 3 ((rD all l[i]! j).map Want.D))]) 13 (fun j=>j<=l[i]!.length) (fun j=>l[i]!.length-j) ae [(0,0)] ?_;intro j hj;have htl2:=UH all l[i]! j;refine zc ?_ ?_<;>intro hc1
  .refine jS ?_;refine bS _ ?_;refine wA ?_;refine bg (Want.D ⟨eP all l[i]![j]!.k,l[i]![j]!.s⟩) ?_;refine ba [Want.D ⟨eP all l[i]![j]!.k,l[i]![j]!.s⟩] ?_;refine cJ (q:=Want.D) (xs:=rD all l[i]! j) (e:=⟨eP all l[i]![j]!.k,l[i]![j]!.s⟩) (hb:=ae) ?_;refine zg ?_;rw[adW ae];exact iq (j+1) [(0,0),(27,1)]
  refine cx ?_;obtain rfl:j=l[i]!.length:=ae;refine bh 1 ?_ (he:=J9) (hm:=J9);refine dx ?_;refine ba [jC (rD all l[i]! l[i]!.length)] ?_;refine cJ (q:=jC) (xs:=dL all (l.take i)) (e:=rD all l[i]! l[i]!.length) (hb:=ae) ?_;refine zg ?_;rw[adV ae];exact iq (i+1) [(17,0)]
 refine cx ?_;obtain rfl:i=l.length:=ae;rw[List.take_length];refine bh 0 ?_ (he:=J9) (hm:=J9);exact mr
def TG:aj:=bc 6
def w90 (hA:GB Y)(hB:C266 Y):P6 (cu Y TG):=fun ks most hp0=>by
 refine ko ?_;refine bg (Gs.D (⟨ks,0⟩:Gs)) ?_;refine ez ?_;refine bM [.str Re,.aJ] ?_;refine bM [.str AN,.aJ] ?_;refine ba [.agg [.str Re,.aJ],.agg [.str AN,.aJ]] ?_;refine dx ?_;refine AO [(3,.buf 2 [Gs.D (⟨ks,0⟩:Gs)]),(7,.buf 2 (MR.map bN.D))] (.id ah (.bf ah (.cons (.ag (.cons (.refl _) (.cons (.nil 11) .nil))) (.cons (.ag (.cons (.refl _) (.cons (.nil 11) .nil))) .nil)) .nil)) ?_;refine bh 7 ?_ (he:=Ka) (hm:=Ka);refine cH ?_;have rn:=((⟨ks,0⟩:Gs).Sk (most+1)).1 ae;have hz:(⟨ks,0⟩:Gs).i=0:=rfl;refine dx ?_;refine dh (hc:=hA (⟨ks,0⟩:Gs) (most+1) ae ae) ?_;refine zg ?_;refine fP hm (ι:=Nat) (fun i=>[.un,.un,.un,⟨true,.ptr 0 2 0 0⟩,⟨true,.int .i64 (((⟨ks,0⟩:Gs).val (most+1)) -((i:Nat):Int))⟩,.un,⟨true,.sl 2 (((pS (⟨ks,0⟩:Gs).aS i).1).map bN.D)⟩]) (fun i=>[(0,.buf 2 [Gs.D (pS (⟨ks,0⟩:Gs).aS i).2])]) 14 (fun i=>i<=((⟨ks,0⟩:Gs).val (most+1)).toNat) (fun i=>((⟨ks,0⟩:Gs).val (most+1)).toNat-i) 0 ae (aV.to [(3,0)] ah ah Kb (by refine bo.nl 3 ah ah ah dV ?_;exact bo.nil)) ?_;intro i hi;have hps:=RH (⟨ks,0⟩:Gs).aS i;obtain⟨hq1,hq2⟩:=hps.1;rw[Gs.XL]at hq1 hq2;refine zc ?_ ?_<;>intro hc0
 .refine ko ?_;refine dh (hc:=hB (pS (⟨ks,0⟩:Gs).aS i).2 (pS (⟨ks,0⟩:Gs).aS i).1 ae ⟨X6 _ _,ae,ae⟩) ?_;refine zg ?_;exact⟨i+1,ae,ae,(aV.to [(0,0)] ah ah Kb J3)⟩
 refine cx ?_;obtain rfl:i=((⟨ks,0⟩:Gs).val (most+1)).toNat:=ae;exact mr
def Mr:aj:=bc 24
def w267 (hA:C46 Y)(hB:C505 Y):IE (cu Y Mr):=fun w od hp0=>by
 refine cH ?_;obtain⟨⟨hw,hwb⟩,hop⟩:=hp0;have hs16:∀x∈w.us,x.cands.length<=16:=fun x hx=>(hw.1.1 x hx).1
 have hmp:=maskP hwb hs16 hw.2;have hwl:=hw.1.2;refine zg ?_;refine zf hm (fun i=>[.u 3,.i i,.p 1 1,.u 1,.o 0 1 (oa i).length,.p 2 2]) (fun i=>[(0,.buf 1 ((oa i).map (D.int .i64))),(1,.buf 1 [b6.D w]),(2,.buf 2 [Ask.D (⟨[],od⟩:Ask)])]) 5 (fun i=>i<=w.us.length) (fun i=>w.us.length-i) ae [(0,1),(1,2)] ?_;intro i hi;have hnl:=TO i;refine zg ?_;intro u0;refine dE ?_ ?_<;>intro hc0
 .refine ez ?_;refine ba [.int .i64 (-1)] ?_;refine cJ (q:=D.int .i64) (xs:=oa i) (e:=-1) (hb:=ae) ?_;refine zg ?_;rw[TN];exact iq (i+1) [(12,0),(1,1),(2,2)]
 refine cx ?_;obtain rfl:i=w.us.length:=ae;refine bh 0 ?_;refine cH ?_;refine mc (d:=b6.D w) ?_;refine cH ?_;refine mc (d:=Ask.D (⟨[],od⟩:Ask)) ?_;refine cH ?_;refine aB (hc:=hB (dy w.us) od (oa w.us.length) ⟨⟨hmp,xE _⟩,hop⟩) ?_;refine zg ?_;obtain⟨os,h1,h2⟩:∃os,mi (dy w.us) od (oa w.us.length)=os/\lM w.us od=os:=⟨_,rfl,rfl⟩
 rw[h1,h2];cases os<;>exact PC trivial Di iF rfl
def Po:aj:=bc 26
def w269 (hA:C506 Y):IG (cu Y Po):=fun w c hp0 hp1=>by
 refine zg ?_;refine zf hm (fun i=>[.u 1,.m 1 c (D.int .i64),.u 2,.i i,.m 1 (gX w c) _,.u 2,.o 0 1 (Bi w c i).length,.u 1]) (fun i=>[(0,.buf 1 ((Bi w c i).map (D.int .i64)))]) 8 (fun i=>i<=(gX w c).length) (fun i=>(gX w c).length-i) ae [] ?_;intro i hi;have htl:=Zw w c i;have hnl:=Lz w c;refine zg ?_;intro u0;refine dE ?_ ?_<;>intro hc0
 .refine zc ?_ ?_<;>intro hc1
  .refine jS ?_;refine ba [.int .i64 (-1)] ?_;refine cJ (q:=D.int .i64) (xs:=Bi w c i) (e:=(-1)) (hb:=ae) ?_;refine zg ?_;rw[akz hc1];exact iq (i+1) [(26,0)]
  refine ez ?_;refine ba [.int .i64 c[i]!] ?_;refine cJ (q:=D.int .i64) (xs:=Bi w c i) (e:=c[i]!) (hb:=ae) ?_;refine zg ?_;rw[akA hc1];exact iq (i+1) [(25,0)]
 refine cx ?_;obtain rfl:i=(gX w c).length:=ae;refine bh 0 ?_;exact mr
def E2:aj:=bc 148
def w829 {Y:Ctx}(hm:(Y.at 0).bR):JO (cu Y E2):=fun al u p hp0=>by
 refine cH ?_;subst hp0;refine fG ?_;intro u0;refine cz 0 (hj:=fun hf=>Bool.noConfusion hf) (hb:=fun hf=>Bool.noConfusion hf) ?_;refine c8 (v:=.int .i64 0) (hi:=fun hf=>Bool.noConfusion hf) (hv:=fun hf=>Bool.noConfusion hf) ?_;refine cH ?_;refine lO (hb:=fun hf=>Bool.noConfusion hf) ?_;refine pY 0 (hb:=fun hf=>Bool.noConfusion hf) ?_;refine FR 0 (hn:=fun hf=>Bool.noConfusion hf) (hb:=fun hf=>Bool.noConfusion hf) ?_;refine Dj 0 (hb:=fun hf=>Bool.noConfusion hf) ?_;refine ez ?_;refine bp (env':=[_,_,_,⟨_,(.bool _)⟩]) ?_;exact mr
def O9:aj:=bc 231
def w1013 {Y:Ctx}(hm:(Y.at 0).bR)(hA:aeh Y)(hC:aei Y):Em (cu Y O9):=fun shop ps nm hp0=>by
 refine zc ?_ ?_<;>intro hc0
 .refine zr ?_;rw[show(cM shop ps nm)=(0,[],(gp shop ps nm).2)from ak hc0];rfl
 refine cx ?_;obtain⟨hB,j,hj,hjl⟩:=pL (by simpa using hc0:(gp shop ps nm).2=0);refine jS ?_;refine aB (hc:=hC shop[j]! nm (hp0 _ (aq hjl))) ?_;refine zr ?_;rw[show(cM shop ps nm)=((gp shop ps nm).1,ke shop[(gp shop ps nm).1.toNat]! nm,0)from ai (by simpa using hc0),hj,Int.toNat_natCast];rfl
end Go.Abs
end
