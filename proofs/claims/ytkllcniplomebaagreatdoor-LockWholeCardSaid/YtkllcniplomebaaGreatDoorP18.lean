/- A part of the proofs. -/
import Derived.Test.YtkllcniplomebaaGreatDoorP09
set_option linter.all false
set_option maxRecDepth 60000
set_option maxHeartbeats 2000000
noncomputable section
namespace Go.Abs
variable {Y:Ctx}(hm:(Y.at 0).bN)
def Bm:aj:=⟨4,27,[⟨4,none⟩],Pa,(sq (r1 [gm OS] 4 0) (sq (sq (r1 [gm s0,gl l0,YI l1 (i6 60),gm l2,gmf 3 s1,uW 3 (.len l4),uW 3 (WD l5 (i6 200)),T7 l3 l6,gm l7,gmf 8 s2,uW 8 (.len l9),uW 8 (WD l10 (i6 20)),T7 l8 R5] 5 12) (.cond s5 (sq (r1 [gx 119 [] [],gm l0] 4 1) .ret) .skip)) (sq (rg [gm s0,gx 28 [l0] [[.sl 1 [.a]]],gm s1,gx 90 [l2,(i6 10)] [[.sl 1 [.a]],[.a]],gm s3,gx 29 [l4] Pa,gb 3 (.c (.agg [.str [],.str [],.str []])),gm l1,gm l3,gt 3 l6 l5] [(8,6),(6,7),(7,8)]) (sq (rg [gm s6,gm s7,gk 3 true s8,gm s2,gx 91 [l0,l1,l2,l3] [[.sl 11 [.a,.a,.a,.a,.a,.a,.sl 3 [.sl 4 [.a,.a,.sl 1 [.a],.a],.a,.a],.sl 3 [.a,.a,.a],.sl 2 [.a,.sl 1 [.a]],.sl 2 [.a,.a],.sl 2 [.a,.a]]],[.sl 2 [.a,.sl 11 [.a,.a,.a,.a,.a,.a,.sl 3 [.sl 4 [.a],.a,.a],.sl 3 [.a,.a,.a],.sl 2 [.a,.sl 1 [.a]],.a,.a]]],[.a,.a,.a],[.sl 1 [.a]]],gm l4,ge l5 0,ge l5 1,ge l5 2,gb 1 (.c (.agg [.aR])),gt 1 l9 l6,gm l7,gm l8] [(11,9),(12,11),(9,12)]) (sq (sq (r1 [gm s9,gno l0] 10 1) (.cond s10 (sq (r1 [gx 119 [] [],gm l0] 4 1) .ret) .skip)) (sq (rg [gm s7,gk 3 true s8,gk 1 true VR,gm s12,gx 98 [l0,l1,l2,l3] [[.sl 2 [.a,.sl 11 [.a,.a,.a,.a,.a,.a,.sl 3 [.sl 4 [.a],.a,.a],.sl 3 [.a,.a,.a],.sl 2 [.a,.sl 1 [.a]],.a,.a]]],[.a,.a,.a],[.sl 3 [.a,.a,.sl 8 [.a,.a,.a,.a,.a,.a,.sl 1 [.sl 3 [.a,.a]],.sl 3 [.a,.a,.a]]]],[.sl 1 [.a]]],gm l4,ge l5 0,ge l5 1,gb 4 (.c (.agg [.str [],.str [],.str [],.aR])),gt 4 l8 l6,gm l7] [(14,8),(13,10)]) (sq (sq (r1 [gm s13,sJ l0 yW,gm l1,uW 2 (.ld 4 true Vs),uW 2 (.call 315 [l3] [[.a,.a,.a,.sl 9 [.a,.a,.a,.a,.a,.a,.a,.a,.sl 1 [.a]]]]),uW 2 (.un .not l4),T7 l2 l5,gm l6,gff 7 0 Vs,uW 7 (.ld 3 true l8),uW 7 (.ld 3 true s8),uW 7 (.eqA true true [.s,.s,.s] l9 l10),T7 l7 R5] 15 12) (.cond s15 (sq (r1 [gm OS] 4 0) .ret) .skip)) (sq (rg [gm yW,gm yW] [(24,0),(26,1)]) (sq (sq (r1 [gm R2] 16 0) (.block 0 (.loop (sq (sq (r1 [gm s16,gf 0 VR,gd l1,gl l2,mL l0 l3] 17 4) (gce s17 0)) (sq (.block 1 (sq (r2 [gk 4 true Vs,gf 0 VR,gd l1,gm s16,ga 3 l2 l3,gf 0 l4,gd l5,gx 294 [l0,l6] [[.a,.a,.a,.sl 9 [.a,.a,.a,.a,.a,.a,.a,.a,.sl 1 [.a]]],[.a]],gm l7] 19 8) (sq (sq (r1 [gm s12,gm s16,ga 1 l0 l1,gd l2,mL l3 yW] 18 4) (.cond s18 (sq (sq (r1 [gf 0 VR,gd l0,gm s16,ga 3 l1 l2,gf 1 l3,gd l4,sI l5 cse,gm l6,gmt 7 s19,rI 7 (afH l8 yW),K7 l7 l9] 20 10) (.cond s20 (sq (r1 [gm OS] 4 0) .ret) .skip)) (.exit 1)) .skip)) (sq (r2 [gf 0 VR,gd l0,gm s16,ga 3 l1 l2,gf 2 l3,gd l4,gm s12,gm s16,ga 1 l6 l7,gd l8,ga 8 l5 l9,gk 8 true l10,gb 8 (.c (.agg [.int .i64 0,.int .i64 0,.int .i64 0,.str [],.str [],.int .i64 0,.aR,.aR])),gt 8 Yk R5] 21 12) (sq (sq (r2 [gm s19,mL l0 yW,gm l1,gmf 2 s19,gff 2 3 Vs,gdf 2 l4,uW 2 (.len l5),uW 2 (afH l3 l6),T7 l2 l7,gm l8,gff 9 3 Vs,gdf 9 l10,gmf 9 s19,uW 9 (.ia 9 R5 Yk),gff 9 1 l13,uW 9 (.ld 5 true l14),gff 9 0 s21,uW 9 (.ld 5 true l16),uW 9 (.eqA true true [.i .i64,.i .i64,.i .i64,.s,.s] l15 l17),T7 l9 l18] 22 19) (.cond s22 (sq (r1 [gm OS] 4 0) .ret) .skip)) (sq (r1 [gf 0 VR,gd l0,gm s16,ga 3 l1 l2,gf 1 l3,gd l4,sI l5 cse] 23 6) (.cond s23 (sq (r1 [gm s24,pj l0 R2,gm l1] 24 2) (sq (r1 [gf 5 s21,gd l0,aj8 l1 yW] 25 2) (.cond s25 (r1 [gm s26,pj l0 R2,gm l1] 26 2) .skip))) .skip))))))) (r1 [gm s16,pj l0 R2,gm l1] 16 2)))))) (sq (r1 [gm s24,gf 3 Vs,gd l1,gl l2,sI l0 l3,gm l4,rI 5 (.ld 4 true Vs),rI 5 (.call 101 [l6] [[.a,.a,.a,.sl 9 [.a,.a,.a,.a,.a,.a,.a,.a,.sl 1 [.a]]]]),rI 5 (.len l7),gmt 5 s26,rI 5 (sa l8 l9),K7 l5 l10,gm R5,rI 12 (.call 119 [] []),K7 Yk l13,gm l14] 4 15) .ret))))))))))⟩
def w1219 (hA:C28 Y)(hB:C29 Y)(hC:C90 Y)(hD:C91 Y)(hE:C98 Y)(hF:C101 Y)(hG:C119 Y)(hH:C294 Y)(hI:C315 Y):EX (cn Y Bm):=λys ss os n=>by
 refine zg ?_;intro u0;refine dT ?_ ?_<;>intro hc0
 .exact mQ
 refine EI ?_;obtain⟨sp,hsp⟩:∃q,(GD ss 10)=q:=⟨_,rfl⟩
 obtain⟨en,hen⟩:∃q,(TZ n)=q:=⟨_,rfl⟩
 obtain⟨yd,hyd⟩:∃q,qm ys=q:=⟨_,rfl⟩
 have hyG:yD (yu yd sp en):=by rw[<-hsp,<-hen,<-hyd];exact afd ys ss 10 n
 have hei:kF en:=by rw[<-hen];exact ajc n
 have hss:jG sp:=by rw[<-hsp];exact NY ss 10
 have hsn:Wm sp:=by rw[<-hsp];exact aeX ss 10
 have heo:∀i,(en.at i).length<=16:=by rw[<-hen];exact adh n
 rw[hsp,hen,hyd];refine k9 ?_;refine aD (hc:=hD yd sp en os ⟨hyG.p,hei⟩) ?_;refine qp ?_;obtain⟨sv,hsv⟩:∃q,(di yd sp en os)=q:=⟨_,rfl⟩
 rw[hsv];refine zc ?_ ?_<;>intro hc1
 .exact mQ
 refine cU ?_;have hsd:(di yd sp en os).2.2=true:=by rw[hsv];simpa using hc1
 obtain⟨⟨hw,hwl,hwn⟩,hc00⟩:=Vx hyG hsd;obtain⟨hq,hqn,hqm,hqh⟩:=A4 hyG hsd;have hz:=Vw hyG hsd;obtain⟨⟨hsB,heB⟩,_,_⟩:=Eg hyG hsd;rw[hsv]at hw hwl hwn hc00 hq hqn hqm hqh hz;have hlk:=of_w (c:=sv.2.1) hsn hw hwl hwn heo;refine fw ?_;refine aD (hc:=hE sp en sv.1 sv.2.1 ⟨hss,hw,hc00⟩) ?_;refine pz ?_;obtain⟨_,_,_,hlin,hle⟩:=akl hz;have hmy:=adS (e:=en) hq hqn hsB heB hqm hlin;have hka:=Un hsB hlin;have hca:=W3 hlin;have hwf:=λu h1 h2=>QV hq hqm hqh hlin (u:=u) h1 h2
 rw[<-hle]at hmy;have hll:(HY sp en sv.1 sv.2.1).1.lines=(eQ sp sv.1 sv.2.1).1:=by rw[hle]
 rw[<-hll]at hka hca hwf;have hev:(HY sp en sv.1 sv.2.1).1.env=en:=by rw[hle]
 obtain⟨lp,hlp⟩:∃q,(HY sp en sv.1 sv.2.1)=q:=⟨_,rfl⟩
 rw[hlp]at hlk hz hmy hka hca hwf hev⊢;clear hle hll hlin;have hl0:=hlk.sm a7;obtain⟨hcl,hcb⟩:=Ht hqm;obtain⟨h1u,h48⟩:=aaS hq.val;refine k9 ?_;refine bX (hc:=λ_=>hI lp.1 hl0) ?_;refine zc ?_ ?_<;>intro hc2
 .exfalso;rcases hc2 with(h|h)|h
  .exact h hz
  .rw[hmy]at h;cases h
  .exact h hev
 refine zg ?_;refine zfx hm (1:Nat) (λu=>[.u 11,.p 1 1,.m 1 sv.2.1 (D.int .i64),.u 1,.p 0 4,.u 1,.i u,.u 7,.i ((wR sv.1.us sv.2.1 u):Nat),.u 1,.i ((yL sv.1.us sv.2.1 u):Nat)]) (λu=>[(0,.buf 4 [jE.D lp.1]),(1,.buf 1 [cA.D sv.1])]) 30 (λu=>1<=u/\u<=sv.1.us.length) (λu=>sv.1.us.length-u) ⟨ae,ae⟩ [(47,0),(33,1)] ?_;rintro u ⟨hu1,hu⟩;have hcn:=acM (us:=sv.1.us) (c:=sv.2.1) u;refine zg ?_;intro u1;refine dT ?_ ?_<;>intro hc3
 .refine jb ?_;obtain⟨w1,w2⟩:=hwf u hu1 ae;obtain⟨fi,hfi⟩:∃q,me lp.1.lines sv.1.us[u]!.name 0=q:=⟨_,rfl⟩
  rw[hfi]at w1 w2⊢;refine zc ?_ ?_<;>intro hc4
  .refine zc ?_ ?_<;>intro hc5
   .exfalso;have:=w1 hc4 hc5.1;omega
   refine zg ?_;rw[<-W1 (us:=sv.1.us) (c:=sv.2.1) (SY hc4),<-OX (us:=sv.1.us) (c:=sv.2.1) (.inl (SY hc4))];refine fM (u+1) [(0,0),(1,1)] ?_;omega
  refine cU ?_;obtain⟨p,hp,hpf,hpv⟩:=w2 ae;have hcu:=(hcb u ae).2;refine Ov ?_;refine dm (v:=fj.D (cG sv.1.us sv.2.1 u)) (hi:=λ_=>ae) ?_;refine zc ?_ ?_<;>intro hc6
  .exfalso;rcases hc6 with(h|h)|h
   .omega
   .omega
   .exact h hpv
  refine zc ?_ ?_<;>intro hc7
  .refine zc ?_ ?_<;>intro hc8
   .refine zg ?_;have hsk:ei sv.1.us sv.2.1 u=false:=IG hu1 ae hc7;rw[show(((wR sv.1.us sv.2.1 u):Nat):Int)+1=(((wR sv.1.us sv.2.1 (u+1)):Nat):Int)by rw[W2 hsk];rfl,show(((yL sv.1.us sv.2.1 u):Nat):Int)+1=(((yL sv.1.us sv.2.1 (u+1)):Nat):Int)by rw[ah5 hsk hc8];rfl];refine fM (u+1) [(0,0),(1,1)] ?_;omega
   refine zg ?_;have hsk:ei sv.1.us sv.2.1 u=false:=IG hu1 ae hc7;rw[show(((wR sv.1.us sv.2.1 u):Nat):Int)+1=(((wR sv.1.us sv.2.1 (u+1)):Nat):Int)by rw[W2 hsk];rfl,<-OX (us:=sv.1.us) (c:=sv.2.1) (.inr hc8)];refine fM (u+1) [(0,0),(1,1)] ?_;omega
  refine zg ?_;rw[<-W1 (us:=sv.1.us) (c:=sv.2.1) (SX hc7),<-OX (us:=sv.1.us) (c:=sv.2.1) (.inl (SX hc7))];refine fM (u+1) [(0,0),(1,1)] ?_;omega
 refine cU ?_;obtain rfl:u=sv.1.us.length:=ae;rw[hca,<-hka];refine pz ?_;intro u2;refine bX (hc:=λ_=>hF lp.1 hl0) ?_;refine pz ?_;refine aS (env':=[_,_,_,_,⟨_,(.bool _)⟩,_,_,_,_,_,_,_,_,_,_,_,_,_,_,_,_,_,_,_,_,_,_]) ?_;refine zr ?_;simp
def DN:aj:=bd 236
def w812 (hA:V1 Y)(hB:C815 Y):Kv (cn Y DN):=λl al=>by
 refine zg ?_;refine zf hm (λi=>[.m 1 l D.str,.e (.bool al),.u 1,.i i,.u 2]) (λi=>[]) 2 (λi=>i<=l.length/\nD l al=(bI (λi=>gC l[i]!) i l.length&&((decide (l.length<=6)&&rising l)&&(al ||decide (l.length=0))))) (λi=>l.length-i) ⟨ae,(wf_2 l al).symm⟩ [] ?_;rintro i ⟨hi,hr⟩;refine zg ?_;intro u0;refine dT ?_ ?_<;>intro hc0
 .refine zg ?_;refine wp_cond (λhc1=>?_) (λhc1=>?_)
  .simp only[cg]at hc1;refine zr ?_;rw[hr,ay ae,hc1];rfl
  simp only[cX]at hc1;refine fM (i+1) [] ?_;rw[hr,ay ae,hc1];rfl
 refine zg ?_;intro u1;refine zr ?_;rw[hr,bA ae,ez,kZ.2 (show((l.length:Nat):Int)<=6↔l.length<=6 by omega),kZ.2 (show((l.length:Nat):Int)=0↔l.length=0 by omega)]
def Qa:aj:=bd 195
def w669 (hA:Ha Y)(hB:C572 Y)(hC:C812 Y):uf (cn Y Qa):=λr w al hp0=>by
 refine zc ?_ ?_<;>intro hc0
 .refine zr ?_;have hw:gB r w.name w.range=4:=by rw[gB,ak hc0]
  rw[lB,ak (by rw[hw];decide),hw]
 refine zc ?_ ?_<;>intro hc1
 .refine zr ?_;have hw:gB r w.name w.range=8:=by rw[gB,ai jI,ak hc1]
  rw[lB,ak (by rw[hw];decide),hw]
 refine dt ?_;refine aD (hc:=hB w.range hp0.1.2) ?_;refine zg ?_;refine wp_cond (λhc2=>?_) (λhc2=>?_)
 .try simp only[gL]at hc2
  refine zr ?_;have hw:gB r w.name w.range=6:=by rw[gB,ai jI,ai hc1,ak hc2]
  rw[lB,ak (by rw[hw];decide),hw]
 simp only[cX]at hc2;have hw0:gB r w.name w.range=0:=by rw[gB,ai jI,ai hc1,ai (by simp[hc2])]
 refine zc ?_ ?_<;>intro hc3
 .refine zr ?_;rw[lB,ai lZ,ak hc3]
 refine zr ?_;rw[lB,ai lZ,ai (by simp[hc3])]
def P7:aj:=bd 148
def w457 (hA:V1 Y)(hB:C669 Y)(hC:C670 Y):tW (cn Y P7):=λr n hp0=>by
 refine zg ?_;intro u0;refine dT ?_ ?_<;>intro hc0
 .refine zr ?_;rw[jy,ak ae]
 refine zg ?_;intro u1;refine dT ?_ ?_<;>intro hc1
 .refine zr ?_;rw[jy,ai ae,ak ae]
 refine zg ?_;refine zf hm (λi=>[.u 3,.p 1 3,.u 2,.i i,.u 1,.p 0 9,.u 4]) (λi=>[(0,.buf 9 [Rec.D r]),(1,.buf 3 [bp.D n])]) 12 (λi=>i<=n.any.length/\nE r n.any=fQ (λi=>lB r n.any[i]! (decide ((n.any.length:Int)=1))) i n.any.length) (λi=>n.any.length-i) ⟨ae,rfl⟩ [(0,0),(1,1)] ?_;rintro i ⟨hi,hr⟩;refine zg ?_;intro u2;refine dT ?_ ?_<;>intro hc2
 .refine EI ?_;refine aD (hc:=hB r n.any[i]! _ (hp0.1 _ (aq ae))) ?_;refine zc ?_ ?_<;>intro hc3
  .refine zr ?_;have hw:nE r n.any=lB r n.any[i]! (decide ((n.any.length:Int)=1)):=by rw[hr,lE ae hc3]
   rw[jy,ai ae,ai ae,ak (by rw[hw];exact hc3),hw]
  refine fM (i+1) [(0,0),(1,1)] ?_;rw[hr,pQ ae hc3]
 refine fw ?_;have hw0:nE r n.any=0:=by rw[hr,pP ae]
 refine cU ?_;refine aD (hc:=hC n.when' hp0.2.1) ?_;refine zg ?_;refine aH (λhc4=>?_) (λhc4=>?_)
 .try simp only[gL]at hc4
  refine zr ?_;rw[jy,ai ae,ai ae,ai lZ,ak hc4]
 simp only[cX]at hc4;refine zg ?_;refine aH (λhc5=>?_) (λhc5=>?_)
 .try simp only[gL]at hc5
  refine zr ?_;rw[jy,ai ae,ai ae,ai lZ,ai (by simp[hc4]),ak hc5]
 simp only[ew,cX,aX]at hc5;refine zr ?_;rw[jy,ai ae,ai ae,ai lZ,ai (by simp[hc4]),ai (by rintro⟨g1,g2⟩;rcases hc5 with h|h;exact g1 h;rw[g2]at h;cases h)]
def U1:aj:=bd 149
def w458 (hA:Ha Y)(hB:C572 Y)(hC:C670 Y):JE (cn Y U1):=λr b hp0=>by
 refine zc ?_ ?_<;>intro hc0
 .refine zr ?_;have hw:gB r b.name b.range=4:=by rw[gB,ak hc0]
  rw[sb,ak (by rw[hw];decide),hw]
 refine zc ?_ ?_<;>intro hc1
 .refine zr ?_;have hw:gB r b.name b.range=8:=by rw[gB,ai jI,ak hc1]
  rw[sb,ak (by rw[hw];decide),hw]
 refine dt ?_;refine aD (hc:=hB b.range hp0.2.1) ?_;refine zg ?_;refine wp_cond (λhc2=>?_) (λhc2=>?_)
 .try simp only[gL]at hc2
  refine zr ?_;have hw:gB r b.name b.range=6:=by rw[gB,ai jI,ai hc1,ak hc2]
  rw[sb,ak (by rw[hw];decide),hw]
 simp only[cX]at hc2;have hw0:gB r b.name b.range=0:=by rw[gB,ai jI,ai hc1,ai (by simp[hc2])]
 refine dt ?_;refine aD (hc:=hC b.when' hp0.2.2) ?_;refine zc ?_ ?_<;>intro hc3
 .refine zr ?_;rw[sb,ai lZ,ak hc3]
 refine zr ?_;rw[sb,ai lZ,ai (by simp[hc3])]
def Im:aj:=bd 199
def w673:Kb (cn Y Im):=λr x=>by
 refine zg ?_;refine zf hm (λi=>[.u 1,.e (.str x),.u 1,.i i,.p 0 9,.u 2]) (λi=>[(0,.buf 9 [Rec.D r])]) 3 (λi=>i<=r.needs.length/\Y8 r.needs x=(r.needs.drop i).any (λn=>decide (n.option=x))) (λi=>r.needs.length-i) ⟨ae,rfl⟩ [(0,0)] ?_;rintro i ⟨hi,hr⟩;refine zg ?_;intro u0;refine dT ?_ ?_<;>intro hc0
 .refine zc ?_ ?_<;>intro hc1
  .refine zr ?_;rw[hr,wJ (c:=λn:bp=>decide (n.option=x)) ae (bg hc1)]
  refine fM (i+1) [(0,0)] ?_;rw[hr,Cf (c:=λn:bp=>decide (n.option=x)) ae (bB hc1)]
 refine zr ?_;rw[hr,wI ae]
def Io:aj:=bd 200
def w674:Kd (cn Y Io):=λr x=>by
 refine zg ?_;refine zf hm (λi=>[.u 1,.e (.str x),.u 1,.i i,.p 0 9,.u 2]) (λi=>[(0,.buf 9 [Rec.D r])]) 3 (λi=>i<=r.needs.length/\MZ r.needs x=(r.needs.drop i).any (λn=>decide (n.any.length=1)&&decide (n.any[0]!.name=x))) (λi=>r.needs.length-i) ⟨ae,rfl⟩ [(0,0)] ?_;rintro i ⟨hi,hr⟩;refine zg ?_;intro u0;refine dT ?_ ?_<;>intro hc0
 .refine zk18 ?_;intro u1;refine cC 0 (hb:=λh=>K0) ?_;refine cY ?_;refine dm (q:=c9.D) (xs:=r.needs[i]!.any) (i:=0) (hi:=λh=>K0) (v:=(.str r.needs[i]!.any[0]!.name)) ?_;refine zg ?_;refine wp_cond (λhc1=>?_) (λhc1=>?_)
  .rw[kZ.2 (show((r.needs[i]!.any.length:Nat):Int)=1↔r.needs[i]!.any.length=1 by omega)]at hc1;have hz:=hc1;refine zr ?_;rw[hr,wJ ae hz]
  rw[kZ.2 (show((r.needs[i]!.any.length:Nat):Int)=1↔r.needs[i]!.any.length=1 by omega)]at hc1;have hz:=hc1;refine fM (i+1) [(0,0)] ?_;rw[hr,Cf ae hz]
 refine zr ?_;rw[hr,wI ae]
def Ng:aj:=bd 151
def w460 (hA:C672 Y)(hB:C673 Y)(hC:C674 Y):JF (cn Y Ng):=λr of hp0=>by
 refine zg ?_;refine zf hm (λi=>[.u 1,.m 1 of D.str,.u 1,.i i,.u 2,.p 0 9,.u 3]) (λi=>[(0,.buf 9 [Rec.D r])]) 3 (λi=>i<=of.length/\mI r of=fQ (λi=>nW r of[i]!) i of.length) (λi=>of.length-i) ⟨ae,rfl⟩ [(0,0)] ?_;rintro i ⟨hi,hr⟩;refine zg ?_;intro u0;refine dT ?_ ?_<;>intro hc0
 .refine zg ?_;refine aH (λhc1=>?_) (λhc1=>?_)
  .try simp only[gL]at hc1
   refine zr ?_;have he:nW r of[i]! =14:=by rw[nW,ak hc1]
   rw[hr,lE ae (by rw[he];decide),he]
  have hn1:¬((bK of[i]!).1=2/\Y8 r.needs (bK of[i]!).2.1=false):=by rintro⟨g1,g2⟩;rw[g1,g2]at hc1;cases hc1
  refine zg ?_;refine wp_cond (λhc2=>?_) (λhc2=>?_)
  .try simp only[gL]at hc2
   refine zr ?_;have he:nW r of[i]! =16:=by rw[nW,ai hn1,ak hc2]
   rw[hr,lE ae (by rw[he];decide),he]
  have hn2:¬((bK of[i]!).1=3/\MZ r.needs (bK of[i]!).2.1=false):=by rintro⟨g1,g2⟩;rw[g1,g2]at hc2;cases hc2
  refine fM (i+1) [(0,0)] ?_;rw[hr,pQ ae (by rw[nW,ai hn1,ai hn2])]
 refine zr ?_;rw[hr,pP ae]
def UA:aj:=bd 5
def w28 (hA:G9 Y)(hB:C110 Y)(hC:C111 Y)(hD:C112 Y)(hE:C135 Y)(hF:C136 Y):QZ (cn Y UA):=λks=>by
 refine k9 ?_;refine aV (Gs.D (⟨ks,0⟩:Gs)) ?_;refine jX ?_;refine cC 0 (hj:=λ_=>rfl) (hb:=λ_=>a7) ?_;refine dm (v:=bO.D bT[0]!) (hi:=λ_=>a7) ?_;refine cN (hc:=hB (⟨ks,0⟩:Gs) Hc bT[0]! 3 aF a7) ?_;refine aV (.agg [.str (jz ks).1.name,.int .i64 (jz ks).1.v.major,.int .i64 (jz ks).1.v.minor,.int .i64 (jz ks).1.v.patch,.str (jz ks).1.v.pre,.str (jz ks).1.v.build,.sl 3 ((jz ks).1.needs.map bp.D),.sl 3 ((jz ks).1.bars.map mF.D),.sl 2 ((jz ks).1.feats.map bY.D),.aR,.aR]) ?_;refine dt ?_;refine EE [(3,.buf 2 [Gs.D (jz ks).2]),(11,.buf 11 [gI.D ⟨(jz ks).1,[],[]⟩])] ((.id ah (.bf ah (.cons (.ag ((.cons (.refl _) (.cons (.refl _) (.cons (.refl _) (.cons (.refl _) (.cons (.refl _) (.cons (.refl _) (.cons (.refl _) (.cons (.refl _) (.cons (.refl _) (.cons (.nil 2) (.cons (.nil 2) .nil))))))))))))) .nil) .nil))) ?_;refine cU ?_;have hst0:=aeJ (⟨ks,0⟩:Gs) Hc bT[0]!;rw[show pw (⟨ks,0⟩:Gs) Hc bT[0]! 3=jz ks from rfl]at hst0;have hst1:=aet (jz ks).2;have r4:=(jz ks).2.aI.eP 4 ae;have r5:=(j2 (jz ks).2).2.aI.eP 4 ae;have r8:=(j2 (jz ks).2).2.aI.aI.eP 8 ae;obtain⟨hq1,hq2⟩:=hst0;obtain⟨hq3,hq4⟩:=hst1;simp only at hq1 hq2;refine cY ?_;refine cN (hc:=hA (jz ks).2 4 ae iC) ?_;refine zg ?_;refine rm hm (ι:=Unit) (λ_=>[.un,.un,⟨true,.ptr 0 2 0 0⟩,.un,⟨true,.ptr 1 11 0 0⟩,.un,.un,.un]) (λ_=>[(0,.buf 2 [Gs.D (j2 (jz ks).2).2]),(1,.buf 11 [gI.D ⟨(jz ks).1,(j2 (jz ks).2).1,[]⟩])]) 100 (λ_=>True) ?_ ?_
 .refine K5 ?_ ?_<;>intro hc0
  .refine dt ?_;refine cN (hc:=hA (jz ks).2.aI 4 ae iC) ?_;refine cC ((jz ks).2.aI.val 4).toNat (hj:=λ_=>ae) (hb:=λ_=>pD) ?_;refine dm (v:=.str cB[((jz ks).2.aI.val 4).toNat]!) (hi:=λ_=>pD) ?_;refine aV (iH.D (⟨cB[((jz ks).2.aI.val 4).toNat]!,Ef⟩:iH)) ?_;refine bj [iH.D (⟨cB[((jz ks).2.aI.val 4).toNat]!,Ef⟩:iH)] ?_;refine cY ?_;refine br (.agg [.str (jz ks).1.name,.int .i64 (jz ks).1.v.major,.int .i64 (jz ks).1.v.minor,.int .i64 (jz ks).1.v.patch,.str (jz ks).1.v.pre,.str (jz ks).1.v.build,.sl 3 ((jz ks).1.needs.map bp.D),.sl 3 ((jz ks).1.bars.map mF.D),.sl 2 ((jz ks).1.feats.map bY.D),.own 22 2 0 1,.sl 2 []]) (he:=cE) ?_;refine zg ?_;rw[akK hc0];exact⟨(),trivial,(aZ.fz 22 ah dL M0 M0 (aZ.to [(3,0),(11,1)] ah ah fK abi))⟩
  refine zg ?_;rw[akJ hc0];exact⟨(),trivial,(aZ.to [(3,0),(11,1)] ah ah fK abi)⟩
 .rintro _-
  refine dt ?_;refine cN (hc:=hA (j2 (jz ks).2).2 4 ae iC) ?_;refine zg ?_;refine rm hm (ι:=Unit) (λ_=>[.un,.un,.un,.un,⟨true,.ptr 0 11 0 0⟩,.un,.un,.un]) (λ_=>[(0,.buf 11 [gI.D (y7 ks)])]) 100 (λ_=>True) ?_ ?_
  .refine K5 ?_ ?_<;>intro hc1
   .refine dt ?_;refine cN (hc:=hA (j2 (jz ks).2).2.aI 4 ae iC) ?_;refine cC ((j2 (jz ks).2).2.aI.val 4).toNat (hj:=λ_=>ae) (hb:=λ_=>pD) ?_;refine DF (v:=.str cB[((j2 (jz ks).2).2.aI.val 4).toNat]!) (hi:=λ_=>pD) ?_;refine fw ?_;refine cN (hc:=hA (j2 (jz ks).2).2.aI.aI j4.length a7 (by simp only[Gs.aI];omega)) ?_;refine cC ((j2 (jz ks).2).2.aI.aI.val 8).toNat (hj:=λ_=>by show(j2 (jz ks).2).2.aI.aI.val 8=_;omega) (hb:=λ_=>uF) ?_;refine dm (v:=.str j4[((j2 (jz ks).2).2.aI.aI.val 8).toNat]!) (hi:=λ_=>uF) ?_;refine aV (kB.D (⟨cB[((j2 (jz ks).2).2.aI.val 4).toNat]!,j4[((j2 (jz ks).2).2.aI.aI.val 8).toNat]!⟩:kB)) ?_;refine bj [kB.D (⟨cB[((j2 (jz ks).2).2.aI.val 4).toNat]!,j4[((j2 (jz ks).2).2.aI.aI.val 8).toNat]!⟩:kB)] ?_;refine cY ?_;refine br (.agg [.str (jz ks).1.name,.int .i64 (jz ks).1.v.major,.int .i64 (jz ks).1.v.minor,.int .i64 (jz ks).1.v.patch,.str (jz ks).1.v.pre,.str (jz ks).1.v.build,.sl 3 ((jz ks).1.needs.map bp.D),.sl 3 ((jz ks).1.bars.map mF.D),.sl 2 ((jz ks).1.feats.map bY.D),.sl 2 ((j2 (jz ks).2).1.map iH.D),.own 116 2 0 1]) (he:=cE) ?_;refine zg ?_;rw[show y7 ks=⟨(jz ks).1,(j2 (jz ks).2).1,[(⟨cB[((j2 (jz ks).2).2.aI.val 4).toNat]!,j4[((j2 (jz ks).2).2.aI.aI.val 8).toNat]!⟩:kB)]⟩by unfold y7;rw[adF hc1]];exact⟨(),trivial,(aZ.fz 116 ah dL M0 M0 (aZ.to [(1,0)] ah ah fK abk))⟩
   refine zg ?_;rw[show y7 ks=⟨(jz ks).1,(j2 (jz ks).2).1,[]⟩by unfold y7;rw[adE hc1]];exact⟨(),trivial,(aZ.to [(1,0)] ah ah fK abk)⟩
  .rintro _-
   refine dt ?_;refine aD (hc:=hF (y7 ks) (Sa ks).1) ?_;refine zc ?_ ?_<;>intro hc2
   .refine dt ?_;refine cC 0 (hj:=λ_=>rfl) (hb:=λ_=>a7) ?_;refine dm (v:=bO.D bT[0]!) (hi:=λ_=>a7) ?_;refine aV (.agg [.str Hc,.int .i64 bT[0]!.major,.int .i64 bT[0]!.minor,.int .i64 bT[0]!.patch,.str bT[0]!.pre,.str bT[0]!.build,.aR,.aR,.aR]) ?_;refine aV (.agg [.str Hc,.int .i64 bT[0]!.major,.int .i64 bT[0]!.minor,.int .i64 bT[0]!.patch,.str bT[0]!.pre,.str bT[0]!.build,.aR,.aR,.aR,.aR,.aR]) ?_;refine bj [.agg [.str Hc,.int .i64 bT[0]!.major,.int .i64 bT[0]!.minor,.int .i64 bT[0]!.patch,.str bT[0]!.pre,.str bT[0]!.build,.aR,.aR,.aR,.aR,.aR]] ?_;refine cU ?_;refine EE [(114,.buf 11 [gI.D Yy])] ((.bf ah (.cons (.ag ((.cons (.refl _) (.cons (.refl _) (.cons (.refl _) (.cons (.refl _) (.cons (.refl _) (.cons (.refl _) (.cons (.nil 3) (.cons (.nil 3) (.cons (.nil 2) (.cons (.nil 2) (.cons (.nil 2) .nil))))))))))))) .nil) .nil)) ?_;refine bD 114 ?_;refine zr ?_;rw[show qm ks=Yy from ai hc2];rfl
   refine dt ?_;refine bj [gI.D (y7 ks)] ?_;refine cU ?_;refine bD 110 ?_;refine zr ?_;rw[show qm ks=y7 ks from ak hc2];rfl
def y5:aj:=bd 54
def w296 (hm:(Y.at 1).bN)(hB:G9 (Y.at 1))(hC:C535 (Y.at 1))(g:Gs)(own:av)(hp0:0<=g.i/\g.i<=980000):dk (Y.at 1) y5.body (E5 y5 2 (bp.D (mr g own).1) (Gs.D (mr g own).2):Ex->List aY->St->Prop) (fP y5 (.ptr 0 2 0 0::[.str own])) ⟨1,[(0,.buf 2 [(Gs.D g)])]⟩:=by
 show dk _ _ _ [⟨true,.ptr 0 2 0 0⟩,⟨true,.str own⟩,.un,.un,.un,.un,.un,.un,.un,.un,.un] ⟨1,[(0,.buf 2 [(Gs.D g)])]⟩;refine ax ?_;refine dt ?_;have hw1:=B4 g own;have hw2:=B4 (dD g own).2.aI own;have ha:=Wy g own;refine cU ?_;refine cN (hc:=hC g own ae) ?_;refine bj [c9.D (dD g own).1] ?_;refine cq [.own 5 4 0 1,.str [],.str []] ?_;refine jX ?_;refine cN (hc:=hB (dD g own).2 6 ae iC) ?_;refine cY ?_;refine rm hm (ι:=Unit) (λ_=>[⟨true,.ptr 0 2 0 0⟩,⟨true,.str own⟩,⟨true,.ptr 1 3 0 0⟩,.un,.un,⟨true,.ptr 2 3 0 0⟩,.un,.un,.un,.un,.un]) (λ_=>[(0,.buf 2 [Gs.D (gK g own).2]),(1,.buf 3 [.agg [.aR,.str [],.str []]]),(2,.buf 3 [.agg [.own 3 4 0 (gK g own).1.length,.str [],.str []]]),(3,.buf 4 ((gK g own).1.map c9.D))]) 60 (λ_=>True) ?_ ?_
 .refine zc ?_ ?_<;>intro hc0
  .refine cU ?_;refine zq (v:=.own 5 4 0 1) ?_;refine cU ?_;refine cN (hc:=hC (dD g own).2.aI own KZ) ?_;refine bj [c9.D (dD (dD g own).2.aI own).1] ?_;refine cR (q:=c9.D) (xs:=[(dD g own).1]) (e:=(dD (dD g own).2.aI own).1) (hb:=aF) ?_;refine cY ?_;refine br (.agg [.own 19 4 0 2,.str [],.str []]) (he:=cE) ?_;refine zg ?_;have hA:(gK g own)=([(dD g own).1,(dD (dD g own).2.aI own).1],(dD (dD g own).2.aI own).2):=ak hc0;rw[hA];exact⟨(),trivial,(aZ.to [(1,1),(7,2),(19,3)] ah ah fK (by refine bn.nl 0 ah ah ah dL ?_;refine bn.nl 1 ah ah ah dL ?_;refine bn.eq 7 ah ah ah ?_;refine bn.nl 19 ah ah ah dL ?_;exact bn.nil))⟩
  refine zc ?_ ?_<;>intro hc1
  .refine dt ?_;refine bj [.str fW] ?_;refine DC 0 (hj:=λ_=>rfl) (hb:=λ_=>a7) ?_;refine cY ?_;refine AF [.agg [.str (dD g own).1.name,.str (dD g own).1.range,.own 17 1 0 1,.bool (dD g own).1.bare]] (hi:=aF) (he:=cE) ?_;refine zg ?_;have hA:(gK g own)=([{(dD g own).1 with feats:=[fW]}],(dD g own).2.aI):=by rw[gK,ai hc0,ak hc1]
   rw[hA];exact⟨(),trivial,(aZ.fz 17 ah dL M0 M0 (aZ.to [(1,1),(7,2),(5,3)] ah ah fK abm))⟩
  refine zg ?_;have hA:(gK g own)=([(dD g own).1],(dD g own).2.aI):=by rw[gK,ai hc0,ai hc1]
  rw[hA];exact⟨(),trivial,(aZ.to [(1,1),(7,2),(5,3)] ah ah fK abm)⟩
 .rintro _-
  refine dt ?_;refine cN (hc:=hB (gK g own).2 8 ae iC) ?_;refine cY ?_;refine rm hm (ι:=Unit) (λ_=>[⟨true,.ptr 0 2 0 0⟩,⟨true,.str own⟩,⟨true,.ptr 1 3 0 0⟩,.un,.un,⟨true,.ptr 2 3 0 0⟩,.un,.un,.un,.un,.un]) (λ_=>[(0,.buf 2 [Gs.D (jB (gK g own).2).2]),(1,.buf 3 [.agg [.aR,.str [],.str []]]),(2,.buf 3 [.agg [.own 3 4 0 (gK g own).1.length,.str (jB (gK g own).2).1,.str []]]),(3,.buf 4 ((gK g own).1.map c9.D))]) 80 (λ_=>True) ?_ ?_
  .refine zc ?_ ?_<;>intro hc2
   .refine cU ?_;refine br (.agg [.own 3 4 0 (gK g own).1.length,.str osY,.str []]) (he:=cE) ?_;refine zg ?_;have hH:(jB (gK g own).2)=(osY,(gK g own).2.aI):=by rw[jB,ak hc2]
    rw[hH];exact⟨(),trivial,(aZ.to [(1,1),(2,2),(3,3)] ah ah fK Q9)⟩
   refine zc ?_ ?_<;>intro hc3
   .refine cU ?_;refine br (.agg [.own 3 4 0 (gK g own).1.length,.str osN,.str []]) (he:=cE) ?_;refine zg ?_;have hH:(jB (gK g own).2)=(osN,(gK g own).2.aI):=by rw[jB,ai hc2,ak hc3]
    rw[hH];exact⟨(),trivial,(aZ.to [(1,1),(2,2),(3,3)] ah ah fK Q9)⟩
   refine zg ?_;have hH:(jB (gK g own).2)=([],(gK g own).2.aI):=by rw[jB,ai hc2,ai hc3]
   rw[hH];exact⟨(),trivial,(aZ.to [(1,1),(2,2),(3,3)] ah ah fK Q9)⟩
  .rintro _-
   refine dt ?_;refine cN (hc:=hB (jB (gK g own).2).2 5 ae (by first|omega|(simp only[Gs.aI];omega)|(simp only[oZ,jB,Gs.aI]at*;omega))) ?_;refine zc ?_ ?_<;>intro hc4
   .refine cY ?_;have hO:(H4 (jB (gK g own).2).2)=([111],(jB (gK g own).2).2.aI):=by rw[H4,ak hc4]
    refine cY ?_;refine br (.agg [.own 3 4 0 (gK g own).1.length,.str (jB (gK g own).2).1,.str [111]]) (he:=cE) ?_;refine k9 ?_;refine bD 3 ?_;refine zg ?_;refine gO trivial Fx (dY ah (?_)) (by rw[mr,hO];exact rfl) ah ah;rw[mr,hO];rfl
   refine cY ?_;have hO:(H4 (jB (gK g own).2).2)=([],(jB (gK g own).2).2.aI):=by rw[H4,ai hc4]
   refine fw ?_;refine bD 3 ?_;refine zg ?_;refine gO trivial Fx (dY ah (?_)) (by rw[mr,hO];exact rfl) ah ah;rw[mr,hO];rfl
def LB:aj:=bd 80
def w510:JQ (cn Y LB):=λw c hp0=>by
 refine zg ?_;intro u0 u1;refine dT ?_ ?_<;>intro hc0
 .refine zr ?_;unfold vI;rw[bB ae,Bool.false_and]
 refine zg ?_;intro u2;refine zf hm (λi=>[.u 1,.m 1 c (D.int .i64),.u 1,.p 0 1,.u 1,.i i,.i c.length,.u 1,.m 1 c (D.int .i64),.u 3]) (λi=>[(0,.buf 1 [cA.D w])]) 11 (λi=>i<=c.length/\vI w c=bI (CM w c) i c.length) (λi=>c.length-i) ⟨ae,by unfold vI;rw[bg ae,ez]⟩ [(0,0)] ?_;rintro i ⟨hi,hr⟩;refine zc ?_ ?_<;>intro hc1
 .refine zc ?_ ?_<;>intro hc2
  .refine zr ?_;rw[hr,ay ae,RR hc2];rfl
  refine fM (i+1) [(0,0)] ?_;rw[hr,ay ae,LW hc2];rfl
 refine zr ?_;rw[hr,bA ae]
def OT:aj:=bd 34
def w273 (hm:(Y.at 0).bN)(hA:C175 Y)(hB:C510 Y):tZ (cn Y OT):=λw c hp0=>by
 exact mQ
def OU:aj:=bd 130
def w624 (hm:(Y.at 0).bN)(hA:C712 Y):ur (cn Y OU):=λw c x hp0=>by
 refine jX ?_;obtain⟨hsm,⟨hx0,hx1⟩,hft⟩:=hp0;have hfc:=oK hft;obtain⟨j,hj⟩:∃j:Nat,x.u=(j:Int):=⟨x.u.toNat,ae⟩
 have hjt:x.u.toNat=j:=ae;have hjl:j<w.us.length:=ae;have hcj:=hfc.2 j ae;have hun:=hsm.1 _ (aq hjl);have hvs:0<=c[j]! ->w.us[j]!.cands[c[j]!.toNat]!.v.sm:=λh=>(hun.2 _ (aq ae)).1
 refine jb ?_;refine ru ?_;refine cC c[j]!.toNat (hj:=λhf=>wq) (hb:=λhf=>wq) ?_;refine cY ?_;refine dm (v:=bO.D w.us[j]!.cands[c[j]!.toNat]!.v) (hi:=λhf=>wq) ?_;refine bX (hc:=λhf=>hA x.s w.us[j]!.cands[c[j]!.toNat]!.v ⟨hsm.2,hvs (by have hf:0<=c[j]! :=KV;exact hf)⟩) ?_;refine zr ?_;unfold lj;rw[hjt]
def OV:aj:=bd 129
def w623 (hA:C624 Y):J8 (cn Y OV):=λw c l hp0=>by
 refine zg ?_;intro u0;refine zf hm (λi=>[.u 1,.m 1 c (D.int .i64),.m 3 l Want.D,.u 1,.i i,.i l.length,.u 1,.m 3 l Want.D,.p 0 1,.u 2]) (λi=>[(0,.buf 1 [cA.D w])]) 5 (λi=>i<=l.length/\FB w c l=o8 (λi=>lj w c l[i]!) i l.length) (λi=>l.length-i) ⟨ae,aav⟩ [(0,0)] ?_;rintro i ⟨hi,hr⟩;refine zc ?_ ?_<;>intro hc0
 .refine zc ?_ ?_<;>intro hc1
  .refine zr ?_;rw[hr,lR ae,hc1];rfl
  refine fM (i+1) [(0,0)] ?_;rw[hr,lR ae];simp only[hc1,Bool.false_or]
 refine zr ?_;rw[hr,wG ae]
def Vb:aj:=bd 116
def w170 (hA:C169 Y):tZ (cn Y Vb):=λw c hp0=>by
 refine zg ?_;intro u0 u1;refine dT ?_ ?_<;>intro hc0
 .refine zr ?_;rw[ad4 hc0]
 refine zg ?_;refine zf hm (λi=>[.u 1,.m 1 c (D.int .i64),.u 1,.p 0 1,.u 1,.i i,.u 2]) (λi=>[(0,.buf 1 [cA.D w])]) 14 (λi=>i<=c.length/\eV w c=bI (CM w c) i c.length) (λi=>c.length-i) ⟨ae,by unfold eV;unfold vI;rw[bg ae,ez,hc0.2,ez]⟩ [(0,0)] ?_;rintro i ⟨hi,hr⟩;refine zg ?_;intro u2;refine dT ?_ ?_<;>intro hc1
 .refine zc ?_ ?_<;>intro hc2
  .refine zr ?_;rw[hr,ay ae,RR hc2];rfl
  refine fM (i+1) [(0,0)] ?_;rw[hr,ay ae,LW hc2];rfl
 refine zr ?_;rw[hr,bA ae]
def Vc:aj:=bd 117
def w629 (hm:(Y.at 0).bN)(hA:C627 Y):ur (cn Y Vc):=λw c x hp0=>by
 refine jX ?_;obtain⟨hsm,⟨hx0,hx1⟩,hft⟩:=hp0;have hfc:=oK hft;obtain⟨j,hj⟩:∃j:Nat,x.u=(j:Int):=⟨x.u.toNat,ae⟩
 have hjt:x.u.toNat=j:=ae;have hjl:j<w.us.length:=ae;have hcj:=hfc.2 j ae;have hun:=hsm.1 _ (aq hjl);have hvs:0<=c[j]! ->w.us[j]!.cands[c[j]!.toNat]!.v.sm:=λh=>(hun.2 _ (aq ae)).1
 refine jb ?_;refine ru ?_;refine cC c[j]!.toNat (hj:=λhf=>wq) (hb:=λhf=>wq) ?_;refine cY ?_;refine dm (v:=bO.D w.us[j]!.cands[c[j]!.toNat]!.v) (hi:=λhf=>wq) ?_;refine bX (hc:=λhf=>hA x.s w.us[j]!.cands[c[j]!.toNat]!.v ⟨hsm.2,hvs (by have hf:0<=c[j]! :=KV;exact hf)⟩) ?_;refine zr ?_;unfold lj;rw[hjt]
def ND:aj:=bd 170
def w830:Kz (cn Y ND):=λod u n hp0=>by
 refine cY ?_;obtain⟨⟨⟨hu0,hu1⟩,hn⟩,hol⟩:=hp0;refine zg ?_;intro u0;refine rm hm (ι:=Unit) (λ_=>[⟨true,.sl 1 ((od).map jL)⟩,⟨true,.int .i64 u⟩,⟨true,.int .i64 (n:Nat)⟩,.un,.un,⟨true,.own 0 1 0 (cP od u).length⟩,.un,.un,.un,.un,.un,.un]) (λ_=>[(0,.buf 1 ((cP od u).map (D.int .i64)))]) 100 (λ_=>True) ?_ ?_
 .refine K5 ?_ ?_<;>intro hc0
  .refine cY ?_;have hou:=akD (od:=od) (u:=u) ae;rw[hou]at hol;refine k9 ?_;refine zo (he:=nk.sl) (n:=od[u.toNat]!.length) (hn:=aF) (hb:=ae) ?_;refine zg ?_;rw[hou];exact⟨(),trivial,(aZ.to [(11,0)] ah ah fK (by repeat(first|exact bn.nil|refine bn.Am ah ah dL ?_|refine bn.L4 ah ah ah ?_|refine bn.L6 ah ah ah ah ?_|refine bn.nl 11 ah ah ah dL ?_)))⟩
  refine zg ?_;rw[akC (od:=od) (u:=u) ae];exact⟨(),trivial,(aZ.to [] ah ah fK (by repeat(first|exact bn.nil|refine bn.Am ah ah dL ?_|refine bn.L4 ah ah ah ?_|refine bn.L6 ah ah ah ah ?_|refine bn.mt ah ah ah ah ?_)))⟩
 .rintro _-
  refine zg ?_;rw[show((n:Nat):Int) -1=((n:Nat):Int) -1-((0:Nat):Int)by omega];refine zf hm (λt=>[.m 1 od jL,.i u,.i n,.u 2,.o 0 1 (cD (cP od u) n t).length,.i (((n:Nat):Int) -1-((t:Nat):Int)),.u 5]) (λt=>[(0,.buf 1 ((cD (cP od u) n t).map (D.int .i64)))]) 103 (λt=>t<=n) (λt=>n-t) ae [(0,0)] ?_;intro t ht;have htl:=N6 (cP od u) n t;refine zc ?_ ?_<;>intro hc1
  .refine zg ?_;refine zf hm (λk=>[.m 1 od jL,.i u,.i n,.u 2,.o 0 1 (cD (cP od u) n t).length,.i (((n:Nat):Int) -1-((t:Nat):Int)),.u 1,.i k,.u 1,.e (.bool (o8 (λk=>decide ((cD (cP od u) n t)[k]! =(((n:Nat):Int) -1-((t:Nat):Int)))) 0 k)),.u 1]) (λk=>[(0,.buf 1 ((cD (cP od u) n t).map (D.int .i64)))]) 107 (λk=>k<=(cD (cP od u) n t).length) (λk=>(cD (cP od u) n t).length-k) ae [(0,0)] ?_;intro k hk;refine zg ?_;intro _;refine dT ?_ ?_<;>intro hc2
   .refine pz ?_;refine uZ (q:=D.int .i64) (xs:=(cD (cP od u) n t)) (v:=.int .i64 (cD (cP od u) n t)[k]!) (hi:=λ_=>ae) (hv:=λ_=>uE) ?_;refine zg ?_;rw[XQ ae];exact ir (k+1) [(0,0)]
   refine cU ?_;obtain rfl:k=(cD (cP od u) n t).length:=ae;refine zc ?_ ?_<;>intro hc3
   .refine dt ?_;refine bj [.int .i64 (((n:Nat):Int) -1-((t:Nat):Int))] ?_;refine cR (q:=D.int .i64) (xs:=(cD (cP od u) n t)) (e:=(((n:Nat):Int) -1-((t:Nat):Int))) (hb:=ae) ?_;refine zg ?_;rw[aly hc3,show(((n:Nat):Int) -1-((t:Nat):Int)) -1=((n:Nat):Int) -1-((t+1:Nat):Int)by omega];exact ir (t+1) [(116,0)]
   refine zg ?_;rw[alx hc3,show(((n:Nat):Int) -1-((t:Nat):Int)) -1=((n:Nat):Int) -1-((t+1:Nat):Int)by omega];exact ir (t+1) [(0,0)]
  refine cU ?_;obtain rfl:t=n:=ae;refine bD 0 ?_;exact mQ
def Qo:aj:=bd 254
def w1009 (hA:C908 Y)(hB:afq Y):EJ (cn Y Qo):=λn hp0=>by
 refine B8 ?_;have hna:=hp0.1.1;refine zg ?_;intro u0;refine dT ?_ ?_<;>intro hc0
 .refine dt ?_;have hul:=(oo n.any[0]!).2;have hfl:=hp0.1.2 _ (aq (show 0<n.any.length by omega));refine cU ?_;refine cC 0 (hj:=λ_=>rfl) (hb:=λ_=>ae) ?_;refine zg ?_;intro u1;refine zf hm (λi=>[.u 2,.p 1 3,.u 1,.i i,.i ((fg n.any[0]!).length:Nat),.u 1,.m 2 (fg n.any[0]!) Key.D,.o 0 1 (zz n i).length,.u 4]) (λi=>[(0,.buf 1 ((zz n i).map dU)),(1,.buf 3 [bp.D n])]) 14 (λi=>i<=(fg n.any[0]!).length) (λi=>(fg n.any[0]!).length-i) ae [(0,1)] ?_;intro i hi;have hrl:=aaj n i;refine zc ?_ ?_<;>intro hc1
  .refine EI ?_;refine cC 0 (hj:=λ_=>rfl) (hb:=λ_=>ae) ?_;refine cU ?_;refine aD (hc:=hA (n.any[0]!.range) Rb) ?_;refine aV (jk.D (⟨(fg n.any[0]!)[i]!,ff n.any[0]!.range⟩:jk)) ?_;refine bj [jk.D (⟨(fg n.any[0]!)[i]!,ff n.any[0]!.range⟩:jk)] ?_;refine bj [.own 28 4 0 1] ?_;refine xM ((zz n i).map dU++[.own 28 4 0 1]) (n:=((zz n i)++[[(⟨(fg n.any[0]!)[i]!,ff n.any[0]!.range⟩:jk)]]).length) (ha:=oy) (he:=nk.own rfl (by first|rfl|simp)) (hz:=yv) (hn:=EZ) (hb:=zU) ?_;refine dt ?_;refine bD 28 ?_ (he:=lC) (hm:=lC);refine zg ?_;rw[pI,show zz n i++[[(⟨(fg n.any[0]!)[i]!,ff n.any[0]!.range⟩:jk)]]=zz n (i+1)from alj ae];exact ir (i+1) [(30,0),(1,1)]
  refine dt ?_;obtain rfl:i=(fg n.any[0]!).length:=ae;rw[ali hc0];refine bD 0 ?_ (he:=lC) (hm:=lC);exact mQ
 refine zg ?_;refine zf hm (λi=>[.u 2,.p 1 3,.u 5,.e .aR,.u 1,.i i,.u 1,.o 0 4 (Bn n i).length]) (λi=>[(0,.buf 4 ((Bn n i).map jk.D)),(1,.buf 3 [bp.D n])]) 9 (λi=>i<=n.any.length) (λi=>n.any.length-i) ae [(0,1)] ?_;intro i hi;have hol:=YX n i;refine zg ?_;intro u2;refine dT ?_ ?_<;>intro hc2
 .refine dt ?_;have hul:=(oo n.any[i]!).1;refine jX ?_;refine aD (hc:=hB ((n.any)[i]!) Rb) ?_;refine pz ?_;refine aD (hc:=hA ((n.any)[i]!.range) Rb) ?_;refine aV (jk.D (YY n.any[i]!)) ?_;refine bj [jk.D (YY n.any[i]!)] ?_;refine cR (q:=jk.D) (xs:=Bn n i) (e:=YY n.any[i]!) (hb:=ae) ?_;refine zg ?_;rw[ako ae];exact ir (i+1) [(32,0),(1,1)]
 refine cU ?_;obtain rfl:i=n.any.length:=ae;refine bD 0 ?_ (he:=lC) (hm:=lC);refine dt ?_;refine bj [dU (Bn n n.any.length)] ?_;refine zo (ys:=[dU (Bn n n.any.length)]) (n:=1) (he:=nk.all rfl rfl) (hn:=rfl) (hb:=ae) ?_;refine cU ?_;refine bD 17 ?_;refine zr ?_;rw[<-akn hc0];rfl
def Mq:aj:=bd 49
def w547 (hm:(Y.at 0).bN)(hA:C124 Y)(hB:C466 Y)(hC:C499 Y)(hD:C553 Y)(hE:C733 Y):JX (cn Y Mq):=λt hp0=>by
 show dk _ _ _ [⟨_,_⟩,_,_,_,_,_,_,_,_,_] _;have hsm:=adW (t:=t) hp0;have hsl:=og t 32;have hwl:∀i,i<(aQ t 32).length->((aQ t 32)[i]!).length<=8192:=λi hi=>dN (ri t 32 hi) hp0
 generalize hL:aQ t 32=L at hsm hsl hwl;have hP:Uu t=(decide (4<=L.length)&& !decide (L[2]! =[])):=by subst hL;rfl
 have hX:Ps t=⟨L[0]!,(uL L[1]!).getD By,gA L[2]!,xP L[3]!,L.drop 4⟩:=by subst hL;rfl
 have hK:Ml t=(Uu t&&(uL L[1]!).isSome&&m6 L[3]! &&Da (Ps t)):=by subst hL;rfl
 generalize hXX:Ps t=X at hsm hX hK;refine ax ?_;refine k9 ?_;refine aD (hc:=hA t 32 ae) ?_;rw[show((32:UInt8).toNat:Int)=32 from rfl,hL];refine B8 ?_;intro u0;refine cC 2 (hb:=λh=>by simp at h;omega) ?_;refine zg ?_;refine aH (λhc0=>?_) (λhc0=>?_)
 .simp only[cW,aX]at hc0;refine cU ?_;refine cq _ ?_;refine br _ ?_;refine zg ?_;refine dj (ba ?_ (ar D.bool ?_));all_goals
   have hq:Uu t=false:=by
    rw[hP];rcases hc0 with h|h
    .rw[bB (by omega:¬4<=L.length)];rfl
    .rw[bg h];simp
   simp only[Fk,hK,hq];rfl
 simp only[dX,b8]at hc0;refine cU ?_;have hw1:=hwl 1 ae;refine cY ?_;refine cC 1 ?_;refine jX ?_;refine br _ ?_;refine fw ?_;refine cC 3 ?_;refine qp ?_;refine cC 0 ?_;refine dt ?_;refine cC 2 ?_;refine fw ?_;refine DJ 4 (hi:=λ_=>rfl) ?_;refine aV (ea.D X) (hv:=λ_=>by rw[hX];exact rfl) ?_;refine aV (ea.D X) ?_;refine EI ?_;refine bX (hc:=λ_=>hD X (hsm ae)) ?_;refine zg ?_;refine dj (ba ?_ (ar D.bool ?_));all_goals
  have hq:Uu t=true:=by rw[hP,bg (by omega:4<=L.length),bB hc0.2];rfl
  simp only[Fk,hK,hq,hXX,bo,ez,aaM];first|exact rfl|skip
def Me:aj:=bd 4
def w119 (hm:(Y.at 0).bN)(hA:C221 Y)(hB:C294 Y)(hC:C309 Y)(hD:C312 Y)(hE:C313 Y)(hF:C314 Y)(hG:C315 Y)    :wkk Y Me (.bool true) []:=by
 refine fw ?_;refine aV (bO.D ⟨1,0,0,[],[]⟩) ?_;refine bj [.str dflW] ?_;refine aV (ea.F [97,110,116] ⟨1,0,0,[],[]⟩ F9 5 (.own 2 1 0 1)) ?_;refine bj [(ea.F [97,110,116] ⟨1,0,0,[],[]⟩ F9 5 (.own 2 1 0 1))] ?_;refine cq [.str [],.str [],.str [],.own 4 9 0 1] ?_;refine dt ?_;refine bD 2 ?_ (he:=KT) (hm:=KT);refine bD 4 ?_ (he:=KT) (hm:=KT);refine cY ?_;refine iF (d:=jE.D E8) ?_;refine aD (hc:=hD E8 afG) ?_;refine jX ?_;rw[ahS];refine cU ?_;refine aD (hc:=hC (prS E8) (by have:=aev E8;omega)) ?_;rw[aw_p];refine qp ?_;refine aW (d:=.str awF) ?_;refine dt ?_;refine zp ?_;rw[show decide ((0:Int)=0)=true from rfl];refine dt ?_;refine zn (hb:=λ_=>a7) ?_;refine cY ?_;refine ZM (s:=awF) ?_;refine aD (hc:=hA awF) (ha:=λ_=>ar (λd=>[d]) (lX (q:=λb:UInt8=>D.int .u8 b.toNat) (λ_=>rfl) ah)) (hp:=λ_=>⟨jT (q:=λb:UInt8=>D.int .u8 b.toNat) (λ_=>rfl) ah,trivial⟩) ?_;refine cY ?_;refine zn (hb:=λ_=>by simp only[bV,ju];decide) ?_;refine zn (hb:=λ_=>by simp only[bV,ju];decide) ?_;refine PX ?_;rw[bg acu];refine dt ?_;refine zp ?_;rw[show decide ((0:Int)=0)=true from rfl];refine dt ?_;refine zp ?_;rw[show decide ((0:Int)=0)=true from rfl];refine cU ?_;refine iF (d:=jE.D E8) ?_;refine fw ?_;refine iF (d:=jE.D E8) ?_;refine bX (hc:=λ_=>hG E8 afG) ?_;refine cU ?_;refine iF (d:=jE.D E8) ?_;refine fw ?_;refine aS (env':=[⟨_,(.bool _)⟩,_,_,_,_,_,_,_]) ?_;refine zr ?_;rw[ahR,acs];simp only[decide_true,fR,ez]
def Nn:aj:=bd 60
def w345 (hA:Ha Y)(hB:C572 Y):Jn (cn Y Nn):=λl hp0=>by
 refine zg ?_;refine zf hm (λi=>[.m 2 l kB.D,.u 2,.i i,.u 3]) (λi=>[]) 3 (λi=>i<=l.length/\CU l=gE (CS l) i l.length) (λi=>l.length-i) ⟨ae,rfl⟩ [] ?_;rintro i ⟨hi,hr⟩;refine zg ?_;intro u0;refine dT ?_ ?_<;>intro hc0
 .refine jb ?_;refine fw ?_;refine cC (i-1) (hj:=λhf=>B9) (hb:=λhf=>B9) ?_;refine zg ?_;refine aH (λhc1=>?_) (λhc1=>?_)
  .simp only[gL]at hc1;simp only[gt_iff_lt,Int.natCast_pos]at hc1;have hz:=adC hc1;refine zg ?_;refine dj (ba (ar (D.int .i64) ?_) (ar (D.int .i64) ?_));all_goals rw[hr,gF ae (by rw[hz];decide),hz]
  simp only[gL]at hc1;simp only[gt_iff_lt,Int.natCast_pos]at hc1;have hq:¬(dc l[i]!.name=false\/(0<i/\Op.bytesLess l[i-1]!.name l[i]!.name=false)):=by rintro(h|⟨h,h2⟩)<;>simp_all
  refine zg ?_;refine wp_cond (λhc2=>?_) (λhc2=>?_)
  .simp only[gL]at hc2;have hz:=adD hq hc2;refine zg ?_;refine dj (ba (ar (D.int .i64) ?_) (ar (D.int .i64) ?_));all_goals rw[hr,gF ae (by rw[hz];decide),hz]
  simp only[gL]at hc2;have hz:=XU hq hc2;refine fM (i+1) [] ?_;rw[hr,ke ae hz]
 refine zg ?_;refine dj (ba (ar (D.int .i64) ?_) (ar (D.int .i64) ?_));all_goals rw[hr,kd ae]
def Mo:aj:=bd 39
def w529 (hm:(Y.at 0).bN):JS (cn Y Mo):=λx nm=>by
 refine ru ?_;refine ZG (v:=.str nm) ?_;exact mQ
def zE:aj:=bd 38
def w528 (hA:C529 Y):JR (cn Y zE):=λl nm=>by
 refine zg ?_;intro u0;refine zf hm (λi=>[.m 9 l ea.D,.e (.fn 529 [.ref 1 [.str nm] 0 0]),.u 1,.i i,.i l.length,.u 3]) (λi=>[]) 4 (λi=>i<=l.length/\me l nm 0=me l nm i) (λi=>l.length-i) ⟨ae,rfl⟩ [] ?_;rintro i ⟨hi,hr⟩;refine zc ?_ ?_<;>intro hc0
 .refine EH ?_;refine B0 (hc:=λ_=>hA l[i]! nm) ?_;refine zc ?_ ?_<;>intro hc1
  .refine zr ?_;rw[hr,LP ae hc1]
  refine fM (i+1) [] ?_;rw[hr,LR ae hc1]
 refine zr ?_;rw[hr,FV ae]
def Uv:aj:=bd 11
def w294 (hm:(Y.at 0).bN)(hA:C528 Y):Jh (cn Y Uv):=λl nm=>by
 refine k9 ?_;refine bD 1 ?_;refine dt ?_;refine ZJ [.ref 1 [.str nm] 0 0] ?_;exact mQ
def Nq:aj:=bd 105
def w356:Jq (cn Y Nq):=λl nm=>by
 refine zg ?_;refine zf hm (λi=>[.m 11 l gI.D,.e (.str nm),.u 1,.i i,.u 2]) (λi=>[]) 2 (λi=>i<=l.length/\lM l nm=iD (isM nm) (l.drop i) i) (λi=>l.length-i) ⟨ae,rfl⟩ [] ?_;rintro i ⟨hi,hr⟩;refine zg ?_;intro u0;refine dT ?_ ?_<;>intro hc0
 .refine zc ?_ ?_<;>intro hc1
  .refine zr ?_;rw[hr,nV ae (by simpa[isM]using hc1)]
  refine fM (i+1) [] ?_;rw[hr,lF ae (by simpa[isM]using hc1)]
 refine zr ?_;rw[hr,nU ae]
def Qm:aj:=bd 209
def w902 (hm:(Y.at 0).bN):KC (cn Y Qm):=λa b=>by
 refine zr ?_;unfold e7;simp
end Go.Abs
end
