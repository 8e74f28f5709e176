/- A part of the proofs. -/
import Derived.Test.YtkmlboofmolbaaaGreatDoorP09
set_option linter.all false
set_option maxRecDepth 60000
set_option maxHeartbeats 2000000
noncomputable section
namespace Go.Abs
variable {Y:Ctx}(hm:(Y.at 0).bU)
def EW:aj:=⟨4,27,[⟨4,none⟩,⟨5,none⟩,⟨6,none⟩],[[.sl 1 [.a]],[.a],[.a]],(sq (rg [gb 3 s1,gb 1 s2,gb 4 s3,gm (.c (.aL)),gm yy,gm cse] [(8,0),(7,1),(10,2),(4,3),(5,4),(6,5)]) (sq (sq (r1 [gk 1 true s7,gx 175 [l0] [[.sl 3 [.a,.a,.sl 8 [.a,.a,.a,.a,.a,.a,.sl 1 [.sl 3 [.a,.a]],.sl 3 [.a,.a,.a]]]]],gno l1,gm l2,gmf 3 s0,Bt 3 (.call 142 [l4] [[.sl 2 [.a,.sl 11 [.a,.a,.a,.a,.a,.a,.sl 3 [.sl 4 [.a],.a,.a],.sl 3 [.a,.a,.a],.sl 2 [.a,.sl 1 [.a]],.a,.a]]]]),Bt 3 (.un .not l5),go1 l3 l6,gm l7,Bt 8 (.ld 3 true s8),Bt 8 (.call 138 [l9] ha3),Bt 8 (.un .not l10),go1 l8 l11] 9 12) (.cond s9 (sq (rg [gm (.c (.aL)),gm TY,gm cse] [(4,0),(5,1),(6,2)]) .ret) .skip)) (sq (sq (r1 [gk 4 true U4,gx 315 [l0] [[.a,.a,.a,.sl 9 [.a,.a,.a,.a,.a,.a,.a,.a,.sl 1 [.a]]]],gno l1,gm l2,gff 3 0 U4,Bt 3 (.ld 3 true l4),Bt 3 (.ld 3 true s8),Bt 3 (.eqA true true [.s,.s,.s] l5 l6),go1 l3 l7] 11 8) (.cond s11 (sq (rg [gm (.c (.aL)),gm (i6 34),gm cse] [(4,0),(5,1),(6,2)]) .ret) .skip)) (sq (r2 [gm s0,gk 1 true s7,⟨.mkM,none⟩,gf 0 s7,gd l3,gl l4,gn (.mks 1 (.int .i64 0) l5 l5),gn (.build [.aL,.aL,.fn 5100000 [],.aL] [(0,1,l0),(1,1,l1),(2,1,l2),(3,1,l6)]),gb 4 (.c (.agg [.aL,.aL,.fn 5100000 [],.aL])),gt 4 l8 l7] 16 8) (sq (sq (rg [gf 0 s7,gd l0,gl l1,gm yy] [(15,1),(13,2),(12,3)]) (.block 0 (.loop (sq (r1 [om ZY s13] 14 0) (sq (gce s14 0) (sq (.block 1 (sq (rg [gm ZY,ga 3 s15 ZY,gk 3 true l1,gb 3 (.c (.agg [.str [],.str [],.aL])),gm l0,gt 3 l3 l2] [(19,3),(17,4)]) (sq (rg [gf 3 s16,gd l0,gm s17,ga 1 l1 l2,gn (.st 1 l3 (.c (.int .i64 (-1))))] []) (sq (r1 [gm s17,Yd l0 yy] 18 1) (.cond s18 (rg [gf 2 s16,gd l0,gf 0 s19,gd l2,gf 1 s19,gd l4,gn (.build [.str [],.str []] [(0,1,l3),(1,1,l5)]),gm s17,gn (.upM l1 l6 l7)] []) .skip))))) (r1 [qJ ZY TY,gm l0] 12 1))))))) (sq (rg [gf 3 s16,gd l0,ga 1 l1 yy,gt 1 l2 yy] []) (sq (sq (rg [gf 3 U4,gd l0,gl l1,gm yy] [(23,1),(21,2),(20,3)]) (.block 2 (.loop (sq (r1 [om s20 s21] 22 0) (sq (gce s22 2) (sq (.block 3 (sq (r1 [ga 9 s23 s20,gk 9 true l0,gb 9 (.c (.agg [.str [],.int .i64 0,.int .i64 0,.int .i64 0,.str [],.str [],.str [],.int .u64 0,.aL])),gt 9 l2 l1] 24 2) (sq (r1 [gk 4 true s16,gk 9 true s24,gn (.callM 502 [l0,l1]),gm l2] 25 3) (sq (r1 [gm s25,sv l0 yy] 26 1) (.cond s26 (sq (rt [gm s25,gf 0 s24,gd l1,gm (.c (.aL)),gm l0,gm l2] [(4,3),(5,4),(6,5)]) .ret) .skip))))) (r1 [qJ s20 TY,gm l0] 20 1))))))) (sq (rg [gf 3 s16,gd l0,gm l1,gm yy,gm cse] [(4,2),(5,3),(6,4)]) .ret))))))))⟩
def w264 (hA:C138 Y)(hB:C142 Y)(hC:C175 Y)(hD:C315 Y)(hE:C502 Y):I0 (cw Y EW):=λshop e w l hp0=>by
 refine Em ?_;refine aF (hc:=hC (w) QM) ?_;refine dJ ?_;refine cv (hc:=λhf=>hB (shop) QM) ?_;refine zc ?_ ?_<;>intro hc0
 .refine zr ?_;rw[cho_a hc0];rfl
 refine fE ?_;refine aF (hc:=hD (l) QM) ?_;refine zc ?_ ?_<;>intro hc1
 .refine zr ?_;rw[cho_b hc0 hc1];rfl
 refine cX ?_;have h48:=Qn hc0.1.1;refine cX ?_;refine r_mkM ?_;refine dJ ?_;refine afO w.us.length ?_;refine bR [.sl 2 (shop.map bA.D),.sl 3 (w.us.map cI.D),.fn 5000000 [.it 30],.own 34 1 0 w.us.length] ?_;refine zg ?_;intro u0;rw[c1T_0];refine gy hm (ι:=Nat) (λi=>[⟨true,.sl 2 ((shop).map bA.D)⟩,.un,.un,.un,.un,.un,.un,⟨true,.ptr 2 1 0 0⟩,⟨true,.ptr 3 3 0 0⟩,.un,⟨true,.ptr 4 4 0 0⟩,.un,⟨true,.int .i64 (i:Nat)⟩,⟨true,.int .i64 (w.us.length:Nat)⟩,.un,⟨true,.sl 3 ((w.us).map cI.D)⟩,⟨true,.ptr 5 4 0 0⟩,.un,.un,.un,.un,.un,.un,.un,.un,.un,.un]) (λi=>[(0,.buf 1 ((Q9 w.us.length i).map (D.int .i64))),(1,.mpb (uH w.us i)),(2,.buf 1 [bP.D w]),(3,.buf 3 [Env.D e]),(4,.buf 4 [lI.D l]),(5,.buf 4 [.agg [.sl 2 (shop.map bA.D),.sl 3 (w.us.map cI.D),.fn 5000000 [.it 1],.own 0 1 0 w.us.length]])]) 42 (λi=>i<=w.us.length) (λi=>w.us.length-i) 0 ae (aZ.to [(34,0),(30,1),(1,2),(0,3),(2,4),(36,5)] ai ai eM (by refine bo.nl 34 ai ai ai dZ ?_;refine bo.mp 30 ai ai ai ?_;refine bo.nl 1 ai ai ai dZ ?_;refine bo.nl 0 ai ai ai dZ ?_;refine bo.nl 2 ai ai ai dZ ?_;refine bo.eq 36 ai ai ai ?_;exact bo.nil)) ?_;intro i hi;refine zc ?_ ?_<;>intro hc2
 .refine gZ ?_;refine cO ?_;refine pZ ((Q9 w.us.length (i+1)).map (D.int .i64)) (hi:=by rw[a8,wN];omega) (he:=by rw[<-acp ae];exact BK (by rw[wN];omega) _) ?_;refine zc ?_ ?_<;>intro hc3
  .refine cX ?_;refine oR (v:=.fn 5000000 [.it 1]) ?_;refine fE ?_;refine bR [.str w.us[i]!.name,.str w.us[i]!.feat] ?_;refine cO ?_;refine r_upM (uH w.us (i+1)) (hb:=D9 _ _) (he:=by rw[uH,ak ae];rfl) ?_;refine zg ?_;exact⟨i+1,ae,ae,(aZ.to [(0,0),(1,1),(2,2),(3,3),(4,4),(5,5)] ai ai eM zA)⟩
  refine zg ?_;have hi0:i=0:=ae;rw[show(uH w.us i)=(uH w.us (i+1))from by rw[hi0];rfl];exact⟨i+1,ae,ae,(aZ.to [(0,0),(1,1),(2,2),(3,3),(4,4),(5,5)] ai ai eM zA)⟩
 refine cX ?_;obtain rfl:i=w.us.length:=ae;refine dJ ?_;refine F0 0 (hj:=λ_=>ae) (hb:=λ_=>ae) ?_;refine pZ ((EH w.us.length w.us.length).map (D.int .i64)) (hi:=by rw[a8,wN];omega) (he:=by rw[<-aco];exact BK (by rw[wN];omega) _) ?_;refine zg ?_;intro u1;refine gy hm (ι:=Nat) (λi=>[⟨true,.sl 2 ((shop).map bA.D)⟩,.un,.un,.un,.un,.un,.un,⟨true,.ptr 2 1 0 0⟩,⟨true,.ptr 3 3 0 0⟩,.un,⟨true,.ptr 4 4 0 0⟩,.un,.un,.un,.un,.un,⟨true,.ptr 5 4 0 0⟩,.un,.un,.un,⟨true,.int .i64 (i:Nat)⟩,⟨true,.int .i64 (l.lines.length:Nat)⟩,.un,⟨true,.sl 9 ((l.lines).map ea.D)⟩,.un,.un,.un]) (λi=>[(0,.buf 1 ((Hr shop w.us l.lines (EH w.us.length w.us.length) i).map (D.int .i64))),(1,.mpb (uH w.us w.us.length)),(2,.buf 1 [bP.D w]),(3,.buf 3 [Env.D e]),(4,.buf 4 [lI.D l]),(5,.buf 4 [.agg [.sl 2 (shop.map bA.D),.sl 3 (w.us.map cI.D),.fn 5000000 [.it 1],.own 0 1 0 w.us.length]])]) 51 (λi=>i<=l.lines.length/\(jk shop e w l)=mz shop w.us (l.lines.drop i) (Hr shop w.us l.lines (EH w.us.length w.us.length) i)) (λi=>l.lines.length-i) 0 ⟨ae,Wy hc0 hc1⟩ (aZ.to [(0,0),(1,1),(2,2),(3,3),(4,4),(5,5)] ai ai eM zA) ?_;rintro i ⟨hi,hr⟩;have hll:=LP (shop:=shop) (us:=w.us) (l:=l.lines) (c:=EH w.us.length w.us.length) i;rw[Bm]at hll;refine zc ?_ ?_<;>intro hc4
 .refine yr ?_;have hlx:=hp0.2.2.2.1 _ (aq (show i<l.lines.length by omega));refine cX ?_;refine dI (nx':=56) (v:=.int .i64 (kT shop w.us l.lines[i]! (Hr shop w.us l.lines (EH w.us.length w.us.length) i)).1) (m':=[(0,.buf 1 ((Hr shop w.us l.lines (EH w.us.length w.us.length) (i+1)).map (D.int .i64))),(1,.mpb (uH w.us w.us.length)),(2,.buf 1 [bP.D w]),(3,.buf 3 [Env.D e]),(4,.buf 4 [lI.D l]),(5,.buf 4 [.agg [.sl 2 (shop.map bA.D),.sl 3 (w.us.map cI.D),.fn 5000000 [.it 1],.own 0 1 0 w.us.length]]),(54,.buf 9 [ea.D l.lines[i]!])]) (hc:=λK' hK=>hE shop w l.lines[i]! (Hr shop w.us l.lines (EH w.us.length w.us.length) i) (uH w.us w.us.length) ⟨⟨hp0.1,hp0.2.1,hlx.1⟩,hll⟩ (ajE hc0.1.1) _ 1 0 _ K' eC eC ai ai hK) (hn:=aV) ?_;refine zc ?_ ?_<;>intro hc5
  .refine zr ?_;rw[hr,RE ae,ak hc5];rfl
  refine zg ?_;exact⟨i+1,⟨ae,by rw[hr,RE ae,ah (by rw[hc5];simp)];rfl⟩,ae,(aZ.to [(0,0),(1,1),(2,2),(3,3),(4,4),(5,5)] ai ai eM zA)⟩
 refine cX ?_;rw[show D.own 0 1 0 w.us.length=D.own 0 1 0 (Hr shop w.us l.lines (EH w.us.length w.us.length) i).length from by rw[hll]];refine bz 0 ?_;refine zr ?_;rw[hr,XR ae];rfl
def Dr:aj:=bc 208
def w812 (hA:VC Y)(hB:C815 Y):J5 (cw Y Dr):=λl al=>by
 refine zg ?_;refine zf hm (λi=>[.m 1 l D.str,.e (.bool al),.u 1,.i i,.u 2]) (λi=>[]) 2 (λi=>i<=l.length/\nH l al=(bW (λi=>gL l[i]!) i l.length&&((decide (l.length<=6)&&rising l)&&(al ||decide (l.length=0))))) (λi=>l.length-i) ⟨ae,(wf_2 l al).symm⟩ [] ?_;rintro i ⟨hi,hr⟩;refine zg ?_;intro u0;refine dP ?_ ?_<;>intro hc0
 .refine zg ?_;refine wp_cond (λhc1=>?_) (λhc1=>?_)
  .simp only[cE]at hc1;refine zr ?_;rw[hr,aB ae,hc1];rfl
  simp only[cZ]at hc1;refine gM (i+1) [] ?_;rw[hr,aB ae,hc1];rfl
 refine zg ?_;intro u1;refine zr ?_;rw[hr,bE ae,eI,lW.2 (show((l.length:Nat):Int)<=6↔l.length<=6 by omega),lW.2 (show((l.length:Nat):Int)=0↔l.length=0 by omega)]
def Pv:aj:=bc 174
def w669 (hA:GN Y)(hB:C572 Y)(hC:C812 Y):tZ (cw Y Pv):=λr w al hp0=>by
 refine zc ?_ ?_<;>intro hc0
 .refine zr ?_;have hw:gK r w.name w.range=4:=by rw[gK,ak hc0]
  rw[lG,ak (by rw[hw];decide),hw]
 refine zc ?_ ?_<;>intro hc1
 .refine zr ?_;have hw:gK r w.name w.range=8:=by rw[gK,ah jP,ak hc1]
  rw[lG,ak (by rw[hw];decide),hw]
 refine dJ ?_;refine aF (hc:=hB w.range hp0.1.2) ?_;refine zg ?_;refine wp_cond (λhc2=>?_) (λhc2=>?_)
 .try simp only[gO]at hc2
  refine zr ?_;have hw:gK r w.name w.range=6:=by rw[gK,ah jP,ah hc1,ak hc2]
  rw[lG,ak (by rw[hw];decide),hw]
 simp only[cZ]at hc2;have hw0:gK r w.name w.range=0:=by rw[gK,ah jP,ah hc1,ah (by simp[hc2])]
 refine zc ?_ ?_<;>intro hc3
 .refine zr ?_;rw[lG,ah mg,ak hc3]
 refine zr ?_;rw[lG,ah mg,ah (by simp[hc3])]
def Ps:aj:=bc 138
def w457 (hA:VC Y)(hB:C669 Y)(hC:C670 Y):tN (cw Y Ps):=λr n hp0=>by
 refine zg ?_;intro u0;refine dP ?_ ?_<;>intro hc0
 .refine zr ?_;rw[jG,ak ae]
 refine zg ?_;intro u1;refine dP ?_ ?_<;>intro hc1
 .refine zr ?_;rw[jG,ah ae,ak ae]
 refine zg ?_;refine zf hm (λi=>[.u 3,.p 1 3,.u 2,.i i,.u 1,.p 0 9,.u 4]) (λi=>[(0,.buf 9 [Rec.D r]),(1,.buf 3 [bn.D n])]) 12 (λi=>i<=n.any.length/\nI r n.any=fV (λi=>lG r n.any[i]! (decide ((n.any.length:Int)=1))) i n.any.length) (λi=>n.any.length-i) ⟨ae,rfl⟩ [(0,0),(1,1)] ?_;rintro i ⟨hi,hr⟩;refine zg ?_;intro u2;refine dP ?_ ?_<;>intro hc2
 .refine IJ ?_;refine aF (hc:=hB r n.any[i]! _ (hp0.1 _ (aq ae))) ?_;refine zc ?_ ?_<;>intro hc3
  .refine zr ?_;have hw:nI r n.any=lG r n.any[i]! (decide ((n.any.length:Int)=1)):=by rw[hr,lJ ae hc3]
   rw[jG,ah ae,ah ae,ak (by rw[hw];exact hc3),hw]
  refine gM (i+1) [(0,0),(1,1)] ?_;rw[hr,pM ae hc3]
 refine fE ?_;have hw0:nI r n.any=0:=by rw[hr,pL ae]
 refine cX ?_;refine aF (hc:=hC n.when' hp0.2.1) ?_;refine zg ?_;refine aQ (λhc4=>?_) (λhc4=>?_)
 .try simp only[gO]at hc4
  refine zr ?_;rw[jG,ah ae,ah ae,ah mg,ak hc4]
 simp only[cZ]at hc4;refine zg ?_;refine aQ (λhc5=>?_) (λhc5=>?_)
 .try simp only[gO]at hc5
  refine zr ?_;rw[jG,ah ae,ah ae,ah mg,ah (by simp[hc4]),ak hc5]
 simp only[ep,cZ,aT]at hc5;refine zr ?_;rw[jG,ah ae,ah ae,ah mg,ah (by simp[hc4]),ah (by rintro⟨g1,g2⟩;rcases hc5 with h|h;exact g1 h;rw[g2]at h;cases h)]
def UB:aj:=bc 139
def w458 (hA:GN Y)(hB:C572 Y)(hC:C670 Y):Jp (cw Y UB):=λr b hp0=>by
 refine zc ?_ ?_<;>intro hc0
 .refine zr ?_;have hw:gK r b.name b.range=4:=by rw[gK,ak hc0]
  rw[rT,ak (by rw[hw];decide),hw]
 refine zc ?_ ?_<;>intro hc1
 .refine zr ?_;have hw:gK r b.name b.range=8:=by rw[gK,ah jP,ak hc1]
  rw[rT,ak (by rw[hw];decide),hw]
 refine dJ ?_;refine aF (hc:=hB b.range hp0.2.1) ?_;refine zg ?_;refine wp_cond (λhc2=>?_) (λhc2=>?_)
 .try simp only[gO]at hc2
  refine zr ?_;have hw:gK r b.name b.range=6:=by rw[gK,ah jP,ah hc1,ak hc2]
  rw[rT,ak (by rw[hw];decide),hw]
 simp only[cZ]at hc2;have hw0:gK r b.name b.range=0:=by rw[gK,ah jP,ah hc1,ah (by simp[hc2])]
 refine dJ ?_;refine aF (hc:=hC b.when' hp0.2.2) ?_;refine zc ?_ ?_<;>intro hc3
 .refine zr ?_;rw[rT,ah mg,ak hc3]
 refine zr ?_;rw[rT,ah mg,ah (by simp[hc3])]
def H8:aj:=bc 178
def w673:JN (cw Y H8):=λr x=>by
 refine zg ?_;refine zf hm (λi=>[.u 1,.e (.str x),.u 1,.i i,.p 0 9,.u 2]) (λi=>[(0,.buf 9 [Rec.D r])]) 3 (λi=>i<=r.needs.length/\YC r.needs x=(r.needs.drop i).any (λn=>decide (n.option=x))) (λi=>r.needs.length-i) ⟨ae,rfl⟩ [(0,0)] ?_;rintro i ⟨hi,hr⟩;refine zg ?_;intro u0;refine dP ?_ ?_<;>intro hc0
 .refine zc ?_ ?_<;>intro hc1
  .refine zr ?_;rw[hr,wH (c:=λn:bn=>decide (n.option=x)) ae (br hc1)]
  refine gM (i+1) [(0,0)] ?_;rw[hr,BZ (c:=λn:bn=>decide (n.option=x)) ae (bL hc1)]
 refine zr ?_;rw[hr,wG ae]
def H9:aj:=bc 179
def w674:JO (cw Y H9):=λr x=>by
 refine zg ?_;refine zf hm (λi=>[.u 1,.e (.str x),.u 1,.i i,.p 0 9,.u 2]) (λi=>[(0,.buf 9 [Rec.D r])]) 3 (λi=>i<=r.needs.length/\Mp r.needs x=(r.needs.drop i).any (λn=>decide (n.any.length=1)&&decide (n.any[0]!.name=x))) (λi=>r.needs.length-i) ⟨ae,rfl⟩ [(0,0)] ?_;rintro i ⟨hi,hr⟩;refine zg ?_;intro u0;refine dP ?_ ?_<;>intro hc0
 .refine zk18 ?_;intro u1;refine cK 0 (hb:=λh=>KC) ?_;refine cO ?_;refine dh (q:=de.D) (xs:=r.needs[i]!.any) (i:=0) (hi:=λh=>KC) (v:=(.str r.needs[i]!.any[0]!.name)) ?_;refine zg ?_;refine wp_cond (λhc1=>?_) (λhc1=>?_)
  .rw[lW.2 (show((r.needs[i]!.any.length:Nat):Int)=1↔r.needs[i]!.any.length=1 by omega)]at hc1;have hz:=hc1;refine zr ?_;rw[hr,wH ae hz]
  rw[lW.2 (show((r.needs[i]!.any.length:Nat):Int)=1↔r.needs[i]!.any.length=1 by omega)]at hc1;have hz:=hc1;refine gM (i+1) [(0,0)] ?_;rw[hr,BZ ae hz]
 refine zr ?_;rw[hr,wG ae]
def MD:aj:=bc 141
def w460 (hA:C672 Y)(hB:C673 Y)(hC:C674 Y):Jq (cw Y MD):=λr of hp0=>by
 refine zg ?_;refine zf hm (λi=>[.u 1,.m 1 of D.str,.u 1,.i i,.u 2,.p 0 9,.u 3]) (λi=>[(0,.buf 9 [Rec.D r])]) 3 (λi=>i<=of.length/\mO r of=fV (λi=>n7 r of[i]!) i of.length) (λi=>of.length-i) ⟨ae,rfl⟩ [(0,0)] ?_;rintro i ⟨hi,hr⟩;refine zg ?_;intro u0;refine dP ?_ ?_<;>intro hc0
 .refine zg ?_;refine aQ (λhc1=>?_) (λhc1=>?_)
  .try simp only[gO]at hc1
   refine zr ?_;have he:n7 r of[i]! =14:=by rw[n7,ak hc1]
   rw[hr,lJ ae (by rw[he];decide),he]
  have hn1:¬((bK of[i]!).1=2/\YC r.needs (bK of[i]!).2.1=false):=by rintro⟨g1,g2⟩;rw[g1,g2]at hc1;cases hc1
  refine zg ?_;refine wp_cond (λhc2=>?_) (λhc2=>?_)
  .try simp only[gO]at hc2
   refine zr ?_;have he:n7 r of[i]! =16:=by rw[n7,ah hn1,ak hc2]
   rw[hr,lJ ae (by rw[he];decide),he]
  have hn2:¬((bK of[i]!).1=3/\Mp r.needs (bK of[i]!).2.1=false):=by rintro⟨g1,g2⟩;rw[g1,g2]at hc2;cases hc2
  refine gM (i+1) [(0,0)] ?_;rw[hr,pM ae (by rw[n7,ah hn1,ah hn2])]
 refine zr ?_;rw[hr,pL ae]
def Uc:aj:=bc 7
def w28 (hA:GM Y)(hB:C110 Y)(hC:C111 Y)(hD:C112 Y)(hE:C135 Y)(hF:C136 Y):Qt (cw Y Uc):=λks=>by
 refine k9 ?_;refine a7 (Gs.D (⟨ks,0⟩:Gs)) ?_;refine kB ?_;refine cK 0 (hj:=λ_=>rfl) (hb:=λ_=>aV) ?_;refine dh (v:=bV.D bF[0]!) (hi:=λ_=>aV) ?_;refine di (hc:=hB (⟨ks,0⟩:Gs) GR bF[0]! 3 aC aV) ?_;refine a7 (.agg [.str (jH ks).1.name,.int .i64 (jH ks).1.v.major,.int .i64 (jH ks).1.v.minor,.int .i64 (jH ks).1.v.patch,.str (jH ks).1.v.pre,.str (jH ks).1.v.build,.sl 3 ((jH ks).1.needs.map bn.D),.sl 3 ((jH ks).1.bars.map lu.D),.sl 2 ((jH ks).1.feats.map b6.D),.aL,.aL]) ?_;refine dJ ?_;refine AH [(3,.buf 2 [Gs.D (jH ks).2]),(11,.buf 11 [gW.D ⟨(jH ks).1,[],[]⟩])] ((.id ai (.bf ai (.cons (.ag ((.cons (.refl _) (.cons (.refl _) (.cons (.refl _) (.cons (.refl _) (.cons (.refl _) (.cons (.refl _) (.cons (.refl _) (.cons (.refl _) (.cons (.refl _) (.cons (.nil 2) (.cons (.nil 2) .nil))))))))))))) .nil) .nil))) ?_;refine cX ?_;have hst0:=aem (⟨ks,0⟩:Gs) GR bF[0]!;rw[show ph (⟨ks,0⟩:Gs) GR bF[0]! 3=jH ks from rfl]at hst0;have hst1:=ad5 (jH ks).2;have r4:=(jH ks).2.aS.eR 4 ae;have r5:=(j8 (jH ks).2).2.aS.eR 4 ae;have r8:=(j8 (jH ks).2).2.aS.aS.eR 8 ae;obtain⟨hq1,hq2⟩:=hst0;obtain⟨hq3,hq4⟩:=hst1;simp only at hq1 hq2;refine cO ?_;refine di (hc:=hA (jH ks).2 4 ae iK) ?_;refine zg ?_;refine ra hm (ι:=Unit) (λ_=>[.un,.un,⟨true,.ptr 0 2 0 0⟩,.un,⟨true,.ptr 1 11 0 0⟩,.un,.un,.un]) (λ_=>[(0,.buf 2 [Gs.D (j8 (jH ks).2).2]),(1,.buf 11 [gW.D ⟨(jH ks).1,(j8 (jH ks).2).1,[]⟩])]) 100 (λ_=>True) ?_ ?_
 .refine Bo ?_ ?_<;>intro hc0
  .refine dJ ?_;refine di (hc:=hA (jH ks).2.aS 4 ae iK) ?_;refine cK ((jH ks).2.aS.val 4).toNat (hj:=λ_=>ae) (hb:=λ_=>py) ?_;refine dh (v:=.str cF[((jH ks).2.aS.val 4).toNat]!) (hi:=λ_=>py) ?_;refine a7 (iN.D (⟨cF[((jH ks).2.aS.val 4).toNat]!,DU⟩:iN)) ?_;refine bg [iN.D (⟨cF[((jH ks).2.aS.val 4).toNat]!,DU⟩:iN)] ?_;refine cO ?_;refine cy (.agg [.str (jH ks).1.name,.int .i64 (jH ks).1.v.major,.int .i64 (jH ks).1.v.minor,.int .i64 (jH ks).1.v.patch,.str (jH ks).1.v.pre,.str (jH ks).1.v.build,.sl 3 ((jH ks).1.needs.map bn.D),.sl 3 ((jH ks).1.bars.map lu.D),.sl 2 ((jH ks).1.feats.map b6.D),.own 22 2 0 1,.sl 2 []]) (he:=c8) ?_;refine zg ?_;rw[akj hc0];exact⟨(),trivial,(aZ.fz 22 ai dZ Ms Ms (aZ.to [(3,0),(11,1)] ai ai eM aaY))⟩
  refine zg ?_;rw[aki hc0];exact⟨(),trivial,(aZ.to [(3,0),(11,1)] ai ai eM aaY)⟩
 .rintro _-
  refine dJ ?_;refine di (hc:=hA (j8 (jH ks).2).2 4 ae iK) ?_;refine zg ?_;refine ra hm (ι:=Unit) (λ_=>[.un,.un,.un,.un,⟨true,.ptr 0 11 0 0⟩,.un,.un,.un]) (λ_=>[(0,.buf 11 [gW.D (yX ks)])]) 100 (λ_=>True) ?_ ?_
  .refine Bo ?_ ?_<;>intro hc1
   .refine dJ ?_;refine di (hc:=hA (j8 (jH ks).2).2.aS 4 ae iK) ?_;refine cK ((j8 (jH ks).2).2.aS.val 4).toNat (hj:=λ_=>ae) (hb:=λ_=>py) ?_;refine Dm (v:=.str cF[((j8 (jH ks).2).2.aS.val 4).toNat]!) (hi:=λ_=>py) ?_;refine fE ?_;refine di (hc:=hA (j8 (jH ks).2).2.aS.aS kd.length aV (by simp only[Gs.aS];omega)) ?_;refine cK ((j8 (jH ks).2).2.aS.aS.val 8).toNat (hj:=λ_=>by show(j8 (jH ks).2).2.aS.aS.val 8=_;omega) (hb:=λ_=>uy) ?_;refine dh (v:=.str kd[((j8 (jH ks).2).2.aS.aS.val 8).toNat]!) (hi:=λ_=>uy) ?_;refine a7 (kE.D (⟨cF[((j8 (jH ks).2).2.aS.val 4).toNat]!,kd[((j8 (jH ks).2).2.aS.aS.val 8).toNat]!⟩:kE)) ?_;refine bg [kE.D (⟨cF[((j8 (jH ks).2).2.aS.val 4).toNat]!,kd[((j8 (jH ks).2).2.aS.aS.val 8).toNat]!⟩:kE)] ?_;refine cO ?_;refine cy (.agg [.str (jH ks).1.name,.int .i64 (jH ks).1.v.major,.int .i64 (jH ks).1.v.minor,.int .i64 (jH ks).1.v.patch,.str (jH ks).1.v.pre,.str (jH ks).1.v.build,.sl 3 ((jH ks).1.needs.map bn.D),.sl 3 ((jH ks).1.bars.map lu.D),.sl 2 ((jH ks).1.feats.map b6.D),.sl 2 ((j8 (jH ks).2).1.map iN.D),.own 116 2 0 1]) (he:=c8) ?_;refine zg ?_;rw[show yX ks=⟨(jH ks).1,(j8 (jH ks).2).1,[(⟨cF[((j8 (jH ks).2).2.aS.val 4).toNat]!,kd[((j8 (jH ks).2).2.aS.aS.val 8).toNat]!⟩:kE)]⟩by unfold yX;rw[adn hc1]];exact⟨(),trivial,(aZ.fz 116 ai dZ Ms Ms (aZ.to [(1,0)] ai ai eM aa2))⟩
   refine zg ?_;rw[show yX ks=⟨(jH ks).1,(j8 (jH ks).2).1,[]⟩by unfold yX;rw[adm hc1]];exact⟨(),trivial,(aZ.to [(1,0)] ai ai eM aa2)⟩
  .rintro _-
   refine dJ ?_;refine aF (hc:=hF (yX ks) (RJ ks).1) ?_;refine zc ?_ ?_<;>intro hc2
   .refine dJ ?_;refine cK 0 (hj:=λ_=>rfl) (hb:=λ_=>aV) ?_;refine dh (v:=bV.D bF[0]!) (hi:=λ_=>aV) ?_;refine a7 (.agg [.str GR,.int .i64 bF[0]!.major,.int .i64 bF[0]!.minor,.int .i64 bF[0]!.patch,.str bF[0]!.pre,.str bF[0]!.build,.aL,.aL,.aL]) ?_;refine a7 (.agg [.str GR,.int .i64 bF[0]!.major,.int .i64 bF[0]!.minor,.int .i64 bF[0]!.patch,.str bF[0]!.pre,.str bF[0]!.build,.aL,.aL,.aL,.aL,.aL]) ?_;refine bg [.agg [.str GR,.int .i64 bF[0]!.major,.int .i64 bF[0]!.minor,.int .i64 bF[0]!.patch,.str bF[0]!.pre,.str bF[0]!.build,.aL,.aL,.aL,.aL,.aL]] ?_;refine cX ?_;refine AH [(114,.buf 11 [gW.D X4])] ((.bf ai (.cons (.ag ((.cons (.refl _) (.cons (.refl _) (.cons (.refl _) (.cons (.refl _) (.cons (.refl _) (.cons (.refl _) (.cons (.nil 3) (.cons (.nil 3) (.cons (.nil 2) (.cons (.nil 2) (.cons (.nil 2) .nil))))))))))))) .nil) .nil)) ?_;refine bz 114 ?_;refine zr ?_;rw[show gu ks=X4 from ah hc2];rfl
   refine dJ ?_;refine bg [gW.D (yX ks)] ?_;refine cX ?_;refine bz 110 ?_;refine zr ?_;rw[show gu ks=yX ks from ak hc2];rfl
def NN:aj:=bc 67
def w408 (hm:(Y.at 0).bU)(hA:C516 Y)(hB:C531 Y):Jf (cw Y NN):=λa b=>by
 refine En ?_;refine cO ?_;refine bg [.int .i64 (pH a.n b.n),.int .i64 (pH a.f b.f)] ?_;refine aF (hc:=hB [pH a.n b.n,pH a.f b.f]) (ha:=λ_=>aw (λd=>[d]) (tG (q:=D.int .i64) (xs:=[pH a.n b.n,pH a.f b.f]) (λ_=>rfl) ai)) (hp:=λ_=>⟨qe (q:=D.int .i64) (xs:=[pH a.n b.n,pH a.f b.f]) (λ_=>rfl) ai,trivial⟩) ?_;refine zr ?_;unfold HK;simp[fV,sc];grind
def NO:aj:=bc 120
def w622 (hA:C780 Y):JK (cw Y NO):=λl n hp0=>by
 refine zg ?_;intro u0;refine zf hm (λi=>[.u 1,.i n,.u 1,.i i,.i l.length,.u 1,.m 3 l Want.D,.u 2]) (λi=>[]) 4 (λi=>i<=l.length/\pn n l=bW (λi=>sP n l[i]!) i l.length) (λi=>l.length-i) ⟨ae,rfl⟩ [] ?_;rintro i ⟨hi,hr⟩;refine zc ?_ ?_<;>intro hc0
 .refine kB ?_;refine cy _ ?_;refine gZ ?_;refine cv (hc:=λhf=>hA _ ?_) ?_;rotate_left;first|assumption|omega|exact hp0 _ (aq ae)
  refine zc ?_ ?_<;>intro hc1
  .refine zr ?_;rw[hr,aB ae];simp only[sP];grind
  refine gM (i+1) [] ?_;rw[hr,aB ae];simp only[sP];grind
 refine zr ?_;rw[hr,bE ae]
def PN:aj:=bc 200
def w778 (hm:(Y.at 0).bU)(hA:VG Y):J4 (cw Y PN):=λw n hp0=>by
 refine zr ?_;first|(grind [sP];done)|(simp_all[sP];done)
def MR:aj:=bc 199
def w777 (hA:C778 Y):J3 (cw Y MR):=λl n hp0=>by
 refine zg ?_;refine zf hm (λi=>[.m 3 l Want.D,.i n,.u 1,.i i,.u 2]) (λi=>[]) 2 (λi=>i<=l.length/\pn n l=bW (λi=>sP n l[i]!) i l.length) (λi=>l.length-i) ⟨ae,rfl⟩ [] ?_;rintro i ⟨hi,hr⟩;refine zg ?_;intro u0;refine dP ?_ ?_<;>intro hc0
 .refine zc ?_ ?_<;>intro hc1
  .refine zr ?_;unfold rE;rw[hr,aB ae];grind
  refine gM (i+1) [] ?_;rw[hr,aB ae];grind
 refine zg ?_;intro u1;refine zr ?_;unfold rE;rw[hr,bE ae];grind
def PG:aj:=bc 160
def w618 (hA:BT Y)(hB:C777 Y)(hC:C778 Y):JJ (cw Y PG):=λc n hp0=>by
 refine pA ?_;refine aF (hc:=hA (c.v) QF) ?_;refine zc ?_ ?_<;>intro hc0
 .refine zr ?_;unfold mY;grind
 refine zg ?_;refine zf hm (λi=>[.u 1,.i n,.u 1,.p 0 8,.u 1,.i i,.u 5]) (λi=>[(0,.buf 8 [eB.D c])]) 19 (λi=>i<=c.needs.length/\bW (λi=>rE n c.needs[i]!) 0 c.needs.length=bW (λi=>rE n c.needs[i]!) i c.needs.length) (λi=>c.needs.length-i) ⟨ae,rfl⟩ [(0,0)] ?_;rintro i ⟨hi,hr⟩;refine zg ?_;intro u0;refine dP ?_ ?_<;>intro hc1
 .refine qp ?_;refine dh (v:=.sl 3 (((c.needs)[i]!).map Want.D)) (hi:=λhf=>ch) ?_;refine cO ?_;refine aF (hc:=hB ((c.needs)[i]!) (n) QF) ?_;refine zc ?_ ?_<;>intro hc2
  .refine zr ?_;unfold mY;rw[hr,aB ae];grind
  refine gM (i+1) [(0,0)] ?_;rw[hr,aB ae];grind
 refine zg ?_;refine zf hm (λk=>[.u 1,.i n,.u 1,.p 0 8,.u 4,.i k,.u 2]) (λk=>[(0,.buf 8 [eB.D c])]) 25 (λk=>k<=c.bars.length/\pn n c.bars=bW (λi=>sP n c.bars[i]!) k c.bars.length) (λk=>c.bars.length-k) ⟨ae,rfl⟩ [(0,0)] ?_;rintro k ⟨hk,hr2⟩;refine zg ?_;intro u1;refine dP ?_ ?_<;>intro hc3
 .refine yr ?_;refine aF (hc:=hC ((c.bars)[k]!) (n) QF) ?_;refine zc ?_ ?_<;>intro hc4
  .refine zr ?_;unfold mY;rw[hr2,aB (i:=k) ae];grind
  refine gM (k+1) [(0,0)] ?_;rw[hr2,aB ae];grind
 refine zr ?_;unfold mY;rw[hr2,bE (i:=k) ae,hr,bE (i:=i) ae];grind
def Bg:aj:=bc 70
def w409 (hA:C622 Y):Jg (cw Y Bg):=λc n hp0=>by
 refine zg ?_;intro u0;refine dP ?_ ?_<;>intro hc0
 .refine zr ?_;unfold mY;grind
 refine zg ?_;intro u1;refine zf hm (λi=>[.u 1,.i n,.u 1,.p 0 8,.u 1,.i i,.i c.needs.length,.u 1,.m 1 c.needs jJ,.u 2]) (λi=>[(0,.buf 8 [eB.D c])]) 16 (λi=>i<=c.needs.length/\bW (λi=>rE n c.needs[i]!) 0 c.needs.length=bW (λi=>rE n c.needs[i]!) i c.needs.length) (λi=>c.needs.length-i) ⟨ae,rfl⟩ [(0,0)] ?_;rintro i ⟨hi,hr⟩;refine zc ?_ ?_<;>intro hc1
 .refine fE ?_;refine dh (v:=.sl 3 (((c.needs)[i]!).map Want.D)) (hi:=λhf=>ch) ?_;refine gZ ?_;intro u2;refine cv (hc:=λhf=>hA ((c.needs)[i]!) (n) abd) ?_;refine zc ?_ ?_<;>intro hc2
  .refine zr ?_;unfold mY;rw[hr,aB ae];simp only[rE];grind
  refine gM (i+1) [(0,0)] ?_;rw[hr,aB ae];simp only[rE];grind
 refine kB ?_;refine aF (hc:=hA (c.bars) (n) abd) ?_;refine zr ?_;unfold mY;rw[hr,bE ae];grind
def MN:aj:=bc 159
def w617 (hm:(Y.at 0).bU):JI (cw Y MN):=λa b=>by
 refine zr ?_;first|(grind [jL];done)|(simp_all[jL];done)
def OV:aj:=bc 31
def w268 (hA:C25 Y)(hB:C159 Y):I3 (cw Y OV):=λw l hp0=>by
 refine zg ?_;intro u0;refine dP ?_ ?_<;>intro hc0
 .refine zr ?_;rw[ord_z ae];rfl
 refine zg ?_;refine zf hm (λu=>[.u 1,.m 1 l (D.int .i64),.u 2,.i u,.p 1 1,.u 11,.o 0 1 (pW w.us l u).length]) (λu=>[(0,.buf 1 ((pW w.us l u).map jS)),(1,.buf 1 [bP.D w])]) 7 (λu=>u<=w.us.length) (λu=>w.us.length-u) ae [(0,1)] ?_;intro u hu;have hol:=Uq w.us l u;refine zg ?_;intro u1;refine dP ?_ ?_<;>intro hc1
 .refine kB ?_;have hu16:=(hp0.1 _ (aq (show u<w.us.length by omega))).1;refine zk17 ?_;intro u2;obtain⟨hk0,hk1⟩:=iF (atI l ((u:Nat):Int)) 24 aV;rw[show iE (atI l ((u:Nat):Int)) 24=jB w.us l u from rfl]at hk0 hk1⊢;refine zg ?_;refine zf hm (λi=>[.u 1,.m 1 l (D.int .i64),.u 2,.i u,.p 1 1,.u 1,.i i,.i (w.us[u]!.cands.length:Nat),.i ((jB w.us l u)),.u 2,.o 2 1 (kC w.us[u]!.cands.length (jB w.us l u) i).length,.u 4,.o 0 1 (pW w.us l u).length]) (λi=>[(0,.buf 1 ((pW w.us l u).map jS)),(1,.buf 1 [bP.D w]),(2,.buf 1 ((kC w.us[u]!.cands.length (jB w.us l u) i).map (D.int .i64)))]) 27 (λi=>i<=xI w.us[u]!.cands.length (jB w.us l u)) (λi=>w.us[u]!.cands.length-i) ae [(0,0),(1,1)] ?_;intro i hi;have hoc:xI w.us[u]!.cands.length (jB w.us l u)<=w.us[u]!.cands.length:=by unfold xI;omega
  have hil:=Mf (n:=w.us[u]!.cands.length) (k:=(jB w.us l u)) i;refine pA ?_;refine Ai ((jB w.us l u)%5) (hn:=λ_=>aV) (hb:=λ_=>ZR hk0) ?_;refine zc ?_ ?_<;>intro hc2
  .refine dJ ?_;have hvb:=aka (i:=i) (k:=(jB w.us l u)) ae;refine cX ?_;refine Ai ((jB w.us l u)%3) (hn:=λ_=>aV) (hb:=λ_=>ZR hk0) ?_;refine cO ?_;refine xR (hb:=ae) ?_;refine dJ ?_;refine Ai (E5 w.us[u]!.cands.length (jB w.us l u) i) (hn:=λ_=>ae) (hb:=λ_=>ZR ae) ?_;refine zg ?_;refine zf hm (λj=>[.u 1,.m 1 l (D.int .i64),.u 2,.i u,.p 1 1,.u 1,.i i,.i (w.us[u]!.cands.length:Nat),.i ((jB w.us l u)),.u 1,.i j,.o 2 1 (kC w.us[u]!.cands.length (jB w.us l u) i).length,.u 1,.e (.bool (oF (λk=>decide ((kC w.us[u]!.cands.length (jB w.us l u) i)[k]! =(E5 w.us[u]!.cands.length (jB w.us l u) i))) 0 j)),.i ((E5 w.us[u]!.cands.length (jB w.us l u) i)),.u 1,.o 0 1 (pW w.us l u).length]) (λj=>[(0,.buf 1 ((pW w.us l u).map jS)),(1,.buf 1 [bP.D w]),(2,.buf 1 ((kC w.us[u]!.cands.length (jB w.us l u) i).map (D.int .i64)))]) 48 (λj=>j<=(kC w.us[u]!.cands.length (jB w.us l u) i).length) (λj=>(kC w.us[u]!.cands.length (jB w.us l u) i).length-j) ae [(0,0),(1,1),(2,2)] ?_;intro j hj;refine zg ?_;intro _;refine dP ?_ ?_<;>intro hc3
   .refine pA ?_;refine xQ (q:=D.int .i64) (xs:=(kC w.us[u]!.cands.length (jB w.us l u) i)) (v:=.int .i64 (kC w.us[u]!.cands.length (jB w.us l u) i)[j]!) (hi:=λ_=>ae) (hv:=λ_=>ux) ?_;refine zg ?_;rw[Xl ae];exact iy (j+1) [(0,0),(1,1),(2,2)]
   refine cX ?_;obtain rfl:j=(kC w.us[u]!.cands.length (jB w.us l u) i).length:=ae;refine zc ?_ ?_<;>intro hc4
   .refine dJ ?_;refine bg [.int .i64 (E5 w.us[u]!.cands.length (jB w.us l u) i)] ?_;refine cH (q:=D.int .i64) (xs:=(kC w.us[u]!.cands.length (jB w.us l u) i)) (e:=(E5 w.us[u]!.cands.length (jB w.us l u) i)) (hb:=ae) ?_;refine zg ?_;rw[aj7 hc4];refine zl (i+1) [(0,0),(1,1),(57,2)] ?_;exact(by unfold xI;omega)
   refine zg ?_;rw[aj6 hc4];refine zl (i+1) [(0,0),(1,1),(2,2)] ?_;exact(by unfold xI;omega)
  refine cX ?_;obtain rfl:i=xI w.us[u]!.cands.length (jB w.us l u):=by unfold xI at hi⊢;omega
  rw[show kC w.us[u]!.cands.length (jB w.us l u) (xI w.us[u]!.cands.length (jB w.us l u))=E4 w.us l u from rfl]at hil⊢;refine bz 2 ?_ (he:=Kt) (hm:=Kt);refine dJ ?_;refine bg [jS (E4 w.us l u)] ?_;refine cH (q:=jS) (xs:=(pW w.us l u)) (e:=E4 w.us l u) (hb:=ae) ?_;refine zg ?_;rw[ad1];exact iy (u+1) [(39,0),(1,1)]
 refine cX ?_;obtain rfl:u=w.us.length:=ae;rw[<-ord_e ae];refine bz 0 ?_ (he:=Kt) (hm:=Kt);exact lU
def vX:aj:=bc 195
def w909 (hm:(Y.at 3).bU)(y:cC)(ns:List au)(nm:au)(hA:C627 (Y.at 3))(hB:aeY (Y.at 3))(hC:aeZ (Y.at 3))(hD:ae0 (Y.at 3))(hE:ae1 (Y.at 3))(hp0:pB y):du (Y.at 3) vX.body (uA vX (KN y ns (uG (dL y nm))):Ex->List aY->St->Prop) (fQ vX [cC.D y (.ptr 0 2 0 0),.str nm]) ⟨3,[(0,.buf 2 [eP 1 2 ns.length]),(1,.buf 1 (ns.map D.str)),(2,.buf 1 (dm y ns))]⟩:=by
 show du _ _ _ [⟨true,cC.D y (.ptr 0 2 0 0)⟩,⟨true,.str nm⟩,.un,.un,.un,.un,.un,.un,.un,.un,.un,.un,.un,.un,.un] ⟨3,[(0,.buf 2 [eP 1 2 ns.length]),(1,.buf 1 (ns.map D.str)),(2,.buf 1 (dm y ns))]⟩;refine aP ?_;refine pA ?_;refine aF (hc:=hB (y.l) (nm) Kl) ?_;refine zc ?_ ?_<;>intro hc0
 .refine cX ?_;obtain⟨j,hj,hjl⟩:=(qN y.l nm).resolve_left ae;refine kB ?_;refine a7 (uz.D ⟨y.l[j]!.r,-1⟩) ?_;refine bg [uz.D ⟨y.l[j]!.r,-1⟩] ?_;refine cX ?_;refine bz 19 ?_;refine zg ?_;refine ei trivial jD (dk ai (?_)) ai ⟨by first|(rw[XX hj];done)|(rw[XX hj];exact rfl),1,2,⟨ae,ae,ae⟩,sW⟩;rfl
 refine qp ?_;refine aF (hc:=hC (y.shop) (y.pins) (nm) Kl) ?_;refine Ff ?_;refine aF (hc:=hD (y.l) (nm) Kl) ?_;refine fE ?_;refine cy _ ?_;refine zg ?_;refine zf hm (λi=>[.u 1,.e (.str nm),.u 1,.p 3 8,.u 2,.i i,.m 1 (cJ y.shop y.pins nm).2.1 (D.int .i64),.i ((cJ y.shop y.pins nm).2.2),.u 1,.i ((cJ y.shop y.pins nm).1),.u 1,.p 4 2,.u 1,.o 5 10 (iZ y nm (cJ y.shop y.pins nm).1.toNat ((cJ y.shop y.pins nm).2.1.take i)).length]) (λi=>[(0,.buf 2 [eP 1 2 ns.length]),(1,.buf 1 (ns.map D.str)),(2,.buf 1 (dm y ns)),(3,.buf 8 [cC.D y (.ptr 0 2 0 0)]),(4,.buf 2 [cx.D (kM y.l nm)]),(5,.buf 10 ((iZ y nm (cJ y.shop y.pins nm).1.toNat ((cJ y.shop y.pins nm).2.1.take i)).map uz.D))]) 20 (λi=>i<=(cJ y.shop y.pins nm).2.1.length) (λi=>(cJ y.shop y.pins nm).2.1.length-i) ae [(3,3),(32,4)] ?_;intro i hi;have hll:=(pT (y:=y) (nm:=nm) (a:=(cJ y.shop y.pins nm).1.toNat) ((cJ y.shop y.pins nm).2.1.take i)).1;have hl64:=adF y nm;rw[dF]at hll;refine zg ?_;intro u0;refine dP ?_ ?_<;>intro hc1
 .refine dJ ?_;obtain⟨j,hj,hjl,t,ht,htl,hxs⟩:=ajB hp0 (nm:=nm) (i:=i) hc1.2 ae;refine IJ ?_;refine cy _ ?_;refine yr ?_;refine cv (hc:=λhf=>hE y ns y.shop[j]!.es[t]!.r ⟨hp0.2.2.1,hxs⟩) (ha:=λ_=>by exact aeR y ns ⟨rfl,rfl,rfl⟩) (hp:=λ_=>by exact aaG y ns ⟨rfl,rfl,rfl⟩ jD) ?_;refine kB ?_;refine cv (hc:=λhf=>hA (kM y.l nm) y.shop[j]!.es[t]!.r.v ⟨Xn _ _,hxs⟩) ?_;refine zc ?_ ?_<;>intro hc2
  .refine k9 ?_;refine a7 (uz.D ⟨y.shop[j]!.es[t]!.r,(cJ y.shop y.pins nm).1⟩) ?_;refine bg [uz.D ⟨y.shop[j]!.es[t]!.r,(cJ y.shop y.pins nm).1⟩] ?_;refine cH (q:=uz.D) (xs:=(iZ y nm (cJ y.shop y.pins nm).1.toNat ((cJ y.shop y.pins nm).2.1.take i))) (e:=⟨y.shop[j]!.es[t]!.r,(cJ y.shop y.pins nm).1⟩) (hb:=ae) ?_;refine zg ?_;rw[adE hj ae ht hc2];exact iy (i+1) [(3,3),(4,4),(64,5)]
  refine zg ?_;rw[adD hj ae ht hc2];exact iy (i+1) [(3,3),(4,4),(5,5)]
 refine cX ?_;rw[ajy ae hi hc1];refine bz 5 ?_ (he:=aaS) (hm:=aaS);refine zg ?_;refine ei trivial jD (dk ai (?_)) ai ⟨c8,1,2,⟨ae,ae,ae⟩,sW⟩;rfl
def U6:aj:=bc 170
def w701 (hm:(Y.at 0).bU)(hA:AK Y)(hB:Tg Y):um (cw Y U6):=λa b hp0=>by
 exact lU
def Fa:aj:=bc 169
def w700 (hm:(Y.at 0).bU)(hA:C701 Y):JW (cw Y Fa):=λx nm v hp0=>by
 exact lU
def qX:aj:=bc 168
def w699 (hA:C700 Y):JV (cw Y qX):=λl nm v hp0=>by
 refine zg ?_;intro u0;refine zf hm (λi=>[.m 11 l iQ.D,.e (.fn 700 [.ref 1 [.str nm] 0 0,.ref 5 [bV.D v] 0 0]),.u 1,.i i,.i l.length,.u 3]) (λi=>[]) 4 (λi=>i<=l.length/\qo l nm v 0=qo l nm v i) (λi=>l.length-i) ⟨ae,rfl⟩ [] ?_;rintro i ⟨hi,hr⟩;refine zc ?_ ?_<;>intro hc0
 .refine Ff ?_;refine BH (hc:=λ_=>hA l[i]! nm v ⟨hp0.1 _ (aq ae),hp0.2⟩) ?_;refine zc ?_ ?_<;>intro hc1
  .refine zr ?_;rw[hr,YQ ae hc1]
  refine gM (i+1) [] ?_;rw[hr,YR ae hc1]
 refine zr ?_;rw[hr,Sc ae]
def Nk:aj:=bc 123
def w511 (hm:(Y.at 0).bU)(hA:C699 Y):ub (cw Y Nk):=λl nm v hp0=>by
 refine k9 ?_;refine bz 0 ?_;refine bz 1 ?_;refine cX ?_;refine Si [.ref 1 [.str nm] 0 0,.ref 5 [bV.D v] 0 0] ?_;exact lU
def U5:aj:=bc 71
def w353 (hA:C74 Y)(hB:Tf Y)(hC:C511 Y):tV (cw Y U5):=λs hp0=>by
 refine zg ?_;refine aQ (λhc0=>?_) (λhc0=>?_)
 .simp only[dK,cE,aT]at hc0;have hf:fO s=false:=by
   unfold fO;rcases hc0 with h|h
   .rw[h];rfl
   .rw[show decide (s.es.length<=64)=false from bL ae];simp
  refine zr ?_;exact hf.symm
 simp only[ec,cZ,ct]at hc0;have hq:fO s=bW (pJ s.es) 0 s.es.length:=by unfold fO;rw[hc0.1,br (show s.es.length<=64 by omega)];simp
 refine zg ?_;intro u0;refine zf hm (λi=>[.u 2,.p 0 2,.u 1,.i i,.i s.es.length,.u 1,.m 11 s.es iQ.D,.u 5]) (λi=>[(0,.buf 2 [bA.D s])]) 16 (λi=>i<=s.es.length/\fO s=bW (pJ s.es) i s.es.length) (λi=>s.es.length-i) ⟨ae,hq⟩ [(0,0)] ?_;rintro i ⟨hi,hr⟩;refine zc ?_ ?_<;>intro hc1
 .refine dJ ?_;have hsm:=hp0 _ (aq (show i<s.es.length by omega));refine gZ ?_;refine gZ ?_;refine dJ ?_;refine akN (q:=iQ.D) i (hj:=λ_=>rfl) (hb:=λ_=>ae) ?_;refine kB ?_;refine cv (hc:=λhf=>hC (s.es.take i) s.es[i]!.r.name s.es[i]!.r.v ⟨λx hx=>(hp0 x (EC hx)).1.2,hsm.1.2⟩) ?_;refine zg ?_;refine wp_cond (λhc2=>?_) (λhc2=>?_)
  .have hen:pJ s.es i=false:=by
    unfold pJ;simp only[dK,cE,aT,ct]at hc2;simp only[ep,ct];rcases hc2 with(h|h)|h
    .exact .inl (.inl h)
    .exact .inl (.inr h)
    .exact .inr ae
   refine zr ?_;rw[hr,aB ae,hen];rfl
  have hen:pJ s.es i=true:=by
   unfold pJ;simp only[ec,cZ,aT,ct]at hc2;simp only[aA,aT];exact⟨hc2.1,ae⟩
  refine gM (i+1) [(0,0)] ?_;rw[hr,aB ae,hen];rfl
 refine zr ?_;rw[hr,bE ae]
def PM:aj:=bc 109
def w403 (hA:Tj Y)(hB:C617 Y)(hC:C618 Y):Je (cw Y PM):=λw i hp0=>by
 refine cO ?_;obtain⟨j,rfl⟩:∃j:Nat,i=(j:Int):=⟨i.toNat,ae⟩
 have hjl:j<w.us.length:=ae;have hju:=hp0.1 _ (aq hjl);simp only[Int.toNat_natCast];refine rb ?_;refine cy _ ?_;refine zg ?_;intro u0;refine dP ?_ ?_<;>intro hc0
 .refine zr ?_;unfold sN lF;grind
 refine zc ?_ ?_<;>intro hc1
 .refine zr ?_;unfold sN lF uR;grind
 refine gZ ?_;refine fE ?_;refine cK ((j-1)) (hj:=λhf=>ch) (hb:=λhf=>ch) ?_;refine zc ?_ ?_<;>intro hc2
 .refine zr ?_;unfold sN lF;grind
 refine zg ?_;refine zf hm (λk=>[.u 1,.i j,.u 1,.p 0 1,.p 1 3,.u 3,.i k,.u 2]) (λk=>[(0,.buf 1 [bP.D w]),(1,.buf 3 [cI.D (w.us[j]!)])]) 54 (λk=>k<=w.us[j]!.cands.length/\bW (mZ w.us.length w.us[j]!.cands) 0 w.us[j]!.cands.length=bW (mZ w.us.length w.us[j]!.cands) k w.us[j]!.cands.length) (λk=>w.us[j]!.cands.length-k) ⟨ae,rfl⟩ [(0,0),(7,1)] ?_;rintro k ⟨hk,hr⟩;refine zg ?_;intro u1;refine dP ?_ ?_<;>intro hc3
 .refine Em ?_;refine aF (hc:=hC ((w.us[j]!.cands)[k]!) _ ?_) ?_;rotate_left;first|assumption|omega|(grind [bP.sm,cI.sm,eB.sm,aq])
  refine yr ?_;refine cK ((k-1)) (hj:=λhf=>ch) (hb:=λhf=>ch) ?_;refine pA ?_;refine cv (hc:=λhf=>hA ((w.us[j]!.cands)[(k-1)]!.v) ((w.us[j]!.cands)[k]!.v) (by first|assumption|omega|(grind [bP.sm,cI.sm,eB.sm,aq]))) ?_;refine zc ?_ ?_<;>intro hc4
  .refine zr ?_;unfold sN lF;rw[hr,aB (i:=k) ae];simp only[mZ];grind
  refine gM (k+1) [(0,0),(1,1)] ?_;rw[hr,aB ae];simp only[mZ];grind
 refine zr ?_;unfold sN lF uR;rw[hr,bE (i:=k) ae];grind
def UI:aj:=bc 64
def w169 (hA:C403 Y):tK (cw Y UI):=λw hp0=>by
 refine zg ?_;intro u0;refine dP ?_ ?_<;>intro hc0
 .refine zr ?_;rw[Eg];grind
 refine zg ?_;refine zf hm (λi=>[.u 2,.p 0 1,.u 1,.i i,.u 2]) (λi=>[(0,.buf 1 [bP.D w])]) 13 (λi=>i<=w.us.length/\bW (sN w.us) 0 w.us.length=bW (sN w.us) i w.us.length) (λi=>w.us.length-i) ⟨ae,rfl⟩ [(0,0)] ?_;rintro i ⟨hi,hr⟩;refine zg ?_;intro u1;refine dP ?_ ?_<;>intro hc1
 .refine zc ?_ ?_<;>intro hc2
  .refine zr ?_;rw[Eg,hr,aB ae];grind
  refine gM (i+1) [(0,0)] ?_;rw[hr,aB ae];grind
 refine zr ?_;rw[Eg,hr,bE ae];grind
def vY:aj:=bc 147
def w751 (hm:(Y.at 3).bU)(y:cC)(ns:List au)(hA:VH (Y.at 3))(hp0:∀m∈y.l,m.r.v∈bF)(hp1:y.l.length<=1000):du (Y.at 3) vY.body (uA vY (KN y ns (.sl 1 ((eL y.l).map dS))):Ex->List aY->St->Prop) (fQ vY [cC.D y (.ptr 0 2 0 0)]) ⟨3,[(0,.buf 2 [eP 1 2 ns.length]),(1,.buf 1 (ns.map D.str)),(2,.buf 1 (dm y ns))]⟩:=by
 show du _ _ _ [⟨true,cC.D y (.ptr 0 2 0 0)⟩,.un,.un,.un,.un,.un,.un] ⟨3,[(0,.buf 2 [eP 1 2 ns.length]),(1,.buf 1 (ns.map D.str)),(2,.buf 1 (dm y ns))]⟩;refine aP ?_;refine zg ?_;refine zf hm (λi=>[.u 2,.i i,.p 3 8,.u 1,.o 5 1 (eL (y.l.take i)).length,.u 1]) (λi=>[(0,.buf 2 [eP 1 2 ns.length]),(1,.buf 1 (ns.map D.str)),(2,.buf 1 (dm y ns)),(3,.buf 8 [cC.D y (.ptr 0 2 0 0)]),(5,.buf 1 ((eL (y.l.take i)).map dS))]) 20 (λi=>i<=y.l.length) (λi=>y.l.length-i) ae [(3,3)] ?_;intro i hi;have hrl:=ZU y.l i;refine zg ?_;intro u0;refine dP ?_ ?_<;>intro hc0
 .refine rb ?_;refine cy _ ?_;refine k9 ?_;refine bR _ ?_;refine dJ ?_;refine a7 (js.D (⟨⟨y.l[i]!.r.name,lv⟩,dH y.l[i]!.r.v⟩:js)) ?_;refine bg [js.D (⟨⟨y.l[i]!.r.name,lv⟩,dH y.l[i]!.r.v⟩:js)] ?_;refine bg [.own 41 4 0 1] ?_;refine xO ((eL (y.l.take i)).map dS++[.own 41 4 0 1]) (n:=((eL (y.l.take i))++[[(⟨⟨y.l[i]!.r.name,lv⟩,dH y.l[i]!.r.v⟩:js)]]).length) (ha:=kf) (he:=mW.own rfl (by first|rfl|simp)) (hz:=yu) (hn:=EE) (hb:=EG) ?_;refine dJ ?_;refine bz 41 ?_ (he:=GJ) (hm:=GJ);refine zg ?_;rw[pD,akS ae];exact iy (i+1) [(43,5),(3,3)]
 refine cX ?_;obtain rfl:i=y.l.length:=ae;rw[List.take_length];refine bz 5 ?_ (he:=GJ) (hm:=GJ);refine zg ?_;refine ei trivial jD (dk ai (?_)) ai ⟨c8,1,2,⟨ae,ae,ae⟩,sW⟩;rfl
def OW:aj:=bc 16
def w25 (hm:(Y.at 0).bU):Qs (cw Y OW):=λv n hp0=>by
 refine zc ?_ ?_<;>intro hc0
 .refine zr ?_;simp[iE,hc0]
 refine fE ?_;refine Ai (v.tmod n) (hn:=by intro _;omega) (hb:=λ_=>rfl) ?_;have ht:=D7 v n ae;refine zc ?_ ?_<;>intro hc1
 .refine zr ?_;simp only[iE];rw[ah hc0,ak hc1]
 refine zr ?_;simp only[iE];rw[ah hc0,ah hc1]
def adG:aj:=bc 49
def w159 (hm:(Y.at 0).bU):IQ (cw Y adG):=λl i=>by
 refine zc ?_ ?_<;>intro hc0
 .refine dJ ?_;refine Ai (i.tmod 3) (hn:=by intro _;omega) (hb:=λ_=>rfl) ?_;refine zr ?_;simp only[atI];rw[ak hc0]
 refine zr ?_;simp only[atI];rw[ah ae]
def sn:aj:=bc 23
def w109 (hm:(Y.at 1).bU)(hA:C25 (Y.at 1))(hB:C159 (Y.at 1))(g:Gs)(n:Int)(hp0:n<=9223372036854775807)(hp1:0<=g.i/\g.i<=1000000):du (Y.at 1) sn.body (GP sn 2 (.int .i64 (g.val n)) (Gs.D g.aS):Ex->List aY->St->Prop) (fQ sn (.ptr 0 2 0 0::[.int .i64 n])) ⟨1,[(0,.buf 2 [(Gs.D g)])]⟩:=by
 show du _ _ _ [⟨true,.ptr 0 2 0 0⟩,⟨true,.int .i64 n⟩,.un] ⟨1,[(0,.buf 2 [(Gs.D g)])]⟩;refine aP ?_;refine gZ ?_;refine qp ?_;refine BI ?_;rw[show g.i+1-1=g.i by omega];refine zg ?_;refine jc trivial jD (dk ai (aw (D.int .i64) ?_)) ai ai ai;rfl
def UR:aj:=bc 157
def w381:Jd (cw Y UR):=λn hp0=>by
 refine cO ?_;obtain⟨j,rfl⟩:∃j:Nat,n=(j:Int):=⟨n.toNat,ae⟩
 simp only[Int.toNat_natCast];refine zg ?_;refine zf hm (λi=>[.i j,.u 1,.i i,.u 1,.i ((2^i))]) (λi=>[]) 3 (λi=>i<=j) (λi=>j-i) ae [] ?_;intro i hi;have hpb:=FW (k:=i) ae;have hpp:=pY i;refine zc ?_ ?_<;>intro hc0
 .refine fE ?_;refine xR (hb:=ae) ?_;refine zg ?_;rw[show(2:Int)^i*2=2^(i+1)from(Int.pow_succ 2 i).symm];exact iy (i+1) []
 refine cX ?_;obtain rfl:i=j:=ae;exact lU
def PU:aj:=bc 107
def w158 (hm:(Y.at 0).bU)(hA:C381 Y):IP (cw Y PU):=λw u hp0=>by
 refine zc ?_ ?_<;>intro hc0
 .refine zr ?_;unfold nY;rw[ak ae]
 refine cX ?_;obtain⟨j,rfl⟩:∃j:Nat,u=(j:Int):=⟨u.toNat,ae⟩
 have hjl:j<w.us.length:=ae;have hju:=(hp0 _ (aq hjl)).1;have hpb:=FW (k:=w.us[j]!.cands.length+1) ae;have hpp:=pY (w.us[j]!.cands.length+1);refine qp ?_;intro u0;refine r_mn ((w.us[j]!.cands.length:Nat):Int) (hv:=λ_=>ah ae) ?_;refine cX ?_;refine BI (hb:=by simp only[Int.toNat_natCast,show(((w.us[j]!.cands.length:Nat):Int)+1).toNat=w.us[j]!.cands.length+1 from rfl];omega) ?_;refine zr ?_;unfold nY;rw[ah ae];rfl
def H7:aj:=bc 57
def w144 (hA:VC Y):tI (cw Y H7):=λe=>by
 refine zg ?_;refine zf hm (λi=>[.u 2,.i i,.u 1,.p 0 3,.u 1]) (λi=>[(0,.buf 3 [Env.D e])]) 3 (λi=>i<=3/\nV e=bW (λi=>decide (e.at i=[]) ||gL (e.at i)) i 3) (λi=>3-i) ⟨ae,rfl⟩ [(0,0)] ?_;rintro i ⟨hi,hr⟩;refine zc ?_ ?_<;>intro hc0
 .refine k9 ?_;refine Pm i ?_;refine oR (v:=.str (e.at i)) (hv:=λ_=>Env.ld e ae) ?_;refine fE ?_;refine Pm i ?_;refine oR (v:=.str (e.at i)) (hv:=λ_=>Env.ld e ae) ?_;refine zg ?_;refine wp_cond (λhc1=>?_) (λhc1=>?_)
  .simp only[aA,cE,ct]at hc1;refine zr ?_;rw[hr,aB ae];rw[bL hc1.1,hc1.2];rfl
  simp only[ep,cZ,aT]at hc1;refine gM (i+1) [(0,0)] ?_;rw[hr,aB ae];rw[show(decide (e.at i=[]) ||gL (e.at i))=true by rw[dK,aT];exact hc1];rfl
 refine zr ?_;rw[hr,bE ae]
def PH:aj:=bc 229
def w1015 (hA:C501 Y):Eu (cw Y PH):=λy ns r hp0=>by
 refine zg ?_;refine zf hm (λi=>[.u 3,.i i,.p 0 8,.u 1,.p 1 9,.u 1]) (λi=>[(0,.buf 8 [cC.D y (fdR y ns)]),(1,.buf 9 [Rec.D r])]) 4 (λi=>i<=y.keeps.length/\LI y.keeps r=(y.keeps.drop i).any λk=>decide (k.name=r.name)&&A4 k.v r.v) (λi=>y.keeps.length-i) ⟨ae,rfl⟩ [(0,0),(1,1)] ?_;rintro i ⟨hi,hr⟩;refine zg ?_;intro u0;refine dP ?_ ?_<;>intro hc0
 .refine zc ?_ ?_<;>intro hc1
  .refine zr ?_;rw[hr,wH ae lY]
  refine gM (i+1) [(0,0),(1,1)] ?_;rw[hr,BZ ae (by rcases hc1 with h|h<;>simp_all)]
 refine zr ?_;rw[hr,wG ae]
def E1:aj:=bc 22
def w112 (hm:(Y.at 0).bU)     :wkk Y E1 (.sl 5 (bF.map bV.D)) []:=by
 refine fE ?_;refine bR _ ?_;refine bR _ ?_;refine bR _ ?_;refine bR _ ?_;refine bg (bF.map bV.D) ?_;refine cX ?_;refine bz 5 ?_;exact lU
def LX:aj:=bc 11
def w92 (hm:(Y.at 0).bU)(hA:C270 Y):Qz (cw Y LX):=λshop e w c hp0=>by
 refine En ?_;refine cO ?_;refine cy _ ?_;refine kB ?_;refine cy _ ?_;exact lU
end Go.Abs
end
