/- A part of the proofs. -/
import Derived.Test.YtkmlboofmolbaaaGreatDoorP09
set_option linter.all false
set_option maxRecDepth 60000
set_option maxHeartbeats 2000000
noncomputable section
namespace Go.Abs
variable {Y:Ctx}(hm:(Y.at 0).cb)
def ES:aj:=⟨4,27,[⟨4,none⟩,⟨5,none⟩,⟨6,none⟩],[[.sl 1 [.a]],[.a],[.a]],(sq (rg [gb 3 s1,gb 1 s2,gb 4 s3,gm (.c (.aL)),gm yE,gm cse] [(8,0),(7,1),(10,2),(4,3),(5,4),(6,5)]) (sq (sq (r1 [gk 1 true s7,gx 175 [l0] [[.sl 3 [.a,.a,.sl 8 [.a,.a,.a,.a,.a,.a,.sl 1 [.sl 3 [.a,.a]],.sl 3 [.a,.a,.a]]]]],gno l1,gm l2,gmf 3 s0,BA 3 (.call 142 [l4] [[.sl 2 [.a,.sl 11 [.a,.a,.a,.a,.a,.a,.sl 3 [.sl 4 [.a],.a,.a],.sl 3 [.a,.a,.a],.sl 2 [.a,.sl 1 [.a]],.a,.a]]]]),BA 3 (.un .not l5),go1 l3 l6,gm l7,BA 8 (.ld 3 true s8),BA 8 (.call 138 [l9] ha3),BA 8 (.un .not l10),go1 l8 l11] 9 12) (.cond s9 (sq (rg [gm (.c (.aL)),gm TN,gm cse] [(4,0),(5,1),(6,2)]) .ret) .skip)) (sq (sq (r1 [gk 4 true UQ,gx 315 [l0] [[.a,.a,.a,.sl 9 [.a,.a,.a,.a,.a,.a,.a,.a,.sl 1 [.a]]]],gno l1,gm l2,gff 3 0 UQ,BA 3 (.ld 3 true l4),BA 3 (.ld 3 true s8),BA 3 (.eqA true true [.s,.s,.s] l5 l6),go1 l3 l7] 11 8) (.cond s11 (sq (rg [gm (.c (.aL)),gm (i6 34),gm cse] [(4,0),(5,1),(6,2)]) .ret) .skip)) (sq (r2 [gm s0,gk 1 true s7,⟨.mkM,none⟩,gf 0 s7,gd l3,gl l4,gn (.mks 1 (.int .i64 0) l5 l5),gn (.build [.aL,.aL,.fn 5100000 [],.aL] [(0,1,l0),(1,1,l1),(2,1,l2),(3,1,l6)]),gb 4 (.c (.agg [.aL,.aL,.fn 5100000 [],.aL])),gt 4 l8 l7] 16 8) (sq (sq (rg [gf 0 s7,gd l0,gl l1,gm yE] [(15,1),(13,2),(12,3)]) (.block 0 (.loop (sq (r1 [ou ZM s13] 14 0) (sq (gce s14 0) (sq (.block 1 (sq (rg [gm ZM,ga 3 s15 ZM,gk 3 true l1,gb 3 (.c (.agg [.str [],.str [],.aL])),gm l0,gt 3 l3 l2] [(19,3),(17,4)]) (sq (rg [gf 3 s16,gd l0,gm s17,ga 1 l1 l2,gn (.st 1 l3 (.c (.int .i64 (-1))))] []) (sq (r1 [gm s17,X3 l0 yE] 18 1) (.cond s18 (rg [gf 2 s16,gd l0,gf 0 s19,gd l2,gf 1 s19,gd l4,gn (.build [.str [],.str []] [(0,1,l3),(1,1,l5)]),gm s17,gn (.upM l1 l6 l7)] []) .skip))))) (r1 [qP ZM TN,gm l0] 12 1))))))) (sq (rg [gf 3 s16,gd l0,ga 1 l1 yE,gt 1 l2 yE] []) (sq (sq (rg [gf 3 UQ,gd l0,gl l1,gm yE] [(23,1),(21,2),(20,3)]) (.block 2 (.loop (sq (r1 [ou s20 s21] 22 0) (sq (gce s22 2) (sq (.block 3 (sq (r1 [ga 9 s23 s20,gk 9 true l0,gb 9 (.c (.agg [.str [],.int .i64 0,.int .i64 0,.int .i64 0,.str [],.str [],.str [],.int .u64 0,.aL])),gt 9 l2 l1] 24 2) (sq (r1 [gk 4 true s16,gk 9 true s24,gn (.callM 502 [l0,l1]),gm l2] 25 3) (sq (r1 [gm s25,sC l0 yE] 26 1) (.cond s26 (sq (rt [gm s25,gf 0 s24,gd l1,gm (.c (.aL)),gm l0,gm l2] [(4,3),(5,4),(6,5)]) .ret) .skip))))) (r1 [qP s20 TN,gm l0] 20 1))))))) (sq (rg [gf 3 s16,gd l0,gm l1,gm yE,gm cse] [(4,2),(5,3),(6,4)]) .ret))))))))⟩
def w264 (hA:C138 Y)(hB:C142 Y)(hC:C175 Y)(hD:C315 Y)(hE:C502 Y):IS (cz Y ES):=λshop e w l hp0=>by
 refine Fb ?_;refine aG (hc:=hC (w) QC) ?_;refine dI ?_;refine cB (hc:=λhf=>hB (shop) QC) ?_;refine zc ?_ ?_<;>intro hc0
 .refine zr ?_;rw[cho_a hc0];rfl
 refine eX ?_;refine aG (hc:=hD (l) QC) ?_;refine zc ?_ ?_<;>intro hc1
 .refine zr ?_;rw[cho_b hc0 hc1];rfl
 refine cC ?_;have h48:=Eh hc0.1.1;refine cC ?_;refine r_mkM ?_;refine dI ?_;refine afB w.us.length ?_;refine bT [.sl 2 (shop.map bM.D),.sl 3 (w.us.map cJ.D),.fn 5000000 [.it 30],.own 34 1 0 w.us.length] ?_;refine zg ?_;intro u0;rw[c1T_0];refine gp hm (ι:=Nat) (λi=>[⟨true,.sl 2 ((shop).map bM.D)⟩,.un,.un,.un,.un,.un,.un,⟨true,.ptr 2 1 0 0⟩,⟨true,.ptr 3 3 0 0⟩,.un,⟨true,.ptr 4 4 0 0⟩,.un,⟨true,.int .i64 (i:Nat)⟩,⟨true,.int .i64 (w.us.length:Nat)⟩,.un,⟨true,.sl 3 ((w.us).map cJ.D)⟩,⟨true,.ptr 5 4 0 0⟩,.un,.un,.un,.un,.un,.un,.un,.un,.un,.un]) (λi=>[(0,.buf 1 ((QW w.us.length i).map (D.int .i64))),(1,.mpb (uN w.us i)),(2,.buf 1 [bR.D w]),(3,.buf 3 [Env.D e]),(4,.buf 4 [kD.D l]),(5,.buf 4 [.agg [.sl 2 (shop.map bM.D),.sl 3 (w.us.map cJ.D),.fn 5000000 [.it 1],.own 0 1 0 w.us.length]])]) 42 (λi=>i<=w.us.length) (λi=>w.us.length-i) 0 ae (aY.to [(34,0),(30,1),(1,2),(0,3),(2,4),(36,5)] ah ah eL (by refine bp.nl 34 ah ah ah ec ?_;refine bp.mp 30 ah ah ah ?_;refine bp.nl 1 ah ah ah ec ?_;refine bp.nl 0 ah ah ah ec ?_;refine bp.nl 2 ah ah ah ec ?_;refine bp.eq 36 ah ah ah ?_;exact bp.nil)) ?_;intro i hi;refine zc ?_ ?_<;>intro hc2
 .refine iw ?_;refine cN ?_;refine lD ((QW w.us.length (i+1)).map (D.int .i64)) (hi:=by rw[aZ,wV];omega) (he:=by rw[<-aca ae];exact BO (by rw[wV];omega) _) ?_;refine zc ?_ ?_<;>intro hc3
  .refine cC ?_;refine qc (v:=.fn 5000000 [.it 1]) ?_;refine eX ?_;refine bT [.str w.us[i]!.name,.str w.us[i]!.feat] ?_;refine cN ?_;refine r_upM (uN w.us (i+1)) (hb:=Ea _ _) (he:=by rw[uN,ak ae];rfl) ?_;refine zg ?_;exact⟨i+1,ae,ae,(aY.to [(0,0),(1,1),(2,2),(3,3),(4,4),(5,5)] ah ah eL zI)⟩
  refine zg ?_;have hi0:i=0:=ae;rw[show(uN w.us i)=(uN w.us (i+1))from by rw[hi0];rfl];exact⟨i+1,ae,ae,(aY.to [(0,0),(1,1),(2,2),(3,3),(4,4),(5,5)] ah ah eL zI)⟩
 refine cC ?_;obtain rfl:i=w.us.length:=ae;refine dI ?_;refine sI 0 (hj:=λ_=>ae) (hb:=λ_=>ae) ?_;refine lD ((Fl w.us.length w.us.length).map (D.int .i64)) (hi:=by rw[aZ,wV];omega) (he:=by rw[<-ab9];exact BO (by rw[wV];omega) _) ?_;refine zg ?_;intro u1;refine gp hm (ι:=Nat) (λi=>[⟨true,.sl 2 ((shop).map bM.D)⟩,.un,.un,.un,.un,.un,.un,⟨true,.ptr 2 1 0 0⟩,⟨true,.ptr 3 3 0 0⟩,.un,⟨true,.ptr 4 4 0 0⟩,.un,.un,.un,.un,.un,⟨true,.ptr 5 4 0 0⟩,.un,.un,.un,⟨true,.int .i64 (i:Nat)⟩,⟨true,.int .i64 (l.lines.length:Nat)⟩,.un,⟨true,.sl 9 ((l.lines).map dr.D)⟩,.un,.un,.un]) (λi=>[(0,.buf 1 ((Hn shop w.us l.lines (Fl w.us.length w.us.length) i).map (D.int .i64))),(1,.mpb (uN w.us w.us.length)),(2,.buf 1 [bR.D w]),(3,.buf 3 [Env.D e]),(4,.buf 4 [kD.D l]),(5,.buf 4 [.agg [.sl 2 (shop.map bM.D),.sl 3 (w.us.map cJ.D),.fn 5000000 [.it 1],.own 0 1 0 w.us.length]])]) 51 (λi=>i<=l.lines.length/\(jL shop e w l)=vT shop w.us (l.lines.drop i) (Hn shop w.us l.lines (Fl w.us.length w.us.length) i)) (λi=>l.lines.length-i) 0 ⟨ae,ae8 hc0 hc1⟩ (aY.to [(0,0),(1,1),(2,2),(3,3),(4,4),(5,5)] ah ah eL zI) ?_;rintro i ⟨hi,hr⟩;have hll:=LJ (shop:=shop) (us:=w.us) (l:=l.lines) (c:=Fl w.us.length w.us.length) i;rw[Bt]at hll;refine zc ?_ ?_<;>intro hc4
 .refine yx ?_;have hlx:=hp0.2.2.2.1 _ (aq (show i<l.lines.length by omega));refine cC ?_;refine dK (nx':=56) (v:=.int .i64 (mT shop w.us l.lines[i]! (Hn shop w.us l.lines (Fl w.us.length w.us.length) i)).1) (m':=[(0,.buf 1 ((Hn shop w.us l.lines (Fl w.us.length w.us.length) (i+1)).map (D.int .i64))),(1,.mpb (uN w.us w.us.length)),(2,.buf 1 [bR.D w]),(3,.buf 3 [Env.D e]),(4,.buf 4 [kD.D l]),(5,.buf 4 [.agg [.sl 2 (shop.map bM.D),.sl 3 (w.us.map cJ.D),.fn 5000000 [.it 1],.own 0 1 0 w.us.length]]),(54,.buf 9 [dr.D l.lines[i]!])]) (hc:=λK' hK=>hE shop w l.lines[i]! (Hn shop w.us l.lines (Fl w.us.length w.us.length) i) (uN w.us w.us.length) ⟨⟨hp0.1,hp0.2.1,hlx.1⟩,hll⟩ (ajw hc0.1.1) _ 1 0 _ K' eB eB ah ah hK) (hn:=aU) ?_;refine zc ?_ ?_<;>intro hc5
  .refine zr ?_;rw[hr,Rr ae,ak hc5];rfl
  refine zg ?_;exact⟨i+1,⟨ae,by rw[hr,Rr ae,ai (by rw[hc5];simp)];rfl⟩,ae,(aY.to [(0,0),(1,1),(2,2),(3,3),(4,4),(5,5)] ah ah eL zI)⟩
 refine cC ?_;rw[show D.own 0 1 0 w.us.length=D.own 0 1 0 (Hn shop w.us l.lines (Fl w.us.length w.us.length) i).length from by rw[hll]];refine bm 0 ?_;refine zr ?_;rw[hr,XH ae];rfl
def Ds:aj:=bj 208
def w812 (hA:Vq Y)(hB:C815 Y):JY (cz Y Ds):=λl al=>by
 refine zg ?_;refine zf hm (λi=>[.m 1 l D.str,.e (.bool al),.u 1,.i i,.u 2]) (λi=>[]) 2 (λi=>i<=l.length/\nK l al=(b9 (λi=>gT l[i]!) i l.length&&((decide (l.length<=6)&&rising l)&&(al ||decide (l.length=0))))) (λi=>l.length-i) ⟨ae,(wf_2 l al).symm⟩ [] ?_;rintro i ⟨hi,hr⟩;refine zg ?_;intro u0;refine dN ?_ ?_<;>intro hc0
 .refine zg ?_;refine wp_cond (λhc1=>?_) (λhc1=>?_)
  .simp only[cG]at hc1;refine zr ?_;rw[hr,aA ae,hc1];rfl
  simp only[dq]at hc1;refine gI (i+1) [] ?_;rw[hr,aA ae,hc1];rfl
 refine zg ?_;intro u1;refine zr ?_;rw[hr,bI ae,eu,lT.2 (show((l.length:Nat):Int)<=6↔l.length<=6 by omega),lT.2 (show((l.length:Nat):Int)=0↔l.length=0 by omega)]
def Po:aj:=bj 174
def w669 (hA:GJ Y)(hB:C572 Y)(hC:C812 Y):uf (cz Y Po):=λr w al hp0=>by
 refine zc ?_ ?_<;>intro hc0
 .refine zr ?_;have hw:gR r w.name w.range=4:=by rw[gR,ak hc0]
  rw[lG,ak (by rw[hw];decide),hw]
 refine zc ?_ ?_<;>intro hc1
 .refine zr ?_;have hw:gR r w.name w.range=8:=by rw[gR,ai jN,ak hc1]
  rw[lG,ak (by rw[hw];decide),hw]
 refine dI ?_;refine aG (hc:=hB w.range hp0.1.2) ?_;refine zg ?_;refine wp_cond (λhc2=>?_) (λhc2=>?_)
 .try simp only[gJ]at hc2
  refine zr ?_;have hw:gR r w.name w.range=6:=by rw[gR,ai jN,ai hc1,ak hc2]
  rw[lG,ak (by rw[hw];decide),hw]
 simp only[dq]at hc2;have hw0:gR r w.name w.range=0:=by rw[gR,ai jN,ai hc1,ai (by simp[hc2])]
 refine zc ?_ ?_<;>intro hc3
 .refine zr ?_;rw[lG,ai me,ak hc3]
 refine zr ?_;rw[lG,ai me,ai (by simp[hc3])]
def Pl:aj:=bj 138
def w457 (hA:Vq Y)(hB:C669 Y)(hC:C670 Y):tT (cz Y Pl):=λr n hp0=>by
 refine zg ?_;intro u0;refine dN ?_ ?_<;>intro hc0
 .refine zr ?_;rw[jF,ak ae]
 refine zg ?_;intro u1;refine dN ?_ ?_<;>intro hc1
 .refine zr ?_;rw[jF,ai ae,ak ae]
 refine zg ?_;refine zf hm (λi=>[.u 3,.p 1 3,.u 2,.i i,.u 1,.p 0 9,.u 4]) (λi=>[(0,.buf 9 [Rec.D r]),(1,.buf 3 [bw.D n])]) 12 (λi=>i<=n.any.length/\nL r n.any=fZ (λi=>lG r n.any[i]! (decide ((n.any.length:Int)=1))) i n.any.length) (λi=>n.any.length-i) ⟨ae,rfl⟩ [(0,0),(1,1)] ?_;rintro i ⟨hi,hr⟩;refine zg ?_;intro u2;refine dN ?_ ?_<;>intro hc2
 .refine Fc ?_;refine aG (hc:=hB r n.any[i]! _ (hp0.1 _ (aq ae))) ?_;refine zc ?_ ?_<;>intro hc3
  .refine zr ?_;have hw:nL r n.any=lG r n.any[i]! (decide ((n.any.length:Int)=1)):=by rw[hr,lJ ae hc3]
   rw[jF,ai ae,ai ae,ak (by rw[hw];exact hc3),hw]
  refine gI (i+1) [(0,0),(1,1)] ?_;rw[hr,pP ae hc3]
 refine eX ?_;have hw0:nL r n.any=0:=by rw[hr,pO ae]
 refine cC ?_;refine aG (hc:=hC n.when' hp0.2.1) ?_;refine zg ?_;refine aR (λhc4=>?_) (λhc4=>?_)
 .try simp only[gJ]at hc4
  refine zr ?_;rw[jF,ai ae,ai ae,ai me,ak hc4]
 simp only[dq]at hc4;refine zg ?_;refine aR (λhc5=>?_) (λhc5=>?_)
 .try simp only[gJ]at hc5
  refine zr ?_;rw[jF,ai ae,ai ae,ai me,ai (by simp[hc4]),ak hc5]
 simp only[er,dq,aV]at hc5;refine zr ?_;rw[jF,ai ae,ai ae,ai me,ai (by simp[hc4]),ai (by rintro⟨g1,g2⟩;rcases hc5 with h|h;exact g1 h;rw[g2]at h;cases h)]
def Uq:aj:=bj 139
def w458 (hA:GJ Y)(hB:C572 Y)(hC:C670 Y):Ji (cz Y Uq):=λr b hp0=>by
 refine zc ?_ ?_<;>intro hc0
 .refine zr ?_;have hw:gR r b.name b.range=4:=by rw[gR,ak hc0]
  rw[rY,ak (by rw[hw];decide),hw]
 refine zc ?_ ?_<;>intro hc1
 .refine zr ?_;have hw:gR r b.name b.range=8:=by rw[gR,ai jN,ak hc1]
  rw[rY,ak (by rw[hw];decide),hw]
 refine dI ?_;refine aG (hc:=hB b.range hp0.2.1) ?_;refine zg ?_;refine wp_cond (λhc2=>?_) (λhc2=>?_)
 .try simp only[gJ]at hc2
  refine zr ?_;have hw:gR r b.name b.range=6:=by rw[gR,ai jN,ai hc1,ak hc2]
  rw[rY,ak (by rw[hw];decide),hw]
 simp only[dq]at hc2;have hw0:gR r b.name b.range=0:=by rw[gR,ai jN,ai hc1,ai (by simp[hc2])]
 refine dI ?_;refine aG (hc:=hC b.when' hp0.2.2) ?_;refine zc ?_ ?_<;>intro hc3
 .refine zr ?_;rw[rY,ai me,ak hc3]
 refine zr ?_;rw[rY,ai me,ai (by simp[hc3])]
def HZ:aj:=bj 178
def w673:JG (cz Y HZ):=λr x=>by
 refine zg ?_;refine zf hm (λi=>[.u 1,.e (.str x),.u 1,.i i,.p 0 9,.u 2]) (λi=>[(0,.buf 9 [Rec.D r])]) 3 (λi=>i<=r.needs.length/\Yr r.needs x=(r.needs.drop i).any (λn=>decide (n.option=x))) (λi=>r.needs.length-i) ⟨ae,rfl⟩ [(0,0)] ?_;rintro i ⟨hi,hr⟩;refine zg ?_;intro u0;refine dN ?_ ?_<;>intro hc0
 .refine zc ?_ ?_<;>intro hc1
  .refine zr ?_;rw[hr,wP (c:=λn:bw=>decide (n.option=x)) ae (bA hc1)]
  refine gI (i+1) [(0,0)] ?_;rw[hr,B2 (c:=λn:bw=>decide (n.option=x)) ae (bN hc1)]
 refine zr ?_;rw[hr,wO ae]
def H0:aj:=bj 179
def w674:JH (cz Y H0):=λr x=>by
 refine zg ?_;refine zf hm (λi=>[.u 1,.e (.str x),.u 1,.i i,.p 0 9,.u 2]) (λi=>[(0,.buf 9 [Rec.D r])]) 3 (λi=>i<=r.needs.length/\Mj r.needs x=(r.needs.drop i).any (λn=>decide (n.any.length=1)&&decide (n.any[0]!.name=x))) (λi=>r.needs.length-i) ⟨ae,rfl⟩ [(0,0)] ?_;rintro i ⟨hi,hr⟩;refine zg ?_;intro u0;refine dN ?_ ?_<;>intro hc0
 .refine zk18 ?_;intro u1;refine cM 0 (hb:=λh=>Kw) ?_;refine cN ?_;refine dd (q:=di.D) (xs:=r.needs[i]!.any) (i:=0) (hi:=λh=>Kw) (v:=(.str r.needs[i]!.any[0]!.name)) ?_;refine zg ?_;refine wp_cond (λhc1=>?_) (λhc1=>?_)
  .rw[lT.2 (show((r.needs[i]!.any.length:Nat):Int)=1↔r.needs[i]!.any.length=1 by omega)]at hc1;have hz:=hc1;refine zr ?_;rw[hr,wP ae hz]
  rw[lT.2 (show((r.needs[i]!.any.length:Nat):Int)=1↔r.needs[i]!.any.length=1 by omega)]at hc1;have hz:=hc1;refine gI (i+1) [(0,0)] ?_;rw[hr,B2 ae hz]
 refine zr ?_;rw[hr,wO ae]
def Mw:aj:=bj 141
def w460 (hA:C672 Y)(hB:C673 Y)(hC:C674 Y):Jj (cz Y Mw):=λr of hp0=>by
 refine zg ?_;refine zf hm (λi=>[.u 1,.m 1 of D.str,.u 1,.i i,.u 2,.p 0 9,.u 3]) (λi=>[(0,.buf 9 [Rec.D r])]) 3 (λi=>i<=of.length/\mQ r of=fZ (λi=>oe r of[i]!) i of.length) (λi=>of.length-i) ⟨ae,rfl⟩ [(0,0)] ?_;rintro i ⟨hi,hr⟩;refine zg ?_;intro u0;refine dN ?_ ?_<;>intro hc0
 .refine zg ?_;refine aR (λhc1=>?_) (λhc1=>?_)
  .try simp only[gJ]at hc1
   refine zr ?_;have he:oe r of[i]! =14:=by rw[oe,ak hc1]
   rw[hr,lJ ae (by rw[he];decide),he]
  have hn1:¬((bP of[i]!).1=2/\Yr r.needs (bP of[i]!).2.1=false):=by rintro⟨g1,g2⟩;rw[g1,g2]at hc1;cases hc1
  refine zg ?_;refine wp_cond (λhc2=>?_) (λhc2=>?_)
  .try simp only[gJ]at hc2
   refine zr ?_;have he:oe r of[i]! =16:=by rw[oe,ai hn1,ak hc2]
   rw[hr,lJ ae (by rw[he];decide),he]
  have hn2:¬((bP of[i]!).1=3/\Mj r.needs (bP of[i]!).2.1=false):=by rintro⟨g1,g2⟩;rw[g1,g2]at hc2;cases hc2
  refine gI (i+1) [(0,0)] ?_;rw[hr,pP ae (by rw[oe,ai hn1,ai hn2])]
 refine zr ?_;rw[hr,pO ae]
def UB:aj:=bj 83
def w417 (hA:C628 Y)(hB:C629 Y):Jc (cz Y UB):=λw c u hp0=>by
 refine kI ?_;obtain⟨⟨hk,hkc⟩,⟨hl1,hl2⟩,hmn,hmb⟩:=BK hp0;have huc:u<c.length:=hp0.2.2.1;have hul:u<w.us.length:=by have:=(nw hp0.2.1).1;omega
 refine iw ?_;refine dd (v:=eA.D (aX w c u)) (hi:=λ_=>ae) ?_;refine zg ?_;refine zf hm (λk=>[.u 1,.m 1 c (D.int .i64),.i u,.u 1,.p 1 1,.i k,.p 2 8,.u 2,.o 0 3 (fP w c u (aX w c u).needs k).length,.u 3]) (λk=>[(0,.buf 3 ((fP w c u (aX w c u).needs k).map wH.D)),(1,.buf 1 [bR.D w]),(2,.buf 8 [eA.D (aX w c u)])]) 18 (λk=>k<=(aX w c u).needs.length) (λk=>(aX w c u).needs.length-k) ae [(0,1),(15,2)] ?_;intro k hk1;have hlk:=p0 (w:=w) (c:=c) (u:=u) (l:=(aX w c u).needs) k;refine zg ?_;intro u0;refine dN ?_ ?_<;>intro hc0
 .refine yx ?_;refine dd (v:=.sl 3 ((((aX w c u).needs)[k]!).map Want.D)) (hi:=λhf=>cv) ?_;refine zg ?_;refine wp_cond (λhc1=>?_) (λhc1=>?_)
  .simp only[cG]at hc1;have hst:(fP w c u (aX w c u).needs k)++[⟨2,((u:Nat):Int),((k:Nat):Int)⟩]=(fP w c u (aX w c u).needs (k+1)):=by rw[OV hc1]
   refine eX ?_;refine bg (wH.D ⟨2,((u:Nat):Int),((k:Nat):Int)⟩) ?_;refine bc [wH.D ⟨2,((u:Nat):Int),((k:Nat):Int)⟩] ?_;refine cL (q:=wH.D) (xs:=(fP w c u (aX w c u).needs k)) (e:=⟨2,((u:Nat):Int),((k:Nat):Int)⟩) (hb:=ae) ?_;refine zg ?_;rw[hst];exact iC (k+1) [(37,0),(1,1),(2,2)]
  simp only[dq]at hc1;have hst:(fP w c u (aX w c u).needs k)=(fP w c u (aX w c u).needs (k+1)):=by rw[OW hc1]
  refine zg ?_;rw[hst];exact iC (k+1) [(0,0),(1,1),(2,2)]
 refine dI ?_;obtain rfl:k=(aX w c u).needs.length:=ae;refine zg ?_;rw[show(fP w c u (aX w c u).needs (aX w c u).needs.length)=((fP w c u (aX w c u).needs (aX w c u).needs.length)++j6 w c u (aX w c u).bars 0)from(gF _).symm];refine zf hm (λq=>[.u 1,.m 1 c (D.int .i64),.i u,.u 1,.p 1 1,.u 1,.p 2 8,.u 2,.o 0 3 ((fP w c u (aX w c u).needs (aX w c u).needs.length)++j6 w c u (aX w c u).bars q).length,.i q,.u 2]) (λq=>[(0,.buf 3 (((fP w c u (aX w c u).needs (aX w c u).needs.length)++j6 w c u (aX w c u).bars q).map wH.D)),(1,.buf 1 [bR.D w]),(2,.buf 8 [eA.D (aX w c u)])]) 24 (λq=>q<=(aX w c u).bars.length) (λq=>(aX w c u).bars.length-q) ae [(0,0),(1,1),(2,2)] ?_;intro q hq;have hlq:=wQ (w:=w) (c:=c) (u:=u) (b:=(aX w c u).bars) q;have hlk:=p0 (w:=w) (c:=c) (u:=u) (l:=(aX w c u).needs) (aX w c u).needs.length;have hlt:((fP w c u (aX w c u).needs (aX w c u).needs.length)++j6 w c u (aX w c u).bars q).length<=48:=by rw[cu];omega
 refine zg ?_;intro u1;refine dN ?_ ?_<;>intro hc2
 .refine zg ?_;refine wp_cond (λhc3=>?_) (λhc3=>?_)
  .have hst:((fP w c u (aX w c u).needs (aX w c u).needs.length)++j6 w c u (aX w c u).bars q)++[⟨3,((u:Nat):Int),((q:Nat):Int)⟩]=((fP w c u (aX w c u).needs (aX w c u).needs.length)++j6 w c u (aX w c u).bars (q+1)):=by rw[N2 hc3,<-fF]
   refine eX ?_;refine bg (wH.D ⟨3,((u:Nat):Int),((q:Nat):Int)⟩) ?_;refine bc [wH.D ⟨3,((u:Nat):Int),((q:Nat):Int)⟩] ?_;refine cL (q:=wH.D) (xs:=((fP w c u (aX w c u).needs (aX w c u).needs.length)++j6 w c u (aX w c u).bars q)) (e:=⟨3,((u:Nat):Int),((q:Nat):Int)⟩) (hb:=ae) ?_;refine zg ?_;rw[hst];exact iC (q+1) [(42,0),(1,1),(2,2)]
  have hst:((fP w c u (aX w c u).needs (aX w c u).needs.length)++j6 w c u (aX w c u).bars q)=((fP w c u (aX w c u).needs (aX w c u).needs.length)++j6 w c u (aX w c u).bars (q+1)):=by rw[N1 hc3]
  refine zg ?_;rw[hst];exact iC (q+1) [(0,0),(1,1),(2,2)]
 refine cC ?_;obtain rfl:q=(aX w c u).bars.length:=ae;rw[show((fP w c u (aX w c u).needs (aX w c u).needs.length)++j6 w c u (aX w c u).bars (aX w c u).bars.length)=A8 w c u from rfl];refine bm 0 ?_;exact mK
def MM:aj:=bj 41
def w186 (hA:Vp Y)(hB:C417 Y):ud (cz Y MM):=λw c hp0=>by
 refine Fb ?_;refine aG (hc:=hA (w) (c) (by first|assumption|omega|exact hp0.1)) ?_;refine zg ?_;refine aR (λhc0=>?_) (λhc0=>?_)
 .try simp only[gJ]at hc0
  refine zr ?_;rw[show jf w c=[]from ak hc0];rfl
 simp only[dq]at hc0;have hml:=OS hc0;have hwl:=El hp0.1 hc0;refine eX ?_;refine cM (0) (hj:=λhf=>cv) (hb:=λhf=>cv) ?_;refine zc ?_ ?_<;>intro hc1
 .exact absurd hc1 (by have:=hp0.2;omega)
 refine zg ?_;refine zf hm (λu=>[.u 1,.m 1 c (D.int .i64),.u 1,.p 1 1,.u 2,.o 0 3 (gE w c u).length,.i u,.u 2]) (λu=>[(0,.buf 3 ((gE w c u).map wH.D)),(1,.buf 1 [bR.D w])]) 12 (λu=>u<=c.length) (λu=>c.length-u) ae [(0,1)] ?_;intro u hu;have hlu:=hwl u hu;refine zg ?_;intro u0;refine dN ?_ ?_<;>intro hc2
 .refine zc ?_ ?_<;>intro hc3
  .refine cN ?_;have hone:=RA (u:=u) hp0 hc0 ae ae;have hol:=L5 hone;have hst:gE w c u++A8 w c u=gE w c (u+1):=(Qf ae).symm;refine kI ?_;refine pk (q:=wH.D) (xs:=gE w c u) (ys:=A8 w c u) (he:=lW.sl) (hb:=ae) ?_;refine zg ?_;rw[hst];exact iC (u+1) [(26,0),(1,1)]
  refine zg ?_;rw[show gE w c u=gE w c (u+1)from(Qe ae).symm];exact iC (u+1) [(0,0),(1,1)]
 refine cC ?_;obtain rfl:u=c.length:=ae;rw[show gE w c c.length=jf w c from(ai (by rw[hc0];simp)).symm];refine bm 0 ?_;exact mK
def ML:aj:=bj 17
def w52 (hm:(Y.at 0).cb)(hA:Vp Y)(hB:C186 Y):Ql (cz Y ML):=λw c hp0=>by
 refine qo ?_;refine aG (hc:=hA (w) (c) (by first|assumption|exact hp0.1)) ?_;refine zr ?_;simp
def H4:aj:=bj 63
def w506 (hA:Vp Y)(hB:C629 Y):Jq (cz Y H4):=λw c hp0=>by
 refine zc ?_ ?_<;>intro hc0
 .refine zr ?_;rw[ajD hc0];rfl
 refine cC ?_;obtain⟨hcl,⟨hc1,hc48⟩,hcw⟩:=C0 hc0;refine cC ?_;intro u0;refine afB c.length ?_;refine kI ?_;refine cM 0 (hj:=λ_=>rfl) (hb:=λ_=>ae) ?_;refine cC ?_;refine sI 0 (hj:=λ_=>rfl) (hb:=λ_=>ae) ?_;refine lD ((mS c).map D.bool) (hi:=by rw[List.length_replicate];omega) (he:=adB ae) ?_;refine zg ?_;refine zf hm (λi=>[.u 1,.m 1 c (D.int .i64),.u 1,.p 1 1,.u 1,.o 0 1 c.length,.i i,.u 14]) (λi=>[(0,.buf 1 ((j8 w c i (mS c)).map D.bool)),(1,.buf 1 [bR.D w])]) 18 (λi=>i<=c.length) (λi=>c.length-i) ae [(8,0),(0,1)] ?_;intro i hi;have hI0:=RF (w:=w) i (adA (c:=c));refine zg ?_;intro u1;refine dN ?_ ?_<;>intro hc1
 .refine zg ?_;refine zfL hm (λj=>[.u 1,.m 1 c (D.int .i64),.u 1,.p 1 1,.u 1,.o 0 1 c.length,.i i,.u 1,.i j,.u 12]) (λj=>[(0,.buf 1 ((jd w c j (j8 w c i (mS c))).map D.bool)),(1,.buf 1 [bR.D w])]) 23 (λj=>j<=c.length) (λj=>c.length-j) ae [(0,0),(1,1)] ?_;intro j hj;have hI1:=BD (w:=w) j hI0;have hl1:=hI1.1;refine zg ?_;intro u2;refine dN ?_ ?_<;>intro hc2
  .refine qo ?_;refine oX (q:=D.bool) (xs:=(jd w c j (j8 w c i (mS c)))) (v:=.bool (jd w c j (j8 w c i (mS c)))[j]!) (hi:=λ_=>ae) (hv:=λ_=>uD) ?_;refine zc ?_ ?_<;>intro hc3
   .refine zg ?_;rw[<-ajz (w:=w) (c:=c) (is:=(j8 w c i (mS c))) (j:=j) (by rw[hc3];simp)];exact iC (j+1) [(0,0),(1,1)]
   refine cC ?_;have hcj:=hI1.2 j hc3;have hml:eE w=true/\sn w c=true:=by unfold en at hc0;simpa using hc0
   obtain⟨⟨hcj2,hcje⟩,⟨hn24,_⟩,hmw,_⟩:=BK (w:=w) (c:=c) (u:=j) ⟨⟨hp0,hml.1⟩,hml.2,ae,hcj⟩;refine ID ?_;refine dd (v:=.sl 1 ((aX w c j).needs.map jI)) (hi:=λ_=>ae) ?_;refine zg ?_;refine zfL hm (λk=>[.u 1,.m 1 c (D.int .i64),.u 1,.p 1 1,.u 1,.o 0 1 c.length,.i i,.u 1,.i j,.u 2,.i k,.i ((aX w c j).needs.length:Nat),.u 1,.m 1 (aX w c j).needs jI,.u 6]) (λk=>[(0,.buf 1 ((xB w c (jd w c j (j8 w c i (mS c))) ((aX w c j).needs.take k)).map D.bool)),(1,.buf 1 [bR.D w])]) 47 (λk=>k<=(aX w c j).needs.length) (λk=>(aX w c j).needs.length-k) ae [(0,0),(1,1)] ?_;intro k hk;have hI2:=Hv (w:=w) ((aX w c j).needs.take k) hI1;refine zc ?_ ?_<;>intro hc4
   .refine eX ?_;refine dd (v:=.sl 3 ((aX w c j).needs[k]!.map Want.D)) (hi:=λ_=>ae) ?_;refine zg ?_;intro u3;refine zfL hm (λq=>[.u 1,.m 1 c (D.int .i64),.u 1,.p 1 1,.u 1,.o 0 1 c.length,.i i,.u 1,.i j,.u 2,.i k,.i ((aX w c j).needs.length:Nat),.u 1,.m 1 (aX w c j).needs jI,.u 1,.i q,.i ((aX w c j).needs[k]!.length:Nat),.u 1,.m 3 (aX w c j).needs[k]! Want.D,.u 1]) (λq=>[(0,.buf 1 ((vW w c (xB w c (jd w c j (j8 w c i (mS c))) ((aX w c j).needs.take k)) ((aX w c j).needs[k]!.take q)).map D.bool)),(1,.buf 1 [bR.D w])]) 54 (λq=>q<=(aX w c j).needs[k]!.length) (λq=>(aX w c j).needs[k]!.length-q) ae [(0,0),(1,1)] ?_;intro q hq;have hI3:=Hx (w:=w) ((aX w c j).needs[k]!.take q) hI2;have hl3:=hI3.1;refine zc ?_ ?_<;>intro hc5
    .refine dI ?_;have hmx:=hmw _ (aq (show k<(aX w c j).needs.length by omega)) _ (aq (show q<(aX w c j).needs[k]!.length by omega));have hxu:=hmx.2.1;refine dI ?_;refine bY _ ?_;refine yx ?_;refine oX (q:=D.bool) (xs:=(vW w c (xB w c (jd w c j (j8 w c i (mS c))) ((aX w c j).needs.take k)) ((aX w c j).needs[k]!.take q))) (v:=.bool (vW w c (xB w c (jd w c j (j8 w c i (mS c))) ((aX w c j).needs.take k)) ((aX w c j).needs[k]!.take q))[(aX w c j).needs[k]![q]!.u.toNat]!) (hi:=λ_=>ae) (hv:=λ_=>uD) ?_;refine qo ?_;refine lD ((X5 w c (vW w c (xB w c (jd w c j (j8 w c i (mS c))) ((aX w c j).needs.take k)) ((aX w c j).needs[k]!.take q)) (aX w c j).needs[k]![q]!).map D.bool) (hi:=lj) (he:=by rw[bX];exact afp ae _) ?_;refine zg ?_;rw[<-ajC ae];exact iC (q+1) [(0,0),(1,1)]
    refine zg ?_;rw[fj (show(aX w c j).needs[k]!.length<=q by omega),<-ajB ae];exact iC (k+1) [(0,0),(1,1)]
   refine zg ?_;rw[fj (show(aX w c j).needs.length<=k by omega),<-ajA hc3];exact iC (j+1) [(0,0),(1,1)]
  refine zg ?_;obtain rfl:j=c.length:=ae;rw[show jd w c c.length (j8 w c i (mS c))=j8 w c (i+1) (mS c)from rfl];exact iC (i+1) [(0,0),(1,1)]
 refine cC ?_;obtain rfl:i=c.length:=ae;have hl0:=hI0.1;rw[<-RH hc0]at hl0⊢;rw[<-hl0];refine bm 0 ?_;exact mK
def PC:aj:=bj 192
def w906 (hA:C907 Y)(hB:C908 Y)(hC:Vk Y):J9 (cz Y PC):=λr e nm ft hp0=>by
 refine cN ?_;have hns:=gH hp0.1;refine zg ?_;refine zf hm (λi=>[.u 2,.e (.str nm),.e (.str ft),.u 1,.i i,.p 1 9,.u 2,.p 2 3,.u 2,.o 0 1 ((iY (r.needs.take i) e nm ft)).length]) (λi=>[(0,.buf 1 (((iY (r.needs.take i) e nm ft)).map dU)),(1,.buf 9 [Rec.D r]),(2,.buf 3 [Env.D e])]) 5 (λi=>i<=r.needs.length) (λi=>r.needs.length-i) ae [(0,1),(1,2)] ?_;intro i hi;have hol:=(zh (ns:=r.needs.take i) (e:=e) (nm:=nm) (ft:=ft) λn hn=>hns.2 n (D6 hn)).1;rw[dQ]at hol;refine zg ?_;intro u0;refine dN ?_ ?_<;>intro hc0
 .refine yx ?_;refine bY _ ?_;refine dI ?_;have hna:=(hns.2 _ (aq (show i<r.needs.length by omega))).1;have hrl:=(tF (hns.2 _ (aq (show i<r.needs.length by omega)))).1;refine qo ?_;intro u1;refine cM 0 (hj:=λ_=>rfl) (hb:=λ_=>ae) ?_;refine yx ?_;refine cB (hc:=λhf=>hA _ (e) ?_) ?_;rotate_left;first|assumption|omega|exact⟨hns.2 _ (aq ae),hp0.1.2.2.1 _ (aq ae)⟩|exact⟨(hp0.1.2.2.1 _ (aq ae)).2.1,hp0.2⟩|exact((hp0.1.2.2.1 _ (aq ae)).1 _ (aq ae)).1.2
  refine zc ?_ ?_<;>intro hc1
  .refine zg ?_;rw[show(iY (r.needs.take i) e nm ft)=iY (r.needs.take (i+1)) e nm ft from by rw[<-HJ ae,adX hc1,gF]];exact iC (i+1) [(0,0),(1,1),(2,2)]
  refine zc ?_ ?_<;>intro hc2
  .refine dI ?_;refine aG (hc:=hC _ ?_) ?_;rotate_left;first|assumption|omega|exact⟨hns.2 _ (aq ae),hp0.1.2.2.1 _ (aq ae)⟩|exact⟨(hp0.1.2.2.1 _ (aq ae)).2.1,hp0.2⟩|exact((hp0.1.2.2.1 _ (aq ae)).1 _ (aq ae)).1.2
   refine pk (q:=dU) (xs:=(iY (r.needs.take i) e nm ft)) (ys:=iM r.needs[i]!) (he:=lW.sl) (hb:=ae) ?_;refine kF ?_;refine bg (Key.D (⟨nm,ft⟩)) ?_;refine cC ?_;refine cM 0 (hj:=λ_=>rfl) (hb:=λ_=>ae) ?_;refine cC ?_;refine aG (hc:=hB (r.needs[i]!.any[0]!.range) aaO) ?_;refine bg (jq.D (⟨⟨nm,ft⟩,fg r.needs[i]!.any[0]!.range⟩:jq)) ?_;refine bc [jq.D (⟨⟨nm,ft⟩,fg r.needs[i]!.any[0]!.range⟩:jq)] ?_;refine bc [.own 56 4 0 1] ?_;refine rE (((iY (r.needs.take i) e nm ft)++iM r.needs[i]!).map dU++[.own 56 4 0 1]) (n:=(((iY (r.needs.take i) e nm ft)++iM r.needs[i]!)++[[(⟨⟨nm,ft⟩,fg r.needs[i]!.any[0]!.range⟩:jq)]]).length) (ha:=lj) (he:=lW.own rfl (by first|rfl|simp)) (hz:=yA) (hn:=EC) (hb:=EE) ?_;refine dI ?_;refine bm 56 ?_ (he:=lH) (hm:=lH);refine zg ?_;rw[pI,show((iY (r.needs.take i) e nm ft)++iM r.needs[i]!)++[[(⟨⟨nm,ft⟩,fg r.needs[i]!.any[0]!.range⟩:jq)]]=iY (r.needs.take (i+1)) e nm ft from by rw[<-HJ ae,R3 hc1,show Ys r.needs[i]! =iM r.needs[i]! from ai hc2,fF]];exact iC (i+1) [(58,0),(1,1),(2,2)]
  refine kI ?_;refine bg (Key.D (⟨nm,ft⟩)) ?_;refine cC ?_;refine cM 0 (hj:=λ_=>rfl) (hb:=λ_=>ae) ?_;refine cC ?_;refine aG (hc:=hB (r.needs[i]!.any[0]!.range) aaO) ?_;refine bg (jq.D (⟨⟨nm,ft⟩,fg r.needs[i]!.any[0]!.range⟩:jq)) ?_;refine bc [jq.D (⟨⟨nm,ft⟩,fg r.needs[i]!.any[0]!.range⟩:jq)] ?_;refine bc [.own 51 4 0 1] ?_;refine rE ((iY (r.needs.take i) e nm ft).map dU++[.own 51 4 0 1]) (n:=((iY (r.needs.take i) e nm ft)++[[(⟨⟨nm,ft⟩,fg r.needs[i]!.any[0]!.range⟩:jq)]]).length) (ha:=lj) (he:=lW.own rfl (by first|rfl|simp)) (hz:=yA) (hn:=EC) (hb:=EE) ?_;refine dI ?_;refine bm 51 ?_ (he:=lH) (hm:=lH);refine zg ?_;rw[pI,show(iY (r.needs.take i) e nm ft)++[[(⟨⟨nm,ft⟩,fg r.needs[i]!.any[0]!.range⟩:jq)]]=iY (r.needs.take (i+1)) e nm ft from by rw[<-HJ ae,R3 hc1,show Ys r.needs[i]! =[]from ak hc2,rl]];exact iC (i+1) [(53,0),(1,1),(2,2)]
 refine cC ?_;obtain rfl:i=r.needs.length:=ae;rw[List.take_length];refine bm 0 ?_ (he:=lH) (hm:=lH);exact mK
def cmp_isNaN_int:aj:=bj 164
def w714 (hm:(Y.at 0).cb):JR (cz Y cmp_isNaN_int):=λx=>by
 refine qx ?_;refine bB (env':=[_,⟨_,(.bool _)⟩]) ?_;refine zr ?_;simp
def EO:aj:=bj 161
def w704 (hm:(Y.at 0).cb):JQ (cz Y EO):=λx=>by
 refine qx ?_;refine bB (env':=[_,⟨_,(.bool _)⟩]) ?_;refine zr ?_;simp
def cmp_Compare_int:aj:=bj 117
def w532 (hm:(Y.at 0).cb)(hA:C714 Y):uj (cz Y cmp_Compare_int):=λa b=>by
 refine zg ?_;refine aR (t:=false) (λh=>cj) (λ_=>?_);refine zg ?_;refine aR (t:=false) (λh=>cj) (λ_=>?_);refine zc ?_ ?_<;>intro hc3
 .refine zr ?_;simp[dt,hc3]
 refine zc ?_ ?_<;>intro hc4
 .refine zr ?_;unfold dt;rw[ai hc3,ak hc4]
 refine zr ?_;unfold dt;rw[ai hc3,ai hc4]
def A0:aj:=bj 112
def w516 (hm:(Y.at 0).cb)(hA:C704 Y):ui (cz Y A0):=λa b=>by
 refine zg ?_;refine aR (t:=false) (λh=>cj) (λ_=>?_);refine zg ?_;refine aR (t:=false) (λh=>cj) (λ_=>?_);refine zc ?_ ?_<;>intro hc3
 .refine zr ?_;simp[pM,hc3]
 refine zc ?_ ?_<;>intro hc4
 .refine zr ?_;simp_all[pM]
 refine zr ?_;simp_all[pM]
def ahq:aj:=bj 111
def w531:Jv (cz Y ahq):=λl=>by
 refine zg ?_;intro u0;refine zf hm (λi=>[.u 2,.i i,.i l.length,.u 1,.m 1 l (D.int .i64),.u 1,.i 0,.u 1]) (λi=>[]) 5 (λi=>i<=l.length/\fZ (λi=>l[i]!) 0 l.length=fZ (λi=>l[i]!) i l.length) (λi=>l.length-i) ⟨ae,rfl⟩ [] ?_;rintro i ⟨hi,hr⟩;refine zc ?_ ?_<;>intro hc0
 .refine zc ?_ ?_<;>intro hc1
  .refine zr ?_;rw[hr,lJ ae hc1]
  refine gI (i+1) [] ?_;rw[hr,pP ae hc1]
 refine zr ?_;rw[hr,pO ae]
def Iw:aj:=bj 116
def w530 (hm:(Y.at 0).cb):Ju (cz Y Iw):=λv=>by
 refine uQ ?_;refine bY _ ?_;exact mK
def NA:aj:=bj 119
def w534 (hm:(Y.at 0).cb)(hA:C516 Y)(hB:C532 Y)(hC:C658 Y)(hD:C659 Y):um (cz Y NA):=λa b=>by
 refine zc ?_ ?_<;>intro hc0
 .refine zr ?_;unfold yq;rw[ak hc0]
 refine zg ?_;refine aR (λhc1=>?_) (λhc1=>?_)
 .simp only[cG,cy]at hc1;refine zc ?_ ?_<;>intro hc2
  .refine zr ?_;have hn:¬(cU a=true/\cU b=true):=by rintro⟨h1,h2⟩;simp[h1,h2]at hc0
   unfold yq;rw[ai hn];rw[ak hc2]
  refine zr ?_;have hn:¬(cU a=true/\cU b=true):=by rintro⟨h1,h2⟩;simp[h1,h2]at hc0
  unfold yq;rw[ai hn];rw[ai (by simp[hc2]),ak (by cases h:cU b with|true=>rfl|false=>exact absurd (hc2.trans h.symm) hc1)]
 simp only[dq,aV]at hc1;refine zr ?_;have hn:¬(cU a=true/\cU b=true):=by rintro⟨h1,h2⟩;simp[h1,h2]at hc0
 unfold yq;rw[ai hn];have h1:cU a=false:=by cases h:cU a with|false=>rfl|true=>exact absurd ⟨h,hc1▸h⟩ hn
 rw[ai (by simp[h1]),ai (by rw[<-hc1];simp[h1])]
def MJ:aj:=bj 257
def w1080:Eu (cz Y MJ):=λx hp0=>by
 refine zg ?_;refine rj hm (ι:=Unit) (λ_=>[.un,.un,⟨true,.ptr 1 4 0 0⟩,.un,⟨true,.own 0 2 0 (lg x).length⟩,.un,.un,.un]) (λ_=>[(0,.buf 2 ((lg x).map Key.D)),(1,.buf 4 [di.D x])]) 100 (λ_=>True) ?_ ?_
 .refine Bv ?_ ?_<;>intro hc0
  .refine eX ?_;refine bg (Key.D ⟨x.name,lv⟩) ?_;refine bc [Key.D ⟨x.name,lv⟩] ?_;refine qU (ys:=[Key.D ⟨x.name,lv⟩]) (n:=1) (he:=lW.all rfl rfl) (hn:=rfl) (hb:=ae) ?_;refine zg ?_;have hst:[(⟨x.name,lv⟩:Key)]=lg x:=(Z9 hc0).symm;rw[<-hst];exact⟨(),trivial,(aY.to [(11,0),(0,1)] ah ah eL (by repeat(first|exact bp.nil|refine bp.vO ah ah ec ?_|refine bp.KD ah ah ah ?_|refine bp.NN ah ah ah ah ?_|refine bp.nl 11 ah ah ah ec ?_|refine bp.nl 0 ah ah ah ec ?_)))⟩
  refine zg ?_;rw[aaa hc0];exact⟨(),trivial,(aY.to [(0,1)] ah ah eL (by repeat(first|exact bp.nil|refine bp.vO ah ah ec ?_|refine bp.KD ah ah ah ?_|refine bp.NN ah ah ah ah ?_|refine bp.nl 0 ah ah ah ec ?_|refine bp.mt ah ah ah ah ?_)))⟩
 .rintro _-
  refine cC ?_;have hal:=P9 x;refine zg ?_;refine rj hm (ι:=Unit) (λ_=>[.un,.un,⟨true,.ptr 1 4 0 0⟩,.un,⟨true,.own 0 2 0 (oD x).length⟩,.un,.un,.un]) (λ_=>[(0,.buf 2 ((oD x).map Key.D)),(1,.buf 4 [di.D x])]) 100 (λ_=>True) ?_ ?_
  .refine Bv ?_ ?_<;>intro hc1
   .refine eX ?_;refine bg (Key.D ⟨x.name,[]⟩) ?_;refine bc [Key.D ⟨x.name,[]⟩] ?_;refine cL (q:=Key.D) (xs:=lg x) (e:=⟨x.name,[]⟩) (hb:=ae) ?_;refine zg ?_;rw[aac hc1];exact⟨(),trivial,(aY.to [(113,0),(1,1)] ah ah eL (by repeat(first|exact bp.nil|refine bp.vO ah ah ec ?_|refine bp.KD ah ah ah ?_|refine bp.NN ah ah ah ah ?_|refine bp.nl 113 ah ah ah ec ?_|refine bp.nl 1 ah ah ah ec ?_)))⟩
   refine zg ?_;rw[aab hc1];exact⟨(),trivial,(aY.to [(0,0),(1,1)] ah ah eL Qq)⟩
  .rintro _-
   refine zg ?_;rw[aad x];refine zf hm (λi=>[.u 2,.p 1 4,.u 1,.o 0 2 (mW x i).length,.u 1,.i i,.u 1]) (λi=>[(0,.buf 2 ((mW x i).map Key.D)),(1,.buf 4 [di.D x])]) 101 (λi=>i<=x.feats.length) (λi=>x.feats.length-i) ae [(0,0),(1,1)] ?_;intro i hi;have hul:=Qb x i;refine zg ?_;intro u0;refine dN ?_ ?_<;>intro hc2
   .refine Fb ?_;refine bg (Key.D ⟨x.name,x.feats[i]!⟩) ?_;refine bc [Key.D ⟨x.name,x.feats[i]!⟩] ?_;refine cL (q:=Key.D) (xs:=mW x i) (e:=⟨x.name,x.feats[i]!⟩) (hb:=ae) ?_;refine zg ?_;rw[aaf ae];exact iC (i+1) [(116,0),(1,1)]
   refine cC ?_;obtain rfl:i=x.feats.length:=ae;rw[aae];refine bm 0 ?_;exact mK
def H6:aj:=bj 103
def w692 (hA:C184 Y)(hB:C829 Y):JL (cz Y H6):=λm al c hp0=>by
 refine cN ?_;obtain⟨⟨hmp,hcp⟩,rfl⟩:=hp0;have hfp:=Lg hmp hcp;have hml:=hmp.1;have hcl:=hcp.1;refine zg ?_;refine zf hm (λu=>[.u 1,.m 1 ([]:List Int) (D.int .i64),.m 1 c (D.int .i64),.u 1,.i u,.u 1,.p 0 3,.u 1]) (λu=>[(0,.buf 3 [kn.D m])]) 3 (λu=>u<=c.length/\yM m c=b9 (vE m c) u c.length) (λu=>c.length-u) ⟨ae,rfl⟩ [(0,0)] ?_;rintro u ⟨hu,hr⟩;refine zg ?_;intro u0;refine dN ?_ ?_<;>intro hc0
 .refine dI ?_;have hfu:=λh=>hfp.2 u ae h
  refine iw ?_;refine kF ?_;refine dd (v:=.sl 1 (((m.bars)[u]!).map Iq)) (hi:=λhf=>cv) ?_;refine eX ?_;refine cM c[u]!.toNat (hj:=λhf=>by have hcu:0<=c[u]! :=Decidable.byContradiction λhn=>(by rw[bN hn]at hf;revert hf;decide);omega) (hb:=λhf=>aaZ) ?_;refine dd (v:=.sl 2 (m.bars[u]![c[u]!.toNat]!.map ea.D)) (hi:=λhf=>aaZ) ?_;refine zg ?_;refine wp_cond (λhc1=>?_) (λhc1=>?_)
  .have hcx:vE m c u=false:=by
    unfold vE;by_cases hq:c[u]! <0
    .rw[bN (show ¬0<=c[u]! by omega)]at hc1;cases hc1
    .rw[bA (show 0<=c[u]! by omega)]at hc1;rw[bN hq,show kr c m.bars[u]![c[u]!.toNat]! =true from hc1];rfl
   refine zr ?_;rw[hr,aA ae,hcx,Bool.false_and]
  have hcx:vE m c u=true:=by
   unfold vE;by_cases hq:c[u]! <0
   .rw[bA hq];rfl
   .rw[bA (show 0<=c[u]! by omega)]at hc1;rw[bN hq,show kr c m.bars[u]![c[u]!.toNat]! =false from hc1];rfl
  refine gI (u+1) [(0,0)] ?_;rw[hr,aA ae,hcx,eu]
 refine zr ?_;rw[hr,bI ae]
def T0:aj:=bj 8
def w90 (hA:GH Y)(hB:C266 Y):Qm (cz Y T0):=λks most hp0=>by
 refine kI ?_;refine bg (Gs.D (⟨ks,0⟩:Gs)) ?_;refine eX ?_;refine bT [.str Rw,.aL] ?_;refine bT [.str AP,.aL] ?_;refine bc [.agg [.str Rw,.aL],.agg [.str AP,.aL]] ?_;refine dI ?_;refine AQ [(3,.buf 2 [Gs.D (⟨ks,0⟩:Gs)]),(7,.buf 2 (Nc.map bM.D))] (.id ah (.bf ah (.cons (.ag (.cons (.refl _) (.cons (.nil 11) .nil))) (.cons (.ag (.cons (.refl _) (.cons (.nil 11) .nil))) .nil)) .nil)) ?_;refine bm 7 ?_ (he:=Ko) (hm:=Ko);refine cN ?_;have rn:=((⟨ks,0⟩:Gs).SD (most+1)).1 ae;have hz:(⟨ks,0⟩:Gs).i=0:=rfl;refine dI ?_;refine dj (hc:=hA (⟨ks,0⟩:Gs) (most+1) ae ae) ?_;refine zg ?_;refine gp hm (ι:=Nat) (λi=>[.un,.un,.un,⟨true,.ptr 0 2 0 0⟩,⟨true,.int .i64 (((⟨ks,0⟩:Gs).val (most+1)) -((i:Nat):Int))⟩,.un,⟨true,.sl 2 (((pS (⟨ks,0⟩:Gs).aS i).1).map bM.D)⟩]) (λi=>[(0,.buf 2 [Gs.D (pS (⟨ks,0⟩:Gs).aS i).2])]) 14 (λi=>i<=((⟨ks,0⟩:Gs).val (most+1)).toNat) (λi=>((⟨ks,0⟩:Gs).val (most+1)).toNat-i) 0 ae (aY.to [(3,0)] ah ah Kq (by refine bp.nl 3 ah ah ah ec ?_;exact bp.nil)) ?_;intro i hi;have hps:=R2 (⟨ks,0⟩:Gs).aS i;obtain⟨hq1,hq2⟩:=hps.1;rw[Gs.Yc]at hq1 hq2;refine zc ?_ ?_<;>intro hc0
 .refine kI ?_;refine dj (hc:=hB (pS (⟨ks,0⟩:Gs).aS i).2 (pS (⟨ks,0⟩:Gs).aS i).1 ae ⟨Yz _ _,ae,ae⟩) ?_;refine zg ?_;exact⟨i+1,ae,ae,(aY.to [(0,0)] ah ah Kq Ki)⟩
 refine cC ?_;obtain rfl:i=((⟨ks,0⟩:Gs).val (most+1)).toNat:=ae;exact mK
def HX:aj:=bj 166
def w72 (hm:(Y.at 0).cb)(hA:C70 Y)(hB:C215 Y):zF (cz Y HX):=λr hp0=>by
 refine zc ?_ ?_<;>intro hc0
 .refine zg ?_;refine fM (b7 (aw D.str ?_) (aw (D.int .i64) ?_));all_goals
   simp[fD,hc0]
 refine cC ?_;have hgd:=mf hc0;refine zg ?_;refine fM (b7 (aw D.str ?_) (aw (D.int .i64) ?_));all_goals
  simp[fD,hc0]
def Pj:aj:=bj 122
def w74 (hm:(Y.at 0).cb)(hA:C72 Y)(hB:C220 Y):zG (cz Y Pj):=λr hp0=>by
 refine zc ?_ ?_<;>intro hc0
 .refine zg ?_;refine fM (b7 (aw (D.int .u64) ?_) (aw (D.int .i64) ?_));all_goals
   simp[wv,hc0]
 refine eX ?_;refine aG (hc:=hB (fD r).1) (ha:=λ_=>aw (λd=>[d]) (tM (q:=λb:UInt8=>D.int .u8 b.toNat) (λ_=>rfl) ah)) (hp:=λ_=>⟨qk (q:=λb:UInt8=>D.int .u8 b.toNat) (λ_=>rfl) ah,trivial⟩) ?_;refine zg ?_;refine fM (b7 (aw (D.int .u64) ?_) (aw (D.int .i64) ?_));all_goals
  simp[wv,hc0]
def OQ:aj:=bj 29
def w114:IE (cz Y OQ):=λw hp0=>by
 refine zg ?_;refine zf hm (λi=>[.u 2,.i i,.p 0 1,.i (vY w.us i:Nat),.u 2]) (λi=>[(0,.buf 1 [bR.D w])]) 4 (λi=>(i<=w.us.length/\vY w.us i<=20000000)/\Dd w.us=Mi w.us (w.us.length-i) i (vY w.us i)) (λi=>w.us.length-i) ⟨⟨ae,show 1<=20000000 by decide⟩,rfl⟩ [(0,0)] ?_;rintro i ⟨⟨hi,hsz⟩,hr⟩;refine zg ?_;intro u0;refine dN ?_ ?_<;>intro hc0
 .refine dI ?_;have hu16:=(hp0 _ (aq (show i<w.us.length by omega))).1;have hs2:=adU (us:=w.us) (i:=i) hu16 ae;refine zc ?_ ?_<;>intro hc1
  .refine cN ?_;have hcast:=akb (us:=w.us) (i:=i) hc1;refine yx ?_;intro u1;refine xX (hb:=by rw[hcast];omega) ?_;refine zg ?_;rw[hcast];refine zl (i+1) [(0,0)] ?_;exact⟨⟨ae,hs2⟩,by rw[hr,R1 ae ae];rfl⟩
  refine zg ?_;rw[aka hc1];refine zl (i+1) [(0,0)] ?_;exact⟨⟨ae,hs2⟩,by rw[hr,R1 ae ae];rfl⟩
 refine zr ?_;rw[hr,YI ae]
def ME:aj:=bj 97
def w356:I4 (cz Y ME):=λl nm=>by
 refine zg ?_;refine zf hm (λi=>[.m 11 l hR.D,.e (.str nm),.u 1,.i i,.u 2]) (λi=>[]) 2 (λi=>i<=l.length/\lQ l nm=gM (isM nm) (l.drop i) i) (λi=>l.length-i) ⟨ae,rfl⟩ [] ?_;rintro i ⟨hi,hr⟩;refine zg ?_;intro u0;refine dN ?_ ?_<;>intro hc0
 .refine zc ?_ ?_<;>intro hc1
  .refine zr ?_;rw[hr,kR ae (by simpa[isM]using hc1)]
  refine gI (i+1) [] ?_;rw[hr,jx ae (by simpa[isM]using hc1)]
 refine zr ?_;rw[hr,ml ae]
def LN:aj:=bj 11
def w92 (hm:(Y.at 0).cb)(hA:C270 Y):Qo (cz Y LN):=λshop e w c hp0=>by
 refine En ?_;refine cN ?_;refine bY _ ?_;refine kF ?_;refine bY _ ?_;exact mK
end Go.Abs
end
