/- A part of the proofs. -/
import Derived.Test.YtgdpmljblomcfaaGreatDoorP04
set_option linter.all false
set_option maxRecDepth 60000
set_option maxHeartbeats 2000000
noncomputable section
namespace Go.Abs
variable {Y:Ctx}(hm:(Y.at 0).bR)
def EJ:aj:=⟨4,27,[⟨4,none⟩,⟨5,none⟩,⟨6,none⟩],[[.sl 1 [.a]],[.a],[.a]],(sq (rg [gb 3 s1,gb 1 s2,gb 4 s3,gm (.c (.aJ)),gm rM,gm cse] [(8,0),(7,1),(10,2),(4,3),(5,4),(6,5)]) (sq (sq (r1 [gk 1 true s7,gx 175 [l0] [[.sl 3 [.a,.a,.sl 8 [.a,.a,.a,.a,.a,.a,.sl 1 [.sl 3 [.a,.a]],.sl 3 [.a,.a,.a]]]]],gno l1,gm l2,gmf 3 s0,uD 3 (.call 142 [l4] [[.sl 2 [.a,.sl 11 [.a,.a,.a,.a,.a,.a,.sl 3 [.sl 4 [.a],.a,.a],.sl 3 [.a,.a,.a],.sl 2 [.a,.sl 1 [.a]],.a,.a]]]]),uD 3 (.un .not l5),Q3 l3 l6,gm l7,uD 8 (.ld 3 true s8),uD 8 (.call 138 [l9] ha3),uD 8 (.un .not l10),Q3 l8 Xg] 9 12) (.cond s9 (sq (rg [gm (.c (.aJ)),gm Kq,gm cse] [(4,0),(5,1),(6,2)]) .ret) .skip)) (sq (sq (r1 [gk 4 true H5,gx 315 [l0] [[.a,.a,.a,.sl 9 [.a,.a,.a,.a,.a,.a,.a,.a,.sl 1 [.a]]]],gno l1,gm l2,gff 3 0 H5,uD 3 (.ld 3 true l4),uD 3 (.ld 3 true s8),uD 3 (.eqA true true [.s,.s,.s] l5 l6),Q3 l3 l7] 11 8) (.cond s11 (sq (rg [gm (.c (.aJ)),gm (i6 34),gm cse] [(4,0),(5,1),(6,2)]) .ret) .skip)) (sq (r2 [gm s0,gk 1 true s7,⟨.mkM,none⟩,gf 0 s7,gd l3,gl l4,gn (.mks 1 (.int .i64 0) l5 l5),gn (.build [.aJ,.aJ,.fn 5100000 [],.aJ] [(0,1,l0),(1,1,l1),(2,1,l2),(3,1,l6)]),gb 4 (.c (.agg [.aJ,.aJ,.fn 5100000 [],.aJ])),gt 4 l8 l7] 16 8) (sq (sq (rg [gf 0 s7,gd l0,gl l1,gm rM] [(15,1),(13,2),(12,3)]) (.block 0 (.loop (sq (r1 [lz R5 s13] 14 0) (sq (US s14 0) (sq (.block 1 (sq (rg [gm R5,ga 3 s15 R5,gk 3 true l1,gb 3 (.c (.agg [.str [],.str [],.aJ])),gm l0,gt 3 l3 l2] [(19,3),(17,4)]) (sq (rg [gf 3 s16,gd l0,gm s17,ga 1 l1 l2,gn (.st 1 l3 (.c (.int .i64 (-1))))] []) (sq (r1 [gm s17,XC l0 rM] 18 1) (.cond s18 (rg [gf 2 s16,gd l0,gf 0 s19,gd l2,gf 1 s19,gd l4,gn (.build [.str [],.str []] [(0,1,l3),(1,1,l5)]),gm s17,gn (.upM l1 l6 l7)] []) .skip))))) (r1 [mE R5 Kq,gm l0] 12 1))))))) (sq (rg [gf 3 s16,gd l0,ga 1 l1 rM,gt 1 l2 rM] []) (sq (sq (rg [gf 3 H5,gd l0,gl l1,gm rM] [(23,1),(21,2),(20,3)]) (.block 2 (.loop (sq (r1 [lz s20 s21] 22 0) (sq (US s22 2) (sq (.block 3 (sq (r1 [ga 9 s23 s20,gk 9 true l0,gb 9 (.c (.agg [.str [],.int .i64 0,.int .i64 0,.int .i64 0,.str [],.str [],.str [],.int .u64 0,.aJ])),gt 9 l2 l1] 24 2) (sq (r1 [gk 4 true s16,gk 9 true s24,gn (.callM 502 [l0,l1]),gm l2] 25 3) (sq (r1 [gm s25,qJ l0 rM] 26 1) (.cond s26 (sq (rt [gm s25,gf 0 s24,gd l1,gm (.c (.aJ)),gm l0,gm l2] [(4,3),(5,4),(6,5)]) .ret) .skip))))) (r1 [mE s20 Kq,gm l0] 20 1))))))) (sq (rg [gf 3 s16,gd l0,gm l1,gm rM,gm cse] [(4,2),(5,3),(6,4)]) .ret))))))))⟩
def w264 (hA:C138 Y)(hB:C142 Y)(hC:C175 Y)(hD:C315 Y)(hE:C502 Y):tO (cu Y EJ):=fun shop e w l hp0=>by
 refine Bo ?_;refine aB (hc:=hC (w) zJ) ?_;refine dx ?_;refine bQ (hc:=fun hf=>hB (shop) zJ) ?_;refine zc ?_ ?_<;>intro hc0
 .refine zr ?_;rw[aeA hc0];rfl
 refine ez ?_;refine aB (hc:=hD (l) zJ) ?_;refine zc ?_ ?_<;>intro hc1
 .refine zr ?_;rw[aeB hc0 hc1];rfl
 refine cx ?_;have h48:=PV hc0.1.1;refine cx ?_;refine r_mkM ?_;refine dx ?_;refine YF w.us.length ?_;refine bM [.sl 2 (shop.map bN.D),.sl 3 (w.us.map c9.D),.fn 5000000 [.it 30],.own 34 1 0 w.us.length] ?_;refine zg ?_;intro u0;rw[c1T_0];refine fP hm (ι:=Nat) (fun i=>[⟨true,.sl 2 ((shop).map bN.D)⟩,.un,.un,.un,.un,.un,.un,⟨true,.ptr 2 1 0 0⟩,⟨true,.ptr 3 3 0 0⟩,.un,⟨true,.ptr 4 4 0 0⟩,.un,⟨true,.int .i64 (i:Nat)⟩,⟨true,.int .i64 (w.us.length:Nat)⟩,.un,⟨true,.sl 3 ((w.us).map c9.D)⟩,⟨true,.ptr 5 4 0 0⟩,.un,.un,.un,.un,.un,.un,.un,.un,.un,.un]) (fun i=>[(0,.buf 1 ((QI w.us.length i).map (D.int .i64))),(1,.mpb (uH w.us i)),(2,.buf 1 [b6.D w]),(3,.buf 3 [Env.D e]),(4,.buf 4 [jT.D l]),(5,.buf 4 [.agg [.sl 2 (shop.map bN.D),.sl 3 (w.us.map c9.D),.fn 5000000 [.it 1],.own 0 1 0 w.us.length]])]) 42 (fun i=>i<=w.us.length) (fun i=>w.us.length-i) 0 ae (aV.to [(34,0),(30,1),(1,2),(0,3),(2,4),(36,5)] ah ah eD (by refine bo.nl 34 ah ah ah dV ?_;refine bo.mp 30 ah ah ah ?_;refine bo.nl 1 ah ah ah dV ?_;refine bo.nl 0 ah ah ah dV ?_;refine bo.nl 2 ah ah ah dV ?_;refine bo.eq 36 ah ah ah ?_;exact bo.nil)) ?_;intro i hi;refine zc ?_ ?_<;>intro hc2
 .refine fG ?_;refine cH ?_;refine kg ((QI w.us.length (i+1)).map (D.int .i64)) (hi:=by rw[bj,wR];omega) (he:=by rw[<-abE ae];exact qV (by rw[wR];omega) _) ?_;refine zc ?_ ?_<;>intro hc3
  .refine cx ?_;refine pZ (v:=.fn 5000000 [.it 1]) ?_;refine ez ?_;refine bM [.str w.us[i]!.name,.str w.us[i]!.feat] ?_;refine cH ?_;refine r_upM (uH w.us (i+1)) (hb:=D7 _ _) (he:=by rw[uH,ak ae];rfl) ?_;refine zg ?_;exact⟨i+1,ae,ae,(aV.to [(0,0),(1,1),(2,2),(3,3),(4,4),(5,5)] ah ah eD zH)⟩
  refine zg ?_;have hi0:i=0:=ae;rw[show(uH w.us i)=(uH w.us (i+1))from by rw[hi0];rfl];exact⟨i+1,ae,ae,(aV.to [(0,0),(1,1),(2,2),(3,3),(4,4),(5,5)] ah ah eD zH)⟩
 refine cx ?_;obtain rfl:i=w.us.length:=ae;refine dx ?_;refine sF 0 (hj:=fun _=>ae) (hb:=fun _=>ae) ?_;refine kg ((rj w.us.length w.us.length).map (D.int .i64)) (hi:=by rw[bj,wR];omega) (he:=by rw[<-abD];exact qV (by rw[wR];omega) _) ?_;refine zg ?_;intro u1;refine fP hm (ι:=Nat) (fun i=>[⟨true,.sl 2 ((shop).map bN.D)⟩,.un,.un,.un,.un,.un,.un,⟨true,.ptr 2 1 0 0⟩,⟨true,.ptr 3 3 0 0⟩,.un,⟨true,.ptr 4 4 0 0⟩,.un,.un,.un,.un,.un,⟨true,.ptr 5 4 0 0⟩,.un,.un,.un,⟨true,.int .i64 (i:Nat)⟩,⟨true,.int .i64 (l.lines.length:Nat)⟩,.un,⟨true,.sl 9 ((l.lines).map dm.D)⟩,.un,.un,.un]) (fun i=>[(0,.buf 1 ((vN shop w.us l.lines (rj w.us.length w.us.length) i).map (D.int .i64))),(1,.mpb (uH w.us w.us.length)),(2,.buf 1 [b6.D w]),(3,.buf 3 [Env.D e]),(4,.buf 4 [jT.D l]),(5,.buf 4 [.agg [.sl 2 (shop.map bN.D),.sl 3 (w.us.map c9.D),.fn 5000000 [.it 1],.own 0 1 0 w.us.length]])]) 51 (fun i=>i<=l.lines.length/\(ja shop e w l)=yX shop w.us (l.lines.drop i) (vN shop w.us l.lines (rj w.us.length w.us.length) i)) (fun i=>l.lines.length-i) 0 ⟨ae,aeC hc0 hc1⟩ (aV.to [(0,0),(1,1),(2,2),(3,3),(4,4),(5,5)] ah ah eD zH) ?_;rintro i ⟨hi,hr⟩;have hll:=CP (shop:=shop) (us:=w.us) (l:=l.lines) (c:=rj w.us.length w.us.length) i;rw[te]at hll;refine zc ?_ ?_<;>intro hc4
 .refine wA ?_;have hlx:=hp0.2.2.2.1 _ (aq (show i<l.lines.length by omega));refine cx ?_;refine dC (nx':=56) (v:=.int .i64 (kN shop w.us l.lines[i]! (vN shop w.us l.lines (rj w.us.length w.us.length) i)).1) (m':=[(0,.buf 1 ((vN shop w.us l.lines (rj w.us.length w.us.length) (i+1)).map (D.int .i64))),(1,.mpb (uH w.us w.us.length)),(2,.buf 1 [b6.D w]),(3,.buf 3 [Env.D e]),(4,.buf 4 [jT.D l]),(5,.buf 4 [.agg [.sl 2 (shop.map bN.D),.sl 3 (w.us.map c9.D),.fn 5000000 [.it 1],.own 0 1 0 w.us.length]]),(54,.buf 9 [dm.D l.lines[i]!])]) (hc:=fun K' hK=>hE shop w l.lines[i]! (vN shop w.us l.lines (rj w.us.length w.us.length) i) (uH w.us w.us.length) ⟨⟨hp0.1,hp0.2.1,hlx.1⟩,hll⟩ (ai7 hc0.1.1) _ 1 0 _ K' ep ep ah ah hK) (hn:=aT) ?_;refine zc ?_ ?_<;>intro hc5
  .refine zr ?_;rw[hr,BD ae,ak hc5];rfl
  refine zg ?_;exact⟨i+1,⟨ae,by rw[hr,BD ae,ai (by rw[hc5];simp)];rfl⟩,ae,(aV.to [(0,0),(1,1),(2,2),(3,3),(4,4),(5,5)] ah ah eD zH)⟩
 refine cx ?_;rw[show D.own 0 1 0 w.us.length=D.own 0 1 0 (vN shop w.us l.lines (rj w.us.length w.us.length) i).length from by rw[hll]];refine bh 0 ?_;refine zr ?_;rw[hr,Lp ae];rfl
def Dt:aj:=bc 211
def w812 (hA:SN Y)(hB:C815 Y):JL (cu Y Dt):=fun l al=>by
 refine zg ?_;refine zf hm (fun i=>[.m 1 l D.str,.e (.bool al),.u 1,.i i,.u 2]) (fun i=>[]) 2 (fun i=>i<=l.length/\nB l al=(bO (fun i=>gr l[i]!) i l.length&&((decide (l.length<=6)&&rising l)&&(al ||decide (l.length=0))))) (fun i=>l.length-i) ⟨ae,(wf_2 l al).symm⟩ [] ?_;rintro i ⟨hi,hr⟩;refine zg ?_;intro u0;refine dE ?_ ?_<;>intro hc0
 .refine zg ?_;refine wp_cond (fun hc1=>?_) (fun hc1=>?_)
  .simp only[cG]at hc1;refine zr ?_;rw[hr,ay ae,hc1];rfl
  simp only[dH]at hc1;refine gh (i+1) [] ?_;rw[hr,ay ae,hc1];rfl
 refine zg ?_;intro u1;refine zr ?_;rw[hr,bB ae,fT,lJ.2 (show((l.length:Nat):Int)<=6↔l.length<=6 by omega),lJ.2 (show((l.length:Nat):Int)=0↔l.length=0 by omega)]
def O4:aj:=bc 174
def w669 (hA:EA Y)(hB:C572 Y)(hC:C812 Y):tZ (cu Y O4):=fun r w al hp0=>by
 refine zc ?_ ?_<;>intro hc0
 .refine zr ?_;have hw:gM r w.name w.range=4:=by rw[gM,ak hc0]
  rw[lj,ak (by rw[hw];decide),hw]
 refine zc ?_ ?_<;>intro hc1
 .refine zr ?_;have hw:gM r w.name w.range=8:=by rw[gM,ai jF,ak hc1]
  rw[lj,ak (by rw[hw];decide),hw]
 refine dx ?_;refine aB (hc:=hB w.range hp0.1.2) ?_;refine zg ?_;refine wp_cond (fun hc2=>?_) (fun hc2=>?_)
 .try simp only[gF]at hc2
  refine zr ?_;have hw:gM r w.name w.range=6:=by rw[gM,ai jF,ai hc1,ak hc2]
  rw[lj,ak (by rw[hw];decide),hw]
 simp only[dH]at hc2;have hw0:gM r w.name w.range=0:=by rw[gM,ai jF,ai hc1,ai (by simp[hc2])]
 refine zc ?_ ?_<;>intro hc3
 .refine zr ?_;rw[lj,ai lS,ak hc3]
 refine zr ?_;rw[lj,ai lS,ai (by simp[hc3])]
def O1:aj:=bc 127
def w457 (hA:SN Y)(hB:C669 Y)(hC:C670 Y):tK (cu Y O1):=fun r n hp0=>by
 refine zg ?_;intro u0;refine dE ?_ ?_<;>intro hc0
 .refine zr ?_;rw[jz,ak ae]
 refine zg ?_;intro u1;refine dE ?_ ?_<;>intro hc1
 .refine zr ?_;rw[jz,ai ae,ak ae]
 refine zg ?_;refine zf hm (fun i=>[.u 3,.p 1 3,.u 2,.i i,.u 1,.p 0 9,.u 4]) (fun i=>[(0,.buf 9 [Rec.D r]),(1,.buf 3 [br.D n])]) 12 (fun i=>i<=n.any.length/\nC r n.any=fM (fun i=>lj r n.any[i]! (decide ((n.any.length:Int)=1))) i n.any.length) (fun i=>n.any.length-i) ⟨ae,rfl⟩ [(0,0),(1,1)] ?_;rintro i ⟨hi,hr⟩;refine zg ?_;intro u2;refine dE ?_ ?_<;>intro hc2
 .refine Bp ?_;refine aB (hc:=hB r n.any[i]! _ (hp0.1 _ (aq ae))) ?_;refine zc ?_ ?_<;>intro hc3
  .refine zr ?_;have hw:nC r n.any=lj r n.any[i]! (decide ((n.any.length:Int)=1)):=by rw[hr,lu ae hc3]
   rw[jz,ai ae,ai ae,ak (by rw[hw];exact hc3),hw]
  refine gh (i+1) [(0,0),(1,1)] ?_;rw[hr,pK ae hc3]
 refine ez ?_;have hw0:nC r n.any=0:=by rw[hr,pJ ae]
 refine cx ?_;refine aB (hc:=hC n.when' hp0.2.1) ?_;refine zg ?_;refine aQ (fun hc4=>?_) (fun hc4=>?_)
 .try simp only[gF]at hc4
  refine zr ?_;rw[jz,ai ae,ai ae,ai lS,ak hc4]
 simp only[dH]at hc4;refine zg ?_;refine aQ (fun hc5=>?_) (fun hc5=>?_)
 .try simp only[gF]at hc5
  refine zr ?_;rw[jz,ai ae,ai ae,ai lS,ai (by simp[hc4]),ak hc5]
 simp only[eo,dH,bn]at hc5;refine zr ?_;rw[jz,ai ae,ai ae,ai lS,ai (by simp[hc4]),ai (by rintro⟨g1,g2⟩;rcases hc5 with h|h;exact g1 h;rw[g2]at h;cases h)]
def T7:aj:=bc 128
def w458 (hA:EA Y)(hB:C572 Y)(hC:C670 Y):I3 (cu Y T7):=fun r b hp0=>by
 refine zc ?_ ?_<;>intro hc0
 .refine zr ?_;have hw:gM r b.name b.range=4:=by rw[gM,ak hc0]
  rw[rR,ak (by rw[hw];decide),hw]
 refine zc ?_ ?_<;>intro hc1
 .refine zr ?_;have hw:gM r b.name b.range=8:=by rw[gM,ai jF,ak hc1]
  rw[rR,ak (by rw[hw];decide),hw]
 refine dx ?_;refine aB (hc:=hB b.range hp0.2.1) ?_;refine zg ?_;refine wp_cond (fun hc2=>?_) (fun hc2=>?_)
 .try simp only[gF]at hc2
  refine zr ?_;have hw:gM r b.name b.range=6:=by rw[gM,ai jF,ai hc1,ak hc2]
  rw[rR,ak (by rw[hw];decide),hw]
 simp only[dH]at hc2;have hw0:gM r b.name b.range=0:=by rw[gM,ai jF,ai hc1,ai (by simp[hc2])]
 refine dx ?_;refine aB (hc:=hC b.when' hp0.2.2) ?_;refine zc ?_ ?_<;>intro hc3
 .refine zr ?_;rw[rR,ai lS,ak hc3]
 refine zr ?_;rw[rR,ai lS,ai (by simp[hc3])]
def HM:aj:=bc 178
def w673:Jq (cu Y HM):=fun r x=>by
 refine zg ?_;refine zf hm (fun i=>[.u 1,.e (.str x),.u 1,.i i,.p 0 9,.u 2]) (fun i=>[(0,.buf 9 [Rec.D r])]) 3 (fun i=>i<=r.needs.length/\XZ r.needs x=(r.needs.drop i).any (fun n=>decide (n.option=x))) (fun i=>r.needs.length-i) ⟨ae,rfl⟩ [(0,0)] ?_;rintro i ⟨hi,hr⟩;refine zg ?_;intro u0;refine dE ?_ ?_<;>intro hc0
 .refine zc ?_ ?_<;>intro hc1
  .refine zr ?_;rw[hr,wK (c:=fun n:br=>decide (n.option=x)) ae (bz hc1)]
  refine gh (i+1) [(0,0)] ?_;rw[hr,B0 (c:=fun n:br=>decide (n.option=x)) ae (bI hc1)]
 refine zr ?_;rw[hr,wJ ae]
def HN:aj:=bc 179
def w674:Jr (cu Y HN):=fun r x=>by
 refine zg ?_;refine zf hm (fun i=>[.u 1,.e (.str x),.u 1,.i i,.p 0 9,.u 2]) (fun i=>[(0,.buf 9 [Rec.D r])]) 3 (fun i=>i<=r.needs.length/\LW r.needs x=(r.needs.drop i).any (fun n=>decide (n.any.length=1)&&decide (n.any[0]!.name=x))) (fun i=>r.needs.length-i) ⟨ae,rfl⟩ [(0,0)] ?_;rintro i ⟨hi,hr⟩;refine zg ?_;intro u0;refine dE ?_ ?_<;>intro hc0
 .refine zk18 ?_;intro u1;refine cz 0 (hb:=fun h=>Ki) ?_;refine cH ?_;refine c8 (q:=de.D) (xs:=r.needs[i]!.any) (i:=0) (hi:=fun h=>Ki) (v:=(.str r.needs[i]!.any[0]!.name)) ?_;refine zg ?_;refine wp_cond (fun hc1=>?_) (fun hc1=>?_)
  .rw[lJ.2 (show((r.needs[i]!.any.length:Nat):Int)=1↔r.needs[i]!.any.length=1 by omega)]at hc1;have hz:=hc1;refine zr ?_;rw[hr,wK ae hz]
  rw[lJ.2 (show((r.needs[i]!.any.length:Nat):Int)=1↔r.needs[i]!.any.length=1 by omega)]at hc1;have hz:=hc1;refine gh (i+1) [(0,0)] ?_;rw[hr,B0 ae hz]
 refine zr ?_;rw[hr,wJ ae]
def L7:aj:=bc 130
def w460 (hA:C672 Y)(hB:C673 Y)(hC:C674 Y):I4 (cu Y L7):=fun r of hp0=>by
 refine zg ?_;refine zf hm (fun i=>[.u 1,.m 1 of D.str,.u 1,.i i,.u 2,.p 0 9,.u 3]) (fun i=>[(0,.buf 9 [Rec.D r])]) 3 (fun i=>i<=of.length/\mC r of=fM (fun i=>nU r of[i]!) i of.length) (fun i=>of.length-i) ⟨ae,rfl⟩ [(0,0)] ?_;rintro i ⟨hi,hr⟩;refine zg ?_;intro u0;refine dE ?_ ?_<;>intro hc0
 .refine zg ?_;refine aQ (fun hc1=>?_) (fun hc1=>?_)
  .try simp only[gF]at hc1
   refine zr ?_;have he:nU r of[i]! =14:=by rw[nU,ak hc1]
   rw[hr,lu ae (by rw[he];decide),he]
  have hn1:¬((bL of[i]!).1=2/\XZ r.needs (bL of[i]!).2.1=false):=by rintro⟨g1,g2⟩;rw[g1,g2]at hc1;cases hc1
  refine zg ?_;refine wp_cond (fun hc2=>?_) (fun hc2=>?_)
  .try simp only[gF]at hc2
   refine zr ?_;have he:nU r of[i]! =16:=by rw[nU,ai hn1,ak hc2]
   rw[hr,lu ae (by rw[he];decide),he]
  have hn2:¬((bL of[i]!).1=3/\LW r.needs (bL of[i]!).2.1=false):=by rintro⟨g1,g2⟩;rw[g1,g2]at hc2;cases hc2
  refine gh (i+1) [(0,0)] ?_;rw[hr,pK ae (by rw[nU,ai hn1,ai hn2])]
 refine zr ?_;rw[hr,pJ ae]
def GU:aj:=bc 36
def w410 (hA:C273 Y)(hB:C623 Y)(hC:C624 Y):tX (cu Y GU):=fun w c hp0=>by
 refine pA ?_;refine aB (hc:=hA (w) (c) (by first|assumption|omega|exact hp0.1|exact hmn _ (aq ae)|exact hmb _ (aq ae))) ?_;refine zg ?_;refine aQ (fun hc0=>?_) (fun hc0=>?_)
 .try simp only[gF]at hc0
  refine zr ?_;rw[show mq w c=[]from ak hc0];rfl
 simp only[dH]at hc0;have hml:=Oy hc0;have hwl:=Ei hp0.1 hc0;refine qo ?_;refine cz (0) (hj:=fun hf=>cr) (hb:=fun hf=>cr) ?_;refine zc ?_ ?_<;>intro hc1
 .exact absurd hc1 (by have:=hp0.2;omega)
 refine zg ?_;intro u0;refine zf hm (fun u=>[.u 1,.m 1 c (D.int .i64),.u 1,.p 1 1,.u 2,.o 0 3 (gB w c u).length,.i u,.i c.length,.u 1,.m 1 c (D.int .i64),.u 18]) (fun u=>[(0,.buf 3 ((gB w c u).map wC.D)),(1,.buf 1 [b6.D w])]) 14 (fun u=>u<=c.length) (fun u=>c.length-u) ae [(0,1)] ?_;intro u hu;have hlu:=hwl u hu;refine zc ?_ ?_<;>intro hc2
 .refine zc ?_ ?_<;>intro hc3
  .refine zg ?_;rw[show gB w c u=gB w c (u+1)from(PX hc3).symm];exact iq (u+1) [(0,0),(1,1)]
  refine cx ?_;have hone:=Rh (u:=u) hp0 hc0 ae ae;obtain⟨⟨hk,hkc⟩,⟨hl1,hl2⟩,hmn,hmb⟩:=BK hone;have hul:u<w.us.length:=by have:=(qC hone.2.1).1;omega
  refine pA ?_;refine c8 (v:=ei.D (aY w c u)) (hi:=fun _=>ae) ?_;refine zg ?_;intro u1;rw[show gB w c u=(gB w c u++fF w c u (aY w c u).needs 0)from(gD _).symm];refine zf hm (fun k=>[.u 1,.m 1 c (D.int .i64),.u 1,.p 1 1,.u 2,.o 0 3 (gB w c u++fF w c u (aY w c u).needs k).length,.i u,.i c.length,.u 1,.m 1 c (D.int .i64),.u 2,.i u,.p 2 8,.i k,.i ((aY w c u).needs.length:Nat),.u 1,.m 1 (aY w c u).needs jC,.u 10]) (fun k=>[(0,.buf 3 ((gB w c u++fF w c u (aY w c u).needs k).map wC.D)),(1,.buf 1 [b6.D w]),(2,.buf 8 [ei.D (aY w c u)])]) 37 (fun k=>k<=(aY w c u).needs.length) (fun k=>(aY w c u).needs.length-k) ae [(0,0),(1,1),(31,2)] ?_;intro k hk1;have hlk:=pV (w:=w) (c:=c) (u:=u) (l:=(aY w c u).needs) k;have hlt:(gB w c u++fF w c u (aY w c u).needs k).length<=2400:=by rw[ct];omega
  refine zc ?_ ?_<;>intro hc4
  .refine ko ?_;refine c8 (v:=.sl 3 ((((aY w c u).needs)[k]!).map Want.D)) (hi:=fun hf=>cr) ?_;refine zg ?_;refine wp_cond (fun hc5=>?_) (fun hc5=>?_)
   .simp only[cG]at hc5;have hst:(gB w c u++fF w c u (aY w c u).needs k)++[⟨2,((u:Nat):Int),((k:Nat):Int)⟩]=(gB w c u++fF w c u (aY w c u).needs (k+1)):=by rw[OB hc5,fj]
    refine ez ?_;refine bg (wC.D ⟨2,((u:Nat):Int),((k:Nat):Int)⟩) ?_;refine ba [wC.D ⟨2,((u:Nat):Int),((k:Nat):Int)⟩] ?_;refine cJ (q:=wC.D) (xs:=(gB w c u++fF w c u (aY w c u).needs k)) (e:=⟨2,((u:Nat):Int),((k:Nat):Int)⟩) (hb:=ae) ?_;refine zg ?_;rw[hst];exact iq (k+1) [(53,0),(1,1),(2,2)]
   simp only[dH]at hc5;have hst:(gB w c u++fF w c u (aY w c u).needs k)=(gB w c u++fF w c u (aY w c u).needs (k+1)):=by rw[OC hc5]
   refine zg ?_;rw[hst];exact iq (k+1) [(0,0),(1,1),(2,2)]
  refine cx ?_;obtain rfl:k=(aY w c u).needs.length:=ae;refine zg ?_;intro u2;rw[show(gB w c u++fF w c u (aY w c u).needs (aY w c u).needs.length)=((gB w c u++fF w c u (aY w c u).needs (aY w c u).needs.length)++jY w c u (aY w c u).bars 0)from(gD _).symm];refine Z0 hm (fun q=>[.u 1,.m 1 c (D.int .i64),.u 1,.p 1 1,.u 2,.o 0 3 ((gB w c u++fF w c u (aY w c u).needs (aY w c u).needs.length)++jY w c u (aY w c u).bars q).length,.i u,.i c.length,.u 1,.m 1 c (D.int .i64),.u 2,.i u,.p 2 8,.u 7,.i q,.i ((aY w c u).bars.length:Nat),.u 1,.m 3 (aY w c u).bars Want.D,.u 3]) (fun q=>[(0,.buf 3 (((gB w c u++fF w c u (aY w c u).needs (aY w c u).needs.length)++jY w c u (aY w c u).bars q).map wC.D)),(1,.buf 1 [b6.D w]),(2,.buf 8 [ei.D (aY w c u)])]) 42 (fun q=>q<=(aY w c u).bars.length) (fun q=>(aY w c u).bars.length-q) ae [(0,0),(1,1),(2,2)] ?_;intro q hq;have hlq:=wM (w:=w) (c:=c) (u:=u) (b:=(aY w c u).bars) q;have hlk:=pV (w:=w) (c:=c) (u:=u) (l:=(aY w c u).needs) (aY w c u).needs.length;have hlt:((gB w c u++fF w c u (aY w c u).needs (aY w c u).needs.length)++jY w c u (aY w c u).bars q).length<=2400:=by rw[ct,ct];omega
  refine zc ?_ ?_<;>intro hc6
  .refine zg ?_;refine wp_cond (fun hc7=>?_) (fun hc7=>?_)
   .have hst:((gB w c u++fF w c u (aY w c u).needs (aY w c u).needs.length)++jY w c u (aY w c u).bars q)++[⟨3,((u:Nat):Int),((q:Nat):Int)⟩]=((gB w c u++fF w c u (aY w c u).needs (aY w c u).needs.length)++jY w c u (aY w c u).bars (q+1)):=by rw[NK hc7,<-fj]
    refine ez ?_;refine bg (wC.D ⟨3,((u:Nat):Int),((q:Nat):Int)⟩) ?_;refine ba [wC.D ⟨3,((u:Nat):Int),((q:Nat):Int)⟩] ?_;refine cJ (q:=wC.D) (xs:=((gB w c u++fF w c u (aY w c u).needs (aY w c u).needs.length)++jY w c u (aY w c u).bars q)) (e:=⟨3,((u:Nat):Int),((q:Nat):Int)⟩) (hb:=ae) ?_;refine zg ?_;rw[hst];exact iq (q+1) [(58,0),(1,1),(2,2)]
   have hst:((gB w c u++fF w c u (aY w c u).needs (aY w c u).needs.length)++jY w c u (aY w c u).bars q)=((gB w c u++fF w c u (aY w c u).needs (aY w c u).needs.length)++jY w c u (aY w c u).bars (q+1)):=by rw[NJ hc7]
   refine zg ?_;rw[hst];exact iq (q+1) [(0,0),(1,1),(2,2)]
  refine zg ?_;obtain rfl:q=(aY w c u).bars.length:=ae;rw[ZS ae];exact iq (u+1) [(0,0),(1,1)]
 refine cx ?_;obtain rfl:u=c.length:=ae;rw[show gB w c c.length=mq w c from(ai (by rw[hc0];simp)).symm];refine bh 0 ?_;exact mr
def y2:aj:=bc 37
def w296 {Y:Ctx}(hm:(Y.at 1).bR)(hB:GB (Y.at 1))(hC:C535 (Y.at 1))(g:Gs)(own:av)(hp0:0<=g.i/\g.i<=980000):dp (Y.at 1) y2.body (GG y2 2 (br.D (mb g own).1) (Gs.D (mb g own).2):Ex->List aX->St->Prop) (fq y2 (.ptr 0 2 0 0::[.str own])) ⟨1,[(0,.buf 2 [(Gs.D g)])]⟩:=by
 show dp _ _ _ [⟨true,.ptr 0 2 0 0⟩,⟨true,.str own⟩,.un,.un,.un,.un,.un,.un,.un,.un,.un] ⟨1,[(0,.buf 2 [(Gs.D g)])]⟩;refine aO ?_;refine dx ?_;have hw1:=BR g own;have hw2:=BR (dG g own).2.aS own;have ha:=VC g own;refine cx ?_;refine dh (hc:=hC g own ae) ?_;refine ba [de.D (dG g own).1] ?_;refine bM [.own 5 4 0 1,.str [],.str []] ?_;refine jS ?_;refine dh (hc:=hB (dG g own).2 6 ae iE) ?_;refine cH ?_;refine qY hm (ι:=Unit) (fun _=>[⟨true,.ptr 0 2 0 0⟩,⟨true,.str own⟩,⟨true,.ptr 1 3 0 0⟩,.un,.un,⟨true,.ptr 2 3 0 0⟩,.un,.un,.un,.un,.un]) (fun _=>[(0,.buf 2 [Gs.D (gU g own).2]),(1,.buf 3 [.agg [.aJ,.str [],.str []]]),(2,.buf 3 [.agg [.own 3 4 0 (gU g own).1.length,.str [],.str []]]),(3,.buf 4 ((gU g own).1.map de.D))]) 60 (fun _=>True) ?_ ?_
 .refine zc ?_ ?_<;>intro hc0
  .refine cx ?_;refine zh (v:=.own 5 4 0 1) ?_;refine cx ?_;refine dh (hc:=hC (dG g own).2.aS own Kh) ?_;refine ba [de.D (dG (dG g own).2.aS own).1] ?_;refine cJ (q:=de.D) (xs:=[(dG g own).1]) (e:=(dG (dG g own).2.aS own).1) (hb:=aG) ?_;refine cH ?_;refine bS (.agg [.own 19 4 0 2,.str [],.str []]) (he:=cW) ?_;refine zg ?_;have hA:(gU g own)=([(dG g own).1,(dG (dG g own).2.aS own).1],(dG (dG g own).2.aS own).2):=ak hc0;rw[hA];exact⟨(),trivial,(aV.to [(1,1),(7,2),(19,3)] ah ah eD (by refine bo.nl 0 ah ah ah dV ?_;refine bo.nl 1 ah ah ah dV ?_;refine bo.eq 7 ah ah ah ?_;refine bo.nl 19 ah ah ah dV ?_;exact bo.nil))⟩
  refine zc ?_ ?_<;>intro hc1
  .refine dx ?_;refine ba [.str fW] ?_;refine sF 0 (hj:=fun _=>rfl) (hb:=fun _=>aT) ?_;refine cH ?_;refine kg [.agg [.str (dG g own).1.name,.str (dG g own).1.range,.own 17 1 0 1,.bool (dG g own).1.bare]] (hi:=aG) (he:=cW) ?_;refine zg ?_;have hA:(gU g own)=([{(dG g own).1 with feats:=[fW]}],(dG g own).2.aS):=by rw[gU,ai hc0,ak hc1]
   rw[hA];exact⟨(),trivial,(aV.fz 17 ah dV LX LX (aV.to [(1,1),(7,2),(5,3)] ah ah eD aam))⟩
  refine zg ?_;have hA:(gU g own)=([(dG g own).1],(dG g own).2.aS):=by rw[gU,ai hc0,ai hc1]
  rw[hA];exact⟨(),trivial,(aV.to [(1,1),(7,2),(5,3)] ah ah eD aam)⟩
 .rintro _-
  refine dx ?_;refine dh (hc:=hB (gU g own).2 8 ae iE) ?_;refine cH ?_;refine qY hm (ι:=Unit) (fun _=>[⟨true,.ptr 0 2 0 0⟩,⟨true,.str own⟩,⟨true,.ptr 1 3 0 0⟩,.un,.un,⟨true,.ptr 2 3 0 0⟩,.un,.un,.un,.un,.un]) (fun _=>[(0,.buf 2 [Gs.D (jB (gU g own).2).2]),(1,.buf 3 [.agg [.aJ,.str [],.str []]]),(2,.buf 3 [.agg [.own 3 4 0 (gU g own).1.length,.str (jB (gU g own).2).1,.str []]]),(3,.buf 4 ((gU g own).1.map de.D))]) 80 (fun _=>True) ?_ ?_
  .refine zc ?_ ?_<;>intro hc2
   .refine cx ?_;refine bS (.agg [.own 3 4 0 (gU g own).1.length,.str osY,.str []]) (he:=cW) ?_;refine zg ?_;have hH:(jB (gU g own).2)=(osY,(gU g own).2.aS):=by rw[jB,ak hc2]
    rw[hH];exact⟨(),trivial,(aV.to [(1,1),(2,2),(3,3)] ah ah eD Qe)⟩
   refine zc ?_ ?_<;>intro hc3
   .refine cx ?_;refine bS (.agg [.own 3 4 0 (gU g own).1.length,.str osN,.str []]) (he:=cW) ?_;refine zg ?_;have hH:(jB (gU g own).2)=(osN,(gU g own).2.aS):=by rw[jB,ai hc2,ak hc3]
    rw[hH];exact⟨(),trivial,(aV.to [(1,1),(2,2),(3,3)] ah ah eD Qe)⟩
   refine zg ?_;have hH:(jB (gU g own).2)=([],(gU g own).2.aS):=by rw[jB,ai hc2,ai hc3]
   rw[hH];exact⟨(),trivial,(aV.to [(1,1),(2,2),(3,3)] ah ah eD Qe)⟩
  .rintro _-
   refine dx ?_;refine dh (hc:=hB (jB (gU g own).2).2 5 ae (by first|omega|(simp only[Gs.aS];omega)|(simp only[oZ,jB,Gs.aS]at*;omega))) ?_;refine zc ?_ ?_<;>intro hc4
   .refine cH ?_;have hO:(Ht (jB (gU g own).2).2)=([111],(jB (gU g own).2).2.aS):=by rw[Ht,ak hc4]
    refine cH ?_;refine bS (.agg [.own 3 4 0 (gU g own).1.length,.str (jB (gU g own).2).1,.str [111]]) (he:=cW) ?_;refine ko ?_;refine bh 3 ?_;refine zg ?_;refine iV trivial Di (cU ah (?_)) (by rw[mb,hO];exact rfl) ah ah;rw[mb,hO];rfl
   refine cH ?_;have hO:(Ht (jB (gU g own).2).2)=([],(jB (gU g own).2).2.aS):=by rw[Ht,ai hc4]
   refine ez ?_;refine bh 3 ?_;refine zg ?_;refine iV trivial Di (cU ah (?_)) (by rw[mb,hO];exact rfl) ah ah;rw[mb,hO];rfl
def Uo:aj:=bc 203
def w630:ud (cu Y Uo):=fun a b=>by
 refine zc ?_ ?_<;>intro hc0
 .refine zr ?_;unfold dq;rw[ak hc0]
 refine zc ?_ ?_<;>intro hc1
 .refine zr ?_;unfold dq;rw[ai hc0,ak hc1]
 refine zr ?_;unfold dq;rw[ai hc0,ai hc1]
def Pw:aj:=bc 272
def w927:uc (cu Y Pw):=fun a b=>by
 refine zc ?_ ?_<;>intro hc0
 .refine zr ?_;simp[pH,hc0]
 refine zc ?_ ?_<;>intro hc1
 .refine zr ?_;simp_all[pH]
 refine zr ?_;simp_all[pH]
def Y1:aj:=bc 237
def w783 (hA:U8 Y)(hB:C667 Y)(hC:C668 Y)(hD:C927 Y):uf (cu Y Y1):=fun a b=>by
 refine zc ?_ ?_<;>intro hc0
 .refine zr ?_;unfold yr;rw[ak hc0]
 refine zc ?_ ?_<;>intro hc1
 .refine zr ?_;have hn:¬(cP a=true/\cP b=true):=by rintro⟨h1,h2⟩;simp[h1,h2]at hc0
  unfold yr;rw[ai hn];rw[ak hc1]
 refine zc ?_ ?_<;>intro hc2
 .refine zr ?_;have hn:¬(cP a=true/\cP b=true):=by rintro⟨h1,h2⟩;simp[h1,h2]at hc0
  unfold yr;rw[ai hn];rw[ai (by simp[hc1]),ak hc2]
 refine zr ?_;have hn:¬(cP a=true/\cP b=true):=by rintro⟨h1,h2⟩;simp[h1,h2]at hc0
 unfold yr;rw[ai hn];rw[ai (by simp[hc1]),ai (by simp[hc2])]
def Up:aj:=bc 204
def w631 (hA:C470 Y)(hB:U8 Y)(hC:C783 Y):Jo (cu Y Up):=fun a b hp0=>by
 refine zc ?_ ?_<;>intro hc0
 .refine zr ?_;unfold Bc;rw[ak hc0]
 refine zc ?_ ?_<;>intro hc1
 .refine zr ?_;unfold Bc;rw[ai hc0,ak hc1]
 refine zc ?_ ?_<;>intro hc2
 .refine zr ?_;unfold Bc;rw[ai hc0,ai hc1,ak hc2]
 refine zg ?_;refine zf hm (fun i=>[.u 6,.i i,.m 1 (bd a 46) D.str,.m 1 (bd b 46) D.str,.u 3]) (fun i=>[]) 18 (fun i=>(i<=(bd a 46).length/\i<=(bd b 46).length)/\Bc a b=vr (bd a 46) (bd b 46) i) (fun i=>(bd a 46).length-i) ⟨⟨ae,ae⟩,by unfold Bc;rw[ai hc0,ai hc1,ai hc2]⟩ [] ?_;rintro i ⟨hi,hr⟩;refine zg ?_;intro u0;refine dE ?_ ?_<;>intro hc3
 .refine zc ?_ ?_<;>intro hc4
  .refine zr ?_;rw[hr,Gf ae hc4]
  refine zl (i+1) [] ?_;exact⟨⟨ae,ae⟩,by rw[hr,MX ae hc4]⟩
 refine zg ?_;intro u1 u2;refine zr ?_;rw[hr,Ge ae]
def HV:aj:=⟨2,12,[⟨2,none⟩],ha1,(sq (rg [gb 5 s0,gb 5 s1,gm rM] [(3,0),(4,1),(2,2)]) (sq (sq (r1 [gk 5 true s3,gx 217 [l0] ha5,gno l1,gm l2,uD 3 (.ld 5 true s4),uD 3 (.call 217 [l4] ha5),uD 3 (.un .not l5),Q3 l3 l6] 5 7) (.cond s5 (sq (r1 [gm rM] 2 0) .ret) .skip)) (sq (sq (r1 [gf 0 s3,gd l0,gf 0 s4,gd l2,gx 630 [l1,l3] si,gm l4] 6 5) (sq (r1 [gm s6,qJ l0 rM] 7 1) (.cond s7 (sq (r1 [gm s6,gm l0] 2 1) .ret) .skip))) (sq (sq (r1 [gf 1 s3,gd l0,gf 1 s4,gd l2,gx 630 [l1,l3] si,gm l4] 8 5) (sq (r1 [gm s8,qJ l0 rM] 9 1) (.cond s9 (sq (r1 [gm s8,gm l0] 2 1) .ret) .skip))) (sq (sq (r1 [gf 2 s3,gd l0,gf 2 s4,gd l2,gx 630 [l1,l3] si,gm l4] 10 5) (sq (r1 [gm H5,qJ l0 rM] 11 1) (.cond s11 (sq (r1 [gm H5,gm l0] 2 1) .ret) .skip))) (sq (r1 [gf 3 s3,gd l0,gf 3 s4,gd l2,gx 631 [l1,l3] si,gm l4] 2 5) .ret))))))⟩
def w424 {Y:Ctx}(hm:(Y.at 0).bR)(hA:AS Y)(hB:U8 Y)(hC:C631 Y):tR (cu Y HV):=fun a b hp0=>by
 refine zg ?_;refine aQ (fun hc0=>?_) (fun hc0=>?_)
 .simp only[dI,cG]at hc0;refine zr ?_;unfold iL;rw[ak hc0]
 simp only[gC,dH]at hc0;have hv:¬(gy a=false\/gy b=false):=by simp only[not_or,Bool.not_eq_false];first|exact hc0|exact hc0.1
 refine zc ?_ ?_<;>intro hc1
 .refine zr ?_;unfold iL;rw[ai hv,ak hc1]
 refine zc ?_ ?_<;>intro hc2
 .refine zr ?_;unfold iL;rw[ai hv,ai mK,ak hc2]
 refine zc ?_ ?_<;>intro hc3
 .refine zr ?_;unfold iL;rw[ai hv,ai mK,ai (by simpa using hc2),ak hc3]
 refine jS ?_;refine aB (hc:=hC a.pre b.pre ⟨hp0.1.1,hp0.2.1⟩) ?_;refine zr ?_;unfold iL;rw[ai hv,ai mK,ai (by simpa using hc2),ai yE]
def Mt:aj:=bc 96
def w693 (hA:C184 Y)(hB:C829 Y):Jw (cu Y Mt):=fun m al c hp0=>by
 refine cH ?_;obtain⟨⟨hmp,hcp⟩,rfl⟩:=hp0;have hfp:=KW hmp hcp;have hml:=hmp.1;have hcl:=hcp.1;refine qo ?_;refine cz 0 (hj:=fun _=>ae) (hb:=fun _=>ae) ?_;refine zc ?_ ?_<;>intro hc0
 .refine zr ?_;unfold ea;rw[ak hc0];rfl
 refine zg ?_;refine zf hm (fun u=>[.u 1,.m 1 ([]:List Int) (D.int .i64),.m 1 c (D.int .i64),.u 3,.i u,.u 5,.p 0 3,.u 4]) (fun u=>[(0,.buf 3 [j7.D m])]) 8 (fun u=>u<=c.length) (fun u=>c.length-u) ae [(0,0)] ?_;intro u hu;refine zg ?_;intro u0;refine dE ?_ ?_<;>intro hc1
 .refine zg ?_;refine wp_cond (fun hc2=>?_) (fun hc2=>?_)
  ·

   exfalso;revert hc2;cases decide (c[u]! <0)<;>decide
  try simp only[gF]at hc2
  exact iq (u+1) [(0,0)]
 refine zg ?_;refine zf hm (fun u=>[.u 1,.m 1 ([]:List Int) (D.int .i64),.m 1 c (D.int .i64),.u 6,.i u,.u 2,.p 0 3,.u 4]) (fun u=>[(0,.buf 3 [j7.D m])]) 13 (fun u=>u<=c.length/\mR m c=mB (xK m c) (c.length-u) u) (fun u=>c.length-u) ⟨ae,rfl⟩ [(0,0)] ?_;rintro u ⟨hu,hr⟩;refine zg ?_;intro u1;refine dE ?_ ?_<;>intro hc3
 .refine zg ?_;refine aQ (fun hc4=>?_) (fun hc4=>?_)
  .try simp only[gF]at hc4
   refine gh (u+1) [(0,0)] ?_;rw[hr,GL ae (by unfold xK;rw[bz hc4];rfl)]
  simp only[cK]at hc4;obtain⟨v,hv⟩:∃v:Nat,c[u]! =(v:Int):=⟨c[u]!.toNat,ae⟩
  have hfu:=hfp.2 u ae ae;rw[hv,Int.toNat_natCast]at hfu;have hro:H4 m c u=mB (fun k=>kd c m.needs[u]![v]![k]!) m.needs[u]![v]!.length 0:=by unfold H4;rw[hv,Int.toNat_natCast]
  have hou:xK m c u=decide (H4 m c u=m.needs[u]![v]!.length):=by unfold xK;rw[hv,Int.toNat_natCast,bI (show ¬((v:Nat):Int)<0 by omega),Bool.false_or]
  refine jS ?_;refine c8 (v:=.sl 1 (((m.needs)[u]!).map oF)) (hi:=fun hf=>cr) ?_;refine ko ?_;refine c8 (v:=.sl 1 (m.needs[u]![v]!.map Ic)) (hi:=fun _=>ae) ?_;refine zg ?_;refine Z0 hm (fun k=>[.u 1,.m 1 ([]:List Int) (D.int .i64),.m 1 c (D.int .i64),.u 6,.i u,.u 2,.p 0 3,.i k,.m 1 (m.needs[u]![v]!) Ic,.u 2]) (fun k=>[(0,.buf 3 [j7.D m])]) 35 (fun k=>k<=m.needs[u]![v]!.length/\H4 m c u=mB (fun k=>kd c m.needs[u]![v]![k]!) (m.needs[u]![v]!.length-k) k) (fun k=>m.needs[u]![v]!.length-k) ⟨ae,by rw[hro];rfl⟩ [(0,0)] ?_;rintro k ⟨hk,hr2⟩;refine zg ?_;intro u2;refine dE ?_ ?_<;>intro hc5
  .refine qo ?_;refine c8 (v:=.sl 2 (((m.needs[u]![v]!)[k]!).map dU.D)) (hi:=fun hf=>cr) ?_;refine zg ?_;refine wp_cond (fun hc6=>?_) (fun hc6=>?_)
   .have hk6:H4 m c u=k:=hr2.trans (Qy (f:=fun k=>kd c m.needs[u]![v]![k]!) ae (by simpa using hc6));refine zr ?_;have h5:mR m c=u:=by rw[hr,Qy ae (by rw[hou,hk6];exact bI ae)]
    unfold ea;rw[ai hc0,ak ae,h5,hk6];rfl
   try simp only[gF]at hc6
   refine gh (k+1) [(0,0)] ?_;exact hr2.trans (GL (f:=fun k=>kd c m.needs[u]![v]![k]!) ae hc6)
  refine gh (u+1) [(0,0)] ?_;rw[hr,GL ae (by rw[hou,hr2,KJ ae];exact bz ae)]
 refine zr ?_;have h5:mR m c=u:=by rw[hr,KJ ae]
 unfold ea;rw[ai hc0,ai ae];rfl
def O6:aj:=bc 266
def w1084 (hA:SO Y)(hB:Nv Y):Es (cu Y O6):=fun s nm hp0=>by
 refine zc ?_ ?_<;>intro hc0
 .refine zr ?_;rw[show ke s nm=[]from ak hc0];rfl
 refine zg ?_;refine zf hm (fun i=>[.u 1,.e (.str nm),.u 1,.p 1 2,.u 1,.i i,.u 3,.o 0 1 ((eB s.es nm i)).length,.u 1]) (fun i=>[(0,.buf 1 (((eB s.es nm i)).map (D.int .i64))),(1,.buf 2 [bN.D s])]) 7 (fun i=>i<=s.es.length) (fun i=>s.es.length-i) ae [(0,1)] ?_;intro i hi;have hlt:=xr s.es nm i;refine zg ?_;intro u0;refine dE ?_ ?_<;>intro hc1
 .refine ez ?_;have h64:=R9 hc0;refine zg ?_;refine aQ (fun hc2=>?_) (fun hc2=>?_)
  .simp only[gF]at hc2;refine zg ?_;rw[acL hc2];exact iq (i+1) [(0,0),(1,1)]
  try simp only[gF]at hc2
  refine cH ?_;refine bh 0 ?_;refine zg ?_;refine zf hm (fun k=>[.u 1,.e (.str nm),.u 1,.p 0 2,.u 1,.i i,.u 2,.i k,.m 1 (eB s.es nm i) (D.int .i64),.u 1]) (fun k=>[(0,.buf 2 [bN.D s])]) 22 (fun k=>k<=(eB s.es nm i).length/\A4 s.es (eB s.es nm i) i 0=A4 s.es (eB s.es nm i) i k) (fun k=>(eB s.es nm i).length-k) ⟨ae,rfl⟩ [(1,0)] ?_;rintro k ⟨hk,hr⟩;refine Bp ?_;refine cz ((eB s.es nm i)[k]!).toNat (hj:=fun hf=>by
    have hkl:k<(eB s.es nm i).length:=by simp at hf;omega
    have hkr:=hlt.2 _ (aq hkl);omega) (hb:=fun hf=>by
    have hkl:k<(eB s.es nm i).length:=by simp at hf;omega
    have hkr:=hlt.2 _ (aq hkl);omega) ?_
  refine cx ?_;refine c8 (v:=bZ.D s.es[((eB s.es nm i)[k]!).toNat]!.r.v) (hi:=fun hf=>by
    have hkl:k<(eB s.es nm i).length:=by simp at hf;omega
    have hkr:=hlt.2 _ (aq hkl);omega) ?_
  refine qo ?_;refine bQ (hc:=fun hf=>hB s.es[((eB s.es nm i)[k]!).toNat]!.r.v s.es[i]!.r.v (by
    have hkl:k<(eB s.es nm i).length:=by simp at hf;omega
    have hkr:=hlt.2 _ (aq hkl);exact⟨(hp0 _ (aq ae)).1.2,(hp0 _ (aq ae)).1.2⟩)) ?_
  refine zc ?_ ?_<;>intro hc3
  .refine gh (k+1) [(0,0)] ?_;rw[hr,Tu ae hc3.2]
  refine dx ?_;have hk2:A4 s.es (eB s.es nm i) i 0=k:=by rw[hr];exact Tv (fun h=>by rcases hc3 with h1|h1;omega;exact h1)
  refine dx ?_;refine xW (he:=lT.sl) (n:=((eB s.es nm i).take k).length) (hn:=aG) (hb:=zM) ?_;refine cH ?_;refine ba [.int .i64 ((i:Nat):Int)] ?_;refine cJ (q:=D.int .i64) (xs:=(eB s.es nm i).take k) (e:=((i:Nat):Int)) (hb:=zM) ?_;refine dx ?_;refine pf (q:=D.int .i64) (xs:=(eB s.es nm i).take k++[((i:Nat):Int)]) (ys:=(eB s.es nm i).drop k) (he:=lT.sl) (hb:=Qi) ?_;refine zg ?_;rw[acC hk2,acM hc2];exact iq (i+1) [(57,0),(0,1)]
 refine cx ?_;obtain rfl:i=s.es.length:=ae;rw[acK hc0];refine bh 0 ?_;exact mr
def Pd:aj:=bc 49
def w360 (hA:U3 Y)(hB:C581 Y):IN (cu Y Pd):=fun l hp0=>by
 refine cH ?_;have hya:=yy hp0;refine bF ?_;refine bF ?_;refine bp (env':=[_,⟨_,.aJ⟩,⟨_,(.int _ _)⟩,_,_,_,_,_,_,_,_,_,_]) ?_;refine fC ?_;refine aO ?_;refine bF ?_;refine aB (hc:=hA (l) (by first|assumption|omega)) ?_;refine bF ?_;refine kP (.int _ _) ?_;refine kP (.int _ _) ?_;refine bF ?_;refine bF ?_;refine bp (env':=[_,_,_,⟨_,(.int _ _)⟩,_,_,_,_,_,_,_,_,_]) ?_;refine fC ?_;refine aO ?_;refine bF ?_;refine pg ?_;refine bp (env':=[_,_,_,_,⟨_,(.bool _)⟩,_,_,_,_,_,_,_,_]) ?_;refine dE ?_ ?_<;>intro hc0
 .exact absurd trivial hc0
 refine dx ?_;refine bp (env':=[_,_,_,_,_,_,_,_,_,⟨_,.aJ⟩,_,_,_]) ?_;refine ig (aV.nz _ [_,_,_,_,_,_,_,_,_,⟨true,.sl 2 []⟩,_,_,_] _ _ _ ⟨⟨rfl,.refl _⟩,⟨rfl,.refl _⟩,⟨rfl,.refl _⟩,⟨rfl,.refl _⟩,⟨rfl,.refl _⟩,⟨rfl,.refl _⟩,⟨rfl,.refl _⟩,⟨rfl,.refl _⟩,⟨rfl,.refl _⟩,⟨rfl,.nil 2⟩,⟨rfl,.refl _⟩,⟨rfl,.refl _⟩,⟨rfl,.refl _⟩,trivial⟩ Qt.nil) ?_;refine dx ?_;refine bp (env':=[_,_,_,_,_,⟨_,(.int _ _)⟩,_,_,_,_,_,_,_]) ?_;refine zf hm (fun i=>[.m 11 l gV.D,.u 4,.i i,.u 3,.m 2 ((gK l).take (if i=0 then 0 else(gK l).length)) iH.D,.u 3]) (fun i=>[]) 13 (fun i=>i<=l.length) (fun i=>l.length-i) ae [] ?_;intro i hi;refine zg ?_;intro u0;refine dE ?_ ?_<;>intro hc1
 .refine dx ?_;obtain rfl:i=0:=by have:=hya.1;omega
  obtain⟨hyp1,hyp2,hyp3,hyp4⟩:=tE hp0 (i:=0) ae;rw[ak rfl];refine zg ?_;refine Z0 hm (fun k=>[.m 11 l gV.D,.u 4,.i 0,.u 1,.i k,.u 1,.m 2 ((gK l).take k) iH.D,.u 3]) (fun k=>[]) 18 (fun k=>k<=(gK l).length) (fun k=>(gK l).length-k) ae [] ?_;intro k hk;refine qo ?_;refine c8 (v:=.sl 2 ((gK l).map iH.D)) (hi:=fun _=>ae) ?_;refine zg ?_;intro u1;refine dE ?_ ?_<;>intro hc2
  .refine dx ?_;have hk0:k=0:=by have:(gK l).length<=1:=hyp3;omega
   have hpp:=X9 hk0 (l:=gK l) ae;refine ko ?_;refine c8 (v:=.sl 2 ((gK l).map iH.D)) (hi:=fun _=>ae) ?_;refine zc ?_ ?_<;>intro hc3
   .exfalso;rw[hpp]at hc3;exact absurd hc3 aG
   refine zg ?_;rw[hpp];exact iq (k+1) []
  refine zg ?_;obtain rfl:k=(gK l).length:=ae;exact iq (0+1) []
 refine zr ?_;rw[ai (by have:=hya.1;omega),List.take_length];rfl
def O8:aj:=bc 265
def w1083 (hA:U4 Y)(hB:C359 Y)(hC:aek Y)(hD:ael Y):Er (cu Y O8):=fun shop ps nm hp0=>by
 refine zc ?_ ?_<;>intro hc0
 .refine zr ?_;rw[aij hc0];rfl
 refine zc ?_ ?_<;>intro hc1
 .refine zr ?_;rw[aik hc0 hc1];rfl
 refine zg ?_;refine zf hm (fun i=>[.m 2 shop bN.D,.m 2 ps iH.D,.e (.str nm),.u 4,.i i,.u 7]) (fun i=>[]) 9 (fun i=>i<=ps.length/\E0 ps nm=fY (fun p=>decide (p.name=nm)) (ps.drop i) i) (fun i=>ps.length-i) ⟨ae,rfl⟩ [] ?_;rintro i ⟨hi,hr⟩;refine zg ?_;intro u0;refine dE ?_ ?_<;>intro hc2
 .refine zc ?_ ?_<;>intro hc3
  .refine gh (i+1) [] ?_;rw[hr,hY ae yE]
  refine cx ?_;have hpi:E0 ps nm=(i:Nat):=by rw[hr,jc ae yE]
  refine zc ?_ ?_<;>intro hc4
  .refine zr ?_;rw[ail hc0 hc1 hpi hc4];rfl
  refine zr ?_;rw[aim hc0 hc1 hpi hc4];rfl
 refine ez ?_;have hpn:E0 ps nm=-1:=by rw[hr,jJ ae]
 refine zg ?_;refine zf hm (fun j=>[.m 2 shop bN.D,.u 1,.e (.str nm),.u 9,.i j,.u 2]) (fun j=>[]) 14 (fun j=>j<=shop.length/\fY (Cv nm) shop 0=fY (Cv nm) (shop.drop j) j) (fun j=>shop.length-j) ⟨ae,rfl⟩ [] ?_;rintro j ⟨hj,hr2⟩;refine zg ?_;intro u1;refine dE ?_ ?_<;>intro hc5
 .refine zc ?_ ?_<;>intro hc6
  .refine zr ?_;rw[ain hc0 hc1 hpn (hr2.trans (jc ae hc6))];rfl
  refine gh (j+1) [] ?_;rw[hr2,hY ae hc6]
 refine zr ?_;rw[aio hc0 hc1 hpn (hr2.trans (jJ ae))];rfl
def y3:aj:=bc 79
def w535 {Y:Ctx}(hm:(Y.at 1).bR)(hA:GB (Y.at 1))(hB:C135 (Y.at 1))(hC:C297 (Y.at 1))(g:Gs)(own:av)(hp0:0<=g.i/\g.i<=990000):dp (Y.at 1) y3.body (GG y3 2 (de.D (dG g own).1) (Gs.D (dG g own).2):Ex->List aX->St->Prop) (fq y3 (.ptr 0 2 0 0::[.str own])) ⟨1,[(0,.buf 2 [(Gs.D g)])]⟩:=by
 show dp _ _ _ [⟨true,.ptr 0 2 0 0⟩,⟨true,.str own⟩,.un] ⟨1,[(0,.buf 2 [(Gs.D g)])]⟩;refine aO ?_;refine dx ?_;have ho:=xP g own;have r8:=(cS g own).2.eI 8 ae;refine cx ?_;refine dh (hc:=hC g own hp0) ?_;refine ez ?_;refine dh (hc:=hA (cS g own).2 8 ae iE) ?_;refine cz ((cS g own).2.val 8).toNat (hj:=fun _=>ae) (hb:=fun _=>uz) ?_;refine Dk (v:=.str j2[((cS g own).2.val 8).toNat]!) (hi:=fun _=>uz) ?_;refine cH ?_;refine dh (hc:=hA (cS g own).2.aS 3 ae iE) ?_;refine cH ?_;refine bM [.str (cS g own).1,.str j2[((cS g own).2.val 8).toNat]!,.aJ,.bool (decide (0<(cS g own).2.aS.val 3))] ?_;refine cx ?_;refine AO [(0,.buf 2 [Gs.D (dG g own).2]),(1,.buf 4 [de.D (dG g own).1])] (.id ah (.bf ah (.cons (.ag (.cons (.refl _) (.cons (.refl _) (.cons (.nil 1) (.cons (.refl _) .nil))))) .nil) .nil)) ?_;refine zg ?_;refine iV trivial Di (cU ah (?_)) ah ah ah;rfl
def L6:aj:=bc 138
def w73 {Y:Ctx}(hm:(Y.at 0).bR)(hA:C71 Y)(hB:C219 Y):zE (cu Y L6):=fun r hp0=>by
 refine zc ?_ ?_<;>intro hc0
 .refine zg ?_;refine fw (bX (aw D.str ?_) (aw (D.int .i64) ?_));all_goals
   simp[fg,hc0]
 refine cx ?_;have hgd:=lU hc0;refine zg ?_;refine fw (bX (aw D.str ?_) (aw (D.int .i64) ?_));all_goals
  simp[fg,hc0]
def T6:aj:=bc 88
def w75 {Y:Ctx}(hm:(Y.at 0).bR)(hA:C73 Y)(hB:C221 Y):zF (cu Y T6):=fun r hp0=>by
 refine zc ?_ ?_<;>intro hc0
 .refine zg ?_;refine fw (bX (aw (D.int .u64) ?_) (aw (D.int .i64) ?_));all_goals
   simp[wm,hc0]
 refine ez ?_;refine aB (hc:=hB (fg r).1) (ha:=fun _=>aw (fun d=>[d]) (tD (q:=fun b:UInt8=>D.int .u8 b.toNat) (fun _=>rfl) ah)) (hp:=fun _=>⟨qf (q:=fun b:UInt8=>D.int .u8 b.toNat) (fun _=>rfl) ah,trivial⟩) ?_;refine zg ?_;refine fw (bX (aw (D.int .u64) ?_) (aw (D.int .i64) ?_));all_goals
  simp[wm,hc0]
def Mz:aj:=bc 106
def w698 {Y:Ctx}(hm:(Y.at 0).bR)(hA:C508 Y):JA (cu Y Mz):=fun shop c x hp0=>by
 refine zc ?_ ?_<;>intro hc0
 .refine zc ?_ ?_<;>intro hc1
  .refine zr ?_;rw[afc hc0 hc1]
  refine zc ?_ ?_<;>intro hc2
  .refine zr ?_;rw[shl_b hc0 hc1 hc2]
  refine zr ?_;rw[shl_c hc0 hc1 hc2]
 refine zc ?_ ?_<;>intro hc3
 .refine zr ?_;rw[afd hc0 hc3]
 refine cx ?_;have hs0:0<=c.sh/\c.sh<(shop.length:Int):=ae;have hss:=hp0.1 _ (aq (show c.sh.toNat<shop.length by omega));have hlm:=yR (s:=shop[c.sh.toNat]!) (nm:=x.name) (v:=x.v);refine fG ?_;refine bS _ ?_;refine zc ?_ ?_<;>intro hc4
 .refine zr ?_;rw[Zp hc0 hc3 hc4]
 refine zr ?_;rw[afe hc0 hc3 hc4]
def Uc:aj:=bc 295
def w1121:Eu (cu Y Uc):=fun s nm=>by
 refine zg ?_;refine zf hm (fun i=>[.u 1,.e (.str nm),.u 1,.i i,.p 0 2,.u 2]) (fun i=>[(0,.buf 2 [bN.D s])]) 3 (fun i=>i<=s.es.length/\Cv nm s=(s.es.drop i).any fun x=>decide (x.r.name=nm)) (fun i=>s.es.length-i) ⟨ae,rfl⟩ [(0,0)] ?_;rintro i ⟨hi,hr⟩;refine zg ?_;intro u0;refine dE ?_ ?_<;>intro hc0
 .refine zc ?_ ?_<;>intro hc1
  .refine zr ?_;rw[hr,wK ae mK]
  refine gh (i+1) [(0,0)] ?_;rw[hr,B0 ae mK]
 refine zr ?_;rw[hr,wJ ae]
end Go.Abs
end
