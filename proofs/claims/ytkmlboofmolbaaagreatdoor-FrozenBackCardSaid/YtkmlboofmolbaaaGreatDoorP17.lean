/- A part of the proofs. -/
import Derived.Test.YtkmlboofmolbaaaGreatDoorP09
set_option linter.all false
set_option maxRecDepth 60000
set_option maxHeartbeats 2000000
noncomputable section
namespace Go.Abs
variable {Y:Ctx}(hm:(Y.at 0).bV)
def El:aj:=⟨4,27,[⟨4,none⟩,⟨5,none⟩,⟨6,none⟩],[[.sl 1 [.a]],[.a],[.a]],(sq (rg [gb 3 s1,gb 1 s2,gb 4 s3,gm (.c (.aK)),gm x8,gm cse] [(8,0),(7,1),(10,2),(4,3),(5,4),(6,5)]) (sq (sq (r1 [gk 1 true s7,gx 175 [l0] [[.sl 3 [.a,.a,.sl 8 [.a,.a,.a,.a,.a,.a,.sl 1 [.sl 3 [.a,.a]],.sl 3 [.a,.a,.a]]]]],gno l1,gm l2,gmf 3 s0,A8 3 (.call 142 [l4] [[.sl 2 [.a,.sl 11 [.a,.a,.a,.a,.a,.a,.sl 3 [.sl 4 [.a],.a,.a],.sl 3 [.a,.a,.a],.sl 2 [.a,.sl 1 [.a]],.a,.a]]]]),A8 3 (.un .not l5),go1 l3 l6,gm l7,A8 8 (.ld 3 true s8),A8 8 (.call 138 [l9] ha3),A8 8 (.un .not l10),go1 l8 l11] 9 12) (.cond s9 (sq (rg [gm (.c (.aK)),gm Tk,gm cse] [(4,0),(5,1),(6,2)]) .ret) .skip)) (sq (sq (r1 [gk 4 true Un,gx 315 [l0] [[.a,.a,.a,.sl 9 [.a,.a,.a,.a,.a,.a,.a,.a,.sl 1 [.a]]]],gno l1,gm l2,gff 3 0 Un,A8 3 (.ld 3 true l4),A8 3 (.ld 3 true s8),A8 3 (.eqA true true [.s,.s,.s] l5 l6),go1 l3 l7] 11 8) (.cond s11 (sq (rg [gm (.c (.aK)),gm (i6 34),gm cse] [(4,0),(5,1),(6,2)]) .ret) .skip)) (sq (r2 [gm s0,gk 1 true s7,⟨.mkM,none⟩,gf 0 s7,gd l3,gl l4,gn (.mks 1 (.int .i64 0) l5 l5),gn (.build [.aK,.aK,.fn 5100000 [],.aK] [(0,1,l0),(1,1,l1),(2,1,l2),(3,1,l6)]),gb 4 (.c (.agg [.aK,.aK,.fn 5100000 [],.aK])),gt 4 l8 l7] 16 8) (sq (sq (rg [gf 0 s7,gd l0,gl l1,gm x8] [(15,1),(13,2),(12,3)]) (.block 0 (.loop (sq (r1 [nX Zb s13] 14 0) (sq (gce s14 0) (sq (.block 1 (sq (rg [gm Zb,ga 3 s15 Zb,gk 3 true l1,gb 3 (.c (.agg [.str [],.str [],.aK])),gm l0,gt 3 l3 l2] [(19,3),(17,4)]) (sq (rg [gf 3 s16,gd l0,gm s17,ga 1 l1 l2,gn (.st 1 l3 (.c (.int .i64 (-1))))] []) (sq (r1 [gm s17,Xu l0 x8] 18 1) (.cond s18 (rg [gf 2 s16,gd l0,gf 0 s19,gd l2,gf 1 s19,gd l4,gn (.build [.str [],.str []] [(0,1,l3),(1,1,l5)]),gm s17,gn (.upM l1 l6 l7)] []) .skip))))) (r1 [qu Zb Tk,gm l0] 12 1))))))) (sq (rg [gf 3 s16,gd l0,ga 1 l1 x8,gt 1 l2 x8] []) (sq (sq (rg [gf 3 Un,gd l0,gl l1,gm x8] [(23,1),(21,2),(20,3)]) (.block 2 (.loop (sq (r1 [nX s20 s21] 22 0) (sq (gce s22 2) (sq (.block 3 (sq (r1 [ga 9 s23 s20,gk 9 true l0,gb 9 (.c (.agg [.str [],.int .i64 0,.int .i64 0,.int .i64 0,.str [],.str [],.str [],.int .u64 0,.aK])),gt 9 l2 l1] 24 2) (sq (r1 [gk 4 true s16,gk 9 true s24,gn (.callM 502 [l0,l1]),gm l2] 25 3) (sq (r1 [gm s25,rW l0 x8] 26 1) (.cond s26 (sq (rt [gm s25,gf 0 s24,gd l1,gm (.c (.aK)),gm l0,gm l2] [(4,3),(5,4),(6,5)]) .ret) .skip))))) (r1 [qu s20 Tk,gm l0] 20 1))))))) (sq (rg [gf 3 s16,gd l0,gm l1,gm x8,gm cse] [(4,2),(5,3),(6,4)]) .ret))))))))⟩
def w264 (hA:C138 Y)(hB:C142 Y)(hC:C175 Y)(hD:C315 Y)(hE:C502 Y):Ix (cq Y El):=fun shop e w l hp0=>by
 refine Ih ?_;refine aE (hc:=hC (w) P9) ?_;refine dD ?_;refine ct (hc:=fun hf=>hB (shop) P9) ?_;refine zc ?_ ?_<;>intro hc0
 .refine zr ?_;rw[cho_a hc0];rfl
 refine fk ?_;refine aE (hc:=hD (l) P9) ?_;refine zc ?_ ?_<;>intro hc1
 .refine zr ?_;rw[cho_b hc0 hc1];rfl
 refine cU ?_;have h48:=PK hc0.1.1;refine cU ?_;refine r_mkM ?_;refine dD ?_;refine aeX w.us.length ?_;refine bP [.sl 2 (shop.map bJ.D),.sl 3 (w.us.map cL.D),.fn 5000000 [.it 30],.own 34 1 0 w.us.length] ?_;refine zg ?_;intro u0;rw[c1T_0];refine fX hm (ι:=Nat) (fun i=>[⟨true,.sl 2 ((shop).map bJ.D)⟩,.un,.un,.un,.un,.un,.un,⟨true,.ptr 2 1 0 0⟩,⟨true,.ptr 3 3 0 0⟩,.un,⟨true,.ptr 4 4 0 0⟩,.un,⟨true,.int .i64 (i:Nat)⟩,⟨true,.int .i64 (w.us.length:Nat)⟩,.un,⟨true,.sl 3 ((w.us).map cL.D)⟩,⟨true,.ptr 5 4 0 0⟩,.un,.un,.un,.un,.un,.un,.un,.un,.un,.un]) (fun i=>[(0,.buf 1 ((Qv w.us.length i).map (D.int .i64))),(1,.mpb (uk w.us i)),(2,.buf 1 [bT.D w]),(3,.buf 3 [Env.D e]),(4,.buf 4 [mB.D l]),(5,.buf 4 [.agg [.sl 2 (shop.map bJ.D),.sl 3 (w.us.map cL.D),.fn 5000000 [.it 1],.own 0 1 0 w.us.length]])]) 42 (fun i=>i<=w.us.length) (fun i=>w.us.length-i) 0 ae (aY.to [(34,0),(30,1),(1,2),(0,3),(2,4),(36,5)] ai ai eD (by refine bm.nl 34 ai ai ai dS ?_;refine bm.mp 30 ai ai ai ?_;refine bm.nl 1 ai ai ai dS ?_;refine bm.nl 0 ai ai ai dS ?_;refine bm.nl 2 ai ai ai dS ?_;refine bm.eq 36 ai ai ai ?_;exact bm.nil)) ?_;intro i hi;refine zc ?_ ?_<;>intro hc2
 .refine ib ?_;refine cV ?_;refine sa ((Qv w.us.length (i+1)).map (D.int .i64)) (hi:=by rw[bg,wj];omega) (he:=by rw[<-abv ae];exact Bo (by rw[wj];omega) _) ?_;refine zc ?_ ?_<;>intro hc3
  .refine cU ?_;refine pK (v:=.fn 5000000 [.it 1]) ?_;refine fk ?_;refine bP [.str w.us[i]!.name,.str w.us[i]!.feat] ?_;refine cV ?_;refine r_upM (uk w.us (i+1)) (hb:=DG _ _) (he:=by rw[uk,ak ae];rfl) ?_;refine zg ?_;exact⟨i+1,ae,ae,(aY.to [(0,0),(1,1),(2,2),(3,3),(4,4),(5,5)] ai ai eD y8)⟩
  refine zg ?_;have hi0:i=0:=ae;rw[show(uk w.us i)=(uk w.us (i+1))from by rw[hi0];rfl];exact⟨i+1,ae,ae,(aY.to [(0,0),(1,1),(2,2),(3,3),(4,4),(5,5)] ai ai eD y8)⟩
 refine cU ?_;obtain rfl:i=w.us.length:=ae;refine dD ?_;refine FA 0 (hj:=fun _=>ae) (hb:=fun _=>ae) ?_;refine sa ((EY w.us.length w.us.length).map (D.int .i64)) (hi:=by rw[bg,wj];omega) (he:=by rw[<-abu];exact Bo (by rw[wj];omega) _) ?_;refine zg ?_;intro u1;refine fX hm (ι:=Nat) (fun i=>[⟨true,.sl 2 ((shop).map bJ.D)⟩,.un,.un,.un,.un,.un,.un,⟨true,.ptr 2 1 0 0⟩,⟨true,.ptr 3 3 0 0⟩,.un,⟨true,.ptr 4 4 0 0⟩,.un,.un,.un,.un,.un,⟨true,.ptr 5 4 0 0⟩,.un,.un,.un,⟨true,.int .i64 (i:Nat)⟩,⟨true,.int .i64 (l.lines.length:Nat)⟩,.un,⟨true,.sl 9 ((l.lines).map eg.D)⟩,.un,.un,.un]) (fun i=>[(0,.buf 1 ((G2 shop w.us l.lines (EY w.us.length w.us.length) i).map (D.int .i64))),(1,.mpb (uk w.us w.us.length)),(2,.buf 1 [bT.D w]),(3,.buf 3 [Env.D e]),(4,.buf 4 [mB.D l]),(5,.buf 4 [.agg [.sl 2 (shop.map bJ.D),.sl 3 (w.us.map cL.D),.fn 5000000 [.it 1],.own 0 1 0 w.us.length]])]) 51 (fun i=>i<=l.lines.length/\(jg shop e w l)=vt shop w.us (l.lines.drop i) (G2 shop w.us l.lines (EY w.us.length w.us.length) i)) (fun i=>l.lines.length-i) 0 ⟨ae,aev hc0 hc1⟩ (aY.to [(0,0),(1,1),(2,2),(3,3),(4,4),(5,5)] ai ai eD y8) ?_;rintro i ⟨hi,hr⟩;have hll:=Lj (shop:=shop) (us:=w.us) (l:=l.lines) (c:=EY w.us.length w.us.length) i;rw[A1]at hll;refine zc ?_ ?_<;>intro hc4
 .refine x9 ?_;have hlx:=hp0.2.2.2.1 _ (aq (show i<l.lines.length by omega));refine cU ?_;refine dA (nx':=56) (v:=.int .i64 (mH shop w.us l.lines[i]! (G2 shop w.us l.lines (EY w.us.length w.us.length) i)).1) (m':=[(0,.buf 1 ((G2 shop w.us l.lines (EY w.us.length w.us.length) (i+1)).map (D.int .i64))),(1,.mpb (uk w.us w.us.length)),(2,.buf 1 [bT.D w]),(3,.buf 3 [Env.D e]),(4,.buf 4 [mB.D l]),(5,.buf 4 [.agg [.sl 2 (shop.map bJ.D),.sl 3 (w.us.map cL.D),.fn 5000000 [.it 1],.own 0 1 0 w.us.length]]),(54,.buf 9 [eg.D l.lines[i]!])]) (hc:=fun K' hK=>hE shop w l.lines[i]! (G2 shop w.us l.lines (EY w.us.length w.us.length) i) (uk w.us w.us.length) ⟨⟨hp0.1,hp0.2.1,hlx.1⟩,hll⟩ (aiN hc0.1.1) _ 1 0 _ K' eo eo ai ai hK) (hn:=aU) ?_;refine zc ?_ ?_<;>intro hc5
  .refine zr ?_;rw[hr,QX ae,ak hc5];rfl
  refine zg ?_;exact⟨i+1,⟨ae,by rw[hr,QX ae,ah (by rw[hc5];simp)];rfl⟩,ae,(aY.to [(0,0),(1,1),(2,2),(3,3),(4,4),(5,5)] ai ai eD y8)⟩
 refine cU ?_;rw[show D.own 0 1 0 w.us.length=D.own 0 1 0 (G2 shop w.us l.lines (EY w.us.length w.us.length) i).length from by rw[hll]];refine bB 0 ?_;refine zr ?_;rw[hr,W8 ae];rfl
def CX:aj:=ba 208
def w812 (hA:UU Y)(hB:C815 Y):JF (cq Y CX):=fun l al=>by
 refine zg ?_;refine zf hm (fun i=>[.m 1 l D.str,.e (.bool al),.u 1,.i i,.u 2]) (fun i=>[]) 2 (fun i=>i<=l.length/\nu l al=(bU (fun i=>gC l[i]!) i l.length&&((decide (l.length<=6)&&rising l)&&(al ||decide (l.length=0))))) (fun i=>l.length-i) ⟨ae,(wf_2 l al).symm⟩ [] ?_;rintro i ⟨hi,hr⟩;refine zg ?_;intro u0;refine dG ?_ ?_<;>intro hc0
 .refine zg ?_;refine wp_cond (fun hc1=>?_) (fun hc1=>?_)
  .simp only[cz]at hc1;refine zr ?_;rw[hr,az ae,hc1];rfl
  simp only[df]at hc1;refine gD (i+1) [] ?_;rw[hr,az ae,hc1];rfl
 refine zg ?_;intro u1;refine zr ?_;rw[hr,bA ae,ew,lI.2 (show((l.length:Nat):Int)<=6↔l.length<=6 by omega),lI.2 (show((l.length:Nat):Int)=0↔l.length=0 by omega)]
def OU:aj:=ba 174
def w669 (hA:Gj Y)(hB:C572 Y)(hC:C812 Y):tF (cq Y OU):=fun r w al hp0=>by
 refine zc ?_ ?_<;>intro hc0
 .refine zr ?_;have hw:gB r w.name w.range=4:=by rw[gB,ak hc0]
  rw[lh,ak (by rw[hw];decide),hw]
 refine zc ?_ ?_<;>intro hc1
 .refine zr ?_;have hw:gB r w.name w.range=8:=by rw[gB,ah jB,ak hc1]
  rw[lh,ak (by rw[hw];decide),hw]
 refine dD ?_;refine aE (hc:=hB w.range hp0.1.2) ?_;refine zg ?_;refine wp_cond (fun hc2=>?_) (fun hc2=>?_)
 .try simp only[gF]at hc2
  refine zr ?_;have hw:gB r w.name w.range=6:=by rw[gB,ah jB,ah hc1,ak hc2]
  rw[lh,ak (by rw[hw];decide),hw]
 simp only[df]at hc2;have hw0:gB r w.name w.range=0:=by rw[gB,ah jB,ah hc1,ah (by simp[hc2])]
 refine zc ?_ ?_<;>intro hc3
 .refine zr ?_;rw[lh,ah lR,ak hc3]
 refine zr ?_;rw[lh,ah lR,ah (by simp[hc3])]
def OR:aj:=ba 138
def w457 (hA:UU Y)(hB:C669 Y)(hC:C670 Y):tq (cq Y OR):=fun r n hp0=>by
 refine zg ?_;intro u0;refine dG ?_ ?_<;>intro hc0
 .refine zr ?_;rw[js,ak ae]
 refine zg ?_;intro u1;refine dG ?_ ?_<;>intro hc1
 .refine zr ?_;rw[js,ah ae,ak ae]
 refine zg ?_;refine zf hm (fun i=>[.u 3,.p 1 3,.u 2,.i i,.u 1,.p 0 9,.u 4]) (fun i=>[(0,.buf 9 [Rec.D r]),(1,.buf 3 [bj.D n])]) 12 (fun i=>i<=n.any.length/\nv r n.any=fM (fun i=>lh r n.any[i]! (decide ((n.any.length:Int)=1))) i n.any.length) (fun i=>n.any.length-i) ⟨ae,rfl⟩ [(0,0),(1,1)] ?_;rintro i ⟨hi,hr⟩;refine zg ?_;intro u2;refine dG ?_ ?_<;>intro hc2
 .refine EO ?_;refine aE (hc:=hB r n.any[i]! _ (hp0.1 _ (aq ae))) ?_;refine zc ?_ ?_<;>intro hc3
  .refine zr ?_;have hw:nv r n.any=lh r n.any[i]! (decide ((n.any.length:Int)=1)):=by rw[hr,lq ae hc3]
   rw[js,ah ae,ah ae,ak (by rw[hw];exact hc3),hw]
  refine gD (i+1) [(0,0),(1,1)] ?_;rw[hr,py ae hc3]
 refine fk ?_;have hw0:nv r n.any=0:=by rw[hr,px ae]
 refine cU ?_;refine aE (hc:=hC n.when' hp0.2.1) ?_;refine zg ?_;refine aQ (fun hc4=>?_) (fun hc4=>?_)
 .try simp only[gF]at hc4
  refine zr ?_;rw[js,ah ae,ah ae,ah lR,ak hc4]
 simp only[df]at hc4;refine zg ?_;refine aQ (fun hc5=>?_) (fun hc5=>?_)
 .try simp only[gF]at hc5
  refine zr ?_;rw[js,ah ae,ah ae,ah lR,ah (by simp[hc4]),ak hc5]
 simp only[ed,df,aW]at hc5;refine zr ?_;rw[js,ah ae,ah ae,ah lR,ah (by simp[hc4]),ah (by rintro⟨g1,g2⟩;rcases hc5 with h|h;exact g1 h;rw[g2]at h;cases h)]
def TW:aj:=ba 139
def w458 (hA:Gj Y)(hB:C572 Y)(hC:C670 Y):IZ (cq Y TW):=fun r b hp0=>by
 refine zc ?_ ?_<;>intro hc0
 .refine zr ?_;have hw:gB r b.name b.range=4:=by rw[gB,ak hc0]
  rw[rv,ak (by rw[hw];decide),hw]
 refine zc ?_ ?_<;>intro hc1
 .refine zr ?_;have hw:gB r b.name b.range=8:=by rw[gB,ah jB,ak hc1]
  rw[rv,ak (by rw[hw];decide),hw]
 refine dD ?_;refine aE (hc:=hB b.range hp0.2.1) ?_;refine zg ?_;refine wp_cond (fun hc2=>?_) (fun hc2=>?_)
 .try simp only[gF]at hc2
  refine zr ?_;have hw:gB r b.name b.range=6:=by rw[gB,ah jB,ah hc1,ak hc2]
  rw[rv,ak (by rw[hw];decide),hw]
 simp only[df]at hc2;have hw0:gB r b.name b.range=0:=by rw[gB,ah jB,ah hc1,ah (by simp[hc2])]
 refine dD ?_;refine aE (hc:=hC b.when' hp0.2.2) ?_;refine zc ?_ ?_<;>intro hc3
 .refine zr ?_;rw[rv,ah lR,ak hc3]
 refine zr ?_;rw[rv,ah lR,ah (by simp[hc3])]
def HE:aj:=ba 178
def w673:Jn (cq Y HE):=fun r x=>by
 refine zg ?_;refine zf hm (fun i=>[.u 1,.e (.str x),.u 1,.i i,.p 0 9,.u 2]) (fun i=>[(0,.buf 9 [Rec.D r])]) 3 (fun i=>i<=r.needs.length/\XR r.needs x=(r.needs.drop i).any (fun n=>decide (n.option=x))) (fun i=>r.needs.length-i) ⟨ae,rfl⟩ [(0,0)] ?_;rintro i ⟨hi,hr⟩;refine zg ?_;intro u0;refine dG ?_ ?_<;>intro hc0
 .refine zc ?_ ?_<;>intro hc1
  .refine zr ?_;rw[hr,v8 (c:=fun n:bj=>decide (n.option=x)) ae (bo hc1)]
  refine gD (i+1) [(0,0)] ?_;rw[hr,BB (c:=fun n:bj=>decide (n.option=x)) ae (bG hc1)]
 refine zr ?_;rw[hr,v7 ae]
def HF:aj:=ba 179
def w674:Jo (cq Y HF):=fun r x=>by
 refine zg ?_;refine zf hm (fun i=>[.u 1,.e (.str x),.u 1,.i i,.p 0 9,.u 2]) (fun i=>[(0,.buf 9 [Rec.D r])]) 3 (fun i=>i<=r.needs.length/\LR r.needs x=(r.needs.drop i).any (fun n=>decide (n.any.length=1)&&decide (n.any[0]!.name=x))) (fun i=>r.needs.length-i) ⟨ae,rfl⟩ [(0,0)] ?_;rintro i ⟨hi,hr⟩;refine zg ?_;intro u0;refine dG ?_ ?_<;>intro hc0
 .refine zk18 ?_;intro u1;refine cF 0 (hb:=fun h=>J9) ?_;refine cV ?_;refine c7 (q:=cZ.D) (xs:=r.needs[i]!.any) (i:=0) (hi:=fun h=>J9) (v:=(.str r.needs[i]!.any[0]!.name)) ?_;refine zg ?_;refine wp_cond (fun hc1=>?_) (fun hc1=>?_)
  .rw[lI.2 (show((r.needs[i]!.any.length:Nat):Int)=1↔r.needs[i]!.any.length=1 by omega)]at hc1;have hz:=hc1;refine zr ?_;rw[hr,v8 ae hz]
  rw[lI.2 (show((r.needs[i]!.any.length:Nat):Int)=1↔r.needs[i]!.any.length=1 by omega)]at hc1;have hz:=hc1;refine gD (i+1) [(0,0)] ?_;rw[hr,BB ae hz]
 refine zr ?_;rw[hr,v7 ae]
def L6:aj:=ba 141
def w460 (hA:C672 Y)(hB:C673 Y)(hC:C674 Y):I0 (cq Y L6):=fun r of hp0=>by
 refine zg ?_;refine zf hm (fun i=>[.u 1,.m 1 of D.str,.u 1,.i i,.u 2,.p 0 9,.u 3]) (fun i=>[(0,.buf 9 [Rec.D r])]) 3 (fun i=>i<=of.length/\mE r of=fM (fun i=>nQ r of[i]!) i of.length) (fun i=>of.length-i) ⟨ae,rfl⟩ [(0,0)] ?_;rintro i ⟨hi,hr⟩;refine zg ?_;intro u0;refine dG ?_ ?_<;>intro hc0
 .refine zg ?_;refine aQ (fun hc1=>?_) (fun hc1=>?_)
  .try simp only[gF]at hc1
   refine zr ?_;have he:nQ r of[i]! =14:=by rw[nQ,ak hc1]
   rw[hr,lq ae (by rw[he];decide),he]
  have hn1:¬((bI of[i]!).1=2/\XR r.needs (bI of[i]!).2.1=false):=by rintro⟨g1,g2⟩;rw[g1,g2]at hc1;cases hc1
  refine zg ?_;refine wp_cond (fun hc2=>?_) (fun hc2=>?_)
  .try simp only[gF]at hc2
   refine zr ?_;have he:nQ r of[i]! =16:=by rw[nQ,ah hn1,ak hc2]
   rw[hr,lq ae (by rw[he];decide),he]
  have hn2:¬((bI of[i]!).1=3/\LR r.needs (bI of[i]!).2.1=false):=by rintro⟨g1,g2⟩;rw[g1,g2]at hc2;cases hc2
  refine gD (i+1) [(0,0)] ?_;rw[hr,py ae (by rw[nQ,ah hn1,ah hn2])]
 refine zr ?_;rw[hr,px ae]
def T7:aj:=ba 83
def w417 (hA:C628 Y)(hB:C629 Y):IS (cq Y T7):=fun w c u hp0=>by
 refine kV ?_;obtain⟨⟨hk,hkc⟩,⟨hl1,hl2⟩,hmn,hmb⟩:=Bj hp0;have huc:u<c.length:=hp0.2.2.1;have hul:u<w.us.length:=by have:=(m8 hp0.2.1).1;omega
 refine ib ?_;refine c7 (v:=en.D (aT w c u)) (hi:=fun _=>ae) ?_;refine zg ?_;refine zf hm (fun k=>[.u 1,.m 1 c (D.int .i64),.i u,.u 1,.p 1 1,.i k,.p 2 8,.u 2,.o 0 3 (fG w c u (aT w c u).needs k).length,.u 3]) (fun k=>[(0,.buf 3 ((fG w c u (aT w c u).needs k).map vT.D)),(1,.buf 1 [bT.D w]),(2,.buf 8 [en.D (aT w c u)])]) 18 (fun k=>k<=(aT w c u).needs.length) (fun k=>(aT w c u).needs.length-k) ae [(0,1),(15,2)] ?_;intro k hk1;have hlk:=pG (w:=w) (c:=c) (u:=u) (l:=(aT w c u).needs) k;refine zg ?_;intro u0;refine dG ?_ ?_<;>intro hc0
 .refine x9 ?_;refine c7 (v:=.sl 3 ((((aT w c u).needs)[k]!).map Want.D)) (hi:=fun hf=>cg) ?_;refine zg ?_;refine wp_cond (fun hc1=>?_) (fun hc1=>?_)
  .simp only[cz]at hc1;have hst:(fG w c u (aT w c u).needs k)++[⟨2,((u:Nat):Int),((k:Nat):Int)⟩]=(fG w c u (aT w c u).needs (k+1)):=by rw[Oq hc1]
   refine fk ?_;refine a8 (vT.D ⟨2,((u:Nat):Int),((k:Nat):Int)⟩) ?_;refine bc [vT.D ⟨2,((u:Nat):Int),((k:Nat):Int)⟩] ?_;refine cI (q:=vT.D) (xs:=(fG w c u (aT w c u).needs k)) (e:=⟨2,((u:Nat):Int),((k:Nat):Int)⟩) (hb:=ae) ?_;refine zg ?_;rw[hst];exact ij (k+1) [(37,0),(1,1),(2,2)]
  simp only[df]at hc1;have hst:(fG w c u (aT w c u).needs k)=(fG w c u (aT w c u).needs (k+1)):=by rw[Ot hc1]
  refine zg ?_;rw[hst];exact ij (k+1) [(0,0),(1,1),(2,2)]
 refine dD ?_;obtain rfl:k=(aT w c u).needs.length:=ae;refine zg ?_;rw[show(fG w c u (aT w c u).needs (aT w c u).needs.length)=((fG w c u (aT w c u).needs (aT w c u).needs.length)++jT w c u (aT w c u).bars 0)from(fZ _).symm];refine zf hm (fun q=>[.u 1,.m 1 c (D.int .i64),.i u,.u 1,.p 1 1,.u 1,.p 2 8,.u 2,.o 0 3 ((fG w c u (aT w c u).needs (aT w c u).needs.length)++jT w c u (aT w c u).bars q).length,.i q,.u 2]) (fun q=>[(0,.buf 3 (((fG w c u (aT w c u).needs (aT w c u).needs.length)++jT w c u (aT w c u).bars q).map vT.D)),(1,.buf 1 [bT.D w]),(2,.buf 8 [en.D (aT w c u)])]) 24 (fun q=>q<=(aT w c u).bars.length) (fun q=>(aT w c u).bars.length-q) ae [(0,0),(1,1),(2,2)] ?_;intro q hq;have hlq:=wc (w:=w) (c:=c) (u:=u) (b:=(aT w c u).bars) q;have hlk:=pG (w:=w) (c:=c) (u:=u) (l:=(aT w c u).needs) (aT w c u).needs.length;have hlt:((fG w c u (aT w c u).needs (aT w c u).needs.length)++jT w c u (aT w c u).bars q).length<=48:=by rw[cn];omega
 refine zg ?_;intro u1;refine dG ?_ ?_<;>intro hc2
 .refine zg ?_;refine wp_cond (fun hc3=>?_) (fun hc3=>?_)
  .have hst:((fG w c u (aT w c u).needs (aT w c u).needs.length)++jT w c u (aT w c u).bars q)++[⟨3,((u:Nat):Int),((q:Nat):Int)⟩]=((fG w c u (aT w c u).needs (aT w c u).needs.length)++jT w c u (aT w c u).bars (q+1)):=by rw[Nz hc3,<-fm]
   refine fk ?_;refine a8 (vT.D ⟨3,((u:Nat):Int),((q:Nat):Int)⟩) ?_;refine bc [vT.D ⟨3,((u:Nat):Int),((q:Nat):Int)⟩] ?_;refine cI (q:=vT.D) (xs:=((fG w c u (aT w c u).needs (aT w c u).needs.length)++jT w c u (aT w c u).bars q)) (e:=⟨3,((u:Nat):Int),((q:Nat):Int)⟩) (hb:=ae) ?_;refine zg ?_;rw[hst];exact ij (q+1) [(42,0),(1,1),(2,2)]
  have hst:((fG w c u (aT w c u).needs (aT w c u).needs.length)++jT w c u (aT w c u).bars q)=((fG w c u (aT w c u).needs (aT w c u).needs.length)++jT w c u (aT w c u).bars (q+1)):=by rw[Ny hc3]
  refine zg ?_;rw[hst];exact ij (q+1) [(0,0),(1,1),(2,2)]
 refine cU ?_;obtain rfl:q=(aT w c u).bars.length:=ae;rw[show((fG w c u (aT w c u).needs (aT w c u).needs.length)++jT w c u (aT w c u).bars (aT w c u).bars.length)=AG w c u from rfl];refine bB 0 ?_;exact my
def Mm:aj:=ba 41
def w186 (hA:UT Y)(hB:C417 Y):tD (cq Y Mm):=fun w c hp0=>by
 refine Ih ?_;refine aE (hc:=hA (w) (c) (by first|assumption|omega|exact hp0.1)) ?_;refine zg ?_;refine aQ (fun hc0=>?_) (fun hc0=>?_)
 .try simp only[gF]at hc0
  refine zr ?_;rw[show jN w c=[]from ak hc0];rfl
 simp only[df]at hc0;have hml:=Om hc0;have hwl:=DS hp0.1 hc0;refine fk ?_;refine cF (0) (hj:=fun hf=>cg) (hb:=fun hf=>cg) ?_;refine zc ?_ ?_<;>intro hc1
 .exact absurd hc1 (by have:=hp0.2;omega)
 refine zg ?_;refine zf hm (fun u=>[.u 1,.m 1 c (D.int .i64),.u 1,.p 1 1,.u 2,.o 0 3 (fY w c u).length,.i u,.u 2]) (fun u=>[(0,.buf 3 ((fY w c u).map vT.D)),(1,.buf 1 [bT.D w])]) 12 (fun u=>u<=c.length) (fun u=>c.length-u) ae [(0,1)] ?_;intro u hu;have hlu:=hwl u hu;refine zg ?_;intro u0;refine dG ?_ ?_<;>intro hc2
 .refine zc ?_ ?_<;>intro hc3
  .refine cV ?_;have hone:=Q7 (u:=u) hp0 hc0 ae ae;have hol:=LB hone;have hst:fY w c u++AG w c u=fY w c (u+1):=(PM ae).symm;refine kV ?_;refine oR (q:=vT.D) (xs:=fY w c u) (ys:=AG w c u) (he:=nF.sl) (hb:=ae) ?_;refine zg ?_;rw[hst];exact ij (u+1) [(26,0),(1,1)]
  refine zg ?_;rw[show fY w c u=fY w c (u+1)from(PL ae).symm];exact ij (u+1) [(0,0),(1,1)]
 refine cU ?_;obtain rfl:u=c.length:=ae;rw[show fY w c c.length=jN w c from(ah (by rw[hc0];simp)).symm];refine bB 0 ?_;exact my
def Ml:aj:=ba 17
def w52 {Y:Ctx}(hm:(Y.at 0).bV)(hA:UT Y)(hB:C186 Y):PT (cq Y Ml):=fun w c hp0=>by
 refine qL ?_;refine aE (hc:=hA (w) (c) (by first|assumption|exact hp0.1)) ?_;refine zr ?_;simp
def Na:aj:=ba 67
def w408 {Y:Ctx}(hm:(Y.at 0).bV)(hA:C516 Y)(hB:C531 Y):IM (cq Y Na):=fun a b=>by
 refine DU ?_;refine cV ?_;refine bc [.int .i64 (pn a.n b.n),.int .i64 (pn a.f b.f)] ?_;refine aE (hc:=hB [pn a.n b.n,pn a.f b.f]) (ha:=fun _=>aw (fun d=>[d]) (th (q:=D.int .i64) (xs:=[pn a.n b.n,pn a.f b.f]) (fun _=>rfl) ai)) (hp:=fun _=>⟨pT (q:=D.int .i64) (xs:=[pn a.n b.n,pn a.f b.f]) (fun _=>rfl) ai,trivial⟩) ?_;refine zr ?_;unfold Hk;simp[fM,rM];grind
def Nb:aj:=ba 120
def w622 (hA:C780 Y):Jk (cq Y Nb):=fun l n hp0=>by
 refine zg ?_;intro u0;refine zf hm (fun i=>[.u 1,.i n,.u 1,.i i,.i l.length,.u 1,.m 3 l Want.D,.u 2]) (fun i=>[]) 4 (fun i=>i<=l.length/\oX n l=bU (fun i=>sy n l[i]!) i l.length) (fun i=>l.length-i) ⟨ae,rfl⟩ [] ?_;rintro i ⟨hi,hr⟩;refine zc ?_ ?_<;>intro hc0
 .refine kn ?_;refine cy _ ?_;refine ib ?_;refine ct (hc:=fun hf=>hA _ ?_) ?_;rotate_left;first|assumption|omega|exact hp0 _ (aq ae)
  refine zc ?_ ?_<;>intro hc1
  .refine zr ?_;rw[hr,az ae];simp only[sy];grind
  refine gD (i+1) [] ?_;rw[hr,az ae];simp only[sy];grind
 refine zr ?_;rw[hr,bA ae]
def Pc:aj:=ba 200
def w778 {Y:Ctx}(hm:(Y.at 0).bV)(hA:UZ Y):JE (cq Y Pc):=fun w n hp0=>by
 refine zr ?_;first|(grind [sy];done)|(simp_all[sy];done)
def Mk:aj:=ba 199
def w777 (hA:C778 Y):JD (cq Y Mk):=fun l n hp0=>by
 refine zg ?_;refine zf hm (fun i=>[.m 3 l Want.D,.i n,.u 1,.i i,.u 2]) (fun i=>[]) 2 (fun i=>i<=l.length/\oX n l=bU (fun i=>sy n l[i]!) i l.length) (fun i=>l.length-i) ⟨ae,rfl⟩ [] ?_;rintro i ⟨hi,hr⟩;refine zg ?_;intro u0;refine dG ?_ ?_<;>intro hc0
 .refine zc ?_ ?_<;>intro hc1
  .refine zr ?_;unfold ra;rw[hr,az ae];grind
  refine gD (i+1) [] ?_;rw[hr,az ae];grind
 refine zg ?_;intro u1;refine zr ?_;unfold ra;rw[hr,bA ae];grind
def O5:aj:=ba 160
def w618 (hA:Bv Y)(hB:C777 Y)(hC:C778 Y):Jj (cq Y O5):=fun c n hp0=>by
 refine p9 ?_;refine aE (hc:=hA (c.v) P2) ?_;refine zc ?_ ?_<;>intro hc0
 .refine zr ?_;unfold mO;grind
 refine zg ?_;refine zf hm (fun i=>[.u 1,.i n,.u 1,.p 0 8,.u 1,.i i,.u 5]) (fun i=>[(0,.buf 8 [en.D c])]) 19 (fun i=>i<=c.needs.length/\bU (fun i=>ra n c.needs[i]!) 0 c.needs.length=bU (fun i=>ra n c.needs[i]!) i c.needs.length) (fun i=>c.needs.length-i) ⟨ae,rfl⟩ [(0,0)] ?_;rintro i ⟨hi,hr⟩;refine zg ?_;intro u0;refine dG ?_ ?_<;>intro hc1
 .refine qL ?_;refine c7 (v:=.sl 3 (((c.needs)[i]!).map Want.D)) (hi:=fun hf=>cg) ?_;refine cV ?_;refine aE (hc:=hB ((c.needs)[i]!) (n) P2) ?_;refine zc ?_ ?_<;>intro hc2
  .refine zr ?_;unfold mO;rw[hr,az ae];grind
  refine gD (i+1) [(0,0)] ?_;rw[hr,az ae];grind
 refine zg ?_;refine zf hm (fun k=>[.u 1,.i n,.u 1,.p 0 8,.u 4,.i k,.u 2]) (fun k=>[(0,.buf 8 [en.D c])]) 25 (fun k=>k<=c.bars.length/\oX n c.bars=bU (fun i=>sy n c.bars[i]!) k c.bars.length) (fun k=>c.bars.length-k) ⟨ae,rfl⟩ [(0,0)] ?_;rintro k ⟨hk,hr2⟩;refine zg ?_;intro u1;refine dG ?_ ?_<;>intro hc3
 .refine x9 ?_;refine aE (hc:=hC ((c.bars)[k]!) (n) P2) ?_;refine zc ?_ ?_<;>intro hc4
  .refine zr ?_;unfold mO;rw[hr2,az (i:=k) ae];grind
  refine gD (k+1) [(0,0)] ?_;rw[hr2,az ae];grind
 refine zr ?_;unfold mO;rw[hr2,bA (i:=k) ae,hr,bA (i:=i) ae];grind
def AV:aj:=ba 70
def w409 (hA:C622 Y):IN (cq Y AV):=fun c n hp0=>by
 refine zg ?_;intro u0;refine dG ?_ ?_<;>intro hc0
 .refine zr ?_;unfold mO;grind
 refine zg ?_;intro u1;refine zf hm (fun i=>[.u 1,.i n,.u 1,.p 0 8,.u 1,.i i,.i c.needs.length,.u 1,.m 1 c.needs jv,.u 2]) (fun i=>[(0,.buf 8 [en.D c])]) 16 (fun i=>i<=c.needs.length/\bU (fun i=>ra n c.needs[i]!) 0 c.needs.length=bU (fun i=>ra n c.needs[i]!) i c.needs.length) (fun i=>c.needs.length-i) ⟨ae,rfl⟩ [(0,0)] ?_;rintro i ⟨hi,hr⟩;refine zc ?_ ?_<;>intro hc1
 .refine fk ?_;refine c7 (v:=.sl 3 (((c.needs)[i]!).map Want.D)) (hi:=fun hf=>cg) ?_;refine ib ?_;intro u2;refine ct (hc:=fun hf=>hA ((c.needs)[i]!) (n) aam) ?_;refine zc ?_ ?_<;>intro hc2
  .refine zr ?_;unfold mO;rw[hr,az ae];simp only[ra];grind
  refine gD (i+1) [(0,0)] ?_;rw[hr,az ae];simp only[ra];grind
 refine kn ?_;refine aE (hc:=hA (c.bars) (n) aam) ?_;refine zr ?_;unfold mO;rw[hr,bA ae];grind
def Mg:aj:=ba 159
def w617 {Y:Ctx}(hm:(Y.at 0).bV):Ji (cq Y Mg):=fun a b=>by
 refine zr ?_;first|(grind [jz];done)|(simp_all[jz];done)
def qp:aj:=ba 48
def w298 {Y:Ctx}(hm:(Y.at 1).bV)(hA:Gi (Y.at 1))(g:Gs)(l:List bj)(hp0:0<=g.i/\g.i<=980000)(hp1:(∀n∈l,n.sm)/\l.length<=1000):dn (Y.at 1) qp.body (Gl qp 2 (b6.D (mQ g l).1) (Gs.D (mQ g l).2):Ex->List aX->St->Prop) (fI qp (.ptr 0 2 0 0::[.sl 3 (l.map bj.D)])) ⟨1,[(0,.buf 2 [(Gs.D g)])]⟩:=by
 show dn _ _ _ [⟨true,.ptr 0 2 0 0⟩,⟨true,.sl 3 (l.map bj.D)⟩,.un,.un,.un,.un,.un,.un,.un,.un] ⟨1,[(0,.buf 2 [(Gs.D g)])]⟩;refine aP ?_;refine dD ?_;refine bP [.str [102],.aK] ?_;refine zg ?_;refine fX hm (ι:=Nat) (fun i=>[⟨true,.ptr 0 2 0 0⟩,⟨true,.sl 3 ((l).map bj.D)⟩,⟨true,.ptr 1 2 0 0⟩,⟨true,.int .i64 (i:Nat)⟩,.un,⟨true,.ptr 2 2 0 0⟩,.un,.un,.un,.un]) (fun i=>[(0,.buf 2 [Gs.D g]),(1,.buf 2 [.agg [.str [],.aK]]),(2,.buf 2 [.agg [.str [102],.own 3 1 0 (qE l i).length]]),(3,.buf 1 ((qE l i).map D.str))]) 6 (fun i=>i<=l.length) (fun i=>l.length-i) 0 ae (aY.to [(1,1),(3,2)] ai ai eD (by refine bm.nl 0 ai ai ai dS ?_;refine bm.nl 1 ai ai ai dS ?_;refine bm.ni 3 ai ai (by exact⟨_,_,rfl,⟨_,rfl,⟨_,_,rfl,⟨rfl,rfl⟩,⟨_,_,rfl,Or.inr ⟨_,_,_,rfl⟩,rfl⟩⟩⟩,rfl⟩) ?_;refine bm.mt ai ai ai ai ?_;exact bm.nil)) ?_;intro i hi;have hrl:=MA l i;refine zg ?_;intro u0;refine dG ?_ ?_<;>intro hc0
 .refine zc ?_ ?_<;>intro hc1
  .refine cV ?_;refine bc [.str qoW] ?_;refine cV ?_;refine cy (.agg [.str [102],.own 22 1 0 1]) (he:=cY) ?_;refine zg ?_;have hro:=aj1 ae hc1;exact⟨i+1,ae,ae,(aY.to [(1,1),(2,2),(22,3)] ai ai eD (by refine bm.nl 0 ai ai ai dS ?_;refine bm.nl 1 ai ai ai dS ?_;refine bm.eq 2 ai ai (by rw[hro];exact rfl) ?_;refine bm.nl 22 ai ai (by rw[hro];exact rfl) ai ?_;exact bm.nil))⟩
  refine zg ?_;rw[aj0 ae hc1];exact ij (i+1) [(1,1),(2,2),(3,3)]
 refine dD ?_;obtain rfl:i=l.length:=ae;refine zg ?_;refine zf hm (fun i=>[.p 0 2,.m 3 l bj.D,.p 1 2,.u 2,.p 2 2,.u 1,.i i,.u 2]) (fun i=>[(0,.buf 2 [Gs.D (gS l g i)]),(1,.buf 2 [.agg [.str [],.aK]]),(2,.buf 2 [.agg [.str [102],.own 3 1 0 (qE l l.length).length]]),(3,.buf 1 ((qE l l.length).map D.str))]) 11 (fun i=>i<=l.length/\ie l g=ie (l.drop i) (gS l g i)) (fun i=>l.length-i) ⟨ae,rfl⟩ [(1,1),(2,2),(3,3)] ?_;rintro i ⟨hi,hr⟩;have hgs:=aey l g i;have hrl:=MA l l.length;refine zg ?_;intro u1;refine dG ?_ ?_<;>intro hc2
 .refine dD ?_;by_cases hl1:l[i]!.any.length=1
  .refine kn ?_;intro u2;refine OK ?_;rw[bo (show((l[i]!.any.length:Nat):Int)=1 by omega)];refine cU ?_;refine Ys (hc:=hA (gS l g i) 3 ae kR) ?_;refine zc ?_ ?_<;>intro hc3
   .refine cV ?_;have hnm:=((hp1.1 _ (aq (show i<l.length by omega))).1 _ (aq (show 0<l[i]!.any.length by omega))).1.1;refine qL ?_;refine cF 0 (hj:=fun _=>rfl) (hb:=fun _=>ae) ?_;refine dD ?_;refine bc [.str (l[i]!.any[0]!.name++[47,102])] ?_;refine cI (q:=D.str) (xs:=(qE l l.length)) (e:=(l[i]!.any[0]!.name++[47,102])) (hb:=ae) ?_;refine cV ?_;refine cy (.agg [.str [102],.own 39 1 0 ((qE l l.length)++[(l[i]!.any[0]!.name++[47,102])]).length]) (he:=cY) ?_;refine p9 ?_;refine bB 39 ?_;refine zg ?_;refine iP trivial CP (dc ai (?_)) (by rw[Wh hr ae hl1 hc3];exact rfl) ai ai;rw[Wh hr ae hl1 hc3];rfl
   refine zg ?_;rw[show(gS l g i).aR=(gS l g (i+1))from by rw[gS,ak hl1]];refine gD (i+1) [(1,1),(2,2),(3,3)] ?_;rw[hr,ajm ae hl1 hc3]
  .refine kn ?_;intro u2;refine OK ?_;rw[bG (show ¬((l[i]!.any.length:Nat):Int)=1 by omega)];refine cU ?_;refine ajC ?_;refine r_off (.bool false) ?_;refine zg ?_;refine wp_cond (t:=false) (fun h=>bZ) (fun _=>?_);refine zg ?_;rw[show(gS l g i)=(gS l g (i+1))from by rw[gS,ah hl1]];refine gD (i+1) [(1,1),(2,2),(3,3)] ?_;rw[hr,ajn ae hl1]
 refine kn ?_;refine bB 3 ?_;refine zg ?_;refine iP trivial CP (dc ai (?_)) (by rw[Wi hr ae];exact rfl) ai ai;rw[Wi hr ae];rfl
def TZ:aj:=ba 54
def w504 (hA:C75 Y)(hB:SC Y)(hC:UX Y):I6 (cq Y TZ):=fun s r hp0=>by
 refine zc ?_ ?_<;>intro hc0
 .refine cU ?_;refine bP [.str [],.aK] ?_;refine zr ?_;rw[put_1 hc0];rfl
 refine zc ?_ ?_<;>intro hc1
 .refine cV ?_;refine bP [.str [],.aK] ?_;refine zr ?_;rw[put_2 hc0 hc1];rfl
 refine qL ?_;refine aE (hc:=hC (s.es) (r.name) (r.v) (by first|assumption|exact hp0.1|exact hp0.2|exact⟨fun x hx=>(hp0.1 x hx).1.2,hp0.2.1.2⟩)) ?_;refine zc ?_ ?_<;>intro hc2
 .refine cV ?_;refine bP [.str [],.aK] ?_;refine zr ?_;rw[put_3 hc0 hc1 hc2];rfl
 refine zg ?_;intro u0;refine A3 ?_ ?_<;>intro hc3
 .refine cV ?_;refine bP [.str [],.aK] ?_;refine zr ?_;rw[put_4 hc0 hc1 hc2 ae];rfl
 refine cU ?_;refine bB 0 ?_ (he:=Z6) (hm:=Z6);refine cU ?_;refine Yx (v:=.str s.name) ?_;refine cU ?_;refine Bl (he:=nF.sl) (n:=s.es.length) (hn:=aF) (hb:=ae) ?_;refine cU ?_;refine a8 (ki.D (⟨r,vL r,false⟩:ki)) ?_;refine bc [ki.D (⟨r,vL r,false⟩:ki)] ?_;refine cI (q:=ki.D) (xs:=s.es) (e:=(⟨r,vL r,false⟩:ki)) (hb:=ae) ?_;refine bP [.str s.name,.own 40 11 0 (s.es++[(⟨r,vL r,false⟩:ki)]).length] ?_;refine dD ?_;refine bB 40 ?_;refine zr ?_;rw[put_5 hc0 hc1 hc2 ae];rfl
def OX:aj:=ba 53
def w503 {Y:Ctx}(hm:(Y.at 0).bV)(hA:SC Y)(hB:UX Y):I5 (cq Y OX):=fun s nm v on hp0=>by
 refine zc ?_ ?_<;>intro hc0
 .refine cU ?_;refine bP [.str [],.aK] ?_;refine zr ?_;rw[akt hc0];rfl
 refine kn ?_;refine aE (hc:=hB (s.es) (nm) (v) (by first|assumption|exact hp0.1|exact⟨fun x hx=>(hp0.1 x hx).1.2,hp0.2⟩)) ?_;refine zc ?_ ?_<;>intro hc1
 .refine cU ?_;refine bP [.str [],.aK] ?_;refine zr ?_;rw[aku hc0 hc1];rfl
 refine cU ?_;have h64:s.es.length<=64:=(adJ hc0).2;obtain⟨j,hj,hjl⟩:=(Bk (l:=s.es) (nm:=nm) (v:=v)).resolve_left ae;refine cU ?_;refine yM (ys:=s.es.map ki.D) (n:=s.es.length) (he:=nF.sl) (hn:=aF) (hb:=ae) ?_;refine p9 ?_;refine sa ((s.es.set j {s.es[j]! with off:=on}).map ki.D) (hi:=lL) (he:=HZ hjl rfl) ?_;refine cU ?_;have hsl:(s.es.set j {s.es[j]! with off:=on}).length=s.es.length:=List.length_set;refine dD ?_;refine bP [.str s.name,.own 17 11 0 s.es.length] ?_;refine cy (.agg [.str s.name,.own 17 11 0 (s.es.set j {s.es[j]! with off:=on}).length]) (he:=by rw[List.length_set];exact rfl) ?_;refine cU ?_;refine bB 17 ?_;refine zr ?_;rw[akv hc0 hj];rfl
def Ew:aj:=ba 14
def w153:Io (cq Y Ew):=fun a b=>by
 refine zg ?_;intro u0 u1;refine dG ?_ ?_<;>intro hc0
 .refine zr ?_;rw[eq_comm,cv];intro h;rw[h]at hc0;exact hc0 rfl
 refine zg ?_;refine zf hm (fun i=>[.m 1 a (D.int .i64),.m 1 b (D.int .i64),.u 2,.i i,.u 2]) (fun i=>[]) 7 (fun i=>(i<=a.length/\a.length=b.length)/\decide (a=b)=bU (fun i=>decide (a[i]! =b[i]!)) i a.length) (fun i=>a.length-i) ⟨⟨ae,ae⟩,MH ae⟩ [] ?_;rintro i ⟨⟨hi,hab⟩,hr⟩;refine zg ?_;intro u2;refine dG ?_ ?_<;>intro hc1
 .refine zc ?_ ?_<;>intro hc2
  .refine zr ?_;rw[hr,az ae,bG hc2];rfl
  refine zl (i+1) [] ?_;exact⟨⟨ae,hab⟩,by rw[hr,az ae,bo hc2];rfl⟩
 refine zr ?_;rw[hr,bA ae]
def OW:aj:=ba 261
def w1084 (hA:SC Y)(hB:SD Y):D2 (cq Y OW):=fun s nm hp0=>by
 refine zc ?_ ?_<;>intro hc0
 .refine zr ?_;rw[show j7 s nm=[]from ak hc0];rfl
 refine zg ?_;refine zf hm (fun i=>[.u 1,.e (.str nm),.u 1,.p 1 2,.u 1,.i i,.u 3,.o 0 1 ((eA s.es nm i)).length,.u 1]) (fun i=>[(0,.buf 1 (((eA s.es nm i)).map (D.int .i64))),(1,.buf 2 [bJ.D s])]) 7 (fun i=>i<=s.es.length) (fun i=>s.es.length-i) ae [(0,1)] ?_;intro i hi;have hlt:=wM s.es nm i;refine zg ?_;intro u0;refine dG ?_ ?_<;>intro hc1
 .refine fk ?_;have h64:=RW hc0;refine zg ?_;refine aQ (fun hc2=>?_) (fun hc2=>?_)
  .simp only[gF]at hc2;refine zg ?_;rw[acJ hc2];exact ij (i+1) [(0,0),(1,1)]
  try simp only[gF]at hc2
  refine cV ?_;refine bB 0 ?_;refine zg ?_;refine zf hm (fun k=>[.u 1,.e (.str nm),.u 1,.p 0 2,.u 1,.i i,.u 2,.i k,.m 1 (eA s.es nm i) (D.int .i64),.u 1]) (fun k=>[(0,.buf 2 [bJ.D s])]) 22 (fun k=>k<=(eA s.es nm i).length/\AD s.es (eA s.es nm i) i 0=AD s.es (eA s.es nm i) i k) (fun k=>(eA s.es nm i).length-k) ⟨ae,rfl⟩ [(1,0)] ?_;rintro k ⟨hk,hr⟩;refine EO ?_;refine cF ((eA s.es nm i)[k]!).toNat (hj:=fun hf=>by
    have hkl:k<(eA s.es nm i).length:=by simp at hf;omega
    have hkr:=hlt.2 _ (aq hkl);omega) (hb:=fun hf=>by
    have hkl:k<(eA s.es nm i).length:=by simp at hf;omega
    have hkr:=hlt.2 _ (aq hkl);omega) ?_
  refine cU ?_;refine c7 (v:=bX.D s.es[((eA s.es nm i)[k]!).toNat]!.r.v) (hi:=fun hf=>by
    have hkl:k<(eA s.es nm i).length:=by simp at hf;omega
    have hkr:=hlt.2 _ (aq hkl);omega) ?_
  refine qL ?_;refine ct (hc:=fun hf=>hB s.es[((eA s.es nm i)[k]!).toNat]!.r.v s.es[i]!.r.v (by
    have hkl:k<(eA s.es nm i).length:=by simp at hf;omega
    have hkr:=hlt.2 _ (aq hkl);exact⟨(hp0 _ (aq ae)).1.2,(hp0 _ (aq ae)).1.2⟩)) ?_
  refine zc ?_ ?_<;>intro hc3
  .refine gD (k+1) [(0,0)] ?_;rw[hr,Tl ae hc3.2]
  refine dD ?_;have hk2:AD s.es (eA s.es nm i) i 0=k:=by rw[hr];exact Tm (fun h=>by rcases hc3 with h1|h1;omega;exact h1)
  refine dD ?_;refine Bl (he:=nF.sl) (n:=((eA s.es nm i).take k).length) (hn:=aF) (hb:=zd) ?_;refine cV ?_;refine bc [.int .i64 ((i:Nat):Int)] ?_;refine cI (q:=D.int .i64) (xs:=(eA s.es nm i).take k) (e:=((i:Nat):Int)) (hb:=zd) ?_;refine dD ?_;refine oR (q:=D.int .i64) (xs:=(eA s.es nm i).take k++[((i:Nat):Int)]) (ys:=(eA s.es nm i).drop k) (he:=nF.sl) (hb:=P4) ?_;refine zg ?_;rw[acx hk2,acK hc2];exact ij (i+1) [(57,0),(0,1)]
 refine cU ?_;obtain rfl:i=s.es.length:=ae;rw[acI hc0];refine bB 0 ?_;exact my
def HM:aj:=ba 61
def w505 (hA:C692 Y)(hB:C693 Y)(hC:C694 Y)(m:j3)(od:List (List Int))(c:List Int)(hD:aej (Y.at 0) (Ez c))(hp0:(vV m/\Ke m c)/\yc m od):wkk Y HM (OA (mq m od c)) [j3.D m,Ask.D ⟨[],od⟩,.sl 1 (c.map (D.int .i64))]:=by
 refine cV ?_;obtain⟨⟨hmp,hcp⟩,hop⟩:=hp0;have hml:=hmp.1;have hcl:=hcp.1;refine zc ?_ ?_<;>intro hc0
 .refine zr ?_;rw[Dy hmp hop hcp,ak hc0];rfl
 refine zc ?_ ?_<;>intro hc1
 .refine zr ?_;rw[Dy hmp hop hcp,ah (by rw[hc0];decide),ak hc1];rfl
 refine EO ?_;have hS:mq m od c=iH (fun o=>mq m od (xf c o)) (dX m od c):=by rw[Dy hmp hop hcp,ah (by rw[hc0];decide),ah hc1]
 have hofl:=(qw hmp hop hcp).2;refine zg ?_;refine zf hm (fun i=>[.u 2,.m 1 c (D.int .i64),.u 1,.p 0 3,.p 1 2,.u 3,.i i,.m 2 (dX m od c) dR.D,.u 4]) (fun i=>[(0,.buf 3 [j3.D m]),(1,.buf 2 [Ask.D (⟨[],od⟩:Ask)])]) 30 (fun i=>i<=(dX m od c).length/\mq m od c=iH (fun o=>mq m od (xf c o)) ((dX m od c).drop i)) (fun i=>(dX m od c).length-i) ⟨ae,hS⟩ [(0,0),(1,1)] ?_;rintro i ⟨hi,hr⟩;refine zg ?_;intro u0;refine dG ?_ ?_<;>intro hc2
 .refine dD ?_;have ho:=(qw hmp hop hcp).1 _ (aq (show i<(dX m od c).length by omega));have hput:=Hp hcp ho;obtain⟨U,hU⟩:∃U:Nat,(dX m od c)[i]!.u=(U:Int):=⟨(dX m od c)[i]!.u.toNat,by have:=ho.1;omega⟩
  have hUl:U<c.length:=by have:=ho.1;omega
  refine cV ?_;refine yM (he:=nF.sl) (n:=(xf c (dX m od c)[i]!).length) (hn:=by simp[xf]) (hb:=by rw[show(xf c (dX m od c)[i]!).length=c.length from List.length_set ..];omega) ?_;refine ib ?_;refine FA U (hj:=fun _=>hU) (hb:=fun _=>by rw[show(xf c (dX m od c)[i]!).length=c.length from List.length_set ..];omega) ?_;refine sa ((xf c (dX m od c)[i]!).map (D.int .i64)) (hi:=by simp only[cD,bg];omega) (he:=by rw[cD,stI64 hUl,xf,hU,Int.toNat_natCast]) ?_;refine cV ?_;refine bB 35 ?_;refine cV ?_;refine mf (d:=j3.D m) ?_;refine mf (d:=Ask.D (⟨[],od⟩:Ask)) ?_;refine kn ?_;refine Yv (fun bq hbq=>?_) (hs:=Rl _);refine zg ?_;refine wp_cond (fun hc3=>?_) (fun hc3=>?_)
  .have hbf:bq=false:=by revert hc3;cases bq<;>decide
   obtain⟨d,hsd⟩:=(vx hmp hop hput.1 hbq).2 hbf;rw[hsd];refine zr ?_;rw[hr,NU ae hsd];rfl
  have hbt:bq=true:=by revert hc3;cases bq<;>decide
  have hsn:=(vx hmp hop hput.1 hbq).1 hbt;refine gD (i+1) [(0,0),(1,1)] ?_;rw[hr];exact KO ae hsn
 refine zr ?_;rw[hr,NT ae];rfl
def Ub:aj:=ba 156
def w415 (hA:C381 Y)(hB:C627 Y):IP (cq Y Ub):=fun w x hp0=>by
 refine zc ?_ ?_<;>intro hc0
 .refine zr ?_;unfold ui;rw[ak ae]
 refine kV ?_;obtain⟨j,hwj⟩:∃j:Nat,x.u=(j:Int):=⟨(x.u).toNat,ae⟩
 have hjl:j<w.us.length:=ae;have hju:=hp0.1 _ (aq hjl);have hj16:=hju.1;refine zg ?_;refine zf hm (fun i=>[.u 3,.p 0 3,.u 2,.i i,.m 8 (w.us[j]!.cands) en.D,.u 2,.i ((qt w.us[j]!.cands x.s i))]) (fun i=>[(0,.buf 3 [Want.D x])]) 24 (fun i=>i<=w.us[j]!.cands.length) (fun i=>w.us[j]!.cands.length-i) ae [(1,0)] ?_;intro i hi;have hmr:=On w.us[j]!.cands x.s i;have hpb:=Fw (k:=i+1) ae;have hpp:=pJ (i+1);refine zg ?_;intro u0;refine dG ?_ ?_<;>intro hc1
 .refine uq ?_;refine aE (hc:=hB (x.s) ((w.us[j]!.cands)[i]!.v) (by first|assumption|omega|exact⟨hp0.2,(hju.2 _ (aq ae)).1⟩)) ?_;refine zg ?_;refine wp_cond (fun hc2=>?_) (fun hc2=>?_)
  .have hst:qt w.us[j]!.cands x.s (i+1)=qt w.us[j]!.cands x.s i+2^(i+1):=by rw[qt,ak hc2]
   refine kV ?_;refine lO (hb:=by simp only[show(((i:Nat):Int)+1).toNat=i+1 from rfl];omega) ?_;refine zg ?_;rw[show qt w.us[j]!.cands x.s i+2^(((i:Nat):Int)+1).toNat=qt w.us[j]!.cands x.s (i+1)from hst.symm];exact ij (i+1) [(0,0)]
  have hst:qt w.us[j]!.cands x.s (i+1)=qt w.us[j]!.cands x.s i:=by rw[qt,ah (by rw[hc2];exact Bool.false_ne_true)]
  refine zg ?_;rw[<-hst];exact ij (i+1) [(0,0)]
 refine zr ?_;unfold ui;rw[ah ae,show i=w.us[j]!.cands.length by omega,hwj];rfl
def Xe:aj:=ba 37
def w315 (hA:C138 Y)(hB:C553 Y):ID (cq Y Xe):=fun l hp0=>by
 refine zg ?_;intro u0;refine zf hm (fun i=>[.u 2,.p 0 4,.i i,.i l.lines.length,.u 1,.m 9 l.lines eg.D,.u 3]) (fun i=>[(0,.buf 4 [mB.D l])]) 6 (fun i=>i<=l.lines.length/\bU (wL l.lines) 0 l.lines.length=bU (wL l.lines) i l.lines.length) (fun i=>l.lines.length-i) ⟨ae,rfl⟩ [(0,0)] ?_;rintro i ⟨hi,hr⟩;refine zc ?_ ?_<;>intro hc0
 .refine p9 ?_;refine cy _ ?_;refine dD ?_;refine a8 (eg.D l.lines[i]!) ?_;refine aE (hc:=hB l.lines[i]! (hp0.2.1 _ (aq ae))) ?_;refine x9 ?_;refine cF (i-1) ?_;refine zc ?_ ?_<;>intro hc1
  .refine zr ?_;have hz:wL l.lines i=false:=by
    simp only[wL];revert hc1;generalize G3 l.lines[i]! =z0;generalize Op.bytesLess l.lines[i-1]!.name l.lines[i]!.name=z1;by_cases e0:0<i<;>cases z0<;>cases z1<;>simp_all
   simp only[Ld];rw[hr,az ae,hz];simp
  refine zg ?_;have hz:wL l.lines i=true:=by
   simp only[wL];revert hc1;generalize G3 l.lines[i]! =z0;generalize Op.bytesLess l.lines[i-1]!.name l.lines[i]!.name=z1;by_cases e0:0<i<;>cases z0<;>cases z1<;>simp_all
  refine gD (i+1) [(0,0)] ?_;rw[hr,az ae,hz];rfl
 refine zr ?_;simp only[Ld];rw[hr,bA ae,gL];have h9:decide ((l.lines.length:Int)<=48)=decide (l.lines.length<=48):=lI.2 ae;rw[h9]
def yz:aj:=ba 90
def w535 {Y:Ctx}(hm:(Y.at 1).bV)(hA:Gi (Y.at 1))(hB:C135 (Y.at 1))(hC:C297 (Y.at 1))(g:Gs)(own:av)(hp0:0<=g.i/\g.i<=990000):dn (Y.at 1) yz.body (Gl yz 2 (cZ.D (dw g own).1) (Gs.D (dw g own).2):Ex->List aX->St->Prop) (fI yz (.ptr 0 2 0 0::[.str own])) ⟨1,[(0,.buf 2 [(Gs.D g)])]⟩:=by
 show dn _ _ _ [⟨true,.ptr 0 2 0 0⟩,⟨true,.str own⟩,.un] ⟨1,[(0,.buf 2 [(Gs.D g)])]⟩;refine aP ?_;refine dD ?_;have ho:=xd g own;have r8:=(cN g own).2.eI 8 ae;refine cU ?_;refine c8 (hc:=hC g own hp0) ?_;refine fk ?_;refine c8 (hc:=hA (cN g own).2 8 ae kR) ?_;refine cF ((cN g own).2.val 8).toNat (hj:=fun _=>ae) (hb:=fun _=>ua) ?_;refine CS (v:=.str j0[((cN g own).2.val 8).toNat]!) (hi:=fun _=>ua) ?_;refine cV ?_;refine c8 (hc:=hA (cN g own).2.aR 3 ae kR) ?_;refine cV ?_;refine bP [.str (cN g own).1,.str j0[((cN g own).2.val 8).toNat]!,.aK,.bool (decide (0<(cN g own).2.aR.val 3))] ?_;refine cU ?_;refine Ak [(0,.buf 2 [Gs.D (dw g own).2]),(1,.buf 4 [cZ.D (dw g own).1])] (.id ai (.bf ai (.cons (.ag (.cons (.refl _) (.cons (.refl _) (.cons (.nil 1) (.cons (.refl _) .nil))))) .nil) .nil)) ?_;refine zg ?_;refine iP trivial CP (dc ai (?_)) ai ai ai;rfl
def Mi:aj:=⟨2,7,[⟨2,none⟩],UI,(sq (rg [gb 2 s1,gm x8] [(5,0),(2,1)]) (sq (sq (r1 [gm x8] 3 0) (.block 0 (.loop (sq (sq (r1 [gm s3,gm s0,gl l1,nX l0 l2] 4 3) (gce s4 0)) (sq (.block 1 (sq (r2 [gm s0,gm s3,ga 2 l0 l1,gk 2 true l2,gk 2 true s5,gn (.eqA false true [.s,.s] l3 l4)] 6 5) (.cond s6 (sq (r1 [gm s3,gm l0] 2 1) .ret) .skip))) (r1 [gm s3,qu l0 Tk,gm l1] 3 2)))))) (sq (r1 [gn (.mv (.c (.int .i64 (-1))))] 2 0) .ret)))⟩
def w903:JN (cq Y Mi):=fun l k=>by
 refine zg ?_;refine zf hm (fun i=>[.m 2 l Key.D,.u 2,.i i,.u 1,.p 0 2,.u 1]) (fun i=>[(0,.buf 2 [Key.D k])]) 3 (fun i=>i<=l.length/\ec l k=gu (fun x=>decide (x=k)) (l.drop i) i) (fun i=>l.length-i) ⟨ae,rfl⟩ [(0,0)] ?_;rintro i ⟨hi,hr⟩;refine zg ?_;intro u0;refine dG ?_ ?_<;>intro hc0
 .refine zc ?_ ?_<;>intro hc1
  .refine zr ?_;rw[hr,kD ae lK]
  refine gD (i+1) [(0,0)] ?_;rw[hr,jj ae lK]
 refine zr ?_;rw[hr,lX ae]
def T1:aj:=ba 289
def w1121:D4 (cq Y T1):=fun s nm=>by
 refine zg ?_;refine zf hm (fun i=>[.u 1,.e (.str nm),.u 1,.i i,.p 0 2,.u 2]) (fun i=>[(0,.buf 2 [bJ.D s])]) 3 (fun i=>i<=s.es.length/\B6 nm s=(s.es.drop i).any fun x=>decide (x.r.name=nm)) (fun i=>s.es.length-i) ⟨ae,rfl⟩ [(0,0)] ?_;rintro i ⟨hi,hr⟩;refine zg ?_;intro u0;refine dG ?_ ?_<;>intro hc0
 .refine zc ?_ ?_<;>intro hc1
  .refine zr ?_;rw[hr,v8 ae lK]
  refine gD (i+1) [(0,0)] ?_;rw[hr,BB ae lK]
 refine zr ?_;rw[hr,v7 ae]
def Xj:aj:=ba 9
def w29 {Y:Ctx}(hm:(Y.at 0).bV)(hA:C25 Y):PR (cq Y Xj):=fun n=>by
 refine zg ?_;have hpl:=kI n 3 ae;refine bc (E2.map D.str) ?_;refine zg ?_;rw[cD];refine xk (v:=.str E2[(jY n 3).toNat]!) (hi:=fun _=>by simp[E2];omega) ?_;refine cV ?_;refine OL 0 ?_;refine fk ?_;refine cy _ ?_;exact my
def YP:aj:=ba 189
def w816 {Y:Ctx}(hm:(Y.at 0).bV)(hA:C955 Y):JH (cq Y YP):=fun l nm=>by
 exact my
end Go.Abs
end
