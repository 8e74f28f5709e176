/- A part of the proofs. -/
import Derived.Test.YtdhangmdmdegpaaGreatDoorP09
set_option linter.all false
set_option maxRecDepth 60000
set_option maxHeartbeats 2000000
noncomputable section
namespace Go.Abs
variable {Y:Ctx}(hm:(Y.at 0).bU)
def FG:aj:=⟨4,27,[⟨4,none⟩,⟨5,none⟩,⟨6,none⟩],[[.sl 1 [.a]],[.a],[.a]],(sq (rg [gb 3 s1,gb 1 s2,gb 4 s3,gm (.c (.aO)),gm vx,gm cse] [(8,0),(7,1),(10,2),(4,3),(5,4),(6,5)]) (sq (sq (r1 [gk 1 true s7,gx 175 [l0] [[.sl 3 [.a,.a,.sl 8 [.a,.a,.a,.a,.a,.a,.sl 1 [.sl 3 [.a,.a]],.sl 3 [.a,.a,.a]]]]],gno l1,gm l2,gmf 3 s0,nX 3 (.call 142 [l4] [[.sl 2 [.a,.sl 11 [.a,.a,.a,.a,.a,.a,.sl 3 [.sl 4 [.a],.a,.a],.sl 3 [.a,.a,.a],.sl 2 [.a,.sl 1 [.a]],.a,.a]]]]),nX 3 (.un .not l5),HY l3 l6,gm l7,nX 8 (.ld 3 true s8),nX 8 (.call 138 [l9] ha3),nX 8 (.un .not l10),HY l8 Wy] 9 12) (.cond s9 (sq (rg [gm (.c (.aO)),gm Mq,gm cse] [(4,0),(5,1),(6,2)]) .ret) .skip)) (sq (sq (r1 [gk 4 true TE,gx 315 [l0] [[.a,.a,.a,.sl 9 [.a,.a,.a,.a,.a,.a,.a,.a,.sl 1 [.a]]]],gno l1,gm l2,Bw 3 0 TE,nX 3 (.ld 3 true l4),nX 3 (.ld 3 true s8),nX 3 (.eqA true true [.s,.s,.s] l5 l6),HY l3 l7] 11 8) (.cond s11 (sq (rg [gm (.c (.aO)),gm (i6 34),gm cse] [(4,0),(5,1),(6,2)]) .ret) .skip)) (sq (r2 [gm s0,gk 1 true s7,⟨.mkM,none⟩,gf 0 s7,gd l3,gl l4,gn (.mks 1 (.int .i64 0) l5 l5),gn (.build [.aO,.aO,.fn 5100000 [],.aO] [(0,1,l0),(1,1,l1),(2,1,l2),(3,1,l6)]),gb 4 (.c (.agg [.aO,.aO,.fn 5100000 [],.aO])),gt 4 l8 l7] 16 8) (sq (sq (rg [gf 0 s7,gd l0,gl l1,gm vx] [(15,1),(13,2),(12,3)]) (.block 0 (.loop (sq (r1 [kj Of s13] 14 0) (sq (UT s14 0) (sq (.block 1 (sq (rg [gm Of,ga 3 s15 Of,gk 3 true l1,gb 3 (.c (.agg [.str [],.str [],.aO])),gm l0,gt 3 l3 l2] [(19,3),(17,4)]) (sq (rg [gf 3 s16,gd l0,gm s17,ga 1 l1 l2,gn (.st 1 l3 (.c (.int .i64 (-1))))] []) (sq (r1 [gm s17,Zu l0 vx] 18 1) (.cond s18 (rg [gf 2 s16,gd l0,gf 0 s19,gd l2,gf 1 s19,gd l4,gn (.build [.str [],.str []] [(0,1,l3),(1,1,l5)]),gm s17,gn (.upM l1 l6 l7)] []) .skip))))) (r1 [lS Of Mq,gm l0] 12 1))))))) (sq (rg [gf 3 s16,gd l0,ga 1 l1 vx,gt 1 l2 vx] []) (sq (sq (rg [gf 3 TE,gd l0,gl l1,gm vx] [(23,1),(21,2),(20,3)]) (.block 2 (.loop (sq (r1 [kj s20 s21] 22 0) (sq (UT s22 2) (sq (.block 3 (sq (r1 [ga 9 s23 s20,gk 9 true l0,gb 9 (.c (.agg [.str [],.int .i64 0,.int .i64 0,.int .i64 0,.str [],.str [],.str [],.int .u64 0,.aO])),gt 9 l2 l1] 24 2) (sq (r1 [gk 4 true s16,gk 9 true s24,gn (.callM 502 [l0,l1]),gm l2] 25 3) (sq (r1 [gm s25,mX l0 vx] 26 1) (.cond s26 (sq (rt [gm s25,gf 0 s24,gd l1,gm (.c (.aO)),gm l0,gm l2] [(4,3),(5,4),(6,5)]) .ret) .skip))))) (r1 [lS s20 Mq,gm l0] 20 1))))))) (sq (rg [gf 3 s16,gd l0,gm l1,gm vx,gm cse] [(4,2),(5,3),(6,4)]) .ret))))))))⟩
def w264 (hA:C138 Y)(hB:C142 Y)(hC:C175 Y)(hD:C315 Y)(hE:C502 Y):JN (ct Y FG):=λshop e w l hp0=>by
 refine Jw ?_;refine aE (hc:=hC (w) RP) ?_;refine dR ?_;refine ca (hc:=λhf=>hB (shop) RP) ?_;refine zc ?_ ?_<;>intro hc0
 .refine zr ?_;rw[cho_a hc0];rfl
 refine fA ?_;refine aE (hc:=hD (l) RP) ?_;refine zc ?_ ?_<;>intro hc1
 .refine zr ?_;rw[cho_b hc0 hc1];rfl
 refine c7 ?_;have h48:=Ro hc0.1.1;refine c7 ?_;refine r_mkM ?_;refine dR ?_;refine ag5 w.us.length ?_;refine bW [.sl 2 (shop.map bz.D),.sl 3 (w.us.map cN.D),.fn 5000000 [.it 30],.own 34 1 0 w.us.length] ?_;refine zg ?_;intro u0;rw[c1T_0];refine gE hm (ι:=Nat) (λi=>[⟨true,.sl 2 ((shop).map bz.D)⟩,.un,.un,.un,.un,.un,.un,⟨true,.ptr 2 1 0 0⟩,⟨true,.ptr 3 3 0 0⟩,.un,⟨true,.ptr 4 4 0 0⟩,.un,⟨true,.int .i64 (i:Nat)⟩,⟨true,.int .i64 (w.us.length:Nat)⟩,.un,⟨true,.sl 3 ((w.us).map cN.D)⟩,⟨true,.ptr 5 4 0 0⟩,.un,.un,.un,.un,.un,.un,.un,.un,.un,.un]) (λi=>[(0,.buf 1 ((Sd w.us.length i).map (D.int .i64))),(1,.mpb (va w.us i)),(2,.buf 1 [bP.D w]),(3,.buf 3 [Env.D e]),(4,.buf 4 [j8.D l]),(5,.buf 4 [.agg [.sl 2 (shop.map bz.D),.sl 3 (w.us.map cN.D),.fn 5000000 [.it 1],.own 0 1 0 w.us.length]])]) 42 (λi=>i<=w.us.length) (λi=>w.us.length-i) 0 ae (a8.to [(34,0),(30,1),(1,2),(0,3),(2,4),(36,5)] ai ai eQ (by refine bB.nl 34 ai ai ai eo ?_;refine bB.mp 30 ai ai ai ?_;refine bB.nl 1 ai ai ai eo ?_;refine bB.nl 0 ai ai ai eo ?_;refine bB.nl 2 ai ai ai eo ?_;refine bB.eq 36 ai ai ai ?_;exact bB.nil)) ?_;intro i hi;refine zc ?_ ?_<;>intro hc2
 .refine iz ?_;refine c9 ?_;refine sU ((Sd w.us.length (i+1)).map (D.int .i64)) (hi:=by rw[bj,xo];omega) (he:=by rw[<-ady ae];exact Cq (by rw[xo];omega) _) ?_;refine zc ?_ ?_<;>intro hc3
  .refine c7 ?_;refine qv (v:=.fn 5000000 [.it 1]) ?_;refine fA ?_;refine bW [.str w.us[i]!.name,.str w.us[i]!.feat] ?_;refine c9 ?_;refine r_upM (va w.us (i+1)) (hb:=EW _ _) (he:=by rw[va,ak ae];rfl) ?_;refine zg ?_;exact⟨i+1,ae,ae,(a8.to [(0,0),(1,1),(2,2),(3,3),(4,4),(5,5)] ai ai eQ Ag)⟩
  refine zg ?_;have hi0:i=0:=ae;rw[show(va w.us i)=(va w.us (i+1))from by rw[hi0];rfl];exact⟨i+1,ae,ae,(a8.to [(0,0),(1,1),(2,2),(3,3),(4,4),(5,5)] ai ai eQ Ag)⟩
 refine c7 ?_;obtain rfl:i=w.us.length:=ae;refine dR ?_;refine GQ 0 (hj:=λ_=>ae) (hb:=λ_=>ae) ?_;refine sU ((Ge w.us.length w.us.length).map (D.int .i64)) (hi:=by rw[bj,xo];omega) (he:=by rw[<-adx];exact Cq (by rw[xo];omega) _) ?_;refine zg ?_;intro u1;refine gE hm (ι:=Nat) (λi=>[⟨true,.sl 2 ((shop).map bz.D)⟩,.un,.un,.un,.un,.un,.un,⟨true,.ptr 2 1 0 0⟩,⟨true,.ptr 3 3 0 0⟩,.un,⟨true,.ptr 4 4 0 0⟩,.un,.un,.un,.un,.un,⟨true,.ptr 5 4 0 0⟩,.un,.un,.un,⟨true,.int .i64 (i:Nat)⟩,⟨true,.int .i64 (l.lines.length:Nat)⟩,.un,⟨true,.sl 9 ((l.lines).map dI.D)⟩,.un,.un,.un]) (λi=>[(0,.buf 1 ((Ig shop w.us l.lines (Ge w.us.length w.us.length) i).map (D.int .i64))),(1,.mpb (va w.us w.us.length)),(2,.buf 1 [bP.D w]),(3,.buf 3 [Env.D e]),(4,.buf 4 [j8.D l]),(5,.buf 4 [.agg [.sl 2 (shop.map bz.D),.sl 3 (w.us.map cN.D),.fn 5000000 [.it 1],.own 0 1 0 w.us.length]])]) 51 (λi=>i<=l.lines.length/\(je shop e w l)=wv shop w.us (l.lines.drop i) (Ig shop w.us l.lines (Ge w.us.length w.us.length) i)) (λi=>l.lines.length-i) 0 ⟨ae,agC hc0 hc1⟩ (a8.to [(0,0),(1,1),(2,2),(3,3),(4,4),(5,5)] ai ai eQ Ag) ?_;rintro i ⟨hi,hr⟩;have hll:=MD (shop:=shop) (us:=w.us) (l:=l.lines) (c:=Ge w.us.length w.us.length) i;rw[B3]at hll;refine zc ?_ ?_<;>intro hc4
 .refine yZ ?_;have hlx:=hp0.2.2.2.1 _ (aq (show i<l.lines.length by omega));refine c7 ?_;refine dT (nx':=56) (v:=.int .i64 (mY shop w.us l.lines[i]! (Ig shop w.us l.lines (Ge w.us.length w.us.length) i)).1) (m':=[(0,.buf 1 ((Ig shop w.us l.lines (Ge w.us.length w.us.length) (i+1)).map (D.int .i64))),(1,.mpb (va w.us w.us.length)),(2,.buf 1 [bP.D w]),(3,.buf 3 [Env.D e]),(4,.buf 4 [j8.D l]),(5,.buf 4 [.agg [.sl 2 (shop.map bz.D),.sl 3 (w.us.map cN.D),.fn 5000000 [.it 1],.own 0 1 0 w.us.length]]),(54,.buf 9 [dI.D l.lines[i]!])]) (hc:=λK' hK=>hE shop w l.lines[i]! (Ig shop w.us l.lines (Ge w.us.length w.us.length) i) (va w.us w.us.length) ⟨⟨hp0.1,hp0.2.1,hlx.1⟩,hll⟩ (akY hc0.1.1) _ 1 0 _ K' eL eL ai ai hK) (hn:=aX) ?_;refine zc ?_ ?_<;>intro hc5
  .refine zr ?_;rw[hr,SN ae,ak hc5];rfl
  refine zg ?_;exact⟨i+1,⟨ae,by rw[hr,SN ae,ah (by rw[hc5];simp)];rfl⟩,ae,(a8.to [(0,0),(1,1),(2,2),(3,3),(4,4),(5,5)] ai ai eQ Ag)⟩
 refine c7 ?_;rw[show D.own 0 1 0 w.us.length=D.own 0 1 0 (Ig shop w.us l.lines (Ge w.us.length w.us.length) i).length from by rw[hll]];refine bG 0 ?_;refine zr ?_;rw[hr,Y3 ae];rfl
def adI:aj:=⟨1,5,re1,H0,(sq (rg [gb 7 s0,gm HO] [(2,0),(1,1)]) (sq (sq (r1 [gf 0 s2,gd l0,gn (An l1 (.c (.int .i64 (-1)))),gm l2,Bw 3 0 s2,Gp 3 l4,nX 3 (An l5 Mq),HY l3 l6] 3 7) (.cond s3 (sq (r1 [gf 1 s2,gk 5 true l0,gn (.build [.int .i64 0,.int .i64 0,.int .i64 0,.str [],.str []] []),gn (.eqA false true [.i .i64,.i .i64,.i .i64,.s,.s] l1 l2),gm l3,OV 4 6 s2,Yr 4 l5,AB 4 (.un .not l6),Yq l4 l7,gm l8] 1 9) .ret) (sq (r1 [gf 0 s2,gd l0,mX l1 vx] 4 2) (gcr s4 HO)))) (sq (r1 [gf 1 s2,gk 5 true l0,gx 209 [l1] ha5,gm l2,OV 3 1 s2,OV 3 4 l4,Yr 3 l5,AB 3 (An l6 cse),Yq l3 l7,gm l8] 1 9) .ret)))⟩
def w1087 (hm:(Y.at 0).bU)(hA:Bn Y):qL (ct Y adI):=λc hp0=>by
 refine zc ?_ ?_<;>intro hc0
 .refine fA ?_;refine bc (b6.D (⟨0,0,0,[],[]⟩)) ?_;refine zr ?_;first|(grind [qd,zV];done)|(simp_all[qd,zV];done)
 refine zc ?_ ?_<;>intro hc1
 .refine zr ?_;first|(grind [qd,zV];done)|(simp_all[qd,zV];done)
 refine zr ?_;first|(grind [qd,zV];done)|(simp_all[qd,zV];done)
def L5:aj:=bd 256
def w1024 (hm:(Y.at 0).bU)(hA:Uk Y)(hB:C532 Y)(hC:RV Y):qJ (ct Y L5):=λa b hp0=>by
 refine zc ?_ ?_<;>intro hc0
 .refine zr ?_;first|(grind [lA,du];done)|(simp_all[lA,du];done)
 refine zc ?_ ?_<;>intro hc1
 .refine zr ?_;first|(grind [lA,du];done)|(simp_all[lA,du];done)
 refine zc ?_ ?_<;>intro hc2
 .refine zr ?_;first|(grind [lA,du];done)|(simp_all[lA,du];done)
 refine zc ?_ ?_<;>intro hc3
 .refine zr ?_;first|(grind [lA,du];done)|(simp_all[lA,du];done)
 refine zc ?_ ?_<;>intro hc4
 .refine zr ?_;first|(grind [lA,du];done)|(simp_all[lA,du];done)
 refine zr ?_;first|(grind [lA,du];done)|(simp_all[lA,du];done)
def UK:aj:=bd 266
def w1055 (hm:(Y.at 0).bU)(hA:Bn Y)(hB:Uk Y)(hC:RV Y):qK (ct Y UK):=λc v hp0=>by
 refine zc ?_ ?_<;>intro hc0
 .refine zr ?_;first|(grind [kf];done)|(simp_all[kf];done)
 refine zc ?_ ?_<;>intro hc1
 .refine zr ?_;first|(grind [kf];done)|(simp_all[kf];done)
 refine zr ?_;first|(grind [kf];done)|(simp_all[kf];done)
def L6:aj:=bd 255
def w1023 (hm:(Y.at 0).bU)(hA:WG Y)(hB:RV Y):qI (ct Y L6):=λs hp0=>by
 refine pW ?_;refine aE (hc:=hB (s.f) jQ) ?_;refine dR ?_;refine ca (hc:=λhf=>hB (s.t) jQ) ?_;refine zr ?_;first|(grind [qz];done)|(simp_all[qz];done)
def UL:aj:=bd 228
def w980 (hm:(Y.at 0).bU)(hA:Bn Y)(hB:WE Y)(hC:age Y):uQ (ct Y UL):=λs v hp0=>by
 refine Fa ?_;refine c9 ?_;refine ca (hc:=λhf=>hC (s.f) (v) jQ) ?_;refine j7 ?_;refine ca (hc:=λhf=>hC (s.t) (v) jQ) ?_;refine zr ?_;first|(grind [sK,qz];done)|(simp_all[sK,qz];done)
def afy:aj:=bd 224
def w925 (hA:WE Y)(hB:WG Y):uP (ct Y afy):=λl hp0=>by
 refine zg ?_;intro u0;refine zf hm (λi=>[.m 14 l Span.D,.u 1,.i i,.i l.length,.u 1,.m 14 l Span.D,.u 3]) (λi=>[]) 4 (λi=>i<=l.length/\te l=bK (BR l) i l.length) (λi=>l.length-i) ⟨ae,rfl⟩ [] ?_;rintro i ⟨hi,hr⟩;refine zc ?_ ?_<;>intro hc0
 .refine F1 ?_;refine aE (hc:=hA ((l)[i]!) jQ) ?_;refine qH ?_;refine cD ((i-1)) (hj:=λhf=>cr) (hb:=λhf=>cr) ?_;refine fA ?_;refine ca (hc:=λhf=>hB ((l)[(i-1)]!.t) ((l)[i]!.f) jQ) ?_;refine zc ?_ ?_<;>intro hc1
  .refine zr ?_;rw[hr,ax ae];first|(grind [BR];done)|(simp_all[BR];done)
  refine fX (i+1) [] ?_;rw[hr,ax ae];first|(grind [BR];done)|(simp_all[BR];done)
 refine zr ?_;rw[hr,bp ae]
def afx:aj:=bd 185
def w861 (hA:C925 Y)(hB:C980 Y):uO (ct Y afx):=λl v hp0=>by
 refine zc ?_ ?_<;>intro hc0
 .refine zr ?_;unfold wJ;simp_all
 refine zg ?_;intro u0;refine zf hm (λi=>[.m 14 l Span.D,.u 3,.i i,.i l.length,.u 1,.m 14 l Span.D,.u 1,.p 0 5,.u 1]) (λi=>[(0,.buf 5 [b6.D v])]) 8 (λi=>i<=l.length/\wJ l v=pd (λi=>sK l[i]! v) i l.length) (λi=>l.length-i) ⟨ae,by unfold wJ;rw[show te l=true by simpa using hc0];rfl⟩ [(0,0)] ?_;rintro i ⟨hi,hr⟩;refine zc ?_ ?_<;>intro hc1
 .refine Jw ?_;refine aE (hc:=hB ((l)[i]!) (v) jQ) ?_;refine zc ?_ ?_<;>intro hc2
  .refine zr ?_;rw[hr,j9 ae];simp_all
  refine fX (i+1) [(0,0)] ?_;rw[hr,j9 ae];simp_all
 refine zr ?_;rw[hr,tC ae]
def Oh:aj:=⟨1,3,re1,H0,(sq (rg [gb 7 s0,gm HO] [(2,0),(1,1)]) (sq (r1 [gf 0 s2,gd l0,mX l1 vx,gm l2,Bw 3 6 s2,Gp 3 l4,nX 3 (.un .not l5),gmf 3 l6,OV 7 1 s2,OV 7 3 l8,Yr 7 l9,AB 7 (An l10 cse),gaf 3 l7 Wy,gmf 3 l12,OV 13 1 s2,AB 13 (.ld 5 true l14),AB 13 (.mv (.c (.agg [.int .i64 0,.int .i64 0,.int .i64 0,.str [],.str []]))),AB 13 (.eqA true true [.i .i64,.i .i64,.i .i64,.s,.s] l15 l16),gaf 3 l13 l17,HY l3 l18,gm l19] 1 20) .ret))⟩
def w924 (hm:(Y.at 0).bU):Ld (ct Y Oh):=λc=>by
 refine Fa ?_;refine kv ?_;refine bL (d:=b6.D zV) ?_;refine zr ?_;first|(grind [rY,zV];done)|(simp_all[rY,zV];done)
def afI:aj:=bd 179
def w780 (hA:C924 Y)(hB:C925 Y):uN (ct Y afI):=λs hp0=>by
 refine zg ?_;intro u0;refine zf hm (λi=>[.u 2,.p 0 2,.i i,.i s.rel.length,.u 1,.m 14 s.rel Span.D,.u 2]) (λi=>[(0,.buf 2 [cy.D s])]) 6 (λi=>i<=s.rel.length/\wL s=(bK (λi=>rY s.rel[i]!.f&&rY s.rel[i]!.t) i s.rel.length&&(te s.rel&&te s.pr))) (λi=>s.rel.length-i) ⟨ae,(afE s).symm⟩ [(0,0)] ?_;rintro i ⟨hi,hr⟩;refine zc ?_ ?_<;>intro hc0
 .refine zc ?_ ?_<;>intro hc1
  .refine zr ?_;rw[hr,ax ae];rcases hc1 with h|h<;>simp only[h,Bool.and_false,Bool.false_and]
  refine fX (i+1) [(0,0)] ?_;rw[hr,ax ae];simp_all
 refine j7 ?_;refine aE (hc:=hB (s.rel) jQ) ?_;refine dR ?_;refine ca (hc:=λhf=>hB (s.pr) jQ) ?_;refine zr ?_;rw[hr,bp ae];simp
def afH:aj:=bd 138
def w712 (hm:(Y.at 0).bU)(hA:Bn Y)(hB:C780 Y)(hC:C861 Y):uJ (ct Y afH):=λs v hp0=>by
 refine zc ?_ ?_<;>intro hc0
 .refine zr ?_;first|(grind [pg];done)|(simp_all[pg];done)
 refine zc ?_ ?_<;>intro hc1
 .refine j7 ?_;refine aE (hc:=hC (s.rel) (v) jQ) ?_;refine zr ?_;first|(grind [pg];done)|(simp_all[pg];done)
 refine j7 ?_;refine aE (hc:=hC (s.pr) (v) jQ) ?_;refine zr ?_;first|(grind [pg];done)|(simp_all[pg];done)
def VX:aj:=bd 93
def w417 (hA:C628 Y)(hB:C629 Y):J8 (ct Y VX):=λw c u hp0=>by
 refine j7 ?_;obtain⟨⟨hk,hkc⟩,⟨hl1,hl2⟩,hmn,hmb⟩:=Cj hp0;have huc:u<c.length:=hp0.2.2.1;have hul:u<w.us.length:=by have:=(me hp0.2.1).1;omega
 refine iz ?_;refine dj (v:=eI.D (aW w c u)) (hi:=λ_=>ae) ?_;refine zg ?_;refine zf hm (λk=>[.u 1,.m 1 c (D.int .i64),.i u,.u 1,.p 1 1,.i k,.p 2 8,.u 2,.o 0 3 (fT w c u (aW w c u).needs k).length,.u 3]) (λk=>[(0,.buf 3 ((fT w c u (aW w c u).needs k).map wZ.D)),(1,.buf 1 [bP.D w]),(2,.buf 8 [eI.D (aW w c u)])]) 18 (λk=>k<=(aW w c u).needs.length) (λk=>(aW w c u).needs.length-k) ae [(0,1),(15,2)] ?_;intro k hk1;have hlk:=qo (w:=w) (c:=c) (u:=u) (l:=(aW w c u).needs) k;refine zg ?_;intro u0;refine dF ?_ ?_<;>intro hc0
 .refine yZ ?_;refine dj (v:=.sl 3 ((((aW w c u).needs)[k]!).map Want.D)) (hi:=λhf=>cr) ?_;refine zg ?_;refine wp_cond (λhc1=>?_) (λhc1=>?_)
  .simp only[b8]at hc1;have hst:(fT w c u (aW w c u).needs k)++[⟨2,((u:Nat):Int),((k:Nat):Int)⟩]=(fT w c u (aW w c u).needs (k+1)):=by rw[P3 hc1]
   refine fA ?_;refine bc (wZ.D ⟨2,((u:Nat):Int),((k:Nat):Int)⟩) ?_;refine bm [wZ.D ⟨2,((u:Nat):Int),((k:Nat):Int)⟩] ?_;refine cQ (q:=wZ.D) (xs:=(fT w c u (aW w c u).needs k)) (e:=⟨2,((u:Nat):Int),((k:Nat):Int)⟩) (hb:=ae) ?_;refine zg ?_;rw[hst];exact iw (k+1) [(37,0),(1,1),(2,2)]
  simp only[cF]at hc1;have hst:(fT w c u (aW w c u).needs k)=(fT w c u (aW w c u).needs (k+1)):=by rw[P4 hc1]
  refine zg ?_;rw[hst];exact iw (k+1) [(0,0),(1,1),(2,2)]
 refine dR ?_;obtain rfl:k=(aW w c u).needs.length:=ae;refine zg ?_;rw[show(fT w c u (aW w c u).needs (aW w c u).needs.length)=((fT w c u (aW w c u).needs (aW w c u).needs.length)++kg w c u (aW w c u).bars 0)from(gw _).symm];refine zf hm (λq=>[.u 1,.m 1 c (D.int .i64),.i u,.u 1,.p 1 1,.u 1,.p 2 8,.u 2,.o 0 3 ((fT w c u (aW w c u).needs (aW w c u).needs.length)++kg w c u (aW w c u).bars q).length,.i q,.u 2]) (λq=>[(0,.buf 3 (((fT w c u (aW w c u).needs (aW w c u).needs.length)++kg w c u (aW w c u).bars q).map wZ.D)),(1,.buf 1 [bP.D w]),(2,.buf 8 [eI.D (aW w c u)])]) 24 (λq=>q<=(aW w c u).bars.length) (λq=>(aW w c u).bars.length-q) ae [(0,0),(1,1),(2,2)] ?_;intro q hq;have hlq:=xh (w:=w) (c:=c) (u:=u) (b:=(aW w c u).bars) q;have hlk:=qo (w:=w) (c:=c) (u:=u) (l:=(aW w c u).needs) (aW w c u).needs.length;have hlt:((fT w c u (aW w c u).needs (aW w c u).needs.length)++kg w c u (aW w c u).bars q).length<=48:=by rw[cx];omega
 refine zg ?_;intro u1;refine dF ?_ ?_<;>intro hc2
 .refine zg ?_;refine wp_cond (λhc3=>?_) (λhc3=>?_)
  .have hst:((fT w c u (aW w c u).needs (aW w c u).needs.length)++kg w c u (aW w c u).bars q)++[⟨3,((u:Nat):Int),((q:Nat):Int)⟩]=((fT w c u (aW w c u).needs (aW w c u).needs.length)++kg w c u (aW w c u).bars (q+1)):=by rw[Pc hc3,<-fL]
   refine fA ?_;refine bc (wZ.D ⟨3,((u:Nat):Int),((q:Nat):Int)⟩) ?_;refine bm [wZ.D ⟨3,((u:Nat):Int),((q:Nat):Int)⟩] ?_;refine cQ (q:=wZ.D) (xs:=((fT w c u (aW w c u).needs (aW w c u).needs.length)++kg w c u (aW w c u).bars q)) (e:=⟨3,((u:Nat):Int),((q:Nat):Int)⟩) (hb:=ae) ?_;refine zg ?_;rw[hst];exact iw (q+1) [(42,0),(1,1),(2,2)]
  have hst:((fT w c u (aW w c u).needs (aW w c u).needs.length)++kg w c u (aW w c u).bars q)=((fT w c u (aW w c u).needs (aW w c u).needs.length)++kg w c u (aW w c u).bars (q+1)):=by rw[Pb hc3]
  refine zg ?_;rw[hst];exact iw (q+1) [(0,0),(1,1),(2,2)]
 refine c7 ?_;obtain rfl:q=(aW w c u).bars.length:=ae;rw[show((fT w c u (aW w c u).needs (aW w c u).needs.length)++kg w c u (aW w c u).bars (aW w c u).bars.length)=BG w c u from rfl];refine bG 0 ?_;exact lL
def NT:aj:=bd 49
def w186 (hA:WK Y)(hB:C417 Y):uy (ct Y NT):=λw c hp0=>by
 refine Jw ?_;refine aE (hc:=hA (w) (c) (by first|assumption|omega|exact hp0.1)) ?_;refine zg ?_;refine aQ (λhc0=>?_) (λhc0=>?_)
 .try simp only[gR]at hc0
  refine zr ?_;rw[show iX w c=[]from ak hc0];rfl
 simp only[cF]at hc0;have hml:=DG hc0;have hwl:=E8 hp0.1 hc0;refine fA ?_;refine cD (0) (hj:=λhf=>cr) (hb:=λhf=>cr) ?_;refine zc ?_ ?_<;>intro hc1
 .exact absurd hc1 (by have:=hp0.2;omega)
 refine zg ?_;refine zf hm (λu=>[.u 1,.m 1 c (D.int .i64),.u 1,.p 1 1,.u 2,.o 0 3 (gF w c u).length,.i u,.u 2]) (λu=>[(0,.buf 3 ((gF w c u).map wZ.D)),(1,.buf 1 [bP.D w])]) 12 (λu=>u<=c.length) (λu=>c.length-u) ae [(0,1)] ?_;intro u hu;have hlu:=hwl u hu;refine zg ?_;intro u0;refine dF ?_ ?_<;>intro hc2
 .refine zc ?_ ?_<;>intro hc3
  .refine c9 ?_;have hone:=SV (u:=u) hp0 hc0 ae ae;have hol:=M5 hone;have hst:gF w c u++BG w c u=gF w c (u+1):=(Rq ae).symm;refine j7 ?_;refine pO (q:=wZ.D) (xs:=gF w c u) (ys:=BG w c u) (he:=n9.sl) (hb:=ae) ?_;refine zg ?_;rw[hst];exact iw (u+1) [(26,0),(1,1)]
  refine zg ?_;rw[show gF w c u=gF w c (u+1)from(Rp ae).symm];exact iw (u+1) [(0,0),(1,1)]
 refine c7 ?_;obtain rfl:u=c.length:=ae;rw[show gF w c c.length=iX w c from(ah (by rw[hc0];simp)).symm];refine bG 0 ?_;exact lL
def NS:aj:=bd 19
def w52 (hm:(Y.at 0).bU)(hA:WK Y)(hB:C186 Y):Rw (ct Y NS):=λw c hp0=>by
 refine pW ?_;refine aE (hc:=hA (w) (c) (by first|assumption|exact hp0.1)) ?_;refine zr ?_;simp
def zw:aj:=bd 51
def w296 (hm:(Y.at 1).bU)(hB:Hx (Y.at 1))(hC:C535 (Y.at 1))(g:Gs)(own:aw)(hp0:0<=g.i/\g.i<=980000):dD (Y.at 1) zw.body (HB zw 2 (bn.D (mF g own).1) (Gs.D (mF g own).2):Ex->Φ->St->Prop) (fV zw (.ptr 0 2 0 0::[.str own])) ⟨1,[(0,.buf 2 [(Gs.D g)])]⟩:=by
 show dD _ _ _ [⟨true,.ptr 0 2 0 0⟩,⟨true,.str own⟩,.un,.un,.un,.un,.un,.un,.un,.un,.un] ⟨1,[(0,.buf 2 [(Gs.D g)])]⟩;refine aS ?_;refine dR ?_;have hw1:=Ct g own;have hw2:=Ct (dM g own).2.aU own;have ha:=Xl g own;refine c7 ?_;refine dd (hc:=hC g own ae) ?_;refine bm [cP.D (dM g own).1] ?_;refine bW [.own 5 4 0 1,.str [],.str []] ?_;refine kv ?_;refine dd (hc:=hB (dM g own).2 6 ae lz) ?_;refine c9 ?_;refine rE hm (ι:=Unit) (λ_=>[⟨true,.ptr 0 2 0 0⟩,⟨true,.str own⟩,⟨true,.ptr 1 3 0 0⟩,.un,.un,⟨true,.ptr 2 3 0 0⟩,.un,.un,.un,.un,.un]) (λ_=>[(0,.buf 2 [Gs.D (hZ g own).2]),(1,.buf 3 [.agg [.aO,.str [],.str []]]),(2,.buf 3 [.agg [.own 3 4 0 (hZ g own).1.length,.str [],.str []]]),(3,.buf 4 ((hZ g own).1.map cP.D))]) 60 (λ_=>True) ?_ ?_
 .refine zc ?_ ?_<;>intro hc0
  .refine c7 ?_;refine zM (v:=.own 5 4 0 1) ?_;refine c7 ?_;refine dd (hc:=hC (dM g own).2.aU own Lw) ?_;refine bm [cP.D (dM (dM g own).2.aU own).1] ?_;refine cQ (q:=cP.D) (xs:=[(dM g own).1]) (e:=(dM (dM g own).2.aU own).1) (hb:=aJ) ?_;refine c9 ?_;refine cE (.agg [.own 19 4 0 2,.str [],.str []]) (he:=dh) ?_;refine zg ?_;have hA:(hZ g own)=([(dM g own).1,(dM (dM g own).2.aU own).1],(dM (dM g own).2.aU own).2):=ak hc0;rw[hA];exact⟨(),trivial,(a8.to [(1,1),(7,2),(19,3)] ai ai eQ (by refine bB.nl 0 ai ai ai eo ?_;refine bB.nl 1 ai ai ai eo ?_;refine bB.eq 7 ai ai ai ?_;refine bB.nl 19 ai ai ai eo ?_;exact bB.nil))⟩
  refine zc ?_ ?_<;>intro hc1
  .refine dR ?_;refine bm [.str fW] ?_;refine GQ 0 (hj:=λ_=>rfl) (hb:=λ_=>aX) ?_;refine c9 ?_;refine sU [.agg [.str (dM g own).1.name,.str (dM g own).1.range,.own 17 1 0 1,.bool (dM g own).1.bare]] (hi:=aJ) (he:=dh) ?_;refine zg ?_;have hA:(hZ g own)=([{(dM g own).1 with feats:=[fW]}],(dM g own).2.aU):=by rw[hZ,ah hc0,ak hc1]
   rw[hA];exact⟨(),trivial,(a8.fz 17 ai eo Np Np (a8.to [(1,1),(7,2),(5,3)] ai ai eQ ach))⟩
  refine zg ?_;have hA:(hZ g own)=([(dM g own).1],(dM g own).2.aU):=by rw[hZ,ah hc0,ah hc1]
  rw[hA];exact⟨(),trivial,(a8.to [(1,1),(7,2),(5,3)] ai ai eQ ach)⟩
 .rintro _-
  refine dR ?_;refine dd (hc:=hB (hZ g own).2 8 ae lz) ?_;refine c9 ?_;refine rE hm (ι:=Unit) (λ_=>[⟨true,.ptr 0 2 0 0⟩,⟨true,.str own⟩,⟨true,.ptr 1 3 0 0⟩,.un,.un,⟨true,.ptr 2 3 0 0⟩,.un,.un,.un,.un,.un]) (λ_=>[(0,.buf 2 [Gs.D (jO (hZ g own).2).2]),(1,.buf 3 [.agg [.aO,.str [],.str []]]),(2,.buf 3 [.agg [.own 3 4 0 (hZ g own).1.length,.str (jO (hZ g own).2).1,.str []]]),(3,.buf 4 ((hZ g own).1.map cP.D))]) 80 (λ_=>True) ?_ ?_
  .refine zc ?_ ?_<;>intro hc2
   .refine c7 ?_;refine cE (.agg [.own 3 4 0 (hZ g own).1.length,.str osY,.str []]) (he:=dh) ?_;refine zg ?_;have hH:(jO (hZ g own).2)=(osY,(hZ g own).2.aU):=by rw[jO,ak hc2]
    rw[hH];exact⟨(),trivial,(a8.to [(1,1),(2,2),(3,3)] ai ai eQ RF)⟩
   refine zc ?_ ?_<;>intro hc3
   .refine c7 ?_;refine cE (.agg [.own 3 4 0 (hZ g own).1.length,.str osN,.str []]) (he:=dh) ?_;refine zg ?_;have hH:(jO (hZ g own).2)=(osN,(hZ g own).2.aU):=by rw[jO,ah hc2,ak hc3]
    rw[hH];exact⟨(),trivial,(a8.to [(1,1),(2,2),(3,3)] ai ai eQ RF)⟩
   refine zg ?_;have hH:(jO (hZ g own).2)=([],(hZ g own).2.aU):=by rw[jO,ah hc2,ah hc3]
   rw[hH];exact⟨(),trivial,(a8.to [(1,1),(2,2),(3,3)] ai ai eQ RF)⟩
  .rintro _-
   refine dR ?_;refine dd (hc:=hB (jO (hZ g own).2).2 5 ae (by first|omega|(simp only[Gs.aU];omega)|(simp only[o8,jO,Gs.aU]at*;omega))) ?_;refine zc ?_ ?_<;>intro hc4
   .refine c9 ?_;have hO:(Iz (jO (hZ g own).2).2)=([111],(jO (hZ g own).2).2.aU):=by rw[Iz,ak hc4]
    refine c9 ?_;refine cE (.agg [.own 3 4 0 (hZ g own).1.length,.str (jO (hZ g own).2).1,.str [111]]) (he:=dh) ?_;refine j7 ?_;refine bG 3 ?_;refine zg ?_;refine jc trivial DZ (dp ai (?_)) (by rw[mF,hO];exact rfl) ai ai;rw[mF,hO];rfl
   refine c9 ?_;have hO:(Iz (jO (hZ g own).2).2)=([],(jO (hZ g own).2).2.aU):=by rw[Iz,ah hc4]
   refine fA ?_;refine bG 3 ?_;refine zg ?_;refine jc trivial DZ (dp ai (?_)) (by rw[mF,hO];exact rfl) ai ai;rw[mF,hO];rfl
def V3:aj:=bd 207
def w630:uE (ct Y V3):=λa b=>by
 refine zc ?_ ?_<;>intro hc0
 .refine zr ?_;unfold du;rw[ak hc0]
 refine zc ?_ ?_<;>intro hc1
 .refine zr ?_;unfold du;rw[ah hc0,ak hc1]
 refine zr ?_;unfold du;rw[ah hc0,ah hc1]
def QW:aj:=bd 275
def w927:uD (ct Y QW):=λa b=>by
 refine zc ?_ ?_<;>intro hc0
 .refine zr ?_;simp[qc,hc0]
 refine zc ?_ ?_<;>intro hc1
 .refine zr ?_;simp_all[qc]
 refine zr ?_;simp_all[qc]
def aaV:aj:=bd 241
def w783 (hA:WO Y)(hB:C667 Y)(hC:C668 Y)(hD:C927 Y):uG (ct Y aaV):=λa b=>by
 refine zc ?_ ?_<;>intro hc0
 .refine zr ?_;unfold yN;rw[ak hc0]
 refine zc ?_ ?_<;>intro hc1
 .refine zr ?_;have hn:¬(cT a=true/\cT b=true):=by rintro⟨h1,h2⟩;simp[h1,h2]at hc0
  unfold yN;rw[ah hn];rw[ak hc1]
 refine zc ?_ ?_<;>intro hc2
 .refine zr ?_;have hn:¬(cT a=true/\cT b=true):=by rintro⟨h1,h2⟩;simp[h1,h2]at hc0
  unfold yN;rw[ah hn];rw[ah (by simp[hc1]),ak hc2]
 refine zr ?_;have hn:¬(cT a=true/\cT b=true):=by rintro⟨h1,h2⟩;simp[h1,h2]at hc0
 unfold yN;rw[ah hn];rw[ah (by simp[hc1]),ah (by simp[hc2])]
def V4:aj:=bd 208
def w631 (hA:C470 Y)(hB:WO Y)(hC:C783 Y):KE (ct Y V4):=λa b hp0=>by
 refine zc ?_ ?_<;>intro hc0
 .refine zr ?_;unfold BJ;rw[ak hc0]
 refine zc ?_ ?_<;>intro hc1
 .refine zr ?_;unfold BJ;rw[ah hc0,ak hc1]
 refine zc ?_ ?_<;>intro hc2
 .refine zr ?_;unfold BJ;rw[ah hc0,ah hc1,ak hc2]
 refine zg ?_;refine zf hm (λi=>[.u 6,.i i,.m 1 (bh a 46) D.str,.m 1 (bh b 46) D.str,.u 3]) (λi=>[]) 18 (λi=>(i<=(bh a 46).length/\i<=(bh b 46).length)/\BJ a b=vQ (bh a 46) (bh b 46) i) (λi=>(bh a 46).length-i) ⟨⟨ae,ae⟩,by unfold BJ;rw[ah hc0,ah hc1,ah hc2]⟩ [] ?_;rintro i ⟨hi,hr⟩;refine zg ?_;intro u0;refine dF ?_ ?_<;>intro hc3
 .refine zc ?_ ?_<;>intro hc4
  .refine zr ?_;rw[hr,Hf ae hc4]
  refine zl (i+1) [] ?_;exact⟨⟨ae,ae⟩,by rw[hr,Ov ae hc4]⟩
 refine zg ?_;intro u1 u2;refine zr ?_;rw[hr,He ae]
def I7:aj:=⟨2,12,[⟨2,none⟩],H0,(sq (rg [gb 5 s0,gb 5 s1,gm vx] [(3,0),(4,1),(2,2)]) (sq (sq (r1 [gk 5 true s3,gx 217 [l0] ha5,gno l1,gm l2,nX 3 (.ld 5 true s4),nX 3 (.call 217 [l4] ha5),nX 3 (.un .not l5),HY l3 l6] 5 7) (.cond s5 (sq (r1 [gm vx] 2 0) .ret) .skip)) (sq (sq (r1 [gf 0 s3,gd l0,gf 0 s4,gd l2,gx 630 [l1,l3] pw,gm l4] 6 5) (sq (r1 [gm s6,mX l0 vx] 7 1) (.cond s7 (sq (r1 [gm s6,gm l0] 2 1) .ret) .skip))) (sq (sq (r1 [gf 1 s3,gd l0,gf 1 s4,gd l2,gx 630 [l1,l3] pw,gm l4] 8 5) (sq (r1 [gm s8,mX l0 vx] 9 1) (.cond s9 (sq (r1 [gm s8,gm l0] 2 1) .ret) .skip))) (sq (sq (r1 [gf 2 s3,gd l0,gf 2 s4,gd l2,gx 630 [l1,l3] pw,gm l4] 10 5) (sq (r1 [gm TE,mX l0 vx] 11 1) (.cond s11 (sq (r1 [gm TE,gm l0] 2 1) .ret) .skip))) (sq (r1 [gf 3 s3,gd l0,gf 3 s4,gd l2,gx 631 [l1,l3] pw,gm l4] 2 5) .ret))))))⟩
def w424 (hm:(Y.at 0).bU)(hA:Cw Y)(hB:WO Y)(hC:C631 Y):uu (ct Y I7):=λa b hp0=>by
 refine zg ?_;refine aQ (λhc0=>?_) (λhc0=>?_)
 .simp only[dk,b8]at hc0;refine zr ?_;unfold iO;rw[ak hc0]
 simp only[eg,cF]at hc0;have hv:¬(gN a=false\/gN b=false):=by simp only[not_or,Bool.not_eq_false];first|exact hc0|exact hc0.1
 refine zc ?_ ?_<;>intro hc1
 .refine zr ?_;unfold iO;rw[ah hv,ak hc1]
 refine zc ?_ ?_<;>intro hc2
 .refine zr ?_;unfold iO;rw[ah hv,ah oY,ak hc2]
 refine zc ?_ ?_<;>intro hc3
 .refine zr ?_;unfold iO;rw[ah hv,ah oY,ah (by simpa using hc2),ak hc3]
 refine kv ?_;refine aE (hc:=hC a.pre b.pre ⟨hp0.1.1,hp0.2.1⟩) ?_;refine zr ?_;unfold iO;rw[ah hv,ah oY,ah (by simpa using hc2),ah yX]
def N0:aj:=bd 154
def w830:K3 (ct Y N0):=λod u n hp0=>by
 refine c9 ?_;obtain⟨⟨⟨hu0,hu1⟩,hn⟩,hol⟩:=hp0;refine zg ?_;intro u0;refine rE hm (ι:=Unit) (λ_=>[⟨true,.sl 1 ((od).map jW)⟩,⟨true,.int .i64 u⟩,⟨true,.int .i64 (n:Nat)⟩,.un,.un,⟨true,.own 0 1 0 (cU od u).length⟩,.un,.un,.un,.un,.un,.un]) (λ_=>[(0,.buf 1 ((cU od u).map (D.int .i64)))]) 100 (λ_=>True) ?_ ?_
 .refine B5 ?_ ?_<;>intro hc0
  .refine c9 ?_;have hou:=alw (od:=od) (u:=u) ae;rw[hou]at hol;refine j7 ?_;refine zL (he:=n9.sl) (n:=od[u.toNat]!.length) (hn:=aJ) (hb:=ae) ?_;refine zg ?_;rw[hou];exact⟨(),trivial,(a8.to [(11,0)] ai ai eQ (by repeat(first|exact bB.nil|refine bB.By ai ai eo ?_|refine bB.OW ai ai ai ?_|refine bB.OX ai ai ai ai ?_|refine bB.nl 11 ai ai ai eo ?_)))⟩
  refine zg ?_;rw[alv (od:=od) (u:=u) ae];exact⟨(),trivial,(a8.to [] ai ai eQ (by repeat(first|exact bB.nil|refine bB.By ai ai eo ?_|refine bB.OW ai ai ai ?_|refine bB.OX ai ai ai ai ?_|refine bB.mt ai ai ai ai ?_)))⟩
 .rintro _-
  refine zg ?_;rw[show((n:Nat):Int) -1=((n:Nat):Int) -1-((0:Nat):Int)by omega];refine zf hm (λt=>[.m 1 od jW,.i u,.i n,.u 2,.o 0 1 (cK (cU od u) n t).length,.i (((n:Nat):Int) -1-((t:Nat):Int)),.u 5]) (λt=>[(0,.buf 1 ((cK (cU od u) n t).map (D.int .i64)))]) 103 (λt=>t<=n) (λt=>n-t) ae [(0,0)] ?_;intro t ht;have htl:=Oz (cU od u) n t;refine zc ?_ ?_<;>intro hc1
  .refine zg ?_;refine zf hm (λk=>[.m 1 od jW,.i u,.i n,.u 2,.o 0 1 (cK (cU od u) n t).length,.i (((n:Nat):Int) -1-((t:Nat):Int)),.u 1,.i k,.u 1,.e (.bool (pd (λk=>decide ((cK (cU od u) n t)[k]! =(((n:Nat):Int) -1-((t:Nat):Int)))) 0 k)),.u 1]) (λk=>[(0,.buf 1 ((cK (cU od u) n t).map (D.int .i64)))]) 107 (λk=>k<=(cK (cU od u) n t).length) (λk=>(cK (cU od u) n t).length-k) ae [(0,0)] ?_;intro k hk;refine zg ?_;intro _;refine dF ?_ ?_<;>intro hc2
   .refine qH ?_;refine ym (q:=D.int .i64) (xs:=(cK (cU od u) n t)) (v:=.int .i64 (cK (cU od u) n t)[k]!) (hi:=λ_=>ae) (hv:=λ_=>uT) ?_;refine zg ?_;rw[Yx ae];exact iw (k+1) [(0,0)]
   refine c7 ?_;obtain rfl:k=(cK (cU od u) n t).length:=ae;refine zc ?_ ?_<;>intro hc3
   .refine dR ?_;refine bm [.int .i64 (((n:Nat):Int) -1-((t:Nat):Int))] ?_;refine cQ (q:=D.int .i64) (xs:=(cK (cU od u) n t)) (e:=(((n:Nat):Int) -1-((t:Nat):Int))) (hb:=ae) ?_;refine zg ?_;rw[amv hc3,show(((n:Nat):Int) -1-((t:Nat):Int)) -1=((n:Nat):Int) -1-((t+1:Nat):Int)by omega];exact iw (t+1) [(116,0)]
   refine zg ?_;rw[amu hc3,show(((n:Nat):Int) -1-((t:Nat):Int)) -1=((n:Nat):Int) -1-((t+1:Nat):Int)by omega];exact iw (t+1) [(0,0)]
  refine c7 ?_;obtain rfl:t=n:=ae;refine bG 0 ?_;exact lL
def I6:aj:=bd 60
def w505 (hA:C692 Y)(hB:C693 Y)(hC:C694 Y)(m:kB)(od:Ο)(c:Δ)(hD:ago (Y.at 0) (FN c))(hp0:(xa m/\LB m c)/\y3 m od):wkk Y I6 (Qa (mM m od c)) [kB.D m,Ask.D ⟨[],od⟩,.sl 1 (c.map (D.int .i64))]:=by
 refine c9 ?_;obtain⟨⟨hmp,hcp⟩,hop⟩:=hp0;have hml:=hmp.1;have hcl:=hcp.1;refine zc ?_ ?_<;>intro hc0
 .refine zr ?_;rw[EJ hmp hop hcp,ak hc0];rfl
 refine zc ?_ ?_<;>intro hc1
 .refine zr ?_;rw[EJ hmp hop hcp,ah (by rw[hc0];decide),ak hc1];rfl
 refine F3 ?_;have hS:mM m od c=iV (λo=>mM m od (yj c o)) (eA m od c):=by rw[EJ hmp hop hcp,ah (by rw[hc0];decide),ah hc1]
 have hofl:=(ri hmp hop hcp).2;refine zg ?_;refine zf hm (λi=>[.u 2,.m 1 c (D.int .i64),.u 1,.p 0 3,.p 1 2,.u 3,.i i,.m 2 (eA m od c) ek.D,.u 4]) (λi=>[(0,.buf 3 [kB.D m]),(1,.buf 2 [Ask.D (⟨[],od⟩:Ask)])]) 30 (λi=>i<=(eA m od c).length/\mM m od c=iV (λo=>mM m od (yj c o)) ((eA m od c).drop i)) (λi=>(eA m od c).length-i) ⟨ae,hS⟩ [(0,0),(1,1)] ?_;rintro i ⟨hi,hr⟩;refine zg ?_;intro u0;refine dF ?_ ?_<;>intro hc2
 .refine dR ?_;have ho:=(ri hmp hop hcp).1 _ (aq (show i<(eA m od c).length by omega));have hput:=IG hcp ho;obtain⟨U,hU⟩:∃U:Nat,(eA m od c)[i]!.u=(U:Int):=⟨(eA m od c)[i]!.u.toNat,by have:=ho.1;omega⟩
  have hUl:U<c.length:=by have:=ho.1;omega
  refine c9 ?_;refine zL (he:=n9.sl) (n:=(yj c (eA m od c)[i]!).length) (hn:=by simp[yj]) (hb:=by rw[show(yj c (eA m od c)[i]!).length=c.length from List.length_set ..];omega) ?_;refine iz ?_;refine GQ U (hj:=λ_=>hU) (hb:=λ_=>by rw[show(yj c (eA m od c)[i]!).length=c.length from List.length_set ..];omega) ?_;refine sU ((yj c (eA m od c)[i]!).map (D.int .i64)) (hi:=by simp only[cG,bj];omega) (he:=by rw[cG,stI64 hUl,yj,hU,Int.toNat_natCast]) ?_;refine c9 ?_;refine bG 35 ?_;refine c9 ?_;refine mH (d:=kB.D m) ?_;refine mH (d:=Ask.D (⟨[],od⟩:Ask)) ?_;refine kv ?_;refine aaw (λbq hbq=>?_) (hs:=Ta _);refine zg ?_;refine wp_cond (λhc3=>?_) (λhc3=>?_)
  .have hbf:bq=false:=by revert hc3;cases bq<;>decide
   obtain⟨d,hsd⟩:=(wA hmp hop hput.1 hbq).2 hbf;rw[hsd];refine zr ?_;rw[hr,Pv ae hsd];rfl
  have hbt:bq=true:=by revert hc3;cases bq<;>decide
  have hsn:=(wA hmp hop hput.1 hbq).1 hbt;refine fX (i+1) [(0,0),(1,1)] ?_;rw[hr];exact Mb ae hsn
 refine zr ?_;rw[hr,Pu ae];rfl
def VR:aj:=⟨2,8,[⟨2,none⟩,⟨3,none⟩],[[.sl 2 [.a,.a]],[.a]],(sq (rg [gb 2 s1,gm (.c (.aO)),gm HO] [(5,0),(2,1),(3,2)]) (sq (r1 [gm vx] 4 0) (sq (.block 0 (.loop (sq (sq (r2 [gm s4,gm s0,gl l1,kj l0 l2,gm l3,gmt 4 s0,gmt 4 s4,AB 4 (.ia 2 l5 l6),OV 4 0 l7,Yr 4 l8,OV 4 0 s5,Yr 4 l10,AB 4 (agA l9 Wy),Yq l4 l12] 6 13) (UT s6 0)) (.block 1 (r1 [gm s4,lS l0 Mq,gm l1] 4 2))))) (sq (sq (r2 [gm s4,gm s0,gl l1,kj l0 l2,gm l3,gmt 4 s0,gmt 4 s4,AB 4 (.ia 2 l5 l6),OV 4 0 l7,Yr 4 l8,OV 4 0 s5,Yr 4 l10,AB 4 (An l9 Wy),Yq l4 l12] 7 13) (.cond s7 (sq (rt [gm s0,gm s0,gm s4,ga 2 l1 l2,gk 2 true l3,gk 2 true s5,gn (.eqA false true [.s,.s] l4 l5),gm l0,gm l6] [(2,7),(3,8)]) .ret) .skip)) (sq (rt [gm s0,gm s4,gn (.slA 2 l0 none (some l1)),gn (.appN 2 l2),gk 2 true s5,gn (.bsl 2 (.agg [.str [],.str []]) 1 [(0,l4)]),gn (.app 2 l3 l5),gm s0,gm s4,gn (.slA 2 l7 (some l8) none),gn (.app 2 l6 l9),gm l10,gm cbT] [(2,11),(3,12)]) .ret)))))⟩
def w581:Ky (ct Y VR):=λl p hp0=>by
 refine zg ?_;refine zf hm (λi=>[.m 2 l gY.D,.u 3,.i i,.p 0 2,.u 2]) (λi=>[(0,.buf 2 [gY.D p])]) 4 (λi=>i<=l.length/\lX.kPin l p 0=lX.kPin l p i) (λi=>l.length-i) ⟨ae,rfl⟩ [(0,0)] ?_;rintro i ⟨hi,hr⟩;refine zc ?_ ?_<;>intro hc0
 .refine fX (i+1) [(0,0)] ?_;rw[hr,Ve ae hc0.2]
 refine fA ?_;have hk:lX.kPin l p 0=i:=by rw[hr];exact Vf (λh=>by rcases hc0 with h1|h1;omega;exact h1)
 refine zc ?_ ?_<;>intro hc1
 .refine zr ?_;unfold lX;rw[hk,ak ⟨ae,hc1.2⟩];rfl
 refine j7 ?_;refine Cl (he:=n9.sl) (n:=(l.take i).length) (hn:=aJ) (hb:=Ak) ?_;refine c9 ?_;refine bm [gY.D p] ?_;refine cQ (q:=gY.D) (xs:=l.take i) (e:=p) (hb:=Ak) ?_;refine dR ?_;refine pO (xs:=l.take i++[p]) (ys:=l.drop i) (he:=n9.sl) (hb:=RJ) ?_;refine dR ?_;refine bG 42 ?_;refine zr ?_;unfold lX;rw[hk,ah Ug];rfl
def QF:aj:=bd 122
def w754 (hA:C903 Y)(hB:C907 Y)(hC:C908 Y):KW (ct Y QF):=λall r e hp0=>by
 refine c9 ?_;have hbl:=hp0.1.1.2.1.2;refine zg ?_;refine zf hm (λi=>[.m 2 all Key.D,.u 3,.i i,.p 1 9,.u 2,.p 2 3,.u 1,.o 0 3 (((r.bars.take i).flatMap (pJ all e))).length]) (λi=>[(0,.buf 3 ((((r.bars.take i).flatMap (pJ all e))).map Want.D)),(1,.buf 9 [Rec.D r]),(2,.buf 3 [Env.D e])]) 5 (λi=>i<=r.bars.length) (λi=>r.bars.length-i) ae [(0,1),(1,2)] ?_;intro i hi;have hol:=UE all e r.bars i;refine zg ?_;intro u0;refine dF ?_ ?_<;>intro hc0
 .refine se ?_;refine bc (Key.D ⟨r.bars[i]!.name,[]⟩) ?_;refine iz ?_;refine ca (hc:=λhf=>hB ((r.bars)[i]!.when') (e) acr) ?_;refine zc ?_ ?_<;>intro hc1
  .refine yZ ?_;refine aE (hc:=hC ((r.bars)[i]!.range) acr) ?_;refine bc (Want.D (⟨cz all ⟨r.bars[i]!.name,[]⟩,eY r.bars[i]!.range⟩:Want)) ?_;refine bm [Want.D (⟨cz all ⟨r.bars[i]!.name,[]⟩,eY r.bars[i]!.range⟩:Want)] ?_;refine cQ (q:=Want.D) (xs:=((r.bars.take i).flatMap (pJ all e))) (e:=(⟨cz all ⟨r.bars[i]!.name,[]⟩,eY r.bars[i]!.range⟩:Want)) (hb:=ae) ?_;refine zg ?_;rw[<-aiK hc1,R4 ae];exact iw (i+1) [(43,0),(1,1),(2,2)]
  refine zg ?_;rw[show((r.bars.take i).flatMap (pJ all e))=(r.bars.take (i+1)).flatMap (pJ all e)from by rw[<-R4 ae,aiJ hc1,gw]];exact iw (i+1) [(0,0),(1,1),(2,2)]
 refine c7 ?_;obtain rfl:i=r.bars.length:=ae;rw[List.take_length];refine bG 0 ?_;exact lL
def NI:aj:=bd 26
def w136 (hm:(Y.at 0).bU)(hA:C71 Y)(hB:C344 Y)(hC:C345 Y):Jz (ct Y NI):=λm hp0=>by
 refine yZ ?_;refine aE (hc:=hA m.r hp0.1) ?_;refine zg ?_;refine aQ (λhc0=>?_) (λhc0=>?_)
 .simp only[gR]at hc0;refine zg ?_;refine fQ (bZ (ay (D.int .i64) ?_) (ay (D.int .i64) ?_));all_goals rw[XF hc0]
 simp only[gR]at hc0;have q0:¬¬(c8 m.r).1=0:=λh=>h hc0
 refine zg ?_;intro u0;refine aQ (λhc1=>?_) (λhc1=>?_)
 .simp only[gR]at hc1;have hz:=XD q0 ae;refine zg ?_;refine fQ (bZ (ay (D.int .i64) ?_) (ay (D.int .i64) ?_));all_goals rw[hz]
 simp only[gR]at hc1;have q1:¬(8<m.ps.length\/8<m.hs.length):=ae;refine zg ?_;refine aQ (λhc2=>?_) (λhc2=>?_)
 .simp only[gR]at hc2;have hz:=XE q0 q1 rfl hc2;refine zg ?_;refine fQ (bZ (ay (D.int .i64) ?_) (ay (D.int .i64) ?_));all_goals rw[hz]
 simp only[gR]at hc2;have hz:=XC q0 q1 hc2 rfl;refine fA ?_;refine aE (hc:=hC m.hs hp0.2) ?_;refine zg ?_;refine fQ (bZ (ay (D.int .i64) ?_) (ay (D.int .i64) ?_));all_goals rw[hz]
def N2:aj:=bd 16
def w594:Kz (ct Y N2):=λl hp0=>by
 show dD _ _ _ [⟨_,_⟩,_,_,_,_,_,_] _;have hsz:=hp0.1;refine aS ?_;refine zg ?_;refine zf hm (λi=>[.u 2,.i i,.p 0 4,.u 2,.o 1 6 (eU (l.lines.take i)).length]) (λi=>[(0,.buf 4 [j8.D l]),(1,.buf 6 ((eU (l.lines.take i)).map Kp.D))]) 4 (λi=>i<=l.lines.length) (λi=>l.lines.length-i) ae [(0,0)] ?_;intro i hi;have hk:=Vg (l.lines.take i);simp only[eE]at hk;refine zg ?_;intro u0;refine dF ?_ ?_<;>intro hc0
 .refine zc ?_ ?_<;>intro hc1
  .refine iz ?_;refine bc (Kp.D ⟨l.lines[i]!.name,l.lines[i]!.v⟩) ?_;refine bm [Kp.D _] ?_;refine zg ?_;have hq:=Ax l.lines i ae;rw[ah hc1]at hq;rw[<-hq];exact iw (i+1) [(0,0),(31,1)]
  refine zg ?_;have hq:=Ax l.lines i ae;rw[ak hc1,gw]at hq;rw[<-hq];exact iw (i+1) [(0,0),(1,1)]
 refine kv ?_;refine bG 1 ?_;refine zr ?_;have ht:l.lines.take i=l.lines:=gG ae;rw[ht];exact rfl
def BP:aj:=bd 50
def w310 (hA:C311 Y):JT (ct Y BP):=λa b=>by
 refine zg ?_;intro u0 u1;refine dF ?_ ?_<;>intro hc0
 .refine zr ?_;symm;rw[bR];rintro rfl;simp at hc0
 refine zg ?_;have hb:=oP (show a.length=b.length by omega);refine zf hm (λi=>[.m 9 a dI.D,.m 9 b dI.D,.u 2,.i i,.u 2]) (λi=>[]) 7 (λi=>i<=a.length/\decide (a=b)=bK (λi=>decide (a[i]! =b[i]!)) i a.length) (λi=>a.length-i) ⟨ae,hb⟩ [] ?_;rintro i ⟨hi,hr⟩;refine zg ?_;intro u2;refine dF ?_ ?_<;>intro hc1
 .refine zg ?_;refine wp_cond (λhc2=>?_) (λhc2=>?_)
  .simp only[b8,bR]at hc2;refine zr ?_;rw[hr,ax ae,bA hc2];rfl
  simp only[cF,aT]at hc2;refine fX (i+1) [] ?_;rw[hr,ax ae,aY hc2];rfl
 refine zr ?_;rw[hr,bp ae]
def NY:aj:=bd 202
def w416 (hm:(Y.at 0).bU):J7 (ct Y NY):=λc x hp0=>by
 refine j7 ?_;obtain⟨j,hj⟩:∃j:Nat,x.u=(j:Int):=⟨x.u.toNat,by have:=hp0.1;omega⟩
 obtain⟨hjl,hj30⟩:=hp0;rw[hj,Int.toNat_natCast]at hj30;refine iz ?_;refine rU (c[j]!) (hb:=λhf=>by have hf:0<=c[j]! :=Ls;rw[IntKind.wrap_u64];omega) ?_;refine GR (2^(c[j]!.toNat+1)) (hn:=λhf=>wU) (hb:=λhf=>by have hf:0<=c[j]! :=Ls;exact EE (n:=c[j]!.toNat) ae ae) ?_;refine D0 (HL x.m (2^(c[j]!.toNat+1))) (hb:=λ_=>rfl) ?_;refine zr ?_;unfold DH;rw[hj,Int.toNat_natCast];simp
def ML:aj:=bd 9
def w92 (hm:(Y.at 0).bU)(hA:C270 Y):RA (ct Y ML):=λshop e w c hp0=>by
 refine Fa ?_;refine c9 ?_;refine cE _ ?_;refine kv ?_;refine cE _ ?_;exact lL
end Go.Abs
end
