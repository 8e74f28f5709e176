/- A part of the proofs. -/
import Derived.Test.YtkllcniplomebaaGreatDoorP09
set_option linter.all false
set_option maxRecDepth 60000
set_option maxHeartbeats 2000000
noncomputable section
namespace Go.Abs
variable {Y:Ctx}(hm:(Y.at 0).bN)
def sG:aj:=bd 18
def w110 (hm:(Y.at 1).bN)(hA:G9 (Y.at 1))(hC:C135 (Y.at 1))(hD:C296 (Y.at 1))(hE:C297 (Y.at 1))(hG:C298 (Y.at 1))(g:Gs)(nm:av)(v:bO)(most:Int)(hp0:0<=g.i/\g.i<=970000)(hp1:0<=most/\most<=100):dk (Y.at 1) sG.body (E5 sG 2 (Rec.D (pw g nm v most).1) (Gs.D (pw g nm v most).2):Ex->List aY->St->Prop) (fP sG (.ptr 0 2 0 0::[.str nm,bO.D v,.int .i64 most])) ⟨1,[(0,.buf 2 [(Gs.D g)])]⟩:=by
 show dk _ _ _ [⟨true,.ptr 0 2 0 0⟩,⟨true,.str nm⟩,⟨true,bO.D v⟩,⟨true,.int .i64 most⟩,.un,.un,.un,.un,.un,.un,.un] ⟨1,[(0,.buf 2 [(Gs.D g)])]⟩;refine ax ?_;refine jX ?_;refine cq [.str nm,.int .i64 v.major,.int .i64 v.minor,.int .i64 v.patch,.str v.pre,.str v.build,.aR,.aR,.aR] ?_;refine k9 ?_;have rn:=(g.S8 (most+1)).1 ae;refine dt ?_;refine cN (hc:=hA g (most+1) ae iC) ?_;refine zg ?_;refine gG hm (ι:=Nat) (λi=>[⟨true,.ptr 0 2 0 0⟩,⟨true,.str nm⟩,.un,.un,⟨true,.ptr 2 9 0 0⟩,.un,⟨true,.int .i64 ((g.val (most+1)) -((i:Nat):Int))⟩,.un,⟨true,.ptr 3 9 0 0⟩,.un,.un]) (λi=>[(0,.buf 2 [Gs.D (nS nm g.aI i).2]),(1,.buf 5 [bO.D v]),(2,.buf 9 [.agg [.str [],.int .i64 0,.int .i64 0,.int .i64 0,.str [],.str [],.aR,.aR,.aR]]),(3,.buf 9 [.agg [.str nm,.int .i64 v.major,.int .i64 v.minor,.int .i64 v.patch,.str v.pre,.str v.build,.own 4 3 0 (nS nm g.aI i).1.length,.aR,.aR]]),(4,.buf 3 ((nS nm g.aI i).1.map bp.D))]) 13 (λi=>i<=(g.val (most+1)).toNat) (λi=>(g.val (most+1)).toNat-i) 0 ae (aZ.to [(2,2),(6,3),(1,1)] ah ah KU (by refine bn.nl 0 ah ah ah dL ?_;refine bn.nl 1 ah ah ah dL ?_;refine bn.nl 2 ah ah ah dL ?_;refine bn.ni 6 ah ah (by exact⟨_,_,rfl,⟨_,rfl,⟨_,_,rfl,⟨rfl,rfl⟩,⟨_,_,rfl,⟨rfl,rfl⟩,⟨_,_,rfl,⟨rfl,rfl⟩,⟨_,_,rfl,⟨rfl,rfl⟩,⟨_,_,rfl,⟨rfl,rfl⟩,⟨_,_,rfl,⟨rfl,rfl⟩,⟨_,_,rfl,Or.inr ⟨_,_,_,rfl⟩,⟨_,_,rfl,Or.inl rfl,⟨_,_,rfl,Or.inl rfl,rfl⟩⟩⟩⟩⟩⟩⟩⟩⟩⟩,rfl⟩) ?_;refine bn.mt ah ah ah ah ?_;exact bn.nil)) ?_;intro i hi;have hns:=xr nm g.aI i;have hnt:=Sk (nS nm g.aI i).2 nm;have hlen:=hns.2;obtain⟨hn1,hn2⟩:=hns.1;obtain⟨hn3,hn4⟩:=hnt;rw[Gs.YT]at hn1 hn2;refine zc ?_ ?_<;>intro hc0
 .refine fw ?_;refine zq (v:=.own 4 3 0 (nS nm g.aI i).1.length) ?_;refine cU ?_;refine cN (hc:=hD (nS nm g.aI i).2 nm ae) ?_;refine bj [bp.D (mr (nS nm g.aI i).2 nm).1] ?_;refine cR (q:=bp.D) (xs:=(nS nm g.aI i).1) (e:=(mr (nS nm g.aI i).2 nm).1) (hb:=ae) ?_;refine cY ?_;refine br (.agg [.str nm,.int .i64 v.major,.int .i64 v.minor,.int .i64 v.patch,.str v.pre,.str v.build,.own 21 3 0 (nS nm g.aI (i+1)).1.length,.aR,.aR]) (he:=cE) ?_;refine zg ?_;exact⟨i+1,ae,ae,(aZ.to [(1,1),(2,2),(3,3),(21,4)] ah ah KU (by refine bn.nl 0 ah ah ah dL ?_;refine bn.nl 1 ah ah ah dL ?_;refine bn.nl 2 ah ah ah dL ?_;refine bn.eq 3 ah ah ah ?_;refine bn.nl 21 ah ah ah dL ?_;exact bn.nil))⟩
 refine dt ?_;obtain rfl:i=(g.val (most+1)).toNat:=ae;have hbs:=Hg (nS nm g.aI (g.val (most+1)).toNat).2 nm;have hos:=xF (nS nm g.aI (g.val (most+1)).toNat).2.aI nm;have r8:=(cQ (nS nm g.aI (g.val (most+1)).toNat).2.aI nm).2.eP 8 ae;refine bD 4 (hn:=cb (λ_=>rfl) _) (he:=KR) (hm:=KR) ?_;refine EE [(0,.buf 2 [Gs.D (nS nm g.aI (g.val (most+1)).toNat).2]),(1,.buf 5 [bO.D v]),(2,.buf 9 [.agg [.str [],.int .i64 0,.int .i64 0,.int .i64 0,.str [],.str [],.aR,.aR,.aR]]),(3,.buf 9 [.agg [.str nm,.int .i64 v.major,.int .i64 v.minor,.int .i64 v.patch,.str v.pre,.str v.build,.sl 3 ((nS nm g.aI (g.val (most+1)).toNat).1.map bp.D),.sl 3 [],.sl 2 []]])] (.id ah (.id ah (.id ah (.bf ah (.cons (.ag (.cons (.refl _) (.cons (.refl _) (.cons (.refl _) (.cons (.refl _) (.cons (.refl _) (.cons (.refl _) (.cons (.refl _) (.cons (.nil 3) (.cons (.nil 2) .nil)))))))))) .nil) .nil)))) ?_;refine cU ?_;refine cN (hc:=hA (nS nm g.aI (g.val (most+1)).toNat).2 5 ae iC) ?_;refine zg ?_;refine rm hm (ι:=Unit) (λ_=>[⟨true,.ptr 0 2 0 0⟩,⟨true,.str nm⟩,.un,.un,⟨true,.ptr 2 9 0 0⟩,.un,.un,.un,⟨true,.ptr 3 9 0 0⟩,.un,.un]) (λ_=>[(0,.buf 2 [Gs.D (eE (nS nm g.aI (g.val (most+1)).toNat).2 nm).2]),(1,.buf 5 [bO.D v]),(2,.buf 9 [.agg [.str [],.int .i64 0,.int .i64 0,.int .i64 0,.str [],.str [],.aR,.aR,.aR]]),(3,.buf 9 [.agg [.str nm,.int .i64 v.major,.int .i64 v.minor,.int .i64 v.patch,.str v.pre,.str v.build,.sl 3 ((nS nm g.aI (g.val (most+1)).toNat).1.map bp.D),.sl 3 ((eE (nS nm g.aI (g.val (most+1)).toNat).2 nm).1.map mF.D),.sl 2 []]])]) 100 (λ_=>True) ?_ ?_
 .refine K5 ?_ ?_<;>intro hc1
  .refine dt ?_;refine cN (hc:=hE (nS nm g.aI (g.val (most+1)).toNat).2.aI nm KZ) ?_;refine fw ?_;intro u0;refine cN (hc:=hA (cQ (nS nm g.aI (g.val (most+1)).toNat).2.aI nm).2 8 ae iC) ?_;refine cC ((cQ (nS nm g.aI (g.val (most+1)).toNat).2.aI nm).2.val 8).toNat (hj:=λ_=>ae) (hb:=λ_=>uF) ?_;refine dm (v:=.str j4[((cQ (nS nm g.aI (g.val (most+1)).toNat).2.aI nm).2.val 8).toNat]!) (hi:=λ_=>uF) ?_;refine cq [.str (cQ (nS nm g.aI (g.val (most+1)).toNat).2.aI nm).1,.str j4[((cQ (nS nm g.aI (g.val (most+1)).toNat).2.aI nm).2.val 8).toNat]!,.str []] ?_;refine bj [mF.D ⟨(cQ (nS nm g.aI (g.val (most+1)).toNat).2.aI nm).1,j4[((cQ (nS nm g.aI (g.val (most+1)).toNat).2.aI nm).2.val 8).toNat]!,[]⟩] ?_;refine cY ?_;refine br (.agg [.str nm,.int .i64 v.major,.int .i64 v.minor,.int .i64 v.patch,.str v.pre,.str v.build,.sl 3 ((nS nm g.aI (g.val (most+1)).toNat).1.map bp.D),.own 29 3 0 1,.sl 2 []]) (he:=cE) ?_;refine zg ?_;have hB:(eE (nS nm g.aI (g.val (most+1)).toNat).2 nm)=([⟨(cQ (nS nm g.aI (g.val (most+1)).toNat).2.aI nm).1,j4[((cQ (nS nm g.aI (g.val (most+1)).toNat).2.aI nm).2.val 8).toNat]!,[]⟩],(cQ (nS nm g.aI (g.val (most+1)).toNat).2.aI nm).2.aI):=ak hc1;rw[hB];exact⟨(),trivial,(aZ.fz 29 ah dL M0 M0 (aZ.to [(1,1),(2,2),(3,3)] ah ah fK abl))⟩
  refine zg ?_;have hB:(eE (nS nm g.aI (g.val (most+1)).toNat).2 nm)=([],(nS nm g.aI (g.val (most+1)).toNat).2.aI):=ai hc1;rw[hB];exact⟨(),trivial,(aZ.to [(1,1),(2,2),(3,3)] ah ah fK abl)⟩
 .rintro _-
  have hfs:=Hs (eE (nS nm g.aI (g.val (most+1)).toNat).2 nm).2 (nS nm g.aI (g.val (most+1)).toNat).1;refine dt ?_;refine cN (hc:=hA (eE (nS nm g.aI (g.val (most+1)).toNat).2 nm).2 2 ae iC) ?_;refine zc ?_ ?_<;>intro hc2
  .refine cY ?_;have hF:(lu (eE (nS nm g.aI (g.val (most+1)).toNat).2 nm).2 (nS nm g.aI (g.val (most+1)).toNat).1)=([(mV (eE (nS nm g.aI (g.val (most+1)).toNat).2 nm).2.aI (nS nm g.aI (g.val (most+1)).toNat).1).1],(mV (eE (nS nm g.aI (g.val (most+1)).toNat).2 nm).2.aI (nS nm g.aI (g.val (most+1)).toNat).1).2):=ak hc2;refine dt ?_;refine cN (hc:=hG (eE (nS nm g.aI (g.val (most+1)).toNat).2 nm).2.aI (nS nm g.aI (g.val (most+1)).toNat).1 KZ ⟨Se nm g.aI _,ae⟩) ?_;refine bj [bY.D (mV (eE (nS nm g.aI (g.val (most+1)).toNat).2 nm).2.aI (nS nm g.aI (g.val (most+1)).toNat).1).1] ?_;refine cY ?_;refine br (.agg [.str nm,.int .i64 v.major,.int .i64 v.minor,.int .i64 v.patch,.str v.pre,.str v.build,.sl 3 ((nS nm g.aI (g.val (most+1)).toNat).1.map bp.D),.sl 3 ((eE (nS nm g.aI (g.val (most+1)).toNat).2 nm).1.map mF.D),.own 107 2 0 1]) (he:=cE) ?_;refine k9 ?_;refine bD 107 ?_;refine zg ?_;refine gO trivial Fx (dY ah (?_)) abd ah ah;rw[show pw g nm v most=(⟨nm,v,(nS nm g.aI (g.val (most+1)).toNat).1,(eE (nS nm g.aI (g.val (most+1)).toNat).2 nm).1,(lu (eE (nS nm g.aI (g.val (most+1)).toNat).2 nm).2 (nS nm g.aI (g.val (most+1)).toNat).1).1⟩,(lu (eE (nS nm g.aI (g.val (most+1)).toNat).2 nm).2 (nS nm g.aI (g.val (most+1)).toNat).1).2)from rfl,hF];rfl
  refine cY ?_;have hF:(lu (eE (nS nm g.aI (g.val (most+1)).toNat).2 nm).2 (nS nm g.aI (g.val (most+1)).toNat).1)=([],(eE (nS nm g.aI (g.val (most+1)).toNat).2 nm).2.aI):=ai hc2;refine zg ?_;refine gO trivial Fx (dY ah (?_)) abd ah ah;rw[show pw g nm v most=(⟨nm,v,(nS nm g.aI (g.val (most+1)).toNat).1,(eE (nS nm g.aI (g.val (most+1)).toNat).2 nm).1,(lu (eE (nS nm g.aI (g.val (most+1)).toNat).2 nm).2 (nS nm g.aI (g.val (most+1)).toNat).1).1⟩,(lu (eE (nS nm g.aI (g.val (most+1)).toNat).2 nm).2 (nS nm g.aI (g.val (most+1)).toNat).1).2)from rfl,hF];rfl
def acQ:aj:=⟨1,5,re1,Pa,(sq (rg [gb 7 s0,gm OS] [(2,0),(1,1)]) (sq (sq (r1 [gf 0 s2,gd l0,gn (sa l1 (.c (.int .i64 (-1)))),gm l2,gff 3 0 s2,gdf 3 l4,uW 3 (sa l5 R2),T7 l3 l6] 3 7) (.cond s3 (sq (r1 [gf 1 s2,gk 5 true l0,gn (.build [.int .i64 0,.int .i64 0,.int .i64 0,.str [],.str []] []),gn (.eqA false true [.i .i64,.i .i64,.i .i64,.s,.s] l1 l2),gm l3,uV 4 6 s2,LZ 4 l5,rI 4 (.un .not l6),K7 l4 l7,gm l8] 1 9) .ret) (sq (r1 [gf 0 s2,gd l0,sJ l1 yW] 4 2) (gcr s4 OS)))) (sq (r1 [gf 1 s2,gk 5 true l0,gx 209 [l1] ha5,gm l2,uV 3 1 s2,uV 3 4 l4,LZ 3 l5,rI 3 (sa l6 cse),K7 l3 l7,gm l8] 1 9) .ret)))⟩
def w1087 (hm:(Y.at 0).bN)(hA:yB Y):qv (cn Y acQ):=λc hp0=>by
 refine zc ?_ ?_<;>intro hc0
 .refine fw ?_;refine aV (bO.D (⟨0,0,0,[],[]⟩)) ?_;refine zr ?_;first|(grind [pO,zV];done)|(simp_all[pO,zV];done)
 refine zc ?_ ?_<;>intro hc1
 .refine zr ?_;first|(grind [pO,zV];done)|(simp_all[pO,zV];done)
 refine zr ?_;first|(grind [pO,zV];done)|(simp_all[pO,zV];done)
def LD:aj:=bd 267
def w1024 (hm:(Y.at 0).bN)(hA:V0 Y)(hB:C532 Y)(hC:Rp Y):qt (cn Y LD):=λa b hp0=>by
 refine zc ?_ ?_<;>intro hc0
 .refine zr ?_;first|(grind [lg,dn];done)|(simp_all[lg,dn];done)
 refine zc ?_ ?_<;>intro hc1
 .refine zr ?_;first|(grind [lg,dn];done)|(simp_all[lg,dn];done)
 refine zc ?_ ?_<;>intro hc2
 .refine zr ?_;first|(grind [lg,dn];done)|(simp_all[lg,dn];done)
 refine zc ?_ ?_<;>intro hc3
 .refine zr ?_;first|(grind [lg,dn];done)|(simp_all[lg,dn];done)
 refine zc ?_ ?_<;>intro hc4
 .refine zr ?_;first|(grind [lg,dn];done)|(simp_all[lg,dn];done)
 refine zr ?_;first|(grind [lg,dn];done)|(simp_all[lg,dn];done)
def TX:aj:=bd 311
def w1055 (hm:(Y.at 0).bN)(hA:yB Y)(hB:V0 Y)(hC:Rp Y):qu (cn Y TX):=λc v hp0=>by
 refine zc ?_ ?_<;>intro hc0
 .refine zr ?_;first|(grind [jY];done)|(simp_all[jY];done)
 refine zc ?_ ?_<;>intro hc1
 .refine zr ?_;first|(grind [jY];done)|(simp_all[jY];done)
 refine zr ?_;first|(grind [jY];done)|(simp_all[jY];done)
def LF:aj:=bd 266
def w1023 (hm:(Y.at 0).bN)(hA:VX Y)(hB:Rp Y):qq (cn Y LF):=λs hp0=>by
 refine ru ?_;refine aD (hc:=hB (s.f) jD) ?_;refine dt ?_;refine bX (hc:=λhf=>hB (s.t) jD) ?_;refine zr ?_;first|(grind [qf];done)|(simp_all[qf];done)
def TY:aj:=bd 274
def w980 (hm:(Y.at 0).bN)(hA:yB Y)(hB:VW Y)(hC:afp Y):uB (cn Y TY):=λs v hp0=>by
 refine IY ?_;refine cY ?_;refine bX (hc:=λhf=>hC (s.f) (v) jD) ?_;refine k9 ?_;refine bX (hc:=λhf=>hC (s.t) (v) jD) ?_;refine zr ?_;first|(grind [sC,qf];done)|(simp_all[sC,qf];done)
def aeM:aj:=bd 224
def w925 (hA:VW Y)(hB:VX Y):uA (cn Y aeM):=λl hp0=>by
 refine zg ?_;intro u0;refine zf hm (λi=>[.m 14 l Span.D,.u 1,.i i,.i l.length,.u 1,.m 14 l Span.D,.u 3]) (λi=>[]) 4 (λi=>i<=l.length/\sX l=bI (Bv l) i l.length) (λi=>l.length-i) ⟨ae,rfl⟩ [] ?_;rintro i ⟨hi,hr⟩;refine zc ?_ ?_<;>intro hc0
 .refine EH ?_;refine aD (hc:=hA ((l)[i]!) jD) ?_;refine pz ?_;refine cC ((i-1)) (hj:=λhf=>ct) (hb:=λhf=>ct) ?_;refine fw ?_;refine bX (hc:=λhf=>hB ((l)[(i-1)]!.t) ((l)[i]!.f) jD) ?_;refine zc ?_ ?_<;>intro hc1
  .refine zr ?_;rw[hr,ay ae];first|(grind [Bv];done)|(simp_all[Bv];done)
  refine fM (i+1) [] ?_;rw[hr,ay ae];first|(grind [Bv];done)|(simp_all[Bv];done)
 refine zr ?_;rw[hr,bA ae]
def aeL:aj:=bd 227
def w861 (hA:C925 Y)(hB:C980 Y):uz (cn Y aeL):=λl v hp0=>by
 refine zc ?_ ?_<;>intro hc0
 .refine zr ?_;unfold v7;simp_all
 refine zg ?_;intro u0;refine zf hm (λi=>[.m 14 l Span.D,.u 3,.i i,.i l.length,.u 1,.m 14 l Span.D,.u 1,.p 0 5,.u 1]) (λi=>[(0,.buf 5 [bO.D v])]) 8 (λi=>i<=l.length/\v7 l v=o8 (λi=>sC l[i]! v) i l.length) (λi=>l.length-i) ⟨ae,by unfold v7;rw[show sX l=true by simpa using hc0];rfl⟩ [(0,0)] ?_;rintro i ⟨hi,hr⟩;refine zc ?_ ?_<;>intro hc1
 .refine Ov ?_;refine aD (hc:=hB ((l)[i]!) (v) jD) ?_;refine zc ?_ ?_<;>intro hc2
  .refine zr ?_;rw[hr,lR ae];simp_all
  refine fM (i+1) [(0,0)] ?_;rw[hr,lR ae];simp_all
 refine zr ?_;rw[hr,wG ae]
def NU:aj:=⟨1,3,re1,Pa,(sq (rg [gb 7 s0,gm OS] [(2,0),(1,1)]) (sq (r1 [gf 0 s2,gd l0,sJ l1 yW,gm l2,gff 3 6 s2,gdf 3 l4,uW 3 (.un .not l5),gmf 3 l6,uV 7 1 s2,uV 7 3 l8,LZ 7 l9,rI 7 (sa l10 cse),gaf 3 l7 R5,gmf 3 Yk,uV 13 1 s2,rI 13 (.ld 5 true l14),rI 13 (.mv (.c (.agg [.int .i64 0,.int .i64 0,.int .i64 0,.str [],.str []]))),rI 13 (.eqA true true [.i .i64,.i .i64,.i .i64,.s,.s] l15 l16),gaf 3 l13 l17,T7 l3 l18,gm l19] 1 20) .ret))⟩
def w924 (hm:(Y.at 0).bN):KI (cn Y NU):=λc=>by
 refine IY ?_;refine jX ?_;refine aW (d:=bO.D zV) ?_;refine zr ?_;first|(grind [rR,zV];done)|(simp_all[rR,zV];done)
def aeT:aj:=bd 179
def w780 (hA:C924 Y)(hB:C925 Y):uy (cn Y aeT):=λs hp0=>by
 refine zg ?_;intro u0;refine zf hm (λi=>[.u 2,.p 0 2,.i i,.i s.rel.length,.u 1,.m 14 s.rel Span.D,.u 2]) (λi=>[(0,.buf 2 [cu.D s])]) 6 (λi=>i<=s.rel.length/\wc s=(bI (λi=>rR s.rel[i]!.f&&rR s.rel[i]!.t) i s.rel.length&&(sX s.rel&&sX s.pr))) (λi=>s.rel.length-i) ⟨ae,(aeP s).symm⟩ [(0,0)] ?_;rintro i ⟨hi,hr⟩;refine zc ?_ ?_<;>intro hc0
 .refine zc ?_ ?_<;>intro hc1
  .refine zr ?_;rw[hr,ay ae];rcases hc1 with h|h<;>simp only[h,Bool.and_false,Bool.false_and]
  refine fM (i+1) [(0,0)] ?_;rw[hr,ay ae];simp_all
 refine k9 ?_;refine aD (hc:=hB (s.rel) jD) ?_;refine dt ?_;refine bX (hc:=λhf=>hB (s.pr) jD) ?_;refine zr ?_;rw[hr,bA ae];simp
def aeS:aj:=bd 181
def w712 (hm:(Y.at 0).bN)(hA:yB Y)(hB:C780 Y)(hC:C861 Y):uu (cn Y aeS):=λs v hp0=>by
 refine zc ?_ ?_<;>intro hc0
 .refine zr ?_;first|(grind [pe];done)|(simp_all[pe];done)
 refine zc ?_ ?_<;>intro hc1
 .refine k9 ?_;refine aD (hc:=hC (s.rel) (v) jD) ?_;refine zr ?_;first|(grind [pe];done)|(simp_all[pe];done)
 refine k9 ?_;refine aD (hc:=hC (s.pr) (v) jD) ?_;refine zr ?_;first|(grind [pe];done)|(simp_all[pe];done)
def Z6:aj:=⟨1,4,re1,Pa,(sq (rg [gb 7 s0,gm OS] [(2,0),(1,1)]) (sq (sq (r1 [gf 0 s2,gd l0,sI l1 yW] 3 2) (.cond s3 (sq (r1 [gf 1 s2,gk 5 true l0,gx 217 [l1] ha5,gm l2,uV 3 1 s2,uV 3 4 l4,LZ 3 l5,rI 3 (sa l6 cse),K7 l3 l7,gm l8] 1 9) .ret) .skip)) (sq (r1 [gf 0 s2,gd l0,gn (sa l1 (.c (.int .i64 (-1)))),gm l2,gff 3 0 s2,gdf 3 l4,uW 3 (sa l5 R2),T7 l3 l6,gm l7,uV 8 1 s2,rI 8 (.ld 5 true l9),rI 8 (.build [.int .i64 0,.int .i64 0,.int .i64 0,.str [],.str []] []),rI 8 (.eqA false true [.i .i64,.i .i64,.i .i64,.s,.s] l10 R5),K7 l8 Yk,gm l13,uV 14 6 s2,LZ 14 l15,rI 14 (.un .not l16),K7 l14 l17,gm l18] 1 19) .ret)))⟩
def w1086 (hm:(Y.at 0).bN)(hA:Ca Y):qv (cn Y Z6):=λc hp0=>by
 refine zc ?_ ?_<;>intro hc0
 .refine zr ?_;first|(grind [pO,zV];done)|(simp_all[pO,zV];done)
 refine EI ?_;refine aV (bO.D (⟨0,0,0,[],[]⟩)) ?_;refine zr ?_;first|(grind [pO,zV];done)|(simp_all[pO,zV];done)
def Iz:aj:=bd 300
def w1020 (hA:Tz Y)(hB:V3 Y)(hC:Ro Y):qt (cn Y Iz):=λa b hp0=>by
 refine zc ?_ ?_<;>intro hc0
 .refine zr ?_;first|(grind [lg,dn];done)|(simp_all[lg,dn];done)
 refine zc ?_ ?_<;>intro hc1
 .refine zr ?_;first|(grind [lg,dn];done)|(simp_all[lg,dn];done)
 refine zc ?_ ?_<;>intro hc2
 .refine zr ?_;first|(grind [lg,dn];done)|(simp_all[lg,dn];done)
 refine zc ?_ ?_<;>intro hc3
 .refine zr ?_;first|(grind [lg,dn];done)|(simp_all[lg,dn];done)
 refine zc ?_ ?_<;>intro hc4
 .refine zr ?_;first|(grind [lg,dn];done)|(simp_all[lg,dn];done)
 refine zr ?_;first|(grind [lg,dn];done)|(simp_all[lg,dn];done)
def QA:aj:=bd 301
def w1025 (hm:(Y.at 0).bN)(hA:Ca Y)(hB:Tz Y)(hC:Ro Y):qu (cn Y QA):=λc v hp0=>by
 refine zc ?_ ?_<;>intro hc0
 .refine zr ?_;first|(grind [jY];done)|(simp_all[jY];done)
 refine zc ?_ ?_<;>intro hc1
 .refine zr ?_;first|(grind [jY];done)|(simp_all[jY];done)
 refine zr ?_;first|(grind [jY];done)|(simp_all[jY];done)
def IA:aj:=bd 299
def w1019 (hm:(Y.at 0).bN)(hA:Rn Y)(hB:Ro Y):qq (cn Y IA):=λs hp0=>by
 refine ru ?_;refine aD (hc:=hB (s.f) jD) ?_;refine dt ?_;refine bX (hc:=λhf=>hB (s.t) jD) ?_;refine zr ?_;first|(grind [qf];done)|(simp_all[qf];done)
def QB:aj:=bd 265
def w926 (hm:(Y.at 0).bN)(hA:Ca Y)(hB:Lb Y)(hC:afo Y):uB (cn Y QB):=λs v hp0=>by
 refine IY ?_;refine cY ?_;refine bX (hc:=λhf=>hC (s.f) (v) jD) ?_;refine k9 ?_;refine bX (hc:=λhf=>hC (s.t) (v) jD) ?_;refine zr ?_;first|(grind [sC,qf];done)|(simp_all[sC,qf];done)
def Z8:aj:=bd 263
def w916 (hA:Lb Y)(hB:Rn Y):uA (cn Y Z8):=λl hp0=>by
 refine zg ?_;refine zf hm (λi=>[.m 14 l Span.D,.u 1,.i i,.u 2]) (λi=>[]) 2 (λi=>i<=l.length/\sX l=bI (Bv l) i l.length) (λi=>l.length-i) ⟨ae,rfl⟩ [] ?_;rintro i ⟨hi,hr⟩;refine zg ?_;intro u0;refine dT ?_ ?_<;>intro hc0
 .refine ru ?_;refine aD (hc:=hA ((l)[i]!) jD) ?_;refine pz ?_;refine cC ((i-1)) (hj:=λhf=>ct) (hb:=λhf=>ct) ?_;refine ru ?_;refine bX (hc:=λhf=>hB ((l)[(i-1)]!.t) ((l)[i]!.f) jD) ?_;refine zc ?_ ?_<;>intro hc1
  .refine zr ?_;rw[hr,ay ae];first|(grind [Bv];done)|(simp_all[Bv];done)
  refine fM (i+1) [] ?_;rw[hr,ay ae];first|(grind [Bv];done)|(simp_all[Bv];done)
 refine zr ?_;rw[hr,bA ae]
def Z7:aj:=bd 222
def w782 (hA:V7 Y)(hB:C926 Y):uz (cn Y Z7):=λl v hp0=>by
 refine zg ?_;refine zf hm (λi=>[.m 14 l Span.D,.u 2,.i i,.u 1,.p 0 5,.u 1]) (λi=>[(0,.buf 5 [bO.D v])]) 3 (λi=>i<=l.length/\v7 l v=(sX l&&o8 (λi=>sC l[i]! v) i l.length)) (λi=>l.length-i) ⟨ae,rfl⟩ [(0,0)] ?_;rintro i ⟨hi,hr⟩;refine zg ?_;intro u0;refine dT ?_ ?_<;>intro hc0
 .refine pz ?_;refine aD (hc:=hB ((l)[i]!) (v) jD) ?_;refine zc ?_ ?_<;>intro hc1
  .refine zr ?_;rw[hr,lR ae];simp_all
  refine fM (i+1) [(0,0)] ?_;rw[hr,lR ae];simp_all
 refine zr ?_;rw[hr];rcases hc0 with h|h
 .rw[wG ae];simp
 .rw[h];rfl
def QC:aj:=bd 286
def w600 (hm:(Y.at 0).bN):J4 (cn Y QC):=λv=>by
 refine zr ?_;first|(grind [vL];done)|(simp_all[vL];done)
def QD:aj:=bd 264
def w917 (hm:(Y.at 0).bN)(hA:C600 Y):KH (cn Y QD):=λc=>by
 refine zr ?_;first|(grind [mO];done)|(simp_all[mO];done)
def aaa:aj:=bd 221
def w770 (hA:V7 Y)(hB:C917 Y):uy (cn Y aaa):=λs hp0=>by
 refine pz ?_;refine aD (hc:=hA (s.rel) jD) ?_;refine fw ?_;refine bX (hc:=λhf=>hA (s.pr) jD) ?_;refine zc ?_ ?_<;>intro hc0
 .refine zr ?_;unfold wc;rcases hc0 with h|h<;>simp[h]
 refine zg ?_;refine zf hm (λi=>[.u 2,.p 0 2,.u 1,.i i,.u 2]) (λi=>[(0,.buf 2 [cu.D s])]) 13 (λi=>i<=s.rel.length/\wc s=bI (λi=>mO s.rel[i]!.f&&mO s.rel[i]!.t) i s.rel.length) (λi=>s.rel.length-i) ⟨ae,by unfold wc;simp_all⟩ [(0,0)] ?_;rintro i ⟨hi,hr⟩;refine zg ?_;intro u0;refine dT ?_ ?_<;>intro hc1
 .refine zc ?_ ?_<;>intro hc2
  .refine zr ?_;rw[hr,ay ae];rcases hc2 with h|h<;>simp only[h,Bool.and_false,Bool.false_and]
  refine fM (i+1) [(0,0)] ?_;rw[hr,ay ae];simp_all
 refine zr ?_;rw[hr,bA ae]
def Z9:aj:=bd 175
def w627 (hm:(Y.at 0).bN)(hA:Ca Y)(hB:V5 Y)(hC:C782 Y):uu (cn Y Z9):=λs v hp0=>by
 refine zc ?_ ?_<;>intro hc0
 .refine zr ?_;first|(grind [pe];done)|(simp_all[pe];done)
 refine zc ?_ ?_<;>intro hc1
 .refine k9 ?_;refine aD (hc:=hC (s.rel) (v) jD) ?_;refine zr ?_;first|(grind [pe];done)|(simp_all[pe];done)
 refine k9 ?_;refine aD (hc:=hC (s.pr) (v) jD) ?_;refine zr ?_;first|(grind [pe];done)|(simp_all[pe];done)
def On:aj:=bd 72
def w408 (hm:(Y.at 0).bN)(hA:C516 Y)(hB:C531 Y):Ju (cn Y On):=λa b=>by
 refine IY ?_;refine cY ?_;refine bj [.int .i64 (pN a.n b.n),.int .i64 (pN a.f b.f)] ?_;refine aD (hc:=hB [pN a.n b.n,pN a.f b.f]) (ha:=λ_=>ar (λd=>[d]) (lX (q:=D.int .i64) (xs:=[pN a.n b.n,pN a.f b.f]) (λ_=>rfl) ah)) (hp:=λ_=>⟨jT (q:=D.int .i64) (xs:=[pN a.n b.n,pN a.f b.f]) (λ_=>rfl) ah,trivial⟩) ?_;refine zr ?_;unfold H5;simp[fQ,sA];grind
def Oo:aj:=bd 127
def w622 (hA:C780 Y):J7 (cn Y Oo):=λl n hp0=>by
 refine zg ?_;intro u0;refine zf hm (λi=>[.u 1,.i n,.u 1,.i i,.i l.length,.u 1,.m 3 l Want.D,.u 2]) (λi=>[]) 4 (λi=>i<=l.length/\py n l=bI (λi=>td n l[i]!) i l.length) (λi=>l.length-i) ⟨ae,rfl⟩ [] ?_;rintro i ⟨hi,hr⟩;refine zc ?_ ?_<;>intro hc0
 .refine jX ?_;refine br _ ?_;refine jb ?_;refine bX (hc:=λhf=>hA _ ?_) ?_;rotate_left;first|assumption|omega|exact hp0 _ (aq ae)
  refine zc ?_ ?_<;>intro hc1
  .refine zr ?_;rw[hr,ay ae];simp only[td];grind
  refine fM (i+1) [] ?_;rw[hr,ay ae];simp only[td];grind
 refine zr ?_;rw[hr,bA ae]
def Qr:aj:=bd 298
def w778 (hm:(Y.at 0).bN)(hA:V5 Y):Ku (cn Y Qr):=λw n hp0=>by
 refine zr ?_;first|(grind [td];done)|(simp_all[td];done)
def Nw:aj:=bd 297
def w777 (hA:C778 Y):Kt (cn Y Nw):=λl n hp0=>by
 refine zg ?_;refine zf hm (λi=>[.m 3 l Want.D,.i n,.u 1,.i i,.u 2]) (λi=>[]) 2 (λi=>i<=l.length/\py n l=bI (λi=>td n l[i]!) i l.length) (λi=>l.length-i) ⟨ae,rfl⟩ [] ?_;rintro i ⟨hi,hr⟩;refine zg ?_;intro u0;refine dT ?_ ?_<;>intro hc0
 .refine zc ?_ ?_<;>intro hc1
  .refine zr ?_;unfold rQ;rw[hr,ay ae];grind
  refine fM (i+1) [] ?_;rw[hr,ay ae];grind
 refine zg ?_;intro u1;refine zr ?_;unfold rQ;rw[hr,bA ae];grind
def Qk:aj:=bd 262
def w618 (hA:Ca Y)(hB:C777 Y)(hC:C778 Y):J6 (cn Y Qk):=λc n hp0=>by
 refine pz ?_;refine aD (hc:=hA (c.v) Rc) ?_;refine zc ?_ ?_<;>intro hc0
 .refine zr ?_;unfold mU;grind
 refine zg ?_;refine zf hm (λi=>[.u 1,.i n,.u 1,.p 0 8,.u 1,.i i,.u 5]) (λi=>[(0,.buf 8 [fj.D c])]) 19 (λi=>i<=c.needs.length/\bI (λi=>rQ n c.needs[i]!) 0 c.needs.length=bI (λi=>rQ n c.needs[i]!) i c.needs.length) (λi=>c.needs.length-i) ⟨ae,rfl⟩ [(0,0)] ?_;rintro i ⟨hi,hr⟩;refine zg ?_;intro u0;refine dT ?_ ?_<;>intro hc1
 .refine ru ?_;refine dm (v:=.sl 3 (((c.needs)[i]!).map Want.D)) (hi:=λhf=>ct) ?_;refine cY ?_;refine aD (hc:=hB ((c.needs)[i]!) (n) Rc) ?_;refine zc ?_ ?_<;>intro hc2
  .refine zr ?_;unfold mU;rw[hr,ay ae];grind
  refine fM (i+1) [(0,0)] ?_;rw[hr,ay ae];grind
 refine zg ?_;refine zf hm (λk=>[.u 1,.i n,.u 1,.p 0 8,.u 4,.i k,.u 2]) (λk=>[(0,.buf 8 [fj.D c])]) 25 (λk=>k<=c.bars.length/\py n c.bars=bI (λi=>td n c.bars[i]!) k c.bars.length) (λk=>c.bars.length-k) ⟨ae,rfl⟩ [(0,0)] ?_;rintro k ⟨hk,hr2⟩;refine zg ?_;intro u1;refine dT ?_ ?_<;>intro hc3
 .refine B8 ?_;refine aD (hc:=hC ((c.bars)[k]!) (n) Rc) ?_;refine zc ?_ ?_<;>intro hc4
  .refine zr ?_;unfold mU;rw[hr2,ay (i:=k) ae];grind
  refine fM (k+1) [(0,0)] ?_;rw[hr2,ay ae];grind
 refine zr ?_;unfold mU;rw[hr2,bA (i:=k) ae,hr,bA (i:=i) ae];grind
def BB:aj:=bd 75
def w409 (hA:C622 Y):Jv (cn Y BB):=λc n hp0=>by
 refine zg ?_;intro u0;refine dT ?_ ?_<;>intro hc0
 .refine zr ?_;unfold mU;grind
 refine zg ?_;intro u1;refine zf hm (λi=>[.u 1,.i n,.u 1,.p 0 8,.u 1,.i i,.i c.needs.length,.u 1,.m 1 c.needs jC,.u 2]) (λi=>[(0,.buf 8 [fj.D c])]) 16 (λi=>i<=c.needs.length/\bI (λi=>rQ n c.needs[i]!) 0 c.needs.length=bI (λi=>rQ n c.needs[i]!) i c.needs.length) (λi=>c.needs.length-i) ⟨ae,rfl⟩ [(0,0)] ?_;rintro i ⟨hi,hr⟩;refine zc ?_ ?_<;>intro hc1
 .refine fw ?_;refine dm (v:=.sl 3 (((c.needs)[i]!).map Want.D)) (hi:=λhf=>ct) ?_;refine jb ?_;intro u2;refine bX (hc:=λhf=>hA ((c.needs)[i]!) (n) abu) ?_;refine zc ?_ ?_<;>intro hc2
  .refine zr ?_;unfold mU;rw[hr,ay ae];simp only[rQ];grind
  refine fM (i+1) [(0,0)] ?_;rw[hr,ay ae];simp only[rQ];grind
 refine jX ?_;refine aD (hc:=hA (c.bars) (n) abu) ?_;refine zr ?_;unfold mU;rw[hr,bA ae];grind
def Ns:aj:=bd 261
def w617 (hm:(Y.at 0).bN):J5 (cn Y Ns):=λa b=>by
 refine zr ?_;first|(grind [jF];done)|(simp_all[jF];done)
def Bz:aj:=⟨2,16,[⟨2,none⟩],Pa,(sq (rg [gb 5 s0,gb 5 s1,gm yW] [(3,0),(4,1),(2,2)]) (sq (sq (r2 [gk 5 true s3,gx 209 [l0] ha5,gno l1,gm l2,uW 3 (.ld 5 true s4),uW 3 (.call 209 [l4] ha5),uW 3 (.un .not l5),T7 l3 l6,gm l7,uW 8 (.ld 5 true s3),uW 8 (.call 530 [l9] ha5),uW 8 (.ld 5 true s4),uW 8 (.call 530 [R5] ha5),uW 8 (.eqA false true [.i .i64,.i .i64,.i .i64,.s,.s] l10 Yk),T7 l8 l13] 5 14) (.cond s5 (sq (r1 [gm yW] 2 0) .ret) .skip)) (sq (sq (r2 [gf 0 s3,gd l0,gf 0 s4,gd l2,gx 532 [l1,l3] pF,gf 1 s3,gd l5,gf 1 s4,gd l7,gx 532 [l6,l8] pF,gf 2 s3,gd l10,gf 2 s4,gd Yk,gx 532 [R5,l13] pF,gn (.bsl 1 (.int .i64 0) 3 [(0,l4),(1,l9),(2,l14)]),gx 531 [l15] [[.sl 1 [.a]]],gm l16] 6 17) (sq (r1 [gm s6,sJ l0 yW] 7 1) (.cond s7 (sq (r1 [gm s6,gm l0] 2 1) .ret) .skip))) (sq (sq (r1 [gf 3 s3,gd l0,sI l1 cse] 8 2) (.cond s8 (sq (r1 [gm R2] 2 0) .ret) .skip)) (sq (sq (r1 [gf 3 s4,gd l0,sI l1 cse] 9 2) (.cond s9 (sq (r1 [gn (.mv (.c (.int .i64 (-1))))] 2 0) .ret) .skip)) (sq (rt [gf 3 s3,gd l0,gx 533 [l1,(i8 46)] pF,gf 3 s4,gd l3,gx 533 [l4,(i8 46)] pF,gm l2,gm l5] [(11,6),(12,7)]) (sq (sq (r1 [gm yW] 10 0) (.block 0 (.loop (sq (sq (r1 [gm s10,gm VR,gl l1,mL l0 l2,gm l3,gmt 4 s10,gmt 4 s12,rI 4 (.len l6),rI 4 (afI l5 l7),K7 l4 l8] 13 9) (gce s13 0)) (sq (.block 1 (sq (r2 [gm VR,gm s10,ga 1 l0 l1,gd l2,gm s12,gm s10,ga 1 l4 l5,gd l6,gx 534 [l3,l7] pF,gm l8] 14 9) (sq (r1 [gm Vs,sJ l0 yW] 15 1) (.cond s15 (sq (r1 [gm Vs,gm l0] 2 1) .ret) .skip)))) (r1 [gm s10,pj l0 R2,gm l1] 10 2)))))) (sq (r1 [gm VR,gl l0,gm s12,gl l2,gx 532 [l1,l3] pF,gm l4] 2 5) .ret))))))))⟩
def w295 (hA:yB Y)(hB:C530 Y)(hC:C531 Y)(hD:C532 Y)(hE:TA Y)(hF:C534 Y):ua (cn Y Bz):=λa b hp0=>by
 refine zg ?_;refine aH (λhc0=>?_) (λhc0=>?_)
 .simp only[cW,cg,aX]at hc0;refine zr ?_;rcases hc0 with hc0|hc0
  .unfold jm;rw[ak hc0]
  .exact(FN hc0).symm
 simp only[dX,cX,b8]at hc0;have hv:¬(fT a=false\/fT b=false):=by simp only[not_or,Bool.not_eq_false];first|exact hc0|exact hc0.1
 refine jb ?_;refine fw ?_;refine bj ([dn a.major b.major,dn a.minor b.minor,dn a.patch b.patch].map (D.int .i64)) ?_;refine aD (hc:=hC [dn a.major b.major,dn a.minor b.minor,dn a.patch b.patch]) (ha:=λ_=>ar (λd=>[d]) (lX (q:=D.int .i64) (xs:=[dn a.major b.major,dn a.minor b.minor,dn a.patch b.patch]) (λ_=>rfl) ah)) (hp:=λ_=>⟨jT (q:=D.int .i64) (xs:=[dn a.major b.major,dn a.minor b.minor,dn a.patch b.patch]) (λ_=>rfl) ah,trivial⟩) ?_;refine zg ?_;refine aH (λhc1=>?_) (λhc1=>?_)
 .simp only[cg,b8]at hc1;refine zr ?_;exact XG hv hc1
 simp only[cX,aX]at hc1;obtain⟨z1,z2,z3⟩:=XH hc1;refine dt ?_;have hcp:=WZ hv z1 z2 z3;have hpn:¬a.pre=b.pre:=λe=>hc0.2 (acO z1 z2 z3 e)
 refine zc ?_ ?_<;>intro hc2
 .refine zr ?_;rw[hcp];unfold Br;rw[ai hpn,ak hc2]
 refine zc ?_ ?_<;>intro hc3
 .refine zr ?_;rw[hcp];unfold Br;rw[ai hpn,ai hc2,ak hc3]
 refine fw ?_;refine aD (hc:=hE a.pre 46 hp0.1.1) ?_;refine cU ?_;refine aD (hc:=hE b.pre 46 hp0.2.1) ?_;refine zg ?_;refine zf hm (λi=>[.u 3,.p 0 5,.p 1 5,.u 5,.i i,.m 1 (aQ a.pre 46) D.str,.m 1 (aQ b.pre 46) D.str,.u 3]) (λi=>[(0,.buf 5 [bO.D a]),(1,.buf 5 [bO.D b])]) 53 (λi=>(i<=(aQ a.pre 46).length/\i<=(aQ b.pre 46).length)/\jm a b=vx (aQ a.pre 46) (aQ b.pre 46) i) (λi=>(aQ a.pre 46).length-i) ⟨⟨ae,ae⟩,by rw[hcp];unfold Br;rw[ai hpn,ai hc2,ai hc3]⟩ [(0,0),(1,1)] ?_;rintro i ⟨hi,hr⟩;refine zg ?_;intro u0;refine dT ?_ ?_<;>intro hc4
 .refine zc ?_ ?_<;>intro hc5
  .refine zr ?_;rw[hr,GQ ae hc5]
  refine zl (i+1) [(0,0),(1,1)] ?_;exact⟨⟨ae,ae⟩,by rw[hr,N2 ae hc5]⟩
 refine zg ?_;intro u1 u2;refine zr ?_;rw[hr,GP ae]
def cmp_isNaN_int:aj:=bd 178
def w714 (hm:(Y.at 0).bN):Km (cn Y cmp_isNaN_int):=λx=>by
 refine pz ?_;refine aS (env':=[_,⟨_,(.bool _)⟩]) ?_;refine zr ?_;simp
def Fc:aj:=bd 176
def w704 (hm:(Y.at 0).bN):Kl (cn Y Fc):=λx=>by
 refine pz ?_;refine aS (env':=[_,⟨_,(.bool _)⟩]) ?_;refine zr ?_;simp
def cmp_Compare_int:aj:=bd 124
def w532 (hm:(Y.at 0).bN)(hA:C714 Y):uk (cn Y cmp_Compare_int):=λa b=>by
 refine zg ?_;refine aH (t:=false) (λh=>cw) (λ_=>?_);refine zg ?_;refine aH (t:=false) (λh=>cw) (λ_=>?_);refine zc ?_ ?_<;>intro hc3
 .refine zr ?_;simp[dn,hc3]
 refine zc ?_ ?_<;>intro hc4
 .refine zr ?_;unfold dn;rw[ai hc3,ak hc4]
 refine zr ?_;unfold dn;rw[ai hc3,ai hc4]
def Bc:aj:=bd 119
def w516 (hm:(Y.at 0).bN)(hA:C704 Y):uj (cn Y Bc):=λa b=>by
 refine zg ?_;refine aH (t:=false) (λh=>cw) (λ_=>?_);refine zg ?_;refine aH (t:=false) (λh=>cw) (λ_=>?_);refine zc ?_ ?_<;>intro hc3
 .refine zr ?_;simp[pN,hc3]
 refine zc ?_ ?_<;>intro hc4
 .refine zr ?_;simp_all[pN]
 refine zr ?_;simp_all[pN]
def ah4:aj:=bd 118
def w531:JU (cn Y ah4):=λl=>by
 refine zg ?_;intro u0;refine zf hm (λi=>[.u 2,.i i,.i l.length,.u 1,.m 1 l (D.int .i64),.u 1,.i 0,.u 1]) (λi=>[]) 5 (λi=>i<=l.length/\fQ (λi=>l[i]!) 0 l.length=fQ (λi=>l[i]!) i l.length) (λi=>l.length-i) ⟨ae,rfl⟩ [] ?_;rintro i ⟨hi,hr⟩;refine zc ?_ ?_<;>intro hc0
 .refine zc ?_ ?_<;>intro hc1
  .refine zr ?_;rw[hr,lE ae hc1]
  refine fM (i+1) [] ?_;rw[hr,pQ ae hc1]
 refine zr ?_;rw[hr,pP ae]
def IS:aj:=bd 123
def w530 (hm:(Y.at 0).bN):JT (cn Y IS):=λv=>by
 refine qp ?_;refine br _ ?_;exact mQ
def Oi:aj:=bd 126
def w534 (hm:(Y.at 0).bN)(hA:C516 Y)(hB:C532 Y)(hC:V4 Y)(hD:C659 Y):uo (cn Y Oi):=λa b=>by
 refine zc ?_ ?_<;>intro hc0
 .refine zr ?_;unfold ym;rw[ak hc0]
 refine zg ?_;refine aH (λhc1=>?_) (λhc1=>?_)
 .simp only[cg,b8]at hc1;refine zc ?_ ?_<;>intro hc2
  .refine zr ?_;have hn:¬(cO a=true/\cO b=true):=by rintro⟨h1,h2⟩;simp[h1,h2]at hc0
   unfold ym;rw[ai hn];rw[ak hc2]
  refine zr ?_;have hn:¬(cO a=true/\cO b=true):=by rintro⟨h1,h2⟩;simp[h1,h2]at hc0
  unfold ym;rw[ai hn];rw[ai (by simp[hc2]),ak (by cases h:cO b with|true=>rfl|false=>exact absurd (hc2.trans h.symm) hc1)]
 simp only[cX,aX]at hc1;refine zr ?_;have hn:¬(cO a=true/\cO b=true):=by rintro⟨h1,h2⟩;simp[h1,h2]at hc0
 unfold ym;rw[ai hn];have h1:cO a=false:=by cases h:cO a with|false=>rfl|true=>exact absurd ⟨h,hc1▸h⟩ hn
 rw[ai (by simp[h1]),ai (by rw[<-hc1];simp[h1])]
def Nv:aj:=bd 290
def w1080:ES (cn Y Nv):=λx hp0=>by
 refine zg ?_;refine rm hm (ι:=Unit) (λ_=>[.un,.un,⟨true,.ptr 1 4 0 0⟩,.un,⟨true,.own 0 2 0 (kY x).length⟩,.un,.un,.un]) (λ_=>[(0,.buf 2 ((kY x).map Key.D)),(1,.buf 4 [c9.D x])]) 100 (λ_=>True) ?_ ?_
 .refine K5 ?_ ?_<;>intro hc0
  .refine fw ?_;refine aV (Key.D ⟨x.name,ll⟩) ?_;refine bj [Key.D ⟨x.name,ll⟩] ?_;refine zo (ys:=[Key.D ⟨x.name,ll⟩]) (n:=1) (he:=nk.all rfl rfl) (hn:=rfl) (hb:=ae) ?_;refine zg ?_;have hst:[(⟨x.name,ll⟩:Key)]=kY x:=(aaC hc0).symm;rw[<-hst];exact⟨(),trivial,(aZ.to [(11,0),(0,1)] ah ah fK (by repeat(first|exact bn.nil|refine bn.Am ah ah dL ?_|refine bn.L4 ah ah ah ?_|refine bn.L6 ah ah ah ah ?_|refine bn.nl 11 ah ah ah dL ?_|refine bn.nl 0 ah ah ah dL ?_)))⟩
  refine zg ?_;rw[aaD hc0];exact⟨(),trivial,(aZ.to [(0,1)] ah ah fK (by repeat(first|exact bn.nil|refine bn.Am ah ah dL ?_|refine bn.L4 ah ah ah ?_|refine bn.L6 ah ah ah ah ?_|refine bn.nl 0 ah ah ah dL ?_|refine bn.mt ah ah ah ah ?_)))⟩
 .rintro _-
  refine cU ?_;have hal:=QP x;refine zg ?_;refine rm hm (ι:=Unit) (λ_=>[.un,.un,⟨true,.ptr 1 4 0 0⟩,.un,⟨true,.own 0 2 0 (om x).length⟩,.un,.un,.un]) (λ_=>[(0,.buf 2 ((om x).map Key.D)),(1,.buf 4 [c9.D x])]) 100 (λ_=>True) ?_ ?_
  .refine K5 ?_ ?_<;>intro hc1
   .refine fw ?_;refine aV (Key.D ⟨x.name,[]⟩) ?_;refine bj [Key.D ⟨x.name,[]⟩] ?_;refine cR (q:=Key.D) (xs:=kY x) (e:=⟨x.name,[]⟩) (hb:=ae) ?_;refine zg ?_;rw[aaF hc1];exact⟨(),trivial,(aZ.to [(113,0),(1,1)] ah ah fK (by repeat(first|exact bn.nil|refine bn.Am ah ah dL ?_|refine bn.L4 ah ah ah ?_|refine bn.L6 ah ah ah ah ?_|refine bn.nl 113 ah ah ah dL ?_|refine bn.nl 1 ah ah ah dL ?_)))⟩
   refine zg ?_;rw[aaE hc1];exact⟨(),trivial,(aZ.to [(0,0),(1,1)] ah ah fK Q7)⟩
  .rintro _-
   refine zg ?_;rw[aaG x];refine zf hm (λi=>[.u 2,.p 1 4,.u 1,.o 0 2 (mP x i).length,.u 1,.i i,.u 1]) (λi=>[(0,.buf 2 ((mP x i).map Key.D)),(1,.buf 4 [c9.D x])]) 101 (λi=>i<=x.feats.length) (λi=>x.feats.length-i) ae [(0,0),(1,1)] ?_;intro i hi;have hul:=QR x i;refine zg ?_;intro u0;refine dT ?_ ?_<;>intro hc2
   .refine Ov ?_;refine aV (Key.D ⟨x.name,x.feats[i]!⟩) ?_;refine bj [Key.D ⟨x.name,x.feats[i]!⟩] ?_;refine cR (q:=Key.D) (xs:=mP x i) (e:=⟨x.name,x.feats[i]!⟩) (hb:=ae) ?_;refine zg ?_;rw[aaI ae];exact ir (i+1) [(116,0),(1,1)]
   refine cU ?_;obtain rfl:i=x.feats.length:=ae;rw[aaH];refine bD 0 ?_;exact mQ
def Va:aj:=⟨2,7,[⟨2,none⟩],[[.sl 2 [.a,.a]]],(sq (rg [gb 2 s1,gm (.c (.aR))] [(4,0),(2,1)]) (sq (r1 [gm yW] 3 0) (sq (.block 0 (.loop (sq (sq (r2 [gm s3,gm s0,gl l1,mL l0 l2,gm l3,gmt 4 s0,gmt 4 s3,rI 4 (.ia 2 l5 l6),rI 4 (.ld 2 true l7),rI 4 (.ld 2 true s4),rI 4 (.call 902 [l8,l9] [[.a,.a],[.a,.a]]),K7 l4 l10] 5 11) (gce s5 0)) (.block 1 (r1 [gm s3,pj l0 R2,gm l1] 3 2))))) (sq (sq (r2 [gm s3,gm s0,gl l1,mL l0 l2,gm l3,gmt 4 s0,gmt 4 s3,rI 4 (.ia 2 l5 l6),rI 4 (.ld 2 true l7),rI 4 (.ld 2 true s4),rI 4 (.eqA false true [.s,.s] l8 l9),K7 l4 l10] 6 11) (.cond s6 (sq (r1 [gm s0,gm l0] 2 1) .ret) .skip)) (sq (r2 [gm s0,gm s3,gn (.slA 2 l0 none (some l1)),gn (.appN 2 l2),gk 2 true s4,gn (.bsl 2 (.agg [.str [],.str []]) 1 [(0,l4)]),gn (.app 2 l3 l5),gm s0,gm s3,gn (.slA 2 l7 (some l8) none),gn (.app 2 l6 l9),gm l10] 2 11) .ret)))))⟩
def w749 (hA:C902 Y):Ko (cn Y Va):=λl k hp0=>by
 refine zg ?_;refine zf hm (λi=>[.m 2 l Key.D,.u 2,.i i,.p 0 2,.u 2]) (λi=>[(0,.buf 2 [Key.D k])]) 3 (λi=>i<=l.length/\Fh l k 0=Fh l k i) (λi=>l.length-i) ⟨ae,rfl⟩ [(0,0)] ?_;rintro i ⟨hi,hr⟩;refine zc ?_ ?_<;>intro hc0
 .refine fM (i+1) [(0,0)] ?_;rw[hr,Yf ae hc0.2]
 refine fw ?_;have hk:Fh l k 0=i:=by rw[hr];exact Yg (λh=>by rcases hc0 with h1|h1;omega;exact h1)
 refine zc ?_ ?_<;>intro hc1
 .refine zr ?_;rw[<-aeA hk ⟨ae,hc1.2⟩];rfl
 refine k9 ?_;refine BZ (he:=nk.sl) (n:=(l.take i).length) (hn:=aF) (hb:=zW) ?_;refine cY ?_;refine bj [Key.D k] ?_;refine cR (q:=Key.D) (xs:=l.take i) (e:=k) (hb:=zW) ?_;refine dt ?_;refine pn (xs:=l.take i++[k]) (ys:=l.drop i) (he:=nk.sl) (hb:=Rg) ?_;refine cU ?_;refine bD 37 ?_;refine zr ?_;rw[<-aeC hk aby];rfl
def Mt:aj:=bd 8
def w91 (hm:(Y.at 0).bN)(hA:C114 Y)(hB:C147 Y)(hC:C267 Y)(hD:C268 Y)(hE:C269 Y):Q5 (cn Y Mt):=λm shop e os hp0=>by
 refine cY ?_;refine p9 ?_;refine p9 ?_;refine aW ?_;refine aW ?_;refine aS (env':=[_,_,_,_,⟨_,_⟩,⟨_,.aR⟩,⟨_,(.bool _)⟩,⟨_,_⟩,_,_,_,_,_]) ?_;refine ax ?_;refine aW ?_;refine aW ?_;refine iF (d:=Env.D e) ?_;refine aD (hc:=hB [m] shop e [] hp0) ?_;refine aW ?_;refine gw (cA.D _) ?_;refine gw (.int _ _) ?_;refine p9 ?_;refine br (cA.D (dH m shop e).1) (he:=cE) ?_;refine aW ?_;refine aS (env':=[_,_,_,_,_,_,_,_,⟨_,(.int _ _)⟩,⟨_,_⟩,_,_,_]) ?_;refine cF ?_;refine ax ?_;refine aW ?_;refine po ?_;refine aW ?_;refine iF (d:=cA.D ((dH m shop e).1)) ?_;refine bX (hc:=λhf=>hA (dH m shop e).1 (pL hp0.1 (by simpa using hf)).1.sm) ?_;refine oa ?_;refine DI ?_;refine aS (env':=[_,_,_,_,_,_,_,_,_,_,⟨_,(.bool _)⟩,_,_]) ?_;refine dT ?_ ?_<;>intro hc0
 .refine zg ?_;refine zr ?_;rw[yi (by rcases hc0 with h|h;exact .inl h;exact .inr ae)];rfl
 refine eB ?_;refine ax ?_;have hB0:=hc0.1;have hc0n:(dH m shop e).2=0/\¬5000<zj (dH m shop e).1.us:=⟨hc0.1,ae⟩;have hfp:=T4 hp0.1 hB0 os;refine fw ?_;refine cq _ ?_;refine aD (hc:=hC (dH m shop e).1 (ix (dH m shop e).1.us os) hfp) ?_;refine k9 ?_;refine ZE (λbq hbq=>?_) (hs:=Sr _);refine zg ?_;refine aH (λhc1=>?_) (λhc1=>?_)
 .have hbt:bq=true:=hc1;have hn:=(LV hp0.1 hB0 hbq).1 hbt;refine zr ?_;rw[yj hc0n hn];rfl
 have hbf:bq=false:=hc1;obtain⟨d,hd⟩:=(LV hp0.1 hB0 hbq).2 hbf;have hdl:=T3 hp0.1 hB0 hd;rw[hd];refine zr ?_;rw[yk hc0n hd];rfl
def Ip:aj:=bd 153
def w461 (hm:(Y.at 0).bN)(hA:C249 Y):JG (cn Y Ip):=λw hp0=>by
 show dk _ _ _ [⟨_,_⟩,_,_,_,_,_,_] _;have q1:=Ez hp0;have q2:=hp0.1.1.1;have q3:=hp0.1.1.2.len;refine ax ?_;refine zg ?_;intro u0;refine dT ?_ ?_<;>intro hc0
 .refine dt ?_;refine aD (hc:=hA w.feats 44 ae) ?_;refine zc ?_ ?_<;>intro hc1
  .refine zr ?_;all_goals
    simp only[jS,cr,te,b6,rZ,rV,rU];first|rw[ak (show w.feats.length=0 by omega)]|rw[ai (show ¬w.feats.length=0 by omega)]
    simp[hc1]
  refine zr ?_;all_goals
   simp only[jS,cr,te,b6,rZ,rV,rU];first|rw[ak (show w.feats.length=0 by omega)]|rw[ai (show ¬w.feats.length=0 by omega)]
   simp[hc1]
 refine zc ?_ ?_<;>intro hc1
 .refine zr ?_;all_goals
   simp only[jS,cr,te,b6,rZ,rV,rU];first|rw[ak (show w.feats.length=0 by omega)]|rw[ai (show ¬w.feats.length=0 by omega)]
   simp[hc1]
 refine zr ?_;all_goals
  simp only[jS,cr,te,b6,rZ,rV,rU];first|rw[ak (show w.feats.length=0 by omega)]|rw[ai (show ¬w.feats.length=0 by omega)]
  simp[hc1]
def P9:aj:=bd 154
def w462 (hm:(Y.at 0).bN):JH (cn Y P9):=λs hp0=>by
 refine zc ?_ ?_<;>intro hc0
 .refine zr ?_;rw[ko,ak hc0]
 refine zr ?_;rw[ko,ai hc0];simp[cr,b6,yq]
def NG:aj:=bd 114
def w183 (hA:C415 Y):I7 (cn Y NG):=λw l hp0=>by
 refine zg ?_;refine zf hm (λi=>[.u 1,.m 3 l Want.D,.u 1,.i i,.u 1,.o 0 2 (eD w.us (l.take i)).length,.p 1 1]) (λi=>[(0,.buf 2 ((eD w.us (l.take i)).map ec.D)),(1,.buf 1 [cA.D w])]) 4 (λi=>i<=l.length) (λi=>l.length-i) ae [(0,1)] ?_;intro i hi;have hwl:=VI w.us l i;refine zg ?_;intro u0;refine dT ?_ ?_<;>intro hc0
 .refine jb ?_;refine cY ?_;refine aV (ec.D ⟨l[i]!.u,uJ w.us l[i]!⟩) ?_;refine bj [ec.D ⟨l[i]!.u,uJ w.us l[i]!⟩] ?_;refine cR (q:=ec.D) (xs:=(eD w.us (l.take i))) (e:=⟨l[i]!.u,uJ w.us l[i]!⟩) (hb:=ae) ?_;refine zg ?_;rw[VH ae];exact ir (i+1) [(22,0),(1,1)]
 refine cU ?_;obtain rfl:i=l.length:=ae;rw[List.take_length];refine bD 0 ?_;exact mQ
def Qx:aj:=bd 169
def w184 (hA:C416 Y):I8 (cn Y Qx):=λc l hp0=>by
 refine zg ?_;refine zf hm (λi=>[.m 1 c (D.int .i64),.m 2 l ec.D,.u 1,.i i,.u 2]) (λi=>[]) 2 (λi=>i<=l.length/\kf c l=o8 (λi=>Dk c l[i]!) i l.length) (λi=>l.length-i) ⟨ae,rfl⟩ [] ?_;rintro i ⟨hi,hr⟩;refine zg ?_;intro u0;refine dT ?_ ?_<;>intro hc0
 .refine zc ?_ ?_<;>intro hc1
  .refine zr ?_;rw[hr,lR ae];simp only[hc1,Bool.true_or]
  refine fM (i+1) [] ?_;rw[hr,lR ae];simp only[hc1,Bool.false_or]
 refine zr ?_;rw[hr,wG ae]
def Z0:aj:=bd 214
def w905 (hm:(Y.at 0).bN)(hA:C955 Y):KF (cn Y Z0):=λl nm=>by
 refine zc ?_ ?_<;>intro hc0
 .refine zr ?_;rw[show uY l nm=[]from ak hc0];rfl
 refine cU ?_;obtain⟨j,hj,hjl⟩:=(T2 l nm).resolve_left ae;refine zr ?_;rw[show uY l nm=l[j]!.of from by unfold uY;rw[ai hc0,hj,Int.toNat_natCast]];rfl
end Go.Abs
end
