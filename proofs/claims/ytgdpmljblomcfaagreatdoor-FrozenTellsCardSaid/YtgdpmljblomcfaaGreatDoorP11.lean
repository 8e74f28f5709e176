/- A part of the proofs. -/
import Derived.Test.YtgdpmljblomcfaaGreatDoorP04
set_option linter.all false
set_option maxRecDepth 60000
set_option maxHeartbeats 2000000
noncomputable section
namespace Go.Abs
variable {Y:Ctx}(hm:(Y.at 0).bR)
def YY:aj:=bc 123
def w453 {Y:Ctx}(hm:(Y.at 0).bR):I0 (cu Y YY):=fun c=>by
 exact mr
def Pr:aj:=bc 124
def w454 {Y:Ctx}(hm:(Y.at 0).bR):I1 (cu Y Pr):=fun c=>by
 exact mr
def Ul:aj:=bc 91
def w357 (hA:C453 Y)(hB:C454 Y):tT (cu Y Ul):=fun s=>by
 refine zg ?_;intro u0;refine dE ?_ ?_<;>intro hc0
 .refine zr ?_;symm;simp only[gr,eo,cK];exact Or.inl ae
 refine zg ?_;refine zf hm (fun i=>[.e (.str s),.u 2,.i i,.u 2]) (fun i=>[]) 10 (fun i=>i<=s.length/\gr s=bO (fun i=>Gp (at8 s i)) i s.length) (fun i=>s.length-i) ⟨ae,by simp only[gr];rw[bz ae,bz ae];rfl⟩ [] ?_;rintro i ⟨hi,hr⟩;refine zg ?_;intro u1;refine dE ?_ ?_<;>intro hc1
 .refine zc ?_ ?_<;>intro hc2
  .refine zr ?_;rw[hr,ay ae];simp[Gp,hc2]
  refine gh (i+1) [] ?_;rw[hr,ay ae];simp[Gp,hc2]
 refine zr ?_;rw[hr,bB ae]
def Uk:aj:=bc 81
def w216 (hA:C453 Y)(hB:C454 Y):tI (cu Y Uk):=fun s=>by
 refine Bq ?_;intro u0;refine An 0 ?_;refine pA ?_;refine An (s.length-1) ?_;refine zc ?_ ?_<;>intro hc0
 .refine zr ?_;symm;simp only[dn];rcases hc0 with(h|h)|h
  .rcases h with h|h<;>simp<;>omega
  .simp[h]
  .simp[h]
 refine zg ?_;refine zfx hm (1:Nat) (fun i=>[.e (.str s),.u 2,.i i,.u 2]) (fun i=>[]) 24 (fun i=>i<=s.length/\1<=i/\dn s=bO (nch s) i s.length) (fun i=>s.length-i) ⟨ae,ae,by simp only[dn];rw[bz ae,bz ae,hc0.1.2,bI hc0.2];rfl⟩ [] ?_;rintro i ⟨hi,hi1,hr⟩;refine zg ?_;intro u1;refine dE ?_ ?_<;>intro hc1
 .refine fG ?_;refine fG ?_;refine cx ?_;refine An (i-1) ?_;refine zc ?_ ?_<;>intro hc2
  .refine zr ?_;rw[hr,ay ae];simp only[nch];revert hc2;generalize jM (at8 s i)=x;generalize bK (at8 s i)=y;by_cases h1:at8 s i=45<;>by_cases h2:at8 s (i-1)=45<;>cases x<;>cases y<;>simp_all
  refine zl (i+1) [] ?_;exact⟨ae,ae,by rw[hr,ay ae];simp only[nch];revert hc2;generalize jM (at8 s i)=x;generalize bK (at8 s i)=y;by_cases h1:at8 s i=45<;>by_cases h2:at8 s (i-1)=45<;>cases x<;>cases y<;>simp_all⟩
 refine zr ?_;rw[hr,bB ae]
def Mp:aj:=bc 172
def w667 (hA:C454 Y):uk (cu Y Mp):=fun s=>by
 refine zk20 ?_;intro u0;refine An 0 ?_;refine zc ?_ ?_<;>intro hc0
 .refine zg ?_;refine fw (bX (aw (D.int .i64) ?_) (aw D.bool ?_));all_goals
   have:oc s=false:=by
    simp only[oc];rcases hc0 with(h|h)|h
    .rw[bI (by omega:¬1<=s.length)];rfl
    .rw[bI (by omega:¬s.length<=9)];simp
    .rw[bz (by omega:1<s.length),bz h.2];simp
   simp[C6,this]
 refine zg ?_;have hP:oc s=(bO (fun i=>bK (at8 s i)) 0 s.length&&decide (eO s<=9999)):=by
  simp only[oc];rw[bz (by omega:1<=s.length),bz (by omega:s.length<=9)];rcases hc0.2 with h|h
  .rw[bI (by omega:¬1<s.length)];rfl
  .rw[bI h,Bool.and_false];rfl
 refine zf hm (fun i=>[.e (.str s),.u 3,.i i,.u 2,.i (eO (s.take i):Nat),.u 1]) (fun i=>[]) 22 (fun i=>i<=s.length/\s.length<=9/\oc s=(bO (fun i=>bK (at8 s i)) i s.length&&decide (eO s<=9999))) (fun i=>s.length-i) ⟨ae,ae,hP⟩ [] ?_;rintro i ⟨hi,h9,hr⟩;refine zg ?_;intro u1;refine dE ?_ ?_<;>intro hc1
 .refine zg ?_;refine aQ (fun hc2=>?_) (fun hc2=>?_)
  .try simp only[gF]at hc2
   refine zg ?_;refine fw (bX (aw (D.int .i64) ?_) (aw D.bool ?_));all_goals
    have:oc s=false:=by rw[hr,ay ae,hc2];rfl
    simp[C6,this]
  simp only[dH]at hc2;refine cx ?_;have h48:=hc2;simp only[bK,aN,bn]at h48;have hn:=xF s i ae;have hn2:=Ah s i ae;have h256:=GK s i;refine cH ?_;refine xY ?_;refine dx ?_;refine HG (at8 s i-48) (hb:=fun _=>IntWalk.u8_in _ ae) ?_;refine pY (at8 s i-48) (hb:=fun _=>IntWalk.i64_in _ ae) ?_;refine dx ?_;rw[show(eO (s.take i):Int)*10+(at8 s i-48)=(eO (s.take (i+1)):Nat)by omega];refine zl (i+1) [] ?_;exact⟨ae,h9,by rw[hr,ay ae,hc2];rfl⟩
 refine ez ?_;have ht:s.take i=s:=eU ae;rw[ht];refine bF ?_;refine kQ ?_;refine bp (env':=[_,_,_,_,_,_,_,_,⟨_,(.bool _)⟩]) ?_;refine dE ?_ ?_<;>intro hc3
 .refine jS ?_;refine fw (bX (aw (D.int .i64) ?_) (aw D.bool ?_));all_goals
   have:oc s=false:=by rw[hr,bI ae,Bool.and_false]
   simp[C6,this]
 refine qo ?_;refine fw (bX (aw (D.int .i64) ?_) (aw D.bool ?_));all_goals
  have:oc s=true:=by rw[hr,bB ae,bz ae];rfl
  simp[C6,this]
def HX:aj:=bc 173
def w668:um (cu Y HX):=fun t=>by
 refine zg ?_;refine zf hm (fun i=>[.e (.str t),.u 1,.i i,.u 2]) (fun i=>[]) 2 (fun i=>i<=t.length/\bO (fun i=>bK (at8 t i)) 0 t.length=bO (fun i=>bK (at8 t i)) i t.length) (fun i=>t.length-i) ⟨ae,rfl⟩ [] ?_;rintro i ⟨hi,hr⟩;refine zg ?_;intro u0;refine dE ?_ ?_<;>intro hc0
 .refine zc ?_ ?_<;>intro hc1
  .refine zr ?_;simp only[cP];rw[hr,ay ae];rcases hc1 with h|h<;>simp[bK]<;>omega
  refine gh (i+1) [] ?_;rw[hr,ay ae];rw[show bK (at8 t i)=true by simp only[bK,aN,bn];omega];rfl
 refine zg ?_;intro u1;refine zr ?_;simp only[cP];rw[hr,bB ae];simp
def Y2:aj:=bc 171
def w666:Jp (cu Y Y2):=fun t=>by
 refine zg ?_;intro u0;refine dE ?_ ?_<;>intro hc0
 .refine zr ?_;symm;simp only[wo,eo,cK];exact Or.inl ae
 refine zg ?_;refine zf hm (fun i=>[.e (.str t),.u 2,.i i,.u 3]) (fun i=>[]) 10 (fun i=>i<=t.length/\wo t=bO (fun i=>mX (at8 t i)) i t.length) (fun i=>t.length-i) ⟨ae,by simp only[wo];rw[bz ae,bz ae];rfl⟩ [] ?_;rintro i ⟨hi,hr⟩;refine zg ?_;intro u1;refine dE ?_ ?_<;>intro hc1
 .refine fQ ?_;refine ml ?_ hm;refine aO ?_;refine bF ?_;refine bF ?_;first|refine An _ ?_|refine YC ?_
  refine bF ?_;refine bp (env':=[_,_,_,_,_,⟨_,(.int _ _)⟩,_]) ?_;refine aO ?_;refine bF ?_;refine zi ?_;refine bF ?_;refine bF ?_;refine kQ ?_;refine Dn ?_;refine bF ?_;refine bF ?_;refine zi ?_;refine bF ?_;refine bF ?_;refine kQ ?_;refine Dn ?_;refine uU ?_;refine bF ?_;refine bF ?_;refine pg ?_;refine uU ?_;refine bp (env':=[_,_,_,_,_,_,⟨_,(.bool _)⟩]) ?_;refine Bw ?_ ?_<;>intro hc2
  .refine zg ?_;refine zr ?_;rw[hr,ay ae];have:mX (at8 t i)=false:=(by simp only[mX,jM,bK,gC,eo,cK];omega);rw[this];rfl
  refine zg ?_;refine gh (i+1) [] ?_;rw[hr,ay ae];have:mX (at8 t i)=true:=(by simp only[mX,jM,bK,dI,aN,bn];omega);rw[this];rfl
 refine zr ?_;rw[hr,bB ae]
def Uq:aj:=bc 126
def w456 (hA:C470 Y)(hB:C666 Y)(hC:C667 Y)(hD:C668 Y):I2 (cu Y Uq):=fun s p hp0=>by
 refine zc ?_ ?_<;>intro hc0
 .refine zr ?_;simp[D2,hc0]
 refine zg ?_;intro u0;refine aQ (fun hc1=>?_) (fun hc1=>?_)
 .try simp only[gF]at hc1
  refine zr ?_;simp only[D2,sP];rw[bI hc0,bI ae];rfl
 simp only[cK]at hc1;refine zg ?_;refine zf hm (fun i=>[.e (.str s),.e (.bool p),.u 2,.m 1 (bd s 46) D.str,.u 1,.i i,.u 4]) (fun i=>[]) 10 (fun i=>i<=(bd s 46).length/\D2 s p=bO (fun i=>ji p (bd s 46)[i]!) i (bd s 46).length) (fun i=>(bd s 46).length-i) ⟨ae,by simp only[D2,sP];rw[bI hc0,bz ae];rfl⟩ [] ?_;rintro i ⟨hi,hr⟩;refine zg ?_;intro u1;refine dE ?_ ?_<;>intro hc2
 .refine zg ?_;refine aQ (fun hc3=>?_) (fun hc3=>?_)
  .simp only[cG]at hc3;refine zr ?_;rw[hr,ay ae];simp only[ji,hc3];rfl
  simp only[dH]at hc3;refine zg ?_;refine wp_cond (fun hc4=>?_) (fun hc4=>?_)
  .skip
   refine zr ?_;have h5:ji p (bd s 46)[i]! =false:=aan;rw[hr,ay ae,h5];rfl
  skip
  refine gh (i+1) [] ?_;rw[hr,ay ae];have h5:ji p (bd s 46)[i]! =true:=aan;rw[h5];rfl
 refine zr ?_;rw[hr,bB ae]
def Y0:aj:=bc 125
def w455 {Y:Ctx}(hm:(Y.at 0).bR):tY (cu Y Y0):=fun n=>by
 exact mr
def YZ:aj:=bc 82
def w217 {Y:Ctx}(hm:(Y.at 0).bR)(hA:C455 Y)(hB:C456 Y):tJ (cu Y YZ):=fun v hp0=>by
 refine Bq ?_;refine jS ?_;refine bQ (hc:=fun hf=>hB v.pre true hp0.1) ?_;refine ez ?_;refine bQ (hc:=fun hf=>hB v.build false hp0.2) ?_;exact mr
def abM:aj:=⟨1,5,re1,ha1,(sq (rg [gb 7 s0,gm cbF] [(2,0),(1,1)]) (sq (sq (r1 [gf 0 s2,gd l0,gn (wL l1 (.c (.int .i64 (-1)))),gm l2,gff 3 0 s2,gdf 3 l4,uD 3 (wL l5 Kq),Q3 l3 l6] 3 7) (.cond s3 (sq (r1 [gf 1 s2,gk 5 true l0,gn (.build [.int .i64 0,.int .i64 0,.int .i64 0,.str [],.str []] []),gn (.eqA false true [.i .i64,.i .i64,.i .i64,.s,.s] l1 l2),gm l3,Nq 4 6 s2,WJ 4 l5,sg 4 (.un .not l6),UR l4 l7,gm l8] 1 9) .ret) (sq (r1 [gf 0 s2,gd l0,qJ l1 rM] 4 2) (gcr s4 cbF)))) (sq (r1 [gf 1 s2,gk 5 true l0,gx 209 [l1] ha5,gm l2,Nq 3 1 s2,Nq 3 4 l4,WJ 3 l5,sg 3 (wL l6 cse),UR l3 l7,gm l8] 1 9) .ret)))⟩
def w1087 {Y:Ctx}(hm:(Y.at 0).bR)(hA:AR Y):qm (cu Y abM):=fun c hp0=>by
 refine zc ?_ ?_<;>intro hc0
 .refine ez ?_;refine bg (bZ.D (⟨0,0,0,[],[]⟩)) ?_;refine zr ?_;first|(grind [pI,zV];done)|(simp_all[pI,zV];done)
 refine zc ?_ ?_<;>intro hc1
 .refine zr ?_;first|(grind [pI,zV];done)|(simp_all[pI,zV];done)
 refine zr ?_;first|(grind [pI,zV];done)|(simp_all[pI,zV];done)
def KQ:aj:=bc 239
def w1024 {Y:Ctx}(hm:(Y.at 0).bR)(hA:SL Y)(hB:C532 Y)(hC:Qq Y):qj (cu Y KQ):=fun a b hp0=>by
 refine zc ?_ ?_<;>intro hc0
 .refine zr ?_;first|(grind [kV,dq];done)|(simp_all[kV,dq];done)
 refine zc ?_ ?_<;>intro hc1
 .refine zr ?_;first|(grind [kV,dq];done)|(simp_all[kV,dq];done)
 refine zc ?_ ?_<;>intro hc2
 .refine zr ?_;first|(grind [kV,dq];done)|(simp_all[kV,dq];done)
 refine zc ?_ ?_<;>intro hc3
 .refine zr ?_;first|(grind [kV,dq];done)|(simp_all[kV,dq];done)
 refine zc ?_ ?_<;>intro hc4
 .refine zr ?_;first|(grind [kV,dq];done)|(simp_all[kV,dq];done)
 refine zr ?_;first|(grind [kV,dq];done)|(simp_all[kV,dq];done)
def Td:aj:=bc 249
def w1055 {Y:Ctx}(hm:(Y.at 0).bR)(hA:AR Y)(hB:SL Y)(hC:Qq Y):qk (cu Y Td):=fun c v hp0=>by
 refine zc ?_ ?_<;>intro hc0
 .refine zr ?_;first|(grind [jX];done)|(simp_all[jX];done)
 refine zc ?_ ?_<;>intro hc1
 .refine zr ?_;first|(grind [jX];done)|(simp_all[jX];done)
 refine zr ?_;first|(grind [jX];done)|(simp_all[jX];done)
def KR:aj:=bc 238
def w1023 {Y:Ctx}(hm:(Y.at 0).bR)(hA:U1 Y)(hB:Qq Y):qi (cu Y KR):=fun s hp0=>by
 refine qo ?_;refine aB (hc:=hB (s.f) jD) ?_;refine dx ?_;refine bQ (hc:=fun hf=>hB (s.t) jD) ?_;refine zr ?_;first|(grind [qa];done)|(simp_all[qa];done)
def Te:aj:=bc 210
def w980 {Y:Ctx}(hm:(Y.at 0).bR)(hA:AR Y)(hB:U0 Y)(hC:aef Y):uv (cu Y Te):=fun s v hp0=>by
 refine Bq ?_;refine cH ?_;refine bQ (hc:=fun hf=>hC (s.f) (v) jD) ?_;refine ko ?_;refine bQ (hc:=fun hf=>hC (s.t) (v) jD) ?_;refine zr ?_;first|(grind [sj,qa];done)|(simp_all[sj,qa];done)
def adA:aj:=bc 206
def w925 (hA:U0 Y)(hB:U1 Y):uu (cu Y adA):=fun l hp0=>by
 refine zg ?_;intro u0;refine zf hm (fun i=>[.m 14 l Span.D,.u 1,.i i,.i l.length,.u 1,.m 14 l Span.D,.u 3]) (fun i=>[]) 4 (fun i=>i<=l.length/\sO l=bO (Bh l) i l.length) (fun i=>l.length-i) ⟨ae,rfl⟩ [] ?_;rintro i ⟨hi,hr⟩;refine zc ?_ ?_<;>intro hc0
 .refine Fa ?_;refine aB (hc:=hA ((l)[i]!) jD) ?_;refine pA ?_;refine cz ((i-1)) (hj:=fun hf=>cr) (hb:=fun hf=>cr) ?_;refine ez ?_;refine bQ (hc:=fun hf=>hB ((l)[(i-1)]!.t) ((l)[i]!.f) jD) ?_;refine zc ?_ ?_<;>intro hc1
  .refine zr ?_;rw[hr,ay ae];first|(grind [Bh];done)|(simp_all[Bh];done)
  refine gh (i+1) [] ?_;rw[hr,ay ae];first|(grind [Bh];done)|(simp_all[Bh];done)
 refine zr ?_;rw[hr,bB ae]
def adz:aj:=bc 169
def w861 (hA:C925 Y)(hB:C980 Y):ur (cu Y adz):=fun l v hp0=>by
 refine zc ?_ ?_<;>intro hc0
 .refine zr ?_;unfold vY;simp_all
 refine zg ?_;intro u0;refine zf hm (fun i=>[.m 14 l Span.D,.u 3,.i i,.i l.length,.u 1,.m 14 l Span.D,.u 1,.p 0 5,.u 1]) (fun i=>[(0,.buf 5 [bZ.D v])]) 8 (fun i=>i<=l.length/\vY l v=oA (fun i=>sj l[i]! v) i l.length) (fun i=>l.length-i) ⟨ae,by unfold vY;rw[show sO l=true by simpa using hc0];rfl⟩ [(0,0)] ?_;rintro i ⟨hi,hr⟩;refine zc ?_ ?_<;>intro hc1
 .refine Bo ?_;refine aB (hc:=hB ((l)[i]!) (v) jD) ?_;refine zc ?_ ?_<;>intro hc2
  .refine zr ?_;rw[hr,jU ae];simp_all
  refine gh (i+1) [(0,0)] ?_;rw[hr,jU ae];simp_all
 refine zr ?_;rw[hr,td ae]
def MO:aj:=⟨1,3,re1,ha1,(sq (rg [gb 7 s0,gm cbF] [(2,0),(1,1)]) (sq (r1 [gf 0 s2,gd l0,qJ l1 rM,gm l2,gff 3 6 s2,gdf 3 l4,uD 3 (.un .not l5),gmf 3 l6,Nq 7 1 s2,Nq 7 3 l8,WJ 7 l9,sg 7 (wL l10 cse),gaf 3 l7 Xg,gmf 3 l12,Nq 13 1 s2,sg 13 (.ld 5 true l14),sg 13 (.mv (.c (.agg [.int .i64 0,.int .i64 0,.int .i64 0,.str [],.str []]))),sg 13 (.eqA true true [.i .i64,.i .i64,.i .i64,.s,.s] l15 l16),gaf 3 l13 l17,Q3 l3 l18,gm l19] 1 20) .ret))⟩
def w924 {Y:Ctx}(hm:(Y.at 0).bR):JY (cu Y MO):=fun c=>by
 refine Bq ?_;refine jS ?_;refine bF (d:=bZ.D zV) ?_;refine zr ?_;first|(grind [rC,zV];done)|(simp_all[rC,zV];done)
def adI:aj:=bc 163
def w780 (hA:C924 Y)(hB:C925 Y):uq (cu Y adI):=fun s hp0=>by
 refine zg ?_;intro u0;refine zf hm (fun i=>[.u 2,.p 0 2,.i i,.i s.rel.length,.u 1,.m 14 s.rel Span.D,.u 2]) (fun i=>[(0,.buf 2 [cy.D s])]) 6 (fun i=>i<=s.rel.length/\wc s=(bO (fun i=>rC s.rel[i]!.f&&rC s.rel[i]!.t) i s.rel.length&&(sO s.rel&&sO s.pr))) (fun i=>s.rel.length-i) ⟨ae,(adD s).symm⟩ [(0,0)] ?_;rintro i ⟨hi,hr⟩;refine zc ?_ ?_<;>intro hc0
 .refine zc ?_ ?_<;>intro hc1
  .refine zr ?_;rw[hr,ay ae];rcases hc1 with h|h<;>simp only[h,Bool.and_false,Bool.false_and]
  refine gh (i+1) [(0,0)] ?_;rw[hr,ay ae];simp_all
 refine ko ?_;refine aB (hc:=hB (s.rel) jD) ?_;refine dx ?_;refine bQ (hc:=fun hf=>hB (s.pr) jD) ?_;refine zr ?_;rw[hr,bB ae];simp
def adH:aj:=bc 122
def w712 {Y:Ctx}(hm:(Y.at 0).bR)(hA:AR Y)(hB:C780 Y)(hC:C861 Y):uj (cu Y adH):=fun s v hp0=>by
 refine zc ?_ ?_<;>intro hc0
 .refine zr ?_;first|(grind [pM];done)|(simp_all[pM];done)
 refine zc ?_ ?_<;>intro hc1
 .refine ko ?_;refine aB (hc:=hC (s.rel) (v) jD) ?_;refine zr ?_;first|(grind [pM];done)|(simp_all[pM];done)
 refine ko ?_;refine aB (hc:=hC (s.pr) (v) jD) ?_;refine zr ?_;first|(grind [pM];done)|(simp_all[pM];done)
def TH:aj:=bc 5
def w28 (hA:GB Y)(hB:C110 Y)(hC:C111 Y)(hD:C112 Y)(hE:C135 Y)(hF:C136 Y):P2 (cu Y TH):=fun ks=>by
 refine ko ?_;refine bg (Gs.D (⟨ks,0⟩:Gs)) ?_;refine jS ?_;refine cz 0 (hj:=fun _=>rfl) (hb:=fun _=>aT) ?_;refine c8 (v:=bZ.D bU[0]!) (hi:=fun _=>aT) ?_;refine dh (hc:=hB (⟨ks,0⟩:Gs) GH bU[0]! 3 aG aT) ?_;refine bg (.agg [.str (jA ks).1.name,.int .i64 (jA ks).1.v.major,.int .i64 (jA ks).1.v.minor,.int .i64 (jA ks).1.v.patch,.str (jA ks).1.v.pre,.str (jA ks).1.v.build,.sl 3 ((jA ks).1.needs.map br.D),.sl 3 ((jA ks).1.bars.map my.D),.sl 2 ((jA ks).1.feats.map ch.D),.aJ,.aJ]) ?_;refine dx ?_;refine AO [(3,.buf 2 [Gs.D (jA ks).2]),(11,.buf 11 [gV.D ⟨(jA ks).1,[],[]⟩])] ((.id ah (.bf ah (.cons (.ag ((.cons (.refl _) (.cons (.refl _) (.cons (.refl _) (.cons (.refl _) (.cons (.refl _) (.cons (.refl _) (.cons (.refl _) (.cons (.refl _) (.cons (.refl _) (.cons (.nil 2) (.cons (.nil 2) .nil))))))))))))) .nil) .nil))) ?_;refine cx ?_;have hst0:=adx (⟨ks,0⟩:Gs) GH bU[0]!;rw[show pj (⟨ks,0⟩:Gs) GH bU[0]! 3=jA ks from rfl]at hst0;have hst1:=adh (jA ks).2;have r4:=(jA ks).2.aS.eI 4 ae;have r5:=(j0 (jA ks).2).2.aS.eI 4 ae;have r8:=(j0 (jA ks).2).2.aS.aS.eI 8 ae;obtain⟨hq1,hq2⟩:=hst0;obtain⟨hq3,hq4⟩:=hst1;simp only at hq1 hq2;refine cH ?_;refine dh (hc:=hA (jA ks).2 4 ae iE) ?_;refine zg ?_;refine qY hm (ι:=Unit) (fun _=>[.un,.un,⟨true,.ptr 0 2 0 0⟩,.un,⟨true,.ptr 1 11 0 0⟩,.un,.un,.un]) (fun _=>[(0,.buf 2 [Gs.D (j0 (jA ks).2).2]),(1,.buf 11 [gV.D ⟨(jA ks).1,(j0 (jA ks).2).1,[]⟩])]) 100 (fun _=>True) ?_ ?_
 .refine Bw ?_ ?_<;>intro hc0
  .refine dx ?_;refine dh (hc:=hA (jA ks).2.aS 4 ae iE) ?_;refine cz ((jA ks).2.aS.val 4).toNat (hj:=fun _=>ae) (hb:=fun _=>pz) ?_;refine c8 (v:=.str cF[((jA ks).2.aS.val 4).toNat]!) (hi:=fun _=>pz) ?_;refine bg (iH.D (⟨cF[((jA ks).2.aS.val 4).toNat]!,AN⟩:iH)) ?_;refine ba [iH.D (⟨cF[((jA ks).2.aS.val 4).toNat]!,AN⟩:iH)] ?_;refine cH ?_;refine bS (.agg [.str (jA ks).1.name,.int .i64 (jA ks).1.v.major,.int .i64 (jA ks).1.v.minor,.int .i64 (jA ks).1.v.patch,.str (jA ks).1.v.pre,.str (jA ks).1.v.build,.sl 3 ((jA ks).1.needs.map br.D),.sl 3 ((jA ks).1.bars.map my.D),.sl 2 ((jA ks).1.feats.map ch.D),.own 22 2 0 1,.sl 2 []]) (he:=cW) ?_;refine zg ?_;rw[ajL hc0];exact⟨(),trivial,(aV.fz 22 ah dV LX LX (aV.to [(3,0),(11,1)] ah ah eD aaf))⟩
  refine zg ?_;rw[ajK hc0];exact⟨(),trivial,(aV.to [(3,0),(11,1)] ah ah eD aaf)⟩
 .rintro _-
  refine dx ?_;refine dh (hc:=hA (j0 (jA ks).2).2 4 ae iE) ?_;refine zg ?_;refine qY hm (ι:=Unit) (fun _=>[.un,.un,.un,.un,⟨true,.ptr 0 11 0 0⟩,.un,.un,.un]) (fun _=>[(0,.buf 11 [gV.D (y4 ks)])]) 100 (fun _=>True) ?_ ?_
  .refine Bw ?_ ?_<;>intro hc1
   .refine dx ?_;refine dh (hc:=hA (j0 (jA ks).2).2.aS 4 ae iE) ?_;refine cz ((j0 (jA ks).2).2.aS.val 4).toNat (hj:=fun _=>ae) (hb:=fun _=>pz) ?_;refine Dk (v:=.str cF[((j0 (jA ks).2).2.aS.val 4).toNat]!) (hi:=fun _=>pz) ?_;refine ez ?_;refine dh (hc:=hA (j0 (jA ks).2).2.aS.aS j2.length aT (by simp only[Gs.aS];omega)) ?_;refine cz ((j0 (jA ks).2).2.aS.aS.val 8).toNat (hj:=fun _=>by show(j0 (jA ks).2).2.aS.aS.val 8=_;omega) (hb:=fun _=>uz) ?_;refine c8 (v:=.str j2[((j0 (jA ks).2).2.aS.aS.val 8).toNat]!) (hi:=fun _=>uz) ?_;refine bg (kv.D (⟨cF[((j0 (jA ks).2).2.aS.val 4).toNat]!,j2[((j0 (jA ks).2).2.aS.aS.val 8).toNat]!⟩:kv)) ?_;refine ba [kv.D (⟨cF[((j0 (jA ks).2).2.aS.val 4).toNat]!,j2[((j0 (jA ks).2).2.aS.aS.val 8).toNat]!⟩:kv)] ?_;refine cH ?_;refine bS (.agg [.str (jA ks).1.name,.int .i64 (jA ks).1.v.major,.int .i64 (jA ks).1.v.minor,.int .i64 (jA ks).1.v.patch,.str (jA ks).1.v.pre,.str (jA ks).1.v.build,.sl 3 ((jA ks).1.needs.map br.D),.sl 3 ((jA ks).1.bars.map my.D),.sl 2 ((jA ks).1.feats.map ch.D),.sl 2 ((j0 (jA ks).2).1.map iH.D),.own 116 2 0 1]) (he:=cW) ?_;refine zg ?_;rw[show y4 ks=⟨(jA ks).1,(j0 (jA ks).2).1,[(⟨cF[((j0 (jA ks).2).2.aS.val 4).toNat]!,j2[((j0 (jA ks).2).2.aS.aS.val 8).toNat]!⟩:kv)]⟩by unfold y4;rw[acy hc1]];exact⟨(),trivial,(aV.fz 116 ah dV LX LX (aV.to [(1,0)] ah ah eD aaj))⟩
   refine zg ?_;rw[show y4 ks=⟨(jA ks).1,(j0 (jA ks).2).1,[]⟩by unfold y4;rw[acx hc1]];exact⟨(),trivial,(aV.to [(1,0)] ah ah eD aaj)⟩
  .rintro _-
   refine dx ?_;refine aB (hc:=hF (y4 ks) (Rf ks).1) ?_;refine zc ?_ ?_<;>intro hc2
   .refine dx ?_;refine cz 0 (hj:=fun _=>rfl) (hb:=fun _=>aT) ?_;refine c8 (v:=bZ.D bU[0]!) (hi:=fun _=>aT) ?_;refine bg (.agg [.str GH,.int .i64 bU[0]!.major,.int .i64 bU[0]!.minor,.int .i64 bU[0]!.patch,.str bU[0]!.pre,.str bU[0]!.build,.aJ,.aJ,.aJ]) ?_;refine bg (.agg [.str GH,.int .i64 bU[0]!.major,.int .i64 bU[0]!.minor,.int .i64 bU[0]!.patch,.str bU[0]!.pre,.str bU[0]!.build,.aJ,.aJ,.aJ,.aJ,.aJ]) ?_;refine ba [.agg [.str GH,.int .i64 bU[0]!.major,.int .i64 bU[0]!.minor,.int .i64 bU[0]!.patch,.str bU[0]!.pre,.str bU[0]!.build,.aJ,.aJ,.aJ,.aJ,.aJ]] ?_;refine cx ?_;refine AO [(114,.buf 11 [gV.D Xt])] ((.bf ah (.cons (.ag ((.cons (.refl _) (.cons (.refl _) (.cons (.refl _) (.cons (.refl _) (.cons (.refl _) (.cons (.refl _) (.cons (.nil 3) (.cons (.nil 3) (.cons (.nil 2) (.cons (.nil 2) (.cons (.nil 2) .nil))))))))))))) .nil) .nil)) ?_;refine bh 114 ?_;refine zr ?_;rw[show fD ks=Xt from ai hc2];rfl
   refine dx ?_;refine ba [gV.D (y4 ks)] ?_;refine cx ?_;refine bh 110 ?_;refine zr ?_;rw[show fD ks=y4 ks from ak hc2];rfl
def Ng:aj:=bc 63
def w408 {Y:Ctx}(hm:(Y.at 0).bR)(hA:C516 Y)(hB:C531 Y):IS (cu Y Ng):=fun a b=>by
 refine Bq ?_;refine cH ?_;refine ba [.int .i64 (pH a.n b.n),.int .i64 (pH a.f b.f)] ?_;refine aB (hc:=hB [pH a.n b.n,pH a.f b.f]) (ha:=fun _=>aw (fun d=>[d]) (tD (q:=D.int .i64) (xs:=[pH a.n b.n,pH a.f b.f]) (fun _=>rfl) ah)) (hp:=fun _=>⟨qf (q:=D.int .i64) (xs:=[pH a.n b.n,pH a.f b.f]) (fun _=>rfl) ah,trivial⟩) ?_;refine zr ?_;unfold Hu;simp[fM,se];grind
def Nh:aj:=bc 117
def w622 (hA:C780 Y):Jn (cu Y Nh):=fun l n hp0=>by
 refine zg ?_;intro u0;refine zf hm (fun i=>[.u 1,.i n,.u 1,.i i,.i l.length,.u 1,.m 3 l Want.D,.u 2]) (fun i=>[]) 4 (fun i=>i<=l.length/\pn n l=bO (fun i=>sT n l[i]!) i l.length) (fun i=>l.length-i) ⟨ae,rfl⟩ [] ?_;rintro i ⟨hi,hr⟩;refine zc ?_ ?_<;>intro hc0
 .refine jS ?_;refine bS _ ?_;refine fG ?_;refine bQ (hc:=fun hf=>hA _ ?_) ?_;rotate_left;first|assumption|omega|exact hp0 _ (aq ae)
  refine zc ?_ ?_<;>intro hc1
  .refine zr ?_;rw[hr,ay ae];simp only[sT];grind
  refine gh (i+1) [] ?_;rw[hr,ay ae];simp only[sT];grind
 refine zr ?_;rw[hr,bB ae]
def Pn:aj:=bc 202
def w778 {Y:Ctx}(hm:(Y.at 0).bR)(hA:U9 Y):JK (cu Y Pn):=fun w n hp0=>by
 refine zr ?_;first|(grind [sT];done)|(simp_all[sT];done)
def Ml:aj:=bc 201
def w777 (hA:C778 Y):JJ (cu Y Ml):=fun l n hp0=>by
 refine zg ?_;refine zf hm (fun i=>[.m 3 l Want.D,.i n,.u 1,.i i,.u 2]) (fun i=>[]) 2 (fun i=>i<=l.length/\pn n l=bO (fun i=>sT n l[i]!) i l.length) (fun i=>l.length-i) ⟨ae,rfl⟩ [] ?_;rintro i ⟨hi,hr⟩;refine zg ?_;intro u0;refine dE ?_ ?_<;>intro hc0
 .refine zc ?_ ?_<;>intro hc1
  .refine zr ?_;unfold rB;rw[hr,ay ae];grind
  refine gh (i+1) [] ?_;rw[hr,ay ae];grind
 refine zg ?_;intro u1;refine zr ?_;unfold rB;rw[hr,bB ae];grind
def Pf:aj:=bc 156
def w618 (hA:AS Y)(hB:C777 Y)(hC:C778 Y):Jm (cu Y Pf):=fun c n hp0=>by
 refine pA ?_;refine aB (hc:=hA (c.v) Qg) ?_;refine zc ?_ ?_<;>intro hc0
 .refine zr ?_;unfold mM;grind
 refine zg ?_;refine zf hm (fun i=>[.u 1,.i n,.u 1,.p 0 8,.u 1,.i i,.u 5]) (fun i=>[(0,.buf 8 [ei.D c])]) 19 (fun i=>i<=c.needs.length/\bO (fun i=>rB n c.needs[i]!) 0 c.needs.length=bO (fun i=>rB n c.needs[i]!) i c.needs.length) (fun i=>c.needs.length-i) ⟨ae,rfl⟩ [(0,0)] ?_;rintro i ⟨hi,hr⟩;refine zg ?_;intro u0;refine dE ?_ ?_<;>intro hc1
 .refine qo ?_;refine c8 (v:=.sl 3 (((c.needs)[i]!).map Want.D)) (hi:=fun hf=>cr) ?_;refine cH ?_;refine aB (hc:=hB ((c.needs)[i]!) (n) Qg) ?_;refine zc ?_ ?_<;>intro hc2
  .refine zr ?_;unfold mM;rw[hr,ay ae];grind
  refine gh (i+1) [(0,0)] ?_;rw[hr,ay ae];grind
 refine zg ?_;refine zf hm (fun k=>[.u 1,.i n,.u 1,.p 0 8,.u 4,.i k,.u 2]) (fun k=>[(0,.buf 8 [ei.D c])]) 25 (fun k=>k<=c.bars.length/\pn n c.bars=bO (fun i=>sT n c.bars[i]!) k c.bars.length) (fun k=>c.bars.length-k) ⟨ae,rfl⟩ [(0,0)] ?_;rintro k ⟨hk,hr2⟩;refine zg ?_;intro u1;refine dE ?_ ?_<;>intro hc3
 .refine wA ?_;refine aB (hc:=hC ((c.bars)[k]!) (n) Qg) ?_;refine zc ?_ ?_<;>intro hc4
  .refine zr ?_;unfold mM;rw[hr2,ay (i:=k) ae];grind
  refine gh (k+1) [(0,0)] ?_;rw[hr2,ay ae];grind
 refine zr ?_;unfold mM;rw[hr2,bB (i:=k) ae,hr,bB (i:=i) ae];grind
def Bm:aj:=bc 66
def w409 (hA:C622 Y):IU (cu Y Bm):=fun c n hp0=>by
 refine zg ?_;intro u0;refine dE ?_ ?_<;>intro hc0
 .refine zr ?_;unfold mM;grind
 refine zg ?_;intro u1;refine zf hm (fun i=>[.u 1,.i n,.u 1,.p 0 8,.u 1,.i i,.i c.needs.length,.u 1,.m 1 c.needs jC,.u 2]) (fun i=>[(0,.buf 8 [ei.D c])]) 16 (fun i=>i<=c.needs.length/\bO (fun i=>rB n c.needs[i]!) 0 c.needs.length=bO (fun i=>rB n c.needs[i]!) i c.needs.length) (fun i=>c.needs.length-i) ⟨ae,rfl⟩ [(0,0)] ?_;rintro i ⟨hi,hr⟩;refine zc ?_ ?_<;>intro hc1
 .refine ez ?_;refine c8 (v:=.sl 3 (((c.needs)[i]!).map Want.D)) (hi:=fun hf=>cr) ?_;refine fG ?_;intro u2;refine bQ (hc:=fun hf=>hA ((c.needs)[i]!) (n) aau) ?_;refine zc ?_ ?_<;>intro hc2
  .refine zr ?_;unfold mM;rw[hr,ay ae];simp only[rB];grind
  refine gh (i+1) [(0,0)] ?_;rw[hr,ay ae];simp only[rB];grind
 refine jS ?_;refine aB (hc:=hA (c.bars) (n) aau) ?_;refine zr ?_;unfold mM;rw[hr,bB ae];grind
def Mh:aj:=bc 155
def w617 {Y:Ctx}(hm:(Y.at 0).bR):Jl (cu Y Mh):=fun a b=>by
 refine zr ?_;first|(grind [kA];done)|(simp_all[kA];done)
def UM:aj:=bc 31
def w175 (hA:AR Y)(hB:SL Y)(hC:C408 Y)(hD:C409 Y):tH (cu Y UM):=fun w hp0=>by
 refine zk21 ?_;intro u0;refine cz (0) (hj:=fun hf=>cr) (hb:=fun hf=>cr) ?_;refine qo ?_;refine cz (0) (hj:=fun hf=>cr) (hb:=fun hf=>cr) ?_;refine qo ?_;refine cz (0) (hj:=fun hf=>cr) (hb:=fun hf=>cr) ?_;refine zc ?_ ?_<;>intro hc0
 .refine zr ?_;unfold fN xl;grind
 refine zg ?_;intro u1;refine zf hm (fun i=>[.u 2,.p 0 1,.i w.us.length,.u 1,.i i,.i w.us.length,.u 1,.m 3 w.us c9.D,.u 10]) (fun i=>[(0,.buf 1 [b6.D w])]) 41 (fun i=>i<=w.us.length/\w.us.length<=48/\fN w=bO (mY w.us) i w.us.length) (fun i=>w.us.length-i) ⟨ae,ae,by unfold fN xl;grind⟩ [(0,0)] ?_;rintro i ⟨hi,h48,hr⟩;refine zc ?_ ?_<;>intro hc1
 .refine pA ?_;refine bS _ ?_;refine dx ?_;have ho:=TY w.us[i-1]! w.us[i]!;have hku:=hp0 _ (aq (show i<w.us.length by omega));refine fG ?_;refine cH ?_;refine cz ((i-1)) (hj:=fun hf=>cr) (hb:=fun hf=>cr) ?_;refine jS ?_;refine cz ((i-1)) (hj:=fun hf=>cr) (hb:=fun hf=>cr) ?_;refine cx ?_;refine bg (Key.D (⟨w.us[i-1]!.name,w.us[i-1]!.feat⟩:Key)) ?_;refine ez ?_;refine bg (Key.D (⟨w.us[i]!.name,w.us[i]!.feat⟩:Key)) ?_;refine zc ?_ ?_<;>intro hc2
  .refine zr ?_;rw[hr,ay ae];unfold mY;grind
  refine zg ?_;intro u2;refine Z0 hm (fun k=>[.u 2,.p 0 1,.i w.us.length,.u 1,.i i,.i w.us.length,.u 1,.m 3 w.us c9.D,.i i,.p 1 3,.u 1,.i k,.i (w.us[i]!.cands.length:Nat),.u 1,.m 8 (w.us[i]!.cands) ei.D,.u 3]) (fun k=>[(0,.buf 1 [b6.D w]),(1,.buf 3 [c9.D (w.us[i]!)])]) 93 (fun k=>k<=w.us[i]!.cands.length/\bO (oG w.us.length w.us[i]!.cands) 0 w.us[i]!.cands.length=bO (oG w.us.length w.us[i]!.cands) k w.us[i]!.cands.length) (fun k=>w.us[i]!.cands.length-k) ⟨ae,rfl⟩ [(0,0),(45,1)] ?_;rintro k ⟨hk,hr2⟩;refine zg ?_;refine dE ?_ ?_<;>intro hc3
  .refine fQ ?_;refine ml ?_ hm;refine aO ?_;refine bF ?_;refine cz (k) (hj:=fun hf=>cr) (hb:=fun hf=>cr) ?_;refine c8 (v:=ei.D ((w.us[i]!.cands)[k]!)) (hi:=fun hf=>cr) ?_;refine xX ?_;refine bF ?_;refine bS _ ?_;refine bp (env':=[_,_,_,_,_,_,_,_,_,_,_,_,_,_,_,_,⟨_,_⟩,⟨_,(.int _ _)⟩,_]) ?_;refine aO ?_;refine RJ ?_;refine pZ (v:=(bZ.D _)) ?_;refine aB (hc:=hA _ ?_) ?_;rotate_left;first|assumption|omega|exact⟨hku.2 _ (aq ae),hku.2 _ (aq ae)⟩|exact(hku.2 _ (aq ae)).1|exact hku.2 _ (aq ae)|exact⟨(hku.2 _ (aq ae)).1,(hku.2 _ (aq ae)).1⟩
   refine RM ?_;refine bF ?_;refine bF ?_;refine kQ ?_;refine bF ?_;refine RJ ?_;refine pZ (v:=.sl 8 ((w.us[i]!.cands).map ei.D)) ?_;refine bF ?_;refine BN (hb:=fun hf=>cr) ?_;refine cz ((k-1)) (hj:=fun hf=>cr) (hb:=fun hf=>cr) ?_;refine Am ?_;refine c8 (v:=bZ.D ((w.us[i]!.cands)[(k-1)]!.v)) (hi:=fun hf=>cr) ?_;refine RJ ?_;refine pZ (v:=(bZ.D _)) ?_;refine bQ (hc:=fun hf=>hB ((w.us[i]!.cands)[(k-1)]!.v) _ ?_) ?_;rotate_left;first|assumption|omega|exact⟨hku.2 _ (aq ae),hku.2 _ (aq ae)⟩|exact(hku.2 _ (aq ae)).1|exact hku.2 _ (aq ae)|exact⟨(hku.2 _ (aq ae)).1,(hku.2 _ (aq ae)).1⟩
   refine HC ?_;refine uU ?_;refine Dn ?_;refine bF ?_;refine mc ?_;refine bF ?_;refine bQ (hc:=fun hf=>hD _ _ ?_) ?_;rotate_left;first|assumption|omega|exact⟨hku.2 _ (aq ae),hku.2 _ (aq ae)⟩|exact(hku.2 _ (aq ae)).1|exact hku.2 _ (aq ae)|exact⟨(hku.2 _ (aq ae)).1,(hku.2 _ (aq ae)).1⟩
   refine RM ?_;refine Dn ?_;refine bp (env':=[_,_,_,_,_,_,_,_,_,_,_,_,_,_,_,_,_,_,⟨_,(.bool _)⟩]) ?_;refine Bw ?_ ?_<;>intro hc4
   .refine zr ?_;rw[hr,ay (i:=i) ae];unfold mY;rw[hr2,ay (i:=k) ae];simp only[oG];grind
   refine gh (k+1) [(0,0),(1,1)] ?_;rw[hr2,ay ae];simp only[oG];grind
  refine zl (i+1) [(0,0)] ?_;exact⟨ae,h48,by rw[hr,ay ae];unfold mY;rw[hr2,bB (i:=k) ae];grind⟩
 refine zr ?_;rw[hr,bB ae]
def Ua:aj:=bc 45
def w504 (hA:C75 Y)(hB:SO Y)(hC:U7 Y):Ja (cu Y Ua):=fun s r hp0=>by
 refine zc ?_ ?_<;>intro hc0
 .refine cx ?_;refine bM [.str [],.aJ] ?_;refine zr ?_;rw[put_1 hc0];rfl
 refine zc ?_ ?_<;>intro hc1
 .refine cH ?_;refine bM [.str [],.aJ] ?_;refine zr ?_;rw[put_2 hc0 hc1];rfl
 refine qo ?_;refine aB (hc:=hC (s.es) (r.name) (r.v) (by first|assumption|exact hp0.1|exact hp0.2|exact⟨fun x hx=>(hp0.1 x hx).1.2,hp0.2.1.2⟩)) ?_;refine zc ?_ ?_<;>intro hc2
 .refine cH ?_;refine bM [.str [],.aJ] ?_;refine zr ?_;rw[put_3 hc0 hc1 hc2];rfl
 refine zg ?_;intro u0;refine Bw ?_ ?_<;>intro hc3
 .refine cH ?_;refine bM [.str [],.aJ] ?_;refine zr ?_;rw[put_4 hc0 hc1 hc2 ae];rfl
 refine cx ?_;refine bh 0 ?_ (he:=aae) (hm:=aae);refine cx ?_;refine YD (v:=.str s.name) ?_;refine cx ?_;refine xW (he:=lT.sl) (n:=s.es.length) (hn:=aG) (hb:=ae) ?_;refine cx ?_;refine bg (kr.D (⟨r,wm r,false⟩:kr)) ?_;refine ba [kr.D (⟨r,wm r,false⟩:kr)] ?_;refine cJ (q:=kr.D) (xs:=s.es) (e:=(⟨r,wm r,false⟩:kr)) (hb:=ae) ?_;refine bM [.str s.name,.own 40 11 0 (s.es++[(⟨r,wm r,false⟩:kr)]).length] ?_;refine dx ?_;refine bh 40 ?_;refine zr ?_;rw[put_5 hc0 hc1 hc2 ae];rfl
def O7:aj:=bc 44
def w503 {Y:Ctx}(hm:(Y.at 0).bR)(hA:SO Y)(hB:U7 Y):I9 (cu Y O7):=fun s nm v on hp0=>by
 refine zc ?_ ?_<;>intro hc0
 .refine cx ?_;refine bM [.str [],.aJ] ?_;refine zr ?_;rw[akN hc0];rfl
 refine jS ?_;refine aB (hc:=hB (s.es) (nm) (v) (by first|assumption|exact hp0.1|exact⟨fun x hx=>(hp0.1 x hx).1.2,hp0.2⟩)) ?_;refine zc ?_ ?_<;>intro hc1
 .refine cx ?_;refine bM [.str [],.aJ] ?_;refine zr ?_;rw[akO hc0 hc1];rfl
 refine cx ?_;have h64:s.es.length<=64:=(adK hc0).2;obtain⟨j,hj,hjl⟩:=(BL (l:=s.es) (nm:=nm) (v:=v)).resolve_left ae;refine cx ?_;refine sE (ys:=s.es.map kr.D) (n:=s.es.length) (he:=lT.sl) (hn:=aG) (hb:=ae) ?_;refine pA ?_;refine kg ((s.es.set j {s.es[j]! with off:=on}).map kr.D) (hi:=j6) (he:=H9 hjl rfl) ?_;refine cx ?_;have hsl:(s.es.set j {s.es[j]! with off:=on}).length=s.es.length:=List.length_set;refine dx ?_;refine bM [.str s.name,.own 17 11 0 s.es.length] ?_;refine bS (.agg [.str s.name,.own 17 11 0 (s.es.set j {s.es[j]! with off:=on}).length]) (he:=by rw[List.length_set];exact rfl) ?_;refine cx ?_;refine bh 17 ?_;refine zr ?_;rw[akP hc0 hj];rfl
def EU:aj:=bc 30
def w153:Iv (cu Y EU):=fun a b=>by
 refine zg ?_;intro u0 u1;refine dE ?_ ?_<;>intro hc0
 .refine zr ?_;rw[eq_comm,cK];intro h;rw[h]at hc0;exact hc0 rfl
 refine zg ?_;refine zf hm (fun i=>[.m 1 a (D.int .i64),.m 1 b (D.int .i64),.u 2,.i i,.u 2]) (fun i=>[]) 7 (fun i=>(i<=a.length/\a.length=b.length)/\decide (a=b)=bO (fun i=>decide (a[i]! =b[i]!)) i a.length) (fun i=>a.length-i) ⟨⟨ae,ae⟩,ML ae⟩ [] ?_;rintro i ⟨⟨hi,hab⟩,hr⟩;refine zg ?_;intro u2;refine dE ?_ ?_<;>intro hc1
 .refine zc ?_ ?_<;>intro hc2
  .refine zr ?_;rw[hr,ay ae,bI hc2];rfl
  refine zl (i+1) [] ?_;exact⟨⟨ae,hab⟩,by rw[hr,ay ae,bz hc2];rfl⟩
 refine zr ?_;rw[hr,bB ae]
def Oq:aj:=bc 17
def w111 {Y:Ctx}(hm:(Y.at 0).bR)     :wkk Y Oq (.sl 1 (cF.map D.str)) []:=by
 refine ez ?_;refine ba (cF.map D.str) ?_;refine cx ?_;refine bh 1 ?_;exact mr
def Lu:aj:=bc 18
def w135 {Y:Ctx}(hm:(Y.at 0).bR)     :wkk Y Lu (.sl 1 (j2.map D.str)) []:=by
 refine ez ?_;refine ba (j2.map D.str) ?_;refine cx ?_;refine bh 1 ?_;exact mr
def Ox:aj:=bc 80
def w536:Jh (cu Y Ox):=fun l s=>by
 refine zg ?_;refine zf hm (fun i=>[.m 1 l D.str,.e (.str s),.u 1,.i i,.u 2]) (fun i=>[]) 2 (fun i=>i<=l.length/\fY (fun t=>decide (t=s)) l 0=fY (fun t=>decide (t=s)) (l.drop i) i) (fun i=>l.length-i) ⟨ae,rfl⟩ [] ?_;rintro i ⟨hi,hr⟩;refine zg ?_;intro u0;refine dE ?_ ?_<;>intro hc0
 .refine zc ?_ ?_<;>intro hc1
  .refine zr ?_;unfold EK;rw[hr,jc ae mK,ai ae]
  refine gh (i+1) [] ?_;rw[hr,hY ae mK]
 refine zr ?_;unfold EK;rw[hr,jJ ae];rfl
def vP:aj:=bc 38
def w297 {Y:Ctx}(hm:(Y.at 1).bR)(hA:GB (Y.at 1))(hB:C111 (Y.at 1))(hC:C536 (Y.at 1))(g:Gs)(own:av)(hp0:0<=g.i/\g.i<=990000):dp (Y.at 1) vP.body (GG vP 2 (.str (cS g own).1) (Gs.D (cS g own).2):Ex->List aX->St->Prop) (fq vP (.ptr 0 2 0 0::[.str own])) ⟨1,[(0,.buf 2 [(Gs.D g)])]⟩:=by
 show dp _ _ _ [⟨true,.ptr 0 2 0 0⟩,⟨true,.str own⟩,.un,.un,.un,.un] ⟨1,[(0,.buf 2 [(Gs.D g)])]⟩;refine aO ?_;refine dx ?_;have r4:=g.eI 4 ae;have r3:=g.aS.eI 3 ae;have rz:=W6 cF own;simp only[cF,bE,b7]at rz;refine pA ?_;intro u0;refine dh (hc:=hA g 4 ae iE) ?_;refine cz (g.val 4).toNat (hj:=fun _=>ae) (hb:=fun _=>pz) ?_;refine c8 (v:=.str cF[(g.val 4).toNat]!) (hi:=fun _=>pz) ?_;refine zc ?_ ?_<;>intro hc0
 .refine ez ?_;refine dh (hc:=hA g.aS 3 ae iE) ?_;refine ez ?_;refine lO (hb:=by first|omega|(simp only[cF]at rz⊢;omega)) ?_;refine cx ?_;intro u1;refine Ao ((g.aS.val 3+1+EK cF own)%4) (hn:=by intro _;decide) (hb:=fun _=>Int.tmod_eq_emod_of_nonneg (by first|omega|(simp only[cF]at rz⊢;omega))) ?_;refine cz ((g.aS.val 3+1+EK cF own)%4).toNat (hj:=fun _=>ae) (hb:=fun _=>pz) ?_;refine c8 (v:=.str cF[((g.aS.val 3+1+EK cF own)%4).toNat]!) (hi:=fun _=>pz) ?_;refine zg ?_;refine iV trivial iF (cU ah (aw D.str ?_)) (by unfold cS;rw[ak hc0];exact rfl) ah ah;unfold cS;rw[ak hc0]
 refine zg ?_;refine iV trivial iF (cU ah (aw D.str ?_)) (by unfold cS;rw[ai hc0];exact rfl) ah ah;unfold cS;rw[ai hc0]
def Lw:aj:=bc 33
def w138 (hA:SM Y):tF (cu Y Lw):=fun e=>by
 refine zg ?_;refine zf hm (fun i=>[.u 2,.p 0 3,.i i,.u 1,.e (Env.D e),.u 2]) (fun i=>[(0,.buf 3 [Env.D e])]) 5 (fun i=>i<=3/\o8 e=bO (fun i=>decide (e.at i=[]) ||gr (e.at i)) i 3) (fun i=>3-i) ⟨ae,rfl⟩ [(0,0)] ?_;rintro i ⟨hi,hr⟩;refine zc ?_ ?_<;>intro hc0
 .refine dx ?_;refine r_ixA i (.str (e.at i)) (hv:=fun _=>Env.cut e ae) ?_;refine zg ?_;refine wp_cond (fun hc1=>?_) (fun hc1=>?_)
  .simp only[aN,cG,cK]at hc1;refine zr ?_;rw[hr,ay ae];rw[bI hc1.1,hc1.2];rfl
  simp only[eo,dH,bn]at hc1;refine gh (i+1) [(0,0)] ?_;rw[hr,ay ae];rw[show(decide (e.at i=[]) ||gr (e.at i))=true by rw[dI,bn];exact hc1];rfl
 refine zr ?_;rw[hr,bB ae]
def ES:aj:=bc 71
def w553 (hA:SK Y)(hB:AR Y)(hC:SM Y):ug (cu Y ES):=fun x hp0=>by
 refine zg ?_;intro u0;refine zf hm (fun i=>[.u 2,.p 0 9,.i i,.i x.feats.length,.u 1,.m 1 x.feats D.str,.u 4]) (fun i=>[(0,.buf 9 [dm.D x])]) 7 (fun i=>i<=x.feats.length/\bO (nO x.feats) 0 x.feats.length=bO (nO x.feats) i x.feats.length) (fun i=>x.feats.length-i) ⟨ae,rfl⟩ [(0,0)] ?_;rintro i ⟨hi,hr⟩;refine zc ?_ ?_<;>intro hc0
 .refine fG ?_;refine pA ?_;refine cz (i-1) ?_;refine zc ?_ ?_<;>intro hc1
  .refine zr ?_;have hz:nO x.feats i=false:=by
    simp only[nO];revert hc1;generalize gr x.feats[i]! =z0;generalize Op.bytesLess x.feats[i-1]! x.feats[i]! =z1;by_cases e0:0<i<;>cases z0<;>cases z1<;>simp_all
   simp only[A6];rw[hr,ay ae,hz];simp
  refine zg ?_;have hz:nO x.feats i=true:=by
   simp only[nO];revert hc1;generalize gr x.feats[i]! =z0;generalize Op.bytesLess x.feats[i-1]! x.feats[i]! =z1;by_cases e0:0<i<;>cases z0<;>cases z1<;>simp_all
  refine gh (i+1) [(0,0)] ?_;rw[hr,ay ae,hz];rfl
 refine fG ?_;refine fG ?_;refine ko ?_;refine bQ (hc:=fun hf=>hB x.v hp0.1) ?_;refine zr ?_;simp only[A6];rw[hr,bB ae];have h9:decide ((x.feats.length:Int)<=9)=decide (x.feats.length<=9):=lJ.2 ae;rw[h9];have hc:x.shelf=[]->dn x.shelf=false:=by intro e;rw[e];rfl
 revert hc;generalize dn x.name=a;generalize gy x.v=b;generalize dn x.shelf=c;generalize decide (x.feats.length<=9)=d;by_cases e:x.shelf=[]<;>by_cases e2:x.sum=0<;>cases a<;>cases b<;>cases c<;>cases d<;>simp_all
def Pe:aj:=bc 146
def w754 (hA:C903 Y)(hB:C907 Y)(hC:C908 Y):JI (cu Y Pe):=fun all r e hp0=>by
 refine cH ?_;have hbl:=hp0.1.1.2.1.2;refine zg ?_;refine zf hm (fun i=>[.m 2 all Key.D,.u 3,.i i,.p 1 9,.u 2,.p 2 3,.u 1,.o 0 3 (((r.bars.take i).flatMap (qq all e))).length]) (fun i=>[(0,.buf 3 ((((r.bars.take i).flatMap (qq all e))).map Want.D)),(1,.buf 9 [Rec.D r]),(2,.buf 3 [Env.D e])]) 5 (fun i=>i<=r.bars.length) (fun i=>r.bars.length-i) ae [(0,1),(1,2)] ?_;intro i hi;have hol:=S6 all e r.bars i;refine zg ?_;intro u0;refine dE ?_ ?_<;>intro hc0
 .refine uK ?_;refine bg (Key.D ⟨r.bars[i]!.name,[]⟩) ?_;refine fG ?_;refine bQ (hc:=fun hf=>hB ((r.bars)[i]!.when') (e) aav) ?_;refine zc ?_ ?_<;>intro hc1
  .refine wA ?_;refine aB (hc:=hC ((r.bars)[i]!.range) aav) ?_;refine bg (Want.D (⟨eP all ⟨r.bars[i]!.name,[]⟩,eR r.bars[i]!.range⟩:Want)) ?_;refine ba [Want.D (⟨eP all ⟨r.bars[i]!.name,[]⟩,eR r.bars[i]!.range⟩:Want)] ?_;refine cJ (q:=Want.D) (xs:=((r.bars.take i).flatMap (qq all e))) (e:=(⟨eP all ⟨r.bars[i]!.name,[]⟩,eR r.bars[i]!.range⟩:Want)) (hb:=ae) ?_;refine zg ?_;rw[<-agQ hc1,Qz ae];exact iq (i+1) [(43,0),(1,1),(2,2)]
  refine zg ?_;rw[show((r.bars.take i).flatMap (qq all e))=(r.bars.take (i+1)).flatMap (qq all e)from by rw[<-Qz ae,agP hc1,gD]];exact iq (i+1) [(0,0),(1,1),(2,2)]
 refine cx ?_;obtain rfl:i=r.bars.length:=ae;rw[List.take_length];refine bh 0 ?_;exact mr
def Un:aj:=bc 153
def w381:IP (cu Y Un):=fun n hp0=>by
 refine cH ?_;obtain⟨j,rfl⟩:∃j:Nat,n=(j:Int):=⟨n.toNat,ae⟩
 simp only[Int.toNat_natCast];refine zg ?_;refine zf hm (fun i=>[.i j,.u 1,.i i,.u 1,.i ((2^i))]) (fun i=>[]) 3 (fun i=>i<=j) (fun i=>j-i) ae [] ?_;intro i hi;have hpb:=FN (k:=i) ae;have hpp:=pX i;refine zc ?_ ?_<;>intro hc0
 .refine ez ?_;refine xY (hb:=ae) ?_;refine zg ?_;rw[show(2:Int)^i*2=2^(i+1)from(Int.pow_succ 2 i).symm];exact iq (i+1) []
 refine cx ?_;obtain rfl:i=j:=ae;exact mr
def Pt:aj:=bc 99
def w158 {Y:Ctx}(hm:(Y.at 0).bR)(hA:C381 Y):Iw (cu Y Pt):=fun w u hp0=>by
 refine zc ?_ ?_<;>intro hc0
 .refine zr ?_;unfold nR;rw[ak ae]
 refine cx ?_;obtain⟨j,rfl⟩:∃j:Nat,u=(j:Int):=⟨u.toNat,ae⟩
 have hjl:j<w.us.length:=ae;have hju:=(hp0 _ (aq hjl)).1;have hpb:=FN (k:=w.us[j]!.cands.length+1) ae;have hpp:=pX (w.us[j]!.cands.length+1);refine qo ?_;intro u0;refine r_mn ((w.us[j]!.cands.length:Nat):Int) (hv:=fun _=>ai ae) ?_;refine cx ?_;refine BN (hb:=by simp only[Int.toNat_natCast,show(((w.us[j]!.cands.length:Nat):Int)+1).toNat=w.us[j]!.cands.length+1 from rfl];omega) ?_;refine zr ?_;unfold nR;rw[ai ae];rfl
def Mj:aj:=⟨2,7,[⟨2,none⟩],ha1,(sq (rg [gb 2 s1,gm rM] [(5,0),(2,1)]) (sq (sq (r1 [gm rM] 3 0) (.block 0 (.loop (sq (sq (r1 [gm s3,gm s0,gl l1,lz l0 l2] 4 3) (US s4 0)) (sq (.block 1 (sq (r2 [gm s0,gm s3,ga 2 l0 l1,gk 2 true l2,gk 2 true s5,gn (.eqA false true [.s,.s] l3 l4)] 6 5) (.cond s6 (sq (r1 [gm s3,gm l0] 2 1) .ret) .skip))) (r1 [gm s3,mE l0 Kq,gm l1] 3 2)))))) (sq (r1 [gn (.mv (.c (.int .i64 (-1))))] 2 0) .ret)))⟩
def w903:JT (cu Y Mj):=fun l k=>by
 refine zg ?_;refine zf hm (fun i=>[.m 2 l Key.D,.u 2,.i i,.u 1,.p 0 2,.u 1]) (fun i=>[(0,.buf 2 [Key.D k])]) 3 (fun i=>i<=l.length/\eP l k=fY (fun x=>decide (x=k)) (l.drop i) i) (fun i=>l.length-i) ⟨ae,rfl⟩ [(0,0)] ?_;rintro i ⟨hi,hr⟩;refine zg ?_;intro u0;refine dE ?_ ?_<;>intro hc0
 .refine zc ?_ ?_<;>intro hc1
  .refine zr ?_;rw[hr,jc ae mK]
  refine gh (i+1) [(0,0)] ?_;rw[hr,hY ae mK]
 refine zr ?_;rw[hr,jJ ae]
def Pg:aj:=bc 233
def w1015 (hA:C501 Y):Eo (cu Y Pg):=fun y ns r hp0=>by
 refine zg ?_;refine zf hm (fun i=>[.u 3,.i i,.p 0 8,.u 1,.p 1 9,.u 1]) (fun i=>[(0,.buf 8 [cD.D y (fdR y ns)]),(1,.buf 9 [Rec.D r])]) 4 (fun i=>i<=y.keeps.length/\Lh y.keeps r=(y.keeps.drop i).any fun k=>decide (k.name=r.name)&&LI k.v r.v) (fun i=>y.keeps.length-i) ⟨ae,rfl⟩ [(0,0),(1,1)] ?_;rintro i ⟨hi,hr⟩;refine zg ?_;intro u0;refine dE ?_ ?_<;>intro hc0
 .refine zc ?_ ?_<;>intro hc1
  .refine zr ?_;rw[hr,wK ae mK]
  refine gh (i+1) [(0,0),(1,1)] ?_;rw[hr,B0 ae (by rcases hc1 with h|h<;>simp_all)]
 refine zr ?_;rw[hr,wJ ae]
def YX:aj:=bc 193
def w905 {Y:Ctx}(hm:(Y.at 0).bR)(hA:C955 Y):JV (cu Y YX):=fun l nm=>by
 refine zc ?_ ?_<;>intro hc0
 .refine zr ?_;rw[show uT l nm=[]from ak hc0];rfl
 refine cx ?_;obtain⟨j,hj,hjl⟩:=(Th l nm).resolve_left ae;refine zr ?_;rw[show uT l nm=l[j]!.of from by unfold uT;rw[ai hc0,hj,Int.toNat_natCast]];rfl
def Us:aj:=bc 221
def w375 {Y:Ctx}(hm:(Y.at 0).bR)     :wkk Y Us (cy.D Rw) []:=by
 refine ez ?_;refine bM _ ?_;refine bS _ ?_;exact mr
end Go.Abs
end
