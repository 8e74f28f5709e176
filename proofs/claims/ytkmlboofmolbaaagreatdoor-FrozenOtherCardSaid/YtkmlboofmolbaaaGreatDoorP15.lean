/- A part of the proofs. -/
import Derived.Test.YtkmlboofmolbaaaGreatDoorP09
set_option linter.all false
set_option maxRecDepth 60000
set_option maxHeartbeats 2000000
noncomputable section
namespace Go.Abs
variable {Y:Ctx}(hm:(Y.at 0).bU)
def ZE:aj:=bc 136
def w453 (hm:(Y.at 0).bU):Jm (cw Y ZE):=λc=>by
 exact lU
def PS:aj:=bc 137
def w454 (hm:(Y.at 0).bU):Jn (cw Y PS):=λc=>by
 exact lU
def UP:aj:=bc 99
def w357 (hA:C453 Y)(hB:C454 Y):tT (cw Y UP):=λs=>by
 refine zg ?_;intro u0;refine dP ?_ ?_<;>intro hc0
 .refine zr ?_;symm;simp only[gL,ep,ct];exact Or.inl ae
 refine zg ?_;refine zf hm (λi=>[.e (.str s),.u 2,.i i,.u 2]) (λi=>[]) 10 (λi=>i<=s.length/\gL s=bW (λi=>Gx (at8 s i)) i s.length) (λi=>s.length-i) ⟨ae,by simp only[gL];rw[br ae,br ae];rfl⟩ [] ?_;rintro i ⟨hi,hr⟩;refine zg ?_;intro u1;refine dP ?_ ?_<;>intro hc1
 .refine zc ?_ ?_<;>intro hc2
  .refine zr ?_;rw[hr,aB ae];simp[Gx,hc2]
  refine gM (i+1) [] ?_;rw[hr,aB ae];simp[Gx,hc2]
 refine zr ?_;rw[hr,bE ae]
def UO:aj:=bc 92
def w216 (hA:C453 Y)(hB:C454 Y):tL (cw Y UO):=λs=>by
 refine En ?_;intro u0;refine Ah 0 ?_;refine pA ?_;refine Ah (s.length-1) ?_;refine zc ?_ ?_<;>intro hc0
 .refine zr ?_;symm;simp only[df];rcases hc0 with(h|h)|h
  .rcases h with h|h<;>simp<;>omega
  .simp[h]
  .simp[h]
 refine zg ?_;refine zfx hm (1:Nat) (λi=>[.e (.str s),.u 2,.i i,.u 2]) (λi=>[]) 24 (λi=>i<=s.length/\1<=i/\df s=bW (nch s) i s.length) (λi=>s.length-i) ⟨ae,ae,by simp only[df];rw[br ae,br ae,hc0.1.2,bL hc0.2];rfl⟩ [] ?_;rintro i ⟨hi,hi1,hr⟩;refine zg ?_;intro u1;refine dP ?_ ?_<;>intro hc1
 .refine gZ ?_;refine gZ ?_;refine cX ?_;refine Ah (i-1) ?_;refine zc ?_ ?_<;>intro hc2
  .refine zr ?_;rw[hr,aB ae];simp only[nch];revert hc2;generalize jU (at8 s i)=x;generalize bJ (at8 s i)=y;by_cases h1:at8 s i=45<;>by_cases h2:at8 s (i-1)=45<;>cases x<;>cases y<;>simp_all
  refine zl (i+1) [] ?_;exact⟨ae,ae,by rw[hr,aB ae];simp only[nch];revert hc2;generalize jU (at8 s i)=x;generalize bJ (at8 s i)=y;by_cases h1:at8 s i=45<;>by_cases h2:at8 s (i-1)=45<;>cases x<;>cases y<;>simp_all⟩
 refine zr ?_;rw[hr,bE ae]
def MV:aj:=bc 133
def w667 (hA:C454 Y):uj (cw Y MV):=λs=>by
 refine zk20 ?_;intro u0;refine Ah 0 ?_;refine zc ?_ ?_<;>intro hc0
 .refine zg ?_;refine fK (bT (aw (D.int .i64) ?_) (aw D.bool ?_));all_goals
   have:ot s=false:=by
    simp only[ot];rcases hc0 with(h|h)|h
    .rw[bL (by omega:¬1<=s.length)];rfl
    .rw[bL (by omega:¬s.length<=9)];simp
    .rw[br (by omega:1<s.length),br h.2];simp
   simp[C6,this]
 refine zg ?_;have hP:ot s=(bW (λi=>bJ (at8 s i)) 0 s.length&&decide (e7 s<=9999)):=by
  simp only[ot];rw[br (by omega:1<=s.length),br (by omega:s.length<=9)];rcases hc0.2 with h|h
  .rw[bL (by omega:¬1<s.length)];rfl
  .rw[bL h,Bool.and_false];rfl
 refine zf hm (λi=>[.e (.str s),.u 3,.i i,.u 2,.i (e7 (s.take i):Nat),.u 1]) (λi=>[]) 22 (λi=>i<=s.length/\s.length<=9/\ot s=(bW (λi=>bJ (at8 s i)) i s.length&&decide (e7 s<=9999))) (λi=>s.length-i) ⟨ae,ae,hP⟩ [] ?_;rintro i ⟨hi,h9,hr⟩;refine zg ?_;intro u1;refine dP ?_ ?_<;>intro hc1
 .refine zg ?_;refine aQ (λhc2=>?_) (λhc2=>?_)
  .try simp only[gO]at hc2
   refine zg ?_;refine fK (bT (aw (D.int .i64) ?_) (aw D.bool ?_));all_goals
    have:ot s=false:=by rw[hr,aB ae,hc2];rfl
    simp[C6,this]
  simp only[cZ]at hc2;refine cX ?_;have h48:=hc2;simp only[bJ,aA,aT]at h48;have hn:=xy s i ae;have hn2:=Ac s i ae;have h256:=GU s i;refine cO ?_;refine xR ?_;refine dJ ?_;refine HZ (at8 s i-48) (hb:=λ_=>IntWalk.u8_in _ ae) ?_;refine rB (at8 s i-48) (hb:=λ_=>IntWalk.i64_in _ ae) ?_;refine dJ ?_;rw[show(e7 (s.take i):Int)*10+(at8 s i-48)=(e7 (s.take (i+1)):Nat)by omega];refine zl (i+1) [] ?_;exact⟨ae,h9,by rw[hr,aB ae,hc2];rfl⟩
 refine fE ?_;have ht:s.take i=s:=gU ae;rw[ht];refine bI ?_;refine pe ?_;refine bm (env':=[_,_,_,_,_,_,_,_,⟨_,(.bool _)⟩]) ?_;refine dP ?_ ?_<;>intro hc3
 .refine kB ?_;refine fK (bT (aw (D.int .i64) ?_) (aw D.bool ?_));all_goals
   have:ot s=false:=by rw[hr,bL ae,Bool.and_false]
   simp[C6,this]
 refine qp ?_;refine fK (bT (aw (D.int .i64) ?_) (aw D.bool ?_));all_goals
  have:ot s=true:=by rw[hr,bE ae,br ae];rfl
  simp[C6,this]
def Il:aj:=bc 134
def w668:uk (cw Y Il):=λt=>by
 refine zg ?_;refine zf hm (λi=>[.e (.str t),.u 1,.i i,.u 2]) (λi=>[]) 2 (λi=>i<=t.length/\bW (λi=>bJ (at8 t i)) 0 t.length=bW (λi=>bJ (at8 t i)) i t.length) (λi=>t.length-i) ⟨ae,rfl⟩ [] ?_;rintro i ⟨hi,hr⟩;refine zg ?_;intro u0;refine dP ?_ ?_<;>intro hc0
 .refine zc ?_ ?_<;>intro hc1
  .refine zr ?_;simp only[cP];rw[hr,aB ae];rcases hc1 with h|h<;>simp[bJ]<;>omega
  refine gM (i+1) [] ?_;rw[hr,aB ae];rw[show bJ (at8 t i)=true by simp only[bJ,aA,aT];omega];rfl
 refine zg ?_;intro u1;refine zr ?_;simp only[cP];rw[hr,bE ae];simp
def ZI:aj:=bc 132
def w666:JM (cw Y ZI):=λt=>by
 refine zg ?_;intro u0;refine dP ?_ ?_<;>intro hc0
 .refine zr ?_;symm;simp only[wi,ep,ct];exact Or.inl ae
 refine zg ?_;refine zf hm (λi=>[.e (.str t),.u 2,.i i,.u 3]) (λi=>[]) 10 (λi=>i<=t.length/\wi t=bW (λi=>nq (at8 t i)) i t.length) (λi=>t.length-i) ⟨ae,by simp only[wi];rw[br ae,br ae];rfl⟩ [] ?_;rintro i ⟨hi,hr⟩;refine zg ?_;intro u1;refine dP ?_ ?_<;>intro hc1
 .refine fZ ?_;refine mJ ?_ hm;refine aP ?_;refine bI ?_;refine bI ?_;first|refine Ah _ ?_|refine Zj ?_
  refine bI ?_;refine bm (env':=[_,_,_,_,_,⟨_,(.int _ _)⟩,_]) ?_;refine aP ?_;refine bI ?_;refine y9 ?_;refine bI ?_;refine bI ?_;refine pe ?_;refine Mt ?_;refine bI ?_;refine bI ?_;refine y9 ?_;refine bI ?_;refine bI ?_;refine pe ?_;refine Mt ?_;refine uU ?_;refine bI ?_;refine bI ?_;refine pf ?_;refine uU ?_;refine bm (env':=[_,_,_,_,_,_,⟨_,(.bool _)⟩]) ?_;refine Bo ?_ ?_<;>intro hc2
  .refine zg ?_;refine zr ?_;rw[hr,aB ae];have:nq (at8 t i)=false:=(by simp only[nq,jU,bJ,ec,ep,ct];omega);rw[this];rfl
  refine zg ?_;refine gM (i+1) [] ?_;rw[hr,aB ae];have:nq (at8 t i)=true:=(by simp only[nq,jU,bJ,dK,aA,aT];omega);rw[this];rfl
 refine zr ?_;rw[hr,bE ae]
def UU:aj:=bc 87
def w456 (hA:C470 Y)(hB:C666 Y)(hC:C667 Y)(hD:C668 Y):Jo (cw Y UU):=λs p hp0=>by
 refine zc ?_ ?_<;>intro hc0
 .refine zr ?_;simp[D4,hc0]
 refine zg ?_;intro u0;refine aQ (λhc1=>?_) (λhc1=>?_)
 .try simp only[gO]at hc1
  refine zr ?_;simp only[D4,sM];rw[bL hc0,bL ae];rfl
 simp only[ct]at hc1;refine zg ?_;refine zf hm (λi=>[.e (.str s),.e (.bool p),.u 2,.m 1 (ba s 46) D.str,.u 1,.i i,.u 4]) (λi=>[]) 10 (λi=>i<=(ba s 46).length/\D4 s p=bW (λi=>jq p (ba s 46)[i]!) i (ba s 46).length) (λi=>(ba s 46).length-i) ⟨ae,by simp only[D4,sM];rw[bL hc0,br ae];rfl⟩ [] ?_;rintro i ⟨hi,hr⟩;refine zg ?_;intro u1;refine dP ?_ ?_<;>intro hc2
 .refine zg ?_;refine aQ (λhc3=>?_) (λhc3=>?_)
  .simp only[cE]at hc3;refine zr ?_;rw[hr,aB ae];simp only[jq,hc3];rfl
  simp only[cZ]at hc3;refine zg ?_;refine wp_cond (λhc4=>?_) (λhc4=>?_)
  .skip
   refine zr ?_;have h5:jq p (ba s 46)[i]! =false:=aa7;rw[hr,aB ae,h5];rfl
  skip
  refine gM (i+1) [] ?_;rw[hr,aB ae];have h5:jq p (ba s 46)[i]! =true:=aa7;rw[h5];rfl
 refine zr ?_;rw[hr,bE ae]
def ZG:aj:=bc 86
def w455 (hm:(Y.at 0).bU):tY (cw Y ZG):=λn=>by
 exact lU
def ZF:aj:=bc 44
def w217 (hm:(Y.at 0).bU)(hA:C455 Y)(hB:C456 Y):tM (cw Y ZF):=λv hp0=>by
 refine En ?_;refine kB ?_;refine cv (hc:=λhf=>hB v.pre true hp0.1) ?_;refine fE ?_;refine cv (hc:=λhf=>hB v.build false hp0.2) ?_;exact lU
def acA:aj:=⟨1,5,re1,Vq,(sq (rg [gb 7 s0,gm cbF] [(2,0),(1,1)]) (sq (sq (r1 [gf 0 s2,gd l0,gn (zH l1 (.c (.int .i64 (-1)))),gm l2,gff 3 0 s2,gdf 3 l4,Bt 3 (zH l5 TY),go1 l3 l6] 3 7) (.cond s3 (sq (r1 [gf 1 s2,gk 5 true l0,gn (.build [.int .i64 0,.int .i64 0,.int .i64 0,.str [],.str []] []),gn (.eqA false true [.i .i64,.i .i64,.i .i64,.s,.s] l1 l2),gm l3,Rt 4 6 s2,gdt 4 l5,AU 4 (.un .not l6),ga1 l4 l7,gm l8] 1 9) .ret) (sq (r1 [gf 0 s2,gd l0,sv l1 yy] 4 2) (gcr s4 cbF)))) (sq (r1 [gf 1 s2,gk 5 true l0,gx 209 [l1] ha5,gm l2,Rt 3 1 s2,Rt 3 4 l4,gdt 3 l5,AU 3 (zH l6 cse),ga1 l3 l7,gm l8] 1 9) .ret)))⟩
def w1087 (hm:(Y.at 0).bU)(hA:AK Y):qk (cw Y acA):=λc hp0=>by
 refine zc ?_ ?_<;>intro hc0
 .refine fE ?_;refine a7 (bV.D (⟨0,0,0,[],[]⟩)) ?_;refine zr ?_;first|(grind [pI,zV];done)|(simp_all[pI,zV];done)
 refine zc ?_ ?_<;>intro hc1
 .refine zr ?_;first|(grind [pI,zV];done)|(simp_all[pI,zV];done)
 refine zr ?_;first|(grind [pI,zV];done)|(simp_all[pI,zV];done)
def Lb:aj:=bc 234
def w1024 (hm:(Y.at 0).bU)(hA:Tg Y)(hB:C532 Y)(hC:QQ Y):qi (cw Y Lb):=λa b hp0=>by
 refine zc ?_ ?_<;>intro hc0
 .refine zr ?_;first|(grind [lg,dn];done)|(simp_all[lg,dn];done)
 refine zc ?_ ?_<;>intro hc1
 .refine zr ?_;first|(grind [lg,dn];done)|(simp_all[lg,dn];done)
 refine zc ?_ ?_<;>intro hc2
 .refine zr ?_;first|(grind [lg,dn];done)|(simp_all[lg,dn];done)
 refine zc ?_ ?_<;>intro hc3
 .refine zr ?_;first|(grind [lg,dn];done)|(simp_all[lg,dn];done)
 refine zc ?_ ?_<;>intro hc4
 .refine zr ?_;first|(grind [lg,dn];done)|(simp_all[lg,dn];done)
 refine zr ?_;first|(grind [lg,dn];done)|(simp_all[lg,dn];done)
def TF:aj:=bc 244
def w1055 (hm:(Y.at 0).bU)(hA:AK Y)(hB:Tg Y)(hC:QQ Y):qj (cw Y TF):=λc v hp0=>by
 refine zc ?_ ?_<;>intro hc0
 .refine zr ?_;first|(grind [j4];done)|(simp_all[j4];done)
 refine zc ?_ ?_<;>intro hc1
 .refine zr ?_;first|(grind [j4];done)|(simp_all[j4];done)
 refine zr ?_;first|(grind [j4];done)|(simp_all[j4];done)
def Ld:aj:=bc 233
def w1023 (hm:(Y.at 0).bU)(hA:Vy Y)(hB:QQ Y):qh (cw Y Ld):=λs hp0=>by
 refine qp ?_;refine aF (hc:=hB (s.f) jK) ?_;refine dJ ?_;refine cv (hc:=λhf=>hB (s.t) jK) ?_;refine zr ?_;first|(grind [qa];done)|(simp_all[qa];done)
def TG:aj:=bc 206
def w980 (hm:(Y.at 0).bU)(hA:AK Y)(hB:Vx Y)(hC:ae3 Y):uu (cw Y TG):=λs v hp0=>by
 refine En ?_;refine cO ?_;refine cv (hc:=λhf=>hC (s.f) (v) jK) ?_;refine k9 ?_;refine cv (hc:=λhf=>hC (s.t) (v) jK) ?_;refine zr ?_;first|(grind [sg,qa];done)|(simp_all[sg,qa];done)
def aep:aj:=bc 202
def w925 (hA:Vx Y)(hB:Vy Y):ur (cw Y aep):=λl hp0=>by
 refine zg ?_;intro u0;refine zf hm (λi=>[.m 14 l Span.D,.u 1,.i i,.i l.length,.u 1,.m 14 l Span.D,.u 3]) (λi=>[]) 4 (λi=>i<=l.length/\sK l=bW (Ba l) i l.length) (λi=>l.length-i) ⟨ae,rfl⟩ [] ?_;rintro i ⟨hi,hr⟩;refine zc ?_ ?_<;>intro hc0
 .refine Ff ?_;refine aF (hc:=hA ((l)[i]!) jK) ?_;refine pA ?_;refine cK ((i-1)) (hj:=λhf=>ch) (hb:=λhf=>ch) ?_;refine fE ?_;refine cv (hc:=λhf=>hB ((l)[(i-1)]!.t) ((l)[i]!.f) jK) ?_;refine zc ?_ ?_<;>intro hc1
  .refine zr ?_;rw[hr,aB ae];first|(grind [Ba];done)|(simp_all[Ba];done)
  refine gM (i+1) [] ?_;rw[hr,aB ae];first|(grind [Ba];done)|(simp_all[Ba];done)
 refine zr ?_;rw[hr,bE ae]
def aeo:aj:=bc 171
def w861 (hA:C925 Y)(hB:C980 Y):uq (cw Y aeo):=λl v hp0=>by
 refine zc ?_ ?_<;>intro hc0
 .refine zr ?_;unfold vZ;simp_all
 refine zg ?_;intro u0;refine zf hm (λi=>[.m 14 l Span.D,.u 3,.i i,.i l.length,.u 1,.m 14 l Span.D,.u 1,.p 0 5,.u 1]) (λi=>[(0,.buf 5 [bV.D v])]) 8 (λi=>i<=l.length/\vZ l v=oF (λi=>sg l[i]! v) i l.length) (λi=>l.length-i) ⟨ae,by unfold vZ;rw[show sK l=true by simpa using hc0];rfl⟩ [(0,0)] ?_;rintro i ⟨hi,hr⟩;refine zc ?_ ?_<;>intro hc1
 .refine Em ?_;refine aF (hc:=hB ((l)[i]!) (v) jK) ?_;refine zc ?_ ?_<;>intro hc2
  .refine zr ?_;rw[hr,j1 ae];simp_all
  refine gM (i+1) [(0,0)] ?_;rw[hr,j1 ae];simp_all
 refine zr ?_;rw[hr,sZ ae]
def Ni:aj:=⟨1,3,re1,Vq,(sq (rg [gb 7 s0,gm cbF] [(2,0),(1,1)]) (sq (r1 [gf 0 s2,gd l0,sv l1 yy,gm l2,gff 3 6 s2,gdf 3 l4,Bt 3 (.un .not l5),gmf 3 l6,Rt 7 1 s2,Rt 7 3 l8,gdt 7 l9,AU 7 (zH l10 cse),gaf 3 l7 l11,gmf 3 l12,Rt 13 1 s2,AU 13 (.ld 5 true l14),AU 13 (.mv (.c (.agg [.int .i64 0,.int .i64 0,.int .i64 0,.str [],.str []]))),AU 13 (.eqA true true [.i .i64,.i .i64,.i .i64,.s,.s] l15 l16),gaf 3 l13 l17,go1 l3 l18,gm l19] 1 20) .ret))⟩
def w924 (hm:(Y.at 0).bU):Kj (cw Y Ni):=λc=>by
 refine En ?_;refine kB ?_;refine bI (d:=bV.D zV) ?_;refine zr ?_;first|(grind [rH,zV];done)|(simp_all[rH,zV];done)
def aew:aj:=bc 165
def w780 (hA:C924 Y)(hB:C925 Y):uo (cw Y aew):=λs hp0=>by
 refine zg ?_;intro u0;refine zf hm (λi=>[.u 2,.p 0 2,.i i,.i s.rel.length,.u 1,.m 14 s.rel Span.D,.u 2]) (λi=>[(0,.buf 2 [cx.D s])]) 6 (λi=>i<=s.rel.length/\v8 s=(bW (λi=>rH s.rel[i]!.f&&rH s.rel[i]!.t) i s.rel.length&&(sK s.rel&&sK s.pr))) (λi=>s.rel.length-i) ⟨ae,(aes s).symm⟩ [(0,0)] ?_;rintro i ⟨hi,hr⟩;refine zc ?_ ?_<;>intro hc0
 .refine zc ?_ ?_<;>intro hc1
  .refine zr ?_;rw[hr,aB ae];rcases hc1 with h|h<;>simp only[h,Bool.and_false,Bool.false_and]
  refine gM (i+1) [(0,0)] ?_;rw[hr,aB ae];simp_all
 refine k9 ?_;refine aF (hc:=hB (s.rel) jK) ?_;refine dJ ?_;refine cv (hc:=λhf=>hB (s.pr) jK) ?_;refine zr ?_;rw[hr,bE ae];simp
def aev:aj:=bc 125
def w712 (hm:(Y.at 0).bU)(hA:AK Y)(hB:C780 Y)(hC:C861 Y):ui (cw Y aev):=λs v hp0=>by
 refine zc ?_ ?_<;>intro hc0
 .refine zr ?_;first|(grind [oY];done)|(simp_all[oY];done)
 refine zc ?_ ?_<;>intro hc1
 .refine k9 ?_;refine aF (hc:=hC (s.rel) (v) jK) ?_;refine zr ?_;first|(grind [oY];done)|(simp_all[oY];done)
 refine k9 ?_;refine aF (hc:=hC (s.pr) (v) jK) ?_;refine zr ?_;first|(grind [oY];done)|(simp_all[oY];done)
def LC:aj:=bc 118
def w533:ue (cw Y LC):=λs b hp0=>by
 refine zg ?_;intro u0;refine gy hm (ι:=(Nat×Nat×List au)) (λp:Nat×Nat×List au=>[⟨true,.str s⟩,⟨true,.int .u8 b⟩,.un,⟨true,.int .i64 (p.1:Nat)⟩,⟨true,.int .i64 (s.length:Nat)⟩,.un,.un,.un,⟨true,.own 0 1 0 p.2.2.length⟩,⟨true,.int .i64 (p.2.1:Nat)⟩]) (λp=>[(0,.buf 1 (p.2.2.map D.str))]) 6 (λp=>p.1<=s.length/\p.2.1<=p.1/\p.2.2.length<=p.1/\ba s b=p.2.2++fA b (s.drop p.1) ((s.take p.1).drop p.2.1)) (λp=>s.length-p.1) (0,0,[]) ⟨aC,aC,aC,rfl⟩ (aZ.to [] ai ai aba (by repeat(first|exact bo.nil|refine bo.mt ai ai ai ai ?_))) ?_;rintro⟨i,fr,acc⟩ ⟨hi,hf,ha,hr⟩;dsimp only at hi hf ha hr⊢;refine zc ?_ ?_<;>intro hc0
 .refine zg ?_;refine wp_cond (λhc1=>?_) (λhc1=>?_)
  .try simp only[gO]at hc1
   refine kB ?_;refine bg [(.str _)] ?_;refine zg ?_;exact⟨(i+1,i+1,acc++[(s.take i).drop fr]),⟨mK,mK,fh,by rw[hr,Gi ae hc1];simp⟩,mK,(aZ.to [(20,0)] ai ai qqq6 (by refine bo.nl 20 ai ai ai dZ ?_;exact bo.nil))⟩
  simp only[ct]at hc1;refine zg ?_;exact⟨(i+1,fr,acc),⟨mK,mK,mK,by rw[hr,Gj ae ae hc1]⟩,mK,(aZ.to [(0,0)] ai ai qqq6 Ko)⟩
 refine qp ?_;refine bg [(.str _)] ?_;refine dJ ?_;refine bz 12 ?_;refine zr ?_;have hs:ba s b=acc++[s.drop fr]:=by rw[hr,DZ ae]
 rw[hs];exact rfl
def Be:aj:=bc 163
def w659:uk (cw Y Be):=λt=>by
 refine zg ?_;intro u0;refine zf hm (λi=>[.e (.str t),.u 1,.i i,.i t.length,.u 3]) (λi=>[]) 4 (λi=>i<=t.length/\bW (λi=>bJ (at8 t i)) 0 t.length=bW (λi=>bJ (at8 t i)) i t.length) (λi=>t.length-i) ⟨ae,rfl⟩ [] ?_;rintro i ⟨hi,hr⟩;refine zc ?_ ?_<;>intro hc0
 .refine zc ?_ ?_<;>intro hc1
  .refine zr ?_;simp only[cP];rw[hr,aB ae];rcases hc1 with h|h<;>simp[bJ]<;>omega
  refine gM (i+1) [] ?_;rw[hr,aB ae];rw[show bJ (at8 t i)=true by simp only[bJ,aA,aT];omega];rfl
 refine zr ?_;simp only[cP];rw[hr,bE ae];cases t<;>simp
def ID:aj:=bc 113
def w440 (hm:(Y.at 0).bU):tY (cw Y ID):=λn=>by
 exact lU
def IE:aj:=bc 115
def w442 (hA:VD Y):Jl (cw Y IE):=λs hp0=>by
 refine zg ?_;intro u0 u1;refine zf hm (λi=>[.u 2,.m 1 (ba s 46) D.str,.i i,.i ((ba s 46).length:Nat),.u 1,.m 1 (ba s 46) D.str,.u 7,.e (.bool (decide (((ba s 46).length:Int)<=4)))]) (λi=>[]) 11 (λi=>i<=(ba s 46).length/\sM s false=(decide ((ba s 46).length<=4)&&bW (λi=>jq false (ba s 46)[i]!) i (ba s 46).length)) (λi=>(ba s 46).length-i) ⟨ae,rfl⟩ [] ?_;rintro i ⟨hi,hr⟩;refine zc ?_ ?_<;>intro hc0
 .refine yr ?_;generalize ht:(ba s 46)[i]! =t;refine zc ?_ ?_<;>intro hc1
  .refine zr ?_;first
    |(rw[hr,bE ae,gC];exact lW.2 ae)
    |(have hb:wi t=false:=by
       first
       |(simp only[wi];rcases hc1 with h|h
         .subst h;simp
         .rw[bL (by omega:¬t.length<=8)];simp)
       |(have hz:nq (at8 t j)=false:=by
          rcases hcw with⟨_,h,_⟩|⟨_,h⟩<;>(simp only[nq,jU,bJ,ec,ep,ct];omega)
         rw[hj,aB hnx,hz];rfl)
      rw[hr,aB ae,show jq false (ba s 46)[i]! =false from(by simp only[jq,ht,hb,Bool.false_and])];simp)
  refine zg ?_;have hT:wi t=bW (λi=>nq (at8 t i)) 0 t.length:=by
   have:=List.length_pos_iff.2 hc1.1;simp only[wi];rw[br ae,br ae];rfl
  refine zfL hm (λj=>[.u 2,.m 1 (ba s 46) D.str,.i i,.i ((ba s 46).length:Nat),.u 1,.m 1 (ba s 46) D.str,.u 2,.e (.it 23),.u 4,.e (.bool (decide (((ba s 46).length:Int)<=4)))]) (λj=>[(23,.iter t j)]) 24 (λj=>j<=t.length/\wi t=bW (λi=>nq (at8 t i)) j t.length) (λj=>t.length-j) ⟨ae,hT⟩ [(23,23)] ?_;rintro j ⟨hj0,hj⟩;refine zg ?_;by_cases hnx:j<t.length
  .obtain⟨c,w,hdec,hw,hcw⟩:=wU t j hnx;refine HY c w (hp:=hnx) (hc:=hdec) ?_;refine zg ?_;refine aQ (t:=true) (λ_=>?_) (λh=>bZ);refine fZ ?_;refine lT ?_ hm;refine aP ?_;refine kV (.int _ _) ?_;refine bI ?_;refine bm (env':=[_,_,_,_,_,_,_,_,_,_,_,_,⟨_,(.int _ _)⟩,_,_]) ?_;refine aP ?_;refine bI ?_;refine y9 ?_;refine bI ?_;refine bI ?_;refine pe ?_;refine Mt ?_;refine bI ?_;refine bI ?_;refine y9 ?_;refine bI ?_;refine bI ?_;refine pe ?_;refine Mt ?_;refine uU ?_;refine bI ?_;refine bI ?_;refine pf ?_;refine uU ?_;refine bm (env':=[_,_,_,_,_,_,_,_,_,_,_,_,_,⟨_,(.bool _)⟩,_]) ?_;refine Bo ?_ ?_<;>intro hc3
   .refine zg ?_;refine rrrb ?_;first
     |(rw[hr,bE ae,gC];exact lW.2 ae)
     |(have hb:wi t=false:=by
        first
        |(simp only[wi];rcases hc1 with h|h
          .subst h;simp
          .rw[bL (by omega:¬t.length<=8)];simp)
        |(have hz:nq (at8 t j)=false:=by
           rcases hcw with⟨_,h,_⟩|⟨_,h⟩<;>(simp only[nq,jU,bJ,ec,ep,ct];omega)
          rw[hj,aB hnx,hz];rfl)
       rw[hr,aB ae,show jq false (ba s 46)[i]! =false from(by simp only[jq,ht,hb,Bool.false_and])];simp)
   refine dJ ?_;obtain⟨rfl,hat,-⟩:w=1/\(c:Int)=at8 t j/\c<128:=by
    rcases hcw with h|h
    .exact h
    .omega
   have hz:nq (at8 t j)=true:=by
    simp only[nq,jU,bJ,dK,aA,aT];omega
   refine gM (j+1) [(23,23)] ?_;rw[hj,aB hnx,hz];rfl
  .refine HX (hp:=hnx) ?_;refine zg ?_;refine aQ (t:=false) (λh=>bZ) (λ_=>?_);refine gM (i+1) [] ?_;rw[hr,aB ae];rw[show jq false (ba s 46)[i]! =true from(by simp only[jq,Bool.false_and,Bool.not_false,gC];rw[ht,hj,bE ae])];rfl
 refine zr ?_;first
  |(rw[hr,bE ae,gC];exact lW.2 ae)
  |(have hb:wi t=false:=by
     first
     |(simp only[wi];rcases hc1 with h|h
       .subst h;simp
       .rw[bL (by omega:¬t.length<=8)];simp)
     |(have hz:nq (at8 t j)=false:=by
        rcases hcw with⟨_,h,_⟩|⟨_,h⟩<;>(simp only[nq,jU,bJ,ec,ep,ct];omega)
       rw[hj,aB hnx,hz];rfl)
    rw[hr,aB ae,show jq false (ba s 46)[i]! =false from(by simp only[jq,ht,hb,Bool.false_and])];simp)
def Mz:aj:=bc 236
def w211 (hA:Tf Y)(hB:C444 Y):IW (cw Y Mz):=λr name rng hp0=>by
 refine zc ?_ ?_<;>intro hc0
 .refine zr ?_;rw[gK,ak hc0]
 refine zc ?_ ?_<;>intro hc1
 .refine zr ?_;rw[gK,ah jP,ak hc1]
 refine zc ?_ ?_<;>intro hc2
 .refine zr ?_;rw[gK,ah jP,ah hc1,ak hc2]
 refine zr ?_;rw[gK,ah jP,ah hc1,ah (by simp[hc2])]
def MA:aj:=bc 268
def w443 (hA:C211 Y)(hB:Th Y):tZ (cw Y MA):=λr w al hp0=>by
 refine Ff ?_;refine aF (hc:=hA r w.name w.range hp0.1.2) ?_;refine zc ?_ ?_<;>intro hc0
 .refine zr ?_;rw[lG,ak hc0]
 refine zg ?_;intro u0;refine aQ (λhc1=>?_) (λhc1=>?_)
 .have hq:(decide (w.feats.length<=6)&&(al ||decide (w.feats.length=0)))=false:=by rw[<-cE,<-aav];exact hc1
  refine zr ?_;rw[lG,ah jP,ak (by unfold nH;rw[hq];rfl)]
 have hq:(decide (w.feats.length<=6)&&(al ||decide (w.feats.length=0)))=true:=by rw[<-cZ,<-aav];exact hc1
 refine zg ?_;intro u1;refine zf hm (λi=>[.u 2,.e (.bool al),.u 1,.p 0 9,.p 1 4,.u 3,.i i,.i w.feats.length,.u 1,.m 1 w.feats D.str,.u 3]) (λi=>[(0,.buf 9 [Rec.D r]),(1,.buf 4 [de.D w])]) 30 (λi=>i<=w.feats.length/\nH w.feats al=bW (wfB w.feats) i w.feats.length) (λi=>w.feats.length-i) ⟨ae,by unfold nH;rw[hq,eI]⟩ [(0,0),(1,1)] ?_;rintro i ⟨hi,hr⟩;refine zc ?_ ?_<;>intro hc2
 .refine gZ ?_;refine qp ?_;refine cK (i-1) ?_;refine zg ?_;refine wp_cond (λhc3=>?_) (λhc3=>?_)
  .have hz:wfB w.feats i=false:=by rw[<-cE,<-wf_c];exact hc3
   refine zr ?_;rw[lG,ah jP,ak (by rw[hr,aB ae,hz];rfl)]
  have hz:wfB w.feats i=true:=by rw[<-cZ,<-wf_c];exact hc3
  refine gM (i+1) [(0,0),(1,1)] ?_;rw[hr,aB ae,hz];rfl
 refine zr ?_;rw[lG,ah jP,ah (by rw[hr,bE ae];simp)]
def Mx:aj:=bc 235
def w210 (hA:C212 Y)(hB:Th Y)(hC:C443 Y):tN (cw Y Mx):=λr n hp0=>by
 refine zg ?_;intro u0;refine dP ?_ ?_<;>intro hc0
 .refine zr ?_;rw[jG,ak ae]
 refine zg ?_;intro u1;refine dP ?_ ?_<;>intro hc1
 .refine zr ?_;rw[jG,ah ae,ak ae]
 refine zg ?_;intro u2;refine zf hm (λi=>[.u 3,.p 1 3,.u 2,.i i,.i n.any.length,.u 1,.m 4 n.any de.D,.p 0 9,.u 5]) (λi=>[(0,.buf 9 [Rec.D r]),(1,.buf 3 [bn.D n])]) 15 (λi=>i<=n.any.length/\nI r n.any=fV (λi=>lG r n.any[i]! (decide ((n.any.length:Int)=1))) i n.any.length) (λi=>n.any.length-i) ⟨ae,rfl⟩ [(0,0),(1,1)] ?_;rintro i ⟨hi,hr⟩;refine zc ?_ ?_<;>intro hc2
 .refine En ?_;intro u3;refine aF (hc:=hC r n.any[i]! _ (hp0.1 _ (aq ae))) ?_;refine zc ?_ ?_<;>intro hc3
  .refine zr ?_;have hw:nI r n.any=lG r n.any[i]! (decide ((n.any.length:Int)=1)):=by rw[hr,lJ ae hc3]
   rw[jG,ah ae,ah ae,ak (by rw[hw];exact hc3),hw]
  refine gM (i+1) [(0,0),(1,1)] ?_;rw[hr,pM ae hc3]
 refine fE ?_;have hw0:nI r n.any=0:=by rw[hr,pL ae]
 refine cX ?_;refine aF (hc:=hA n.when' hp0.2.1) ?_;refine zg ?_;refine aQ (λhc4=>?_) (λhc4=>?_)
 .try simp only[gO]at hc4
  refine zr ?_;rw[jG,ah ae,ah ae,ah mg,ak hc4]
 simp only[cZ]at hc4;refine zg ?_;refine aQ (λhc5=>?_) (λhc5=>?_)
 .try simp only[gO]at hc5
  refine zr ?_;rw[jG,ah ae,ah ae,ah mg,ah (by simp[hc4]),ak hc5]
 simp only[ep,cZ,aT]at hc5;refine zr ?_;rw[jG,ah ae,ah ae,ah mg,ah (by simp[hc4]),ah (by rintro⟨g1,g2⟩;rcases hc5 with h|h;exact g1 h;rw[g2]at h;cases h)]
def Mw:aj:=bc 239
def w214 (hA:C448 Y):IX (cw Y Mw):=λr s hp0=>by
 refine zg ?_;intro u0;refine zf hm (λi=>[.u 3,.p 0 9,.i i,.i r.needs.length,.u 1,.m 3 r.needs bn.D,.i (bK s).1,.u 1,.e (.str (bK s).2.1),.u 4]) (λi=>[(0,.buf 9 [Rec.D r])]) 15 (λi=>i<=r.needs.length/\n7 r s=(if(r.needs.drop i).any (itC (bK s).1 (bK s).2.1)=true then 0 else itE (bK s).1)) (λi=>r.needs.length-i) ⟨ae,XH r s⟩ [(0,0)] ?_;rintro i ⟨hi,hr⟩;refine zc ?_ ?_<;>intro hc0
 .refine gZ ?_;refine gZ ?_;refine cO ?_;refine cK 0 (hb:=λh=>KC) ?_;refine cO ?_;refine dh (q:=de.D) (xs:=r.needs[i]!.any) (i:=0) (hi:=λh=>KC) (v:=(.str r.needs[i]!.any[0]!.name)) ?_;refine zg ?_;refine wp_cond (λhc1=>?_) (λhc1=>?_)
  .have hz:itC (bK s).1 (bK s).2.1 r.needs[i]! =true:=hc1;refine zr ?_;rw[hr,wH ae hz];rfl
  have hz:itC (bK s).1 (bK s).2.1 r.needs[i]! =false:=hc1;refine gM (i+1) [(0,0)] ?_;rw[hr,BZ ae hz]
 refine fE ?_;have he:n7 r s=itE (bK s).1:=by rw[hr,wG ae];rfl
 refine zc ?_ ?_<;>intro hc2
 .refine zr ?_;rw[he,itE,ak hc2]
 refine zc ?_ ?_<;>intro hc3
 .refine zr ?_;rw[he,itE,ah hc2,ak hc3]
 refine zr ?_;rw[he,itE,ah hc2,ah hc3]
def sH:aj:=bc 60
def w362 (hm:(Y.at 1).bU)(y:cC)(hA:C582 (Y.at 1))(hB:C583 (Y.at 1))(hp0:qq y/\lz y.e):du (Y.at 1) sH.body (uA sH (WldQ y):Ex->List aY->St->Prop) (fQ sH [cC.D y (.ptr 0 2 0 0)]) ⟨1,[(0,.buf 2 [.agg [.aL,.aL]])]⟩:=by
 show du _ _ _ [⟨true,cC.D y (.ptr 0 2 0 0)⟩,.un,.un,.un,.un,.un,.un,.un,.un,.un,.un] ⟨1,[(0,.buf 2 [.agg [.aL,.aL]])]⟩;refine aP ?_;refine qp ?_;refine ij (aZ.to [(1,3),(2,1),(4,2)] (nx':=8) rfl ai (env':=[.un,⟨true,.ptr 1 1 0 0⟩,⟨true,.bool false⟩,⟨true,.ptr 3 8 0 0⟩,.un,.un,.un,.un,.un,⟨true,.ptr 2 1 0 0⟩,.un]) (m':=[(0,.buf 2 [eP 5 6 ([]:List au).length]),(5,.buf 1 (([]:List au).map D.str)),(6,.buf 1 (dm y [])),(3,.buf 8 [cC.D y (.ptr 0 2 0 0)]),(1,.buf 1 [.agg [.aL]]),(2,.buf 1 [.agg [.aL]])]) eM (by refine bo.ni 0 ai ai (by exact⟨_,_,rfl,⟨_,rfl,⟨_,_,rfl,.inr ⟨_,_,_,rfl⟩,⟨_,_,rfl,.inr ⟨_,_,_,rfl⟩,rfl⟩⟩⟩,rfl⟩) ?_;refine bo.mt ai ai ai ai ?_;refine bo.mt ai ai ai ai ?_;refine bo.eq 1 ai ai ai ?_;refine bo.eq 2 ai ai ai ?_;refine bo.eq 4 ai ai ai ?_;exact bo.nil)) ?_;refine cX ?_;refine dI (nx':=10) (v:=.tup [.sl 2 ((iR y).map Key.D),.bool (okY y)]) (m':=[(9,.buf 1 ((sB y 49 nE []).map D.str)),(10,.buf 1 (dm y (sB y 49 nE []))),(0,.buf 2 [eP 9 10 (sB y 49 nE []).length]),(3,.buf 8 [cC.D y (.ptr 0 2 0 0)]),(1,.buf 1 [.agg [.aL]]),(2,.buf 1 [.agg [.aL]])]) (hc:=λK' hK=>(F3 y▸hA y [] hp0 aC) _ 0 5 6 _ K' eC eC eC aV ⟨rfl,rfl,rfl⟩ hK) (hn:=aV) ?_;refine qp ?_;have hal:=Wb y;have hok0:okY y=Yo y 0:=by unfold Yo;rw[nJ,gC]
 rw[hok0];refine zg ?_;refine gy hm (ι:=Nat) (λi=>[.un,⟨true,.ptr 1 1 0 0⟩,.un,⟨true,.ptr 3 8 0 0⟩,⟨true,.int .i64 (i:Nat)⟩,⟨true,.sl 2 (((iR y)).map Key.D)⟩,⟨true,.bool ((Yo y i))⟩,.un,.un,⟨true,.ptr 2 1 0 0⟩,.un]) (λi=>[(0,.buf 2 [eP 5 6 (Yk y i).length]),(5,.buf 1 ((Yk y i).map D.str)),(6,.buf 1 (dm y (Yk y i))),(3,.buf 8 [cC.D y (.ptr 0 2 0 0)]),(1,.buf 1 [.agg [.aL]]),(2,.buf 1 [.agg [.own 7 3 0 (yl y i).length]]),(7,.buf 3 ((yl y i).map cI.D))]) 20 (λi=>i<=(iR y).length) (λi=>(iR y).length-i) 0 ae (aZ.to [(1,1),(2,2),(3,3),(9,5),(10,6)] ai ai eM (by repeat(first|exact bo.nil|refine bo.AW ai ai dZ ?_|refine bo.NU ai ai ai ?_|refine bo.NV ai ai ai ai ?_|refine bo.AW ai ai (by exact jn _ _) ?_|refine bo.nl 0 ai ai ai ri ?_|refine bo.eq 0 ai ai ai ?_|refine bo.nl 9 ai ai ai ri ?_|refine bo.eq 9 ai ai ai ?_|refine bo.nl 10 ai ai ai ri ?_|refine bo.eq 10 ai ai ai ?_|refine bo.nl 3 ai ai ai ri ?_|refine bo.eq 3 ai ai ai ?_|refine bo.nl 1 ai ai ai ri ?_|refine bo.eq 1 ai ai ai ?_|refine bo.ni 2 ai ai (by exact⟨_,_,rfl,⟨_,rfl,⟨_,_,rfl,.inr ⟨_,_,_,rfl⟩,rfl⟩⟩,rfl⟩) ?_|refine bo.mt ai ai ai ai ?_))) ?_;intro i hi;have hnl:=adR y i;have hul:=ND (y:=y) i;refine zg ?_;intro u0;refine dP ?_ ?_<;>intro hc0
 .refine yr ?_;refine dI (nx':=29) (v:=.tup [.sl 8 ((ew y (iR y) (iR y)[i]!).1.map eB.D),.bool (ew y (iR y) (iR y)[i]!).2]) (m':=[(33,.buf 1 ((jz (Yk y i) (iR y)[i]!).map D.str)),(34,.buf 1 (dm y (jz (Yk y i) (iR y)[i]!))),(0,.buf 2 [eP 33 34 (jz (Yk y i) (iR y)[i]!).length]),(3,.buf 8 [cC.D y (.ptr 0 2 0 0)]),(1,.buf 1 [.agg [.aL]]),(2,.buf 1 [.agg [.own 7 3 0 (yl y i).length]]),(7,.buf 3 ((yl y i).map cI.D))]) (hc:=λK' hK=>hB y (Yk y i) (iR y) (iR y)[i]! hp0 ae _ 0 5 6 _ K' eC eC eC aV ⟨rfl,rfl,rfl⟩ hK) (hn:=aV) ?_;refine gZ ?_;refine rb ?_;refine a7 (cI.D (rK y (iR y) (iR y)[i]!)) ?_;refine bg [cI.D (rK y (iR y) (iR y)[i]!)] ?_;refine cH (q:=cI.D) (xs:=(yl y i)) (e:=(rK y (iR y) (iR y)[i]!)) (hb:=ae) ?_;refine cO ?_;refine cy (.agg [.own 58 3 0 ((yl y i)++[(rK y (iR y) (iR y)[i]!)]).length]) (he:=c8) ?_;refine zg ?_;rw[ali hc0.2,okS_s hc0.2,nsS_s];exact iy (i+1) [(1,1),(2,2),(3,3),(33,5),(34,6),(58,7)]
 refine cX ?_;have hwe:=Vk hi (by rcases hc0 with h|h;exact .inl h;exact .inr h);refine bz 7 ?_ (he:=aaQ) (hm:=aaQ);refine cO ?_;refine kW (d:=bP.D ⟨(yl y i)⟩) ?_;refine zg ?_;refine ei trivial Dk (dk ai (?_)) ai (by first|(rw[WldQ,zt,hwe];done)|(rw[WldQ,zt,hwe];exact rfl));rfl
def MM:aj:=bc 28
def w147 (hA:Vz Y)(hB:VA Y)(hC:C145 Y)(hD:C360 Y)(hE:C361 Y)(hF:C362 Y):IN (cw Y MM):=λl shop e ks hp0=>by
 refine cO ?_;have hyp:=(tH hp0.1.p.1.1 (i:=0) (by have:=(yq hp0.1.p.1.1).1;omega)).2.2.1;refine xP ?_;refine xP ?_;refine bI ?_;refine bm (env':=[_,_,_,_,⟨_,_⟩,⟨_,(.int _ _)⟩,_,_,⟨_,_⟩,_,_,_,_,_,_,_,_,_,_]) ?_;refine fY ?_;refine aP ?_;refine bI ?_;refine aF (hc:=hA (l) QK) ?_;refine bI ?_;refine kV (.int _ _) ?_;refine kV (.int _ _) ?_;refine bI ?_;refine bI ?_;refine bm (env':=[_,_,_,_,_,_,⟨_,(.int _ _)⟩,_,_,_,_,_,_,_,_,_,_,_,_]) ?_;refine fY ?_;refine aP ?_;refine bI ?_;refine pf ?_;refine bm (env':=[_,_,_,_,_,_,_,⟨_,(.bool _)⟩,_,_,_,_,_,_,_,_,_,_,_]) ?_;refine dP ?_ ?_<;>intro hc0
 .exact absurd trivial hc0
 refine fE ?_;refine aF (hc:=hC (shop) QK) ?_;refine kB ?_;refine bm (env':=[_,_,_,_,_,_,_,_,_,⟨_,(.bool _)⟩,_,_,_,_,_,_,_,_,_]) ?_;refine zc ?_ ?_<;>intro hc1
 .refine cX ?_;refine bR _ ?_;refine cy _ ?_;refine cO ?_;refine bm (env':=[_,_,_,_,_,⟨_,(.int _ _)⟩,_,_,_,_,_,_,_,_,_,_,_,_,_]) ?_;refine zr ?_;rw[acg hc1];rfl
 refine fZ ?_;refine aP ?_;refine bI ?_;refine aF (hc:=hD (l) QK) ?_;refine bI ?_;refine kV (.sl _ _) ?_;refine kV (.int _ _) ?_;refine bI ?_;refine bI ?_;refine bm (env':=[_,_,_,_,_,_,_,_,_,_,⟨_,(.int _ _)⟩,_,_,⟨_,(.sl _ _)⟩,_,_,_,_,_]) ?_;refine fY ?_;refine aP ?_;refine bI ?_;refine pf ?_;refine bm (env':=[_,_,_,_,_,_,_,_,_,_,_,⟨_,(.bool _)⟩,_,_,_,_,_,_,_]) ?_;refine dP ?_ ?_<;>intro hc2
 .exact absurd trivial hc2
 refine fE ?_;refine bm (env':=[_,_,_,_,_,_,_,_,_,_,_,_,⟨_,(.int _ _)⟩,_,_,_,_,_,_]) ?_;refine zf hm (λi=>[.m 11 l gW.D,.m 2 shop bA.D,.u 1,.m 6 ks Kp.D,.p 1 1,.u 3,.p 0 3,.u 3,.i i,.m 2 (gG l) iN.D,.u 5]) (λi=>[(0,.buf 3 [Env.D e]),(1,.buf 1 [.agg [.aL]])]) 30 (λi=>i<=(gG l).length/\∀j,j<i->0<=lq shop (gG l)[j]!.shelf) (λi=>(gG l).length-i) ⟨ae,λj h=>ae⟩ [(0,0),(1,1)] ?_;rintro i ⟨hi,hr⟩;refine zg ?_;intro u0;refine dP ?_ ?_<;>intro hc3
 .refine zc ?_ ?_<;>intro hc4
  .refine cO ?_;refine bR _ ?_;refine cy _ ?_;refine zr ?_;rw[ach hc1 (i:=i) ae ae];rfl
  refine gM (i+1) [(0,0),(1,1)] ?_;exact λj h=>by rcases Nat.lt_succ_iff_lt_or_eq.1 h with h|rfl;exact hr j h;omega
 refine dJ ?_;have hpa:=YN (l:=l) (shop:=shop) (i:=i) ae hr;refine k9 ?_;refine bR _ ?_;refine cO ?_;refine a7 (cC.D (yp l shop e ks) (.ptr 40 2 0 0)) ?_;refine dI (nx':=34) (v:=.tup [bP.D (eA (yp l shop e ks)).1,.bool (eA (yp l shop e ks)).2]) (m':=[(0,.buf 3 [Env.D e]),(1,.buf 1 [.agg [.aL]])]) (hc:=λK' hK=>hF (yp l shop e ks) hp0 _ 40 _ K' eC ai hK) (hn:=aV) ?_;refine zc ?_ ?_<;>intro hc5
 .refine cX ?_;refine bR _ ?_;refine cy _ ?_;refine zr ?_;rw[aci hc1 hpa oU];rfl
 refine dJ ?_;refine cy _ ?_;refine zr ?_;rw[acj hc1 hpa oU];rfl
def pj:aj:=bc 151
def w755 (hm:(Y.at 3).bU)(y:cC)(ns:List au)(nm:au)(hA:C909 (Y.at 3))(hp0:pB y)(hp1:ns.length<=1000):du (Y.at 3) pj.body (uA pj (KN y (eU ns nm) (uG (dL y nm))):Ex->List aY->St->Prop) (fQ pj [cC.D y (.ptr 0 2 0 0),.str nm]) ⟨3,[(0,.buf 2 [eP 1 2 ns.length]),(1,.buf 1 (ns.map D.str)),(2,.buf 1 (dm y ns))]⟩:=by
 show du _ _ _ [⟨true,cC.D y (.ptr 0 2 0 0)⟩,⟨true,.str nm⟩,.un,.un,.un,.un,.un,.un] ⟨3,[(0,.buf 2 [eP 1 2 ns.length]),(1,.buf 1 (ns.map D.str)),(2,.buf 1 (dm y ns))]⟩;refine aP ?_;refine zg ?_;refine zf hm (λi=>[.u 1,.e (.str nm),.u 1,.i i,.p 3 8,.u 3]) (λi=>[(0,.buf 2 [eP 1 2 ns.length]),(1,.buf 1 (ns.map D.str)),(2,.buf 1 (dm y ns)),(3,.buf 8 [cC.D y (.ptr 0 2 0 0)])]) 6 (λi=>i<=ns.length/\∀j,j<i->ns[j]! ≠nm) (λi=>ns.length-i) ⟨ae,λj h=>ae⟩ [(3,3)] ?_;rintro i ⟨hi,hr⟩;refine zg ?_;intro _;refine dP ?_ ?_<;>intro hc0
 .refine rb ?_;refine xQ (q:=D.str) (xs:=ns) (v:=.str ns[i]!) (hi:=λ_=>ae) (hv:=λ_=>ux) ?_;refine zc ?_ ?_<;>intro hc1
  .refine pA ?_;refine xQ (q:=λnm=>uG (dL y nm)) (xs:=ns) (v:=uG (dL y ns[i]!)) (hi:=λ_=>ae) (hv:=λ_=>ux) ?_;refine cO ?_;refine bm (env':=[_,_,⟨_,(.sl _ _)⟩,_,_,_,_,_]) ?_;refine zg ?_;refine ei trivial jD (dk ai (?_)) ai ⟨by first|(rw[<-hc1];done)|(rw[<-hc1];exact rfl),1,2,⟨ae,ae,ae⟩,by rw[ab3 ae hc1];refine⟨?_, ?_, ?_⟩<;>first|exact rfl|(rw[nA];exact rfl)|(rw[ny];exact rfl)⟩;rfl
  refine gM (i+1) [(3,3)] ?_;exact λj h=>by rcases Nat.lt_succ_iff_lt_or_eq.1 h with h|rfl;exact hr j h;exact hc1
 refine dJ ?_;have hout:=V9 (ns:=ns) (nm:=nm) λj h=>hr j ae
 refine cX ?_;refine dI (nx':=16) (v:=uG (dL y nm)) (m':=[(16,.buf 1 ((ns).map D.str)),(17,.buf 1 (dm y (ns))),(0,.buf 2 [eP 16 17 (ns).length]),(3,.buf 8 [cC.D y (.ptr 0 2 0 0)])]) (hc:=λK' hK=>hA y ns nm hp0 _ 0 1 2 _ K' eC eC eC aV ⟨rfl,rfl,rfl⟩ hK) (hn:=aV) ?_;refine cO ?_;refine bm (env':=[_,_,_,_,_,_,_,⟨_,(.sl _ _)⟩]) ?_;refine cX ?_;refine Zl (v:=.ptr 0 2 0 0) ?_;refine cO ?_;refine Zl (v:=.ptr 0 2 0 0) ?_;refine kB ?_;refine bg [.str nm] ?_;refine cH (q:=D.str) (xs:=ns) (e:=nm) (hb:=ae) ?_;refine cO ?_;refine y8 (v:=.ptr 0 2 0 0) ?_;refine cX ?_;refine y8 (v:=.own 17 1 0 ns.length) ?_;refine cO ?_;refine bg [uG (dL y nm)] ?_;refine cH (q:=λnm=>uG (dL y nm)) (xs:=ns) (e:=nm) (hb:=ae) ?_;refine cX ?_;refine afQ (.agg [.own 31 1 0 (ns++[nm]).length,.own 17 1 0 ns.length]) ?_;refine cX ?_;refine afQ (eP 31 39 (ns++[nm]).length) ?_;refine zg ?_;refine ei trivial jD (dk ai (?_)) ai ⟨c8,31,39,⟨ae,ae,ae⟩,by rw[hout];refine⟨?_, ?_, ?_⟩<;>first|exact rfl|(rw[nA];exact rfl)|(rw[ny];exact rfl)⟩;rfl
def UD:aj:=bc 20
def w501 (hm:(Y.at 0).bU)(hA:BT Y)(hB:Tj Y):um (cw Y UD):=λa b hp0=>by
 exact lU
def MF:aj:=bc 96
def w580 (hA:C501 Y):ub (cw Y MF):=λl nm v hp0=>by
 refine zg ?_;refine zf hm (λi=>[.m 11 l iQ.D,.e (.str nm),.u 2,.i i,.u 1,.p 0 5,.u 1]) (λi=>[(0,.buf 5 [bV.D v])]) 3 (λi=>i<=l.length/\qo l nm v 0=qo l nm v i) (λi=>l.length-i) ⟨ae,rfl⟩ [(0,0)] ?_;rintro i ⟨hi,hr⟩;refine zg ?_;intro u0;refine dP ?_ ?_<;>intro hc0
 .refine zc ?_ ?_<;>intro hc1
  .refine zr ?_;rw[hr,YQ ae (adu hc1)]
  refine gM (i+1) [(0,0)] ?_;rw[hr,YR ae (aje hc1)]
 refine zr ?_;rw[hr,Sc ae]
def UC:aj:=bc 95
def w358 (hA:C75 Y)(hB:GN Y)(hC:VE Y):tV (cw Y UC):=λs hp0=>by
 refine zg ?_;refine aQ (λhc0=>?_) (λhc0=>?_)
 .simp only[dK,cE,aT]at hc0;have hf:fO s=false:=by
   unfold fO;rcases hc0 with h|h
   .rw[h];rfl
   .rw[show decide (s.es.length<=64)=false from bL ae];simp
  refine zr ?_;exact hf.symm
 simp only[ec,cZ,ct]at hc0;have hq:fO s=bW (pJ s.es) 0 s.es.length:=by unfold fO;rw[hc0.1,br (show s.es.length<=64 by omega)];simp
 refine zg ?_;refine zf hm (λi=>[.u 2,.p 0 2,.u 1,.i i,.u 5]) (λi=>[(0,.buf 2 [bA.D s])]) 13 (λi=>i<=s.es.length/\fO s=bW (pJ s.es) i s.es.length) (λi=>s.es.length-i) ⟨ae,hq⟩ [(0,0)] ?_;rintro i ⟨hi,hr⟩;refine zg ?_;intro u0;refine dP ?_ ?_<;>intro hc1
 .refine dJ ?_;have hsm:=hp0 _ (aq (show i<s.es.length by omega));refine gZ ?_;refine gZ ?_;refine pA ?_;refine cv (hc:=λhf=>hC s.es s.es[i]!.r.name s.es[i]!.r.v ⟨λx hx=>(hp0 x hx).1.2,hsm.1.2⟩) ?_;refine zg ?_;refine wp_cond (λhc2=>?_) (λhc2=>?_)
  .have hen:pJ s.es i=false:=by
    simp only[dK,cE,aT,ct]at hc2;exact acY ae hc2
   refine zr ?_;rw[hr,aB ae,hen];rfl
  have hen:pJ s.es i=true:=by
   simp only[ec,cZ,aT,ct]at hc2;exact WQ ae hc2.1.1 hc2.1.2 hc2.2
  refine gM (i+1) [(0,0)] ?_;rw[hr,aB ae,hen];rfl
 refine zr ?_;rw[hr,bE ae]
def UH:aj:=⟨2,8,[⟨2,none⟩,⟨3,none⟩],[[.sl 2 [.a,.a]],[.a]],(sq (rg [gb 2 s1,gm (.c (.aL)),gm cbF] [(5,0),(2,1),(3,2)]) (sq (r1 [gm yy] 4 0) (sq (.block 0 (.loop (sq (sq (r2 [gm s4,gm s0,gl l1,om l0 l2,gm l3,gmt 4 s0,gmt 4 s4,AU 4 (.ia 2 l5 l6),Rt 4 0 l7,gdt 4 l8,Rt 4 0 s5,gdt 4 l10,AU 4 (afk l9 l11),ga1 l4 l12] 6 13) (gce s6 0)) (.block 1 (r1 [gm s4,qJ l0 TY,gm l1] 4 2))))) (sq (sq (r2 [gm s4,gm s0,gl l1,om l0 l2,gm l3,gmt 4 s0,gmt 4 s4,AU 4 (.ia 2 l5 l6),Rt 4 0 l7,gdt 4 l8,Rt 4 0 s5,gdt 4 l10,AU 4 (zH l9 l11),ga1 l4 l12] 7 13) (.cond s7 (sq (rt [gm s0,gm s0,gm s4,ga 2 l1 l2,gk 2 true l3,gk 2 true s5,gn (.eqA false true [.s,.s] l4 l5),gm l0,gm l6] [(2,7),(3,8)]) .ret) .skip)) (sq (rt [gm s0,gm s4,gn (.slA 2 l0 none (some l1)),gn (.appN 2 l2),gk 2 true s5,gn (.bsl 2 (.agg [.str [],.str []]) 1 [(0,l4)]),gn (.app 2 l3 l5),gm s0,gm s4,gn (.slA 2 l7 (some l8) none),gn (.app 2 l6 l9),gm l10,gm cbT] [(2,11),(3,12)]) .ret)))))⟩
def w581:JG (cw Y UH):=λl p hp0=>by
 refine zg ?_;refine zf hm (λi=>[.m 2 l iN.D,.u 3,.i i,.p 0 2,.u 2]) (λi=>[(0,.buf 2 [iN.D p])]) 4 (λi=>i<=l.length/\lQ.kPin l p 0=lQ.kPin l p i) (λi=>l.length-i) ⟨ae,rfl⟩ [(0,0)] ?_;rintro i ⟨hi,hr⟩;refine zc ?_ ?_<;>intro hc0
 .refine gM (i+1) [(0,0)] ?_;rw[hr,T4 ae hc0.2]
 refine fE ?_;have hk:lQ.kPin l p 0=i:=by rw[hr];exact T5 (λh=>by rcases hc0 with h1|h1;omega;exact h1)
 refine zc ?_ ?_<;>intro hc1
 .refine zr ?_;unfold lQ;rw[hk,ak ⟨ae,hc1.2⟩];rfl
 refine k9 ?_;refine BG (he:=mW.sl) (n:=(l.take i).length) (hn:=aC) (hb:=zE) ?_;refine cO ?_;refine bg [iN.D p] ?_;refine cH (q:=iN.D) (xs:=l.take i) (e:=p) (hb:=zE) ?_;refine dJ ?_;refine pd (xs:=l.take i++[p]) (ys:=l.drop i) (he:=mW.sl) (hb:=QH) ?_;refine dJ ?_;refine bz 42 ?_;refine zr ?_;unfold lQ;rw[hk,ah Tc];rfl
def Pz:aj:=bc 260
def w1083 (hA:C145 Y)(hB:C359 Y)(hC:ae8 Y)(hD:ae9 Y):Ew (cw Y Pz):=λshop ps nm hp0=>by
 refine zc ?_ ?_<;>intro hc0
 .refine zr ?_;rw[aiS hc0];rfl
 refine zc ?_ ?_<;>intro hc1
 .refine zr ?_;rw[aiT hc0 hc1];rfl
 refine zg ?_;refine zf hm (λi=>[.m 2 shop bA.D,.m 2 ps iN.D,.e (.str nm),.u 4,.i i,.u 7]) (λi=>[]) 9 (λi=>i<=ps.length/\E6 ps nm=fR (λp=>decide (p.name=nm)) (ps.drop i) i) (λi=>ps.length-i) ⟨ae,rfl⟩ [] ?_;rintro i ⟨hi,hr⟩;refine zg ?_;intro u0;refine dP ?_ ?_<;>intro hc2
 .refine zc ?_ ?_<;>intro hc3
  .refine gM (i+1) [] ?_;rw[hr,jy ae yx]
  refine cX ?_;have hpi:E6 ps nm=(i:Nat):=by rw[hr,kN ae yx]
  refine zc ?_ ?_<;>intro hc4
  .refine zr ?_;rw[aiU hc0 hc1 hpi hc4];rfl
  refine zr ?_;rw[aiV hc0 hc1 hpi hc4];rfl
 refine fE ?_;have hpn:E6 ps nm=-1:=by rw[hr,ml ae]
 refine zg ?_;refine zf hm (λj=>[.m 2 shop bA.D,.u 1,.e (.str nm),.u 9,.i j,.u 2]) (λj=>[]) 14 (λj=>j<=shop.length/\fR (Cv nm) shop 0=fR (Cv nm) (shop.drop j) j) (λj=>shop.length-j) ⟨ae,rfl⟩ [] ?_;rintro j ⟨hj,hr2⟩;refine zg ?_;intro u1;refine dP ?_ ?_<;>intro hc5
 .refine zc ?_ ?_<;>intro hc6
  .refine zr ?_;rw[aiW hc0 hc1 hpn (hr2.trans (kN ae hc6))];rfl
  refine gM (j+1) [] ?_;rw[hr2,jy ae hc6]
 refine zr ?_;rw[aiX hc0 hc1 hpn (hr2.trans (ml ae))];rfl
def MX:aj:=bc 30
def w267 (hA:C46 Y)(hB:C505 Y):I2 (cw Y MX):=λw od hp0=>by
 refine cO ?_;obtain⟨⟨hw,hwb⟩,hop⟩:=hp0;have hs16:∀x∈w.us,x.cands.length<=16:=λx hx=>(hw.1.1 x hx).1
 have hmp:=maskP hwb hs16 hw.2;have hwl:=hw.1.2;refine zg ?_;refine zf hm (λi=>[.u 3,.i i,.p 1 1,.u 1,.o 0 1 (oq i).length,.p 2 2]) (λi=>[(0,.buf 1 ((oq i).map (D.int .i64))),(1,.buf 1 [bP.D w]),(2,.buf 2 [Ask.D (⟨[],od⟩:Ask)])]) 5 (λi=>i<=w.us.length) (λi=>w.us.length-i) ae [(0,1),(1,2)] ?_;intro i hi;have hnl:=Ui i;refine zg ?_;intro u0;refine dP ?_ ?_<;>intro hc0
 .refine fE ?_;refine bg [.int .i64 (-1)] ?_;refine cH (q:=D.int .i64) (xs:=oq i) (e:=-1) (hb:=ae) ?_;refine zg ?_;rw[Uh];exact iy (i+1) [(12,0),(1,1),(2,2)]
 refine cX ?_;obtain rfl:i=w.us.length:=ae;refine bz 0 ?_;refine cO ?_;refine kW (d:=bP.D w) ?_;refine cO ?_;refine kW (d:=Ask.D (⟨[],od⟩:Ask)) ?_;refine cO ?_;refine aF (hc:=hB (dy w.us) od (oq w.us.length) ⟨⟨hmp,sx _⟩,hop⟩) ?_;refine zg ?_;obtain⟨os,h1,h2⟩:∃os,mH (dy w.us) od (oq w.us.length)=os/\kJ w.us od=os:=⟨_,rfl,rfl⟩
 rw[h1,h2];cases os<;>exact P3 trivial Dk jD rfl
def MP:aj:=⟨2,7,[⟨2,none⟩],Vq,(sq (rg [gb 2 s1,gm yy] [(5,0),(2,1)]) (sq (sq (r1 [gm yy] 3 0) (.block 0 (.loop (sq (sq (r1 [gm s3,gm s0,gl l1,om l0 l2] 4 3) (gce s4 0)) (sq (.block 1 (sq (r2 [gm s0,gm s3,ga 2 l0 l1,gk 2 true l2,gk 2 true s5,gn (.eqA false true [.s,.s] l3 l4)] 6 5) (.cond s6 (sq (r1 [gm s3,gm l0] 2 1) .ret) .skip))) (r1 [gm s3,qJ l0 TY,gm l1] 3 2)))))) (sq (r1 [gn (.mv (.c (.int .i64 (-1))))] 2 0) .ret)))⟩
def w903:Ke (cw Y MP):=λl k=>by
 refine zg ?_;refine zf hm (λi=>[.m 2 l Key.D,.u 2,.i i,.u 1,.p 0 2,.u 1]) (λi=>[(0,.buf 2 [Key.D k])]) 3 (λi=>i<=l.length/\eo l k=fR (λx=>decide (x=k)) (l.drop i) i) (λi=>l.length-i) ⟨ae,rfl⟩ [(0,0)] ?_;rintro i ⟨hi,hr⟩;refine zg ?_;intro u0;refine dP ?_ ?_<;>intro hc0
 .refine zc ?_ ?_<;>intro hc1
  .refine zr ?_;rw[hr,kN ae lY]
  refine gM (i+1) [(0,0)] ?_;rw[hr,jy ae lY]
 refine zr ?_;rw[hr,ml ae]
def UG:aj:=bc 289
def w1121:EA (cw Y UG):=λs nm=>by
 refine zg ?_;refine zf hm (λi=>[.u 1,.e (.str nm),.u 1,.i i,.p 0 2,.u 2]) (λi=>[(0,.buf 2 [bA.D s])]) 3 (λi=>i<=s.es.length/\Cv nm s=(s.es.drop i).any λx=>decide (x.r.name=nm)) (λi=>s.es.length-i) ⟨ae,rfl⟩ [(0,0)] ?_;rintro i ⟨hi,hr⟩;refine zg ?_;intro u0;refine dP ?_ ?_<;>intro hc0
 .refine zc ?_ ?_<;>intro hc1
  .refine zr ?_;rw[hr,wH ae lY]
  refine gM (i+1) [(0,0)] ?_;rw[hr,BZ ae lY]
 refine zr ?_;rw[hr,wG ae]
def G9:aj:=bc 13
def w265 (hm:(Y.at 0).bU)(hA:C264 Y)(hB:C410 Y):I1 (cw Y G9):=λshop e w l hp0=>by
 refine zc ?_ ?_<;>intro hc0
 .refine zr ?_;rw[afl hc0];rfl
 refine dJ ?_;have hcw:=acu (l:=l) (e:=e) (shop:=shop) hp0.2.1 hc0;refine zg ?_;intro u0;refine dP ?_ ?_<;>intro hc1
 .refine cX ?_;have hun:=hcw.2.2 ae;refine dJ ?_;refine cK 0 (hj:=λ_=>ae) (hb:=λ_=>ae) ?_;refine zr ?_;rw[chk_c hc0 ae];rfl
 refine zr ?_;rw[Ww hc0 ae];rfl
end Go.Abs
end
