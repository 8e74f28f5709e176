/- A part of the proofs. -/
import Derived.Test.YtkmlboofmolbaaaGreatDoorP09
set_option linter.all false
set_option maxRecDepth 60000
set_option maxHeartbeats 2000000
noncomputable section
namespace Go.Abs
variable {Y:Ctx}(hm:(Y.at 0).cb)
def Zr:aj:=bj 136
def w453 (hm:(Y.at 0).cb):Jf (cz Y Zr):=λc=>by
 exact mK
def PK:aj:=bj 137
def w454 (hm:(Y.at 0).cb):Jg (cz Y PK):=λc=>by
 exact mK
def UE:aj:=bj 99
def w357 (hA:C453 Y)(hB:C454 Y):ua (cz Y UE):=λs=>by
 refine zg ?_;intro u0;refine dN ?_ ?_<;>intro hc0
 .refine zr ?_;symm;simp only[gT,er,cy];exact Or.inl ae
 refine zg ?_;refine zf hm (λi=>[.e (.str s),.u 2,.i i,.u 2]) (λi=>[]) 10 (λi=>i<=s.length/\gT s=b9 (λi=>Gu (at8 s i)) i s.length) (λi=>s.length-i) ⟨ae,by simp only[gT];rw[bA ae,bA ae];rfl⟩ [] ?_;rintro i ⟨hi,hr⟩;refine zg ?_;intro u1;refine dN ?_ ?_<;>intro hc1
 .refine zc ?_ ?_<;>intro hc2
  .refine zr ?_;rw[hr,aA ae];simp[Gu,hc2]
  refine gI (i+1) [] ?_;rw[hr,aA ae];simp[Gu,hc2]
 refine zr ?_;rw[hr,bI ae]
def UD:aj:=bj 92
def w216 (hA:C453 Y)(hB:C454 Y):tR (cz Y UD):=λs=>by
 refine En ?_;intro u0;refine Ap 0 ?_;refine qx ?_;refine Ap (s.length-1) ?_;refine zc ?_ ?_<;>intro hc0
 .refine zr ?_;symm;simp only[dn];rcases hc0 with(h|h)|h
  .rcases h with h|h<;>simp<;>omega
  .simp[h]
  .simp[h]
 refine zg ?_;refine zfx hm (1:Nat) (λi=>[.e (.str s),.u 2,.i i,.u 2]) (λi=>[]) 24 (λi=>i<=s.length/\1<=i/\dn s=b9 (nch s) i s.length) (λi=>s.length-i) ⟨ae,ae,by simp only[dn];rw[bA ae,bA ae,hc0.1.2,bN hc0.2];rfl⟩ [] ?_;rintro i ⟨hi,hi1,hr⟩;refine zg ?_;intro u1;refine dN ?_ ?_<;>intro hc1
 .refine iw ?_;refine iw ?_;refine cC ?_;refine Ap (i-1) ?_;refine zc ?_ ?_<;>intro hc2
  .refine zr ?_;rw[hr,aA ae];simp only[nch];revert hc2;generalize jU (at8 s i)=x;generalize bO (at8 s i)=y;by_cases h1:at8 s i=45<;>by_cases h2:at8 s (i-1)=45<;>cases x<;>cases y<;>simp_all
  refine zl (i+1) [] ?_;exact⟨ae,ae,by rw[hr,aA ae];simp only[nch];revert hc2;generalize jU (at8 s i)=x;generalize bO (at8 s i)=y;by_cases h1:at8 s i=45<;>by_cases h2:at8 s (i-1)=45<;>cases x<;>cases y<;>simp_all⟩
 refine zr ?_;rw[hr,bI ae]
def MO:aj:=bj 133
def w667 (hA:C454 Y):uu (cz Y MO):=λs=>by
 refine zk20 ?_;intro u0;refine Ap 0 ?_;refine zc ?_ ?_<;>intro hc0
 .refine zg ?_;refine fM (b7 (aw (D.int .i64) ?_) (aw D.bool ?_));all_goals
   have:ox s=false:=by
    simp only[ox];rcases hc0 with(h|h)|h
    .rw[bN (by omega:¬1<=s.length)];rfl
    .rw[bN (by omega:¬s.length<=9)];simp
    .rw[bA (by omega:1<s.length),bA h.2];simp
   simp[C6,this]
 refine zg ?_;have hP:ox s=(b9 (λi=>bO (at8 s i)) 0 s.length&&decide (fe s<=9999)):=by
  simp only[ox];rw[bA (by omega:1<=s.length),bA (by omega:s.length<=9)];rcases hc0.2 with h|h
  .rw[bN (by omega:¬1<s.length)];rfl
  .rw[bN h,Bool.and_false];rfl
 refine zf hm (λi=>[.e (.str s),.u 3,.i i,.u 2,.i (fe (s.take i):Nat),.u 1]) (λi=>[]) 22 (λi=>i<=s.length/\s.length<=9/\ox s=(b9 (λi=>bO (at8 s i)) i s.length&&decide (fe s<=9999))) (λi=>s.length-i) ⟨ae,ae,hP⟩ [] ?_;rintro i ⟨hi,h9,hr⟩;refine zg ?_;intro u1;refine dN ?_ ?_<;>intro hc1
 .refine zg ?_;refine aR (λhc2=>?_) (λhc2=>?_)
  .try simp only[gJ]at hc2
   refine zg ?_;refine fM (b7 (aw (D.int .i64) ?_) (aw D.bool ?_));all_goals
    have:ox s=false:=by rw[hr,aA ae,hc2];rfl
    simp[C6,this]
  simp only[dq]at hc2;refine cC ?_;have h48:=hc2;simp only[bO,aC,aV]at h48;have hn:=xF s i ae;have hn2:=Ak s i ae;have h256:=GP s i;refine cN ?_;refine xX ?_;refine dI ?_;refine HR (at8 s i-48) (hb:=λ_=>IntWalk.u8_in _ ae) ?_;refine qb (at8 s i-48) (hb:=λ_=>IntWalk.i64_in _ ae) ?_;refine dI ?_;rw[show(fe (s.take i):Int)*10+(at8 s i-48)=(fe (s.take (i+1)):Nat)by omega];refine zl (i+1) [] ?_;exact⟨ae,h9,by rw[hr,aA ae,hc2];rfl⟩
 refine eX ?_;have ht:s.take i=s:=fj ae;rw[ht];refine bK ?_;refine pn ?_;refine bB (env':=[_,_,_,_,_,_,_,_,⟨_,(.bool _)⟩]) ?_;refine dN ?_ ?_<;>intro hc3
 .refine kF ?_;refine fM (b7 (aw (D.int .i64) ?_) (aw D.bool ?_));all_goals
   have:ox s=false:=by rw[hr,bN ae,Bool.and_false]
   simp[C6,this]
 refine qo ?_;refine fM (b7 (aw (D.int .i64) ?_) (aw D.bool ?_));all_goals
  have:ox s=true:=by rw[hr,bI ae,bA ae];rfl
  simp[C6,this]
def Ib:aj:=bj 134
def w668:uv (cz Y Ib):=λt=>by
 refine zg ?_;refine zf hm (λi=>[.e (.str t),.u 1,.i i,.u 2]) (λi=>[]) 2 (λi=>i<=t.length/\b9 (λi=>bO (at8 t i)) 0 t.length=b9 (λi=>bO (at8 t i)) i t.length) (λi=>t.length-i) ⟨ae,rfl⟩ [] ?_;rintro i ⟨hi,hr⟩;refine zg ?_;intro u0;refine dN ?_ ?_<;>intro hc0
 .refine zc ?_ ?_<;>intro hc1
  .refine zr ?_;simp only[cU];rw[hr,aA ae];rcases hc1 with h|h<;>simp[bO]<;>omega
  refine gI (i+1) [] ?_;rw[hr,aA ae];rw[show bO (at8 t i)=true by simp only[bO,aC,aV];omega];rfl
 refine zg ?_;intro u1;refine zr ?_;simp only[cU];rw[hr,bI ae];simp
def Zv:aj:=bj 132
def w666:JF (cz Y Zv):=λt=>by
 refine zg ?_;intro u0;refine dN ?_ ?_<;>intro hc0
 .refine zr ?_;symm;simp only[wx,er,cy];exact Or.inl ae
 refine zg ?_;refine zf hm (λi=>[.e (.str t),.u 2,.i i,.u 3]) (λi=>[]) 10 (λi=>i<=t.length/\wx t=b9 (λi=>nr (at8 t i)) i t.length) (λi=>t.length-i) ⟨ae,by simp only[wx];rw[bA ae,bA ae];rfl⟩ [] ?_;rintro i ⟨hi,hr⟩;refine zg ?_;intro u1;refine dN ?_ ?_<;>intro hc1
 .refine gr ?_;refine mJ ?_ hm;refine aQ ?_;refine bK ?_;refine bK ?_;first|refine Ap _ ?_|refine Y6 ?_
  refine bK ?_;refine bB (env':=[_,_,_,_,_,⟨_,(.int _ _)⟩,_]) ?_;refine aQ ?_;refine bK ?_;refine zk ?_;refine bK ?_;refine bK ?_;refine pn ?_;refine Mn ?_;refine bK ?_;refine bK ?_;refine zk ?_;refine bK ?_;refine bK ?_;refine pn ?_;refine Mn ?_;refine u7 ?_;refine bK ?_;refine bK ?_;refine po ?_;refine u7 ?_;refine bB (env':=[_,_,_,_,_,_,⟨_,(.bool _)⟩]) ?_;refine Bv ?_ ?_<;>intro hc2
  .refine zg ?_;refine zr ?_;rw[hr,aA ae];have:nr (at8 t i)=false:=(by simp only[nr,jU,bO,eF,er,cy];omega);rw[this];rfl
  refine zg ?_;refine gI (i+1) [] ?_;rw[hr,aA ae];have:nr (at8 t i)=true:=(by simp only[nr,jU,bO,dF,aC,aV];omega);rw[this];rfl
 refine zr ?_;rw[hr,bI ae]
def UJ:aj:=bj 87
def w456 (hA:C470 Y)(hB:C666 Y)(hC:C667 Y)(hD:C668 Y):Jh (cz Y UJ):=λs p hp0=>by
 refine zc ?_ ?_<;>intro hc0
 .refine zr ?_;simp[D5,hc0]
 refine zg ?_;intro u0;refine aR (λhc1=>?_) (λhc1=>?_)
 .try simp only[gJ]at hc1
  refine zr ?_;simp only[D5,sU];rw[bN hc0,bN ae];rfl
 simp only[cy]at hc1;refine zg ?_;refine zf hm (λi=>[.e (.str s),.e (.bool p),.u 2,.m 1 (bd s 46) D.str,.u 1,.i i,.u 4]) (λi=>[]) 10 (λi=>i<=(bd s 46).length/\D5 s p=b9 (λi=>jn p (bd s 46)[i]!) i (bd s 46).length) (λi=>(bd s 46).length-i) ⟨ae,by simp only[D5,sU];rw[bN hc0,bA ae];rfl⟩ [] ?_;rintro i ⟨hi,hr⟩;refine zg ?_;intro u1;refine dN ?_ ?_<;>intro hc2
 .refine zg ?_;refine aR (λhc3=>?_) (λhc3=>?_)
  .simp only[cG]at hc3;refine zr ?_;rw[hr,aA ae];simp only[jn,hc3];rfl
  simp only[dq]at hc3;refine zg ?_;refine wp_cond (λhc4=>?_) (λhc4=>?_)
  .skip
   refine zr ?_;have h5:jn p (bd s 46)[i]! =false:=aaU;rw[hr,aA ae,h5];rfl
  skip
  refine gI (i+1) [] ?_;rw[hr,aA ae];have h5:jn p (bd s 46)[i]! =true:=aaU;rw[h5];rfl
 refine zr ?_;rw[hr,bI ae]
def Zt:aj:=bj 86
def w455 (hm:(Y.at 0).cb):ue (cz Y Zt):=λn=>by
 exact mK
def Zs:aj:=bj 44
def w217 (hm:(Y.at 0).cb)(hA:C455 Y)(hB:C456 Y):tS (cz Y Zs):=λv hp0=>by
 refine En ?_;refine kF ?_;refine cB (hc:=λhf=>hB v.pre true hp0.1) ?_;refine eX ?_;refine cB (hc:=λhf=>hB v.build false hp0.2) ?_;exact mK
def acm:aj:=⟨1,5,re1,ha1,(sq (rg [gb 7 s0,gm cbF] [(2,0),(1,1)]) (sq (sq (r1 [gf 0 s2,gd l0,gn (zP l1 (.c (.int .i64 (-1)))),gm l2,gff 3 0 s2,gdf 3 l4,BA 3 (zP l5 TN),go1 l3 l6] 3 7) (.cond s3 (sq (r1 [gf 1 s2,gk 5 true l0,gn (.build [.int .i64 0,.int .i64 0,.int .i64 0,.str [],.str []] []),gn (.eqA false true [.i .i64,.i .i64,.i .i64,.s,.s] l1 l2),gm l3,Ri 4 6 s2,gdt 4 l5,A2 4 (.un .not l6),ga1 l4 l7,gm l8] 1 9) .ret) (sq (r1 [gf 0 s2,gd l0,sC l1 yE] 4 2) (gcr s4 cbF)))) (sq (r1 [gf 1 s2,gk 5 true l0,gx 209 [l1] ha5,gm l2,Ri 3 1 s2,Ri 3 4 l4,gdt 3 l5,A2 3 (zP l6 cse),ga1 l3 l7,gm l8] 1 9) .ret)))⟩
def w1087 (hm:(Y.at 0).cb)(hA:AU Y):qu (cz Y acm):=λc hp0=>by
 refine zc ?_ ?_<;>intro hc0
 .refine eX ?_;refine bg (ca.D (⟨0,0,0,[],[]⟩)) ?_;refine zr ?_;first|(grind [pN,zV];done)|(simp_all[pN,zV];done)
 refine zc ?_ ?_<;>intro hc1
 .refine zr ?_;first|(grind [pN,zV];done)|(simp_all[pN,zV];done)
 refine zr ?_;first|(grind [pN,zV];done)|(simp_all[pN,zV];done)
def K7:aj:=bj 234
def w1024 (hm:(Y.at 0).cb)(hA:S7 Y)(hB:C532 Y)(hC:QF Y):qq (cz Y K7):=λa b hp0=>by
 refine zc ?_ ?_<;>intro hc0
 .refine zr ?_;first|(grind [ll,dt];done)|(simp_all[ll,dt];done)
 refine zc ?_ ?_<;>intro hc1
 .refine zr ?_;first|(grind [ll,dt];done)|(simp_all[ll,dt];done)
 refine zc ?_ ?_<;>intro hc2
 .refine zr ?_;first|(grind [ll,dt];done)|(simp_all[ll,dt];done)
 refine zc ?_ ?_<;>intro hc3
 .refine zr ?_;first|(grind [ll,dt];done)|(simp_all[ll,dt];done)
 refine zc ?_ ?_<;>intro hc4
 .refine zr ?_;first|(grind [ll,dt];done)|(simp_all[ll,dt];done)
 refine zr ?_;first|(grind [ll,dt];done)|(simp_all[ll,dt];done)
def Tv:aj:=bj 244
def w1055 (hm:(Y.at 0).cb)(hA:AU Y)(hB:S7 Y)(hC:QF Y):qt (cz Y Tv):=λc v hp0=>by
 refine zc ?_ ?_<;>intro hc0
 .refine zr ?_;first|(grind [j5];done)|(simp_all[j5];done)
 refine zc ?_ ?_<;>intro hc1
 .refine zr ?_;first|(grind [j5];done)|(simp_all[j5];done)
 refine zr ?_;first|(grind [j5];done)|(simp_all[j5];done)
def K8:aj:=bj 233
def w1023 (hm:(Y.at 0).cb)(hA:Vm Y)(hB:QF Y):qp (cz Y K8):=λs hp0=>by
 refine qo ?_;refine aG (hc:=hB (s.f) jJ) ?_;refine dI ?_;refine cB (hc:=λhf=>hB (s.t) jJ) ?_;refine zr ?_;first|(grind [qg];done)|(simp_all[qg];done)
def Tw:aj:=bj 206
def w980 (hm:(Y.at 0).cb)(hA:AU Y)(hB:Vl Y)(hC:aeP Y):uA (cz Y Tw):=λs v hp0=>by
 refine En ?_;refine cN ?_;refine cB (hc:=λhf=>hC (s.f) (v) jJ) ?_;refine kI ?_;refine cB (hc:=λhf=>hC (s.t) (v) jJ) ?_;refine zr ?_;first|(grind [sv,qg];done)|(simp_all[sv,qg];done)
def aec:aj:=bj 202
def w925 (hA:Vl Y)(hB:Vm Y):uz (cz Y aec):=λl hp0=>by
 refine zg ?_;intro u0;refine zf hm (λi=>[.m 14 l Span.D,.u 1,.i i,.i l.length,.u 1,.m 14 l Span.D,.u 3]) (λi=>[]) 4 (λi=>i<=l.length/\sS l=b9 (Bh l) i l.length) (λi=>l.length-i) ⟨ae,rfl⟩ [] ?_;rintro i ⟨hi,hr⟩;refine zc ?_ ?_<;>intro hc0
 .refine ID ?_;refine aG (hc:=hA ((l)[i]!) jJ) ?_;refine qx ?_;refine cM ((i-1)) (hj:=λhf=>cv) (hb:=λhf=>cv) ?_;refine eX ?_;refine cB (hc:=λhf=>hB ((l)[(i-1)]!.t) ((l)[i]!.f) jJ) ?_;refine zc ?_ ?_<;>intro hc1
  .refine zr ?_;rw[hr,aA ae];first|(grind [Bh];done)|(simp_all[Bh];done)
  refine gI (i+1) [] ?_;rw[hr,aA ae];first|(grind [Bh];done)|(simp_all[Bh];done)
 refine zr ?_;rw[hr,bI ae]
def aeb:aj:=bj 171
def w861 (hA:C925 Y)(hB:C980 Y):uy (cz Y aeb):=λl v hp0=>by
 refine zc ?_ ?_<;>intro hc0
 .refine zr ?_;unfold wh;simp_all
 refine zg ?_;intro u0;refine zf hm (λi=>[.m 14 l Span.D,.u 3,.i i,.i l.length,.u 1,.m 14 l Span.D,.u 1,.p 0 5,.u 1]) (λi=>[(0,.buf 5 [ca.D v])]) 8 (λi=>i<=l.length/\wh l v=oK (λi=>sv l[i]! v) i l.length) (λi=>l.length-i) ⟨ae,by unfold wh;rw[show sS l=true by simpa using hc0];rfl⟩ [(0,0)] ?_;rintro i ⟨hi,hr⟩;refine zc ?_ ?_<;>intro hc1
 .refine Fb ?_;refine aG (hc:=hB ((l)[i]!) (v) jJ) ?_;refine zc ?_ ?_<;>intro hc2
  .refine zr ?_;rw[hr,j1 ae];simp_all
  refine gI (i+1) [(0,0)] ?_;rw[hr,j1 ae];simp_all
 refine zr ?_;rw[hr,tj ae]
def M9:aj:=⟨1,3,re1,ha1,(sq (rg [gb 7 s0,gm cbF] [(2,0),(1,1)]) (sq (r1 [gf 0 s2,gd l0,sC l1 yE,gm l2,gff 3 6 s2,gdf 3 l4,BA 3 (.un .not l5),gmf 3 l6,Ri 7 1 s2,Ri 7 3 l8,gdt 7 l9,A2 7 (zP l10 cse),gaf 3 l7 l11,gmf 3 l12,Ri 13 1 s2,A2 13 (.ld 5 true l14),A2 13 (.mv (.c (.agg [.int .i64 0,.int .i64 0,.int .i64 0,.str [],.str []]))),A2 13 (.eqA true true [.i .i64,.i .i64,.i .i64,.s,.s] l15 l16),gaf 3 l13 l17,go1 l3 l18,gm l19] 1 20) .ret))⟩
def w924 (hm:(Y.at 0).cb):Kb (cz Y M9):=λc=>by
 refine En ?_;refine kF ?_;refine bK (d:=ca.D zV) ?_;refine zr ?_;first|(grind [rK,zV];done)|(simp_all[rK,zV];done)
def aej:aj:=bj 165
def w780 (hA:C924 Y)(hB:C925 Y):ux (cz Y aej):=λs hp0=>by
 refine zg ?_;intro u0;refine zf hm (λi=>[.u 2,.p 0 2,.i i,.i s.rel.length,.u 1,.m 14 s.rel Span.D,.u 2]) (λi=>[(0,.buf 2 [cA.D s])]) 6 (λi=>i<=s.rel.length/\wj s=(b9 (λi=>rK s.rel[i]!.f&&rK s.rel[i]!.t) i s.rel.length&&(sS s.rel&&sS s.pr))) (λi=>s.rel.length-i) ⟨ae,(aef s).symm⟩ [(0,0)] ?_;rintro i ⟨hi,hr⟩;refine zc ?_ ?_<;>intro hc0
 .refine zc ?_ ?_<;>intro hc1
  .refine zr ?_;rw[hr,aA ae];rcases hc1 with h|h<;>simp only[h,Bool.and_false,Bool.false_and]
  refine gI (i+1) [(0,0)] ?_;rw[hr,aA ae];simp_all
 refine kI ?_;refine aG (hc:=hB (s.rel) jJ) ?_;refine dI ?_;refine cB (hc:=λhf=>hB (s.pr) jJ) ?_;refine zr ?_;rw[hr,bI ae];simp
def aei:aj:=bj 125
def w712 (hm:(Y.at 0).cb)(hA:AU Y)(hB:C780 Y)(hC:C861 Y):ur (cz Y aei):=λs v hp0=>by
 refine zc ?_ ?_<;>intro hc0
 .refine zr ?_;first|(grind [pf];done)|(simp_all[pf];done)
 refine zc ?_ ?_<;>intro hc1
 .refine kI ?_;refine aG (hc:=hC (s.rel) (v) jJ) ?_;refine zr ?_;first|(grind [pf];done)|(simp_all[pf];done)
 refine kI ?_;refine aG (hc:=hC (s.pr) (v) jJ) ?_;refine zr ?_;first|(grind [pf];done)|(simp_all[pf];done)
def Zx:aj:=⟨1,4,re1,ha1,(sq (rg [gb 7 s0,gm cbF] [(2,0),(1,1)]) (sq (sq (r1 [gf 0 s2,gd l0,Hs l1 yE] 3 2) (.cond s3 (sq (r1 [gf 1 s2,gk 5 true l0,gx 217 [l1] ha5,gm l2,Ri 3 1 s2,Ri 3 4 l4,gdt 3 l5,A2 3 (zP l6 cse),ga1 l3 l7,gm l8] 1 9) .ret) .skip)) (sq (r1 [gf 0 s2,gd l0,gn (zP l1 (.c (.int .i64 (-1)))),gm l2,gff 3 0 s2,gdf 3 l4,BA 3 (zP l5 TN),go1 l3 l6,gm l7,Ri 8 1 s2,A2 8 (.ld 5 true l9),A2 8 (.build [.int .i64 0,.int .i64 0,.int .i64 0,.str [],.str []] []),A2 8 (.eqA false true [.i .i64,.i .i64,.i .i64,.s,.s] l10 l11),ga1 l8 l12,gm l13,Ri 14 6 s2,gdt 14 l15,A2 14 (.un .not l16),ga1 l14 l17,gm l18] 1 19) .ret)))⟩
def w1086 (hm:(Y.at 0).cb)(hA:BW Y):qu (cz Y Zx):=λc hp0=>by
 refine zc ?_ ?_<;>intro hc0
 .refine zr ?_;first|(grind [pN,zV];done)|(simp_all[pN,zV];done)
 refine Fc ?_;refine bg (ca.D (⟨0,0,0,[],[]⟩)) ?_;refine zr ?_;first|(grind [pN,zV];done)|(simp_all[pN,zV];done)
def Ic:aj:=bj 265
def w1020 (hA:Ta Y)(hB:Vt Y)(hC:QE Y):qq (cz Y Ic):=λa b hp0=>by
 refine zc ?_ ?_<;>intro hc0
 .refine zr ?_;first|(grind [ll,dt];done)|(simp_all[ll,dt];done)
 refine zc ?_ ?_<;>intro hc1
 .refine zr ?_;first|(grind [ll,dt];done)|(simp_all[ll,dt];done)
 refine zc ?_ ?_<;>intro hc2
 .refine zr ?_;first|(grind [ll,dt];done)|(simp_all[ll,dt];done)
 refine zc ?_ ?_<;>intro hc3
 .refine zr ?_;first|(grind [ll,dt];done)|(simp_all[ll,dt];done)
 refine zc ?_ ?_<;>intro hc4
 .refine zr ?_;first|(grind [ll,dt];done)|(simp_all[ll,dt];done)
 refine zr ?_;first|(grind [ll,dt];done)|(simp_all[ll,dt];done)
def PR:aj:=bj 266
def w1025 (hm:(Y.at 0).cb)(hA:BW Y)(hB:Ta Y)(hC:QE Y):qt (cz Y PR):=λc v hp0=>by
 refine zc ?_ ?_<;>intro hc0
 .refine zr ?_;first|(grind [j5];done)|(simp_all[j5];done)
 refine zc ?_ ?_<;>intro hc1
 .refine zr ?_;first|(grind [j5];done)|(simp_all[j5];done)
 refine zr ?_;first|(grind [j5];done)|(simp_all[j5];done)
def Ie:aj:=bj 264
def w1019 (hm:(Y.at 0).cb)(hA:QD Y)(hB:QE Y):qp (cz Y Ie):=λs hp0=>by
 refine qo ?_;refine aG (hc:=hB (s.f) jJ) ?_;refine dI ?_;refine cB (hc:=λhf=>hB (s.t) jJ) ?_;refine zr ?_;first|(grind [qg];done)|(simp_all[qg];done)
def PS:aj:=bj 232
def w926 (hm:(Y.at 0).cb)(hA:BW Y)(hB:KF Y)(hC:aeO Y):uA (cz Y PS):=λs v hp0=>by
 refine En ?_;refine cN ?_;refine cB (hc:=λhf=>hC (s.f) (v) jJ) ?_;refine kI ?_;refine cB (hc:=λhf=>hC (s.t) (v) jJ) ?_;refine zr ?_;first|(grind [sv,qg];done)|(simp_all[sv,qg];done)
def Zz:aj:=bj 230
def w916 (hA:KF Y)(hB:QD Y):uz (cz Y Zz):=λl hp0=>by
 refine zg ?_;refine zf hm (λi=>[.m 14 l Span.D,.u 1,.i i,.u 2]) (λi=>[]) 2 (λi=>i<=l.length/\sS l=b9 (Bh l) i l.length) (λi=>l.length-i) ⟨ae,rfl⟩ [] ?_;rintro i ⟨hi,hr⟩;refine zg ?_;intro u0;refine dN ?_ ?_<;>intro hc0
 .refine qo ?_;refine aG (hc:=hA ((l)[i]!) jJ) ?_;refine qx ?_;refine cM ((i-1)) (hj:=λhf=>cv) (hb:=λhf=>cv) ?_;refine qo ?_;refine cB (hc:=λhf=>hB ((l)[(i-1)]!.t) ((l)[i]!.f) jJ) ?_;refine zc ?_ ?_<;>intro hc1
  .refine zr ?_;rw[hr,aA ae];first|(grind [Bh];done)|(simp_all[Bh];done)
  refine gI (i+1) [] ?_;rw[hr,aA ae];first|(grind [Bh];done)|(simp_all[Bh];done)
 refine zr ?_;rw[hr,bI ae]
def Zy:aj:=bj 198
def w782 (hA:Vw Y)(hB:C926 Y):uy (cz Y Zy):=λl v hp0=>by
 refine zg ?_;refine zf hm (λi=>[.m 14 l Span.D,.u 2,.i i,.u 1,.p 0 5,.u 1]) (λi=>[(0,.buf 5 [ca.D v])]) 3 (λi=>i<=l.length/\wh l v=(sS l&&oK (λi=>sv l[i]! v) i l.length)) (λi=>l.length-i) ⟨ae,rfl⟩ [(0,0)] ?_;rintro i ⟨hi,hr⟩;refine zg ?_;intro u0;refine dN ?_ ?_<;>intro hc0
 .refine qx ?_;refine aG (hc:=hB ((l)[i]!) (v) jJ) ?_;refine zc ?_ ?_<;>intro hc1
  .refine zr ?_;rw[hr,j1 ae];simp_all
  refine gI (i+1) [(0,0)] ?_;rw[hr,j1 ae];simp_all
 refine zr ?_;rw[hr];rcases hc0 with h|h
 .rw[tj ae];simp
 .rw[h];rfl
def PT:aj:=bj 253
def w600 (hm:(Y.at 0).cb):JA (cz Y PT):=λv=>by
 refine zr ?_;first|(grind [vR];done)|(simp_all[vR];done)
def PU:aj:=bj 231
def w917 (hm:(Y.at 0).cb)(hA:C600 Y):Ka (cz Y PU):=λc=>by
 refine zr ?_;first|(grind [mV];done)|(simp_all[mV];done)
def ZB:aj:=bj 197
def w770 (hA:Vw Y)(hB:C917 Y):ux (cz Y ZB):=λs hp0=>by
 refine qx ?_;refine aG (hc:=hA (s.rel) jJ) ?_;refine eX ?_;refine cB (hc:=λhf=>hA (s.pr) jJ) ?_;refine zc ?_ ?_<;>intro hc0
 .refine zr ?_;unfold wj;rcases hc0 with h|h<;>simp[h]
 refine zg ?_;refine zf hm (λi=>[.u 2,.p 0 2,.u 1,.i i,.u 2]) (λi=>[(0,.buf 2 [cA.D s])]) 13 (λi=>i<=s.rel.length/\wj s=b9 (λi=>mV s.rel[i]!.f&&mV s.rel[i]!.t) i s.rel.length) (λi=>s.rel.length-i) ⟨ae,by unfold wj;simp_all⟩ [(0,0)] ?_;rintro i ⟨hi,hr⟩;refine zg ?_;intro u0;refine dN ?_ ?_<;>intro hc1
 .refine zc ?_ ?_<;>intro hc2
  .refine zr ?_;rw[hr,aA ae];rcases hc2 with h|h<;>simp only[h,Bool.and_false,Bool.false_and]
  refine gI (i+1) [(0,0)] ?_;rw[hr,aA ae];simp_all
 refine zr ?_;rw[hr,bI ae]
def ZA:aj:=bj 158
def w627 (hm:(Y.at 0).cb)(hA:BW Y)(hB:Vu Y)(hC:C782 Y):ur (cz Y ZA):=λs v hp0=>by
 refine zc ?_ ?_<;>intro hc0
 .refine zr ?_;first|(grind [pf];done)|(simp_all[pf];done)
 refine zc ?_ ?_<;>intro hc1
 .refine kI ?_;refine aG (hc:=hC (s.rel) (v) jJ) ?_;refine zr ?_;first|(grind [pf];done)|(simp_all[pf];done)
 refine kI ?_;refine aG (hc:=hC (s.pr) (v) jJ) ?_;refine zr ?_;first|(grind [pf];done)|(simp_all[pf];done)
def NG:aj:=bj 67
def w408 (hm:(Y.at 0).cb)(hA:C516 Y)(hB:C531 Y):I8 (cz Y NG):=λa b=>by
 refine En ?_;refine cN ?_;refine bc [.int .i64 (pM a.n b.n),.int .i64 (pM a.f b.f)] ?_;refine aG (hc:=hB [pM a.n b.n,pM a.f b.f]) (ha:=λ_=>aw (λd=>[d]) (tM (q:=D.int .i64) (xs:=[pM a.n b.n,pM a.f b.f]) (λ_=>rfl) ah)) (hp:=λ_=>⟨qk (q:=D.int .i64) (xs:=[pM a.n b.n,pM a.f b.f]) (λ_=>rfl) ah,trivial⟩) ?_;refine zr ?_;unfold HF;simp[fZ,sk];grind
def NH:aj:=bj 120
def w622 (hA:C780 Y):JD (cz Y NH):=λl n hp0=>by
 refine zg ?_;intro u0;refine zf hm (λi=>[.u 1,.i n,.u 1,.i i,.i l.length,.u 1,.m 3 l Want.D,.u 2]) (λi=>[]) 4 (λi=>i<=l.length/\pB n l=b9 (λi=>sX n l[i]!) i l.length) (λi=>l.length-i) ⟨ae,rfl⟩ [] ?_;rintro i ⟨hi,hr⟩;refine zc ?_ ?_<;>intro hc0
 .refine kF ?_;refine bY _ ?_;refine iw ?_;refine cB (hc:=λhf=>hA _ ?_) ?_;rotate_left;first|assumption|omega|exact hp0 _ (aq ae)
  refine zc ?_ ?_<;>intro hc1
  .refine zr ?_;rw[hr,aA ae];simp only[sX];grind
  refine gI (i+1) [] ?_;rw[hr,aA ae];simp only[sX];grind
 refine zr ?_;rw[hr,bI ae]
def PG:aj:=bj 200
def w778 (hm:(Y.at 0).cb)(hA:Vu Y):JX (cz Y PG):=λw n hp0=>by
 refine zr ?_;first|(grind [sX];done)|(simp_all[sX];done)
def MK:aj:=bj 199
def w777 (hA:C778 Y):JW (cz Y MK):=λl n hp0=>by
 refine zg ?_;refine zf hm (λi=>[.m 3 l Want.D,.i n,.u 1,.i i,.u 2]) (λi=>[]) 2 (λi=>i<=l.length/\pB n l=b9 (λi=>sX n l[i]!) i l.length) (λi=>l.length-i) ⟨ae,rfl⟩ [] ?_;rintro i ⟨hi,hr⟩;refine zg ?_;intro u0;refine dN ?_ ?_<;>intro hc0
 .refine zc ?_ ?_<;>intro hc1
  .refine zr ?_;unfold rJ;rw[hr,aA ae];grind
  refine gI (i+1) [] ?_;rw[hr,aA ae];grind
 refine zg ?_;intro u1;refine zr ?_;unfold rJ;rw[hr,bI ae];grind
def Pz:aj:=bj 160
def w618 (hA:BW Y)(hB:C777 Y)(hC:C778 Y):JC (cz Y Pz):=λc n hp0=>by
 refine qx ?_;refine aG (hc:=hA (c.v) Qv) ?_;refine zc ?_ ?_<;>intro hc0
 .refine zr ?_;unfold mZ;grind
 refine zg ?_;refine zf hm (λi=>[.u 1,.i n,.u 1,.p 0 8,.u 1,.i i,.u 5]) (λi=>[(0,.buf 8 [eA.D c])]) 19 (λi=>i<=c.needs.length/\b9 (λi=>rJ n c.needs[i]!) 0 c.needs.length=b9 (λi=>rJ n c.needs[i]!) i c.needs.length) (λi=>c.needs.length-i) ⟨ae,rfl⟩ [(0,0)] ?_;rintro i ⟨hi,hr⟩;refine zg ?_;intro u0;refine dN ?_ ?_<;>intro hc1
 .refine qo ?_;refine dd (v:=.sl 3 (((c.needs)[i]!).map Want.D)) (hi:=λhf=>cv) ?_;refine cN ?_;refine aG (hc:=hB ((c.needs)[i]!) (n) Qv) ?_;refine zc ?_ ?_<;>intro hc2
  .refine zr ?_;unfold mZ;rw[hr,aA ae];grind
  refine gI (i+1) [(0,0)] ?_;rw[hr,aA ae];grind
 refine zg ?_;refine zf hm (λk=>[.u 1,.i n,.u 1,.p 0 8,.u 4,.i k,.u 2]) (λk=>[(0,.buf 8 [eA.D c])]) 25 (λk=>k<=c.bars.length/\pB n c.bars=b9 (λi=>sX n c.bars[i]!) k c.bars.length) (λk=>c.bars.length-k) ⟨ae,rfl⟩ [(0,0)] ?_;rintro k ⟨hk,hr2⟩;refine zg ?_;intro u1;refine dN ?_ ?_<;>intro hc3
 .refine yx ?_;refine aG (hc:=hC ((c.bars)[k]!) (n) Qv) ?_;refine zc ?_ ?_<;>intro hc4
  .refine zr ?_;unfold mZ;rw[hr2,aA (i:=k) ae];grind
  refine gI (k+1) [(0,0)] ?_;rw[hr2,aA ae];grind
 refine zr ?_;unfold mZ;rw[hr2,bI (i:=k) ae,hr,bI (i:=i) ae];grind
def Bn:aj:=bj 70
def w409 (hA:C622 Y):I9 (cz Y Bn):=λc n hp0=>by
 refine zg ?_;intro u0;refine dN ?_ ?_<;>intro hc0
 .refine zr ?_;unfold mZ;grind
 refine zg ?_;intro u1;refine zf hm (λi=>[.u 1,.i n,.u 1,.p 0 8,.u 1,.i i,.i c.needs.length,.u 1,.m 1 c.needs jI,.u 2]) (λi=>[(0,.buf 8 [eA.D c])]) 16 (λi=>i<=c.needs.length/\b9 (λi=>rJ n c.needs[i]!) 0 c.needs.length=b9 (λi=>rJ n c.needs[i]!) i c.needs.length) (λi=>c.needs.length-i) ⟨ae,rfl⟩ [(0,0)] ?_;rintro i ⟨hi,hr⟩;refine zc ?_ ?_<;>intro hc1
 .refine eX ?_;refine dd (v:=.sl 3 (((c.needs)[i]!).map Want.D)) (hi:=λhf=>cv) ?_;refine iw ?_;intro u2;refine cB (hc:=λhf=>hA ((c.needs)[i]!) (n) aa1) ?_;refine zc ?_ ?_<;>intro hc2
  .refine zr ?_;unfold mZ;rw[hr,aA ae];simp only[rJ];grind
  refine gI (i+1) [(0,0)] ?_;rw[hr,aA ae];simp only[rJ];grind
 refine kF ?_;refine aG (hc:=hA (c.bars) (n) aa1) ?_;refine zr ?_;unfold mZ;rw[hr,bI ae];grind
def MG:aj:=bj 159
def w617 (hm:(Y.at 0).cb):JB (cz Y MG):=λa b=>by
 refine zr ?_;first|(grind [jK];done)|(simp_all[jK];done)
def U8:aj:=bj 34
def w175 (hA:AU Y)(hB:S7 Y)(hC:C408 Y)(hD:C409 Y):tQ (cz Y U8):=λw hp0=>by
 refine zk21 ?_;intro u0;refine cM (0) (hj:=λhf=>cv) (hb:=λhf=>cv) ?_;refine qo ?_;refine cM (0) (hj:=λhf=>cv) (hb:=λhf=>cv) ?_;refine qo ?_;refine cM (0) (hj:=λhf=>cv) (hb:=λhf=>cv) ?_;refine zc ?_ ?_<;>intro hc0
 .refine zr ?_;unfold eE uY;grind
 refine zg ?_;intro u1;refine zf hm (λi=>[.u 2,.p 0 1,.i w.us.length,.u 1,.i i,.i w.us.length,.u 1,.m 3 w.us cJ.D,.u 10]) (λi=>[(0,.buf 1 [bR.D w])]) 41 (λi=>i<=w.us.length/\w.us.length<=48/\eE w=b9 (lF w.us) i w.us.length) (λi=>w.us.length-i) ⟨ae,ae,by unfold eE uY;grind⟩ [(0,0)] ?_;rintro i ⟨hi,h48,hr⟩;refine zc ?_ ?_<;>intro hc1
 .refine qx ?_;refine bY _ ?_;refine dI ?_;have ho:=Uh w.us[i-1]! w.us[i]!;have hku:=hp0 _ (aq (show i<w.us.length by omega));refine iw ?_;refine cN ?_;refine cM ((i-1)) (hj:=λhf=>cv) (hb:=λhf=>cv) ?_;refine kF ?_;refine cM ((i-1)) (hj:=λhf=>cv) (hb:=λhf=>cv) ?_;refine cC ?_;refine bg (Key.D (⟨w.us[i-1]!.name,w.us[i-1]!.feat⟩:Key)) ?_;refine eX ?_;refine bg (Key.D (⟨w.us[i]!.name,w.us[i]!.feat⟩:Key)) ?_;refine zc ?_ ?_<;>intro hc2
  .refine zr ?_;rw[hr,aA ae];unfold lF;grind
  refine zg ?_;intro u2;refine zfL hm (λk=>[.u 2,.p 0 1,.i w.us.length,.u 1,.i i,.i w.us.length,.u 1,.m 3 w.us cJ.D,.i i,.p 1 3,.u 1,.i k,.i (w.us[i]!.cands.length:Nat),.u 1,.m 8 (w.us[i]!.cands) eA.D,.u 3]) (λk=>[(0,.buf 1 [bR.D w]),(1,.buf 3 [cJ.D (w.us[i]!)])]) 93 (λk=>k<=w.us[i]!.cands.length/\b9 (m6 w.us.length w.us[i]!.cands) 0 w.us[i]!.cands.length=b9 (m6 w.us.length w.us[i]!.cands) k w.us[i]!.cands.length) (λk=>w.us[i]!.cands.length-k) ⟨ae,rfl⟩ [(0,0),(45,1)] ?_;rintro k ⟨hk,hr2⟩;refine zg ?_;refine dN ?_ ?_<;>intro hc3
  .refine gr ?_;refine mJ ?_ hm;refine aQ ?_;refine bK ?_;refine cM (k) (hj:=λhf=>cv) (hb:=λhf=>cv) ?_;refine dd (v:=eA.D ((w.us[i]!.cands)[k]!)) (hi:=λhf=>cv) ?_;refine xW ?_;refine bK ?_;refine bY _ ?_;refine bB (env':=[_,_,_,_,_,_,_,_,_,_,_,_,_,_,_,_,⟨_,_⟩,⟨_,(.int _ _)⟩,_]) ?_;refine aQ ?_;refine R5 ?_;refine qc (v:=(ca.D _)) ?_;refine aG (hc:=hA _ ?_) ?_;rotate_left;first|assumption|omega|exact⟨hku.2 _ (aq ae),hku.2 _ (aq ae)⟩|exact(hku.2 _ (aq ae)).1|exact hku.2 _ (aq ae)|exact⟨(hku.2 _ (aq ae)).1,(hku.2 _ (aq ae)).1⟩
   refine R7 ?_;refine bK ?_;refine bK ?_;refine pn ?_;refine bK ?_;refine R5 ?_;refine qc (v:=.sl 8 ((w.us[i]!.cands).map eA.D)) ?_;refine bK ?_;refine BN (hb:=λhf=>cv) ?_;refine cM ((k-1)) (hj:=λhf=>cv) (hb:=λhf=>cv) ?_;refine Ao ?_;refine dd (v:=ca.D ((w.us[i]!.cands)[(k-1)]!.v)) (hi:=λhf=>cv) ?_;refine R5 ?_;refine qc (v:=(ca.D _)) ?_;refine cB (hc:=λhf=>hB ((w.us[i]!.cands)[(k-1)]!.v) _ ?_) ?_;rotate_left;first|assumption|omega|exact⟨hku.2 _ (aq ae),hku.2 _ (aq ae)⟩|exact(hku.2 _ (aq ae)).1|exact hku.2 _ (aq ae)|exact⟨(hku.2 _ (aq ae)).1,(hku.2 _ (aq ae)).1⟩
   refine HM ?_;refine u7 ?_;refine Mn ?_;refine bK ?_;refine mB ?_;refine bK ?_;refine cB (hc:=λhf=>hD _ _ ?_) ?_;rotate_left;first|assumption|omega|exact⟨hku.2 _ (aq ae),hku.2 _ (aq ae)⟩|exact(hku.2 _ (aq ae)).1|exact hku.2 _ (aq ae)|exact⟨(hku.2 _ (aq ae)).1,(hku.2 _ (aq ae)).1⟩
   refine R7 ?_;refine Mn ?_;refine bB (env':=[_,_,_,_,_,_,_,_,_,_,_,_,_,_,_,_,_,_,⟨_,(.bool _)⟩]) ?_;refine Bv ?_ ?_<;>intro hc4
   .refine zr ?_;rw[hr,aA (i:=i) ae];unfold lF;rw[hr2,aA (i:=k) ae];simp only[m6];grind
   refine gI (k+1) [(0,0),(1,1)] ?_;rw[hr2,aA ae];simp only[m6];grind
  refine zl (i+1) [(0,0)] ?_;exact⟨ae,h48,by rw[hr,aA ae];unfold lF;rw[hr2,bI (i:=k) ae];grind⟩
 refine zr ?_;rw[hr,bI ae]
def MF:aj:=bj 28
def w147 (hA:Vn Y)(hB:Vo Y)(hC:C145 Y)(hD:C360 Y)(hE:C361 Y)(hF:C362 Y):IH (cz Y MF):=λl shop e ks hp0=>by
 refine cN ?_;have hyp:=(tN hp0.1.p.1.1 (i:=0) (by have:=(yw hp0.1.p.1.1).1;omega)).2.2.1;refine xW ?_;refine xW ?_;refine bK ?_;refine bB (env':=[_,_,_,_,⟨_,_⟩,⟨_,(.int _ _)⟩,_,_,⟨_,_⟩,_,_,_,_,_,_,_,_,_,_]) ?_;refine gh ?_;refine aQ ?_;refine bK ?_;refine aG (hc:=hA (l) QA) ?_;refine bK ?_;refine kY (.int _ _) ?_;refine kY (.int _ _) ?_;refine bK ?_;refine bK ?_;refine bB (env':=[_,_,_,_,_,_,⟨_,(.int _ _)⟩,_,_,_,_,_,_,_,_,_,_,_,_]) ?_;refine gh ?_;refine aQ ?_;refine bK ?_;refine po ?_;refine bB (env':=[_,_,_,_,_,_,_,⟨_,(.bool _)⟩,_,_,_,_,_,_,_,_,_,_,_]) ?_;refine dN ?_ ?_<;>intro hc0
 .exact absurd trivial hc0
 refine eX ?_;refine aG (hc:=hC (shop) QA) ?_;refine kF ?_;refine bB (env':=[_,_,_,_,_,_,_,_,_,⟨_,(.bool _)⟩,_,_,_,_,_,_,_,_,_]) ?_;refine zc ?_ ?_<;>intro hc1
 .refine cC ?_;refine bT _ ?_;refine bY _ ?_;refine cN ?_;refine bB (env':=[_,_,_,_,_,⟨_,(.int _ _)⟩,_,_,_,_,_,_,_,_,_,_,_,_,_]) ?_;refine zr ?_;rw[ab2 hc1];rfl
 refine gr ?_;refine aQ ?_;refine bK ?_;refine aG (hc:=hD (l) QA) ?_;refine bK ?_;refine kY (.sl _ _) ?_;refine kY (.int _ _) ?_;refine bK ?_;refine bK ?_;refine bB (env':=[_,_,_,_,_,_,_,_,_,_,⟨_,(.int _ _)⟩,_,_,⟨_,(.sl _ _)⟩,_,_,_,_,_]) ?_;refine gh ?_;refine aQ ?_;refine bK ?_;refine po ?_;refine bB (env':=[_,_,_,_,_,_,_,_,_,_,_,⟨_,(.bool _)⟩,_,_,_,_,_,_,_]) ?_;refine dN ?_ ?_<;>intro hc2
 .exact absurd trivial hc2
 refine eX ?_;refine bB (env':=[_,_,_,_,_,_,_,_,_,_,_,_,⟨_,(.int _ _)⟩,_,_,_,_,_,_]) ?_;refine zf hm (λi=>[.m 11 l hR.D,.m 2 shop bM.D,.u 1,.m 6 ks Kp.D,.p 1 1,.u 3,.p 0 3,.u 3,.i i,.m 2 (gN l) iN.D,.u 5]) (λi=>[(0,.buf 3 [Env.D e]),(1,.buf 1 [.agg [.aL]])]) 30 (λi=>i<=(gN l).length/\∀j,j<i->0<=mE shop (gN l)[j]!.shelf) (λi=>(gN l).length-i) ⟨ae,λj h=>ae⟩ [(0,0),(1,1)] ?_;rintro i ⟨hi,hr⟩;refine zg ?_;intro u0;refine dN ?_ ?_<;>intro hc3
 .refine zc ?_ ?_<;>intro hc4
  .refine cN ?_;refine bT _ ?_;refine bY _ ?_;refine zr ?_;rw[ab3 hc1 (i:=i) ae ae];rfl
  refine gI (i+1) [(0,0),(1,1)] ?_;exact λj h=>by rcases Nat.lt_succ_iff_lt_or_eq.1 h with h|rfl;exact hr j h;omega
 refine dI ?_;have hpa:=YB (l:=l) (shop:=shop) (i:=i) ae hr;refine kI ?_;refine bT _ ?_;refine cN ?_;refine bg (cF.D (yv l shop e ks) (.ptr 40 2 0 0)) ?_;refine dK (nx':=34) (v:=.tup [bR.D (ez (yv l shop e ks)).1,.bool (ez (yv l shop e ks)).2]) (m':=[(0,.buf 3 [Env.D e]),(1,.buf 1 [.agg [.aL]])]) (hc:=λK' hK=>hF (yv l shop e ks) hp0 _ 40 _ K' eB ah hK) (hn:=aU) ?_;refine zc ?_ ?_<;>intro hc5
 .refine cC ?_;refine bT _ ?_;refine bY _ ?_;refine zr ?_;rw[ab4 hc1 hpa o8];rfl
 refine dI ?_;refine bY _ ?_;refine zr ?_;rw[ab5 hc1 hpa o8];rfl
def PF:aj:=bj 109
def w403 (hA:Ta Y)(hB:C617 Y)(hC:C618 Y):I7 (cz Y PF):=λw i hp0=>by
 refine cN ?_;obtain⟨j,rfl⟩:∃j:Nat,i=(j:Int):=⟨i.toNat,ae⟩
 have hjl:j<w.us.length:=ae;have hju:=hp0.1 _ (aq hjl);simp only[Int.toNat_natCast];refine uQ ?_;refine bY _ ?_;refine zg ?_;intro u0;refine dN ?_ ?_<;>intro hc0
 .refine zr ?_;unfold sV lF;grind
 refine zc ?_ ?_<;>intro hc1
 .refine zr ?_;unfold sV lF uY;grind
 refine iw ?_;refine eX ?_;refine cM ((j-1)) (hj:=λhf=>cv) (hb:=λhf=>cv) ?_;refine zc ?_ ?_<;>intro hc2
 .refine zr ?_;unfold sV lF;grind
 refine zg ?_;refine zf hm (λk=>[.u 1,.i j,.u 1,.p 0 1,.p 1 3,.u 3,.i k,.u 2]) (λk=>[(0,.buf 1 [bR.D w]),(1,.buf 3 [cJ.D (w.us[j]!)])]) 54 (λk=>k<=w.us[j]!.cands.length/\b9 (m6 w.us.length w.us[j]!.cands) 0 w.us[j]!.cands.length=b9 (m6 w.us.length w.us[j]!.cands) k w.us[j]!.cands.length) (λk=>w.us[j]!.cands.length-k) ⟨ae,rfl⟩ [(0,0),(7,1)] ?_;rintro k ⟨hk,hr⟩;refine zg ?_;intro u1;refine dN ?_ ?_<;>intro hc3
 .refine Fb ?_;refine aG (hc:=hC ((w.us[j]!.cands)[k]!) _ ?_) ?_;rotate_left;first|assumption|omega|(grind [bR.sm,cJ.sm,eA.sm,aq])
  refine yx ?_;refine cM ((k-1)) (hj:=λhf=>cv) (hb:=λhf=>cv) ?_;refine qx ?_;refine cB (hc:=λhf=>hA ((w.us[j]!.cands)[(k-1)]!.v) ((w.us[j]!.cands)[k]!.v) (by first|assumption|omega|(grind [bR.sm,cJ.sm,eA.sm,aq]))) ?_;refine zc ?_ ?_<;>intro hc4
  .refine zr ?_;unfold sV lF;rw[hr,aA (i:=k) ae];simp only[m6];grind
  refine gI (k+1) [(0,0),(1,1)] ?_;rw[hr,aA ae];simp only[m6];grind
 refine zr ?_;unfold sV lF uY;rw[hr,bI (i:=k) ae];grind
def Ux:aj:=bj 64
def w169 (hA:C403 Y):tQ (cz Y Ux):=λw hp0=>by
 refine zg ?_;intro u0;refine dN ?_ ?_<;>intro hc0
 .refine zr ?_;rw[Eg];grind
 refine zg ?_;refine zf hm (λi=>[.u 2,.p 0 1,.u 1,.i i,.u 2]) (λi=>[(0,.buf 1 [bR.D w])]) 13 (λi=>i<=w.us.length/\b9 (sV w.us) 0 w.us.length=b9 (sV w.us) i w.us.length) (λi=>w.us.length-i) ⟨ae,rfl⟩ [(0,0)] ?_;rintro i ⟨hi,hr⟩;refine zg ?_;intro u1;refine dN ?_ ?_<;>intro hc1
 .refine zc ?_ ?_<;>intro hc2
  .refine zr ?_;rw[Eg,hr,aA ae];grind
  refine gI (i+1) [(0,0)] ?_;rw[hr,aA ae];grind
 refine zr ?_;rw[Eg,hr,bI ae];grind
def UC:aj:=bj 130
def w249:IQ (cz Y UC):=λl x hp0=>by
 refine zg ?_;refine zf hm (λi=>[.m 1 l D.str,.e (.int .u8 (x.toNat:Nat)),.u 1,.i i,.u 2,.e (.str (cw [x] (l.take i)))]) (λi=>[]) 3 (λi=>i<=l.length) (λi=>l.length-i) ae [] ?_;intro i hi;refine zg ?_;intro u0;refine dN ?_ ?_<;>intro hc0
 .refine eX ?_;have hj:=FB [x] l (i+1);refine zg ?_;refine aR (λhc1=>?_) (λhc1=>?_)
  .simp only[aV]at hc1;have ht:=CN [x] l i ae;rw[ak ae]at ht;have htl:=aw List.length ht;simp only[cu,List.length_singleton]at htl;refine dI ?_;refine bc [.int .u8 _] ?_;refine Y0 [x] (he:=λ_=>lW.all ah rfl) (hs:=λ_=>rfl) ?_;refine zg ?_;exact⟨i+1,ae,ae,(aY.to [] ah ah (by repeat(first|exact fH.nil|refine fH.un ?_|refine fH.eq ah ?_|refine fH.nl (aw D.str (by rw[ht])) ah ?_)) Dj)⟩
  simp only[cy]at hc1;have ht:=CN [x] l i ae;rw[ai ae]at ht;have htl:=aw List.length ht;simp only[cu,b8]at htl;have hi0:i=0:=ae;refine qo ?_;refine Pc (hb:=λ_=>by first|(simp only[cu,List.length_singleton];omega)|(subst hi0;simp only[List.take_zero,cw,b8]at htl⊢;omega)) ?_;refine zg ?_;exact⟨i+1,ae,ae,(aY.to [] ah ah (by repeat(first|exact fH.nil|refine fH.un ?_|refine fH.eq ah ?_|refine fH.nl (aw D.str (by rw[ht];subst hi0;rfl)) ah ?_)) Dj)⟩
 refine zr ?_;rw[fj ae]
def MP:aj:=bj 211
def w815:JZ (cz Y MP):=λl=>by
 refine zg ?_;refine zfx hm (1:Nat) (λi=>[.m 1 l D.str,.u 1,.i i,.u 2]) (λi=>[]) 2 (λi=>1<=i/\(i<=l.length\/i=1)/\rising l=b9 (λi=>Op.bytesLess l[i-1]! l[i]!) i l.length) (λi=>l.length-i) ⟨ae,ae,rfl⟩ [] ?_;rintro i ⟨h1,hi,hr⟩;refine zg ?_;intro u0;refine dN ?_ ?_<;>intro hc0
 .refine kF ?_;refine cM (i-1) ?_;refine zg ?_;refine wp_cond (λhc1=>?_) (λhc1=>?_)
  .simp only[cG]at hc1;refine zr ?_;rw[hr,aA ae,hc1];rfl
  simp only[dq]at hc1;refine zl (i+1) [] ?_;exact⟨ae,ae,by rw[hr,aA ae,hc1];rfl⟩
 refine zr ?_;rw[hr,bI ae]
def MC:aj:=bj 52
def w345 (hA:GJ Y)(hB:C572 Y):I1 (cz Y MC):=λl hp0=>by
 refine zg ?_;refine zf hm (λi=>[.m 2 l kJ.D,.u 2,.i i,.u 3]) (λi=>[]) 3 (λi=>i<=l.length/\Cz l=gX (Cx l) i l.length) (λi=>l.length-i) ⟨ae,rfl⟩ [] ?_;rintro i ⟨hi,hr⟩;refine zg ?_;intro u0;refine dN ?_ ?_<;>intro hc0
 .refine iw ?_;refine eX ?_;refine cM (i-1) (hj:=λhf=>BV) (hb:=λhf=>BV) ?_;refine zg ?_;refine aR (λhc1=>?_) (λhc1=>?_)
  .simp only[gJ]at hc1;simp only[gt_iff_lt,Int.natCast_pos]at hc1;have hz:=ac4 hc1;refine zg ?_;refine fM (b7 (aw (D.int .i64) ?_) (aw (D.int .i64) ?_));all_goals rw[hr,gY ae (by rw[hz];decide),hz]
  simp only[gJ]at hc1;simp only[gt_iff_lt,Int.natCast_pos]at hc1;have hq:¬(dn l[i]!.name=false\/(0<i/\Op.bytesLess l[i-1]!.name l[i]!.name=false)):=by rintro(h|⟨h,h2⟩)<;>simp_all
  refine zg ?_;refine wp_cond (λhc2=>?_) (λhc2=>?_)
  .simp only[gJ]at hc2;have hz:=ac5 hq hc2;refine zg ?_;refine fM (b7 (aw (D.int .i64) ?_) (aw (D.int .i64) ?_));all_goals rw[hr,gY ae (by rw[hz];decide),hz]
  simp only[gJ]at hc2;have hz:=Xd hq hc2;refine gI (i+1) [] ?_;rw[hr,kq ae hz]
 refine zg ?_;refine fM (b7 (aw (D.int .i64) ?_) (aw (D.int .i64) ?_));all_goals rw[hr,ko ae]
def MB:aj:=bj 26
def w136 (hm:(Y.at 0).cb)(hA:C71 Y)(hB:C344 Y)(hC:C345 Y):IF (cz Y MB):=λm hp0=>by
 refine yx ?_;refine aG (hc:=hA m.r hp0.1) ?_;refine zg ?_;refine aR (λhc0=>?_) (λhc0=>?_)
 .simp only[gJ]at hc0;refine zg ?_;refine fM (b7 (aw (D.int .i64) ?_) (aw (D.int .i64) ?_));all_goals rw[Wj hc0]
 simp only[gJ]at hc0;have q0:¬¬(dc m.r).1=0:=λh=>h hc0
 refine zg ?_;intro u0;refine aR (λhc1=>?_) (λhc1=>?_)
 .simp only[gJ]at hc1;have hz:=Wh q0 ae;refine zg ?_;refine fM (b7 (aw (D.int .i64) ?_) (aw (D.int .i64) ?_));all_goals rw[hz]
 simp only[gJ]at hc1;have q1:¬(8<m.ps.length\/8<m.hs.length):=ae;refine zg ?_;refine aR (λhc2=>?_) (λhc2=>?_)
 .simp only[gJ]at hc2;have hz:=Wi q0 q1 rfl hc2;refine zg ?_;refine fM (b7 (aw (D.int .i64) ?_) (aw (D.int .i64) ?_));all_goals rw[hz]
 simp only[gJ]at hc2;have hz:=Wg q0 q1 hc2 rfl;refine eX ?_;refine aG (hc:=hC m.hs hp0.2) ?_;refine zg ?_;refine fM (b7 (aw (D.int .i64) ?_) (aw (D.int .i64) ?_));all_goals rw[hz]
def HY:aj:=bj 57
def w144 (hA:Vq Y):tO (cz Y HY):=λe=>by
 refine zg ?_;refine zf hm (λi=>[.u 2,.i i,.u 1,.p 0 3,.u 1]) (λi=>[(0,.buf 3 [Env.D e])]) 3 (λi=>i<=3/\n6 e=b9 (λi=>decide (e.at i=[]) ||gT (e.at i)) i 3) (λi=>3-i) ⟨ae,rfl⟩ [(0,0)] ?_;rintro i ⟨hi,hr⟩;refine zc ?_ ?_<;>intro hc0
 .refine kI ?_;refine Pe i ?_;refine qc (v:=.str (e.at i)) (hv:=λ_=>Env.ld e ae) ?_;refine eX ?_;refine Pe i ?_;refine qc (v:=.str (e.at i)) (hv:=λ_=>Env.ld e ae) ?_;refine zg ?_;refine wp_cond (λhc1=>?_) (λhc1=>?_)
  .simp only[aC,cG,cy]at hc1;refine zr ?_;rw[hr,aA ae];rw[bN hc1.1,hc1.2];rfl
  simp only[er,dq,aV]at hc1;refine gI (i+1) [(0,0)] ?_;rw[hr,aA ae];rw[show(decide (e.at i=[]) ||gT (e.at i))=true by rw[dF,aV];exact hc1];rfl
 refine zr ?_;rw[hr,bI ae]
def MR:aj:=bj 196
def w416 (hm:(Y.at 0).cb):Jb (cz Y MR):=λc x hp0=>by
 refine kI ?_;obtain⟨j,hj⟩:∃j:Nat,x.u=(j:Int):=⟨x.u.toNat,by have:=hp0.1;omega⟩
 obtain⟨hjl,hj30⟩:=hp0;rw[hj,Int.toNat_natCast]at hj30;refine iw ?_;refine qb (c[j]!) (hb:=λhf=>by have hf:0<=c[j]! :=Kr;rw[IntKind.wrap_u64];omega) ?_;refine FY (2^(c[j]!.toNat+1)) (hn:=λhf=>wC) (hb:=λhf=>by have hf:0<=c[j]! :=Kr;exact DU (n:=c[j]!.toNat) ae ae) ?_;refine Dl (GX x.m (2^(c[j]!.toNat+1))) (hb:=λ_=>rfl) ?_;refine zr ?_;unfold C1;rw[hj,Int.toNat_natCast];simp
def PB:aj:=bj 186
def w902 (hm:(Y.at 0).cb):J5 (cz Y PB):=λa b=>by
 refine zr ?_;unfold e8;simp
end Go.Abs
end
