/- A part of the proofs. -/
import Derived.Test.YtkmlboofmolbaaaGreatDoorP09
set_option linter.all false
set_option maxRecDepth 60000
set_option maxHeartbeats 2000000
noncomputable section
namespace Go.Abs
variable {Y:Ctx}(hm:(Y.at 0).bV)
def YR:aj:=ba 136
def w453 {Y:Ctx}(hm:(Y.at 0).bV):IW (cq Y YR):=fun c=>by
 exact my
def Pg:aj:=ba 137
def w454 {Y:Ctx}(hm:(Y.at 0).bV):IX (cq Y Pg):=fun c=>by
 exact my
def Ua:aj:=ba 99
def w357 (hA:C453 Y)(hB:C454 Y):tz (cq Y Ua):=fun s=>by
 refine zg ?_;intro u0;refine dG ?_ ?_<;>intro hc0
 .refine zr ?_;symm;simp only[gC,ed,cv];exact Or.inl ae
 refine zg ?_;refine zf hm (fun i=>[.e (.str s),.u 2,.i i,.u 2]) (fun i=>[]) 10 (fun i=>i<=s.length/\gC s=bU (fun i=>F6 (at8 s i)) i s.length) (fun i=>s.length-i) ⟨ae,by simp only[gC];rw[bo ae,bo ae];rfl⟩ [] ?_;rintro i ⟨hi,hr⟩;refine zg ?_;intro u1;refine dG ?_ ?_<;>intro hc1
 .refine zc ?_ ?_<;>intro hc2
  .refine zr ?_;rw[hr,az ae];simp[F6,hc2]
  refine gD (i+1) [] ?_;rw[hr,az ae];simp[F6,hc2]
 refine zr ?_;rw[hr,bA ae]
def T9:aj:=ba 92
def w216 (hA:C453 Y)(hB:C454 Y):tn (cq Y T9):=fun s=>by
 refine DU ?_;intro u0;refine zN 0 ?_;refine p9 ?_;refine zN (s.length-1) ?_;refine zc ?_ ?_<;>intro hc0
 .refine zr ?_;symm;simp only[dd];rcases hc0 with(h|h)|h
  .rcases h with h|h<;>simp<;>omega
  .simp[h]
  .simp[h]
 refine zg ?_;refine zfx hm (1:Nat) (fun i=>[.e (.str s),.u 2,.i i,.u 2]) (fun i=>[]) 24 (fun i=>i<=s.length/\1<=i/\dd s=bU (nch s) i s.length) (fun i=>s.length-i) ⟨ae,ae,by simp only[dd];rw[bo ae,bo ae,hc0.1.2,bG hc0.2];rfl⟩ [] ?_;rintro i ⟨hi,hi1,hr⟩;refine zg ?_;intro u1;refine dG ?_ ?_<;>intro hc1
 .refine ib ?_;refine ib ?_;refine cU ?_;refine zN (i-1) ?_;refine zc ?_ ?_<;>intro hc2
  .refine zr ?_;rw[hr,az ae];simp only[nch];revert hc2;generalize jH (at8 s i)=x;generalize bH (at8 s i)=y;by_cases h1:at8 s i=45<;>by_cases h2:at8 s (i-1)=45<;>cases x<;>cases y<;>simp_all
  refine zl (i+1) [] ?_;exact⟨ae,ae,by rw[hr,az ae];simp only[nch];revert hc2;generalize jH (at8 s i)=x;generalize bH (at8 s i)=y;by_cases h1:at8 s i=45<;>by_cases h2:at8 s (i-1)=45<;>cases x<;>cases y<;>simp_all⟩
 refine zr ?_;rw[hr,bA ae]
def Mo:aj:=ba 133
def w667 (hA:C454 Y):tP (cq Y Mo):=fun s=>by
 refine zk20 ?_;intro u0;refine zN 0 ?_;refine zc ?_ ?_<;>intro hc0
 .refine zg ?_;refine fE (bS (aw (D.int .i64) ?_) (aw D.bool ?_));all_goals
   have:n5 s=false:=by
    simp only[n5];rcases hc0 with(h|h)|h
    .rw[bG (by omega:¬1<=s.length)];rfl
    .rw[bG (by omega:¬s.length<=9)];simp
    .rw[bo (by omega:1<s.length),bo h.2];simp
   simp[Cz,this]
 refine zg ?_;have hP:n5 s=(bU (fun i=>bH (at8 s i)) 0 s.length&&decide (eR s<=9999)):=by
  simp only[n5];rw[bo (by omega:1<=s.length),bo (by omega:s.length<=9)];rcases hc0.2 with h|h
  .rw[bG (by omega:¬1<s.length)];rfl
  .rw[bG h,Bool.and_false];rfl
 refine zf hm (fun i=>[.e (.str s),.u 3,.i i,.u 2,.i (eR (s.take i):Nat),.u 1]) (fun i=>[]) 22 (fun i=>i<=s.length/\s.length<=9/\n5 s=(bU (fun i=>bH (at8 s i)) i s.length&&decide (eR s<=9999))) (fun i=>s.length-i) ⟨ae,ae,hP⟩ [] ?_;rintro i ⟨hi,h9,hr⟩;refine zg ?_;intro u1;refine dG ?_ ?_<;>intro hc1
 .refine zg ?_;refine aQ (fun hc2=>?_) (fun hc2=>?_)
  .try simp only[gF]at hc2
   refine zg ?_;refine fE (bS (aw (D.int .i64) ?_) (aw D.bool ?_));all_goals
    have:n5 s=false:=by rw[hr,az ae,hc2];rfl
    simp[Cz,this]
  simp only[df]at hc2;refine cU ?_;have h48:=hc2;simp only[bH,aD,aW]at h48;have hn:=wW s i ae;have hn2:=zI s i ae;have h256:=Gq s i;refine cV ?_;refine xl ?_;refine dD ?_;refine Hw (at8 s i-48) (hb:=fun _=>IntWalk.u8_in _ ae) ?_;refine qY (at8 s i-48) (hb:=fun _=>IntWalk.i64_in _ ae) ?_;refine dD ?_;rw[show(eR (s.take i):Int)*10+(at8 s i-48)=(eR (s.take (i+1)):Nat)by omega];refine zl (i+1) [] ?_;exact⟨ae,h9,by rw[hr,az ae,hc2];rfl⟩
 refine fk ?_;have ht:s.take i=s:=gK ae;rw[ht];refine bE ?_;refine oS ?_;refine bp (env':=[_,_,_,_,_,_,_,_,⟨_,(.bool _)⟩]) ?_;refine dG ?_ ?_<;>intro hc3
 .refine kn ?_;refine fE (bS (aw (D.int .i64) ?_) (aw D.bool ?_));all_goals
   have:n5 s=false:=by rw[hr,bG ae,Bool.and_false]
   simp[Cz,this]
 refine qL ?_;refine fE (bS (aw (D.int .i64) ?_) (aw D.bool ?_));all_goals
  have:n5 s=true:=by rw[hr,bA ae,bo ae];rfl
  simp[Cz,this]
def HP:aj:=ba 134
def w668:tQ (cq Y HP):=fun t=>by
 refine zg ?_;refine zf hm (fun i=>[.e (.str t),.u 1,.i i,.u 2]) (fun i=>[]) 2 (fun i=>i<=t.length/\bU (fun i=>bH (at8 t i)) 0 t.length=bU (fun i=>bH (at8 t i)) i t.length) (fun i=>t.length-i) ⟨ae,rfl⟩ [] ?_;rintro i ⟨hi,hr⟩;refine zg ?_;intro u0;refine dG ?_ ?_<;>intro hc0
 .refine zc ?_ ?_<;>intro hc1
  .refine zr ?_;simp only[cK];rw[hr,az ae];rcases hc1 with h|h<;>simp[bH]<;>omega
  refine gD (i+1) [] ?_;rw[hr,az ae];rw[show bH (at8 t i)=true by simp only[bH,aD,aW];omega];rfl
 refine zg ?_;intro u1;refine zr ?_;simp only[cK];rw[hr,bA ae];simp
def YV:aj:=ba 132
def w666:Jm (cq Y YV):=fun t=>by
 refine zg ?_;intro u0;refine dG ?_ ?_<;>intro hc0
 .refine zr ?_;symm;simp only[vM,ed,cv];exact Or.inl ae
 refine zg ?_;refine zf hm (fun i=>[.e (.str t),.u 2,.i i,.u 3]) (fun i=>[]) 10 (fun i=>i<=t.length/\vM t=bU (fun i=>mZ (at8 t i)) i t.length) (fun i=>t.length-i) ⟨ae,by simp only[vM];rw[bo ae,bo ae];rfl⟩ [] ?_;rintro i ⟨hi,hr⟩;refine zg ?_;intro u1;refine dG ?_ ?_<;>intro hc1
 .refine fP ?_;refine mw ?_ hm;refine aP ?_;refine bE ?_;refine bE ?_;first|refine zN _ ?_|refine Yw ?_
  refine bE ?_;refine bp (env':=[_,_,_,_,_,⟨_,(.int _ _)⟩,_]) ?_;refine aP ?_;refine bE ?_;refine yO ?_;refine bE ?_;refine bE ?_;refine oS ?_;refine LW ?_;refine bE ?_;refine bE ?_;refine yO ?_;refine bE ?_;refine bE ?_;refine oS ?_;refine LW ?_;refine uD ?_;refine bE ?_;refine bE ?_;refine oT ?_;refine uD ?_;refine bp (env':=[_,_,_,_,_,_,⟨_,(.bool _)⟩]) ?_;refine A3 ?_ ?_<;>intro hc2
  .refine zg ?_;refine zr ?_;rw[hr,az ae];have:mZ (at8 t i)=false:=(by simp only[mZ,jH,bH,eW,ed,cv];omega);rw[this];rfl
  refine zg ?_;refine gD (i+1) [] ?_;rw[hr,az ae];have:mZ (at8 t i)=true:=(by simp only[mZ,jH,bH,dC,aD,aW];omega);rw[this];rfl
 refine zr ?_;rw[hr,bA ae]
def Uf:aj:=ba 87
def w456 (hA:C470 Y)(hB:C666 Y)(hC:C667 Y)(hD:C668 Y):IY (cq Y Uf):=fun s p hp0=>by
 refine zc ?_ ?_<;>intro hc0
 .refine zr ?_;simp[DA,hc0]
 refine zg ?_;intro u0;refine aQ (fun hc1=>?_) (fun hc1=>?_)
 .try simp only[gF]at hc1
  refine zr ?_;simp only[DA,sv];rw[bG hc0,bG ae];rfl
 simp only[cv]at hc1;refine zg ?_;refine zf hm (fun i=>[.e (.str s),.e (.bool p),.u 2,.m 1 (a7 s 46) D.str,.u 1,.i i,.u 4]) (fun i=>[]) 10 (fun i=>i<=(a7 s 46).length/\DA s p=bU (fun i=>jc p (a7 s 46)[i]!) i (a7 s 46).length) (fun i=>(a7 s 46).length-i) ⟨ae,by simp only[DA,sv];rw[bG hc0,bo ae];rfl⟩ [] ?_;rintro i ⟨hi,hr⟩;refine zg ?_;intro u1;refine dG ?_ ?_<;>intro hc2
 .refine zg ?_;refine aQ (fun hc3=>?_) (fun hc3=>?_)
  .simp only[cz]at hc3;refine zr ?_;rw[hr,az ae];simp only[jc,hc3];rfl
  simp only[df]at hc3;refine zg ?_;refine wp_cond (fun hc4=>?_) (fun hc4=>?_)
  .skip
   refine zr ?_;have h5:jc p (a7 s 46)[i]! =false:=aag;rw[hr,az ae,h5];rfl
  skip
  refine gD (i+1) [] ?_;rw[hr,az ae];have h5:jc p (a7 s 46)[i]! =true:=aag;rw[h5];rfl
 refine zr ?_;rw[hr,bA ae]
def YT:aj:=ba 86
def w455 {Y:Ctx}(hm:(Y.at 0).bV):tE (cq Y YT):=fun n=>by
 exact my
def YS:aj:=ba 44
def w217 {Y:Ctx}(hm:(Y.at 0).bV)(hA:C455 Y)(hB:C456 Y):tp (cq Y YS):=fun v hp0=>by
 refine DU ?_;refine kn ?_;refine ct (hc:=fun hf=>hB v.pre true hp0.1) ?_;refine fk ?_;refine ct (hc:=fun hf=>hB v.build false hp0.2) ?_;exact my
def abF:aj:=⟨1,5,re1,UI,(sq (rg [gb 7 s0,gm cbF] [(2,0),(1,1)]) (sq (sq (r1 [gf 0 s2,gd l0,gn (zi l1 (.c (.int .i64 (-1)))),gm l2,gff 3 0 s2,gdf 3 l4,A8 3 (zi l5 Tk),go1 l3 l6] 3 7) (.cond s3 (sq (r1 [gf 1 s2,gk 5 true l0,gn (.build [.int .i64 0,.int .i64 0,.int .i64 0,.str [],.str []] []),gn (.eqA false true [.i .i64,.i .i64,.i .i64,.s,.s] l1 l2),gm l3,QP 4 6 s2,gdt 4 l5,Ay 4 (.un .not l6),ga1 l4 l7,gm l8] 1 9) .ret) (sq (r1 [gf 0 s2,gd l0,rW l1 x8] 4 2) (gcr s4 cbF)))) (sq (r1 [gf 1 s2,gk 5 true l0,gx 209 [l1] ha5,gm l2,QP 3 1 s2,QP 3 4 l4,gdt 3 l5,Ay 3 (zi l6 cse),ga1 l3 l7,gm l8] 1 9) .ret)))⟩
def w1087 {Y:Ctx}(hm:(Y.at 0).bV)(hA:An Y):pZ (cq Y abF):=fun c hp0=>by
 refine zc ?_ ?_<;>intro hc0
 .refine fk ?_;refine a8 (bX.D (⟨0,0,0,[],[]⟩)) ?_;refine zr ?_;first|(grind [po,zV];done)|(simp_all[po,zV];done)
 refine zc ?_ ?_<;>intro hc1
 .refine zr ?_;first|(grind [po,zV];done)|(simp_all[po,zV];done)
 refine zr ?_;first|(grind [po,zV];done)|(simp_all[po,zV];done)
def KH:aj:=ba 234
def w1024 {Y:Ctx}(hm:(Y.at 0).bV)(hA:SA Y)(hB:C532 Y)(hC:Qe Y):pX (cq Y KH):=fun a b hp0=>by
 refine zc ?_ ?_<;>intro hc0
 .refine zr ?_;first|(grind [kS,dh];done)|(simp_all[kS,dh];done)
 refine zc ?_ ?_<;>intro hc1
 .refine zr ?_;first|(grind [kS,dh];done)|(simp_all[kS,dh];done)
 refine zc ?_ ?_<;>intro hc2
 .refine zr ?_;first|(grind [kS,dh];done)|(simp_all[kS,dh];done)
 refine zc ?_ ?_<;>intro hc3
 .refine zr ?_;first|(grind [kS,dh];done)|(simp_all[kS,dh];done)
 refine zc ?_ ?_<;>intro hc4
 .refine zr ?_;first|(grind [kS,dh];done)|(simp_all[kS,dh];done)
 refine zr ?_;first|(grind [kS,dh];done)|(simp_all[kS,dh];done)
def S2:aj:=ba 244
def w1055 {Y:Ctx}(hm:(Y.at 0).bV)(hA:An Y)(hB:SA Y)(hC:Qe Y):pY (cq Y S2):=fun c v hp0=>by
 refine zc ?_ ?_<;>intro hc0
 .refine zr ?_;first|(grind [jS];done)|(simp_all[jS];done)
 refine zc ?_ ?_<;>intro hc1
 .refine zr ?_;first|(grind [jS];done)|(simp_all[jS];done)
 refine zr ?_;first|(grind [jS];done)|(simp_all[jS];done)
def KI:aj:=ba 233
def w1023 {Y:Ctx}(hm:(Y.at 0).bV)(hA:UQ Y)(hB:Qe Y):pW (cq Y KI):=fun s hp0=>by
 refine qL ?_;refine aE (hc:=hB (s.f) jy) ?_;refine dD ?_;refine ct (hc:=fun hf=>hB (s.t) jy) ?_;refine zr ?_;first|(grind [pO];done)|(simp_all[pO];done)
def S3:aj:=ba 206
def w980 {Y:Ctx}(hm:(Y.at 0).bV)(hA:An Y)(hB:UP Y)(hC:aec Y):tW (cq Y S3):=fun s v hp0=>by
 refine DU ?_;refine cV ?_;refine ct (hc:=fun hf=>hC (s.f) (v) jy) ?_;refine kV ?_;refine ct (hc:=fun hf=>hC (s.t) (v) jy) ?_;refine zr ?_;first|(grind [rQ,pO];done)|(simp_all[rQ,pO];done)
def adA:aj:=ba 202
def w925 (hA:UP Y)(hB:UQ Y):tV (cq Y adA):=fun l hp0=>by
 refine zg ?_;intro u0;refine zf hm (fun i=>[.m 14 l Span.D,.u 1,.i i,.i l.length,.u 1,.m 14 l Span.D,.u 3]) (fun i=>[]) 4 (fun i=>i<=l.length/\sr l=bU (AN l) i l.length) (fun i=>l.length-i) ⟨ae,rfl⟩ [] ?_;rintro i ⟨hi,hr⟩;refine zc ?_ ?_<;>intro hc0
 .refine Ii ?_;refine aE (hc:=hA ((l)[i]!) jy) ?_;refine p9 ?_;refine cF ((i-1)) (hj:=fun hf=>cg) (hb:=fun hf=>cg) ?_;refine fk ?_;refine ct (hc:=fun hf=>hB ((l)[(i-1)]!.t) ((l)[i]!.f) jy) ?_;refine zc ?_ ?_<;>intro hc1
  .refine zr ?_;rw[hr,az ae];first|(grind [AN];done)|(simp_all[AN];done)
  refine gD (i+1) [] ?_;rw[hr,az ae];first|(grind [AN];done)|(simp_all[AN];done)
 refine zr ?_;rw[hr,bA ae]
def adz:aj:=ba 171
def w861 (hA:C925 Y)(hB:C980 Y):tT (cq Y adz):=fun l v hp0=>by
 refine zc ?_ ?_<;>intro hc0
 .refine zr ?_;unfold vF;simp_all
 refine zg ?_;intro u0;refine zf hm (fun i=>[.m 14 l Span.D,.u 3,.i i,.i l.length,.u 1,.m 14 l Span.D,.u 1,.p 0 5,.u 1]) (fun i=>[(0,.buf 5 [bX.D v])]) 8 (fun i=>i<=l.length/\vF l v=ot (fun i=>rQ l[i]! v) i l.length) (fun i=>l.length-i) ⟨ae,by unfold vF;rw[show sr l=true by simpa using hc0];rfl⟩ [(0,0)] ?_;rintro i ⟨hi,hr⟩;refine zc ?_ ?_<;>intro hc1
 .refine Ih ?_;refine aE (hc:=hB ((l)[i]!) (v) jy) ?_;refine zc ?_ ?_<;>intro hc2
  .refine zr ?_;rw[hr,jO ae];simp_all
  refine gD (i+1) [(0,0)] ?_;rw[hr,jO ae];simp_all
 refine zr ?_;rw[hr,sI ae]
def MJ:aj:=⟨1,3,re1,UI,(sq (rg [gb 7 s0,gm cbF] [(2,0),(1,1)]) (sq (r1 [gf 0 s2,gd l0,rW l1 x8,gm l2,gff 3 6 s2,gdf 3 l4,A8 3 (.un .not l5),gmf 3 l6,QP 7 1 s2,QP 7 3 l8,gdt 7 l9,Ay 7 (zi l10 cse),gaf 3 l7 l11,gmf 3 l12,QP 13 1 s2,Ay 13 (.ld 5 true l14),Ay 13 (.mv (.c (.agg [.int .i64 0,.int .i64 0,.int .i64 0,.str [],.str []]))),Ay 13 (.eqA true true [.i .i64,.i .i64,.i .i64,.s,.s] l15 l16),gaf 3 l13 l17,go1 l3 l18,gm l19] 1 20) .ret))⟩
def w924 {Y:Ctx}(hm:(Y.at 0).bV):JS (cq Y MJ):=fun c=>by
 refine DU ?_;refine kn ?_;refine bE (d:=bX.D zV) ?_;refine zr ?_;first|(grind [rb,zV];done)|(simp_all[rb,zV];done)
def adH:aj:=ba 165
def w780 (hA:C924 Y)(hB:C925 Y):tS (cq Y adH):=fun s hp0=>by
 refine zg ?_;intro u0;refine zf hm (fun i=>[.u 2,.p 0 2,.i i,.i s.rel.length,.u 1,.m 14 s.rel Span.D,.u 2]) (fun i=>[(0,.buf 2 [cr.D s])]) 6 (fun i=>i<=s.rel.length/\vH s=(bU (fun i=>rb s.rel[i]!.f&&rb s.rel[i]!.t) i s.rel.length&&(sr s.rel&&sr s.pr))) (fun i=>s.rel.length-i) ⟨ae,(adD s).symm⟩ [(0,0)] ?_;rintro i ⟨hi,hr⟩;refine zc ?_ ?_<;>intro hc0
 .refine zc ?_ ?_<;>intro hc1
  .refine zr ?_;rw[hr,az ae];rcases hc1 with h|h<;>simp only[h,Bool.and_false,Bool.false_and]
  refine gD (i+1) [(0,0)] ?_;rw[hr,az ae];simp_all
 refine kV ?_;refine aE (hc:=hB (s.rel) jy) ?_;refine dD ?_;refine ct (hc:=fun hf=>hB (s.pr) jy) ?_;refine zr ?_;rw[hr,bA ae];simp
def adG:aj:=ba 125
def w712 {Y:Ctx}(hm:(Y.at 0).bV)(hA:An Y)(hB:C780 Y)(hC:C861 Y):tO (cq Y adG):=fun s v hp0=>by
 refine zc ?_ ?_<;>intro hc0
 .refine zr ?_;first|(grind [oN];done)|(simp_all[oN];done)
 refine zc ?_ ?_<;>intro hc1
 .refine kV ?_;refine aE (hc:=hC (s.rel) (v) jy) ?_;refine zr ?_;first|(grind [oN];done)|(simp_all[oN];done)
 refine kV ?_;refine aE (hc:=hC (s.pr) (v) jy) ?_;refine zr ?_;first|(grind [oN];done)|(simp_all[oN];done)
def YX:aj:=⟨1,4,re1,UI,(sq (rg [gb 7 s0,gm cbF] [(2,0),(1,1)]) (sq (sq (r1 [gf 0 s2,gd l0,G7 l1 x8] 3 2) (.cond s3 (sq (r1 [gf 1 s2,gk 5 true l0,gx 217 [l1] ha5,gm l2,QP 3 1 s2,QP 3 4 l4,gdt 3 l5,Ay 3 (zi l6 cse),ga1 l3 l7,gm l8] 1 9) .ret) .skip)) (sq (r1 [gf 0 s2,gd l0,gn (zi l1 (.c (.int .i64 (-1)))),gm l2,gff 3 0 s2,gdf 3 l4,A8 3 (zi l5 Tk),go1 l3 l6,gm l7,QP 8 1 s2,Ay 8 (.ld 5 true l9),Ay 8 (.build [.int .i64 0,.int .i64 0,.int .i64 0,.str [],.str []] []),Ay 8 (.eqA false true [.i .i64,.i .i64,.i .i64,.s,.s] l10 l11),ga1 l8 l12,gm l13,QP 14 6 s2,gdt 14 l15,Ay 14 (.un .not l16),ga1 l14 l17,gm l18] 1 19) .ret)))⟩
def w1086 {Y:Ctx}(hm:(Y.at 0).bV)(hA:Bv Y):pZ (cq Y YX):=fun c hp0=>by
 refine zc ?_ ?_<;>intro hc0
 .refine zr ?_;first|(grind [po,zV];done)|(simp_all[po,zV];done)
 refine EO ?_;refine a8 (bX.D (⟨0,0,0,[],[]⟩)) ?_;refine zr ?_;first|(grind [po,zV];done)|(simp_all[po,zV];done)
def HQ:aj:=ba 265
def w1020 (hA:SD Y)(hB:UY Y)(hC:Qd Y):pX (cq Y HQ):=fun a b hp0=>by
 refine zc ?_ ?_<;>intro hc0
 .refine zr ?_;first|(grind [kS,dh];done)|(simp_all[kS,dh];done)
 refine zc ?_ ?_<;>intro hc1
 .refine zr ?_;first|(grind [kS,dh];done)|(simp_all[kS,dh];done)
 refine zc ?_ ?_<;>intro hc2
 .refine zr ?_;first|(grind [kS,dh];done)|(simp_all[kS,dh];done)
 refine zc ?_ ?_<;>intro hc3
 .refine zr ?_;first|(grind [kS,dh];done)|(simp_all[kS,dh];done)
 refine zc ?_ ?_<;>intro hc4
 .refine zr ?_;first|(grind [kS,dh];done)|(simp_all[kS,dh];done)
 refine zr ?_;first|(grind [kS,dh];done)|(simp_all[kS,dh];done)
def Pn:aj:=ba 266
def w1025 {Y:Ctx}(hm:(Y.at 0).bV)(hA:Bv Y)(hB:SD Y)(hC:Qd Y):pY (cq Y Pn):=fun c v hp0=>by
 refine zc ?_ ?_<;>intro hc0
 .refine zr ?_;first|(grind [jS];done)|(simp_all[jS];done)
 refine zc ?_ ?_<;>intro hc1
 .refine zr ?_;first|(grind [jS];done)|(simp_all[jS];done)
 refine zr ?_;first|(grind [jS];done)|(simp_all[jS];done)
def HR:aj:=ba 264
def w1019 {Y:Ctx}(hm:(Y.at 0).bV)(hA:Qc Y)(hB:Qd Y):pW (cq Y HR):=fun s hp0=>by
 refine qL ?_;refine aE (hc:=hB (s.f) jy) ?_;refine dD ?_;refine ct (hc:=fun hf=>hB (s.t) jy) ?_;refine zr ?_;first|(grind [pO];done)|(simp_all[pO];done)
def Po:aj:=ba 232
def w926 {Y:Ctx}(hm:(Y.at 0).bV)(hA:Bv Y)(hB:Ki Y)(hC:aeb Y):tW (cq Y Po):=fun s v hp0=>by
 refine DU ?_;refine cV ?_;refine ct (hc:=fun hf=>hC (s.f) (v) jy) ?_;refine kV ?_;refine ct (hc:=fun hf=>hC (s.t) (v) jy) ?_;refine zr ?_;first|(grind [rQ,pO];done)|(simp_all[rQ,pO];done)
def YZ:aj:=ba 230
def w916 (hA:Ki Y)(hB:Qc Y):tV (cq Y YZ):=fun l hp0=>by
 refine zg ?_;refine zf hm (fun i=>[.m 14 l Span.D,.u 1,.i i,.u 2]) (fun i=>[]) 2 (fun i=>i<=l.length/\sr l=bU (AN l) i l.length) (fun i=>l.length-i) ⟨ae,rfl⟩ [] ?_;rintro i ⟨hi,hr⟩;refine zg ?_;intro u0;refine dG ?_ ?_<;>intro hc0
 .refine qL ?_;refine aE (hc:=hA ((l)[i]!) jy) ?_;refine p9 ?_;refine cF ((i-1)) (hj:=fun hf=>cg) (hb:=fun hf=>cg) ?_;refine qL ?_;refine ct (hc:=fun hf=>hB ((l)[(i-1)]!.t) ((l)[i]!.f) jy) ?_;refine zc ?_ ?_<;>intro hc1
  .refine zr ?_;rw[hr,az ae];first|(grind [AN];done)|(simp_all[AN];done)
  refine gD (i+1) [] ?_;rw[hr,az ae];first|(grind [AN];done)|(simp_all[AN];done)
 refine zr ?_;rw[hr,bA ae]
def YY:aj:=ba 198
def w782 (hA:U1 Y)(hB:C926 Y):tT (cq Y YY):=fun l v hp0=>by
 refine zg ?_;refine zf hm (fun i=>[.m 14 l Span.D,.u 2,.i i,.u 1,.p 0 5,.u 1]) (fun i=>[(0,.buf 5 [bX.D v])]) 3 (fun i=>i<=l.length/\vF l v=(sr l&&ot (fun i=>rQ l[i]! v) i l.length)) (fun i=>l.length-i) ⟨ae,rfl⟩ [(0,0)] ?_;rintro i ⟨hi,hr⟩;refine zg ?_;intro u0;refine dG ?_ ?_<;>intro hc0
 .refine p9 ?_;refine aE (hc:=hB ((l)[i]!) (v) jy) ?_;refine zc ?_ ?_<;>intro hc1
  .refine zr ?_;rw[hr,jO ae];simp_all
  refine gD (i+1) [(0,0)] ?_;rw[hr,jO ae];simp_all
 refine zr ?_;rw[hr];rcases hc0 with h|h
 .rw[sI ae];simp
 .rw[h];rfl
def Pp:aj:=ba 253
def w600 {Y:Ctx}(hm:(Y.at 0).bV):Jh (cq Y Pp):=fun v=>by
 refine zr ?_;first|(grind [vr];done)|(simp_all[vr];done)
def Pq:aj:=ba 231
def w917 {Y:Ctx}(hm:(Y.at 0).bV)(hA:C600 Y):JR (cq Y Pq):=fun c=>by
 refine zr ?_;first|(grind [mJ];done)|(simp_all[mJ];done)
def Y1:aj:=ba 197
def w770 (hA:U1 Y)(hB:C917 Y):tS (cq Y Y1):=fun s hp0=>by
 refine p9 ?_;refine aE (hc:=hA (s.rel) jy) ?_;refine fk ?_;refine ct (hc:=fun hf=>hA (s.pr) jy) ?_;refine zc ?_ ?_<;>intro hc0
 .refine zr ?_;unfold vH;rcases hc0 with h|h<;>simp[h]
 refine zg ?_;refine zf hm (fun i=>[.u 2,.p 0 2,.u 1,.i i,.u 2]) (fun i=>[(0,.buf 2 [cr.D s])]) 13 (fun i=>i<=s.rel.length/\vH s=bU (fun i=>mJ s.rel[i]!.f&&mJ s.rel[i]!.t) i s.rel.length) (fun i=>s.rel.length-i) ⟨ae,by unfold vH;simp_all⟩ [(0,0)] ?_;rintro i ⟨hi,hr⟩;refine zg ?_;intro u0;refine dG ?_ ?_<;>intro hc1
 .refine zc ?_ ?_<;>intro hc2
  .refine zr ?_;rw[hr,az ae];rcases hc2 with h|h<;>simp only[h,Bool.and_false,Bool.false_and]
  refine gD (i+1) [(0,0)] ?_;rw[hr,az ae];simp_all
 refine zr ?_;rw[hr,bA ae]
def Y0:aj:=ba 158
def w627 {Y:Ctx}(hm:(Y.at 0).bV)(hA:Bv Y)(hB:UZ Y)(hC:C782 Y):tO (cq Y Y0):=fun s v hp0=>by
 refine zc ?_ ?_<;>intro hc0
 .refine zr ?_;first|(grind [oN];done)|(simp_all[oN];done)
 refine zc ?_ ?_<;>intro hc1
 .refine kV ?_;refine aE (hc:=hC (s.rel) (v) jy) ?_;refine zr ?_;first|(grind [oN];done)|(simp_all[oN];done)
 refine kV ?_;refine aE (hc:=hC (s.pr) (v) jy) ?_;refine zr ?_;first|(grind [oN];done)|(simp_all[oN];done)
def M5:aj:=ba 114
def w441 (hA:C442 Y)(hB:UW Y)(hC:C658 Y)(hD:C659 Y):IU (cq Y M5):=fun s hp0=>by
 refine zg ?_;refine aQ (fun hc0=>?_) (fun hc0=>?_)
 .simp only[cz]at hc0;refine zr ?_;symm;simp only[sv]at hc0⊢;rw[ed]at hc0⊢;rcases hc0 with h|h
  .exact Or.inl h
  .right;rw[Bool.eq_false_iff]at h⊢;intro h2;apply h;rw[bw]at h2⊢;intro j a b;have:=h2 j a b;simp only[jc,aD]at this⊢;exact⟨this.1,rfl⟩
 simp only[df]at hc0;refine zg ?_;intro u0;have hT:=hc0;simp only[sv,aD,aW]at hT;obtain⟨hT4,hTa⟩:=hT;rw[bw]at hTa;have hP:sv s true=bU (fun i=>jc true (a7 s 46)[i]!) 0 (a7 s 46).length:=by
  simp only[sv];rw[bo hT4];rfl
 refine zf hm (fun i=>[.u 3,.i i,.i ((a7 s 46).length:Nat),.u 1,.m 1 (a7 s 46) D.str,.u 3]) (fun i=>[]) 8 (fun i=>i<=(a7 s 46).length/\sv s true=bU (fun i=>jc true (a7 s 46)[i]!) i (a7 s 46).length) (fun i=>(a7 s 46).length-i) ⟨ae,hP⟩ [] ?_;rintro i ⟨hi,hr⟩;refine zc ?_ ?_<;>intro hc1
 .refine zg ?_;refine wp_cond (fun hc2=>?_) (fun hc2=>?_)
  .skip
   refine zr ?_;have hz:jc true (a7 s 46)[i]! =false:=by
    simp only[jc];revert hc2;generalize vM (a7 s 46)[i]! =c;generalize cK (a7 s 46)[i]! =a;generalize n5 (a7 s 46)[i]! =b;cases a<;>cases b<;>cases c<;>simp
   rw[hr,az ae,hz];rfl
  skip
  refine zg ?_;have hz:jc true (a7 s 46)[i]! =true:=by
   have:=hTa i ae ae;simp only[jc,Bool.false_and,Bool.not_false,gL]at this;simp only[jc,this];revert hc2;generalize cK (a7 s 46)[i]! =a;generalize n5 (a7 s 46)[i]! =b;cases a<;>cases b<;>simp
  refine gD (i+1) [] ?_;rw[hr,az ae,hz];rfl
 refine zr ?_;rw[hr,bA ae]
def M4:aj:=ba 68
def w209 {Y:Ctx}(hm:(Y.at 0).bV)(hA:C440 Y)(hB:C441 Y)(hC:C442 Y):tp (cq Y M4):=fun v hp0=>by
 refine DU ?_;refine uq ?_;refine ct (hc:=fun hf=>hB v.pre hp0.1) ?_;refine x9 ?_;refine ct (hc:=fun hf=>hC v.build hp0.2) ?_;exact my
def GP:aj:=ba 277
def w665 {Y:Ctx}(hm:(Y.at 0).bV)(hA:C336 Y):oI (cq Y GP):=fun n hp0=>by
 exact my
def EN:aj:=ba 241
def w451 {Y:Ctx}(hm:(Y.at 0).bV)(hA:An Y)(hB:C665 Y):tG (cq Y EN):=fun v hp0=>by
 show dn _ _ _ [⟨_,_⟩,_,_,_,_,_,_] _;obtain⟨hs1,hs2⟩:=hp0;have hp0:v.sm:=⟨hs1,hs2⟩;refine aP ?_;refine zg ?_;refine aQ (fun hc0=>?_) (fun hc0=>?_)
 .simp only[cz]at hc0;refine zr ?_;simp[um,hc0]
 simp only[df]at hc0;refine cU ?_;have hv:=hc0;simp only[gA,aD]at hv;obtain⟨⟨⟨⟨hv1,hv2⟩,hv3⟩,_⟩,_⟩:=hv;have hq1:=hv1;have hq2:=hv2;have hq3:=hv3;simp only[B2,aD,aW]at hq1 hq2 hq3;have hl1:=gU 4 v.major.toNat ae ae;have hl2:=gU 4 v.minor.toNat ae ae;have hl3:=gU 4 v.patch.toNat ae ae;refine zc ?_ ?_<;>intro hc1
 .refine zc ?_ ?_<;>intro hc2
  .refine zr ?_;simp[um,EK,hc0,hc1,hc2]
  refine zr ?_;simp[um,EK,hc0,hc1,hc2]
 refine zc ?_ ?_<;>intro hc2
 .refine zr ?_;simp[um,EK,hc0,hc1,hc2]
 refine zr ?_;simp[um,EK,hc0,hc1,hc2]
def qq:aj:=ba 205
def w463 {Y:Ctx}(hm:(Y.at 0).bV):I3 (cq Y qq):=fun h k hp0=>by
 show dn _ _ _ [⟨_,_⟩,⟨_,_⟩,_,_] _;subst hp0;refine aP ?_;refine fk ?_;refine qY 13 (hb:=fun _=>by rw[IntKind.wrap_u64];rfl) ?_;refine CR 13 (hb:=fun _=>by rw[IntKind.wrap_u64];rfl) ?_;refine kV ?_;refine FB (Zi h 13) (hb:=fun _=>by rw[show min (Int.toNat (13:Int)) (IntKind.bits .u64)=13 by simp[IntKind.bits]];rfl) ?_;refine cU ?_;refine Hw 51 (hb:=fun _=>by rw[IntKind.wrap_u64];rfl) ?_;refine RB (FM h 51) (hb:=fun _=>by rw[show min (Int.toNat (51:Int)) (IntKind.bits .u64)=51 by simp[IntKind.bits]];rfl) ?_;refine aeV (rot h 13) (hb:=fun _=>rfl) ?_;refine zg ?_;refine fE (aw (D.int .u64) ?_);rfl
def NQ:aj:=ba 167
def w220 (hA:C463 Y):tu (cq Y NQ):=fun s=>by
 refine zg ?_;intro u0;refine zf hm (fun i=>[.u 2,.i i,.i s.length,.u 1,.e (.sl 1 (s.map fun b=>D.int .u8 b.toNat)),.e (.int .u64 (yY (s.take i))),.u 1]) (fun i=>[]) 5 (fun i=>i<=s.length) (fun i=>s.length-i) ae [] ?_;intro i hi;refine zc ?_ ?_<;>intro hc0
 .refine fk ?_;refine c7 (v:=.int .u8 (at8 s i)) (hv:=fun _=>ld8 s i) ?_;refine kV ?_;refine qY (at8 s i) (hb:=fun _=>by have:=Gq s i;rw[IntKind.wrap_u64];omega) ?_;refine Hq (Se (yY (s.take i)) (at8 s i)) (hb:=fun _=>rfl) ?_;refine cV ?_;refine Yz (yY (s.take (i+1))) (hb:=fun _=>by rw[FW s i ae];rfl) ?_;exact ij (i+1) []
 refine dD ?_;have ht:s.take i=s:=gK ae;rw[ht];refine cU ?_;refine RB (FM (yY s) 29) (hb:=fun _=>rfl) ?_;refine Hq (sumL s) (hb:=fun _=>rfl) ?_;refine zg ?_;refine fE (aw (D.int .u64) ?_);rfl
def Oh:aj:=ba 31
def w268 (hA:C25 Y)(hB:C159 Y):IA (cq Y Oh):=fun w l hp0=>by
 refine zg ?_;intro u0;refine dG ?_ ?_<;>intro hc0
 .refine zr ?_;rw[ord_z ae];rfl
 refine zg ?_;refine zf hm (fun u=>[.u 1,.m 1 l (D.int .i64),.u 2,.i u,.p 1 1,.u 11,.o 0 1 (pH w.us l u).length]) (fun u=>[(0,.buf 1 ((pH w.us l u).map jF)),(1,.buf 1 [bT.D w])]) 7 (fun u=>u<=w.us.length) (fun u=>w.us.length-u) ae [(0,1)] ?_;intro u hu;have hol:=TL w.us l u;refine zg ?_;intro u1;refine dG ?_ ?_<;>intro hc1
 .refine kn ?_;have hu16:=(hp0.1 _ (aq (show u<w.us.length by omega))).1;refine zk17 ?_;intro u2;obtain⟨hk0,hk1⟩:=kI (atI l ((u:Nat):Int)) 24 aU;rw[show jY (atI l ((u:Nat):Int)) 24=jm w.us l u from rfl]at hk0 hk1⊢;refine zg ?_;refine zf hm (fun i=>[.u 1,.m 1 l (D.int .i64),.u 2,.i u,.p 1 1,.u 1,.i i,.i (w.us[u]!.cands.length:Nat),.i ((jm w.us l u)),.u 2,.o 2 1 (kg w.us[u]!.cands.length (jm w.us l u) i).length,.u 4,.o 0 1 (pH w.us l u).length]) (fun i=>[(0,.buf 1 ((pH w.us l u).map jF)),(1,.buf 1 [bT.D w]),(2,.buf 1 ((kg w.us[u]!.cands.length (jm w.us l u) i).map (D.int .i64)))]) 27 (fun i=>i<=xc w.us[u]!.cands.length (jm w.us l u)) (fun i=>w.us[u]!.cands.length-i) ae [(0,0),(1,1)] ?_;intro i hi;have hoc:xc w.us[u]!.cands.length (jm w.us l u)<=w.us[u]!.cands.length:=by unfold xc;omega
  have hil:=LH (n:=w.us[u]!.cands.length) (k:=(jm w.us l u)) i;refine p9 ?_;refine zO ((jm w.us l u)%5) (hn:=fun _=>aU) (hb:=fun _=>Y4 hk0) ?_;refine zc ?_ ?_<;>intro hc2
  .refine dD ?_;have hvb:=ajk (i:=i) (k:=(jm w.us l u)) ae;refine cU ?_;refine zO ((jm w.us l u)%3) (hn:=fun _=>aU) (hb:=fun _=>Y4 hk0) ?_;refine cV ?_;refine xl (hb:=ae) ?_;refine dD ?_;refine zO (ED w.us[u]!.cands.length (jm w.us l u) i) (hn:=fun _=>ae) (hb:=fun _=>Y4 ae) ?_;refine zg ?_;refine zf hm (fun j=>[.u 1,.m 1 l (D.int .i64),.u 2,.i u,.p 1 1,.u 1,.i i,.i (w.us[u]!.cands.length:Nat),.i ((jm w.us l u)),.u 1,.i j,.o 2 1 (kg w.us[u]!.cands.length (jm w.us l u) i).length,.u 1,.e (.bool (ot (fun k=>decide ((kg w.us[u]!.cands.length (jm w.us l u) i)[k]! =(ED w.us[u]!.cands.length (jm w.us l u) i))) 0 j)),.i ((ED w.us[u]!.cands.length (jm w.us l u) i)),.u 1,.o 0 1 (pH w.us l u).length]) (fun j=>[(0,.buf 1 ((pH w.us l u).map jF)),(1,.buf 1 [bT.D w]),(2,.buf 1 ((kg w.us[u]!.cands.length (jm w.us l u) i).map (D.int .i64)))]) 48 (fun j=>j<=(kg w.us[u]!.cands.length (jm w.us l u) i).length) (fun j=>(kg w.us[u]!.cands.length (jm w.us l u) i).length-j) ae [(0,0),(1,1),(2,2)] ?_;intro j hj;refine zg ?_;intro _;refine dG ?_ ?_<;>intro hc3
   .refine p9 ?_;refine xk (q:=D.int .i64) (xs:=(kg w.us[u]!.cands.length (jm w.us l u) i)) (v:=.int .i64 (kg w.us[u]!.cands.length (jm w.us l u) i)[j]!) (hi:=fun _=>ae) (hv:=fun _=>tZ) ?_;refine zg ?_;rw[WA ae];exact ij (j+1) [(0,0),(1,1),(2,2)]
   refine cU ?_;obtain rfl:j=(kg w.us[u]!.cands.length (jm w.us l u) i).length:=ae;refine zc ?_ ?_<;>intro hc4
   .refine dD ?_;refine bc [.int .i64 (ED w.us[u]!.cands.length (jm w.us l u) i)] ?_;refine cI (q:=D.int .i64) (xs:=(kg w.us[u]!.cands.length (jm w.us l u) i)) (e:=(ED w.us[u]!.cands.length (jm w.us l u) i)) (hb:=ae) ?_;refine zg ?_;rw[ajh hc4];refine zl (i+1) [(0,0),(1,1),(57,2)] ?_;exact(by unfold xc;omega)
   refine zg ?_;rw[ajg hc4];refine zl (i+1) [(0,0),(1,1),(2,2)] ?_;exact(by unfold xc;omega)
  refine cU ?_;obtain rfl:i=xc w.us[u]!.cands.length (jm w.us l u):=by unfold xc at hi⊢;omega
  rw[show kg w.us[u]!.cands.length (jm w.us l u) (xc w.us[u]!.cands.length (jm w.us l u))=EC w.us l u from rfl]at hil⊢;refine bB 2 ?_ (he:=J0) (hm:=J0);refine dD ?_;refine bc [jF (EC w.us l u)] ?_;refine cI (q:=jF) (xs:=(pH w.us l u)) (e:=EC w.us l u) (hb:=ae) ?_;refine zg ?_;rw[ada];exact ij (u+1) [(39,0),(1,1)]
 refine cU ?_;obtain rfl:u=w.us.length:=ae;rw[<-ord_e ae];refine bB 0 ?_ (he:=J0) (hm:=J0);exact my
def vD:aj:=ba 195
def w909 {Y:Ctx}(hm:(Y.at 3).bV)(y:cx)(ns:List av)(nm:av)(hA:C627 (Y.at 3))(hB:ad7 (Y.at 3))(hC:ad8 (Y.at 3))(hD:ad9 (Y.at 3))(hE:aea (Y.at 3))(hp0:pe y):dn (Y.at 3) vD.body (uc vD (Kj y ns (uj (dE y nm))):Ex->List aX->St->Prop) (fI vD [cx.D y (.ptr 0 2 0 0),.str nm]) ⟨3,[(0,.buf 2 [eG 1 2 ns.length]),(1,.buf 1 (ns.map D.str)),(2,.buf 1 (de y ns))]⟩:=by
 show dn _ _ _ [⟨true,cx.D y (.ptr 0 2 0 0)⟩,⟨true,.str nm⟩,.un,.un,.un,.un,.un,.un,.un,.un,.un,.un,.un,.un,.un] ⟨3,[(0,.buf 2 [eG 1 2 ns.length]),(1,.buf 1 (ns.map D.str)),(2,.buf 1 (de y ns))]⟩;refine aP ?_;refine p9 ?_;refine aE (hc:=hB (y.l) (nm) Qb) ?_;refine zc ?_ ?_<;>intro hc0
 .refine cU ?_;obtain⟨j,hj,hjl⟩:=(qy y.l nm).resolve_left ae;refine kn ?_;refine a8 (ub.D ⟨y.l[j]!.r,-1⟩) ?_;refine bc [ub.D ⟨y.l[j]!.r,-1⟩] ?_;refine cU ?_;refine bB 19 ?_;refine zg ?_;refine dY trivial jo (dc ai (?_)) ai ⟨by first|(rw[Xf hj];done)|(rw[Xf hj];exact rfl),1,2,⟨ae,ae,ae⟩,sF⟩;rfl
 refine qL ?_;refine aE (hc:=hC (y.shop) (y.pins) (nm) Qb) ?_;refine Ii ?_;refine aE (hc:=hD (y.l) (nm) Qb) ?_;refine fk ?_;refine cy _ ?_;refine zg ?_;refine zf hm (fun i=>[.u 1,.e (.str nm),.u 1,.p 3 8,.u 2,.i i,.m 1 (cE y.shop y.pins nm).2.1 (D.int .i64),.i ((cE y.shop y.pins nm).2.2),.u 1,.i ((cE y.shop y.pins nm).1),.u 1,.p 4 2,.u 1,.o 5 10 (iM y nm (cE y.shop y.pins nm).1.toNat ((cE y.shop y.pins nm).2.1.take i)).length]) (fun i=>[(0,.buf 2 [eG 1 2 ns.length]),(1,.buf 1 (ns.map D.str)),(2,.buf 1 (de y ns)),(3,.buf 8 [cx.D y (.ptr 0 2 0 0)]),(4,.buf 2 [cr.D (kC y.l nm)]),(5,.buf 10 ((iM y nm (cE y.shop y.pins nm).1.toNat ((cE y.shop y.pins nm).2.1.take i)).map ub.D))]) 20 (fun i=>i<=(cE y.shop y.pins nm).2.1.length) (fun i=>(cE y.shop y.pins nm).2.1.length-i) ae [(3,3),(32,4)] ?_;intro i hi;have hll:=(pE (y:=y) (nm:=nm) (a:=(cE y.shop y.pins nm).1.toNat) ((cE y.shop y.pins nm).2.1.take i)).1;have hl64:=acN y nm;rw[ek]at hll;refine zg ?_;intro u0;refine dG ?_ ?_<;>intro hc1
 .refine dD ?_;obtain⟨j,hj,hjl,t,ht,htl,hxs⟩:=aiK hp0 (nm:=nm) (i:=i) hc1.2 ae;refine EO ?_;refine cy _ ?_;refine x9 ?_;refine ct (hc:=fun hf=>hE y ns y.shop[j]!.es[t]!.r ⟨hp0.2.2.1,hxs⟩) (ha:=fun _=>by exact ad1 y ns ⟨rfl,rfl,rfl⟩) (hp:=fun _=>by exact ZS y ns ⟨rfl,rfl,rfl⟩ jo) ?_;refine kn ?_;refine ct (hc:=fun hf=>hA (kC y.l nm) y.shop[j]!.es[t]!.r.v ⟨WC _ _,hxs⟩) ?_;refine zc ?_ ?_<;>intro hc2
  .refine kV ?_;refine a8 (ub.D ⟨y.shop[j]!.es[t]!.r,(cE y.shop y.pins nm).1⟩) ?_;refine bc [ub.D ⟨y.shop[j]!.es[t]!.r,(cE y.shop y.pins nm).1⟩] ?_;refine cI (q:=ub.D) (xs:=(iM y nm (cE y.shop y.pins nm).1.toNat ((cE y.shop y.pins nm).2.1.take i))) (e:=⟨y.shop[j]!.es[t]!.r,(cE y.shop y.pins nm).1⟩) (hb:=ae) ?_;refine zg ?_;rw[acM hj ae ht hc2];exact ij (i+1) [(3,3),(4,4),(64,5)]
  refine zg ?_;rw[acL hj ae ht hc2];exact ij (i+1) [(3,3),(4,4),(5,5)]
 refine cU ?_;rw[aiH ae hi hc1];refine bB 5 ?_ (he:=Z1) (hm:=Z1);refine zg ?_;refine dY trivial jo (dc ai (?_)) ai ⟨cY,1,2,⟨ae,ae,ae⟩,sF⟩;rfl
def Lb:aj:=ba 6
def w89 {Y:Ctx}(hm:(Y.at 0).bV)(hA:C29 Y)(hB:C264 Y)(hC:C265 Y)    :wkk Y Lb (.bool true) []:=by
 refine fk ?_;refine bP [.int .i64 0,.int .i64 0,.int .i64 0,.str [],.str [],.int .i64 (-1),.aK,.aK] ?_;refine bc [.agg [.int .i64 0,.int .i64 0,.int .i64 0,.str [],.str [],.int .i64 (-1),.aK,.aK]] ?_;refine bP [.str [],.str [],.own 2 8 0 1] ?_;refine bc [.agg [.str [],.str [],.own 2 8 0 1]] ?_;refine bP [.own 4 3 0 1] ?_;refine dD ?_;refine Ak [(2,.buf 8 [en.D ⟨zV,-1,[],[]⟩]),(4,.buf 3 [.agg [.str [],.str [],.own 2 8 0 1]]),(6,.buf 1 [.agg [.own 4 3 0 1]])] (.bf ai (.cons (.ag (.cons (.refl _) (.cons (.refl _) (.cons (.refl _) (.cons (.refl _) (.cons (.refl _) (.cons (.refl _) (.cons (.nil 1) (.cons (.nil 3) .nil))))))))) .nil) (.id ai (.id ai .nil))) ?_;refine bB 2 ?_;refine bB 4 ?_;refine cV ?_;refine bP [.str [],.str [],.str []] ?_;refine pK (v:=bT.D Qj) ?_;refine bP [.str [],.str [],.str [],.aK] ?_;refine aE (hc:=hB [] eZ Qj ⟨eZ,[]⟩ (Qk ⟨aU,(fun _ h=>bZ),(fun i=>by unfold Env.at;split<;>decide)⟩)) ?_;refine p9 ?_;rw[awk_1];refine cV ?_;refine bP [.str [],.str [],.str []] ?_;refine pK (v:=bT.D Qj) ?_;refine bP [.str [],.str [],.str [],.aK] ?_;refine aE (hc:=hC [] eZ Qj ⟨eZ,[]⟩ (Qk ⟨aU,(fun _ h=>bZ),(fun i=>by unfold Env.at;split<;>decide)⟩)) ?_;refine kn ?_;rw[awk_2];refine cV ?_;refine bP [.str [],.str [],.str []] ?_;refine pK (v:=bT.D Qj) ?_;refine cV ?_;refine bP [.str (ll 1).e0,.str (ll 1).e1,.str (ll 1).e2,.aK] ?_;refine aE (hc:=hC [] eZ Qj ⟨ll 1,[]⟩ (Qk ⟨aU,(fun _ h=>bZ),ahQ 1⟩)) ?_;refine kn ?_;rw[awk_3];refine cV ?_;refine bP [.str [],.str [],.str []] ?_;refine pK (v:=bT.D Qj) ?_;refine bP [.str [97,110,116],.int .i64 0,.int .i64 0,.int .i64 0,.str [],.str [],.str [],.int .u64 0,.aK] ?_;refine bc [.agg [.str [97,110,116],.int .i64 0,.int .i64 0,.int .i64 0,.str [],.str [],.str [],.int .u64 0,.aK]] ?_;refine bP [.str [],.str [],.str [],.own 41 9 0 1] ?_;refine aE (hc:=hC [] eZ Qj ⟨eZ,[antL]⟩ (Qk ⟨aU,(fun x hx=>by rw[aC.1 hx];exact⟨⟨aU,aU⟩,aU,aU,aU,fun _ h=>bZ⟩),(fun i=>by unfold Env.at;split<;>decide)⟩)) (hp:=fun _=>by repeat' first|exact trivial|exact rfl|refine And.intro ?_ ?_|(intro e he;obtain rfl:=aC.1 he)|simp) ?_;refine kn ?_;rw[awk_4];refine kV ?_;refine zzn ?_;refine fk ?_;refine cF 0 (hj:=fun _=>rfl) (hb:=fun _=>aU) ?_;refine c7 (v:=.int .i64 0) (hi:=fun _=>aU) ?_;refine ib ?_;refine kV ?_;refine bp (env':=[⟨_,(.bool _)⟩,_,_,_,_,_,_,_]) ?_;refine zr ?_;decide
def Pb:aj:=ba 109
def w403 (hA:SD Y)(hB:C617 Y)(hC:C618 Y):IL (cq Y Pb):=fun w i hp0=>by
 refine cV ?_;obtain⟨j,rfl⟩:∃j:Nat,i=(j:Int):=⟨i.toNat,ae⟩
 have hjl:j<w.us.length:=ae;have hju:=hp0.1 _ (aq hjl);simp only[Int.toNat_natCast];refine uq ?_;refine cy _ ?_;refine zg ?_;intro u0;refine dG ?_ ?_<;>intro hc0
 .refine zr ?_;unfold sw lg;grind
 refine zc ?_ ?_<;>intro hc1
 .refine zr ?_;unfold sw lg uA;grind
 refine ib ?_;refine fk ?_;refine cF ((j-1)) (hj:=fun hf=>cg) (hb:=fun hf=>cg) ?_;refine zc ?_ ?_<;>intro hc2
 .refine zr ?_;unfold sw lg;grind
 refine zg ?_;refine zf hm (fun k=>[.u 1,.i j,.u 1,.p 0 1,.p 1 3,.u 3,.i k,.u 2]) (fun k=>[(0,.buf 1 [bT.D w]),(1,.buf 3 [cL.D (w.us[j]!)])]) 54 (fun k=>k<=w.us[j]!.cands.length/\bU (mP w.us.length w.us[j]!.cands) 0 w.us[j]!.cands.length=bU (mP w.us.length w.us[j]!.cands) k w.us[j]!.cands.length) (fun k=>w.us[j]!.cands.length-k) ⟨ae,rfl⟩ [(0,0),(7,1)] ?_;rintro k ⟨hk,hr⟩;refine zg ?_;intro u1;refine dG ?_ ?_<;>intro hc3
 .refine Ih ?_;refine aE (hc:=hC ((w.us[j]!.cands)[k]!) _ ?_) ?_;rotate_left;first|assumption|omega|(grind [bT.sm,cL.sm,en.sm,aq])
  refine x9 ?_;refine cF ((k-1)) (hj:=fun hf=>cg) (hb:=fun hf=>cg) ?_;refine p9 ?_;refine ct (hc:=fun hf=>hA ((w.us[j]!.cands)[(k-1)]!.v) ((w.us[j]!.cands)[k]!.v) (by first|assumption|omega|(grind [bT.sm,cL.sm,en.sm,aq]))) ?_;refine zc ?_ ?_<;>intro hc4
  .refine zr ?_;unfold sw lg;rw[hr,az (i:=k) ae];simp only[mP];grind
  refine gD (k+1) [(0,0),(1,1)] ?_;rw[hr,az ae];simp only[mP];grind
 refine zr ?_;unfold sw lg uA;rw[hr,bA (i:=k) ae];grind
def T3:aj:=ba 64
def w169 (hA:C403 Y):tm (cq Y T3):=fun w hp0=>by
 refine zg ?_;intro u0;refine dG ?_ ?_<;>intro hc0
 .refine zr ?_;rw[DO];grind
 refine zg ?_;refine zf hm (fun i=>[.u 2,.p 0 1,.u 1,.i i,.u 2]) (fun i=>[(0,.buf 1 [bT.D w])]) 13 (fun i=>i<=w.us.length/\bU (sw w.us) 0 w.us.length=bU (sw w.us) i w.us.length) (fun i=>w.us.length-i) ⟨ae,rfl⟩ [(0,0)] ?_;rintro i ⟨hi,hr⟩;refine zg ?_;intro u1;refine dG ?_ ?_<;>intro hc1
 .refine zc ?_ ?_<;>intro hc2
  .refine zr ?_;rw[DO,hr,az ae];grind
  refine gD (i+1) [(0,0)] ?_;rw[hr,az ae];grind
 refine zr ?_;rw[DO,hr,bA ae];grind
def HK:aj:=ba 103
def w692 (hA:C184 Y)(hB:C829 Y):Js (cq Y HK):=fun m al c hp0=>by
 refine cV ?_;obtain⟨⟨hmp,hcp⟩,rfl⟩:=hp0;have hfp:=KN hmp hcp;have hml:=hmp.1;have hcl:=hcp.1;refine zg ?_;refine zf hm (fun u=>[.u 1,.m 1 ([]:List Int) (D.int .i64),.m 1 c (D.int .i64),.u 1,.i u,.u 1,.p 0 3,.u 1]) (fun u=>[(0,.buf 3 [j3.D m])]) 3 (fun u=>u<=c.length/\yg m c=bU (uY m c) u c.length) (fun u=>c.length-u) ⟨ae,rfl⟩ [(0,0)] ?_;rintro u ⟨hu,hr⟩;refine zg ?_;intro u0;refine dG ?_ ?_<;>intro hc0
 .refine dD ?_;have hfu:=fun h=>hfp.2 u ae h
  refine ib ?_;refine kn ?_;refine c7 (v:=.sl 1 (((m.bars)[u]!).map H2)) (hi:=fun hf=>cg) ?_;refine fk ?_;refine cF c[u]!.toNat (hj:=fun hf=>by have hcu:0<=c[u]! :=Decidable.byContradiction fun hn=>(by rw[bG hn]at hf;revert hf;decide);omega) (hb:=fun hf=>aak) ?_;refine c7 (v:=.sl 2 (m.bars[u]![c[u]!.toNat]!.map dR.D)) (hi:=fun hf=>aak) ?_;refine zg ?_;refine wp_cond (fun hc1=>?_) (fun hc1=>?_)
  .have hcx:uY m c u=false:=by
    unfold uY;by_cases hq:c[u]! <0
    .rw[bG (show ¬0<=c[u]! by omega)]at hc1;cases hc1
    .rw[bo (show 0<=c[u]! by omega)]at hc1;rw[bG hq,show j6 c m.bars[u]![c[u]!.toNat]! =true from hc1];rfl
   refine zr ?_;rw[hr,az ae,hcx,Bool.false_and]
  have hcx:uY m c u=true:=by
   unfold uY;by_cases hq:c[u]! <0
   .rw[bo hq];rfl
   .rw[bo (show 0<=c[u]! by omega)]at hc1;rw[bG hq,show j6 c m.bars[u]![c[u]!.toNat]! =false from hc1];rfl
  refine gD (u+1) [(0,0)] ?_;rw[hr,az ae,hcx,ew]
 refine zr ?_;rw[hr,bA ae]
def OY:aj:=ba 260
def w1083 (hA:C145 Y)(hB:C359 Y)(hC:aeh Y)(hD:aei Y):D1 (cq Y OY):=fun shop ps nm hp0=>by
 refine zc ?_ ?_<;>intro hc0
 .refine zr ?_;rw[ah0 hc0];rfl
 refine zc ?_ ?_<;>intro hc1
 .refine zr ?_;rw[ah1 hc0 hc1];rfl
 refine zg ?_;refine zf hm (fun i=>[.m 2 shop bJ.D,.m 2 ps iC.D,.e (.str nm),.u 4,.i i,.u 7]) (fun i=>[]) 9 (fun i=>i<=ps.length/\EE ps nm=gu (fun p=>decide (p.name=nm)) (ps.drop i) i) (fun i=>ps.length-i) ⟨ae,rfl⟩ [] ?_;rintro i ⟨hi,hr⟩;refine zg ?_;intro u0;refine dG ?_ ?_<;>intro hc2
 .refine zc ?_ ?_<;>intro hc3
  .refine gD (i+1) [] ?_;rw[hr,jj ae x6]
  refine cU ?_;have hpi:EE ps nm=(i:Nat):=by rw[hr,kD ae x6]
  refine zc ?_ ?_<;>intro hc4
  .refine zr ?_;rw[ah2 hc0 hc1 hpi hc4];rfl
  refine zr ?_;rw[ah3 hc0 hc1 hpi hc4];rfl
 refine fk ?_;have hpn:EE ps nm=-1:=by rw[hr,lX ae]
 refine zg ?_;refine zf hm (fun j=>[.m 2 shop bJ.D,.u 1,.e (.str nm),.u 9,.i j,.u 2]) (fun j=>[]) 14 (fun j=>j<=shop.length/\gu (B6 nm) shop 0=gu (B6 nm) (shop.drop j) j) (fun j=>shop.length-j) ⟨ae,rfl⟩ [] ?_;rintro j ⟨hj,hr2⟩;refine zg ?_;intro u1;refine dG ?_ ?_<;>intro hc5
 .refine zc ?_ ?_<;>intro hc6
  .refine zr ?_;rw[ah4 hc0 hc1 hpn (hr2.trans (kD ae hc6))];rfl
  refine gD (j+1) [] ?_;rw[hr2,jj ae hc6]
 refine zr ?_;rw[ah5 hc0 hc1 hpn (hr2.trans (lX ae))];rfl
def Mq:aj:=ba 30
def w267 (hA:C46 Y)(hB:C505 Y):Iz (cq Y Mq):=fun w od hp0=>by
 refine cV ?_;obtain⟨⟨hw,hwb⟩,hop⟩:=hp0;have hs16:∀x∈w.us,x.cands.length<=16:=fun x hx=>(hw.1.1 x hx).1
 have hmp:=maskP hwb hs16 hw.2;have hwl:=hw.1.2;refine zg ?_;refine zf hm (fun i=>[.u 3,.i i,.p 1 1,.u 1,.o 0 1 (nZ i).length,.p 2 2]) (fun i=>[(0,.buf 1 ((nZ i).map (D.int .i64))),(1,.buf 1 [bT.D w]),(2,.buf 2 [Ask.D (⟨[],od⟩:Ask)])]) 5 (fun i=>i<=w.us.length) (fun i=>w.us.length-i) ae [(0,1),(1,2)] ?_;intro i hi;have hnl:=TD i;refine zg ?_;intro u0;refine dG ?_ ?_<;>intro hc0
 .refine fk ?_;refine bc [.int .i64 (-1)] ?_;refine cI (q:=D.int .i64) (xs:=nZ i) (e:=-1) (hb:=ae) ?_;refine zg ?_;rw[TC];exact ij (i+1) [(12,0),(1,1),(2,2)]
 refine cU ?_;obtain rfl:i=w.us.length:=ae;refine bB 0 ?_;refine cV ?_;refine mf (d:=bT.D w) ?_;refine cV ?_;refine mf (d:=Ask.D (⟨[],od⟩:Ask)) ?_;refine cV ?_;refine aE (hc:=hB (dp w.us) od (nZ w.us.length) ⟨⟨hmp,rY _⟩,hop⟩) ?_;refine zg ?_;obtain⟨os,h1,h2⟩:∃os,mq (dp w.us) od (nZ w.us.length)=os/\kv w.us od=os:=⟨_,rfl,rfl⟩
 rw[h1,h2];cases os<;>exact Pr trivial CP jo rfl
def Pd:aj:=ba 32
def w269 (hA:C506 Y):IB (cq Y Pd):=fun w c hp0 hp1=>by
 refine zg ?_;refine zf hm (fun i=>[.u 1,.m 1 c (D.int .i64),.u 2,.i i,.m 1 (ff w c) _,.u 2,.o 0 1 (AQ w c i).length,.u 1]) (fun i=>[(0,.buf 1 ((AQ w c i).map (D.int .i64)))]) 8 (fun i=>i<=(ff w c).length) (fun i=>(ff w c).length-i) ae [] ?_;intro i hi;have htl:=Zp w c i;have hnl:=Lu w c;refine zg ?_;intro u0;refine dG ?_ ?_<;>intro hc0
 .refine zc ?_ ?_<;>intro hc1
  .refine kn ?_;refine bc [.int .i64 (-1)] ?_;refine cI (q:=D.int .i64) (xs:=AQ w c i) (e:=(-1)) (hb:=ae) ?_;refine zg ?_;rw[ake hc1];exact ij (i+1) [(26,0)]
  refine fk ?_;refine bc [.int .i64 c[i]!] ?_;refine cI (q:=D.int .i64) (xs:=AQ w c i) (e:=c[i]!) (hb:=ae) ?_;refine zg ?_;rw[akf hc1];exact ij (i+1) [(25,0)]
 refine cU ?_;obtain rfl:i=(ff w c).length:=ae;refine bB 0 ?_;exact my
def OZ:aj:=ba 227
def w1013 {Y:Ctx}(hm:(Y.at 0).bV)(hA:aee Y)(hC:aef Y):DX (cq Y OZ):=fun shop ps nm hp0=>by
 refine zc ?_ ?_<;>intro hc0
 .refine zr ?_;rw[show(cE shop ps nm)=(0,[],(fS shop ps nm).2)from ak hc0];rfl
 refine cU ?_;obtain⟨hB,j,hj,hjl⟩:=pz (by simpa using hc0:(fS shop ps nm).2=0);refine kn ?_;refine aE (hc:=hC shop[j]! nm (hp0 _ (aq hjl))) ?_;refine zr ?_;rw[show(cE shop ps nm)=((fS shop ps nm).1,j7 shop[(fS shop ps nm).1.toNat]! nm,0)from ah (by simpa using hc0),hj,Int.toNat_natCast];rfl
def GK:aj:=ba 13
def w265 {Y:Ctx}(hm:(Y.at 0).bV)(hA:C264 Y)(hB:C410 Y):Iy (cq Y GK):=fun shop e w l hp0=>by
 refine zc ?_ ?_<;>intro hc0
 .refine zr ?_;rw[chk_a hc0];rfl
 refine dD ?_;have hcw:=abz (l:=l) (e:=e) (shop:=shop) hp0.2.1 hc0;refine zg ?_;intro u0;refine dG ?_ ?_<;>intro hc1
 .refine cU ?_;have hun:=hcw.2.2 ae;refine dD ?_;refine cF 0 (hj:=fun _=>ae) (hb:=fun _=>ae) ?_;refine zr ?_;rw[chk_c hc0 ae];rfl
 refine zr ?_;rw[aeu hc0 ae];rfl
end Go.Abs
end
