/- A part of the proofs. -/
import Derived.Test.YtdhangmdmdegpaaGreatDoorP09
set_option linter.all false
set_option maxRecDepth 60000
set_option maxHeartbeats 2000000
noncomputable section
namespace Go.Abs
variable {Y:Ctx}(hm:(Y.at 0).bU)
def PG:aj:=bd 84
def w349:uv (ct Y PG):=λs=>by
 refine zc ?_ ?_<;>intro hc0
 .refine zr ?_;symm;simp only[gP,eJ,bR];rcases hc0 with h|h
  .subst h;exact Or.inl (Or.inl aJ)
  .exact Or.inl ae
 refine zg ?_;have hP:gP s=bK (λi=>Hm (at8 s i)) 0 s.length:=by
  have:=List.length_pos_iff.2 hc0.1;simp only[gP];rw[aY ae,aY ae];rfl
 refine zf hm (λi=>[.e (.str s),.u 2,.e (.it 9),.u 4]) (λi=>[(9,.iter s i)]) 10 (λi=>i<=s.length/\gP s=bK (λi=>Hm (at8 s i)) i s.length) (λi=>s.length-i) ⟨ae,hP⟩ [(9,9)] ?_;rintro i ⟨hi,hr⟩;refine zg ?_;by_cases hnx:i<s.length
 .obtain⟨c,w,hdec,hw,hcw⟩:=xz s i hnx;refine IM c w (hp:=hnx) (hc:=hdec) ?_;refine zg ?_;refine aQ (t:=true) (λ_=>?_) (λh=>cb);refine gv ?_;refine lY ?_ hm;refine aS ?_;refine lh (.int _ _) ?_;refine bL ?_;refine bg (env':=[_,_,_,_,_,_,⟨_,(.int _ _)⟩,_]) ?_;refine lY ?_ hm;refine gu ?_;refine aS ?_;refine bL ?_;refine II ?_;refine bL ?_;refine bL ?_;refine IK ?_;refine vz ?_;refine bL ?_;refine bg (env':=[_,_,_,_,_,_,_,⟨_,(.bool _)⟩]) ?_;refine dF ?_ ?_<;>intro hc2
  .refine zg ?_;refine B5 ?_ ?_<;>intro hc4
   .refine fA ?_;obtain⟨rfl,hat,-⟩:w=1/\(c:Int)=at8 s i/\c<128:=by
     rcases hcw with h|h
     .exact h
     .omega
    have hz:Hm (at8 s i)=true:=by
     simp only[Hm,jZ,bM,dk,aD,aT];omega
    exact⟨i+1,⟨ae,by rw[hr,ax hnx,hz];rfl⟩,ae,(gtt [(9,9)])⟩
   refine zg ?_;refine rrrb ?_;first
    |(exfalso;omega)
    |(rw[hr,bp ae];done)
    |(
     have hz:Hm (at8 s i)=false:=by
      rcases hcw with⟨_,h,_⟩|⟨_,h⟩<;>(simp only[Hm,jZ,bM,eg,eJ,bR];omega)
     rw[hr,ax hnx,hz];rfl)
  refine zg ?_;refine dF ?_ ?_<;>intro hc3
  .refine zg ?_;refine B5 ?_ ?_<;>intro hc4
   .refine fA ?_;obtain⟨rfl,hat,-⟩:w=1/\(c:Int)=at8 s i/\c<128:=by
     rcases hcw with h|h
     .exact h
     .omega
    have hz:Hm (at8 s i)=true:=by
     simp only[Hm,jZ,bM,dk,aD,aT];omega
    exact⟨i+1,⟨ae,by rw[hr,ax hnx,hz];rfl⟩,ae,(gtt [(9,9)])⟩
   refine zg ?_;refine zr ?_;first
    |(exfalso;omega)
    |(rw[hr,bp ae];done)
    |(
     have hz:Hm (at8 s i)=false:=by
      rcases hcw with⟨_,h,_⟩|⟨_,h⟩<;>(simp only[Hm,jZ,bM,eg,eJ,bR];omega)
     rw[hr,ax hnx,hz];rfl)
  refine zg ?_;refine B5 ?_ ?_<;>intro hc4
  .refine fA ?_;obtain⟨rfl,hat,-⟩:w=1/\(c:Int)=at8 s i/\c<128:=by
    rcases hcw with h|h
    .exact h
    .omega
   have hz:Hm (at8 s i)=true:=by
    simp only[Hm,jZ,bM,dk,aD,aT];omega
   refine fX (i+1) [(9,9)] ?_;rw[hr,ax hnx,hz];rfl
  refine zg ?_;refine zr ?_;first
   |(exfalso;omega)
   |(rw[hr,bp ae];done)
   |(
    have hz:Hm (at8 s i)=false:=by
     rcases hcw with⟨_,h,_⟩|⟨_,h⟩<;>(simp only[Hm,jZ,bM,eg,eJ,bR];omega)
    rw[hr,ax hnx,hz];rfl)
 .refine IL (hp:=hnx) ?_;refine zg ?_;refine aQ (t:=false) (λh=>cb) (λ_=>?_);refine zr ?_;first
   |(exfalso;omega)
   |(rw[hr,bp ae];done)
   |(
    have hz:Hm (at8 s i)=false:=by
     rcases hcw with⟨_,h,_⟩|⟨_,h⟩<;>(simp only[Hm,jZ,bM,eg,eJ,bR];omega)
    rw[hr,ax hnx,hz];rfl)
def PF:aj:=bd 134
def w208:ui (ct Y PF):=λs=>by
 refine zc ?_ ?_<;>intro hc0
 .refine zr ?_;symm;simp only[di];rcases hc0 with h|h
  .subst h;simp
  .rw[bA (by omega:¬s.length<=16)];simp
 refine zg ?_;have h0:=List.length_pos_iff.2 hc0.1;have hP:=aeU s ae ae;refine zf hm (λi=>[.e (.str s),.u 2,.e (.it 9),.u 9]) (λi=>[(9,.iter s i)]) 10 (λi=>i<=s.length/\di s=bK (pN s) i s.length) (λi=>s.length-i) ⟨ae,hP⟩ [(9,9)] ?_;rintro i ⟨hi,hr⟩;refine zg ?_;by_cases hnx:i<s.length
 .obtain⟨c,w,hdec,hw,hcw⟩:=xz s i hnx;refine IM c w (hp:=hnx) (hc:=hdec) ?_;refine zg ?_;refine aQ (t:=true) (λ_=>?_) (λh=>cb);refine gv ?_;refine lY ?_ hm;refine aS ?_;refine lh (.int _ _) ?_;refine lh (.int _ _) ?_;refine bL ?_;refine bL ?_;refine bg (env':=[_,_,_,_,_,_,⟨_,(.int _ _)⟩,_,_,⟨_,(.int _ _)⟩,_,_,_]) ?_;refine lY ?_ hm;refine aS ?_;refine bL ?_;refine II ?_;refine bL ?_;refine bL ?_;refine IK ?_;refine vz ?_;refine bL ?_;refine bg (env':=[_,_,_,_,_,_,_,⟨_,(.bool _)⟩,_,_,_,_,_]) ?_;refine B5 ?_ ?_<;>intro hc2
  .refine fA ?_;obtain⟨rfl,hat,-⟩:w=1/\(c:Int)=at8 s i/\c<128:=by
    rcases hcw with h|h
    .exact h
    .omega
   have hz:pN s i=true:=by
    simp only[pN,jZ,bM,dk,aD,b8,aT,bR];omega
   exact⟨i+1,⟨ae,by rw[hr,ax hnx,hz];rfl⟩,ae,(gtt [(9,9)])⟩
  refine zg ?_;refine B5 ?_ ?_<;>intro hc3
  .refine zg ?_;refine B5 ?_ ?_<;>intro hc4
   .refine zg ?_;refine rrrb ?_;first
     |(exfalso;omega)
     |(rw[hr,bp ae];done)
     |(have hz:pN s i=false:=by
        rcases hcw with⟨_,h,_⟩|⟨_,h⟩<;>(simp only[pN,jZ,bM,eg,eJ,cF,aT,bR];omega)
       rw[hr,ax hnx,hz];rfl)
   refine fA ?_;obtain⟨rfl,hat,-⟩:w=1/\(c:Int)=at8 s i/\c<128:=by
    rcases hcw with h|h
    .exact h
    .omega
   have hz:pN s i=true:=by
    simp only[pN,jZ,bM,dk,aD,b8,aT,bR];omega
   refine fX (i+1) [(9,9)] ?_;rw[hr,ax hnx,hz];rfl
  refine zg ?_;refine B5 ?_ ?_<;>intro hc5
  .refine iz ?_;refine AS (i-1) ?_;refine zg ?_;refine B5 ?_ ?_<;>intro hc6
   .refine zr ?_;first
     |(exfalso;omega)
     |(rw[hr,bp ae];done)
     |(have hz:pN s i=false:=by
        rcases hcw with⟨_,h,_⟩|⟨_,h⟩<;>(simp only[pN,jZ,bM,eg,eJ,cF,aT,bR];omega)
       rw[hr,ax hnx,hz];rfl)
   refine zg ?_;obtain⟨rfl,hat,-⟩:w=1/\(c:Int)=at8 s i/\c<128:=by
    rcases hcw with h|h
    .exact h
    .omega
   have hz:pN s i=true:=by
    simp only[pN,jZ,bM,dk,aD,b8,aT,bR];omega
   refine fX (i+1) [(9,9)] ?_;rw[hr,ax hnx,hz];rfl
  refine zg ?_;refine zr ?_;first
   |(exfalso;omega)
   |(rw[hr,bp ae];done)
   |(have hz:pN s i=false:=by
      rcases hcw with⟨_,h,_⟩|⟨_,h⟩<;>(simp only[pN,jZ,bM,eg,eJ,cF,aT,bR];omega)
     rw[hr,ax hnx,hz];rfl)
 .refine IL (hp:=hnx) ?_;refine zg ?_;refine aQ (t:=false) (λh=>cb) (λ_=>?_);refine zr ?_;first
   |(exfalso;omega)
   |(rw[hr,bp ae];done)
   |(have hz:pN s i=false:=by
      rcases hcw with⟨_,h,_⟩|⟨_,h⟩<;>(simp only[pN,jZ,bM,eg,eJ,cF,aT,bR];omega)
     rw[hr,ax hnx,hz];rfl)
def H4:aj:=bd 176
def w658:uK (ct Y H4):=λs=>by
 refine Fa ?_;refine AS 0 (hb:=λh=>by simp at h;exact List.length_pos_iff.2 h.1) ?_;refine zc ?_ ?_<;>intro hc0
 .refine zg ?_;refine fQ (bZ (ay (D.int .i64) ?_) (ay D.bool ?_));all_goals
   have:oI s=false:=by
    rw[ZC];rcases hc0 with(h|h)|h
    .subst h;simp
    .rw[bA (by omega:¬s.length<=4)];simp
    .rw[aY (by omega:1<s.length),aY h.1];simp
   simp[DN,this]
 refine zg ?_;have h0:=List.length_pos_iff.2 hc0.1.1;have hP:oI s=bK (λi=>bM (at8 s i)) 0 s.length:=by
  rw[ZC,aY (by omega:1<=s.length),aY (by omega:s.length<=4)];rcases hc0.2 with h|h
  .rw[bA h,Bool.and_false];rfl
  .rw[bA (by omega:¬1<s.length)];rfl
 refine zf hm (λi=>[.e (.str s),.u 3,.e (.it 21),.u 4,.i (fk (s.take i):Nat)]) (λi=>[(21,.iter s i)]) 22 (λi=>i<=s.length/\s.length<=4/\oI s=bK (λi=>bM (at8 s i)) i s.length) (λi=>s.length-i) ⟨ae,ae,hP⟩ [(21,21)] ?_;rintro i ⟨hi,h9,hr⟩;refine zg ?_;by_cases hnx:i<s.length
 .obtain⟨c,w,hdec,hw,hcw⟩:=xz s i hnx;refine IM c w (hp:=hnx) (hc:=hdec) ?_;refine zg ?_;refine aQ (t:=true) (λ_=>?_) (λh=>cb);refine zc ?_ ?_<;>intro hc2
  .refine c9 ?_;obtain⟨rfl,hat,-⟩:w=1/\(c:Int)=at8 s i/\c<128:=by
    rcases hcw with h|h
    .exact h
    .omega
   have hn:=x7 s i ae;have hn2:=AN s i ae;have h256:=HE s i;refine c9 ?_;refine yn ?_;refine c9 ?_;refine IN ((c:Int) -48) (hb:=λ_=>IntWalk.i32_in _ ae) ?_;refine rU ((c:Int) -48) (hb:=λ_=>IntWalk.i64_in _ ae) ?_;refine dR ?_;rw[show 10*(fk (s.take i):Int)+((c:Int) -48)=(fk (s.take (i+1)):Nat)by omega];refine zg ?_;have hz:bM (at8 s i)=true:=by
    simp only[bM,aD,aT];omega
   refine zl (i+1) [(21,21)] ?_;exact⟨ae,h9,by rw[hr,ax ae,hz];rfl⟩
  refine zg ?_;refine fQ (bZ (ay (D.int .i64) ?_) (ay D.bool ?_));all_goals
   have hz:bM (at8 s i)=false:=by
    rcases hcw with⟨_,h,_⟩|⟨_,h⟩<;>(simp only[bM,eJ,bR];omega)
   have:oI s=false:=by rw[hr,ax ae,hz];rfl
   simp[DN,this]
 .refine IL (hp:=hnx) ?_;refine zg ?_;refine aQ (t:=false) (λh=>cb) (λ_=>?_);refine oV ?_;refine LQ.out ?_;refine aS ?_;refine bL ?_;refine bL ?_;refine IK ?_;refine bL ?_;refine bL ?_;refine bg (env':=[_,⟨_,(.int _ _)⟩,⟨_,(.bool _)⟩,_,_,_,_,_,_,_]) ?_;refine wp_ret ?_;refine fQ (bZ (ay (D.int .i64) ?_) (ay D.bool ?_));all_goals
   have this:oI s=true:=by rw[hr,bp ae]
   have ht:s.take i=s:=gG ae;have h9:=this;simp only[oI,aD,aT]at h9;have h99:=h9.2;rw[ht];first
   |(simp only[DN,this];rfl)
   |(rw[this,aT];omega)
def aaY:aj:=⟨1,4,re1,H0,(sq (rg [gb 7 s0,gm HO] [(2,0),(1,1)]) (sq (sq (r1 [gf 0 s2,gd l0,Im l1 vx] 3 2) (.cond s3 (sq (r1 [gf 1 s2,gk 5 true l0,gx 217 [l1] ha5,gm l2,OV 3 1 s2,OV 3 4 l4,Yr 3 l5,AB 3 (An l6 cse),Yq l3 l7,gm l8] 1 9) .ret) .skip)) (sq (r1 [gf 0 s2,gd l0,gn (An l1 (.c (.int .i64 (-1)))),gm l2,Bw 3 0 s2,Gp 3 l4,nX 3 (An l5 Mq),HY l3 l6,gm l7,OV 8 1 s2,AB 8 (.ld 5 true l9),AB 8 (.build [.int .i64 0,.int .i64 0,.int .i64 0,.str [],.str []] []),AB 8 (.eqA false true [.i .i64,.i .i64,.i .i64,.s,.s] l10 Wy),Yq l8 l12,gm l13,OV 14 6 s2,Yr 14 l15,AB 14 (.un .not l16),Yq l14 l17,gm l18] 1 19) .ret)))⟩
def w1086 (hm:(Y.at 0).bU)(hA:Cw Y):qL (ct Y aaY):=λc hp0=>by
 refine zc ?_ ?_<;>intro hc0
 .refine zr ?_;first|(grind [qd,zV];done)|(simp_all[qd,zV];done)
 refine F3 ?_;refine bc (b6.D (⟨0,0,0,[],[]⟩)) ?_;refine zr ?_;first|(grind [qd,zV];done)|(simp_all[qd,zV];done)
def Ja:aj:=bd 273
def w1020 (hA:Um Y)(hB:WO Y)(hC:RS Y):qJ (ct Y Ja):=λa b hp0=>by
 refine zc ?_ ?_<;>intro hc0
 .refine zr ?_;first|(grind [lA,du];done)|(simp_all[lA,du];done)
 refine zc ?_ ?_<;>intro hc1
 .refine zr ?_;first|(grind [lA,du];done)|(simp_all[lA,du];done)
 refine zc ?_ ?_<;>intro hc2
 .refine zr ?_;first|(grind [lA,du];done)|(simp_all[lA,du];done)
 refine zc ?_ ?_<;>intro hc3
 .refine zr ?_;first|(grind [lA,du];done)|(simp_all[lA,du];done)
 refine zc ?_ ?_<;>intro hc4
 .refine zr ?_;first|(grind [lA,du];done)|(simp_all[lA,du];done)
 refine zr ?_;first|(grind [lA,du];done)|(simp_all[lA,du];done)
def QY:aj:=bd 274
def w1025 (hm:(Y.at 0).bU)(hA:Cw Y)(hB:Um Y)(hC:RS Y):qK (ct Y QY):=λc v hp0=>by
 refine zc ?_ ?_<;>intro hc0
 .refine zr ?_;first|(grind [kf];done)|(simp_all[kf];done)
 refine zc ?_ ?_<;>intro hc1
 .refine zr ?_;first|(grind [kf];done)|(simp_all[kf];done)
 refine zr ?_;first|(grind [kf];done)|(simp_all[kf];done)
def Jb:aj:=bd 272
def w1019 (hm:(Y.at 0).bU)(hA:RR Y)(hB:RS Y):qI (ct Y Jb):=λs hp0=>by
 refine pW ?_;refine aE (hc:=hB (s.f) jQ) ?_;refine dR ?_;refine ca (hc:=λhf=>hB (s.t) jQ) ?_;refine zr ?_;first|(grind [qz];done)|(simp_all[qz];done)
def QZ:aj:=bd 240
def w926 (hm:(Y.at 0).bU)(hA:Cw Y)(hB:LG Y)(hC:agd Y):uQ (ct Y QZ):=λs v hp0=>by
 refine Fa ?_;refine c9 ?_;refine ca (hc:=λhf=>hC (s.f) (v) jQ) ?_;refine j7 ?_;refine ca (hc:=λhf=>hC (s.t) (v) jQ) ?_;refine zr ?_;first|(grind [sK,qz];done)|(simp_all[sK,qz];done)
def aa0:aj:=bd 238
def w916 (hA:LG Y)(hB:RR Y):uP (ct Y aa0):=λl hp0=>by
 refine zg ?_;refine zf hm (λi=>[.m 14 l Span.D,.u 1,.i i,.u 2]) (λi=>[]) 2 (λi=>i<=l.length/\te l=bK (BR l) i l.length) (λi=>l.length-i) ⟨ae,rfl⟩ [] ?_;rintro i ⟨hi,hr⟩;refine zg ?_;intro u0;refine dF ?_ ?_<;>intro hc0
 .refine pW ?_;refine aE (hc:=hA ((l)[i]!) jQ) ?_;refine qH ?_;refine cD ((i-1)) (hj:=λhf=>cr) (hb:=λhf=>cr) ?_;refine pW ?_;refine ca (hc:=λhf=>hB ((l)[(i-1)]!.t) ((l)[i]!.f) jQ) ?_;refine zc ?_ ?_<;>intro hc1
  .refine zr ?_;rw[hr,ax ae];first|(grind [BR];done)|(simp_all[BR];done)
  refine fX (i+1) [] ?_;rw[hr,ax ae];first|(grind [BR];done)|(simp_all[BR];done)
 refine zr ?_;rw[hr,bp ae]
def aaZ:aj:=bd 204
def w782 (hA:WS Y)(hB:C926 Y):uO (ct Y aaZ):=λl v hp0=>by
 refine zg ?_;refine zf hm (λi=>[.m 14 l Span.D,.u 2,.i i,.u 1,.p 0 5,.u 1]) (λi=>[(0,.buf 5 [b6.D v])]) 3 (λi=>i<=l.length/\wJ l v=(te l&&pd (λi=>sK l[i]! v) i l.length)) (λi=>l.length-i) ⟨ae,rfl⟩ [(0,0)] ?_;rintro i ⟨hi,hr⟩;refine zg ?_;intro u0;refine dF ?_ ?_<;>intro hc0
 .refine qH ?_;refine aE (hc:=hB ((l)[i]!) (v) jQ) ?_;refine zc ?_ ?_<;>intro hc1
  .refine zr ?_;rw[hr,j9 ae];simp_all
  refine fX (i+1) [(0,0)] ?_;rw[hr,j9 ae];simp_all
 refine zr ?_;rw[hr];rcases hc0 with h|h
 .rw[tC ae];simp
 .rw[h];rfl
def Q0:aj:=bd 243
def w600 (hm:(Y.at 0).bU):KA (ct Y Q0):=λv=>by
 refine zr ?_;first|(grind [wq];done)|(simp_all[wq];done)
def Q3:aj:=bd 239
def w917 (hm:(Y.at 0).bU)(hA:C600 Y):Lb (ct Y Q3):=λc=>by
 refine zr ?_;first|(grind [m7];done)|(simp_all[m7];done)
def aa2:aj:=bd 203
def w770 (hA:WS Y)(hB:C917 Y):uN (ct Y aa2):=λs hp0=>by
 refine qH ?_;refine aE (hc:=hA (s.rel) jQ) ?_;refine fA ?_;refine ca (hc:=λhf=>hA (s.pr) jQ) ?_;refine zc ?_ ?_<;>intro hc0
 .refine zr ?_;unfold wL;rcases hc0 with h|h<;>simp[h]
 refine zg ?_;refine zf hm (λi=>[.u 2,.p 0 2,.u 1,.i i,.u 2]) (λi=>[(0,.buf 2 [cy.D s])]) 13 (λi=>i<=s.rel.length/\wL s=bK (λi=>m7 s.rel[i]!.f&&m7 s.rel[i]!.t) i s.rel.length) (λi=>s.rel.length-i) ⟨ae,by unfold wL;simp_all⟩ [(0,0)] ?_;rintro i ⟨hi,hr⟩;refine zg ?_;intro u0;refine dF ?_ ?_<;>intro hc1
 .refine zc ?_ ?_<;>intro hc2
  .refine zr ?_;rw[hr,ax ae];rcases hc2 with h|h<;>simp only[h,Bool.and_false,Bool.false_and]
  refine fX (i+1) [(0,0)] ?_;rw[hr,ax ae];simp_all
 refine zr ?_;rw[hr,bp ae]
def aa1:aj:=bd 158
def w627 (hm:(Y.at 0).bU)(hA:Cw Y)(hB:WQ Y)(hC:C782 Y):uJ (ct Y aa1):=λs v hp0=>by
 refine zc ?_ ?_<;>intro hc0
 .refine zr ?_;first|(grind [pg];done)|(simp_all[pg];done)
 refine zc ?_ ?_<;>intro hc1
 .refine j7 ?_;refine aE (hc:=hC (s.rel) (v) jQ) ?_;refine zr ?_;first|(grind [pg];done)|(simp_all[pg];done)
 refine j7 ?_;refine aE (hc:=hC (s.pr) (v) jQ) ?_;refine zr ?_;first|(grind [pg];done)|(simp_all[pg];done)
def NB:aj:=bd 98
def w218 (hA:C457 Y)(hB:C458 Y)(hC:C459 Y)(hD:C460 Y):JI (ct Y NB):=λr hp0=>by
 refine zg ?_;refine zf hm (λi=>[.u 3,.i i,.p 0 9,.u 12]) (λi=>[(0,.buf 9 [Rec.D r])]) 4 (λi=>i<=r.needs.length/\lT r=gU (λi=>jM r r.needs[i]!) i r.needs.length) (λi=>r.needs.length-i) ⟨ae,rfl⟩ [(0,0)] ?_;rintro i ⟨hi,hr⟩;refine zg ?_;intro u0;refine dF ?_ ?_<;>intro hc0
 .refine yZ ?_;refine aE (hc:=hA r r.needs[i]! (hp0.2.1 _ (aq ae))) ?_;refine zc ?_ ?_<;>intro hc1
  .refine zg ?_;refine fQ (bZ (ay (D.int .i64) ?_) (ay (D.int .i64) ?_));all_goals
    have hq:eD r=(jM r r.needs[i]!,((i:Nat):Int)):=by
     exact Nb (by rw[hr,gV ae hc1]) hc1
    rw[hq];first|done|rfl
  refine fX (i+1) [(0,0)] ?_;rw[hr,kE ae hc1]
 refine fA ?_;have hn0:lT r=(0,0):=by rw[hr,kD ae]
 refine zg ?_;refine zf hm (λi=>[.u 4,.p 0 9,.u 3,.i i,.u 8]) (λi=>[(0,.buf 9 [Rec.D r])]) 10 (λi=>i<=r.bars.length/\vo r=gU (λi=>sg r r.bars[i]!) i r.bars.length) (λi=>r.bars.length-i) ⟨ae,rfl⟩ [(0,0)] ?_;rintro i ⟨hi,hr⟩;refine zg ?_;intro u1;refine dF ?_ ?_<;>intro hc2
 .refine yZ ?_;refine aE (hc:=hB r r.bars[i]! (hp0.2.2.1 _ (aq ae))) ?_;refine zc ?_ ?_<;>intro hc3
  .refine zg ?_;refine fQ (bZ (ay (D.int .i64) ?_) (ay (D.int .i64) ?_));all_goals
    have hq:eD r=(sg r r.bars[i]!,((i:Nat):Int)):=by
     exact DR hn0 (by rw[hr,gV ae hc3]) hc3
    rw[hq];first|done|rfl
  refine fX (i+1) [(0,0)] ?_;rw[hr,kE ae hc3]
 refine fA ?_;have hb0:vo r=(0,0):=by rw[hr,kD ae]
 refine c7 ?_;refine aE (hc:=hC r.feats hp0.2.2.2) ?_;refine zg ?_;refine aQ (λhc4=>?_) (λhc4=>?_)
 .try simp only[gR]at hc4
  refine zg ?_;refine fQ (bZ (ay (D.int .i64) ?_) (ay (D.int .i64) ?_));all_goals
   have hq:eD r=(11,0):=by
    exact Nc hn0 hb0 hc4
   rw[hq];first|done|rfl
 simp only[cF]at hc4;refine zg ?_;refine zf hm (λi=>[.u 4,.p 0 9,.u 8,.i i,.u 3]) (λi=>[(0,.buf 9 [Rec.D r])]) 20 (λi=>i<=r.feats.length/\HT r=gU (λi=>mV r r.feats[i]!.of) i r.feats.length) (λi=>r.feats.length-i) ⟨ae,rfl⟩ [(0,0)] ?_;rintro i ⟨hi,hr⟩;refine zg ?_;intro u2;refine dF ?_ ?_<;>intro hc5
 .refine se ?_;refine aE (hc:=hD r r.feats[i]!.of (jz.it hp0.2.2.2 _ (aq ae))) ?_;refine zc ?_ ?_<;>intro hc6
  .refine zg ?_;refine fQ (bZ (ay (D.int .i64) ?_) (ay (D.int .i64) ?_));all_goals
    have hq:eD r=(mV r r.feats[i]!.of,((i:Nat):Int)):=by
     exact yh hn0 hb0 hc4 (by rw[hr,gV (f:=(λi=>mV r r.feats[i]!.of)) ae hc6])
    rw[hq];first|done|rfl
  refine fX (i+1) [(0,0)] ?_;rw[hr,kE (f:=(λi=>mV r r.feats[i]!.of)) ae hc6]
 refine zg ?_;refine fQ (bZ (ay (D.int .i64) ?_) (ay (D.int .i64) ?_));all_goals
  have hq:eD r=(0,0):=by
   exact yh hn0 hb0 hc4 (by rw[hr,kD ae])
  rw[hq];first|done|rfl
def Ny:aj:=bd 55
def w71 (hA:Hy Y)(hB:Cw Y)(hC:C218 Y)(hD:C219 Y):Ad (ct Y Ny):=λr hp0=>by
 refine zg ?_;refine wp_cond (λhc0=>?_) (λhc0=>?_)
 .try simp only[gR]at hc0
  refine zg ?_;refine fQ (bZ (ay (D.int .i64) ?_) (ay (D.int .i64) ?_));all_goals (have hq:c8 r=(4,0):=(by rw[c8,ak hc0]);rw[hq];first|done|rfl)
 simp only[cF]at hc0;refine dR ?_;refine aE (hc:=hB r.v hp0.1.2) ?_;refine zg ?_;refine wp_cond (λhc1=>?_) (λhc1=>?_)
 .try simp only[gR]at hc1
  refine zg ?_;refine fQ (bZ (ay (D.int .i64) ?_) (ay (D.int .i64) ?_));all_goals (have hq:c8 r=(5,0):=(by rw[c8,ah jT,ak hc1]);rw[hq];first|done|rfl)
 simp only[cF]at hc1;refine zg ?_;intro u0;refine B5 ?_ ?_<;>intro hc2
 .refine zg ?_;refine fQ (bZ (ay (D.int .i64) ?_) (ay (D.int .i64) ?_));all_goals (have hq:c8 r=(3,0):=(by rw[c8,ah jT,ah (by simp[hc1]),ak ae]);rw[hq];first|done|rfl)
 refine zg ?_;refine aQ (λhc3=>?_) (λhc3=>?_)
 .try simp only[gR]at hc3
  refine zg ?_;refine fQ (bZ (ay (D.int .i64) ?_) (ay (D.int .i64) ?_));all_goals
   have hq:c8 r=eD r:=by
    exact qb hc0 hc1 ae ae rfl hc3
   rw[hq];first|done|rfl
 simp only[cF,aT]at hc3;have hpz:eD r=(0,0):=Nf hc3;have hgd:Gr r:=⟨⟨hc0,hc1⟩,⟨ae,ae⟩,hpz⟩;refine gv ?_;refine gu ?_;refine aS ?_;refine mH ?_;refine aE (hc:=hD r ⟨hgd,hp0⟩) ?_;refine D2 λu1=>?_;specialize u1 rfl rfl
 refine pP ?_;refine bg (env':=[_,_,_,_,_,_,_,_,_,_,⟨_,(.bool _)⟩]) ?_;refine dF ?_ ?_<;>intro hc4
 .refine zg ?_;refine fQ (bZ (ay (D.int .i64) ?_) (ay (D.int .i64) ?_));all_goals
   have hq:c8 r=(3,0):=by
    rw[xr hc0 hc1 ae ae hpz,ak ae]
   rw[hq];first|done|rfl
 refine zg ?_;refine fQ (bZ (ay (D.int .i64) ?_) (ay (D.int .i64) ?_));all_goals
  have hq:c8 r=(0,0):=by
   rw[xr hc0 hc1 ae ae hpz,ah ae]
  rw[hq];first|done|rfl
def rq:aj:=⟨2,12,[⟨2,none⟩],[[.sl 1 [.sl 4 [.a,.a,.sl 14 [.a,.a,.a,.a,.a,.a,.a,.a,.a,.a,.a,.a,.a,.a],.sl 14 [.a,.a,.a,.a,.a,.a,.a,.a,.a,.a,.a,.a,.a,.a]]]]],(sq (rg [gb 8 s0,gb 2 s1,gm (.c (.aO))] [(5,0),(3,1),(2,2)]) (sq (sq (r1 [gk 2 true s3,gn (.build [.str [],.str []] []),gn (.eqA false true [.s,.s] l0 l1)] 4 2) (.cond s4 (sq (r1 [gk 8 true s5,gn (.callM 751 [l0]),gm l1] 2 2) .ret) .skip)) (sq (r1 [gm (.c (.aO))] 10 0) (sq (sq (rg [gk 8 true s5,gk 2 true s3,gn (.callM 752 [l0,l1]),gl l2,gm vx] [(9,2),(7,3),(6,4)]) (.block 0 (.loop (sq (r1 [kj s6 s7] 8 0) (sq (UT s8 0) (sq (.block 1 (sq (r1 [ga 10 s9 s6,gk 10 true l0,gb 10 (.c (.agg [.str [],.int .i64 0,.int .i64 0,.int .i64 0,.str [],.str [],.aO,.aO,.aO,.int .i64 0])),gt 10 l2 l1] 11 2) (r1 [gm TE,gf 0 s11,gk 9 true l1,gf 2 s5,gk 3 true l3,gf 1 s3,gd l5,gx 753 [l2,l4,l6] [zzh1,[.a,.a,.a],[.a]],gn (.app 1 l0 l7),gm l8] 10 9))) (r1 [lS s6 Mq,gm l0] 6 1))))))) (sq (r1 [gm TE,gm l0] 2 1) .ret)))))⟩
def w748 (hm:(Y.at 3).bU)(y:cu)(ns:Ψ)(k:Key)(hA:C751 (Y.at 3))(hB:C752 (Y.at 3))(hC:C753 (Y.at 3))(hp0:qP y/\kS y.e)(hp1:ns.length<=998):dD (Y.at 3) rq.body (uV rq (LH y (jD ns k) (.sl 1 ((cJ y k).map ed))):Ex->Φ->St->Prop) (fV rq [cu.D y (.ptr 0 2 0 0),Key.D k]) ⟨3,[(0,.buf 2 [eS 1 2 ns.length]),(1,.buf 1 (ns.map D.str)),(2,.buf 1 (dn y ns))]⟩:=by
 show dD _ _ _ [⟨true,cu.D y (.ptr 0 2 0 0)⟩,⟨true,Key.D k⟩,.un,.un,.un,.un,.un,.un,.un,.un,.un,.un] ⟨3,[(0,.buf 2 [eS 1 2 ns.length]),(1,.buf 1 (ns.map D.str)),(2,.buf 1 (dn y ns))]⟩;refine aS ?_;refine pW ?_;refine bc (Key.D eV) ?_;refine zc ?_ ?_<;>intro hc0
 .refine dR ?_;refine dT (nx':=11) (v:=.sl 1 ((eH y.l).map ed)) (m':=[(10,.buf 1 ((ns).map D.str)),(11,.buf 1 (dn y (ns))),(0,.buf 2 [eS 10 11 (ns).length]),(3,.buf 8 [cu.D y (.ptr 0 2 0 0)]),(4,.buf 2 [Key.D k])]) (hc:=λK' hK=>hA y ns hp0.1.m (T1 hp0.1.p) _ 0 1 2 _ K' eL eL eL aX ⟨rfl,rfl,rfl⟩ hK) (hn:=aX) ?_;refine zg ?_;refine eB trivial jJ (dp ai (?_)) ai ⟨by first|(rw[TD hc0];done)|(rw[TD hc0];exact rfl),10,11,⟨ae,ae,ae⟩,by rw[YX hc0];refine⟨?_, ?_, ?_⟩<;>first|exact rfl|(rw[nI];exact rfl)|(rw[nH];exact rfl)⟩;rfl
 refine qH ?_;refine dT (nx':=12) (v:=u7 (ei y k)) (m':=[(12,.buf 1 ((fe ns k.n).map D.str)),(13,.buf 1 (dn y (fe ns k.n))),(0,.buf 2 [eS 12 13 (fe ns k.n).length]),(3,.buf 8 [cu.D y (.ptr 0 2 0 0)]),(4,.buf 2 [Key.D k])]) (hc:=λK' hK=>hB y ns k hp0.1.p ae _ 0 1 2 _ K' eL eL eL aX ⟨rfl,rfl,rfl⟩ hK) (hn:=aX) ?_;refine c7 ?_;intro u0;refine bg (env':=[_,_,_,_,_,_,⟨_,(.int _ _)⟩,⟨_,(.int _ _)⟩,_,⟨_,(.sl _ _)⟩,_,_]) ?_;refine zf hm (λi=>[.u 3,.p 4 2,.u 1,.p 3 8,.i i,.i ((ei y k).length:Nat),.u 1,.m 10 (ei y k) qM.D,.o 7 1 (((ei y k).take i).flatMap λx=>cL x.r y.e k.f).length,.u 1]) (λi=>[(0,.buf 2 [eS 5 6 (fe ns k.n).length]),(5,.buf 1 ((fe ns k.n).map D.str)),(6,.buf 1 (dn y (fe ns k.n))),(3,.buf 8 [cu.D y (.ptr 0 2 0 0)]),(4,.buf 2 [Key.D k]),(7,.buf 1 ((((ei y k).take i).flatMap λx=>cL x.r y.e k.f).map ed))]) 20 (λi=>i<=(ei y k).length) (λi=>(ei y k).length-i) ae [(12,5),(13,6),(3,3),(4,4)] ?_;intro i hi;have hof:=(x9 hp0.1.p k).1;have hrl:=iB (f:=λx:qM=>cL x.r y.e k.f) (B:=385) (l:=(ei y k).take i) λx hx=>(lU ((x9 hp0.1.p k).2 x (ER hx)).1).1
 rw[eE]at hrl;refine zc ?_ ?_<;>intro hc1
 .refine kv ?_;refine cE _ ?_;refine c7 ?_;obtain⟨hxp,hxv⟩:=agY hp0.1 (k:=k) (i:=i) ae;have hql:=(lU (e:=y.e) (ft:=k.f) hxp).1;refine qH ?_;refine pO (q:=ed) (xs:=(((ei y k).take i).flatMap λx=>cL x.r y.e k.f)) (ys:=cL (ei y k)[i]!.r y.e k.f) (he:=n9.sl) (hb:=ae) ?_;refine zg ?_;rw[<-oq (f:=λx:qM=>cL x.r y.e k.f) (l:=ei y k) (i:=i) ae];exact iw (i+1) [(3,3),(4,4),(5,5),(6,6),(33,7)]
 refine c7 ?_;obtain rfl:i=(ei y k).length:=ae;rw[List.take_length];refine bG 7 ?_;refine zg ?_;refine eB trivial jJ (dp ai (?_)) ai ⟨by first|(rw[TC hc0];done)|(rw[TC hc0];exact rfl),5,6,⟨ae,ae,ae⟩,by rw[PJ hc0];refine⟨?_, ?_, ?_⟩<;>first|exact rfl|(rw[nI];exact rfl)|(rw[nH];exact rfl)⟩;rfl
def Q7:aj:=bd 83
def w355 (hm:(Y.at 0).bU):JZ (ct Y Q7):=λx s=>by
 exact lL
def Q8:aj:=bd 82
def w354 (hA:C355 Y):JY (ct Y Q8):=λl s=>by
 refine zg ?_;intro u0;refine zf hm (λi=>[.m 2 l bz.D,.e (.fn 355 [.ref 2 [bz.D s] 0 0]),.u 1,.i i,.i l.length,.u 1,.m 2 l bz.D,.u 3]) (λi=>[]) 4 (λi=>i<=l.length/\mK l s.name=gp (Gu s.name) (l.drop i) i) (λi=>l.length-i) ⟨ae,rfl⟩ [] ?_;rintro i ⟨hi,hr⟩;refine zc ?_ ?_<;>intro hc0
 .refine qH ?_;refine cE _ ?_;refine fA ?_;refine Cm (hc:=λ_=>hA l[i]! s) ?_;refine zc ?_ ?_<;>intro hc1
  .refine zr ?_;rw[hr,kX ae hc1]
  refine fX (i+1) [] ?_;rw[hr,jC ae hc1]
 refine zr ?_;rw[hr,mB ae]
def abj:aj:=bd 43
def w142 (hA:C353 Y)(hB:C354 Y):ug (ct Y abj):=λl hp0=>by
 refine zg ?_;intro u0;refine dF ?_ ?_<;>intro hc0
 .refine zr ?_;unfold ea;rw[bA ae,Bool.false_and]
 refine zg ?_;intro u1;refine zf hm (λi=>[.m 2 l bz.D,.u 2,.i i,.i l.length,.u 1,.m 2 l bz.D,.u 3]) (λi=>[]) 7 (λi=>i<=l.length/\ea l=bK (zW l) i l.length) (λi=>l.length-i) ⟨ae,by unfold ea;rw[aY ae,eh]⟩ [] ?_;rintro i ⟨hi,hr⟩;refine zc ?_ ?_<;>intro hc1
 .refine se ?_;refine bG 11 ?_ (he:=ab7) (hm:=ab7);refine c7 ?_;refine aE (hc:=hA (l[i]!) (by first|assumption|omega|exact hp0 _ (aq ae)|exact hp0.1|exact hp0.2)) ?_;refine dR ?_;refine Tq [.ref 2 [bz.D l[i]!] 0 0] ?_;refine zc ?_ ?_<;>intro hc2
  .refine zr ?_;rw[hr,ax ae,abk hc2];rfl
  refine fX (i+1) [] ?_;rw[hr,ax ae,Wg ae hc2];rfl
 refine zr ?_;rw[hr,bp ae]
def NH:aj:=bd 72
def w359:ux (ct Y NH):=λl nm=>by
 refine zg ?_;refine zf hm (λi=>[.m 2 l bz.D,.e (.str nm),.u 1,.i i,.u 2]) (λi=>[]) 2 (λi=>i<=l.length/\mK l nm=gp (Gu nm) (l.drop i) i) (λi=>l.length-i) ⟨ae,rfl⟩ [] ?_;rintro i ⟨hi,hr⟩;refine zg ?_;intro u0;refine dF ?_ ?_<;>intro hc0
 .refine zc ?_ ?_<;>intro hc1
  .refine zr ?_;rw[hr,kX ae (by simpa[Gu]using hc1)]
  refine fX (i+1) [] ?_;rw[hr,jC ae (by simpa[Gu]using hc1)]
 refine zr ?_;rw[hr,mB ae]
def VP:aj:=bd 38
def w145 (hA:O0 Y)(hB:C359 Y):ug (ct Y VP):=λl hp0=>by
 refine zg ?_;intro u0;refine dF ?_ ?_<;>intro hc0
 .refine zr ?_;unfold ea;rw[bA ae,Bool.false_and]
 refine zg ?_;refine zf hm (λi=>[.m 2 l bz.D,.u 2,.i i,.u 2]) (λi=>[]) 5 (λi=>i<=l.length/\ea l=bK (zW l) i l.length) (λi=>l.length-i) ⟨ae,by unfold ea;rw[aY ae,eh]⟩ [] ?_;rintro i ⟨hi,hr⟩;refine zg ?_;intro u1;refine dF ?_ ?_<;>intro hc1
 .refine pW ?_;refine aE (hc:=hA ((l)[i]!) (by first|assumption|omega|exact hp0 _ (aq ae)|exact hp0.1|exact hp0.2)) ?_;refine zc ?_ ?_<;>intro hc2
  .refine zr ?_;rw[hr,ax ae,afN hc2];rfl
  refine fX (i+1) [] ?_;rw[hr,ax ae,Oo hc2];rfl
 refine zr ?_;rw[hr,bp ae]
def Q6:aj:=bd 88
def w274 (hm:(Y.at 0).bU)(hA:C353 Y)(hB:C511 Y):ur (ct Y Q6):=λs nm v hp0=>by
 refine zc ?_ ?_<;>intro hc0
 .refine zr ?_;unfold iA;rw[ak hc0]
 refine kv ?_;refine aE (hc:=hB (s.es) (nm) (v) (by first|assumption|omega|exact hp0.1|exact⟨λx hx=>(hp0.1 x hx).1.2,hp0.2⟩)) ?_;refine zr ?_;unfold iA;rw[ah (by rw[hc0];simp)]
def Qw:aj:=bd 108
def w695 (hm:(Y.at 0).bU)(hA:O0 Y)(hB:WN Y):ur (ct Y Qw):=λs nm v hp0=>by
 refine zc ?_ ?_<;>intro hc0
 .refine zr ?_;unfold iA;rw[ak hc0]
 refine kv ?_;refine aE (hc:=hB (s.es) (nm) (v) (by first|assumption|omega|exact hp0.1|exact⟨λx hx=>(hp0.1 x hx).1.2,hp0.2⟩)) ?_;refine zr ?_;unfold iA;rw[ah (by rw[hc0];simp)]
def pT:aj:=bd 123
def w755 (hm:(Y.at 3).bU)(y:cu)(ns:Ψ)(nm:aw)(hA:C909 (Y.at 3))(hp0:p0 y)(hp1:ns.length<=1000):dD (Y.at 3) pT.body (uV pT (LH y (fe ns nm) (u7 (dc y nm))):Ex->Φ->St->Prop) (fV pT [cu.D y (.ptr 0 2 0 0),.str nm]) ⟨3,[(0,.buf 2 [eS 1 2 ns.length]),(1,.buf 1 (ns.map D.str)),(2,.buf 1 (dn y ns))]⟩:=by
 show dD _ _ _ [⟨true,cu.D y (.ptr 0 2 0 0)⟩,⟨true,.str nm⟩,.un,.un,.un,.un,.un,.un] ⟨3,[(0,.buf 2 [eS 1 2 ns.length]),(1,.buf 1 (ns.map D.str)),(2,.buf 1 (dn y ns))]⟩;refine aS ?_;refine zg ?_;refine zf hm (λi=>[.u 1,.e (.str nm),.u 1,.i i,.p 3 8,.u 3]) (λi=>[(0,.buf 2 [eS 1 2 ns.length]),(1,.buf 1 (ns.map D.str)),(2,.buf 1 (dn y ns)),(3,.buf 8 [cu.D y (.ptr 0 2 0 0)])]) 6 (λi=>i<=ns.length/\∀j,j<i->ns[j]! ≠nm) (λi=>ns.length-i) ⟨ae,λj h=>ae⟩ [(3,3)] ?_;rintro i ⟨hi,hr⟩;refine zg ?_;intro _;refine dF ?_ ?_<;>intro hc0
 .refine se ?_;refine ym (q:=D.str) (xs:=ns) (v:=.str ns[i]!) (hi:=λ_=>ae) (hv:=λ_=>uT) ?_;refine zc ?_ ?_<;>intro hc1
  .refine qH ?_;refine ym (q:=λnm=>u7 (dc y nm)) (xs:=ns) (v:=u7 (dc y ns[i]!)) (hi:=λ_=>ae) (hv:=λ_=>uT) ?_;refine c9 ?_;refine bg (env':=[_,_,⟨_,(.sl _ _)⟩,_,_,_,_,_]) ?_;refine zg ?_;refine eB trivial jJ (dp ai (?_)) ai ⟨by first|(rw[<-hc1];done)|(rw[<-hc1];exact rfl),1,2,⟨ae,ae,ae⟩,by rw[ade ae hc1];refine⟨?_, ?_, ?_⟩<;>first|exact rfl|(rw[nI];exact rfl)|(rw[nH];exact rfl)⟩;rfl
  refine fX (i+1) [(3,3)] ?_;exact λj h=>by rcases Nat.lt_succ_iff_lt_or_eq.1 h with h|rfl;exact hr j h;exact hc1
 refine dR ?_;have hout:=Xh (ns:=ns) (nm:=nm) λj h=>hr j ae
 refine c7 ?_;refine dT (nx':=16) (v:=u7 (dc y nm)) (m':=[(16,.buf 1 ((ns).map D.str)),(17,.buf 1 (dn y (ns))),(0,.buf 2 [eS 16 17 (ns).length]),(3,.buf 8 [cu.D y (.ptr 0 2 0 0)])]) (hc:=λK' hK=>hA y ns nm hp0 _ 0 1 2 _ K' eL eL eL aX ⟨rfl,rfl,rfl⟩ hK) (hn:=aX) ?_;refine c9 ?_;refine bg (env':=[_,_,_,_,_,_,_,⟨_,(.sl _ _)⟩]) ?_;refine c7 ?_;refine aaz (v:=.ptr 0 2 0 0) ?_;refine c9 ?_;refine aaz (v:=.ptr 0 2 0 0) ?_;refine kv ?_;refine bm [.str nm] ?_;refine cQ (q:=D.str) (xs:=ns) (e:=nm) (hb:=ae) ?_;refine c9 ?_;refine zM (v:=.ptr 0 2 0 0) ?_;refine c7 ?_;refine zM (v:=.own 17 1 0 ns.length) ?_;refine c9 ?_;refine bm [u7 (dc y nm)] ?_;refine cQ (q:=λnm=>u7 (dc y nm)) (xs:=ns) (e:=nm) (hb:=ae) ?_;refine c7 ?_;refine ag6 (.agg [.own 31 1 0 (ns++[nm]).length,.own 17 1 0 ns.length]) ?_;refine c7 ?_;refine ag6 (eS 31 39 (ns++[nm]).length) ?_;refine zg ?_;refine eB trivial jJ (dp ai (?_)) ai ⟨dh,31,39,⟨ae,ae,ae⟩,by rw[hout];refine⟨?_, ?_, ?_⟩<;>first|exact rfl|(rw[nI];exact rfl)|(rw[nH];exact rfl)⟩;rfl
def MP:aj:=bd 44
def w138 (hA:Ul Y):uf (ct Y MP):=λe=>by
 refine zg ?_;refine zf hm (λi=>[.u 2,.p 0 3,.i i,.u 1,.e (Env.D e),.u 2]) (λi=>[(0,.buf 3 [Env.D e])]) 5 (λi=>i<=3/\mw e=bK (λi=>decide (e.at i=[]) ||gP (e.at i)) i 3) (λi=>3-i) ⟨ae,rfl⟩ [(0,0)] ?_;rintro i ⟨hi,hr⟩;refine zc ?_ ?_<;>intro hc0
 .refine dR ?_;refine r_ixA i (.str (e.at i)) (hv:=λ_=>Env.cut e ae) ?_;refine zg ?_;refine wp_cond (λhc1=>?_) (λhc1=>?_)
  .simp only[aD,b8,bR]at hc1;refine zr ?_;rw[hr,ax ae];rw[bA hc1.1,hc1.2];rfl
  simp only[eJ,cF,aT]at hc1;refine fX (i+1) [(0,0)] ?_;rw[hr,ax ae];rw[show(decide (e.at i=[]) ||gP (e.at i))=true by rw[dk,aT];exact hc1];rfl
 refine zr ?_;rw[hr,bp ae]
def FL:aj:=bd 85
def w553 (hA:Uj Y)(hB:Bn Y)(hC:Ul Y):Kw (ct Y FL):=λx hp0=>by
 refine zg ?_;intro u0;refine zf hm (λi=>[.u 2,.p 0 9,.i i,.i x.feats.length,.u 1,.m 1 x.feats D.str,.u 4]) (λi=>[(0,.buf 9 [dI.D x])]) 7 (λi=>i<=x.feats.length/\bK (Au x.feats) 0 x.feats.length=bK (Au x.feats) i x.feats.length) (λi=>x.feats.length-i) ⟨ae,rfl⟩ [(0,0)] ?_;rintro i ⟨hi,hr⟩;refine zc ?_ ?_<;>intro hc0
 .refine iz ?_;refine qH ?_;refine cD (i-1) ?_;refine zc ?_ ?_<;>intro hc1
  .refine zr ?_;have hz:Au x.feats i=false:=by
    simp only[Au];revert hc1;generalize gP x.feats[i]! =z0;generalize Op.bytesLess x.feats[i-1]! x.feats[i]! =z1;by_cases e0:0<i<;>cases z0<;>cases z1<;>simp_all
   simp only[Ih];rw[hr,ax ae,hz];simp
  refine zg ?_;have hz:Au x.feats i=true:=by
   simp only[Au];revert hc1;generalize gP x.feats[i]! =z0;generalize Op.bytesLess x.feats[i-1]! x.feats[i]! =z1;by_cases e0:0<i<;>cases z0<;>cases z1<;>simp_all
  refine fX (i+1) [(0,0)] ?_;rw[hr,ax ae,hz];rfl
 refine iz ?_;refine iz ?_;refine j7 ?_;refine ca (hc:=λhf=>hB x.v hp0.1) ?_;refine zr ?_;simp only[Ih];rw[hr,bp ae];have h9:decide ((x.feats.length:Int)<=9)=decide (x.feats.length<=9):=lv.2 ae;rw[h9];have hc:x.shelf=[]->di x.shelf=false:=by intro e;rw[e];rfl
 revert hc;generalize di x.name=a;generalize gN x.v=b;generalize di x.shelf=c;generalize decide (x.feats.length<=9)=d;by_cases e:x.shelf=[]<;>by_cases e2:x.sum=0<;>cases a<;>cases b<;>cases c<;>cases d<;>simp_all
def VN:aj:=bd 113
def w501 (hm:(Y.at 0).bU)(hA:Cw Y)(hB:Um Y):uM (ct Y VN):=λa b hp0=>by
 exact lL
def ND:aj:=bd 69
def w580 (hA:C501 Y):uC (ct Y ND):=λl nm v hp0=>by
 refine zg ?_;refine zf hm (λi=>[.m 11 l ju.D,.e (.str nm),.u 2,.i i,.u 1,.p 0 5,.u 1]) (λi=>[(0,.buf 5 [b6.D v])]) 3 (λi=>i<=l.length/\qt l nm v 0=qt l nm v i) (λi=>l.length-i) ⟨ae,rfl⟩ [(0,0)] ?_;rintro i ⟨hi,hr⟩;refine zg ?_;intro u0;refine dF ?_ ?_<;>intro hc0
 .refine zc ?_ ?_<;>intro hc1
  .refine zr ?_;rw[hr,Z2 ae (aeB hc1)]
  refine fX (i+1) [(0,0)] ?_;rw[hr,Z3 ae (akx hc1)]
 refine zr ?_;rw[hr,Tk ae]
def VM:aj:=bd 35
def w358 (hA:C75 Y)(hB:Hy Y)(hC:WN Y):uw (ct Y VM):=λs hp0=>by
 refine zg ?_;refine aQ (λhc0=>?_) (λhc0=>?_)
 .simp only[dk,b8,aT]at hc0;have hf:gA s=false:=by
   unfold gA;rcases hc0 with h|h
   .rw[h];rfl
   .rw[show decide (s.es.length<=64)=false from bA ae];simp
  refine zr ?_;exact hf.symm
 simp only[eg,cF,bR]at hc0;have hq:gA s=bK (sy s.es) 0 s.es.length:=by unfold gA;rw[hc0.1,aY (show s.es.length<=64 by omega)];simp
 refine zg ?_;refine zf hm (λi=>[.u 2,.p 0 2,.u 1,.i i,.u 5]) (λi=>[(0,.buf 2 [bz.D s])]) 13 (λi=>i<=s.es.length/\gA s=bK (sy s.es) i s.es.length) (λi=>s.es.length-i) ⟨ae,hq⟩ [(0,0)] ?_;rintro i ⟨hi,hr⟩;refine zg ?_;intro u0;refine dF ?_ ?_<;>intro hc1
 .refine dR ?_;have hsm:=hp0 _ (aq (show i<s.es.length by omega));refine iz ?_;refine iz ?_;refine qH ?_;refine ca (hc:=λhf=>hC s.es s.es[i]!.r.name s.es[i]!.r.v ⟨λx hx=>(hp0 x hx).1.2,hsm.1.2⟩) ?_;refine zg ?_;refine wp_cond (λhc2=>?_) (λhc2=>?_)
  .have hen:sy s.es i=false:=by
    simp only[dk,b8,aT,bR]at hc2;exact ad6 ae hc2
   refine zr ?_;rw[hr,ax ae,hen];rfl
  have hen:sy s.es i=true:=by
   simp only[eg,cF,aT,bR]at hc2;exact XW ae hc2.1.1 hc2.1.2 hc2.2
  refine fX (i+1) [(0,0)] ?_;rw[hr,ax ae,hen];rfl
 refine zr ?_;rw[hr,bp ae]
def Qz:aj:=bd 37
def w1083 (hA:C145 Y)(hB:C359 Y)(hC:agj Y)(hD:agk Y):Fi (ct Y Qz):=λshop ps nm hp0=>by
 refine zc ?_ ?_<;>intro hc0
 .refine zr ?_;rw[aka hc0];rfl
 refine zc ?_ ?_<;>intro hc1
 .refine zr ?_;rw[akb hc0 hc1];rfl
 refine zg ?_;refine zf hm (λi=>[.m 2 shop bz.D,.m 2 ps gY.D,.e (.str nm),.u 4,.i i,.u 7]) (λi=>[]) 9 (λi=>i<=ps.length/\FR ps nm=gp (λp=>decide (p.name=nm)) (ps.drop i) i) (λi=>ps.length-i) ⟨ae,rfl⟩ [] ?_;rintro i ⟨hi,hr⟩;refine zg ?_;intro u0;refine dF ?_ ?_<;>intro hc2
 .refine zc ?_ ?_<;>intro hc3
  .refine fX (i+1) [] ?_;rw[hr,jC ae yX]
  refine c7 ?_;have hpi:FR ps nm=(i:Nat):=by rw[hr,kX ae yX]
  refine zc ?_ ?_<;>intro hc4
  .refine zr ?_;rw[akc hc0 hc1 hpi hc4];rfl
  refine zr ?_;rw[akd hc0 hc1 hpi hc4];rfl
 refine fA ?_;have hpn:FR ps nm=-1:=by rw[hr,mB ae]
 refine zg ?_;refine zf hm (λj=>[.m 2 shop bz.D,.u 1,.e (.str nm),.u 9,.i j,.u 2]) (λj=>[]) 14 (λj=>j<=shop.length/\gp (Dc nm) shop 0=gp (Dc nm) (shop.drop j) j) (λj=>shop.length-j) ⟨ae,rfl⟩ [] ?_;rintro j ⟨hj,hr2⟩;refine zg ?_;intro u1;refine dF ?_ ?_<;>intro hc5
 .refine zc ?_ ?_<;>intro hc6
  .refine zr ?_;rw[ake hc0 hc1 hpn (hr2.trans (kX ae hc6))];rfl
  refine fX (j+1) [] ?_;rw[hr2,jC ae hc6]
 refine zr ?_;rw[akf hc0 hc1 hpn (hr2.trans (mB ae))];rfl
def NX:aj:=bd 29
def w267 (hA:C46 Y)(hB:C505 Y):JP (ct Y NX):=λw od hp0=>by
 refine c9 ?_;obtain⟨⟨hw,hwb⟩,hop⟩:=hp0;have hs16:∀x∈w.us,x.ar.length<=16:=λx hx=>(hw.1.1 x hx).1
 have hmp:=maskP hwb hs16 hw.2;have hwl:=hw.1.2;refine zg ?_;refine zf hm (λi=>[.u 3,.i i,.p 1 1,.u 1,.o 0 1 (oH i).length,.p 2 2]) (λi=>[(0,.buf 1 ((oH i).map (D.int .i64))),(1,.buf 1 [bP.D w]),(2,.buf 2 [Ask.D (⟨[],od⟩:Ask)])]) 5 (λi=>i<=w.us.length) (λi=>w.us.length-i) ae [(0,1),(1,2)] ?_;intro i hi;have hnl:=Vt i;refine zg ?_;intro u0;refine dF ?_ ?_<;>intro hc0
 .refine fA ?_;refine bm [.int .i64 (-1)] ?_;refine cQ (q:=D.int .i64) (xs:=oH i) (e:=-1) (hb:=ae) ?_;refine zg ?_;rw[Vs];exact iw (i+1) [(12,0),(1,1),(2,2)]
 refine c7 ?_;obtain rfl:i=w.us.length:=ae;refine bG 0 ?_;refine c9 ?_;refine mH (d:=bP.D w) ?_;refine c9 ?_;refine mH (d:=Ask.D (⟨[],od⟩:Ask)) ?_;refine c9 ?_;refine aE (hc:=hB (dG w.us) od (oH w.us.length) ⟨⟨hmp,qp _⟩,hop⟩) ?_;refine zg ?_;obtain⟨os,h1,h2⟩:∃os,mM (dG w.us) od (oH w.us.length)=os/\jA w.us od=os:=⟨_,rfl,rfl⟩
 rw[h1,h2];cases os<;>exact Q4 trivial DZ jJ rfl
def PZ:aj:=bd 28
def w114:Jx (ct Y PZ):=λw hp0=>by
 refine zg ?_;refine zf hm (λi=>[.u 2,.i i,.p 0 1,.i (wB w.us i:Nat),.u 2]) (λi=>[(0,.buf 1 [bP.D w])]) 4 (λi=>(i<=w.us.length/\wB w.us i<=20000000)/\wC w.us=Nj w.us (w.us.length-i) i (wB w.us i)) (λi=>w.us.length-i) ⟨⟨ae,show 1<=20000000 by decide⟩,rfl⟩ [(0,0)] ?_;rintro i ⟨⟨hi,hsz⟩,hr⟩;refine zg ?_;intro u0;refine dF ?_ ?_<;>intro hc0
 .refine dR ?_;have hu16:=(hp0 _ (aq (show i<w.us.length by omega))).1;have hs2:=aff (us:=w.us) (i:=i) hu16 ae;refine zc ?_ ?_<;>intro hc1
  .refine c9 ?_;have hcast:=alG (us:=w.us) (i:=i) hc1;refine yZ ?_;intro u1;refine yn (hb:=by rw[hcast];omega) ?_;refine zg ?_;rw[hcast];refine zl (i+1) [(0,0)] ?_;exact⟨⟨ae,hs2⟩,by rw[hr,Tl ae ae];rfl⟩
  refine zg ?_;rw[alF hc1];refine zl (i+1) [(0,0)] ?_;exact⟨⟨ae,hs2⟩,by rw[hr,Tl ae ae];rfl⟩
 refine zr ?_;rw[hr,Z6 ae]
def I1:aj:=bd 219
def w1012 (hm:(Y.at 0).bU)(hA:WI Y)(hB:C356 Y):Fc (ct Y I1):=λl nm hp0=>by
 refine c9 ?_;refine bL ?_;refine bg (env':=[_,_,⟨_,(.int _ _)⟩,_,_]) ?_;refine gu ?_;refine aS ?_;refine bL ?_;refine aE (hc:=hA (l) (by first|assumption|omega)) ?_;refine bL ?_;refine lh (.int _ _) ?_;refine lh (.int _ _) ?_;refine bL ?_;refine bL ?_;refine bg (env':=[_,_,_,⟨_,(.int _ _)⟩,_]) ?_;refine gu ?_;refine aS ?_;refine bL ?_;refine oK ?_;refine bg (env':=[_,_,_,_,⟨_,(.bool _)⟩]) ?_;refine dF ?_ ?_<;>intro hc0
 .exact absurd trivial hc0
 refine kv ?_;refine bg (env':=[_,_,⟨_,(.int _ _)⟩,_,_]) ?_;exact lL
def QX:aj:=⟨2,5,[⟨2,none⟩],H0,(sq (rg [gb 4 s0,gb 4 s1,gm HO] [(3,0),(4,1),(2,2)]) (sq (r1 [gf 0 s3,gk 3 true l0,gf 0 s4,gk 3 true l2,gn (.eqA false true [.s,.s,.s] l1 l3),gm l4,OV 5 3 s3,Yr 5 l6,OV 5 3 s4,Yr 5 l8,AB 5 (.call 310 [l7,l9] [[.sl 9 [.a,.a,.a,.a,.a,.a,.a,.a,.sl 1 [.a]]],[.sl 9 [.a,.a,.a,.a,.a,.a,.a,.a,.sl 1 [.a]]]]),Yq l5 l10,gm Wy] 2 12) .ret))⟩
def w117 (hm:(Y.at 0).bU)(hA:C310 Y):Jy (ct Y QX):=λa b=>by
 refine zr ?_;obtain⟨a1,a2⟩:=a;obtain⟨b1,b2⟩:=b;simp only[j8.mk.injEq,Bool.decide_and]
def QI:aj:=bd 164
def w902 (hm:(Y.at 0).bU):K6 (ct Y QI):=λa b=>by
 refine zr ?_;unfold fj;simp
def BO:aj:=bd 36
def w263 (hm:(Y.at 0).bU)(hA:C78 Y):JM (ct Y BO):=λa b=>by
 exact lL
end Go.Abs
end
