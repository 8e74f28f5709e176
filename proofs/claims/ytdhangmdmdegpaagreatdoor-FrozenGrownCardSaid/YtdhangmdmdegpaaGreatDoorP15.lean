/- A part of the proofs. -/
import Derived.Test.YtdhangmdmdegpaaGreatDoorP09
set_option linter.all false
set_option maxRecDepth 60000
set_option maxHeartbeats 2000000
noncomputable section
namespace Go.Abs
variable {Y:Ctx}(hm:(Y.at 0).bU)
def aaS:aj:=bd 109
def w453 (hm:(Y.at 0).bU):Kb (ct Y aaS):=λc=>by
 exact lL
def QR:aj:=bd 110
def w454 (hm:(Y.at 0).bU):Kd (ct Y QR):=λc=>by
 exact lL
def V0:aj:=bd 74
def w357 (hA:C453 Y)(hB:C454 Y):uv (ct Y V0):=λs=>by
 refine zg ?_;intro u0;refine dF ?_ ?_<;>intro hc0
 .refine zr ?_;symm;simp only[gP,eJ,bR];exact Or.inl ae
 refine zg ?_;refine zf hm (λi=>[.e (.str s),.u 2,.i i,.u 2]) (λi=>[]) 10 (λi=>i<=s.length/\gP s=bK (λi=>Hm (at8 s i)) i s.length) (λi=>s.length-i) ⟨ae,by simp only[gP];rw[aY ae,aY ae];rfl⟩ [] ?_;rintro i ⟨hi,hr⟩;refine zg ?_;intro u1;refine dF ?_ ?_<;>intro hc1
 .refine zc ?_ ?_<;>intro hc2
  .refine zr ?_;rw[hr,ax ae];simp[Hm,hc2]
  refine fX (i+1) [] ?_;rw[hr,ax ae];simp[Hm,hc2]
 refine zr ?_;rw[hr,bp ae]
def VZ:aj:=bd 67
def w216 (hA:C453 Y)(hB:C454 Y):ui (ct Y VZ):=λs=>by
 refine Fa ?_;intro u0;refine AS 0 ?_;refine qH ?_;refine AS (s.length-1) ?_;refine zc ?_ ?_<;>intro hc0
 .refine zr ?_;symm;simp only[di];rcases hc0 with(h|h)|h
  .rcases h with h|h<;>simp<;>omega
  .simp[h]
  .simp[h]
 refine zg ?_;refine zfx hm (1:Nat) (λi=>[.e (.str s),.u 2,.i i,.u 2]) (λi=>[]) 24 (λi=>i<=s.length/\1<=i/\di s=bK (nch s) i s.length) (λi=>s.length-i) ⟨ae,ae,by simp only[di];rw[aY ae,aY ae,hc0.1.2,bA hc0.2];rfl⟩ [] ?_;rintro i ⟨hi,hi1,hr⟩;refine zg ?_;intro u1;refine dF ?_ ?_<;>intro hc1
 .refine iz ?_;refine iz ?_;refine c7 ?_;refine AS (i-1) ?_;refine zc ?_ ?_<;>intro hc2
  .refine zr ?_;rw[hr,ax ae];simp only[nch];revert hc2;generalize jZ (at8 s i)=x;generalize bM (at8 s i)=y;by_cases h1:at8 s i=45<;>by_cases h2:at8 s (i-1)=45<;>cases x<;>cases y<;>simp_all
  refine zl (i+1) [] ?_;exact⟨ae,ae,by rw[hr,ax ae];simp only[nch];revert hc2;generalize jZ (at8 s i)=x;generalize bM (at8 s i)=y;by_cases h1:at8 s i=45<;>by_cases h2:at8 s (i-1)=45<;>cases x<;>cases y<;>simp_all⟩
 refine zr ?_;rw[hr,bp ae]
def NV:aj:=bd 188
def w667 (hA:C454 Y):uK (ct Y NV):=λs=>by
 refine zk20 ?_;intro u0;refine AS 0 ?_;refine zc ?_ ?_<;>intro hc0
 .refine zg ?_;refine fQ (bZ (ay (D.int .i64) ?_) (ay D.bool ?_));all_goals
   have:oI s=false:=by
    simp only[oI];rcases hc0 with(h|h)|h
    .rw[bA (by omega:¬1<=s.length)];rfl
    .rw[bA (by omega:¬s.length<=9)];simp
    .rw[aY (by omega:1<s.length),aY h.2];simp
   simp[DN,this]
 refine zg ?_;have hP:oI s=(bK (λi=>bM (at8 s i)) 0 s.length&&decide (fk s<=9999)):=by
  simp only[oI];rw[aY (by omega:1<=s.length),aY (by omega:s.length<=9)];rcases hc0.2 with h|h
  .rw[bA (by omega:¬1<s.length)];rfl
  .rw[bA h,Bool.and_false];rfl
 refine zf hm (λi=>[.e (.str s),.u 3,.i i,.u 2,.i (fk (s.take i):Nat),.u 1]) (λi=>[]) 22 (λi=>i<=s.length/\s.length<=9/\oI s=(bK (λi=>bM (at8 s i)) i s.length&&decide (fk s<=9999))) (λi=>s.length-i) ⟨ae,ae,hP⟩ [] ?_;rintro i ⟨hi,h9,hr⟩;refine zg ?_;intro u1;refine dF ?_ ?_<;>intro hc1
 .refine zg ?_;refine aQ (λhc2=>?_) (λhc2=>?_)
  .try simp only[gR]at hc2
   refine zg ?_;refine fQ (bZ (ay (D.int .i64) ?_) (ay D.bool ?_));all_goals
    have:oI s=false:=by rw[hr,ax ae,hc2];rfl
    simp[DN,this]
  simp only[cF]at hc2;refine c7 ?_;have h48:=hc2;simp only[bM,aD,aT]at h48;have hn:=x7 s i ae;have hn2:=AN s i ae;have h256:=HE s i;refine c9 ?_;refine yn ?_;refine dR ?_;refine IN (at8 s i-48) (hb:=λ_=>IntWalk.u8_in _ ae) ?_;refine rU (at8 s i-48) (hb:=λ_=>IntWalk.i64_in _ ae) ?_;refine dR ?_;rw[show(fk (s.take i):Int)*10+(at8 s i-48)=(fk (s.take (i+1)):Nat)by omega];refine zl (i+1) [] ?_;exact⟨ae,h9,by rw[hr,ax ae,hc2];rfl⟩
 refine fA ?_;have ht:s.take i=s:=gG ae;rw[ht];refine bL ?_;refine pP ?_;refine bg (env':=[_,_,_,_,_,_,_,_,⟨_,(.bool _)⟩]) ?_;refine dF ?_ ?_<;>intro hc3
 .refine kv ?_;refine fQ (bZ (ay (D.int .i64) ?_) (ay D.bool ?_));all_goals
   have:oI s=false:=by rw[hr,bA ae,Bool.and_false]
   simp[DN,this]
 refine pW ?_;refine fQ (bZ (ay (D.int .i64) ?_) (ay D.bool ?_));all_goals
  have:oI s=true:=by rw[hr,bp ae,aY ae];rfl
  simp[DN,this]
def I9:aj:=bd 189
def w668:uL (ct Y I9):=λt=>by
 refine zg ?_;refine zf hm (λi=>[.e (.str t),.u 1,.i i,.u 2]) (λi=>[]) 2 (λi=>i<=t.length/\bK (λi=>bM (at8 t i)) 0 t.length=bK (λi=>bM (at8 t i)) i t.length) (λi=>t.length-i) ⟨ae,rfl⟩ [] ?_;rintro i ⟨hi,hr⟩;refine zg ?_;intro u0;refine dF ?_ ?_<;>intro hc0
 .refine zc ?_ ?_<;>intro hc1
  .refine zr ?_;simp only[cT];rw[hr,ax ae];rcases hc1 with h|h<;>simp[bM]<;>omega
  refine fX (i+1) [] ?_;rw[hr,ax ae];rw[show bM (at8 t i)=true by simp only[bM,aD,aT];omega];rfl
 refine zg ?_;intro u1;refine zr ?_;simp only[cT];rw[hr,bp ae];simp
def aaW:aj:=bd 187
def w666:KF (ct Y aaW):=λt=>by
 refine zg ?_;intro u0;refine dF ?_ ?_<;>intro hc0
 .refine zr ?_;symm;simp only[wR,eJ,bR];exact Or.inl ae
 refine zg ?_;refine zf hm (λi=>[.e (.str t),.u 2,.i i,.u 3]) (λi=>[]) 10 (λi=>i<=t.length/\wR t=bK (λi=>nB (at8 t i)) i t.length) (λi=>t.length-i) ⟨ae,by simp only[wR];rw[aY ae,aY ae];rfl⟩ [] ?_;rintro i ⟨hi,hr⟩;refine zg ?_;intro u1;refine dF ?_ ?_<;>intro hc1
 .refine gv ?_;refine mP ?_ hm;refine aS ?_;refine bL ?_;refine bL ?_;first|refine AS _ ?_|refine aax ?_
  refine bL ?_;refine bg (env':=[_,_,_,_,_,⟨_,(.int _ _)⟩,_]) ?_;refine aS ?_;refine bL ?_;refine zN ?_;refine bL ?_;refine bL ?_;refine pP ?_;refine Nq ?_;refine bL ?_;refine bL ?_;refine zN ?_;refine bL ?_;refine bL ?_;refine pP ?_;refine Nq ?_;refine vz ?_;refine bL ?_;refine bL ?_;refine oK ?_;refine vz ?_;refine bg (env':=[_,_,_,_,_,_,⟨_,(.bool _)⟩]) ?_;refine B5 ?_ ?_<;>intro hc2
  .refine zg ?_;refine zr ?_;rw[hr,ax ae];have:nB (at8 t i)=false:=(by simp only[nB,jZ,bM,eg,eJ,bR];omega);rw[this];rfl
  refine zg ?_;refine fX (i+1) [] ?_;rw[hr,ax ae];have:nB (at8 t i)=true:=(by simp only[nB,jZ,bM,dk,aD,aT];omega);rw[this];rfl
 refine zr ?_;rw[hr,bp ae]
def V5:aj:=bd 141
def w456 (hA:C470 Y)(hB:C666 Y)(hC:C667 Y)(hD:C668 Y):Ke (ct Y V5):=λs p hp0=>by
 refine zc ?_ ?_<;>intro hc0
 .refine zr ?_;simp[EN,hc0]
 refine zg ?_;intro u0;refine aQ (λhc1=>?_) (λhc1=>?_)
 .try simp only[gR]at hc1
  refine zr ?_;simp only[EN,tk];rw[bA hc0,bA ae];rfl
 simp only[bR]at hc1;refine zg ?_;refine zf hm (λi=>[.e (.str s),.e (.bool p),.u 2,.m 1 (bh s 46) D.str,.u 1,.i i,.u 4]) (λi=>[]) 10 (λi=>i<=(bh s 46).length/\EN s p=bK (λi=>jr p (bh s 46)[i]!) i (bh s 46).length) (λi=>(bh s 46).length-i) ⟨ae,by simp only[EN,tk];rw[bA hc0,aY ae];rfl⟩ [] ?_;rintro i ⟨hi,hr⟩;refine zg ?_;intro u1;refine dF ?_ ?_<;>intro hc2
 .refine zg ?_;refine aQ (λhc3=>?_) (λhc3=>?_)
  .simp only[b8]at hc3;refine zr ?_;rw[hr,ax ae];simp only[jr,hc3];rfl
  simp only[cF]at hc3;refine zg ?_;refine wp_cond (λhc4=>?_) (λhc4=>?_)
  .skip
   refine zr ?_;have h5:jr p (bh s 46)[i]! =false:=acj;rw[hr,ax ae,h5];rfl
  skip
  refine fX (i+1) [] ?_;rw[hr,ax ae];have h5:jr p (bh s 46)[i]! =true:=acj;rw[h5];rfl
 refine zr ?_;rw[hr,bp ae]
def aaU:aj:=bd 140
def w455 (hm:(Y.at 0).bU):uz (ct Y aaU):=λn=>by
 exact lL
def aaT:aj:=bd 97
def w217 (hm:(Y.at 0).bU)(hA:C455 Y)(hB:C456 Y):uj (ct Y aaT):=λv hp0=>by
 refine Fa ?_;refine kv ?_;refine ca (hc:=λhf=>hB v.pre true hp0.1) ?_;refine fA ?_;refine ca (hc:=λhf=>hB v.build false hp0.2) ?_;exact lL
def I3:aj:=bd 61
def w46 (hA:C158 Y)(hB:C183 Y):Rv (ct Y I3):=λw hp0=>by
 refine qH ?_;refine bG 0 ?_ (he:=nC) (hm:=nC);refine zg ?_;refine gE hm (ι:=Nat) (λi=>[.un,⟨true,.ptr 0 3 0 0⟩,⟨true,.int .i64 (i:Nat)⟩,⟨true,.ref 1 [bP.D w] 0 0⟩,.un,.un,.un,.un,.un,.un,.un,.un,.un,⟨true,.ptr 1 3 0 0⟩]) (λi=>[(0,.buf 3 [.agg [.aO,.aO,.aO]]),(1,.buf 3 [.agg [.own 2 1 0 (iW w.us i).length,.own 3 1 0 (eM w.us i).length,.own 4 1 0 (jK w.us i).length]]),(2,.buf 1 ((iW w.us i).map (D.int .i64))),(3,.buf 1 ((eM w.us i).map qA)),(4,.buf 1 ((jK w.us i).map pj))]) 9 (λi=>i<=w.us.length) (λi=>w.us.length-i) 0 ae (a8.to [(1,0),(2,1)] ai ai eQ (by repeat(first|exact bB.nil|refine bB.ni 2 ai ai (by exact⟨_,[],rfl,⟨_,rfl,_,_,rfl,Or.inr ⟨2,1,0,rfl⟩,_,_,rfl,Or.inr ⟨3,1,0,rfl⟩,_,_,rfl,Or.inr ⟨4,1,0,rfl⟩,rfl⟩,rfl⟩) ?_|refine bB.nl 1 ai ai ai eo ?_|refine bB.mt ai ai ai ai ?_))) ?_;intro i hi;have hfl:=Py w.us i;have hnl:=P7 w.us i;have hbl:=UB w.us i;refine zg ?_;intro u0;refine dF ?_ ?_<;>intro hc0
 .refine zg ?_;have hil:i<w.us.length:=ae;have hu:=hp0.1.1 _ (aq hil);have hu16:=hu.1;refine zf hm (λj=>[.u 1,.p 0 3,.i i,.e (.ref 1 [bP.D w] 0 0),.u 1,.i j,.u 5,.o 5 1 (eW w.us (w.us[i]!.ar.take j)).length,.o 6 1 (jL w.us (w.us[i]!.ar.take j)).length,.p 1 3]) (λj=>[(0,.buf 3 [.agg [.aO,.aO,.aO]]),(1,.buf 3 [.agg [.own 2 1 0 (iW w.us i).length,.own 3 1 0 (eM w.us i).length,.own 4 1 0 (jK w.us i).length]]),(2,.buf 1 ((iW w.us i).map (D.int .i64))),(3,.buf 1 ((eM w.us i).map qA)),(4,.buf 1 ((jK w.us i).map pj)),(5,.buf 1 ((eW w.us (w.us[i]!.ar.take j)).map pj)),(6,.buf 1 ((jL w.us (w.us[i]!.ar.take j)).map Jj))]) 9 (λj=>j<=w.us[i]!.ar.length) (λj=>w.us[i]!.ar.length-j) ae [(0,0),(1,1),(2,2),(3,3),(4,4)] ?_;intro j hj;have hnl1:=P9 w.us w.us[i]!.ar j;have hbl1:=UD w.us w.us[i]!.ar j;refine zg ?_;intro u1;refine dF ?_ ?_<;>intro hc1
  .refine dR ?_;have hcs:=hu.2 _ (aq (show j<w.us[i]!.ar.length by omega));have hfw:=hp0.2 _ (aq hil) _ (aq (show j<w.us[i]!.ar.length by omega));refine F1 ?_;refine bG 27 ?_ (he:=nC) (hm:=nC);refine zg ?_;refine zf hm (λk=>[.u 1,.p 0 3,.i i,.e (.ref 1 [bP.D w] 0 0),.u 1,.i j,.u 1,.i k,.e (.ref 8 [eI.D w.us[i]!.ar[j]!] 0 0),.u 1,.o 7 1 (lj w.us (w.us[i]!.ar[j]!.needs.take k)).length,.o 5 1 (eW w.us (w.us[i]!.ar.take j)).length,.o 6 1 (jL w.us (w.us[i]!.ar.take j)).length,.p 1 3]) (λk=>[(0,.buf 3 [.agg [.aO,.aO,.aO]]),(1,.buf 3 [.agg [.own 2 1 0 (iW w.us i).length,.own 3 1 0 (eM w.us i).length,.own 4 1 0 (jK w.us i).length]]),(2,.buf 1 ((iW w.us i).map (D.int .i64))),(3,.buf 1 ((eM w.us i).map qA)),(4,.buf 1 ((jK w.us i).map pj)),(5,.buf 1 ((eW w.us (w.us[i]!.ar.take j)).map pj)),(6,.buf 1 ((jL w.us (w.us[i]!.ar.take j)).map Jj)),(7,.buf 1 ((lj w.us (w.us[i]!.ar[j]!.needs.take k)).map Jj))]) 9 (λk=>k<=w.us[i]!.ar[j]!.needs.length) (λk=>w.us[i]!.ar[j]!.needs.length-k) ae [(0,0),(1,1),(2,2),(3,3),(4,4),(5,5),(6,6)] ?_;intro k hk;have hrl:=Wc w.us w.us[i]!.ar[j]!.needs k;refine zg ?_;intro u2;refine dF ?_ ?_<;>intro hc2
   .refine yZ ?_;refine dj (v:=.sl 3 (((w.us[i]!.ar[j]!.needs)[k]!).map Want.D)) (hi:=λhf=>cr) ?_;refine aE (hc:=hB (w) ((w.us[i]!.ar[j]!.needs)[k]!) acm) ?_;refine bm [Jj (eN w.us w.us[i]!.ar[j]!.needs[k]!)] ?_;refine cQ (q:=Jj) (xs:=lj w.us (w.us[i]!.ar[j]!.needs.take k)) (e:=eN w.us w.us[i]!.ar[j]!.needs[k]!) (hb:=ae) ?_;refine zg ?_;rw[Wb ae];exact iw (k+1) [(23,7),(0,0),(1,1),(2,2),(3,3),(4,4),(5,5),(6,6)]
   refine c7 ?_;obtain rfl:k=w.us[i]!.ar[j]!.needs.length:=ae;rw[List.take_length];refine bG 7 ?_ (he:=nC) (hm:=nC);refine dR ?_;refine bm [pj (lj w.us w.us[i]!.ar[j]!.needs)] ?_;refine cQ (q:=pj) (xs:=eW w.us (w.us[i]!.ar.take j)) (e:=lj w.us w.us[i]!.ar[j]!.needs) (hb:=ae) ?_;refine c9 ?_;refine Qm (v:=bP.D w) ?_;refine c9 ?_;refine Qm (v:=.sl 3 (w.us[i]!.ar[j]!.bars.map Want.D)) ?_;refine aE (hc:=hB (w) (w.us[i]!.ar[j]!.bars) acm) ?_;refine bm [Jj (eN w.us w.us[i]!.ar[j]!.bars)] ?_;refine cQ (q:=Jj) (xs:=jL w.us (w.us[i]!.ar.take j)) (e:=eN w.us w.us[i]!.ar[j]!.bars) (hb:=ae) ?_;refine zg ?_;rw[P8 ae,UC ae];exact iw (j+1) [(17,5),(24,6),(0,0),(1,1),(2,2),(3,3),(4,4)]
  refine c7 ?_;obtain rfl:j=w.us[i]!.ar.length:=ae;rw[List.take_length];refine bG 5 ?_ (he:=nC) (hm:=nC);refine bG 6 ?_ (he:=nC) (hm:=nC);refine kv ?_;refine bm [.int .i64 (ov w.us ((i:Nat):Int))] ?_;refine cQ (q:=D.int .i64) (xs:=iW w.us i) (e:=ov w.us ((i:Nat):Int)) (hb:=ae) ?_;refine c9 ?_;refine zM (v:=.own 3 1 0 (eM w.us i).length) ?_;refine c9 ?_;refine bm [qA (eW w.us w.us[i]!.ar)] ?_;refine cQ (q:=qA) (xs:=eM w.us i) (e:=eW w.us w.us[i]!.ar) (hb:=ae) ?_;refine c9 ?_;refine zM (v:=.own 4 1 0 (jK w.us i).length) ?_;refine c9 ?_;refine bm [pj (jL w.us w.us[i]!.ar)] ?_;refine cQ (q:=pj) (xs:=jK w.us i) (e:=jL w.us w.us[i]!.ar) (hb:=ae) ?_;refine c9 ?_;refine cE (.agg [.own 24 1 0 (iW w.us i++[ov w.us ((i:Nat):Int)]).length,.own 3 1 0 (eM w.us i).length,.own 4 1 0 (jK w.us i).length]) (he:=dh) ?_;refine c9 ?_;refine cE (.agg [.own 24 1 0 (iW w.us i++[ov w.us ((i:Nat):Int)]).length,.own 29 1 0 (eM w.us i++[eW w.us w.us[i]!.ar]).length,.own 4 1 0 (jK w.us i).length]) (he:=dh) ?_;refine c9 ?_;refine cE (.agg [.own 24 1 0 (iW w.us i++[ov w.us ((i:Nat):Int)]).length,.own 29 1 0 (eM w.us i++[eW w.us w.us[i]!.ar]).length,.own 34 1 0 (jK w.us i++[jL w.us w.us[i]!.ar]).length]) (he:=dh) ?_;refine zg ?_;rw[Px,P6 ae,UA ae];exact iw (i+1) [(24,2),(29,3),(34,4),(0,0),(1,1)]
 refine c7 ?_;obtain rfl:i=w.us.length:=ae;refine bG 2 ?_ (he:=nC) (hm:=nC);refine bG 3 ?_ (he:=nC) (hm:=nC);refine bG 4 ?_ (he:=nC) (hm:=nC);refine c9 ?_;refine mH (d:=(dG w.us).D) ?_;exact lL
def aaX:aj:=bd 32
def w270 (hA:C52 Y)(hB:WJ Y)(hC:C145 Y)(hD:C169 Y)(hE:WK Y)(hF:C507 Y)(hG:C508 Y):JS (ct Y aaX):=λshop e w c hp0=>by
 refine yZ ?_;refine aE (hc:=hD (w) Lt) ?_;refine dR ?_;refine ca (hc:=λhf=>hC (shop) Lt) ?_;refine se ?_;refine ca (hc:=λhf=>hE (w) (c) Lt) ?_;refine zc ?_ ?_<;>intro hc0
 .refine c7 ?_;refine bW _ ?_;refine cE _ ?_;refine zr ?_;rw[of_a hc0];rfl
 refine j7 ?_;refine aE (hc:=hA (w) (c) Lt) ?_;refine zc ?_ ?_<;>intro hc1
 .refine c7 ?_;refine bW _ ?_;refine cE _ ?_;refine zr ?_;rw[of_b hc0 hc1];rfl
 refine dR ?_;refine bc (.agg [.str e.e0,.str e.e1,.str e.e2,.aO]) ?_;refine j7 ?_;obtain⟨hcl,⟨hc1a,hc48⟩,hcw⟩:=DF hc0.2;refine zg ?_;refine gE hm (ι:=Nat) (λu=>[⟨true,.sl 2 ((shop).map bz.D)⟩,.un,.un,⟨true,.sl 1 ((c).map (D.int .i64))⟩,⟨true,.ptr 2 4 0 0⟩,.un,⟨true,.ptr 1 1 0 0⟩,.un,.un,.un,⟨true,.int .i64 (u:Nat)⟩,.un,.un,.un,.un,.un,.un,.un,.un,.un,⟨true,.ptr 3 4 0 0⟩]) (λu=>[(0,.buf 9 ((dA shop w.us c u).1.map dI.D)),(1,.buf 1 [bP.D w]),(2,.buf 4 [.agg [.str [],.str [],.str [],.aO]]),(3,.buf 4 [.agg [.str e.e0,.str e.e1,.str e.e2,.own 0 9 0 (dA shop w.us c u).1.length]])]) 20 (λu=>(1<=u/\u<=w.us.length)/\(dA shop w.us c u).2=0) (λu=>w.us.length-u) 1 ⟨⟨ae,ae⟩,by rw[SQ]⟩ (a8.to [(1,1),(2,2),(29,3)] ai ai eQ (by rw[SQ];repeat(first|exact bB.nil|refine bB.By ai ai eo ?_|refine bB.OW ai ai ai ?_|refine bB.OX ai ai ai ai ?_|refine bB.nl 1 ai ai ai eo ?_|refine bB.nl 2 ai ai ai eo ?_|refine bB.ni 29 ai ai (by exact⟨_,_,rfl,⟨_,rfl,⟨_,_,rfl,⟨rfl,rfl⟩,⟨_,_,rfl,⟨rfl,rfl⟩,⟨_,_,rfl,⟨rfl,rfl⟩,⟨_,_,rfl,.inr ⟨_,_,_,rfl⟩,rfl⟩⟩⟩⟩⟩,rfl⟩) ?_|refine bB.mt ai ai ai ai ?_))) ?_;rintro u ⟨⟨hu1,hu⟩,hz⟩;have hll:=tO (shop:=shop) (us:=w.us) (c:=c) u;refine zg ?_;intro u0;refine dF ?_ ?_<;>intro hc2
 .refine zc ?_ ?_<;>intro hc3
  .refine zg ?_;have hsk:fu w.us c u=true:=by
    unfold fu;rcases hc3 with h|h
    .rw[bA h];simp
    .rw[aY h];simp
   have hls:=PU hz hsk;rw[<-hls];refine zl (u+1) [(0,0),(1,1),(2,2),(3,3)] ?_;exact⟨⟨ae,ae⟩,by rw[hls];exact hz⟩
  refine c7 ?_;have hsk:fu w.us c u=false:=by
   unfold fu;rw[bA (show ¬u=0 by omega),bA hc3.2,aY hc3.1];rfl
  have hcu:=hcw u ae;have hxm:=aq (show c[u]!.toNat<w.us[u]!.ar.length by omega);have hun:=((hp0.2.1 _ (aq (show u<w.us.length by omega))).2 _ hxm).1;refine Jw ?_;refine dj (v:=eI.D (ec w.us c u)) (hi:=λ_=>ae) ?_;refine iz ?_;refine pW ?_;refine bc (dI.D (⟨w.us[u]!.name,(ec w.us c u).v,[],0,(kC w.us c u)⟩:dI)) ?_;refine zc ?_ ?_<;>intro hc4
  .refine zc ?_ ?_<;>intro hc5
   .refine c7 ?_;refine bW _ ?_;refine cE _ (he:=dh) ?_;refine zr ?_;rw[of_c hc0 hc1 hz hsk ae 12 aX (akN hc4 hc5)];rfl
   refine dR ?_;have hs0:0<=(ec w.us c u).sh/\(ec w.us c u).sh<(shop.length:Int):=ae;have hss:=hp0.1 _ (aq (show(ec w.us c u).sh.toNat<shop.length by omega));refine yZ ?_;refine aE (hc:=hG shop[(ec w.us c u).sh.toNat]! w.us[u]!.name (ec w.us c u).v ⟨hss,hun⟩) ?_;refine yZ ?_;refine bG 99 ?_ (he:=Lm) (hm:=Lm);refine zc ?_ ?_<;>intro hc6
   .refine c7 ?_;refine bW _ ?_;refine cE _ (he:=dh) ?_;refine zr ?_;rw[of_c hc0 hc1 hz hsk ae 9 aX (akO hc4 hc5 hc6)];rfl
   refine yZ ?_;refine aay (v:=.int .u64 (pe shop[(ec w.us c u).sh.toNat]! w.us[u]!.name (ec w.us c u).v).1.sum) ?_;refine c9 ?_;refine cE (dI.D (⟨w.us[u]!.name,(ec w.us c u).v,shop[(ec w.us c u).sh.toNat]!.name,0,(kC w.us c u)⟩:dI)) (he:=dh) ?_;refine c9 ?_;refine cE (dI.D (⟨w.us[u]!.name,(ec w.us c u).v,shop[(ec w.us c u).sh.toNat]!.name,(pe shop[(ec w.us c u).sh.toNat]! w.us[u]!.name (ec w.us c u).v).1.sum,(kC w.us c u)⟩:dI)) (he:=dh) ?_;refine c9 ?_;have hln:=akP (w:=w) (c:=c) (u:=u) hc4 hc5 hc6;obtain⟨X,hX⟩:∃X,(⟨w.us[u]!.name,(ec w.us c u).v,shop[(ec w.us c u).sh.toNat]!.name,(pe shop[(ec w.us c u).sh.toNat]! w.us[u]!.name (ec w.us c u).v).1.sum,(kC w.us c u)⟩:dI)=X:=⟨_,rfl⟩
   rw[hX]at hln⊢;have hla:=Gw hz hsk hln;refine fA ?_;refine bm [dI.D X] ?_;refine cQ (q:=dI.D) (xs:=(dA shop w.us c u).1) (e:=X) (hb:=ae) ?_;refine c9 ?_;refine cE (.agg [.str e.e0,.str e.e1,.str e.e2,.own 120 9 0 ((dA shop w.us c u).1++[X]).length]) (he:=dh) ?_;refine zg ?_;rw[show(dA shop w.us c u).1++[X]=(dA shop w.us c (u+1)).1 by rw[hla]];refine zl (u+1) [(120,0),(1,1),(2,2),(3,3)] ?_;exact⟨⟨ae,ae⟩,by rw[hla]⟩
  refine c9 ?_;have hln:=akM (shop:=shop) (w:=w) (c:=c) (u:=u) hc4;obtain⟨X,hX⟩:∃X,(⟨w.us[u]!.name,(ec w.us c u).v,[],0,(kC w.us c u)⟩:dI)=X:=⟨_,rfl⟩
  rw[hX]at hln⊢;have hla:=Gw hz hsk hln;refine fA ?_;refine bm [dI.D X] ?_;refine cQ (q:=dI.D) (xs:=(dA shop w.us c u).1) (e:=X) (hb:=ae) ?_;refine c9 ?_;refine cE (.agg [.str e.e0,.str e.e1,.str e.e2,.own 80 9 0 ((dA shop w.us c u).1++[X]).length]) (he:=dh) ?_;refine zg ?_;rw[show(dA shop w.us c u).1++[X]=(dA shop w.us c (u+1)).1 by rw[hla]];refine zl (u+1) [(80,0),(1,1),(2,2),(3,3)] ?_;exact⟨⟨ae,ae⟩,by rw[hla]⟩
 refine c7 ?_;obtain rfl:u=w.us.length:=ae;rw[show dA shop w.us c w.us.length=dQ shop w c from rfl]at hz⊢;refine bG 0 ?_ (he:=Lm) (hm:=Lm);refine c9 ?_;refine mH (d:=j8.D ⟨e,(dQ shop w c).1⟩) ?_;refine zr ?_;rw[of_d hc0 hc1 hz];rfl
def QD:aj:=bd 221
def w1014 (hA:WI Y)(hB:C374 Y)(hC:af8 Y)(hD:agi Y):Ff (ct Y QD):=λl nm hp0=>by
 refine c9 ?_;have hya:=yS hp0;refine yl ?_;refine bL ?_;refine bg (env':=[_,_,⟨_,_⟩,⟨_,(.int _ _)⟩,_,_,_,_,_,_,_,_,_]) ?_;refine gu ?_;refine aS ?_;refine bL ?_;refine aE (hc:=hA (l) (by first|assumption|omega)) ?_;refine bL ?_;refine lh (.int _ _) ?_;refine lh (.int _ _) ?_;refine bL ?_;refine bL ?_;refine bg (env':=[_,_,_,_,⟨_,(.int _ _)⟩,_,_,_,_,_,_,_,_]) ?_;refine gu ?_;refine aS ?_;refine bL ?_;refine oK ?_;refine bg (env':=[_,_,_,_,_,⟨_,(.bool _)⟩,_,_,_,_,_,_,_]) ?_;refine dF ?_ ?_<;>intro hc0
 .exact absurd trivial hc0
 refine fA ?_;refine cE _ ?_;refine bg (env':=[_,_,_,_,_,_,_,_,_,_,_,⟨_,_⟩,_]) ?_;refine dR ?_;refine bg (env':=[_,_,_,_,_,_,⟨_,(.int _ _)⟩,_,_,_,_,_,_]) ?_;refine zf hm (λi=>[.m 11 l gI.D,.e (.str nm),.p 1 2,.u 3,.i i,.u 4,.p 0 2,.u 1]) (λi=>[(0,.buf 2 [cy.D (if i=0 then p8 else kW l nm)]),(1,.buf 2 [.agg [.aO,.aO]])]) 15 (λi=>i<=l.length) (λi=>l.length-i) ae [(12,0),(0,1)] ?_;intro i hi;refine zg ?_;intro u0;refine dF ?_ ?_<;>intro hc1
 .refine dR ?_;obtain rfl:i=0:=by have:=hya.1;omega
  obtain⟨hyp1,hyp2,hyp3,hyp4⟩:=ue hp0 (i:=0) ae;have hmi:=hya.2 0 ae;rw[ak rfl];refine zg ?_;refine zfL hm (λk=>[.m 11 l gI.D,.e (.str nm),.p 1 2,.u 3,.i 0,.u 1,.i k,.u 2,.p 0 2,.u 1]) (λk=>[(0,.buf 2 [cy.D (if k=0 then p8 else kW l nm)]),(1,.buf 2 [.agg [.aO,.aO]])]) 20 (λk=>k<=l[0]!.hs.length) (λk=>l[0]!.hs.length-k) ae [(0,0),(1,1)] ?_;intro k hk;refine gu ?_;refine aS ?_;refine bL ?_;refine bL ?_;refine bL ?_;refine cD (0) (hj:=λhf=>cr) (hb:=λhf=>cr) ?_;refine AR ?_;refine dj (v:=.sl 2 (l[0]!.hs.map kP.D)) (hi:=λ_=>ae) ?_;refine IJ λu1=>?_;specialize u1 rfl rfl
  refine zN ?_;refine bg (env':=[_,_,_,_,_,_,_,_,_,⟨_,(.bool _)⟩,_,_,_]) ?_;refine dF ?_ ?_<;>intro hc2
  .refine gv ?_;refine mP ?_ hm;refine aS ?_;have hk0:k=0:=ae;rw[ak hk0];refine bL ?_;refine bL ?_;refine cD (0) (hj:=λhf=>cr) (hb:=λhf=>cr) ?_;refine AR ?_;refine dj (v:=.sl 2 (l[0]!.hs.map kP.D)) (hi:=λ_=>ae) ?_;refine bL ?_;refine cD (k) (hj:=λhf=>cr) (hb:=λhf=>cr) ?_;refine AR ?_;refine dj (v:=.str (l[0]!.hs)[k]!.name) (hi:=λhf=>cr) ?_;refine bL ?_;refine aau ?_;refine bg (env':=[_,_,_,_,_,_,_,_,_,_,⟨_,(.bool _)⟩,_,_]) ?_;refine B5 ?_ ?_<;>intro hc3
   .refine aS ?_;refine bL ?_;refine bL ?_;refine cD (0) (hj:=λhf=>cr) (hb:=λhf=>cr) ?_;refine AR ?_;refine dj (v:=.sl 2 (l[0]!.hs.map kP.D)) (hi:=λ_=>ae) ?_;refine bL ?_;refine cD (k) (hj:=λhf=>cr) (hb:=λhf=>cr) ?_;refine AR ?_;refine dj (v:=.str (l[0]!.hs)[k]!.range) (hi:=λhf=>cr) ?_;refine aE (hc:=hC l[0]!.hs[k]!.range (hmi.1.2.2 _ (aq ae))) ?_;refine bL ?_;refine lh (cy.D _) ?_;refine lh (.int _ _) ?_;refine yl ?_;refine cE _ ?_;refine bL ?_;refine bg (env':=[_,_,_,_,_,_,_,_,_,_,_,_,⟨_,_⟩]) ?_;refine pV ?_;refine mH (d:=cy.D p8) ?_;refine mH (d:=cy.D (eY l[0]!.hs[k]!.range)) ?_;refine aE (hc:=hD (eY l[0]!.hs[k]!.range) (rA _)) ?_;refine cE (cy.D (eY l[0]!.hs[k]!.range)) (he:=dh) ?_;refine nN (env':=[_,_,_,_,_,_,_,_,_,_,_,_,_]) ?_;refine BQ.normal ?_;refine pV ?_;refine bL ?_;refine mh (hb:=λhf=>cr) ?_;refine bL ?_;refine nN (env':=[_,_,_,_,_,_,_,_,⟨_,(.int _ _)⟩,_,_,_,_]) ?_;refine BZ.normal ?_;rw[<-akl hk0 ae hc3];exact⟨k+1,ae,ae,(a8.to [(0,0),(1,1)] ai ai eQ RB)⟩
   refine wp_skip ?_;refine BQ.normal ?_;refine pV ?_;refine bL ?_;refine mh (hb:=λhf=>cr) ?_;refine bL ?_;refine nN (env':=[_,_,_,_,_,_,_,_,⟨_,(.int _ _)⟩,_,_,_,_]) ?_;refine BZ.normal ?_;rw[<-akk hk0 hc3];exact⟨k+1,ae,ae,(a8.to [(0,0),(1,1)] ai ai eQ RB)⟩
  refine oV ?_;refine BZ.out ?_;refine BQ.normal ?_;refine pV ?_;refine bL ?_;refine mh (hb:=λhf=>cr) ?_;refine bL ?_;refine nN (env':=[_,_,_,_,_,_,⟨_,(.int _ _)⟩,_,_,_,_,_,_]) ?_;refine LQ.normal ?_;rw[show(if k=0 then p8 else kW l nm)=kW l nm from akj ae];exact iw (0+1) [(0,0),(1,1)]
 refine c7 ?_;rw[ah (show ¬i=0 by have:=hya.1;omega)];refine c7 ?_;refine cE _ (he:=dh) ?_;exact lL
def Wq:aj:=bd 42
def w175 (hA:Bn Y)(hB:Uk Y)(hC:C408 Y)(hD:C409 Y):uh (ct Y Wq):=λw hp0=>by
 refine zk21 ?_;intro u0;refine cD (0) (hj:=λhf=>cr) (hb:=λhf=>cr) ?_;refine pW ?_;refine cD (0) (hj:=λhf=>cr) (hb:=λhf=>cr) ?_;refine pW ?_;refine cD (0) (hj:=λhf=>cr) (hb:=λhf=>cr) ?_;refine zc ?_ ?_<;>intro hc0
 .refine zr ?_;unfold eK vv;grind
 refine zg ?_;intro u1;refine zf hm (λi=>[.u 2,.p 0 1,.i w.us.length,.u 1,.i i,.i w.us.length,.u 1,.m 3 w.us cN.D,.u 10]) (λi=>[(0,.buf 1 [bP.D w])]) 41 (λi=>i<=w.us.length/\w.us.length<=48/\eK w=bK (lJ w.us) i w.us.length) (λi=>w.us.length-i) ⟨ae,ae,by unfold eK vv;grind⟩ [(0,0)] ?_;rintro i ⟨hi,h48,hr⟩;refine zc ?_ ?_<;>intro hc1
 .refine qH ?_;refine cE _ ?_;refine dR ?_;have ho:=VC w.us[i-1]! w.us[i]!;have hku:=hp0 _ (aq (show i<w.us.length by omega));refine iz ?_;refine c9 ?_;refine cD ((i-1)) (hj:=λhf=>cr) (hb:=λhf=>cr) ?_;refine kv ?_;refine cD ((i-1)) (hj:=λhf=>cr) (hb:=λhf=>cr) ?_;refine c7 ?_;refine bc (Key.D (⟨w.us[i-1]!.name,w.us[i-1]!.feat⟩:Key)) ?_;refine fA ?_;refine bc (Key.D (⟨w.us[i]!.name,w.us[i]!.feat⟩:Key)) ?_;refine zc ?_ ?_<;>intro hc2
  .refine zr ?_;rw[hr,ax ae];unfold lJ;grind
  refine zg ?_;intro u2;refine zfL hm (λk=>[.u 2,.p 0 1,.i w.us.length,.u 1,.i i,.i w.us.length,.u 1,.m 3 w.us cN.D,.i i,.p 1 3,.u 1,.i k,.i (w.us[i]!.ar.length:Nat),.u 1,.m 8 (w.us[i]!.ar) eI.D,.u 3]) (λk=>[(0,.buf 1 [bP.D w]),(1,.buf 3 [cN.D (w.us[i]!)])]) 93 (λk=>k<=w.us[i]!.ar.length/\bK (nj w.us.length w.us[i]!.ar) 0 w.us[i]!.ar.length=bK (nj w.us.length w.us[i]!.ar) k w.us[i]!.ar.length) (λk=>w.us[i]!.ar.length-k) ⟨ae,rfl⟩ [(0,0),(45,1)] ?_;rintro k ⟨hk,hr2⟩;refine zg ?_;refine dF ?_ ?_<;>intro hc3
  .refine gv ?_;refine mP ?_ hm;refine aS ?_;refine bL ?_;refine cD (k) (hj:=λhf=>cr) (hb:=λhf=>cr) ?_;refine dj (v:=eI.D ((w.us[i]!.ar)[k]!)) (hi:=λhf=>cr) ?_;refine yl ?_;refine bL ?_;refine cE _ ?_;refine bg (env':=[_,_,_,_,_,_,_,_,_,_,_,_,_,_,_,_,⟨_,_⟩,⟨_,(.int _ _)⟩,_]) ?_;refine aS ?_;refine Tp ?_;refine qv (v:=(b6.D _)) ?_;refine aE (hc:=hA _ ?_) ?_;rotate_left;first|assumption|omega|exact⟨hku.2 _ (aq ae),hku.2 _ (aq ae)⟩|exact(hku.2 _ (aq ae)).1|exact hku.2 _ (aq ae)|exact⟨(hku.2 _ (aq ae)).1,(hku.2 _ (aq ae)).1⟩
   refine Tr ?_;refine bL ?_;refine bL ?_;refine pP ?_;refine bL ?_;refine Tp ?_;refine qv (v:=.sl 8 ((w.us[i]!.ar).map eI.D)) ?_;refine bL ?_;refine Cn (hb:=λhf=>cr) ?_;refine cD ((k-1)) (hj:=λhf=>cr) (hb:=λhf=>cr) ?_;refine AR ?_;refine dj (v:=b6.D ((w.us[i]!.ar)[(k-1)]!.v)) (hi:=λhf=>cr) ?_;refine Tp ?_;refine qv (v:=(b6.D _)) ?_;refine ca (hc:=λhf=>hB ((w.us[i]!.ar)[(k-1)]!.v) _ ?_) ?_;rotate_left;first|assumption|omega|exact⟨hku.2 _ (aq ae),hku.2 _ (aq ae)⟩|exact(hku.2 _ (aq ae)).1|exact hku.2 _ (aq ae)|exact⟨(hku.2 _ (aq ae)).1,(hku.2 _ (aq ae)).1⟩
   refine II ?_;refine vz ?_;refine Nq ?_;refine bL ?_;refine mH ?_;refine bL ?_;refine ca (hc:=λhf=>hD _ _ ?_) ?_;rotate_left;first|assumption|omega|exact⟨hku.2 _ (aq ae),hku.2 _ (aq ae)⟩|exact(hku.2 _ (aq ae)).1|exact hku.2 _ (aq ae)|exact⟨(hku.2 _ (aq ae)).1,(hku.2 _ (aq ae)).1⟩
   refine Tr ?_;refine Nq ?_;refine bg (env':=[_,_,_,_,_,_,_,_,_,_,_,_,_,_,_,_,_,_,⟨_,(.bool _)⟩]) ?_;refine B5 ?_ ?_<;>intro hc4
   .refine zr ?_;rw[hr,ax (i:=i) ae];unfold lJ;rw[hr2,ax (i:=k) ae];simp only[nj];grind
   refine fX (k+1) [(0,0),(1,1)] ?_;rw[hr2,ax ae];simp only[nj];grind
  refine zl (i+1) [(0,0)] ?_;exact⟨ae,h48,by rw[hr,ax ae];unfold lJ;rw[hr2,bp (i:=k) ae];grind⟩
 refine zr ?_;rw[hr,bp ae]
def cmp_isNaN_int:aj:=bd 178
def w714 (hm:(Y.at 0).bU):KR (ct Y cmp_isNaN_int):=λx=>by
 refine qH ?_;refine bg (env':=[_,⟨_,(.bool _)⟩]) ?_;refine zr ?_;simp
def FE:aj:=bd 175
def w704 (hm:(Y.at 0).bU):KQ (ct Y FE):=λx=>by
 refine qH ?_;refine bg (env':=[_,⟨_,(.bool _)⟩]) ?_;refine zr ?_;simp
def cmp_Compare_int:aj:=bd 130
def w532 (hm:(Y.at 0).bU)(hA:C714 Y):uE (ct Y cmp_Compare_int):=λa b=>by
 refine zg ?_;refine aQ (t:=false) (λh=>cb) (λ_=>?_);refine zg ?_;refine aQ (t:=false) (λh=>cb) (λ_=>?_);refine zc ?_ ?_<;>intro hc3
 .refine zr ?_;simp[du,hc3]
 refine zc ?_ ?_<;>intro hc4
 .refine zr ?_;unfold du;rw[ah hc3,ak hc4]
 refine zr ?_;unfold du;rw[ah hc3,ah hc4]
def Bt:aj:=bd 125
def w516 (hm:(Y.at 0).bU)(hA:C704 Y):uD (ct Y Bt):=λa b=>by
 refine zg ?_;refine aQ (t:=false) (λh=>cb) (λ_=>?_);refine zg ?_;refine aQ (t:=false) (λh=>cb) (λ_=>?_);refine zc ?_ ?_<;>intro hc3
 .refine zr ?_;simp[qc,hc3]
 refine zc ?_ ?_<;>intro hc4
 .refine zr ?_;simp_all[qc]
 refine zr ?_;simp_all[qc]
def aiU:aj:=bd 124
def w531:Ku (ct Y aiU):=λl=>by
 refine zg ?_;intro u0;refine zf hm (λi=>[.u 2,.i i,.i l.length,.u 1,.m 1 l (D.int .i64),.u 1,.i 0,.u 1]) (λi=>[]) 5 (λi=>i<=l.length/\gh (λi=>l[i]!) 0 l.length=gh (λi=>l[i]!) i l.length) (λi=>l.length-i) ⟨ae,rfl⟩ [] ?_;rintro i ⟨hi,hr⟩;refine zc ?_ ?_<;>intro hc0
 .refine zc ?_ ?_<;>intro hc1
  .refine zr ?_;rw[hr,lO ae hc1]
  refine fX (i+1) [] ?_;rw[hr,qf ae hc1]
 refine zr ?_;rw[hr,qe ae]
def Jq:aj:=bd 129
def w530 (hm:(Y.at 0).bU):Kt (ct Y Jq):=λv=>by
 refine se ?_;refine cE _ ?_;exact lL
def OK:aj:=bd 132
def w534 (hm:(Y.at 0).bU)(hA:C516 Y)(hB:C532 Y)(hC:C658 Y)(hD:C659 Y):uG (ct Y OK):=λa b=>by
 refine zc ?_ ?_<;>intro hc0
 .refine zr ?_;unfold yN;rw[ak hc0]
 refine zg ?_;refine aQ (λhc1=>?_) (λhc1=>?_)
 .simp only[b8,bR]at hc1;refine zc ?_ ?_<;>intro hc2
  .refine zr ?_;have hn:¬(cT a=true/\cT b=true):=by rintro⟨h1,h2⟩;simp[h1,h2]at hc0
   unfold yN;rw[ah hn];rw[ak hc2]
  refine zr ?_;have hn:¬(cT a=true/\cT b=true):=by rintro⟨h1,h2⟩;simp[h1,h2]at hc0
  unfold yN;rw[ah hn];rw[ah (by simp[hc2]),ak (by cases h:cT b with|true=>rfl|false=>exact absurd (hc2.trans h.symm) hc1)]
 simp only[cF,aT]at hc1;refine zr ?_;have hn:¬(cT a=true/\cT b=true):=by rintro⟨h1,h2⟩;simp[h1,h2]at hc0
 unfold yN;rw[ah hn];have h1:cT a=false:=by cases h:cT a with|false=>rfl|true=>exact absurd ⟨h,hc1▸h⟩ hn
 rw[ah (by simp[h1]),ah (by rw[<-hc1];simp[h1])]
def PW:aj:=bd 24
def w111 (hm:(Y.at 0).bU)     :wkk Y PW (.sl 1 (cI.map D.str)) []:=by
 refine fA ?_;refine bm (cI.map D.str) ?_;refine c7 ?_;refine bG 1 ?_;exact lL
def MM:aj:=bd 25
def w135 (hm:(Y.at 0).bU)     :wkk Y MM (.sl 1 (kr.map D.str)) []:=by
 refine fA ?_;refine bm (kr.map D.str) ?_;refine c7 ?_;refine bG 1 ?_;exact lL
def P0:aj:=bd 96
def w536:Kv (ct Y P0):=λl s=>by
 refine zg ?_;refine zf hm (λi=>[.m 1 l D.str,.e (.str s),.u 1,.i i,.u 2]) (λi=>[]) 2 (λi=>i<=l.length/\gp (λt=>decide (t=s)) l 0=gp (λt=>decide (t=s)) (l.drop i) i) (λi=>l.length-i) ⟨ae,rfl⟩ [] ?_;rintro i ⟨hi,hr⟩;refine zg ?_;intro u0;refine dF ?_ ?_<;>intro hc0
 .refine zc ?_ ?_<;>intro hc1
  .refine zr ?_;unfold FI;rw[hr,kX ae oY,ah ae]
  refine fX (i+1) [] ?_;rw[hr,jC ae oY]
 refine zr ?_;unfold FI;rw[hr,mB ae];rfl
def wy:aj:=bd 52
def w297 (hm:(Y.at 1).bU)(hA:Hx (Y.at 1))(hB:C111 (Y.at 1))(hC:C536 (Y.at 1))(g:Gs)(own:aw)(hp0:0<=g.i/\g.i<=990000):dD (Y.at 1) wy.body (HB wy 2 (.str (cV g own).1) (Gs.D (cV g own).2):Ex->Φ->St->Prop) (fV wy (.ptr 0 2 0 0::[.str own])) ⟨1,[(0,.buf 2 [(Gs.D g)])]⟩:=by
 show dD _ _ _ [⟨true,.ptr 0 2 0 0⟩,⟨true,.str own⟩,.un,.un,.un,.un] ⟨1,[(0,.buf 2 [(Gs.D g)])]⟩;refine aS ?_;refine dR ?_;have r4:=g.e7 4 ae;have r3:=g.aU.e7 3 ae;have rz:=YQ cI own;simp only[cI,bJ,cj]at rz;refine qH ?_;intro u0;refine dd (hc:=hA g 4 ae lz) ?_;refine cD (g.val 4).toNat (hj:=λ_=>ae) (hb:=λ_=>pZ) ?_;refine dj (v:=.str cI[(g.val 4).toNat]!) (hi:=λ_=>pZ) ?_;refine zc ?_ ?_<;>intro hc0
 .refine fA ?_;refine dd (hc:=hA g.aU 3 ae lz) ?_;refine fA ?_;refine mh (hb:=by first|omega|(simp only[cI]at rz⊢;omega)) ?_;refine c7 ?_;intro u1;refine AU ((g.aU.val 3+1+FI cI own)%4) (hn:=by intro _;decide) (hb:=λ_=>Int.tmod_eq_emod_of_nonneg (by first|omega|(simp only[cI]at rz⊢;omega))) ?_;refine cD ((g.aU.val 3+1+FI cI own)%4).toNat (hj:=λ_=>ae) (hb:=λ_=>pZ) ?_;refine dj (v:=.str cI[((g.aU.val 3+1+FI cI own)%4).toNat]!) (hi:=λ_=>pZ) ?_;refine zg ?_;refine jc trivial jJ (dp ai (ay D.str ?_)) (by unfold cV;rw[ak hc0];exact rfl) ai ai;unfold cV;rw[ak hc0]
 refine zg ?_;refine jc trivial jJ (dp ai (ay D.str ?_)) (by unfold cV;rw[ah hc0];exact rfl) ai ai;unfold cV;rw[ah hc0]
def Ed:aj:=⟨2,9,[⟨2,none⟩],H0,(sq (rg [gb 9 s0,gb 9 s1,gm HO] [(3,0),(4,1),(2,2)]) (sq (sq (r1 [gf 0 s3,gd l0,gf 0 s4,gd l2,mX l1 l3,gm l4,Bw 5 1 s3,nX 5 (.ld 5 true l6),Bw 5 1 s4,nX 5 (.ld 5 true l8),nX 5 (.eqA true true [.i .i64,.i .i64,.i .i64,.s,.s] l7 l9),HY l5 l10,gm Wy,Bw 12 6 s3,Gp 12 l13,Bw 12 6 s4,Gp 12 l15,nX 12 (F8 l14 l16),HY l12 l17,gm l18,Bw 19 7 s3,Gp 19 l20,Bw 19 7 s4,Gp 19 l22,nX 19 (F8 l21 l23),HY l19 l24,gm l25,Bw 26 8 s3,Gp 26 l27,nX 26 (.len l28),Bw 26 8 s4,Gp 26 l30,nX 26 (.len l31),nX 26 (F8 l29 l32),HY l26 l33] 5 34) (.cond s5 (sq (r1 [gm HO] 2 0) .ret) .skip)) (sq (sq (r1 [gm vx] 6 0) (.block 0 (.loop (sq (sq (r1 [gm s6,gf 8 s3,gd l1,gl l2,kj l0 l3] 7 4) (UT s7 0)) (sq (.block 1 (sq (r2 [gf 8 s3,gd l0,gm s6,ga 1 l1 l2,gd l3,gf 8 s4,gd l5,gm s6,ga 1 l6 l7,gd l8,mX l4 l9] 8 10) (.cond s8 (sq (r1 [gm HO] 2 0) .ret) .skip))) (r1 [gm s6,lS l0 Mq,gm l1] 6 2)))))) (sq (r1 [gm cbT] 2 0) .ret))))⟩
def w311:JU (ct Y Ed):=λa b=>by
 refine zg ?_;refine aQ (λhc0=>?_) (λhc0=>?_)
 .simp only[dk,b8,bR]at hc0;refine zr ?_;symm;rw[bR];rintro rfl;simp at hc0
 simp only[eg,cF,aT]at hc0;refine zg ?_;obtain⟨⟨⟨⟨e1,e2⟩,e3⟩,e4⟩,e5⟩:=hc0;have e5:a.feats.length=b.feats.length:=ae;have hb:=dI.same e1 e2 e3 e4 e5;refine zf hm (λi=>[.u 3,.p 0 9,.p 1 9,.u 1,.i i,.u 2]) (λi=>[(0,.buf 9 [dI.D a]),(1,.buf 9 [dI.D b])]) 39 (λi=>i<=a.feats.length/\decide (a=b)=bK (λi=>decide (a.feats[i]! =b.feats[i]!)) i a.feats.length) (λi=>a.feats.length-i) ⟨ae,hb⟩ [(0,0),(1,1)] ?_;rintro i ⟨hi,hr⟩;refine zg ?_;intro u0;refine dF ?_ ?_<;>intro hc1
 .refine zg ?_;refine wp_cond (λhc2=>?_) (λhc2=>?_)
  .simp only[b8,bR]at hc2;refine zr ?_;rw[hr,ax ae,bA hc2];rfl
  simp only[cF,aT]at hc2;refine fX (i+1) [(0,0),(1,1)] ?_;rw[hr,ax ae,aY hc2];rfl
 refine zr ?_;rw[hr,bp ae]
def sW:aj:=bd 262
def w450 (hm:(Y.at 3).bU)(ws:Ψ)(t:aw)(m0:Γ)(hA:C242 (Y.at 3))(hB:C489 (Y.at 3))(hC:C664 (Y.at 3))(hp0:vi m0 0 t)(hp1:look m0 1=some (.buf 1 (ws.map D.str)))(hp2:HA ws t):dD (Y.at 3) sW.body (uV sW (λd m=>d=.tup []/\look m 0=some (.bld (some 9) (t++cw ws).length true)/\look m 9=some (.row (t++cw ws))):Ex->Φ->St->Prop) (fV sW [.ptr 0 2 0 0,.own 1 1 0 ws.length]) ⟨3,m0⟩:=by
 show dD _ _ _ [⟨true,.ptr 0 2 0 0⟩,⟨true,.own 1 1 0 ws.length⟩] ⟨3,m0⟩;obtain⟨⟨q1,q2⟩,q3,q4⟩:=hp2;have hlt:t++cw ws=t++cv [32] ws++[10]:=by unfold cw;simp
 refine aS ?_;refine c7 ?_;refine aE (hc:=hA ws [32] q2 aX q3) (ha:=λ_=>ay (λd=>[d,D.str [32]]) (ud (q:=D.str) (λ_=>rfl) hp1)) (hp:=λ_=>⟨qD (q:=D.str) (λ_=>rfl) hp1,rfl,trivial⟩) ?_;refine dT (nx':=4) (v:=.any) (m':=sk m0 0 6 (t++cv [32] ws)) (hc:=λK' hK=>hB _ _ K' ⟨_,0,t,rfl,hp0,js (by decide:0<3) (Nat.le_add_right _ _),q1,ae,hK⟩) (hn:=aX) ?_;refine dR ?_;refine dT (nx':=9) (v:=.any) (m':=sk (sk m0 0 6 (t++cv [32] ws)) 0 9 (t++cv [32] ws++[10])) (hc:=λK' hK=>hC _ _ K' ⟨10,0,t++cv [32] ws,rfl,adn aX,js (by decide:0<8) (Nat.le_add_right _ _),aJ,by rw[cx];exact q4,hK⟩) (hn:=aX) ?_;refine zg ?_

 refine eB trivial jJ (dp ai (?_)) ai ⟨rfl,by rw[hlt];exact(zt aX).1,by rw[hlt];exact(zt aX).2⟩;rfl
def zx:aj:=bd 95
def w535 (hm:(Y.at 1).bU)(hA:Hx (Y.at 1))(hB:C135 (Y.at 1))(hC:C297 (Y.at 1))(g:Gs)(own:aw)(hp0:0<=g.i/\g.i<=990000):dD (Y.at 1) zx.body (HB zx 2 (cP.D (dM g own).1) (Gs.D (dM g own).2):Ex->Φ->St->Prop) (fV zx (.ptr 0 2 0 0::[.str own])) ⟨1,[(0,.buf 2 [(Gs.D g)])]⟩:=by
 show dD _ _ _ [⟨true,.ptr 0 2 0 0⟩,⟨true,.str own⟩,.un] ⟨1,[(0,.buf 2 [(Gs.D g)])]⟩;refine aS ?_;refine dR ?_;have ho:=yg g own;have r8:=(cV g own).2.e7 8 ae;refine c7 ?_;refine dd (hc:=hC g own hp0) ?_;refine fA ?_;refine dd (hc:=hA (cV g own).2 8 ae lz) ?_;refine cD ((cV g own).2.val 8).toNat (hj:=λ_=>ae) (hb:=λ_=>uU) ?_;refine D1 (v:=.str kr[((cV g own).2.val 8).toNat]!) (hi:=λ_=>uU) ?_;refine c9 ?_;refine dd (hc:=hA (cV g own).2.aU 3 ae lz) ?_;refine c9 ?_;refine bW [.str (cV g own).1,.str kr[((cV g own).2.val 8).toNat]!,.aO,.bool (decide (0<(cV g own).2.aU.val 3))] ?_;refine c7 ?_;refine Bk [(0,.buf 2 [Gs.D (dM g own).2]),(1,.buf 4 [cP.D (dM g own).1])] (.id ai (.bf ai (.cons (.ag (.cons (.refl _) (.cons (.refl _) (.cons (.nil 1) (.cons (.refl _) .nil))))) .nil) .nil)) ?_;refine zg ?_;refine jc trivial DZ (dp ai (?_)) ai ai ai;rfl
def QO:aj:=bd 31
def w269 (hA:C506 Y):JR (ct Y QO):=λw c hp0 hp1=>by
 refine zg ?_;refine zf hm (λi=>[.u 1,.m 1 c (D.int .i64),.u 2,.i i,.m 1 (dC w c) _,.u 2,.o 0 1 (BS w c i).length,.u 1]) (λi=>[(0,.buf 1 ((BS w c i).map (D.int .i64)))]) 8 (λi=>i<=(dC w c).length) (λi=>(dC w c).length-i) ae [] ?_;intro i hi;have htl:=abo w c i;have hnl:=MX w c;refine zg ?_;intro u0;refine dF ?_ ?_<;>intro hc0
 .refine zc ?_ ?_<;>intro hc1
  .refine kv ?_;refine bm [.int .i64 (-1)] ?_;refine cQ (q:=D.int .i64) (xs:=BS w c i) (e:=(-1)) (hb:=ae) ?_;refine zg ?_;rw[amp hc1];exact iw (i+1) [(26,0)]
  refine fA ?_;refine bm [.int .i64 c[i]!] ?_;refine cQ (q:=D.int .i64) (xs:=BS w c i) (e:=c[i]!) (hb:=ae) ?_;refine zg ?_;rw[amq hc1];exact iw (i+1) [(25,0)]
 refine c7 ?_;obtain rfl:i=(dC w c).length:=ae;refine bG 0 ?_;exact lL
def Ec:aj:=bd 115
def w226:JK (ct Y Ec):=λa b=>by
 refine zg ?_;intro u0 u1;refine dF ?_ ?_<;>intro hc0
 .refine zr ?_;symm;rw[bR];rintro rfl;exact hc0 rfl
 refine zg ?_;have hab:a.length=b.length:=ae;have hb:=oP hab;refine zf hm (λi=>[.m 1 a D.str,.m 1 b D.str,.u 2,.i i,.u 2]) (λi=>[]) 7 (λi=>i<=a.length/\decide (a=b)=bK (λi=>decide (a[i]! =b[i]!)) i a.length) (λi=>a.length-i) ⟨ae,hb⟩ [] ?_;rintro i ⟨hi,hr⟩;refine zg ?_;intro u2;refine dF ?_ ?_<;>intro hc1
 .refine zg ?_;refine wp_cond (λhc2=>?_) (λhc2=>?_)
  .simp only[b8,bR]at hc2;refine zr ?_;rw[hr,ax ae,bA hc2];rfl
  simp only[cF,aT]at hc2;refine fX (i+1) [] ?_;rw[hr,ax ae,aY hc2];rfl
 refine zr ?_;rw[hr,bp ae]
def NL:aj:=bd 66
def w356:J0 (ct Y NL):=λl nm=>by
 refine zg ?_;refine zf hm (λi=>[.m 11 l gI.D,.e (.str nm),.u 1,.i i,.u 2]) (λi=>[]) 2 (λi=>i<=l.length/\k8 l nm=gp (isM nm) (l.drop i) i) (λi=>l.length-i) ⟨ae,rfl⟩ [] ?_;rintro i ⟨hi,hr⟩;refine zg ?_;intro u0;refine dF ?_ ?_<;>intro hc0
 .refine zc ?_ ?_<;>intro hc1
  .refine zr ?_;rw[hr,kX ae (by simpa[isM]using hc1)]
  refine fX (i+1) [] ?_;rw[hr,jC ae (by simpa[isM]using hc1)]
 refine zr ?_;rw[hr,mB ae]
def D8:aj:=bd 163
def w477 (hm:(Y.at 0).bU)(hA:C226 Y):Kl (ct Y D8):=λa b=>by
 refine zr ?_;rw[cP.Bi a b]
def NG:aj:=bd 40
def w361 (hm:(Y.at 0).bU)(hA:C359 Y):ux (ct Y NG):=λl nm=>by
 exact lL
end Go.Abs
end
