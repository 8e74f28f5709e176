/- A part of the proofs. -/
import Derived.Test.YtkllcniplomebaaGreatDoorP09
set_option linter.all false
set_option maxRecDepth 60000
set_option maxHeartbeats 2000000
noncomputable section
namespace Go.Abs
variable {Y:Ctx}(hm:(Y.at 0).bN)
def Z1:aj:=bd 144
def w453 (hm:(Y.at 0).bN):JB (cn Y Z1):=λc=>by
 exact mQ
def Qu:aj:=bd 145
def w454 (hm:(Y.at 0).bN):JC (cn Y Qu):=λc=>by
 exact mQ
def Vf:aj:=bd 107
def w357 (hA:C453 Y)(hB:C454 Y):ub (cn Y Vf):=λs=>by
 refine zg ?_;intro u0;refine dT ?_ ?_<;>intro hc0
 .refine zr ?_;symm;simp only[gC,ew,b8];exact Or.inl ae
 refine zg ?_;refine zf hm (λi=>[.e (.str s),.u 2,.i i,.u 2]) (λi=>[]) 10 (λi=>i<=s.length/\gC s=bI (λi=>GY (at8 s i)) i s.length) (λi=>s.length-i) ⟨ae,by simp only[gC];rw[bg ae,bg ae];rfl⟩ [] ?_;rintro i ⟨hi,hr⟩;refine zg ?_;intro u1;refine dT ?_ ?_<;>intro hc1
 .refine zc ?_ ?_<;>intro hc2
  .refine zr ?_;rw[hr,ay ae];simp[GY,hc2]
  refine fM (i+1) [] ?_;rw[hr,ay ae];simp[GY,hc2]
 refine zr ?_;rw[hr,bA ae]
def Ve:aj:=bd 97
def w216 (hA:C453 Y)(hB:C454 Y):tT (cn Y Ve):=λs=>by
 refine IY ?_;intro u0;refine AB 0 ?_;refine pz ?_;refine AB (s.length-1) ?_;refine zc ?_ ?_<;>intro hc0
 .refine zr ?_;symm;simp only[dc];rcases hc0 with(h|h)|h
  .rcases h with h|h<;>simp<;>omega
  .simp[h]
  .simp[h]
 refine zg ?_;refine zfx hm (1:Nat) (λi=>[.e (.str s),.u 2,.i i,.u 2]) (λi=>[]) 24 (λi=>i<=s.length/\1<=i/\dc s=bI (nch s) i s.length) (λi=>s.length-i) ⟨ae,ae,by simp only[dc];rw[bg ae,bg ae,hc0.1.2,bB hc0.2];rfl⟩ [] ?_;rintro i ⟨hi,hi1,hr⟩;refine zg ?_;intro u1;refine dT ?_ ?_<;>intro hc1
 .refine jb ?_;refine jb ?_;refine cU ?_;refine AB (i-1) ?_;refine zc ?_ ?_<;>intro hc2
  .refine zr ?_;rw[hr,ay ae];simp only[nch];revert hc2;generalize jN (at8 s i)=x;generalize bE (at8 s i)=y;by_cases h1:at8 s i=45<;>by_cases h2:at8 s (i-1)=45<;>cases x<;>cases y<;>simp_all
  refine zl (i+1) [] ?_;exact⟨ae,ae,by rw[hr,ay ae];simp only[nch];revert hc2;generalize jN (at8 s i)=x;generalize bE (at8 s i)=y;by_cases h1:at8 s i=45<;>by_cases h2:at8 s (i-1)=45<;>cases x<;>cases y<;>simp_all⟩
 refine zr ?_;rw[hr,bA ae]
def Ny:aj:=bd 193
def w667 (hA:C454 Y):uv (cn Y Ny):=λs=>by
 refine zk20 ?_;intro u0;refine AB 0 ?_;refine zc ?_ ?_<;>intro hc0
 .refine zg ?_;refine dj (ba (ar (D.int .i64) ?_) (ar D.bool ?_));all_goals
   have:j0 s=false:=by
    simp only[j0];rcases hc0 with(h|h)|h
    .rw[bB (by omega:¬1<=s.length)];rfl
    .rw[bB (by omega:¬s.length<=9)];simp
    .rw[bg (by omega:1<s.length),bg h.2];simp
   simp[gM,this]
 refine zg ?_;have hP:j0 s=(bI (λi=>bE (at8 s i)) 0 s.length&&decide (e8 s<=9999)):=by
  simp only[j0];rw[bg (by omega:1<=s.length),bg (by omega:s.length<=9)];rcases hc0.2 with h|h
  .rw[bB (by omega:¬1<s.length)];rfl
  .rw[bB h,Bool.and_false];rfl
 refine zf hm (λi=>[.e (.str s),.u 3,.i i,.u 2,.i (e8 (s.take i):Nat),.u 1]) (λi=>[]) 22 (λi=>i<=s.length/\s.length<=9/\j0 s=(bI (λi=>bE (at8 s i)) i s.length&&decide (e8 s<=9999))) (λi=>s.length-i) ⟨ae,ae,hP⟩ [] ?_;rintro i ⟨hi,h9,hr⟩;refine zg ?_;intro u1;refine dT ?_ ?_<;>intro hc1
 .refine zg ?_;refine aH (λhc2=>?_) (λhc2=>?_)
  .try simp only[gL]at hc2
   refine zg ?_;refine dj (ba (ar (D.int .i64) ?_) (ar D.bool ?_));all_goals
    have:j0 s=false:=by rw[hr,ay ae,hc2];rfl
    simp[gM,this]
  simp only[cX]at hc2;refine cU ?_;have h48:=hc2;simp only[bE,aK,aX]at h48;have hn:=xw s i ae;have hn2:=Ax s i ae;have h256:=yF s i;refine cY ?_;refine qU ?_;refine dt ?_;refine vW (at8 s i-48) (hb:=λ_=>IntWalk.u8_in _ ae) ?_;refine m5 (at8 s i-48) (hb:=λ_=>IntWalk.i64_in _ ae) ?_;refine dt ?_;rw[show(e8 (s.take i):Int)*10+(at8 s i-48)=(e8 (s.take (i+1)):Nat)by omega];refine zl (i+1) [] ?_;exact⟨ae,h9,by rw[hr,ay ae,hc2];rfl⟩
 refine fw ?_;have ht:s.take i=s:=fE ae;rw[ht];refine aW ?_;refine oa ?_;refine aS (env':=[_,_,_,_,_,_,_,_,⟨_,(.bool _)⟩]) ?_;refine dT ?_ ?_<;>intro hc3
 .refine jX ?_;refine dj (ba (ar (D.int .i64) ?_) (ar D.bool ?_));all_goals
   have:j0 s=false:=by rw[hr,bB ae,Bool.and_false]
   simp[gM,this]
 refine ru ?_;refine dj (ba (ar (D.int .i64) ?_) (ar D.bool ?_));all_goals
  have:j0 s=true:=by rw[hr,bA ae,bg ae];rfl
  simp[gM,this]
def Iy:aj:=bd 194
def w668:uw (cn Y Iy):=λt=>by
 refine zg ?_;refine zf hm (λi=>[.e (.str t),.u 1,.i i,.u 2]) (λi=>[]) 2 (λi=>i<=t.length/\bI (λi=>bE (at8 t i)) 0 t.length=bI (λi=>bE (at8 t i)) i t.length) (λi=>t.length-i) ⟨ae,rfl⟩ [] ?_;rintro i ⟨hi,hr⟩;refine zg ?_;intro u0;refine dT ?_ ?_<;>intro hc0
 .refine zc ?_ ?_<;>intro hc1
  .refine zr ?_;simp only[cO];rw[hr,ay ae];rcases hc1 with h|h<;>simp[bE]<;>omega
  refine fM (i+1) [] ?_;rw[hr,ay ae];rw[show bE (at8 t i)=true by simp only[bE,aK,aX];omega];rfl
 refine zg ?_;intro u1;refine zr ?_;simp only[cO];rw[hr,bA ae];simp
def Z5:aj:=bd 192
def w666:Ka (cn Y Z5):=λt=>by
 refine zg ?_;intro u0;refine dT ?_ ?_<;>intro hc0
 .refine zr ?_;symm;simp only[wm,ew,b8];exact Or.inl ae
 refine zg ?_;refine zf hm (λi=>[.e (.str t),.u 2,.i i,.u 3]) (λi=>[]) 10 (λi=>i<=t.length/\wm t=bI (λi=>nd (at8 t i)) i t.length) (λi=>t.length-i) ⟨ae,by simp only[wm];rw[bg ae,bg ae];rfl⟩ [] ?_;rintro i ⟨hi,hr⟩;refine zg ?_;intro u1;refine dT ?_ ?_<;>intro hc1
 .refine eB ?_;refine kq ?_ hm;refine ax ?_;refine aW ?_;refine aW ?_;first|refine AB _ ?_|refine ZF ?_
  refine aW ?_;refine aS (env':=[_,_,_,_,_,⟨_,(.int _ _)⟩,_]) ?_;refine ax ?_;refine aW ?_;refine DH ?_;refine aW ?_;refine aW ?_;refine oa ?_;refine DI ?_;refine aW ?_;refine aW ?_;refine DH ?_;refine aW ?_;refine aW ?_;refine oa ?_;refine DI ?_;refine xK ?_;refine aW ?_;refine aW ?_;refine po ?_;refine xK ?_;refine aS (env':=[_,_,_,_,_,_,⟨_,(.bool _)⟩]) ?_;refine K5 ?_ ?_<;>intro hc2
  .refine zg ?_;refine zr ?_;rw[hr,ay ae];have:nd (at8 t i)=false:=(by simp only[nd,jN,bE,dX,ew,b8];omega);rw[this];rfl
  refine zg ?_;refine fM (i+1) [] ?_;rw[hr,ay ae];have:nd (at8 t i)=true:=(by simp only[nd,jN,bE,cW,aK,aX];omega);rw[this];rfl
 refine zr ?_;rw[hr,bA ae]
def Vk:aj:=bd 147
def w456 (hA:C470 Y)(hB:C666 Y)(hC:C667 Y)(hD:C668 Y):JD (cn Y Vk):=λs p hp0=>by
 refine zc ?_ ?_<;>intro hc0
 .refine zr ?_;simp[Eo,hc0]
 refine zg ?_;intro u0;refine aH (λhc1=>?_) (λhc1=>?_)
 .try simp only[gL]at hc1
  refine zr ?_;simp only[Eo,sY];rw[bB hc0,bB ae];rfl
 simp only[b8]at hc1;refine zg ?_;refine zf hm (λi=>[.e (.str s),.e (.bool p),.u 2,.m 1 (aQ s 46) D.str,.u 1,.i i,.u 4]) (λi=>[]) 10 (λi=>i<=(aQ s 46).length/\Eo s p=bI (λi=>ji p (aQ s 46)[i]!) i (aQ s 46).length) (λi=>(aQ s 46).length-i) ⟨ae,by simp only[Eo,sY];rw[bB hc0,bg ae];rfl⟩ [] ?_;rintro i ⟨hi,hr⟩;refine zg ?_;intro u1;refine dT ?_ ?_<;>intro hc2
 .refine zg ?_;refine aH (λhc3=>?_) (λhc3=>?_)
  .simp only[cg]at hc3;refine zr ?_;rw[hr,ay ae];simp only[ji,hc3];rfl
  simp only[cX]at hc3;refine zg ?_;refine wp_cond (λhc4=>?_) (λhc4=>?_)
  .skip
   refine zr ?_;have h5:ji p (aQ s 46)[i]! =false:=abn;rw[hr,ay ae,h5];rfl
  skip
  refine fM (i+1) [] ?_;rw[hr,ay ae];have h5:ji p (aQ s 46)[i]! =true:=abn;rw[h5];rfl
 refine zr ?_;rw[hr,bA ae]
def Z3:aj:=bd 146
def w455 (hm:(Y.at 0).bN):ue (cn Y Z3):=λn=>by
 exact mQ
def Z2:aj:=bd 98
def w217 (hm:(Y.at 0).bN)(hA:C455 Y)(hB:C456 Y):tV (cn Y Z2):=λv hp0=>by
 refine IY ?_;refine jX ?_;refine bX (hc:=λhf=>hB v.pre true hp0.1) ?_;refine fw ?_;refine bX (hc:=λhf=>hB v.build false hp0.2) ?_;exact mQ
def Ij:aj:=bd 225
def w70 (hA:Tx Y)(hB:yB Y)(hC:C210 Y)(hD:C211 Y)(hE:C212 Y)(hF:C213 Y)(hG:C214 Y)(hH:C215 Y):zN (cn Y Ij):=λr hp0=>by
 show dk _ _ _ (⟨true,Rec.D r⟩::.un::.un::.un::.un::.un::.un::.un::.un::.un::.un::.un::.un::.un::.un::.un::.un::.un::.un::.un::.un::.un::.un::.un::.un::.un::.un::.un::.un::.un::.un::.un::.un::.un::.un::.un::.un::.un::.un::[]) ⟨0,[]⟩;refine ax ?_;refine zg ?_;refine wp_cond (λhc0=>?_) (λhc0=>?_)
 .try simp only[gL]at hc0
  refine zg ?_;refine dj (ba (ar (D.int .i64) ?_) (ar (D.int .i64) ?_));all_goals (have hq:cV r=(4,0):=(by rw[cV,ak hc0]);rw[hq];first|done|rfl)
 simp only[cX]at hc0;refine dt ?_;refine aD (hc:=hB r.v hp0.1.2) ?_;refine zg ?_;refine wp_cond (λhc1=>?_) (λhc1=>?_)
 .try simp only[gL]at hc1
  refine zg ?_;refine dj (ba (ar (D.int .i64) ?_) (ar (D.int .i64) ?_));all_goals (have hq:cV r=(5,0):=(by rw[cV,ai jI,ak hc1]);rw[hq];first|done|rfl)
 simp only[cX]at hc1;refine zg ?_;intro u0;refine K5 ?_ ?_<;>intro hc2
 .refine zg ?_;refine dj (ba (ar (D.int .i64) ?_) (ar (D.int .i64) ?_));all_goals (have hq:cV r=(3,0):=(by rw[cV,ai jI,ai (by simp[hc1]),ak ae]);rw[hq];first|done|rfl)
 refine zg ?_;intro u1;refine gG hm (ι:=Nat) (λi=>(.un::.un::.un::⟨true,.ptr 0 9 0 0⟩::.un::.un::.un::⟨true,.int .i64 (i:Nat)⟩::⟨true,.int .i64 (r.needs.length:Nat)⟩::.un::⟨true,.sl 3 (r.needs.map bp.D)⟩::.un::.un::.un::.un::.un::.un::.un::.un::.un::.un::.un::.un::.un::.un::.un::.un::.un::.un::.un::.un::.un::.un::.un::.un::.un::.un::.un::.un::[])) (λi=>[(0,.buf 9 [Rec.D r])]) 28 (λi=>i<=r.needs.length/\lH r=gE (λi=>jy r r.needs[i]!) i r.needs.length) (λi=>r.needs.length-i) 0 ⟨ae,rfl⟩ (gtt [(0,0)]) ?_;rintro i ⟨hi,hr⟩;refine zc ?_ ?_<;>intro hc3
 .refine EI ?_;refine aD (hc:=hC r r.needs[i]! (hp0.2.1 _ (aq ae))) ?_;refine zc ?_ ?_<;>intro hc4
  .refine zg ?_;refine dj (ba (ar (D.int .i64) ?_) (ar (D.int .i64) ?_));all_goals
    have hq:cV r=(jy r r.needs[i]!,((i:Nat):Int)):=by
     exact pM hc0 hc1 ae ae (MT (by rw[hr,gF ae hc4]) hc4) hc4
    rw[hq];first|done|rfl
  refine fM (i+1) [(0,0)] ?_;rw[hr,ke ae hc4]
 refine fw ?_;have hn0:lH r=(0,0):=by rw[hr,kd ae]
 refine zg ?_;intro u2;refine gG hm (ι:=Nat) (λi=>(.un::.un::.un::⟨true,.ptr 0 9 0 0⟩::.un::.un::.un::.un::.un::.un::.un::.un::.un::.un::.un::⟨true,.int .i64 (i:Nat)⟩::⟨true,.int .i64 (r.bars.length:Nat)⟩::.un::⟨true,.sl 3 (r.bars.map mF.D)⟩::.un::.un::.un::.un::.un::.un::.un::.un::.un::.un::.un::.un::.un::.un::.un::.un::.un::.un::.un::.un::[])) (λi=>[(0,.buf 9 [Rec.D r])]) 33 (λi=>i<=r.bars.length/\uQ r=gE (λi=>sb r r.bars[i]!) i r.bars.length) (λi=>r.bars.length-i) 0 ⟨ae,rfl⟩ (gtt [(0,0)]) ?_;rintro i ⟨hi,hr⟩;refine zc ?_ ?_<;>intro hc5
 .refine jb ?_;refine dt ?_;refine aD (hc:=hD r r.bars[i]!.name r.bars[i]!.range (hp0.2.2.1 _ (aq ae)).2.1) ?_;refine zg ?_;refine aH (λhc6=>?_) (λhc6=>?_)
  .simp only[cg,b8]at hc6;have hbe:sb r r.bars[i]! =gB r r.bars[i]!.name r.bars[i]!.range:=by rw[sb,ak hc6]
   refine zg ?_;refine dj (ba (ar (D.int .i64) ?_) (ar (D.int .i64) ?_));all_goals
    have hq:cV r=(gB r r.bars[i]!.name r.bars[i]!.range,((i:Nat):Int)):=by
     exact pM hc0 hc1 ae ae (Du hn0 (by rw[hr,gF ae (by rw[hbe];exact hc6),hbe]) hc6) hc6
    rw[hq];first|done|rfl
  try simp only[gL]at hc6
  refine fw ?_;refine aD (hc:=hE r.bars[i]!.when' (hp0.2.2.1 _ (aq ae)).2.2) ?_;refine zg ?_;refine wp_cond (λhc7=>?_) (λhc7=>?_)
  .simp only[cg]at hc7;have hbe:sb r r.bars[i]! =7:=by rw[sb,ai (λh=>h hc6),ak hc7]
   refine zg ?_;refine dj (ba (ar (D.int .i64) ?_) (ar (D.int .i64) ?_));all_goals
    have hq:cV r=((7:Int),((i:Nat):Int)):=by
     exact pM hc0 hc1 ae ae (Du hn0 (by rw[hr,gF ae (by rw[hbe];decide),hbe]) (show(7:Int)≠0 by decide)) (show(7:Int)≠0 by decide)
    rw[hq];first|done|rfl
  simp only[cX]at hc7;have hbz:sb r r.bars[i]! =0:=by rw[sb,ai (λh=>h hc6),ai (by rw[hc7];simp)]
  refine fM (i+1) [(0,0)] ?_;rw[hr,ke ae hbz]
 refine fw ?_;have hb0:uQ r=(0,0):=by rw[hr,kd ae]
 refine cU ?_;refine aD (hc:=hF r.feats hp0.2.2.2) ?_;refine zg ?_;refine aH (λhc8=>?_) (λhc8=>?_)
 .try simp only[gL]at hc8
  refine zg ?_;refine dj (ba (ar (D.int .i64) ?_) (ar (D.int .i64) ?_));all_goals
   have hq:cV r=(11,0):=by
    exact pM hc0 hc1 ae ae (MU hn0 hb0 hc8) a7
   rw[hq];first|done|rfl
 simp only[cX]at hc8;refine zg ?_;intro u3;refine gG hm (ι:=Nat) (λi=>(.un::.un::.un::⟨true,.ptr 0 9 0 0⟩::.un::.un::.un::.un::.un::.un::.un::.un::.un::.un::.un::.un::.un::.un::.un::.un::.un::.un::.un::.un::.un::⟨true,.int .i64 (i:Nat)⟩::⟨true,.int .i64 (r.feats.length:Nat)⟩::.un::⟨true,.sl 2 (r.feats.map bY.D)⟩::.un::.un::.un::.un::.un::.un::.un::.un::.un::.un::[])) (λi=>[(0,.buf 9 [Rec.D r])]) 42 (λi=>i<=r.feats.length/\Hr r=gE (λi=>mI r r.feats[i]!.of) i r.feats.length) (λi=>r.feats.length-i) 0 ⟨ae,rfl⟩ (gtt [(0,0)]) ?_;rintro i ⟨hi,hr⟩;refine zc ?_ ?_<;>intro hc9
 .refine zg ?_;intro u4;refine B5 hm (ι:=Nat) (λj=>(.un::.un::.un::⟨true,.ptr 0 9 0 0⟩::.un::.un::.un::.un::.un::.un::.un::.un::.un::.un::.un::.un::.un::.un::.un::.un::.un::.un::.un::.un::.un::⟨true,.int .i64 (i:Nat)⟩::⟨true,.int .i64 (r.feats.length:Nat)⟩::.un::⟨true,.sl 2 (r.feats.map bY.D)⟩::.un::⟨true,.int .i64 (j:Nat)⟩::⟨true,.int .i64 (r.feats[i]!.of.length:Nat)⟩::.un::⟨true,.sl 1 (r.feats[i]!.of.map D.str)⟩::.un::.un::.un::⟨true,.int .i64 (i:Nat)⟩::.un::[])) (λj=>[(0,.buf 9 [Rec.D r])]) 53 (λj=>j<=r.feats[i]!.of.length/\mI r r.feats[i]!.of=fQ (λj=>nW r r.feats[i]!.of[j]!) j r.feats[i]!.of.length) (λj=>r.feats[i]!.of.length-j) 0 ⟨ae,rfl⟩ (gtt [(0,0)]) ?_;rintro j ⟨hj,hjr⟩;refine zc ?_ ?_<;>intro hc10
  .refine qp ?_;refine aD (hc:=hG r r.feats[i]!.of[j]! (jn.it hp0.2.2.2 _ (aq ae) _ (aq ae))) ?_;refine zc ?_ ?_<;>intro hc11
   .refine zg ?_;refine dj (ba (ar (D.int .i64) ?_) (ar (D.int .i64) ?_));all_goals
     have hq:cV r=(nW r r.feats[i]!.of[j]!,((i:Nat):Int)):=by
      have hie:mI r r.feats[i]!.of=nW r r.feats[i]!.of[j]! :=by rw[hjr,lE ae hc11]
      exact pM hc0 hc1 ae ae (xG hn0 hb0 hc8 (by rw[hr,gF (f:=(λi=>mI r r.feats[i]!.of)) ae (by rw[hie];exact hc11),hie])) hc11
     rw[hq];first|done|rfl
   refine fM (j+1) [(0,0)] ?_;rw[hjr,pQ ae hc11]
  refine fM (i+1) [(0,0)] ?_;rw[hr,ke (f:=(λi=>mI r r.feats[i]!.of)) ae (by rw[hjr,pP ae])]
 refine fw ?_;have hpz:er r=(0,0):=xG hn0 hb0 hc8 (by rw[hr,kd ae]);have hgd:FY r:=⟨⟨hc0,hc1⟩,⟨ae,ae⟩,hpz⟩;refine iF ?_;refine aD (hc:=hH r ⟨hgd,hp0⟩) ?_;refine DG λu5=>?_;specialize u5 rfl rfl
 refine oa ?_;refine aS (env':=(_::_::_::_::_::_::_::_::_::_::_::_::_::_::_::_::_::_::_::_::_::_::_::_::_::_::_::_::_::_::_::_::_::_::_::_::_::_::⟨_,(.bool _)⟩::[])) ?_;refine dT ?_ ?_<;>intro hc12
 .refine zg ?_;refine dj (ba (ar (D.int .i64) ?_) (ar (D.int .i64) ?_));all_goals
   have hq:cV r=(3,0):=by
    rw[wP hc0 hc1 ae ae hpz,ak ae]
   rw[hq];first|done|rfl
 refine zg ?_;refine dj (ba (ar (D.int .i64) ?_) (ar (D.int .i64) ?_));all_goals
  have hq:cV r=(0,0):=by
   rw[wP hc0 hc1 ae ae hpz,ai ae]
  rw[hq];first|done|rfl
def Hn:aj:=bd 81
def w410 (hA:C273 Y)(hB:C623 Y)(hC:C624 Y):Jw (cn Y Hn):=λw c hp0=>by
 refine pz ?_;refine aD (hc:=hA (w) (c) (by first|assumption|omega|exact hp0.1|exact hmn _ (aq ae)|exact hmb _ (aq ae))) ?_;refine zg ?_;refine aH (λhc0=>?_) (λhc0=>?_)
 .try simp only[gL]at hc0
  refine zr ?_;rw[show rq w c=[]from ak hc0];rfl
 simp only[cX]at hc0;have hml:=YB hc0;have hwl:=Ou hp0.1 hc0;refine ru ?_;refine cC (0) (hj:=λhf=>ct) (hb:=λhf=>ct) ?_;refine zc ?_ ?_<;>intro hc1
 .exact absurd hc1 (by have:=hp0.2;omega)
 refine zg ?_;intro u0;refine zf hm (λu=>[.u 1,.m 1 c (D.int .i64),.u 1,.p 1 1,.u 2,.o 0 3 (ja w c u).length,.i u,.i c.length,.u 1,.m 1 c (D.int .i64),.u 18]) (λu=>[(0,.buf 3 ((ja w c u).map Ld.D)),(1,.buf 1 [cA.D w])]) 14 (λu=>u<=c.length) (λu=>c.length-u) ae [(0,1)] ?_;intro u hu;have hlu:=hwl u hu;refine zc ?_ ?_<;>intro hc2
 .refine zc ?_ ?_<;>intro hc3
  .refine zg ?_;rw[show ja w c u=ja w c (u+1)from(aaU hc3).symm];exact ir (u+1) [(0,0),(1,1)]
  refine cU ?_;have hone:=ad5 (u:=u) hp0 hc0 ae ae;obtain⟨⟨hk,hkc⟩,⟨hl1,hl2⟩,hmn,hmb⟩:=H0 hone;have hul:u<w.us.length:=by have:=(oK hone.2.1).1;omega
  refine pz ?_;refine dm (v:=fj.D (bJ w c u)) (hi:=λ_=>ae) ?_;refine zg ?_;intro u1;rw[show ja w c u=(ja w c u++ku w c u (bJ w c u).needs 0)from(fZ _).symm];refine zf hm (λk=>[.u 1,.m 1 c (D.int .i64),.u 1,.p 1 1,.u 2,.o 0 3 (ja w c u++ku w c u (bJ w c u).needs k).length,.i u,.i c.length,.u 1,.m 1 c (D.int .i64),.u 2,.i u,.p 2 8,.i k,.i ((bJ w c u).needs.length:Nat),.u 1,.m 1 (bJ w c u).needs jC,.u 10]) (λk=>[(0,.buf 3 ((ja w c u++ku w c u (bJ w c u).needs k).map Ld.D)),(1,.buf 1 [cA.D w]),(2,.buf 8 [fj.D (bJ w c u)])]) 37 (λk=>k<=(bJ w c u).needs.length) (λk=>(bJ w c u).needs.length-k) ae [(0,0),(1,1),(31,2)] ?_;intro k hk1;have hlk:=xp (w:=w) (c:=c) (u:=u) (l:=(bJ w c u).needs) k;have hlt:(ja w c u++ku w c u (bJ w c u).needs k).length<=2400:=by rw[bV];omega
  refine zc ?_ ?_<;>intro hc4
  .refine k9 ?_;refine dm (v:=.sl 3 ((((bJ w c u).needs)[k]!).map Want.D)) (hi:=λhf=>ct) ?_;refine zg ?_;refine wp_cond (λhc5=>?_) (λhc5=>?_)
   .simp only[cg]at hc5;have hst:(ja w c u++ku w c u (bJ w c u).needs k)++[⟨2,((u:Nat):Int),((k:Nat):Int)⟩]=(ja w c u++ku w c u (bJ w c u).needs (k+1)):=by rw[YK hc5,fF]
    refine fw ?_;refine aV (Ld.D ⟨2,((u:Nat):Int),((k:Nat):Int)⟩) ?_;refine bj [Ld.D ⟨2,((u:Nat):Int),((k:Nat):Int)⟩] ?_;refine cR (q:=Ld.D) (xs:=(ja w c u++ku w c u (bJ w c u).needs k)) (e:=⟨2,((u:Nat):Int),((k:Nat):Int)⟩) (hb:=ae) ?_;refine zg ?_;rw[hst];exact ir (k+1) [(53,0),(1,1),(2,2)]
   simp only[cX]at hc5;have hst:(ja w c u++ku w c u (bJ w c u).needs k)=(ja w c u++ku w c u (bJ w c u).needs (k+1)):=by rw[YL hc5]
   refine zg ?_;rw[hst];exact ir (k+1) [(0,0),(1,1),(2,2)]
  refine cU ?_;obtain rfl:k=(bJ w c u).needs.length:=ae;refine zg ?_;intro u2;rw[show(ja w c u++ku w c u (bJ w c u).needs (bJ w c u).needs.length)=((ja w c u++ku w c u (bJ w c u).needs (bJ w c u).needs.length)++pJ w c u (bJ w c u).bars 0)from(fZ _).symm];refine zfL hm (λq=>[.u 1,.m 1 c (D.int .i64),.u 1,.p 1 1,.u 2,.o 0 3 ((ja w c u++ku w c u (bJ w c u).needs (bJ w c u).needs.length)++pJ w c u (bJ w c u).bars q).length,.i u,.i c.length,.u 1,.m 1 c (D.int .i64),.u 2,.i u,.p 2 8,.u 7,.i q,.i ((bJ w c u).bars.length:Nat),.u 1,.m 3 (bJ w c u).bars Want.D,.u 3]) (λq=>[(0,.buf 3 (((ja w c u++ku w c u (bJ w c u).needs (bJ w c u).needs.length)++pJ w c u (bJ w c u).bars q).map Ld.D)),(1,.buf 1 [cA.D w]),(2,.buf 8 [fj.D (bJ w c u)])]) 42 (λq=>q<=(bJ w c u).bars.length) (λq=>(bJ w c u).bars.length-q) ae [(0,0),(1,1),(2,2)] ?_;intro q hq;have hlq:=Cj (w:=w) (c:=c) (u:=u) (b:=(bJ w c u).bars) q;have hlk:=xp (w:=w) (c:=c) (u:=u) (l:=(bJ w c u).needs) (bJ w c u).needs.length;have hlt:((ja w c u++ku w c u (bJ w c u).needs (bJ w c u).needs.length)++pJ w c u (bJ w c u).bars q).length<=2400:=by rw[bV,bV];omega
  refine zc ?_ ?_<;>intro hc6
  .refine zg ?_;refine wp_cond (λhc7=>?_) (λhc7=>?_)
   .have hst:((ja w c u++ku w c u (bJ w c u).needs (bJ w c u).needs.length)++pJ w c u (bJ w c u).bars q)++[⟨3,((u:Nat):Int),((q:Nat):Int)⟩]=((ja w c u++ku w c u (bJ w c u).needs (bJ w c u).needs.length)++pJ w c u (bJ w c u).bars (q+1)):=by rw[WG hc7,<-fF]
    refine fw ?_;refine aV (Ld.D ⟨3,((u:Nat):Int),((q:Nat):Int)⟩) ?_;refine bj [Ld.D ⟨3,((u:Nat):Int),((q:Nat):Int)⟩] ?_;refine cR (q:=Ld.D) (xs:=((ja w c u++ku w c u (bJ w c u).needs (bJ w c u).needs.length)++pJ w c u (bJ w c u).bars q)) (e:=⟨3,((u:Nat):Int),((q:Nat):Int)⟩) (hb:=ae) ?_;refine zg ?_;rw[hst];exact ir (q+1) [(58,0),(1,1),(2,2)]
   have hst:((ja w c u++ku w c u (bJ w c u).needs (bJ w c u).needs.length)++pJ w c u (bJ w c u).bars q)=((ja w c u++ku w c u (bJ w c u).needs (bJ w c u).needs.length)++pJ w c u (bJ w c u).bars (q+1)):=by rw[WE hc7]
   refine zg ?_;rw[hst];exact ir (q+1) [(0,0),(1,1),(2,2)]
  refine zg ?_;obtain rfl:q=(bJ w c u).bars.length:=ae;rw[aaV ae];exact ir (u+1) [(0,0),(1,1)]
 refine cU ?_;obtain rfl:u=c.length:=ae;rw[show ja w c c.length=rq w c from(ai (by rw[hc0];simp)).symm];refine bD 0 ?_;exact mQ
def qY:aj:=⟨2,12,[⟨2,none⟩],[[.sl 1 [.sl 4 [.a,.a,.sl 14 [.a,.a,.a,.a,.a,.a,.a,.a,.a,.a,.a,.a,.a,.a],.sl 14 [.a,.a,.a,.a,.a,.a,.a,.a,.a,.a,.a,.a,.a,.a]]]]],(sq (rg [gb 8 s0,gb 2 s1,gm (.c (.aR))] [(5,0),(3,1),(2,2)]) (sq (sq (r1 [gk 2 true s3,gn (.build [.str [],.str []] []),gn (.eqA false true [.s,.s] l0 l1)] 4 2) (.cond s4 (sq (r1 [gk 8 true s5,gn (.callM 751 [l0]),gm l1] 2 2) .ret) .skip)) (sq (r1 [gm (.c (.aR))] 10 0) (sq (sq (rg [gk 8 true s5,gk 2 true s3,gn (.callM 752 [l0,l1]),gl l2,gm yW] [(9,2),(7,3),(6,4)]) (.block 0 (.loop (sq (r1 [mL s6 s7] 8 0) (sq (gce s8 0) (sq (.block 1 (sq (r1 [ga 10 s9 s6,gk 10 true l0,gb 10 (.c (.agg [.str [],.int .i64 0,.int .i64 0,.int .i64 0,.str [],.str [],.aR,.aR,.aR,.int .i64 0])),gt 10 l2 l1] 11 2) (r1 [gm s10,gf 0 VR,gk 9 true l1,gf 2 s5,gk 3 true l3,gf 1 s3,gd l5,gx 753 [l2,l4,l6] [zzh1,[.a,.a,.a],[.a]],gn (.app 1 l0 l7),gm l8] 10 9))) (r1 [pj s6 R2,gm l0] 6 1))))))) (sq (r1 [gm s10,gm l0] 2 1) .ret)))))⟩
def w748 (hm:(Y.at 3).bN)(y:cx)(ns:List av)(k:Key)(hA:C751 (Y.at 3))(hB:C752 (Y.at 3))(hC:C753 (Y.at 3))(hp0:qy y/\kF y.e)(hp1:ns.length<=998):dk (Y.at 3) qY.body (wD qY (Lg y (jq ns k) (.sl 1 ((cZ y k).map dU))):Ex->List aY->St->Prop) (fP qY [cx.D y (.ptr 0 2 0 0),Key.D k]) ⟨3,[(0,.buf 2 [eN 1 2 ns.length]),(1,.buf 1 (ns.map D.str)),(2,.buf 1 (df y ns))]⟩:=by
 show dk _ _ _ [⟨true,cx.D y (.ptr 0 2 0 0)⟩,⟨true,Key.D k⟩,.un,.un,.un,.un,.un,.un,.un,.un,.un,.un] ⟨3,[(0,.buf 2 [eN 1 2 ns.length]),(1,.buf 1 (ns.map D.str)),(2,.buf 1 (df y ns))]⟩;refine ax ?_;refine ru ?_;refine aV (Key.D fI) ?_;refine zc ?_ ?_<;>intro hc0
 .refine dt ?_;refine dS (nx':=11) (v:=.sl 1 ((eH y.l).map dU)) (m':=[(10,.buf 1 ((ns).map D.str)),(11,.buf 1 (df y (ns))),(0,.buf 2 [eN 10 11 (ns).length]),(3,.buf 8 [cx.D y (.ptr 0 2 0 0)]),(4,.buf 2 [Key.D k])]) (hc:=λK' hK=>hA y ns hp0.1.m (Tf hp0.1.p) _ 0 1 2 _ K' eI eI eI a7 ⟨rfl,rfl,rfl⟩ hK) (hn:=a7) ?_;refine zg ?_;refine gP trivial lO (dY ah (?_)) ah ⟨by first|(rw[SQ hc0];done)|(rw[SQ hc0];exact rfl),10,11,⟨ae,ae,ae⟩,by rw[Yh hc0];refine⟨?_, ?_, ?_⟩<;>first|exact rfl|(rw[nv];exact rfl)|(rw[nu];exact rfl)⟩;rfl
 refine pz ?_;refine dS (nx':=12) (v:=uK (eG y k)) (m':=[(12,.buf 1 ((eU ns k.n).map D.str)),(13,.buf 1 (df y (eU ns k.n))),(0,.buf 2 [eN 12 13 (eU ns k.n).length]),(3,.buf 8 [cx.D y (.ptr 0 2 0 0)]),(4,.buf 2 [Key.D k])]) (hc:=λK' hK=>hB y ns k hp0.1.p ae _ 0 1 2 _ K' eI eI eI a7 ⟨rfl,rfl,rfl⟩ hK) (hn:=a7) ?_;refine cU ?_;intro u0;refine aS (env':=[_,_,_,_,_,_,⟨_,(.int _ _)⟩,⟨_,(.int _ _)⟩,_,⟨_,(.sl _ _)⟩,_,_]) ?_;refine zf hm (λi=>[.u 3,.p 4 2,.u 1,.p 3 8,.i i,.i ((eG y k).length:Nat),.u 1,.m 10 (eG y k) uG.D,.o 7 1 (((eG y k).take i).flatMap λx=>cJ x.r y.e k.f).length,.u 1]) (λi=>[(0,.buf 2 [eN 5 6 (eU ns k.n).length]),(5,.buf 1 ((eU ns k.n).map D.str)),(6,.buf 1 (df y (eU ns k.n))),(3,.buf 8 [cx.D y (.ptr 0 2 0 0)]),(4,.buf 2 [Key.D k]),(7,.buf 1 ((((eG y k).take i).flatMap λx=>cJ x.r y.e k.f).map dU))]) 20 (λi=>i<=(eG y k).length) (λi=>(eG y k).length-i) ae [(12,5),(13,6),(3,3),(4,4)] ?_;intro i hi;have hof:=(xy hp0.1.p k).1;have hrl:=ij (f:=λx:uG=>cJ x.r y.e k.f) (B:=385) (l:=(eG y k).take i) λx hx=>(lI ((xy hp0.1.p k).2 x (Ep hx)).1).1
 rw[ey]at hrl;refine zc ?_ ?_<;>intro hc1
 .refine jX ?_;refine br _ ?_;refine cU ?_;obtain⟨hxp,hxv⟩:=af4 hp0.1 (k:=k) (i:=i) ae;have hql:=(lI (e:=y.e) (ft:=k.f) hxp).1;refine pz ?_;refine pn (q:=dU) (xs:=(((eG y k).take i).flatMap λx=>cJ x.r y.e k.f)) (ys:=cJ (eG y k)[i]!.r y.e k.f) (he:=nk.sl) (hb:=ae) ?_;refine zg ?_;rw[<-nQ (f:=λx:uG=>cJ x.r y.e k.f) (l:=eG y k) (i:=i) ae];exact ir (i+1) [(3,3),(4,4),(5,5),(6,6),(33,7)]
 refine cU ?_;obtain rfl:i=(eG y k).length:=ae;rw[List.take_length];refine bD 7 ?_;refine zg ?_;refine gP trivial lO (dY ah (?_)) ah ⟨by first|(rw[SP hc0];done)|(rw[SP hc0];exact rfl),5,6,⟨ae,ae,ae⟩,by rw[Pg hc0];refine⟨?_, ?_, ?_⟩<;>first|exact rfl|(rw[nv];exact rfl)|(rw[nu];exact rfl)⟩;rfl
def Pv:aj:=bd 13
def w312 (hA:C220 Y)(hB:C315 Y)(hC:C497 Y)(hD:C548 Y)(hE:C549 Y):Jj (cn Y Pv):=λl hp0=>by
 show dk _ _ _ [⟨_,_⟩,_,_,_,_,_,_,_,_,_,_,_,_,_,_,_] _;have hsz:=hp0.1;have hen:=hp0.2.2;have hh:=FZ l.env hen;refine ax ?_;refine zg ?_;refine aH (λhc0=>?_) (λhc0=>?_)
 .simp only[cg]at hc0;refine zg ?_;refine dj (ba (ar D.str ?_) (ar (D.int .i64) ?_));all_goals simp[prS,prE,hc0]
 simp only[cX]at hc0;refine zg ?_;refine zf hm (λi=>[.u 3,.p 0 4,.u 1,.i i,.u 1,.e (Env.D l.env),.e (.str (CR l.env i)),.u 7]) (λi=>[(0,.buf 4 [jE.D l])]) 11 (λi=>i<=3) (λi=>3-i) ae [(0,0)] ?_;intro i hi;have h1:=hh i;refine zc ?_ ?_<;>intro hc1
 .refine dt ?_;refine af8 i (.str (l.env.at i)) (hv:=λ_=>Env.cut l.env ae) ?_;refine dt ?_;have h2:=tp (l.env.at i);have h3:=hen i;refine zg ?_;exact⟨i+1,ae,ae,(aZ.to [(0,0)] ah ah (by repeat(first|exact eX.nil|refine eX.un ?_|refine eX.eq ah ?_|refine eX.nl (ar D.str (by simp[CR])) ah ?_)) xJ)⟩
 refine dt ?_;have h33:i=3:=ae;subst h33;refine zg ?_;intro u0;refine gG hm (ι:=Nat) (λi=>[.un,.un,.un,⟨true,.ptr 0 4 0 0⟩,.un,.un,.un,.un,⟨true,.str (F0 l.env++qJ (l.lines.take i))⟩,.un,⟨true,.int .i64 (i:Nat)⟩,⟨true,.int .i64 (l.lines.length:Nat)⟩,.un,⟨true,.sl 9 (l.lines.map ea.D)⟩,.un,.un]) (λi=>[(0,.buf 4 [jE.D l])]) 19 (λi=>i<=l.lines.length) (λi=>l.lines.length-i) 0 ae (aZ.to [(0,0)] ah ah (by repeat(first|exact eX.nil|refine eX.un ?_|refine eX.eq ah ?_|refine eX.nl (ar D.str (by simp[qJ,F0])) ah ?_)) xJ) ?_;intro i hi;have l1:=Pq (l.lines.take i) eJ (λx hx=>hp0.2.1 x (zQ hx));have h0:(F0 l.env).length<=3145790:=by simp only[F0,bV,bH,b7];omega
 refine zc ?_ ?_<;>intro hc2
 .refine jX ?_;refine br _ ?_;refine cU ?_;have hx:=hp0.2.1 _ (aq (show i<l.lines.length by omega));have h5:=Mn _ hx;refine cU ?_;refine aV (ea.D l.lines[i]!) ?_;refine zg ?_;have hq:=Mj l.lines i ae;exact⟨i+1,ae,ae,(aZ.to [(0,0)] ah ah (by repeat(first|exact eX.nil|refine eX.un ?_|refine eX.eq ah ?_|refine eX.nl (ar D.str (by rw[hq];simp[fF])) ah ?_)) xJ)⟩
 refine dt ?_;have ht:l.lines.take i=l.lines:=fE ae;rw[ht]at l1⊢;have hbo:F0 l.env++qJ l.lines=uR l:=rfl;rw[hbo];have l2:(uR l).length<=1153100000003145790:=by simp only[uR,bV];omega
 have l3:=ju (En (uR l));refine dt ?_;refine aD (hc:=hA (uR l)) (ha:=λ_=>ar (λd=>[d]) (lX (q:=λb:UInt8=>D.int .u8 b.toNat) (λ_=>rfl) ah)) (hp:=λ_=>⟨jT (q:=λb:UInt8=>D.int .u8 b.toNat) (λ_=>rfl) ah,trivial⟩) ?_;refine jX ?_;rw[show uR l++([115,117,109,32]++jA (En (uR l))++[10])=Fi l by simp[Fi]];refine fw ?_;intro u1;refine oa ?_;refine aS (env':=[_,_,_,_,_,_,_,_,_,_,_,_,_,_,_,⟨_,(.bool _)⟩]) ?_;refine dT ?_ ?_<;>intro hc3
 .refine cF ?_;refine ax ?_;refine aW ?_;refine aW ?_;refine aS (env':=[_,⟨_,(.str _)⟩,⟨_,(.int _ _)⟩,_,_,_,_,_,_,_,_,_,_,_,_,_]) ?_;refine kr ?_;refine dj (ba (ar D.str ?_) (ar (D.int .i64) ?_));all_goals
   have h9:¬(Fi l).length<=8192:=ae;simp[prS,prE,hc0,h9]
 refine eB ?_;refine ax ?_;refine aW ?_;refine aW ?_;refine aW ?_;refine aS (env':=[_,⟨_,(.str _)⟩,⟨_,(.int _ _)⟩,_,_,_,_,_,_,_,_,_,_,_,_,_]) ?_;refine wp_ret ?_;refine dj (ba (ar D.str ?_) (ar (D.int .i64) ?_));all_goals
  have h9:(Fi l).length<=8192:=ae;simp[prS,prE,hc0,h9]
def NC:aj:=bd 112
def w693 (hA:C184 Y)(hB:C829 Y):Kh (cn Y NC):=λm al c hp0=>by
 refine cY ?_;obtain⟨⟨hmp,hcp⟩,rfl⟩:=hp0;have hfp:=LS hmp hcp;have hml:=hmp.1;have hcl:=hcp.1;refine ru ?_;refine cC 0 (hj:=λ_=>ae) (hb:=λ_=>ae) ?_;refine zc ?_ ?_<;>intro hc0
 .refine zr ?_;unfold eg;rw[ak hc0];rfl
 refine zg ?_;refine zf hm (λu=>[.u 1,.m 1 ([]:List Int) (D.int .i64),.m 1 c (D.int .i64),.u 3,.i u,.u 5,.p 0 3,.u 4]) (λu=>[(0,.buf 3 [j9.D m])]) 8 (λu=>u<=c.length) (λu=>c.length-u) ae [(0,0)] ?_;intro u hu;refine zg ?_;intro u0;refine dT ?_ ?_<;>intro hc1
 .refine zg ?_;refine wp_cond (λhc2=>?_) (λhc2=>?_)
  ·

   exfalso;revert hc2;cases decide (c[u]! <0)<;>decide
  try simp only[gL]at hc2
  exact ir (u+1) [(0,0)]
 refine zg ?_;refine zf hm (λu=>[.u 1,.m 1 ([]:List Int) (D.int .i64),.m 1 c (D.int .i64),.u 6,.i u,.u 2,.p 0 3,.u 4]) (λu=>[(0,.buf 3 [j9.D m])]) 13 (λu=>u<=c.length/\mY m c=mH (xA m c) (c.length-u) u) (λu=>c.length-u) ⟨ae,rfl⟩ [(0,0)] ?_;rintro u ⟨hu,hr⟩;refine zg ?_;intro u1;refine dT ?_ ?_<;>intro hc3
 .refine zg ?_;refine aH (λhc4=>?_) (λhc4=>?_)
  .try simp only[gL]at hc4
   refine fM (u+1) [(0,0)] ?_;rw[hr,He ae (by unfold xA;rw[bg hc4];rfl)]
  simp only[b8]at hc4;obtain⟨v,hv⟩:∃v:Nat,c[u]! =(v:Int):=⟨c[u]!.toNat,ae⟩
  have hfu:=hfp.2 u ae ae;rw[hv,Int.toNat_natCast]at hfu;have hro:ID m c u=mH (λk=>kf c m.needs[u]![v]![k]!) m.needs[u]![v]!.length 0:=by unfold ID;rw[hv,Int.toNat_natCast]
  have hou:xA m c u=decide (ID m c u=m.needs[u]![v]!.length):=by unfold xA;rw[hv,Int.toNat_natCast,bB (show ¬((v:Nat):Int)<0 by omega),Bool.false_or]
  refine jX ?_;refine dm (v:=.sl 1 (((m.needs)[u]!).map oE)) (hi:=λhf=>ct) ?_;refine k9 ?_;refine dm (v:=.sl 1 (m.needs[u]![v]!.map IL)) (hi:=λ_=>ae) ?_;refine zg ?_;refine zfL hm (λk=>[.u 1,.m 1 ([]:List Int) (D.int .i64),.m 1 c (D.int .i64),.u 6,.i u,.u 2,.p 0 3,.i k,.m 1 (m.needs[u]![v]!) IL,.u 2]) (λk=>[(0,.buf 3 [j9.D m])]) 35 (λk=>k<=m.needs[u]![v]!.length/\ID m c u=mH (λk=>kf c m.needs[u]![v]![k]!) (m.needs[u]![v]!.length-k) k) (λk=>m.needs[u]![v]!.length-k) ⟨ae,by rw[hro];rfl⟩ [(0,0)] ?_;rintro k ⟨hk,hr2⟩;refine zg ?_;intro u2;refine dT ?_ ?_<;>intro hc5
  .refine ru ?_;refine dm (v:=.sl 2 (((m.needs[u]![v]!)[k]!).map ec.D)) (hi:=λhf=>ct) ?_;refine zg ?_;refine wp_cond (λhc6=>?_) (λhc6=>?_)
   .have hk6:ID m c u=k:=hr2.trans (Rw (f:=λk=>kf c m.needs[u]![v]![k]!) ae (by simpa using hc6));refine zr ?_;have h5:mY m c=u:=by rw[hr,Rw ae (by rw[hou,hk6];exact bB ae)]
    unfold eg;rw[ai hc0,ak ae,h5,hk6];rfl
   try simp only[gL]at hc6
   refine fM (k+1) [(0,0)] ?_;exact hr2.trans (He (f:=λk=>kf c m.needs[u]![v]![k]!) ae hc6)
  refine fM (u+1) [(0,0)] ?_;rw[hr,He ae (by rw[hou,hr2,Lv ae];exact bg ae)]
 refine zr ?_;have h5:mY m c=u:=by rw[hr,Lv ae]
 unfold eg;rw[ai hc0,ai ae];rfl
def U5:aj:=bd 62
def w504 (hA:C75 Y)(hB:V2 Y)(hC:C580 Y):JO (cn Y U5):=λs r hp0=>by
 refine zc ?_ ?_<;>intro hc0
 .refine cU ?_;refine cq [.str [],.aR] ?_;refine zr ?_;rw[put_1 hc0];rfl
 refine zc ?_ ?_<;>intro hc1
 .refine cY ?_;refine cq [.str [],.aR] ?_;refine zr ?_;rw[put_2 hc0 hc1];rfl
 refine ru ?_;refine aD (hc:=hC (s.es) (r.name) (r.v) (by first|assumption|exact hp0.1|exact hp0.2|exact⟨λx hx=>(hp0.1 x hx).1.2,hp0.2.1.2⟩)) ?_;refine zc ?_ ?_<;>intro hc2
 .refine cY ?_;refine cq [.str [],.aR] ?_;refine zr ?_;rw[put_3 hc0 hc1 hc2];rfl
 refine zg ?_;intro u0;refine K5 ?_ ?_<;>intro hc3
 .refine cY ?_;refine cq [.str [],.aR] ?_;refine zr ?_;rw[put_4 hc0 hc1 hc2 ae];rfl
 refine cU ?_;refine bD 0 ?_ (he:=abh) (hm:=abh);refine cU ?_;refine qT (v:=.str s.name) ?_;refine cU ?_;refine BZ (he:=nk.sl) (n:=s.es.length) (hn:=aF) (hb:=ae) ?_;refine cU ?_;refine aV (j8.D (⟨r,wj r,false⟩:j8)) ?_;refine bj [j8.D (⟨r,wj r,false⟩:j8)] ?_;refine cR (q:=j8.D) (xs:=s.es) (e:=(⟨r,wj r,false⟩:j8)) (hb:=ae) ?_;refine cq [.str s.name,.own 40 11 0 (s.es++[(⟨r,wj r,false⟩:j8)]).length] ?_;refine dt ?_;refine bD 40 ?_;refine zr ?_;rw[put_5 hc0 hc1 hc2 ae];rfl
def Qc:aj:=bd 61
def w503 (hm:(Y.at 0).bN)(hA:V2 Y)(hB:C580 Y):JN (cn Y Qc):=λs nm v on hp0=>by
 refine zc ?_ ?_<;>intro hc0
 .refine cU ?_;refine cq [.str [],.aR] ?_;refine zr ?_;rw[alG hc0];rfl
 refine jX ?_;refine aD (hc:=hB (s.es) (nm) (v) (by first|assumption|exact hp0.1|exact⟨λx hx=>(hp0.1 x hx).1.2,hp0.2⟩)) ?_;refine zc ?_ ?_<;>intro hc1
 .refine cU ?_;refine cq [.str [],.aR] ?_;refine zr ?_;rw[alH hc0 hc1];rfl
 refine cU ?_;have h64:s.es.length<=64:=(aeV hc0).2;obtain⟨j,hj,hjl⟩:=(BY (l:=s.es) (nm:=nm) (v:=v)).resolve_left ae;refine cU ?_;refine zo (ys:=s.es.map j8.D) (n:=s.es.length) (he:=nk.sl) (hn:=aF) (hb:=ae) ?_;refine pz ?_;refine AF ((s.es.set j {s.es[j]! with off:=on}).map j8.D) (hi:=oy) (he:=IJ hjl rfl) ?_;refine cU ?_;have hsl:(s.es.set j {s.es[j]! with off:=on}).length=s.es.length:=List.length_set;refine dt ?_;refine cq [.str s.name,.own 17 11 0 s.es.length] ?_;refine br (.agg [.str s.name,.own 17 11 0 (s.es.set j {s.es[j]! with off:=on}).length]) (he:=by rw[List.length_set];exact rfl) ?_;refine cU ?_;refine bD 17 ?_;refine zr ?_;rw[alI hc0 hj];rfl
def U4:aj:=bd 158
def w501 (hm:(Y.at 0).bN)(hA:Ca Y)(hB:Tz Y):ux (cn Y U4):=λa b hp0=>by
 exact mQ
def Ni:aj:=bd 103
def w580 (hA:C501 Y):ui (cn Y Ni):=λl nm v hp0=>by
 refine zg ?_;refine zf hm (λi=>[.m 11 l j8.D,.e (.str nm),.u 2,.i i,.u 1,.p 0 5,.u 1]) (λi=>[(0,.buf 5 [bO.D v])]) 3 (λi=>i<=l.length/\r7 l nm v 0=r7 l nm v i) (λi=>l.length-i) ⟨ae,rfl⟩ [(0,0)] ?_;rintro i ⟨hi,hr⟩;refine zg ?_;intro u0;refine dT ?_ ?_<;>intro hc0
 .refine zc ?_ ?_<;>intro hc1
  .refine zr ?_;rw[hr,Zj ae (adM hc1)]
  refine fM (i+1) [(0,0)] ?_;rw[hr,Zk ae (ajI hc1)]
 refine zr ?_;rw[hr,Sz ae]
def U3:aj:=bd 102
def w358 (hA:C75 Y)(hB:Ha Y)(hC:C580 Y):uc (cn Y U3):=λs hp0=>by
 refine zg ?_;refine aH (λhc0=>?_) (λhc0=>?_)
 .simp only[cW,cg,aX]at hc0;have hf:gy s=false:=by
   unfold gy;rcases hc0 with h|h
   .rw[h];rfl
   .rw[show decide (s.es.length<=64)=false from bB ae];simp
  refine zr ?_;exact hf.symm
 simp only[dX,cX,b8]at hc0;have hq:gy s=bI (sr s.es) 0 s.es.length:=by unfold gy;rw[hc0.1,bg (show s.es.length<=64 by omega)];simp
 refine zg ?_;refine zf hm (λi=>[.u 2,.p 0 2,.u 1,.i i,.u 5]) (λi=>[(0,.buf 2 [cj.D s])]) 13 (λi=>i<=s.es.length/\gy s=bI (sr s.es) i s.es.length) (λi=>s.es.length-i) ⟨ae,hq⟩ [(0,0)] ?_;rintro i ⟨hi,hr⟩;refine zg ?_;intro u0;refine dT ?_ ?_<;>intro hc1
 .refine dt ?_;have hsm:=hp0 _ (aq (show i<s.es.length by omega));refine jb ?_;refine jb ?_;refine pz ?_;refine bX (hc:=λhf=>hC s.es s.es[i]!.r.name s.es[i]!.r.v ⟨λx hx=>(hp0 x hx).1.2,hsm.1.2⟩) ?_;refine zg ?_;refine wp_cond (λhc2=>?_) (λhc2=>?_)
  .have hen:sr s.es i=false:=by
    simp only[cW,cg,aX,b8]at hc2;exact adg ae hc2
   refine zr ?_;rw[hr,ay ae,hen];rfl
  have hen:sr s.es i=true:=by
   simp only[dX,cX,aX,b8]at hc2;exact Xj ae hc2.1.1 hc2.1.2 hc2.2
  refine fM (i+1) [(0,0)] ?_;rw[hr,ay ae,hen];rfl
 refine zr ?_;rw[hr,bA ae]
def Vg:aj:=bd 172
def w415 (hA:C381 Y)(hB:C627 Y):Jx (cn Y Vg):=λw x hp0=>by
 refine zc ?_ ?_<;>intro hc0
 .refine zr ?_;unfold uJ;rw[ak ae]
 refine k9 ?_;obtain⟨j,hwj⟩:∃j:Nat,x.u=(j:Int):=⟨(x.u).toNat,ae⟩
 have hjl:j<w.us.length:=ae;have hju:=hp0.1 _ (aq hjl);have hj16:=hju.1;refine zg ?_;refine zf hm (λi=>[.u 3,.p 0 3,.u 2,.i i,.m 8 (w.us[j]!.cands) fj.D,.u 2,.i ((qO w.us[j]!.cands x.s i))]) (λi=>[(0,.buf 3 [Want.D x])]) 24 (λi=>i<=w.us[j]!.cands.length) (λi=>w.us[j]!.cands.length-i) ae [(1,0)] ?_;intro i hi;have hmr:=PD w.us[j]!.cands x.s i;have hpb:=Gm (k:=i+1) ae;have hpp:=p8 (i+1);refine zg ?_;intro u0;refine dT ?_ ?_<;>intro hc1
 .refine qp ?_;refine aD (hc:=hB (x.s) ((w.us[j]!.cands)[i]!.v) (by first|assumption|omega|exact⟨hp0.2,(hju.2 _ (aq ae)).1⟩)) ?_;refine zg ?_;refine wp_cond (λhc2=>?_) (λhc2=>?_)
  .have hst:qO w.us[j]!.cands x.s (i+1)=qO w.us[j]!.cands x.s i+2^(i+1):=by rw[qO,ak hc2]
   refine k9 ?_;refine kT (hb:=by simp only[show(((i:Nat):Int)+1).toNat=i+1 from rfl];omega) ?_;refine zg ?_;rw[show qO w.us[j]!.cands x.s i+2^(((i:Nat):Int)+1).toNat=qO w.us[j]!.cands x.s (i+1)from hst.symm];exact ir (i+1) [(0,0)]
  have hst:qO w.us[j]!.cands x.s (i+1)=qO w.us[j]!.cands x.s i:=by rw[qO,ai (by rw[hc2];exact Bool.false_ne_true)]
  refine zg ?_;rw[<-hst];exact ir (i+1) [(0,0)]
 refine zr ?_;unfold uJ;rw[ai ae,show i=w.us[j]!.cands.length by omega,hwj];rfl
def y6:aj:=bd 95
def w535 (hm:(Y.at 1).bN)(hA:G9 (Y.at 1))(hB:C135 (Y.at 1))(hC:C297 (Y.at 1))(g:Gs)(own:av)(hp0:0<=g.i/\g.i<=990000):dk (Y.at 1) y6.body (E5 y6 2 (c9.D (dD g own).1) (Gs.D (dD g own).2):Ex->List aY->St->Prop) (fP y6 (.ptr 0 2 0 0::[.str own])) ⟨1,[(0,.buf 2 [(Gs.D g)])]⟩:=by
 show dk _ _ _ [⟨true,.ptr 0 2 0 0⟩,⟨true,.str own⟩,.un] ⟨1,[(0,.buf 2 [(Gs.D g)])]⟩;refine ax ?_;refine dt ?_;have ho:=xF g own;have r8:=(cQ g own).2.eP 8 ae;refine cU ?_;refine cN (hc:=hC g own hp0) ?_;refine fw ?_;refine cN (hc:=hA (cQ g own).2 8 ae iC) ?_;refine cC ((cQ g own).2.val 8).toNat (hj:=λ_=>ae) (hb:=λ_=>uF) ?_;refine DF (v:=.str j4[((cQ g own).2.val 8).toNat]!) (hi:=λ_=>uF) ?_;refine cY ?_;refine cN (hc:=hA (cQ g own).2.aI 3 ae iC) ?_;refine cY ?_;refine cq [.str (cQ g own).1,.str j4[((cQ g own).2.val 8).toNat]!,.aR,.bool (decide (0<(cQ g own).2.aI.val 3))] ?_;refine cU ?_;refine EE [(0,.buf 2 [Gs.D (dD g own).2]),(1,.buf 4 [c9.D (dD g own).1])] (.id ah (.bf ah (.cons (.ag (.cons (.refl _) (.cons (.refl _) (.cons (.nil 1) (.cons (.refl _) .nil))))) .nil) .nil)) ?_;refine zg ?_;refine gO trivial Fx (dY ah (?_)) ah ah ah;rfl
def Np:aj:=bd 63
def w143 (hA:C136 Y)(hB:C356 Y):I2 (cn Y Np):=λl hp0=>by
 refine cY ?_;have hya:=yt hp0;refine zg ?_;intro u0;refine dT ?_ ?_<;>intro hc0
 .exfalso;have:=hya.1;omega
 refine zg ?_;intro u1;refine dT ?_ ?_<;>intro hc1
 .exfalso;have:=hya.1;omega
 refine zg ?_;refine zf hm (λi=>[.m 11 l gI.D,.u 4,.i i,.u 4]) (λi=>[]) 9 (λi=>i<=l.length) (λi=>l.length-i) ae [] ?_;intro i hi;refine zg ?_;intro u2;refine dT ?_ ?_<;>intro hc2
 .refine fw ?_;have hmi:=hya.2 i ae;have hck:=aj6 hmi;refine fw ?_;refine aD (hc:=hA l[i]! hmi.1.2) ?_;refine zc ?_ ?_<;>intro hc3
  .exfalso;rw[hck]at hc3;exact absurd rfl hc3
  refine zc ?_ ?_<;>intro hc4
  .exfalso;rw[QX hp0 ae]at hc4;exact absurd rfl hc4
  exact ir (i+1) []
 exact mQ
def NB:aj:=bd 219
def w416 (hm:(Y.at 0).bN):Jy (cn Y NB):=λc x hp0=>by
 refine k9 ?_;obtain⟨j,hj⟩:∃j:Nat,x.u=(j:Int):=⟨x.u.toNat,by have:=hp0.1;omega⟩
 obtain⟨hjl,hj30⟩:=hp0;rw[hj,Int.toNat_natCast]at hj30;refine jb ?_;refine m5 (c[j]!) (hb:=λhf=>by have hf:0<=c[j]! :=KV;rw[IntKind.wrap_u64];omega) ?_;refine AE (2^(c[j]!.toNat+1)) (hn:=λhf=>wq) (hb:=λhf=>by have hf:0<=c[j]! :=KV;exact Ee (n:=c[j]!.toNat) ae ae) ?_;refine vV (Hk x.m (2^(c[j]!.toNat+1))) (hb:=λ_=>rfl) ?_;refine zr ?_;unfold Dk;rw[hj,Int.toNat_natCast];simp
def Hm:aj:=bd 35
def w176 (hA:C273 Y)(hB:C410 Y):I6 (cn Y Hm):=λw c hp0=>by
 refine zr ?_;by_cases h:(rq w c).length=0<;>cases hm:eV w c<;>simp[h]
end Go.Abs
end
