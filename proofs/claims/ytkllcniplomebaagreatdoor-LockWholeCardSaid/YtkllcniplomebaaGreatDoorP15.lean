/- A part of the proofs. -/
import Derived.Test.YtkllcniplomebaaGreatDoorP09
set_option linter.all false
set_option maxRecDepth 60000
set_option maxHeartbeats 2000000
noncomputable section
namespace Go.Abs
variable {Y:Ctx}(hm:(Y.at 0).bN)
def Pe:aj:=bd 79
def w349:ub (cn Y Pe):=λs=>by
 refine zc ?_ ?_<;>intro hc0
 .refine zr ?_;symm;simp only[gC,ew,b8];rcases hc0 with h|h
  .subst h;exact Or.inl (Or.inl aF)
  .exact Or.inl ae
 refine zg ?_;have hP:gC s=bI (λi=>GY (at8 s i)) 0 s.length:=by
  have:=List.length_pos_iff.2 hc0.1;simp only[gC];rw[bg ae,bg ae];rfl
 refine zf hm (λi=>[.e (.str s),.u 2,.e (.it 9),.u 4]) (λi=>[(9,.iter s i)]) 10 (λi=>i<=s.length/\gC s=bI (λi=>GY (at8 s i)) i s.length) (λi=>s.length-i) ⟨ae,hP⟩ [(9,9)] ?_;rintro i ⟨hi,hr⟩;refine zg ?_;by_cases hnx:i<s.length
 .obtain⟨c,w,hdec,hw,hcw⟩:=wU s i hnx;refine Ie c w (hp:=hnx) (hc:=hdec) ?_;refine zg ?_;refine aH (t:=true) (λ_=>?_) (λh=>cw);refine zc ?_ ?_<;>intro hc2
  .refine zc ?_ ?_<;>intro hc4
   .refine zg ?_;obtain⟨rfl,hat,-⟩:w=1/\(c:Int)=at8 s i/\c<128:=by
     rcases hcw with h|h
     .exact h
     .omega
    have hz:GY (at8 s i)=true:=by
     simp only[GY,jN,bE,cW,aK,aX];omega
    refine fM (i+1) [(9,9)] ?_;rw[hr,ay hnx,hz];rfl
   refine zr ?_;first
    |(exfalso;omega)
    |(rw[hr,bA ae];done)
    |(
     have hz:GY (at8 s i)=false:=by
      rcases hcw with⟨_,h,_⟩|⟨_,h⟩<;>(simp only[GY,jN,bE,dX,ew,b8];omega)
     rw[hr,ay hnx,hz];rfl)
  refine zc ?_ ?_<;>intro hc3
  .refine zc ?_ ?_<;>intro hc4
   .refine zg ?_;obtain⟨rfl,hat,-⟩:w=1/\(c:Int)=at8 s i/\c<128:=by
     rcases hcw with h|h
     .exact h
     .omega
    have hz:GY (at8 s i)=true:=by
     simp only[GY,jN,bE,cW,aK,aX];omega
    refine fM (i+1) [(9,9)] ?_;rw[hr,ay hnx,hz];rfl
   refine zr ?_;first
    |(exfalso;omega)
    |(rw[hr,bA ae];done)
    |(
     have hz:GY (at8 s i)=false:=by
      rcases hcw with⟨_,h,_⟩|⟨_,h⟩<;>(simp only[GY,jN,bE,dX,ew,b8];omega)
     rw[hr,ay hnx,hz];rfl)
  refine zc ?_ ?_<;>intro hc4
  .refine zg ?_;obtain⟨rfl,hat,-⟩:w=1/\(c:Int)=at8 s i/\c<128:=by
    rcases hcw with h|h
    .exact h
    .omega
   have hz:GY (at8 s i)=true:=by
    simp only[GY,jN,bE,cW,aK,aX];omega
   refine fM (i+1) [(9,9)] ?_;rw[hr,ay hnx,hz];rfl
  refine zr ?_;first
   |(exfalso;omega)
   |(rw[hr,bA ae];done)
   |(
    have hz:GY (at8 s i)=false:=by
     rcases hcw with⟨_,h,_⟩|⟨_,h⟩<;>(simp only[GY,jN,bE,dX,ew,b8];omega)
    rw[hr,ay hnx,hz];rfl)
 .refine Ic (hp:=hnx) ?_;refine zg ?_;refine aH (t:=false) (λh=>cw) (λ_=>?_);refine zr ?_;first
   |(exfalso;omega)
   |(rw[hr,bA ae];done)
   |(
    have hz:GY (at8 s i)=false:=by
     rcases hcw with⟨_,h,_⟩|⟨_,h⟩<;>(simp only[GY,jN,bE,dX,ew,b8];omega)
    rw[hr,ay hnx,hz];rfl)
def Pd:aj:=bd 83
def w208:tT (cn Y Pd):=λs=>by
 refine zc ?_ ?_<;>intro hc0
 .refine zr ?_;symm;simp only[dc];rcases hc0 with h|h
  .subst h;simp
  .rw[bB (by omega:¬s.length<=16)];simp
 refine zg ?_;have h0:=List.length_pos_iff.2 hc0.1;have hP:=aeb s ae ae;refine zf hm (λi=>[.e (.str s),.u 2,.e (.it 9),.u 9]) (λi=>[(9,.iter s i)]) 10 (λi=>i<=s.length/\dc s=bI (pk s) i s.length) (λi=>s.length-i) ⟨ae,hP⟩ [(9,9)] ?_;rintro i ⟨hi,hr⟩;refine zg ?_;by_cases hnx:i<s.length
 .obtain⟨c,w,hdec,hw,hcw⟩:=wU s i hnx;refine Ie c w (hp:=hnx) (hc:=hdec) ?_;refine zg ?_;refine aH (t:=true) (λ_=>?_) (λh=>cw);refine zc ?_ ?_<;>intro hc2
  .refine zg ?_;obtain⟨rfl,hat,-⟩:w=1/\(c:Int)=at8 s i/\c<128:=by
    rcases hcw with h|h
    .exact h
    .omega
   have hz:pk s i=true:=by
    simp only[pk,jN,bE,cW,aK,cg,aX,b8];omega
   refine fM (i+1) [(9,9)] ?_;rw[hr,ay hnx,hz];rfl
  refine zc ?_ ?_<;>intro hc3
  .refine zc ?_ ?_<;>intro hc4
   .refine zr ?_;first
     |(exfalso;omega)
     |(rw[hr,bA ae];done)
     |(have hz:pk s i=false:=by
        rcases hcw with⟨_,h,_⟩|⟨_,h⟩<;>(simp only[pk,jN,bE,dX,ew,cX,aX,b8];omega)
       rw[hr,ay hnx,hz];rfl)
   refine zg ?_;obtain⟨rfl,hat,-⟩:w=1/\(c:Int)=at8 s i/\c<128:=by
    rcases hcw with h|h
    .exact h
    .omega
   have hz:pk s i=true:=by
    simp only[pk,jN,bE,cW,aK,cg,aX,b8];omega
   refine fM (i+1) [(9,9)] ?_;rw[hr,ay hnx,hz];rfl
  refine zc ?_ ?_<;>intro hc5
  .refine jb ?_;refine AB (i-1) ?_;refine zc ?_ ?_<;>intro hc6
   .refine zr ?_;first
     |(exfalso;omega)
     |(rw[hr,bA ae];done)
     |(have hz:pk s i=false:=by
        rcases hcw with⟨_,h,_⟩|⟨_,h⟩<;>(simp only[pk,jN,bE,dX,ew,cX,aX,b8];omega)
       rw[hr,ay hnx,hz];rfl)
   refine zg ?_;obtain⟨rfl,hat,-⟩:w=1/\(c:Int)=at8 s i/\c<128:=by
    rcases hcw with h|h
    .exact h
    .omega
   have hz:pk s i=true:=by
    simp only[pk,jN,bE,cW,aK,cg,aX,b8];omega
   refine fM (i+1) [(9,9)] ?_;rw[hr,ay hnx,hz];rfl
  refine zr ?_;first
   |(exfalso;omega)
   |(rw[hr,bA ae];done)
   |(have hz:pk s i=false:=by
      rcases hcw with⟨_,h,_⟩|⟨_,h⟩<;>(simp only[pk,jN,bE,dX,ew,cX,aX,b8];omega)
     rw[hr,ay hnx,hz];rfl)
 .refine Ic (hp:=hnx) ?_;refine zg ?_;refine aH (t:=false) (λh=>cw) (λ_=>?_);refine zr ?_;first
   |(exfalso;omega)
   |(rw[hr,bA ae];done)
   |(have hz:pk s i=false:=by
      rcases hcw with⟨_,h,_⟩|⟨_,h⟩<;>(simp only[pk,jN,bE,dX,ew,cX,aX,b8];omega)
     rw[hr,ay hnx,hz];rfl)
def HD:aj:=bd 143
def w658:uv (cn Y HD):=λs=>by
 refine IY ?_;refine AB 0 (hb:=λh=>by simp at h;exact List.length_pos_iff.2 h.1) ?_;refine zc ?_ ?_<;>intro hc0
 .refine zg ?_;refine dj (ba (ar (D.int .i64) ?_) (ar D.bool ?_));all_goals
   have:j0 s=false:=by
    rw[YS];rcases hc0 with(h|h)|h
    .subst h;simp
    .rw[bB (by omega:¬s.length<=4)];simp
    .rw[bg (by omega:1<s.length),bg h.1];simp
   simp[gM,this]
 refine zg ?_;have h0:=List.length_pos_iff.2 hc0.1.1;have hP:j0 s=bI (λi=>bE (at8 s i)) 0 s.length:=by
  rw[YS,bg (by omega:1<=s.length),bg (by omega:s.length<=4)];rcases hc0.2 with h|h
  .rw[bB h,Bool.and_false];rfl
  .rw[bB (by omega:¬1<s.length)];rfl
 refine zf hm (λi=>[.e (.str s),.u 3,.e (.it 21),.u 4,.i (e8 (s.take i):Nat)]) (λi=>[(21,.iter s i)]) 22 (λi=>i<=s.length/\s.length<=4/\j0 s=bI (λi=>bE (at8 s i)) i s.length) (λi=>s.length-i) ⟨ae,ae,hP⟩ [(21,21)] ?_;rintro i ⟨hi,h9,hr⟩;refine zg ?_;by_cases hnx:i<s.length
 .obtain⟨c,w,hdec,hw,hcw⟩:=wU s i hnx;refine Ie c w (hp:=hnx) (hc:=hdec) ?_;refine zg ?_;refine aH (t:=true) (λ_=>?_) (λh=>cw);refine zc ?_ ?_<;>intro hc2
  .refine cY ?_;obtain⟨rfl,hat,-⟩:w=1/\(c:Int)=at8 s i/\c<128:=by
    rcases hcw with h|h
    .exact h
    .omega
   have hn:=xw s i ae;have hn2:=Ax s i ae;have h256:=yF s i;refine cY ?_;refine qU ?_;refine cY ?_;refine vW ((c:Int) -48) (hb:=λ_=>IntWalk.i32_in _ ae) ?_;refine m5 ((c:Int) -48) (hb:=λ_=>IntWalk.i64_in _ ae) ?_;refine dt ?_;rw[show 10*(e8 (s.take i):Int)+((c:Int) -48)=(e8 (s.take (i+1)):Nat)by omega];refine zg ?_;have hz:bE (at8 s i)=true:=by
    simp only[bE,aK,aX];omega
   refine zl (i+1) [(21,21)] ?_;exact⟨ae,h9,by rw[hr,ay ae,hz];rfl⟩
  refine zg ?_;refine dj (ba (ar (D.int .i64) ?_) (ar D.bool ?_));all_goals
   have hz:bE (at8 s i)=false:=by
    rcases hcw with⟨_,h,_⟩|⟨_,h⟩<;>(simp only[bE,ew,b8];omega)
   have:j0 s=false:=by rw[hr,ay ae,hz];rfl
   simp[gM,this]
 .refine Ic (hp:=hnx) ?_;refine zg ?_;refine aH (t:=false) (λh=>cw) (λ_=>?_);refine k9 ?_;refine ZI ?_;refine aW ?_;refine aW ?_;refine aS (env':=[_,⟨_,(.int _ _)⟩,⟨_,(.bool _)⟩,_,_,_,_,_,_,_]) ?_;refine wp_ret ?_;refine dj (ba (ar (D.int .i64) ?_) (ar D.bool ?_));all_goals
   have this:j0 s=true:=by rw[hr,bA ae]
   have ht:s.take i=s:=fE ae;have h9:=this;simp only[j0,aK,aX]at h9;have h99:=h9.2;rw[ht];first
   |(simp only[gM,this];rfl)
   |(rw[this,aX];omega)
def Hp:aj:=bd 86
def w686 (hm:(Y.at 0).bN):Kf (cn Y Hp):=λk hp0=>by
 refine zc ?_ ?_<;>intro hc0
 .refine dt ?_;refine DB (48+(k:Int)) (hb:=λ_=>IntWalk.u8_in _ ae) ?_;refine zg ?_;refine dj (ar (D.int .u8) ?_);exact(adB k ae).symm
 refine dt ?_;refine DB (97+(k:Int)) (hb:=λ_=>IntWalk.u8_in _ ae) ?_;refine vW (87+(k:Int)) (hb:=λ_=>by rw[show 97+(k:Int) -10=87+k by omega];exact IntWalk.u8_in _ ae) ?_;refine zg ?_;refine dj (ar (D.int .u8) ?_);exact(adA k ae hp0).symm
def LI:aj:=bd 42
def w497 (hA:C686 Y):uh (cn Y LI):=λn=>by
 refine fw ?_;refine af9 _ ?_;refine zg ?_;intro u0;refine zf hm (λi=>[.e (.int .u64 n),.u 1,.o 1 1 16,.i i,.i 16,.u 2]) (λi=>[(1,.buf 1 ((yn n i).map λb=>D.int .u8 b.toNat))]) 6 (λi=>i<=16) (λi=>16-i) ae [(1,1)] ?_;intro i hi;have hlen:=tL n i;refine zc ?_ ?_<;>intro hc0
 .refine EH ?_;refine qU ?_;refine Gq (vw n (4*i)) (hb:=λ_=>by rw[show min (Int.toNat (4*(i:Int))) (IntKind.bits .u64)=4*i by simp[IntKind.bits];omega];rfl) ?_;refine vV ((nib n i:Nat):Int) (hb:=λ_=>MB n i) ?_;have hnib:=PL n i;refine m5 ((nib n i:Nat):Int) (hb:=λ_=>IntWalk.u8_in _ ae) ?_;refine cY ?_;refine DC (15-i) ?_;refine AF ((yn n (i+1)).map λb=>D.int .u8 b.toNat) (hi:=eJ) (he:=by rw[VC n i ae,getD_map ae];simp[rj,D.isAgg]) ?_;exact ir (i+1) [(1,1)]
 refine dt ?_;have h16:i=16:=ae;subst h16;refine cY ?_;refine M1 (jA n) (he:=λ_=>nk.all ah (by simp[tL])) (hs:=λ_=>by rw[VB]) ?_;exact mQ
def sT:aj:=bd 109
def w582 (hm:(Y.at 3).bN)(y:cx)(ns:List av)(hA:C748 (Y.at 3))(hB:C749 (Y.at 3))(hp0:qy y/\kF y.e)(hp1:ns.length<=900):dk (Y.at 3) sT.body (wD sT (Lg y (sP y 49 nB ns) (qX y)):Ex->List aY->St->Prop) (fP sT [cx.D y (.ptr 0 2 0 0)]) ⟨3,[(0,.buf 2 [eN 1 2 ns.length]),(1,.buf 1 (ns.map D.str)),(2,.buf 1 (df y ns))]⟩:=by
 show dk _ _ _ [⟨true,cx.D y (.ptr 0 2 0 0)⟩,.un,.un,.un,.un,.un,.un,.un,.un,.un,.un,.un,.un,.un,.un,.un,.un,.un,.un,.un,.un] ⟨3,[(0,.buf 2 [eN 1 2 ns.length]),(1,.buf 1 (ns.map D.str)),(2,.buf 1 (df y ns))]⟩;refine ax ?_;refine k9 ?_;refine aV (Key.D fI) ?_;refine bj [Key.D fI] ?_;refine cU ?_;refine bD 7 ?_ (he:=G6) (hm:=G6);refine cY ?_;refine aV (Key.D fI) ?_;refine bj [Key.D fI] ?_;refine zg ?_;refine zfx hm (⟨0,nB,[fI],0,1,ns⟩:RcS) (λp=>[.u 3,.e (.own 10 2 p.o p.c),.u 1,.p 3 8,.u 10,.m 2 p.s.all Key.D,.u 4]) (λp=>[(0,.buf 2 [eN 5 6 p.nn.length]),(5,.buf 1 (p.nn.map D.str)),(6,.buf 1 (df y p.nn)),(3,.buf 8 [cx.D y (.ptr 0 2 0 0)]),(10,.buf 2 (p.b.map Key.D))]) 20 (TF y ns) (λp=>49-p.n) (ald y ns) [(1,5),(2,6),(3,3),(10,10)] ?_;rintro⟨n,s,b,o,c,nn⟩ hP;have hbf:=hP.2.2;have hnn:=hP.2.1.1;have hn48:=hP.1.1;have hI:=hP.1.2.1;dsimp only at hbf hnn hn48 hI⊢;obtain⟨hb1,pF,hb3⟩:=hbf;have hlen:=hI.len;refine zg ?_;intro _;refine dT ?_ ?_<;>intro hc0
 .refine fw ?_;refine DC 0 (hj:=λ_=>rfl) (hb:=λ_=>ae) ?_;refine uZ (q:=Key.D) (xs:=b) (v:=Key.D s.todo[0]!) (hi:=λ_=>ae) (hv:=λ_=>by rw[ahX pF ae];rfl) ?_;refine k9 ?_;refine M3 1 (hb:=λ_=>ae) ?_;refine jX ?_;refine dS (nx':=33) (v:=.sl 1 ((cZ y s.todo[0]!).map dU)) (m':=[(33,.buf 1 ((jq nn s.todo[0]!).map D.str)),(34,.buf 1 (df y (jq nn s.todo[0]!))),(0,.buf 2 [eN 33 34 (jq nn s.todo[0]!).length]),(3,.buf 8 [cx.D y (.ptr 0 2 0 0)]),(10,.buf 2 (b.map Key.D)),(26,.buf 2 [Key.D s.todo[0]!])]) (hc:=λK' hK=>hA y nn s.todo[0]! hp0 ae _ 0 5 6 _ K' eI eI eI a7 ⟨rfl,rfl,rfl⟩ hK) (hn:=a7) ?_;refine zg ?_;intro u0;refine zfx hm (⟨0,⟨s.all,s.todo.drop 1⟩,b,o+1,c-1⟩:RcT) (λp=>[.u 3,.e (.own 10 2 p.o p.c),.u 1,.p 3 8,.u 1,.i p.i,.i ((cZ y s.todo[0]!).length:Nat),.u 1,.m 1 (cZ y s.todo[0]!) dU,.u 5,.m 2 p.t.all Key.D,.u 4]) (λp=>[(0,.buf 2 [eN 5 6 (jq nn s.todo[0]!).length]),(5,.buf 1 ((jq nn s.todo[0]!).map D.str)),(6,.buf 1 (df y (jq nn s.todo[0]!))),(3,.buf 8 [cx.D y (.ptr 0 2 0 0)]),(10,.buf 2 (p.b.map Key.D))]) 40 (TH y s) (λp=>(cZ y s.todo[0]!).length-p.i) (alv y hb1 pF hb3 ae hlen.2 hlen.1) [(33,5),(34,6),(3,3),(10,10)] ?_;rintro⟨i,t,b1,o1,c1⟩ hT;have hT2:=hT;obtain⟨hi,ht,⟨hb4,hb5,hb6⟩,hta⟩:=hT2;dsimp only at hi ht hb4 hb5 hb6 hta⊢;refine zc ?_ ?_<;>intro hc1
  .refine dt ?_;have hro:=aai hp0.1.p s.todo[0]!;have hrl:=hro.2 _ (aq (show i<(cZ y s.todo[0]!).length by omega));refine cY ?_;refine dm (v:=.sl 4 ((cZ y s.todo[0]!)[i]!.map jk.D)) (hi:=λ_=>ae) ?_;refine zg ?_;intro u1;refine zfxL hm (⟨0,t,b1,o1,c1⟩:RcU) (λp=>[.u 3,.e (.own 10 2 p.o p.c),.u 1,.p 3 8,.u 1,.i i,.i ((cZ y s.todo[0]!).length:Nat),.u 1,.m 1 (cZ y s.todo[0]!) dU,.u 1,.i p.j,.i ((cZ y s.todo[0]!)[i]!.length:Nat),.u 1,.m 4 (cZ y s.todo[0]!)[i]! jk.D,.m 2 p.u.all Key.D,.u 4]) (λp=>[(0,.buf 2 [eN 5 6 (jq nn s.todo[0]!).length]),(5,.buf 1 ((jq nn s.todo[0]!).map D.str)),(6,.buf 1 (df y (jq nn s.todo[0]!))),(3,.buf 8 [cx.D y (.ptr 0 2 0 0)]),(10,.buf 2 (p.b.map Key.D))]) 60 (OE (cZ y s.todo[0]!)[i]! t i) (λp=>(cZ y s.todo[0]!)[i]!.length-p.j) (alA _ hb4 hb5 hb6 hta) [(3,3),(5,5),(6,6),(10,10)] ?_;rintro⟨j,u,b2,o2,c2⟩ hU;have hU2:=hU;obtain⟨hj,hu,⟨hb7,hb8,hb9⟩,hua⟩:=hU2;dsimp only at hj hu hb7 hb8 hb9 hua⊢;refine zc ?_ ?_<;>intro hc2
   .refine jX ?_;refine br _ ?_;refine zg ?_;intro u2 u3;refine K5 ?_ ?_<;>intro hc3
    .refine Ov ?_;refine bj [Key.D (cZ y s.todo[0]!)[i]![j]!.k] ?_;refine xM ((u.todo++[(cZ y s.todo[0]!)[i]![j]!.k]).map Key.D) (n:=c2+1) (ha:=oy) (he:=nk.all rfl rfl) (hz:=ahW hb7 hb8 _) (hn:=rfl) (hb:=ae) ?_;refine zg ?_;exact⟨⟨j+1,_,(u.todo++[(cZ y s.todo[0]!)[i]![j]!.k]),0,c2+1⟩,(alC hU ae ae),k8,(aZ.to [(3,3),(5,5),(6,6),(84,10)] ah ah fK (by repeat(first|exact bn.nil|refine bn.Am ah ah dL ?_|refine bn.L4 ah ah ah ?_|refine bn.L6 ah ah ah ah ?_|refine bn.Am ah ah (by exact jg _ _) ?_|refine bn.nl 3 ah ah ah ry ?_|refine bn.eq 3 ah ah ah ?_|refine bn.nl 5 ah ah ah ry ?_|refine bn.eq 5 ah ah ah ?_|refine bn.nl 6 ah ah ah ry ?_|refine bn.eq 6 ah ah ah ?_|refine bn.nl 84 ah ah ah ry ?_|refine bn.eq 84 ah ah ah ?_)))⟩
    refine zg ?_;exact⟨⟨j+1,u,b2,o2,c2⟩,(alB hU ae ae),k8,(aZ.to [(3,3),(5,5),(6,6),(10,10)] ah ah fK abp)⟩
   refine zg ?_;exact⟨⟨i+1,u,b2,o2,c2⟩,(alw hT hU ae ae hrl.2),k8,(aZ.to [(3,3),(5,5),(6,6),(10,10)] ah ah fK abp)⟩
  refine zg ?_;intro u4;refine K5 ?_ ?_<;>intro hc4
  .refine fw ?_;refine hY (aZ.nz _ [_,⟨true,.sl 2 []⟩,_,_,_,_,_,_,_,_,_,_,_,_,_,_,_,_,_,_,_] _ _ [(0,.buf 2 [eN 5 6 ((jq nn s.todo[0]!)).length]),(5,.buf 1 (((jq nn s.todo[0]!)).map D.str)),(6,.buf 1 (df y ((jq nn s.todo[0]!))))] ⟨⟨rfl,.refl _⟩,⟨rfl,.nil 2⟩,⟨rfl,.refl _⟩,⟨rfl,.refl _⟩,⟨rfl,.refl _⟩,⟨rfl,.refl _⟩,⟨rfl,.refl _⟩,⟨rfl,.refl _⟩,⟨rfl,.refl _⟩,⟨rfl,.refl _⟩,⟨rfl,.refl _⟩,⟨rfl,.refl _⟩,⟨rfl,.refl _⟩,⟨rfl,.refl _⟩,⟨rfl,.refl _⟩,⟨rfl,.refl _⟩,⟨rfl,.refl _⟩,⟨rfl,.refl _⟩,⟨rfl,.refl _⟩,⟨rfl,.refl _⟩,⟨rfl,.refl _⟩,trivial⟩ (.id ah (.id ah (.id ah .nil)))) ?_;refine zg ?_;refine gP trivial lO (dY ah (?_)) ah ⟨by first|(rw[(DL hP hT ae ae ae).1];done)|(rw[(DL hP hT ae ae ae).1];exact rfl),5,6,⟨ae,ae,ae⟩,by rw[(DL hP hT ae ae ae).2];exact tj⟩;rfl
  refine zg ?_;exact⟨⟨n+1,t,b1,o1,c1,(jq nn s.todo[0]!)⟩,(ale hP hT ae ae ae),k8,(aZ.to [(3,3),(5,5),(6,6),(10,10)] ah ah fK abp)⟩
 refine zg ?_;refine gP trivial lO (dY ah (?_)) ah ⟨by first|(rw[(zw hP ae).1];done)|(rw[(zw hP ae).1];exact rfl),5,6,⟨ae,ae,ae⟩,by rw[(zw hP ae).2];exact tj⟩;rfl
def PA:aj:=bd 25
def w25 (hm:(Y.at 0).bN):QY (cn Y PA):=λv n hp0=>by
 refine zc ?_ ?_<;>intro hc0
 .refine zr ?_;simp[kP,hc0]
 refine fw ?_;refine AD (v.tmod n) (hn:=by intro _;omega) (hb:=λ_=>rfl) ?_;have ht:=Es v n ae;refine zc ?_ ?_<;>intro hc1
 .refine zr ?_;simp only[kP];rw[ai hc0,ak hc1]
 refine zr ?_;simp only[kP];rw[ai hc0,ai hc1]
def ad1:aj:=bd 57
def w159 (hm:(Y.at 0).bN):I5 (cn Y ad1):=λl i=>by
 refine zc ?_ ?_<;>intro hc0
 .refine dt ?_;refine AD (i.tmod 3) (hn:=by intro _;omega) (hb:=λ_=>rfl) ?_;refine zr ?_;simp only[atI];rw[ak hc0]
 refine zr ?_;simp only[atI];rw[ai ae]
def sF:aj:=bd 20
def w109 (hm:(Y.at 1).bN)(hA:C25 (Y.at 1))(hB:C159 (Y.at 1))(g:Gs)(n:Int)(hp0:n<=9223372036854775807)(hp1:0<=g.i/\g.i<=1000000):dk (Y.at 1) sF.body (E5 sF 2 (.int .i64 (g.val n)) (Gs.D g.aI):Ex->List aY->St->Prop) (fP sF (.ptr 0 2 0 0::[.int .i64 n])) ⟨1,[(0,.buf 2 [(Gs.D g)])]⟩:=by
 show dk _ _ _ [⟨true,.ptr 0 2 0 0⟩,⟨true,.int .i64 n⟩,.un] ⟨1,[(0,.buf 2 [(Gs.D g)])]⟩;refine ax ?_;refine jb ?_;refine ru ?_;refine xN ?_;rw[show g.i+1-1=g.i by omega];refine zg ?_;refine gO trivial lO (dY ah (ar (D.int .i64) ?_)) ah ah ah;rfl
def lG:aj:=bd 44
def w545 (hm:(Y.at 1).bN)(hA:C487 (Y.at 1))(r:oY)(hp0:r.at'<=r.s.length)(hp1:r.s.length<=1048576)(hp2:r.n<=2097152):dk (Y.at 1) lG.body (E5 lG 3 (.tup [.str r.ln.1,.bool r.ln.2.2]) (oY.D r.aI):Ex->List aY->St->Prop) (fP lG (.ptr 0 3 0 0::[])) ⟨1,[(0,.buf 3 [(oY.D r)])]⟩:=by
 show dk _ _ _ [⟨true,.ptr 0 3 0 0⟩,.un,.un,.un,.un,.un] ⟨1,[(0,.buf 3 [(oY.D r)])]⟩;refine ax ?_;refine zg ?_;refine aH (λhc0=>?_) (λhc0=>?_)
 .skip
  refine cY ?_;have hcl:=(sj (r.s.drop r.at') 10).2 hc0;simp only[iQ]at hcl;refine zg ?_;intro u0;refine gO trivial lO (dY ah (ba (ar D.str ?_) (ar D.bool ?_))) (by rw[show r.aI=⟨r.s,r.at'+(r.ln.1.length+1),r.n+1⟩by simp[oY.aI,oY.ln,hc0]];exact rfl) ah ah;all_goals first|rfl|(rw[oY.ln,hc0])
 skip
 refine zg ?_;refine gO trivial lO (dY ah (ba (ar D.str ?_) (ar D.bool ?_))) (by rw[show r.aI=⟨r.s,r.at',r.n+1⟩by simp[oY.aI,oY.ln,hc0]];exact rfl) ah ah;all_goals first|rfl|(rw[oY.ln,hc0])
def LH:aj:=bd 48
def w499:JM (cn Y LH):=λs=>by
 refine zg ?_;intro u0;refine dT ?_ ?_<;>intro hc0
 .refine zg ?_;refine dj (ba (ar (D.int .u64) ?_) (ar D.bool ?_));all_goals
   have:m6 s=false:=by simp only[m6];rw[bB (by omega:¬s.length=16)];rfl
   simp[xP,this]
 refine zg ?_;intro u1;have h16:s.length=16:=ae;have hP:m6 s=bI (λi=>Hw (at8 s i)) 0 s.length:=by simp only[m6];rw[bg h16];rfl
 refine zf hm (λi=>[.e (.str s),.u 3,.i i,.i s.length,.u 4,.e (.int .u64 (xO (s.take i))),.u 1]) (λi=>[]) 9 (λi=>i<=s.length/\s.length=16/\m6 s=bI (λi=>Hw (at8 s i)) i s.length) (λi=>s.length-i) ⟨ae,h16,hP⟩ [] ?_;rintro i ⟨hi,h16,hr⟩;refine zc ?_ ?_<;>intro hc1
 .refine zc ?_ ?_<;>intro hc2
  .refine cY ?_;have h256:=yF s i;have hz:Hw (at8 s i)=true:=by simp only[Hw,bE,cW,aK,aX];omega
   have hv:XT (at8 s i)=at8 s i-48:=by unfold XT;rw[ak (by simp only[bE,aK,aX];omega)]
   refine cY ?_;refine AE (GC (xO (s.take i)) 4) (hb:=λ_=>by rw[show min (Int.toNat (4:Int)) (IntKind.bits .u64)=4 by simp[IntKind.bits]];rfl) ?_;refine cY ?_;refine vW (at8 s i-48) (hb:=λ_=>IntWalk.u8_in _ ae) ?_;refine m5 (at8 s i-48) (hb:=λ_=>wu) ?_;refine SD (xO (s.take (i+1))) (hb:=λ_=>by rw[DM s i ae];unfold xQ;rw[hv];rfl) ?_;refine zl (i+1) [] ?_;exact⟨ae,h16,by rw[hr,ay ae,hz];rfl⟩
  refine zc ?_ ?_<;>intro hc3
  .refine cY ?_;have h256:=yF s i;have hz:Hw (at8 s i)=true:=by simp only[Hw,bE,cW,aK,aX];omega
   have hv:XT (at8 s i)=at8 s i-87:=by unfold XT;rw[ai (by simp only[bE,aK,aX];omega)]
   refine cY ?_;refine AE (GC (xO (s.take i)) 4) (hb:=λ_=>by rw[show min (Int.toNat (4:Int)) (IntKind.bits .u64)=4 by simp[IntKind.bits]];rfl) ?_;refine cY ?_;refine vW (at8 s i-97) (hb:=λ_=>IntWalk.u8_in _ ae) ?_;refine DB (at8 s i-87) (hb:=λ_=>by rw[show at8 s i-97+10=at8 s i-87 by omega];exact IntWalk.u8_in _ ae) ?_;refine m5 (at8 s i-87) (hb:=λ_=>wu) ?_;refine SD (xO (s.take (i+1))) (hb:=λ_=>by rw[DM s i ae];unfold xQ;rw[hv];rfl) ?_;refine zl (i+1) [] ?_;exact⟨ae,h16,by rw[hr,ay ae,hz];rfl⟩
  refine zg ?_;refine dj (ba (ar (D.int .u64) ?_) (ar D.bool ?_));all_goals
   have hz:Hw (at8 s i)=false:=by simp only[Hw,bE,dX,ew,b8];omega
   have:m6 s=false:=by rw[hr,ay ae,hz];rfl
   simp[xP,this]
 refine zg ?_;refine dj (ba (ar (D.int .u64) ?_) (ar D.bool ?_));all_goals
  have:m6 s=true:=by rw[hr,bA ae]
  have ht:s.take i=s:=fE ae;simp[xP,this,ht]
def Qh:aj:=bd 259
def w1014 (hA:VY Y)(hB:C374 Y)(hC:afj Y)(hD:afu Y):EO (cn Y Qh):=λl nm hp0=>by
 refine cY ?_;have hya:=yt hp0;refine p9 ?_;refine aW ?_;refine aS (env':=[_,_,⟨_,_⟩,⟨_,(.int _ _)⟩,_,_,_,_,_,_,_,_,_]) ?_;refine cF ?_;refine ax ?_;refine aW ?_;refine aD (hc:=hA (l) (by first|assumption|omega)) ?_;refine aW ?_;refine gw (.int _ _) ?_;refine gw (.int _ _) ?_;refine aW ?_;refine aW ?_;refine aS (env':=[_,_,_,_,⟨_,(.int _ _)⟩,_,_,_,_,_,_,_,_]) ?_;refine cF ?_;refine ax ?_;refine aW ?_;refine po ?_;refine aS (env':=[_,_,_,_,_,⟨_,(.bool _)⟩,_,_,_,_,_,_,_]) ?_;refine dT ?_ ?_<;>intro hc0
 .exact absurd trivial hc0
 refine fw ?_;refine br _ ?_;refine aS (env':=[_,_,_,_,_,_,_,_,_,_,_,⟨_,_⟩,_]) ?_;refine dt ?_;refine aS (env':=[_,_,_,_,_,_,⟨_,(.int _ _)⟩,_,_,_,_,_,_]) ?_;refine zf hm (λi=>[.m 11 l gI.D,.e (.str nm),.p 1 2,.u 3,.i i,.u 4,.p 0 2,.u 1]) (λi=>[(0,.buf 2 [cu.D (if i=0 then pH else kL l nm)]),(1,.buf 2 [.agg [.aR,.aR]])]) 15 (λi=>i<=l.length) (λi=>l.length-i) ae [(12,0),(0,1)] ?_;intro i hi;refine zg ?_;intro u0;refine dT ?_ ?_<;>intro hc1
 .refine dt ?_;obtain rfl:i=0:=by have:=hya.1;omega
  obtain⟨hyp1,hyp2,hyp3,hyp4⟩:=tP hp0 (i:=0) ae;have hmi:=hya.2 0 ae;rw[ak rfl];refine zg ?_;refine zfL hm (λk=>[.m 11 l gI.D,.e (.str nm),.p 1 2,.u 3,.i 0,.u 1,.i k,.u 2,.p 0 2,.u 1]) (λk=>[(0,.buf 2 [cu.D (if k=0 then pH else kL l nm)]),(1,.buf 2 [.agg [.aR,.aR]])]) 20 (λk=>k<=l[0]!.hs.length) (λk=>l[0]!.hs.length-k) ae [(0,0),(1,1)] ?_;intro k hk;refine cF ?_;refine ax ?_;refine aW ?_;refine aW ?_;refine aW ?_;refine cC (0) (hj:=λhf=>ct) (hb:=λhf=>ct) ?_;refine qa ?_;refine dm (v:=.sl 2 (l[0]!.hs.map kB.D)) (hi:=λ_=>ae) ?_;refine P1 λu1=>?_;specialize u1 rfl rfl
  refine DH ?_;refine aS (env':=[_,_,_,_,_,_,_,_,_,⟨_,(.bool _)⟩,_,_,_]) ?_;refine dT ?_ ?_<;>intro hc2
  .refine eB ?_;refine kq ?_ hm;refine ax ?_;have hk0:k=0:=ae;rw[ak hk0];refine aW ?_;refine aW ?_;refine cC (0) (hj:=λhf=>ct) (hb:=λhf=>ct) ?_;refine qa ?_;refine dm (v:=.sl 2 (l[0]!.hs.map kB.D)) (hi:=λ_=>ae) ?_;refine aW ?_;refine cC (k) (hj:=λhf=>ct) (hb:=λhf=>ct) ?_;refine qa ?_;refine dm (v:=.str (l[0]!.hs)[k]!.name) (hi:=λhf=>ct) ?_;refine aW ?_;refine PX ?_;refine aS (env':=[_,_,_,_,_,_,_,_,_,_,⟨_,(.bool _)⟩,_,_]) ?_;refine K5 ?_ ?_<;>intro hc3
   .refine ax ?_;refine aW ?_;refine aW ?_;refine cC (0) (hj:=λhf=>ct) (hb:=λhf=>ct) ?_;refine qa ?_;refine dm (v:=.sl 2 (l[0]!.hs.map kB.D)) (hi:=λ_=>ae) ?_;refine aW ?_;refine cC (k) (hj:=λhf=>ct) (hb:=λhf=>ct) ?_;refine qa ?_;refine dm (v:=.str (l[0]!.hs)[k]!.range) (hi:=λhf=>ct) ?_;refine aD (hc:=hC l[0]!.hs[k]!.range (hmi.1.2.2 _ (aq ae))) ?_;refine aW ?_;refine gw (cu.D _) ?_;refine gw (.int _ _) ?_;refine p9 ?_;refine br _ ?_;refine aW ?_;refine aS (env':=[_,_,_,_,_,_,_,_,_,_,_,_,⟨_,_⟩]) ?_;refine ou ?_;refine iF (d:=cu.D pH) ?_;refine iF (d:=cu.D (ff l[0]!.hs[k]!.range)) ?_;refine aD (hc:=hD (ff l[0]!.hs[k]!.range) (rb _)) ?_;refine br (cu.D (ff l[0]!.hs[k]!.range)) (he:=cE) ?_;refine lV (env':=[_,_,_,_,_,_,_,_,_,_,_,_,_]) ?_;refine BQ.normal ?_;refine ou ?_;refine aW ?_;refine kT (hb:=λhf=>ct) ?_;refine aW ?_;refine lV (env':=[_,_,_,_,_,_,_,_,⟨_,(.int _ _)⟩,_,_,_,_]) ?_;refine wv.normal ?_;rw[<-ajw hk0 ae hc3];exact⟨k+1,ae,ae,(aZ.to [(0,0),(1,1)] ah ah fK Q7)⟩
   refine wp_skip ?_;refine BQ.normal ?_;refine ou ?_;refine aW ?_;refine kT (hb:=λhf=>ct) ?_;refine aW ?_;refine lV (env':=[_,_,_,_,_,_,_,_,⟨_,(.int _ _)⟩,_,_,_,_]) ?_;refine wv.normal ?_;rw[<-ajv hk0 hc3];exact⟨k+1,ae,ae,(aZ.to [(0,0),(1,1)] ah ah fK Q7)⟩
  refine rp ?_;refine wv.out ?_;refine BQ.normal ?_;refine ou ?_;refine aW ?_;refine kT (hb:=λhf=>ct) ?_;refine aW ?_;refine lV (env':=[_,_,_,_,_,_,⟨_,(.int _ _)⟩,_,_,_,_,_,_]) ?_;refine LQ.normal ?_;rw[show(if k=0 then pH else kL l nm)=kL l nm from aju ae];exact ir (0+1) [(0,0),(1,1)]
 refine cU ?_;rw[ai (show ¬i=0 by have:=hya.1;omega)];refine cU ?_;refine br _ (he:=cE) ?_;exact mQ
def Vi:aj:=bd 246
def w630:uk (cn Y Vi):=λa b=>by
 refine zc ?_ ?_<;>intro hc0
 .refine zr ?_;unfold dn;rw[ak hc0]
 refine zc ?_ ?_<;>intro hc1
 .refine zr ?_;unfold dn;rw[ai hc0,ak hc1]
 refine zr ?_;unfold dn;rw[ai hc0,ai hc1]
def Qz:aj:=bd 321
def w927:uj (cn Y Qz):=λa b=>by
 refine zc ?_ ?_<;>intro hc0
 .refine zr ?_;simp[pN,hc0]
 refine zc ?_ ?_<;>intro hc1
 .refine zr ?_;simp_all[pN]
 refine zr ?_;simp_all[pN]
def Z4:aj:=bd 284
def w783 (hA:V3 Y)(hB:C667 Y)(hC:C668 Y)(hD:C927 Y):uo (cn Y Z4):=λa b=>by
 refine zc ?_ ?_<;>intro hc0
 .refine zr ?_;unfold ym;rw[ak hc0]
 refine zc ?_ ?_<;>intro hc1
 .refine zr ?_;have hn:¬(cO a=true/\cO b=true):=by rintro⟨h1,h2⟩;simp[h1,h2]at hc0
  unfold ym;rw[ai hn];rw[ak hc1]
 refine zc ?_ ?_<;>intro hc2
 .refine zr ?_;have hn:¬(cO a=true/\cO b=true):=by rintro⟨h1,h2⟩;simp[h1,h2]at hc0
  unfold ym;rw[ai hn];rw[ai (by simp[hc1]),ak hc2]
 refine zr ?_;have hn:¬(cO a=true/\cO b=true):=by rintro⟨h1,h2⟩;simp[h1,h2]at hc0
 unfold ym;rw[ai hn];rw[ai (by simp[hc1]),ai (by simp[hc2])]
def Vj:aj:=bd 247
def w631 (hA:C470 Y)(hB:V3 Y)(hC:C783 Y):J9 (cn Y Vj):=λa b hp0=>by
 refine zc ?_ ?_<;>intro hc0
 .refine zr ?_;unfold Br;rw[ak hc0]
 refine zc ?_ ?_<;>intro hc1
 .refine zr ?_;unfold Br;rw[ai hc0,ak hc1]
 refine zc ?_ ?_<;>intro hc2
 .refine zr ?_;unfold Br;rw[ai hc0,ai hc1,ak hc2]
 refine zg ?_;refine zf hm (λi=>[.u 6,.i i,.m 1 (aQ a 46) D.str,.m 1 (aQ b 46) D.str,.u 3]) (λi=>[]) 18 (λi=>(i<=(aQ a 46).length/\i<=(aQ b 46).length)/\Br a b=vx (aQ a 46) (aQ b 46) i) (λi=>(aQ a 46).length-i) ⟨⟨ae,ae⟩,by unfold Br;rw[ai hc0,ai hc1,ai hc2]⟩ [] ?_;rintro i ⟨hi,hr⟩;refine zg ?_;intro u0;refine dT ?_ ?_<;>intro hc3
 .refine zc ?_ ?_<;>intro hc4
  .refine zr ?_;rw[hr,GQ ae hc4]
  refine zl (i+1) [] ?_;exact⟨⟨ae,ae⟩,by rw[hr,N2 ae hc4]⟩
 refine zg ?_;intro u1 u2;refine zr ?_;rw[hr,GP ae]
def Iw:aj:=⟨2,12,[⟨2,none⟩],Pa,(sq (rg [gb 5 s0,gb 5 s1,gm yW] [(3,0),(4,1),(2,2)]) (sq (sq (r1 [gk 5 true s3,gx 217 [l0] ha5,gno l1,gm l2,uW 3 (.ld 5 true s4),uW 3 (.call 217 [l4] ha5),uW 3 (.un .not l5),T7 l3 l6] 5 7) (.cond s5 (sq (r1 [gm yW] 2 0) .ret) .skip)) (sq (sq (r1 [gf 0 s3,gd l0,gf 0 s4,gd l2,gx 630 [l1,l3] pF,gm l4] 6 5) (sq (r1 [gm s6,sJ l0 yW] 7 1) (.cond s7 (sq (r1 [gm s6,gm l0] 2 1) .ret) .skip))) (sq (sq (r1 [gf 1 s3,gd l0,gf 1 s4,gd l2,gx 630 [l1,l3] pF,gm l4] 8 5) (sq (r1 [gm s8,sJ l0 yW] 9 1) (.cond s9 (sq (r1 [gm s8,gm l0] 2 1) .ret) .skip))) (sq (sq (r1 [gf 2 s3,gd l0,gf 2 s4,gd l2,gx 630 [l1,l3] pF,gm l4] 10 5) (sq (r1 [gm s10,sJ l0 yW] 11 1) (.cond VR (sq (r1 [gm s10,gm l0] 2 1) .ret) .skip))) (sq (r1 [gf 3 s3,gd l0,gf 3 s4,gd l2,gx 631 [l1,l3] pF,gm l4] 2 5) .ret))))))⟩
def w424 (hm:(Y.at 0).bN)(hA:Ca Y)(hB:V3 Y)(hC:C631 Y):ua (cn Y Iw):=λa b hp0=>by
 refine zg ?_;refine aH (λhc0=>?_) (λhc0=>?_)
 .simp only[cW,cg]at hc0;refine zr ?_;unfold jm;rw[ak hc0]
 simp only[dX,cX]at hc0;have hv:¬(fT a=false\/fT b=false):=by simp only[not_or,Bool.not_eq_false];first|exact hc0|exact hc0.1
 refine zc ?_ ?_<;>intro hc1
 .refine zr ?_;unfold jm;rw[ai hv,ak hc1]
 refine zc ?_ ?_<;>intro hc2
 .refine zr ?_;unfold jm;rw[ai hv,ai ox,ak hc2]
 refine zc ?_ ?_<;>intro hc3
 .refine zr ?_;unfold jm;rw[ai hv,ai ox,ai (by simpa using hc2),ak hc3]
 refine jX ?_;refine aD (hc:=hC a.pre b.pre ⟨hp0.1.1,hp0.2.1⟩) ?_;refine zr ?_;unfold jm;rw[ai hv,ai ox,ai (by simpa using hc2),ai yy]
def Nr:aj:=bd 26
def w147 (hA:VY Y)(hB:C144 Y)(hC:C145 Y)(hD:C360 Y)(hE:C361 Y)(hF:C362 Y):I3 (cn Y Nr):=λl shop e ks hp0=>by
 refine cY ?_;have hyp:=(tP hp0.1.p.1.1 (i:=0) (by have:=(yt hp0.1.p.1.1).1;omega)).2.2.1;refine p9 ?_;refine p9 ?_;refine aW ?_;refine aS (env':=[_,_,_,_,⟨_,_⟩,⟨_,(.int _ _)⟩,_,_,⟨_,_⟩,_,_,_,_,_,_,_,_,_,_]) ?_;refine cF ?_;refine ax ?_;refine aW ?_;refine aD (hc:=hA (l) Rj) ?_;refine aW ?_;refine gw (.int _ _) ?_;refine gw (.int _ _) ?_;refine aW ?_;refine aW ?_;refine aS (env':=[_,_,_,_,_,_,⟨_,(.int _ _)⟩,_,_,_,_,_,_,_,_,_,_,_,_]) ?_;refine cF ?_;refine ax ?_;refine aW ?_;refine po ?_;refine aS (env':=[_,_,_,_,_,_,_,⟨_,(.bool _)⟩,_,_,_,_,_,_,_,_,_,_,_]) ?_;refine dT ?_ ?_<;>intro hc0
 .exact absurd trivial hc0
 refine fw ?_;refine aD (hc:=hC (shop) Rj) ?_;refine jX ?_;refine aS (env':=[_,_,_,_,_,_,_,_,_,⟨_,(.bool _)⟩,_,_,_,_,_,_,_,_,_]) ?_;refine zc ?_ ?_<;>intro hc1
 .refine cU ?_;refine cq _ ?_;refine br _ ?_;refine cY ?_;refine aS (env':=[_,_,_,_,_,⟨_,(.int _ _)⟩,_,_,_,_,_,_,_,_,_,_,_,_,_]) ?_;refine zr ?_;rw[acD hc1];rfl
 refine eB ?_;refine ax ?_;refine aW ?_;refine aD (hc:=hD (l) Rj) ?_;refine aW ?_;refine gw (.sl _ _) ?_;refine gw (.int _ _) ?_;refine aW ?_;refine aW ?_;refine aS (env':=[_,_,_,_,_,_,_,_,_,_,⟨_,(.int _ _)⟩,_,_,⟨_,(.sl _ _)⟩,_,_,_,_,_]) ?_;refine cF ?_;refine ax ?_;refine aW ?_;refine po ?_;refine aS (env':=[_,_,_,_,_,_,_,_,_,_,_,⟨_,(.bool _)⟩,_,_,_,_,_,_,_]) ?_;refine dT ?_ ?_<;>intro hc2
 .exact absurd trivial hc2
 refine fw ?_;refine aS (env':=[_,_,_,_,_,_,_,_,_,_,_,_,⟨_,(.int _ _)⟩,_,_,_,_,_,_]) ?_;refine zf hm (λi=>[.m 11 l gI.D,.m 2 shop cj.D,.u 1,.m 6 ks Kp.D,.p 1 1,.u 3,.p 0 3,.u 3,.i i,.m 2 (gu l) iH.D,.u 5]) (λi=>[(0,.buf 3 [Env.D e]),(1,.buf 1 [.agg [.aR]])]) 30 (λi=>i<=(gu l).length/\∀j,j<i->0<=mz shop (gu l)[j]!.shelf) (λi=>(gu l).length-i) ⟨ae,λj h=>ae⟩ [(0,0),(1,1)] ?_;rintro i ⟨hi,hr⟩;refine zg ?_;intro u0;refine dT ?_ ?_<;>intro hc3
 .refine zc ?_ ?_<;>intro hc4
  .refine cY ?_;refine cq _ ?_;refine br _ ?_;refine zr ?_;rw[acE hc1 (i:=i) ae ae];rfl
  refine fM (i+1) [(0,0),(1,1)] ?_;exact λj h=>by rcases Nat.lt_succ_iff_lt_or_eq.1 h with h|rfl;exact hr j h;omega
 refine dt ?_;have hpa:=Zh (l:=l) (shop:=shop) (i:=i) ae hr;refine k9 ?_;refine cq _ ?_;refine cY ?_;refine aV (cx.D (yr l shop e ks) (.ptr 40 2 0 0)) ?_;refine dS (nx':=34) (v:=.tup [cA.D (cK (yr l shop e ks)).1,.bool (cK (yr l shop e ks)).2]) (m':=[(0,.buf 3 [Env.D e]),(1,.buf 1 [.agg [.aR]])]) (hc:=λK' hK=>hF (yr l shop e ks) hp0 _ 40 _ K' eI ah hK) (hn:=a7) ?_;refine zc ?_ ?_<;>intro hc5
 .refine cU ?_;refine cq _ ?_;refine br _ ?_;refine zr ?_;rw[acF hc1 hpa oV];rfl
 refine dt ?_;refine br _ ?_;refine zr ?_;rw[acG hc1 hpa oV];rfl
def Ux:aj:=bd 40
def w548 (hm:(Y.at 0).bN):JY (cn Y Ux):=λs=>by
 refine zc ?_ ?_<;>intro hc0
 .refine zr ?_;simp[sk,hc0]
 refine zr ?_;simp[sk,hc0]
def Pw:aj:=bd 90
def w733 (hm:(Y.at 0).bN):Kn (cn Y Pw):=λs=>by
 refine zc ?_ ?_<;>intro hc0
 .refine zr ?_;simp[gA,hc0]
 refine zr ?_;simp[gA,hc0]
def Pt:aj:=bd 12
def w101:IZ (cn Y Pt):=λl hp0=>by
 show dk _ _ _ [⟨_,_⟩,_,_,_,_,_,_,_,_,_] _;have hsz:=hp0.1;refine ax ?_;refine zg ?_;intro u0;refine zf hm (λi=>[.u 2,.p 0 4,.i i,.i l.lines.length,.u 1,.m 9 l.lines ea.D,.u 2,.o 1 6 (ph (l.lines.take i)).length]) (λi=>[(0,.buf 4 [jE.D l]),(1,.buf 6 ((ph (l.lines.take i)).map Kp.D))]) 7 (λi=>i<=l.lines.length) (λi=>l.lines.length-i) ae [(0,0)] ?_;intro i hi;have hk:=Uo (l.lines.take i);simp only[ey]at hk;refine zc ?_ ?_<;>intro hc0
 .refine jX ?_;refine br _ ?_;refine zc ?_ ?_<;>intro hc1
  .refine jX ?_;refine aV (Kp.D ⟨l.lines[i]!.name,l.lines[i]!.v⟩) ?_;refine bj [Kp.D _] ?_;refine zg ?_;have hq:=Ag l.lines i ae;rw[ai hc1]at hq;rw[<-hq];exact ir (i+1) [(0,0),(22,1)]
  refine zg ?_;have hq:=Ag l.lines i ae;rw[ak hc1,fZ]at hq;rw[<-hq];exact ir (i+1) [(0,0),(1,1)]
 refine jX ?_;refine bD 1 ?_;refine zr ?_;have ht:l.lines.take i=l.lines:=fE ae;rw[ht];exact rfl
def Dc:aj:=bd 41
def w549 (hm:(Y.at 0).bN)(hA:VZ Y)(hB:C451 Y)(hC:C497 Y)(hD:C548 Y):JZ (cn Y Dc):=λx hp0=>by
 show dk _ _ _ [⟨_,_⟩,_,_,_] _;have hf:=hp0;obtain⟨hv,hn,hs,hfl,hft⟩:=hf;have a1:=ta x.v hv;have a3:=tp x.shelf;have a4:=ju x.sum;refine ax ?_;refine jb ?_;refine k9 ?_;refine bj [(.str _),(.str _),(.str _),(.str _)] ?_;refine dt ?_;have hj:∀t∈[x.name,oq x.v,sk x.shelf,jA x.sum]++x.feats,t.length<=2097200:=by
  intro t ht;simp only[rv,pA,bU]at ht;rcases ht with rfl|rfl|rfl|rfl|ht
  .omega
  .omega
  .omega
  .omega
  .exact dN (hft t ht) ae
 refine fw ?_;refine pn (xs:=[x.name,oq x.v,sk x.shelf,jA x.sum]) (ys:=x.feats) (he:=nk.sl) (hb:=eJ) ?_;refine aD (hc:=hA ([x.name,oq x.v,sk x.shelf,jA x.sum]++x.feats) [32] eJ aF hj) (ha:=λ_=>ar (λd=>[d,D.str [32]]) (lX (q:=D.str) (λ_=>rfl) ah)) (hp:=λ_=>⟨jT (q:=D.str) (λ_=>rfl) ah,rfl,trivial⟩) ?_;refine zr ?_;exact Ur x
def DO:aj:=bd 164
def w752 (hm:(Y.at 3).bN)(y:cx)(ns:List av)(k:Key)(hA:C755 (Y.at 3))(hB:C816 (Y.at 3))(hp0:pG y)(hp1:ns.length<=999):dk (Y.at 3) DO.body (wD DO (Lg y (eU ns k.n) (uK (eG y k))):Ex->List aY->St->Prop) (fP DO [cx.D y (.ptr 0 2 0 0),Key.D k]) ⟨3,[(0,.buf 2 [eN 1 2 ns.length]),(1,.buf 1 (ns.map D.str)),(2,.buf 1 (df y ns))]⟩:=by
 show dk _ _ _ [⟨true,cx.D y (.ptr 0 2 0 0)⟩,⟨true,Key.D k⟩,.un,.un,.un,.un,.un,.un,.un,.un] ⟨3,[(0,.buf 2 [eN 1 2 ns.length]),(1,.buf 1 (ns.map D.str)),(2,.buf 1 (df y ns))]⟩;refine ax ?_;refine Ov ?_;refine dS (nx':=9) (v:=uK (dI y k.n)) (m':=[(10,.buf 1 ((eU ns k.n).map D.str)),(11,.buf 1 (df y (eU ns k.n))),(0,.buf 2 [eN 10 11 (eU ns k.n).length]),(3,.buf 8 [cx.D y (.ptr 0 2 0 0)]),(4,.buf 2 [Key.D k])]) (hc:=λK' hK=>hA y ns k.n hp0 ae _ 0 1 2 _ K' eI eI eI a7 ⟨rfl,rfl,rfl⟩ hK) (hn:=a7) ?_;refine cY ?_;refine aS (env':=[_,_,_,_,_,_,⟨_,(.sl _ _)⟩,_,_,_]) ?_;refine zg ?_;refine zf hm (λi=>[.u 4,.p 4 2,.i i,.m 10 (dI y k.n) uG.D,.u 2,.o 7 10 (((dI y k.n).take i).filter (YU k.f)).length]) (λi=>[(0,.buf 2 [eN 5 6 (eU ns k.n).length]),(5,.buf 1 ((eU ns k.n).map D.str)),(6,.buf 1 (df y (eU ns k.n))),(4,.buf 2 [Key.D k]),(7,.buf 10 ((((dI y k.n).take i).filter (YU k.f)).map uG.D))]) 20 (λi=>i<=(dI y k.n).length) (λi=>(dI y k.n).length-i) ae [(10,5),(11,6),(4,4)] ?_;intro i hi;have hfl:=List.length_filter_le (YU k.f) ((dI y k.n).take i);have hl64:=(look_ok hp0 k.n).1;rw[ey]at hfl;refine zg ?_;intro u0;refine dT ?_ ?_<;>intro hc0
 .refine zc ?_ ?_<;>intro hc1
  .refine jX ?_;refine bj [uG.D (dI y k.n)[i]!] ?_;refine cR (q:=uG.D) (xs:=((dI y k.n).take i).filter (YU k.f)) (e:=(dI y k.n)[i]!) (hb:=ae) ?_;refine zg ?_;rw[ofT_y ae hc1];exact ir (i+1) [(4,4),(5,5),(6,6),(44,7)]
  refine zg ?_;rw[ofT_n ae hc1];exact ir (i+1) [(4,4),(5,5),(6,6),(7,7)]
 refine cU ?_;obtain rfl:i=(dI y k.n).length:=ae;rw[List.take_length];refine bD 7 ?_;refine zg ?_;refine gP trivial lO (dY ah (?_)) ah ⟨cE,5,6,⟨ae,ae,ae⟩,tj⟩;rfl
def Uz:aj:=bd 6
def w90 (hA:G9 Y)(hB:C266 Y):Q4 (cn Y Uz):=λks most hp0=>by
 refine k9 ?_;refine aV (Gs.D (⟨ks,0⟩:Gs)) ?_;refine fw ?_;refine cq [.str F9,.aR] ?_;refine cq [.str Ef,.aR] ?_;refine bj [.agg [.str F9,.aR],.agg [.str Ef,.aR]] ?_;refine dt ?_;refine EE [(3,.buf 2 [Gs.D (⟨ks,0⟩:Gs)]),(7,.buf 2 (NX.map cj.D))] (.id ah (.bf ah (.cons (.ag (.cons (.refl _) (.cons (.nil 11) .nil))) (.cons (.ag (.cons (.refl _) (.cons (.nil 11) .nil))) .nil)) .nil)) ?_;refine bD 7 ?_ (he:=KR) (hm:=KR);refine cY ?_;have rn:=((⟨ks,0⟩:Gs).S8 (most+1)).1 ae;have hz:(⟨ks,0⟩:Gs).i=0:=rfl;refine dt ?_;refine cN (hc:=hA (⟨ks,0⟩:Gs) (most+1) ae ae) ?_;refine zg ?_;refine gG hm (ι:=Nat) (λi=>[.un,.un,.un,⟨true,.ptr 0 2 0 0⟩,⟨true,.int .i64 (((⟨ks,0⟩:Gs).val (most+1)) -((i:Nat):Int))⟩,.un,⟨true,.sl 2 (((pS (⟨ks,0⟩:Gs).aI i).1).map cj.D)⟩]) (λi=>[(0,.buf 2 [Gs.D (pS (⟨ks,0⟩:Gs).aI i).2])]) 14 (λi=>i<=((⟨ks,0⟩:Gs).val (most+1)).toNat) (λi=>((⟨ks,0⟩:Gs).val (most+1)).toNat-i) 0 ae (aZ.to [(3,0)] ah ah KU (by refine bn.nl 3 ah ah ah dL ?_;exact bn.nil)) ?_;intro i hi;have hps:=SB (⟨ks,0⟩:Gs).aI i;obtain⟨hq1,hq2⟩:=hps.1;rw[Gs.YT]at hq1 hq2;refine zc ?_ ?_<;>intro hc0
 .refine k9 ?_;refine cN (hc:=hB (pS (⟨ks,0⟩:Gs).aI i).2 (pS (⟨ks,0⟩:Gs).aI i).1 ae ⟨Zf _ _,ae,ae⟩) ?_;refine zg ?_;exact⟨i+1,ae,ae,(aZ.to [(0,0)] ah ah KU KM)⟩
 refine cU ?_;obtain rfl:i=((⟨ks,0⟩:Gs).val (most+1)).toNat:=ae;exact mQ
def Qg:aj:=bd 59
def w344 (hA:Ha Y):Jm (cn Y Qg):=λl=>by
 refine zg ?_;refine zf hm (λi=>[.m 2 l iH.D,.u 2,.i i,.u 2]) (λi=>[]) 3 (λi=>i<=l.length/\Dv l=gE (MW l) i l.length) (λi=>l.length-i) ⟨ae,rfl⟩ [] ?_;rintro i ⟨hi,hr⟩;refine zg ?_;intro u0;refine dT ?_ ?_<;>intro hc0
 .refine jb ?_;refine EH ?_;refine cC (i-1) (hj:=λhf=>B9) (hb:=λhf=>B9) ?_;refine zg ?_;refine wp_cond (λhc1=>?_) (λhc1=>?_)
  .simp only[gL]at hc1;simp only[gt_iff_lt,Int.natCast_pos]at hc1;have hz:=MX hc1;refine zg ?_;refine dj (ba (ar (D.int .i64) ?_) (ar (D.int .i64) ?_));all_goals rw[hr,gF ae (by rw[hz];decide),hz]
  simp only[gL]at hc1;simp only[gt_iff_lt,Int.natCast_pos]at hc1;have hz:=Sy (l:=l) (i:=i) (by rintro((h|h)|⟨h,h2⟩)<;>simp_all);refine fM (i+1) [] ?_;rw[hr,ke ae hz]
 refine zg ?_;refine dj (ba (ar (D.int .i64) ?_) (ar (D.int .i64) ?_));all_goals rw[hr,kd ae]
def Nf:aj:=bd 159
def w73 (hm:(Y.at 0).bN)(hA:C71 Y)(hB:C219 Y):zO (cn Y Nf):=λr hp0=>by
 refine zc ?_ ?_<;>intro hc0
 .refine zg ?_;refine dj (ba (ar D.str ?_) (ar (D.int .i64) ?_));all_goals
   simp[fC,hc0]
 refine cU ?_;have hgd:=ma hc0;refine zg ?_;refine dj (ba (ar D.str ?_) (ar (D.int .i64) ?_));all_goals
  simp[fC,hc0]
def U0:aj:=bd 104
def w75 (hm:(Y.at 0).bN)(hA:C73 Y)(hB:C221 Y):zP (cn Y U0):=λr hp0=>by
 refine zc ?_ ?_<;>intro hc0
 .refine zg ?_;refine dj (ba (ar (D.int .u64) ?_) (ar (D.int .i64) ?_));all_goals
   simp[wj,hc0]
 refine fw ?_;refine aD (hc:=hB (fC r).1) (ha:=λ_=>ar (λd=>[d]) (lX (q:=λb:UInt8=>D.int .u8 b.toNat) (λ_=>rfl) ah)) (hp:=λ_=>⟨jT (q:=λb:UInt8=>D.int .u8 b.toNat) (λ_=>rfl) ah,trivial⟩) ?_;refine zg ?_;refine dj (ba (ar (D.int .u64) ?_) (ar (D.int .i64) ?_));all_goals
  simp[wj,hc0]
def Ql:aj:=bd 260
def w1015 (hA:C501 Y):ER (cn Y Ql):=λy ns r hp0=>by
 refine zg ?_;refine zf hm (λi=>[.u 3,.i i,.p 0 8,.u 1,.p 1 9,.u 1]) (λi=>[(0,.buf 8 [cx.D y (fdR y ns)]),(1,.buf 9 [Rec.D r])]) 4 (λi=>i<=y.keeps.length/\Mb y.keeps r=(y.keeps.drop i).any λk=>decide (k.name=r.name)&&MG k.v r.v) (λi=>y.keeps.length-i) ⟨ae,rfl⟩ [(0,0),(1,1)] ?_;rintro i ⟨hi,hr⟩;refine zg ?_;intro u0;refine dT ?_ ?_<;>intro hc0
 .refine zc ?_ ?_<;>intro hc1
  .refine zr ?_;rw[hr,wJ ae ox]
  refine fM (i+1) [(0,0),(1,1)] ?_;rw[hr,Cf ae (by rcases hc1 with h|h<;>simp_all)]
 refine zr ?_;rw[hr,wI ae]
end Go.Abs
end
