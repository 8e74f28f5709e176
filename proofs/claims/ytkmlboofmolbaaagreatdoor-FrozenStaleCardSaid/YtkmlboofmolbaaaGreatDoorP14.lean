/- A part of the proofs. -/
import Derived.Test.YtkmlboofmolbaaaGreatDoorP09
set_option linter.all false
set_option maxRecDepth 60000
set_option maxHeartbeats 2000000
noncomputable section
namespace Go.Abs
variable {Y:Ctx}(hm:(Y.at 0).cb)
def Oz:aj:=bj 74
def w349:ua (cz Y Oz):=λs=>by
 refine zc ?_ ?_<;>intro hc0
 .refine zr ?_;symm;simp only[gT,er,cy];rcases hc0 with h|h
  .subst h;exact Or.inl (Or.inl aB)
  .exact Or.inl ae
 refine zg ?_;have hP:gT s=b9 (λi=>Gu (at8 s i)) 0 s.length:=by
  have:=List.length_pos_iff.2 hc0.1;simp only[gT];rw[bA ae,bA ae];rfl
 refine zf hm (λi=>[.e (.str s),.u 2,.e (.it 9),.u 4]) (λi=>[(9,.iter s i)]) 10 (λi=>i<=s.length/\gT s=b9 (λi=>Gu (at8 s i)) i s.length) (λi=>s.length-i) ⟨ae,hP⟩ [(9,9)] ?_;rintro i ⟨hi,hr⟩;refine zg ?_;by_cases hnx:i<s.length
 .obtain⟨c,w,hdec,hw,hcw⟩:=xa s i hnx;refine HQ c w (hp:=hnx) (hc:=hdec) ?_;refine zg ?_;refine aR (t:=true) (λ_=>?_) (λh=>cj);refine gr ?_;refine lS ?_ hm;refine aQ ?_;refine kY (.int _ _) ?_;refine bK ?_;refine bB (env':=[_,_,_,_,_,_,⟨_,(.int _ _)⟩,_]) ?_;refine lS ?_ hm;refine gh ?_;refine aQ ?_;refine bK ?_;refine HM ?_;refine bK ?_;refine bK ?_;refine HO ?_;refine u7 ?_;refine bK ?_;refine bB (env':=[_,_,_,_,_,_,_,⟨_,(.bool _)⟩]) ?_;refine dN ?_ ?_<;>intro hc2
  .refine zg ?_;refine Bv ?_ ?_<;>intro hc4
   .refine eX ?_;obtain⟨rfl,hat,-⟩:w=1/\(c:Int)=at8 s i/\c<128:=by
     rcases hcw with h|h
     .exact h
     .omega
    have hz:Gu (at8 s i)=true:=by
     simp only[Gu,jU,bO,dF,aC,aV];omega
    exact⟨i+1,⟨ae,by rw[hr,aA hnx,hz];rfl⟩,ae,(gtt [(9,9)])⟩
   refine zg ?_;refine rrrb ?_;first
    |(exfalso;omega)
    |(rw[hr,bI ae];done)
    |(
     have hz:Gu (at8 s i)=false:=by
      rcases hcw with⟨_,h,_⟩|⟨_,h⟩<;>(simp only[Gu,jU,bO,eF,er,cy];omega)
     rw[hr,aA hnx,hz];rfl)
  refine zg ?_;refine dN ?_ ?_<;>intro hc3
  .refine zg ?_;refine Bv ?_ ?_<;>intro hc4
   .refine eX ?_;obtain⟨rfl,hat,-⟩:w=1/\(c:Int)=at8 s i/\c<128:=by
     rcases hcw with h|h
     .exact h
     .omega
    have hz:Gu (at8 s i)=true:=by
     simp only[Gu,jU,bO,dF,aC,aV];omega
    exact⟨i+1,⟨ae,by rw[hr,aA hnx,hz];rfl⟩,ae,(gtt [(9,9)])⟩
   refine zg ?_;refine zr ?_;first
    |(exfalso;omega)
    |(rw[hr,bI ae];done)
    |(
     have hz:Gu (at8 s i)=false:=by
      rcases hcw with⟨_,h,_⟩|⟨_,h⟩<;>(simp only[Gu,jU,bO,eF,er,cy];omega)
     rw[hr,aA hnx,hz];rfl)
  refine zg ?_;refine Bv ?_ ?_<;>intro hc4
  .refine eX ?_;obtain⟨rfl,hat,-⟩:w=1/\(c:Int)=at8 s i/\c<128:=by
    rcases hcw with h|h
    .exact h
    .omega
   have hz:Gu (at8 s i)=true:=by
    simp only[Gu,jU,bO,dF,aC,aV];omega
   refine gI (i+1) [(9,9)] ?_;rw[hr,aA hnx,hz];rfl
  refine zg ?_;refine zr ?_;first
   |(exfalso;omega)
   |(rw[hr,bI ae];done)
   |(
    have hz:Gu (at8 s i)=false:=by
     rcases hcw with⟨_,h,_⟩|⟨_,h⟩<;>(simp only[Gu,jU,bO,eF,er,cy];omega)
    rw[hr,aA hnx,hz];rfl)
 .refine HP (hp:=hnx) ?_;refine zg ?_;refine aR (t:=false) (λh=>cj) (λ_=>?_);refine zr ?_;first
   |(exfalso;omega)
   |(rw[hr,bI ae];done)
   |(
    have hz:Gu (at8 s i)=false:=by
     rcases hcw with⟨_,h,_⟩|⟨_,h⟩<;>(simp only[Gu,jU,bO,eF,er,cy];omega)
    rw[hr,aA hnx,hz];rfl)
def Oy:aj:=bj 121
def w208:tR (cz Y Oy):=λs=>by
 refine zc ?_ ?_<;>intro hc0
 .refine zr ?_;symm;simp only[dn];rcases hc0 with h|h
  .subst h;simp
  .rw[bN (by omega:¬s.length<=16)];simp
 refine zg ?_;have h0:=List.length_pos_iff.2 hc0.1;have hP:=ady s ae ae;refine zf hm (λi=>[.e (.str s),.u 2,.e (.it 9),.u 9]) (λi=>[(9,.iter s i)]) 10 (λi=>i<=s.length/\dn s=b9 (pj s) i s.length) (λi=>s.length-i) ⟨ae,hP⟩ [(9,9)] ?_;rintro i ⟨hi,hr⟩;refine zg ?_;by_cases hnx:i<s.length
 .obtain⟨c,w,hdec,hw,hcw⟩:=xa s i hnx;refine HQ c w (hp:=hnx) (hc:=hdec) ?_;refine zg ?_;refine aR (t:=true) (λ_=>?_) (λh=>cj);refine gr ?_;refine lS ?_ hm;refine aQ ?_;refine kY (.int _ _) ?_;refine kY (.int _ _) ?_;refine bK ?_;refine bK ?_;refine bB (env':=[_,_,_,_,_,_,⟨_,(.int _ _)⟩,_,_,⟨_,(.int _ _)⟩,_,_,_]) ?_;refine lS ?_ hm;refine aQ ?_;refine bK ?_;refine HM ?_;refine bK ?_;refine bK ?_;refine HO ?_;refine u7 ?_;refine bK ?_;refine bB (env':=[_,_,_,_,_,_,_,⟨_,(.bool _)⟩,_,_,_,_,_]) ?_;refine Bv ?_ ?_<;>intro hc2
  .refine eX ?_;obtain⟨rfl,hat,-⟩:w=1/\(c:Int)=at8 s i/\c<128:=by
    rcases hcw with h|h
    .exact h
    .omega
   have hz:pj s i=true:=by
    simp only[pj,jU,bO,dF,aC,cG,aV,cy];omega
   exact⟨i+1,⟨ae,by rw[hr,aA hnx,hz];rfl⟩,ae,(gtt [(9,9)])⟩
  refine zg ?_;refine Bv ?_ ?_<;>intro hc3
  .refine zg ?_;refine Bv ?_ ?_<;>intro hc4
   .refine zg ?_;refine rrrb ?_;first
     |(exfalso;omega)
     |(rw[hr,bI ae];done)
     |(have hz:pj s i=false:=by
        rcases hcw with⟨_,h,_⟩|⟨_,h⟩<;>(simp only[pj,jU,bO,eF,er,dq,aV,cy];omega)
       rw[hr,aA hnx,hz];rfl)
   refine eX ?_;obtain⟨rfl,hat,-⟩:w=1/\(c:Int)=at8 s i/\c<128:=by
    rcases hcw with h|h
    .exact h
    .omega
   have hz:pj s i=true:=by
    simp only[pj,jU,bO,dF,aC,cG,aV,cy];omega
   refine gI (i+1) [(9,9)] ?_;rw[hr,aA hnx,hz];rfl
  refine zg ?_;refine Bv ?_ ?_<;>intro hc5
  .refine iw ?_;refine Ap (i-1) ?_;refine zg ?_;refine Bv ?_ ?_<;>intro hc6
   .refine zr ?_;first
     |(exfalso;omega)
     |(rw[hr,bI ae];done)
     |(have hz:pj s i=false:=by
        rcases hcw with⟨_,h,_⟩|⟨_,h⟩<;>(simp only[pj,jU,bO,eF,er,dq,aV,cy];omega)
       rw[hr,aA hnx,hz];rfl)
   refine zg ?_;obtain⟨rfl,hat,-⟩:w=1/\(c:Int)=at8 s i/\c<128:=by
    rcases hcw with h|h
    .exact h
    .omega
   have hz:pj s i=true:=by
    simp only[pj,jU,bO,dF,aC,cG,aV,cy];omega
   refine gI (i+1) [(9,9)] ?_;rw[hr,aA hnx,hz];rfl
  refine zg ?_;refine zr ?_;first
   |(exfalso;omega)
   |(rw[hr,bI ae];done)
   |(have hz:pj s i=false:=by
      rcases hcw with⟨_,h,_⟩|⟨_,h⟩<;>(simp only[pj,jU,bO,eF,er,dq,aV,cy];omega)
     rw[hr,aA hnx,hz];rfl)
 .refine HP (hp:=hnx) ?_;refine zg ?_;refine aR (t:=false) (λh=>cj) (λ_=>?_);refine zr ?_;first
   |(exfalso;omega)
   |(rw[hr,bI ae];done)
   |(have hz:pj s i=false:=by
      rcases hcw with⟨_,h,_⟩|⟨_,h⟩<;>(simp only[pj,jU,bO,eF,er,dq,aV,cy];omega)
     rw[hr,aA hnx,hz];rfl)
def Hc:aj:=bj 162
def w658:uu (cz Y Hc):=λs=>by
 refine En ?_;refine Ap 0 (hb:=λh=>by simp at h;exact List.length_pos_iff.2 h.1) ?_;refine zc ?_ ?_<;>intro hc0
 .refine zg ?_;refine fM (b7 (aw (D.int .i64) ?_) (aw D.bool ?_));all_goals
   have:ox s=false:=by
    rw[Yb];rcases hc0 with(h|h)|h
    .subst h;simp
    .rw[bN (by omega:¬s.length<=4)];simp
    .rw[bA (by omega:1<s.length),bA h.1];simp
   simp[C6,this]
 refine zg ?_;have h0:=List.length_pos_iff.2 hc0.1.1;have hP:ox s=b9 (λi=>bO (at8 s i)) 0 s.length:=by
  rw[Yb,bA (by omega:1<=s.length),bA (by omega:s.length<=4)];rcases hc0.2 with h|h
  .rw[bN h,Bool.and_false];rfl
  .rw[bN (by omega:¬1<s.length)];rfl
 refine zf hm (λi=>[.e (.str s),.u 3,.e (.it 21),.u 4,.i (fe (s.take i):Nat)]) (λi=>[(21,.iter s i)]) 22 (λi=>i<=s.length/\s.length<=4/\ox s=b9 (λi=>bO (at8 s i)) i s.length) (λi=>s.length-i) ⟨ae,ae,hP⟩ [(21,21)] ?_;rintro i ⟨hi,h9,hr⟩;refine zg ?_;by_cases hnx:i<s.length
 .obtain⟨c,w,hdec,hw,hcw⟩:=xa s i hnx;refine HQ c w (hp:=hnx) (hc:=hdec) ?_;refine zg ?_;refine aR (t:=true) (λ_=>?_) (λh=>cj);refine zc ?_ ?_<;>intro hc2
  .refine cN ?_;obtain⟨rfl,hat,-⟩:w=1/\(c:Int)=at8 s i/\c<128:=by
    rcases hcw with h|h
    .exact h
    .omega
   have hn:=xF s i ae;have hn2:=Ak s i ae;have h256:=GP s i;refine cN ?_;refine xX ?_;refine cN ?_;refine HR ((c:Int) -48) (hb:=λ_=>IntWalk.i32_in _ ae) ?_;refine qb ((c:Int) -48) (hb:=λ_=>IntWalk.i64_in _ ae) ?_;refine dI ?_;rw[show 10*(fe (s.take i):Int)+((c:Int) -48)=(fe (s.take (i+1)):Nat)by omega];refine zg ?_;have hz:bO (at8 s i)=true:=by
    simp only[bO,aC,aV];omega
   refine zl (i+1) [(21,21)] ?_;exact⟨ae,h9,by rw[hr,aA ae,hz];rfl⟩
  refine zg ?_;refine fM (b7 (aw (D.int .i64) ?_) (aw D.bool ?_));all_goals
   have hz:bO (at8 s i)=false:=by
    rcases hcw with⟨_,h,_⟩|⟨_,h⟩<;>(simp only[bO,er,cy];omega)
   have:ox s=false:=by rw[hr,aA ae,hz];rfl
   simp[C6,this]
 .refine HP (hp:=hnx) ?_;refine zg ?_;refine aR (t:=false) (λh=>cj) (λ_=>?_);refine oG ?_;refine LQ.out ?_;refine aQ ?_;refine bK ?_;refine bK ?_;refine HO ?_;refine bK ?_;refine bK ?_;refine bB (env':=[_,⟨_,(.int _ _)⟩,⟨_,(.bool _)⟩,_,_,_,_,_,_,_]) ?_;refine wp_ret ?_;refine fM (b7 (aw (D.int .i64) ?_) (aw D.bool ?_));all_goals
   have this:ox s=true:=by rw[hr,bI ae]
   have ht:s.take i=s:=fj ae;have h9:=this;simp only[ox,aC,aV]at h9;have h99:=h9.2;rw[ht];first
   |(simp only[C6,this];rfl)
   |(rw[this,aV];omega)
def sO:aj:=bj 101
def w582 (hm:(Y.at 3).cb)(y:cF)(ns:List au)(hA:C748 (Y.at 3))(hB:C749 (Y.at 3))(hp0:qy y/\lz y.e)(hp1:ns.length<=900):dx (Y.at 3) sO.body (uG sO (KG y (sJ y 49 nG ns) (qW y)):Ex->List ba->St->Prop) (fU sO [cF.D y (.ptr 0 2 0 0)]) ⟨3,[(0,.buf 2 [eO 1 2 ns.length]),(1,.buf 1 (ns.map D.str)),(2,.buf 1 (dp y ns))]⟩:=by
 show dx _ _ _ [⟨true,cF.D y (.ptr 0 2 0 0)⟩,.un,.un,.un,.un,.un,.un,.un,.un,.un,.un,.un,.un,.un,.un,.un,.un,.un,.un,.un,.un] ⟨3,[(0,.buf 2 [eO 1 2 ns.length]),(1,.buf 1 (ns.map D.str)),(2,.buf 1 (dp y ns))]⟩;refine aQ ?_;refine kI ?_;refine bg (Key.D fL) ?_;refine bc [Key.D fL] ?_;refine cC ?_;refine bm 7 ?_ (he:=GD) (hm:=GD);refine cN ?_;refine bg (Key.D fL) ?_;refine bc [Key.D fL] ?_;refine zg ?_;refine zfx hm (⟨0,nG,[fL],0,1,ns⟩:RcS) (λp=>[.u 3,.e (.own 10 2 p.o p.c),.u 1,.p 3 8,.u 10,.m 2 p.s.all Key.D,.u 4]) (λp=>[(0,.buf 2 [eO 5 6 p.nn.length]),(5,.buf 1 (p.nn.map D.str)),(6,.buf 1 (dp y p.nn)),(3,.buf 8 [cF.D y (.ptr 0 2 0 0)]),(10,.buf 2 (p.b.map Key.D))]) 20 (Te y ns) (λp=>49-p.n) (akG y ns) [(1,5),(2,6),(3,3),(10,10)] ?_;rintro⟨n,s,b,o,c,nn⟩ hP;have hbf:=hP.2.2;have hnn:=hP.2.1.1;have hn48:=hP.1.1;have hI:=hP.1.2.1;dsimp only at hbf hnn hn48 hI⊢;obtain⟨hb1,rT,hb3⟩:=hbf;have hlen:=hI.len;refine zg ?_;intro _;refine dN ?_ ?_<;>intro hc0
 .refine eX ?_;refine sI 0 (hj:=λ_=>rfl) (hb:=λ_=>ae) ?_;refine oX (q:=Key.D) (xs:=b) (v:=Key.D s.todo[0]!) (hi:=λ_=>ae) (hv:=λ_=>by rw[ahi rT ae];rfl) ?_;refine kI ?_;refine Dp 1 (hb:=λ_=>ae) ?_;refine kF ?_;refine dK (nx':=33) (v:=.sl 1 ((de y s.todo[0]!).map dU)) (m':=[(33,.buf 1 ((jy nn s.todo[0]!).map D.str)),(34,.buf 1 (dp y (jy nn s.todo[0]!))),(0,.buf 2 [eO 33 34 (jy nn s.todo[0]!).length]),(3,.buf 8 [cF.D y (.ptr 0 2 0 0)]),(10,.buf 2 (b.map Key.D)),(26,.buf 2 [Key.D s.todo[0]!])]) (hc:=λK' hK=>hA y nn s.todo[0]! hp0 ae _ 0 5 6 _ K' eB eB eB aU ⟨rfl,rfl,rfl⟩ hK) (hn:=aU) ?_;refine zg ?_;intro u0;refine zfx hm (⟨0,⟨s.all,s.todo.drop 1⟩,b,o+1,c-1⟩:RcT) (λp=>[.u 3,.e (.own 10 2 p.o p.c),.u 1,.p 3 8,.u 1,.i p.i,.i ((de y s.todo[0]!).length:Nat),.u 1,.m 1 (de y s.todo[0]!) dU,.u 5,.m 2 p.t.all Key.D,.u 4]) (λp=>[(0,.buf 2 [eO 5 6 (jy nn s.todo[0]!).length]),(5,.buf 1 ((jy nn s.todo[0]!).map D.str)),(6,.buf 1 (dp y (jy nn s.todo[0]!))),(3,.buf 8 [cF.D y (.ptr 0 2 0 0)]),(10,.buf 2 (p.b.map Key.D))]) 40 (Tg y s) (λp=>(de y s.todo[0]!).length-p.i) (ak5 y hb1 rT hb3 ae hlen.2 hlen.1) [(33,5),(34,6),(3,3),(10,10)] ?_;rintro⟨i,t,b1,o1,c1⟩ hT;have hT2:=hT;obtain⟨hi,ht,⟨hb4,hb5,hb6⟩,hta⟩:=hT2;dsimp only at hi ht hb4 hb5 hb6 hta⊢;refine zc ?_ ?_<;>intro hc1
  .refine dI ?_;have hro:=ZK hp0.1.p s.todo[0]!;have hrl:=hro.2 _ (aq (show i<(de y s.todo[0]!).length by omega));refine cN ?_;refine dd (v:=.sl 4 ((de y s.todo[0]!)[i]!.map jq.D)) (hi:=λ_=>ae) ?_;refine zg ?_;intro u1;refine zfxL hm (⟨0,t,b1,o1,c1⟩:RcU) (λp=>[.u 3,.e (.own 10 2 p.o p.c),.u 1,.p 3 8,.u 1,.i i,.i ((de y s.todo[0]!).length:Nat),.u 1,.m 1 (de y s.todo[0]!) dU,.u 1,.i p.j,.i ((de y s.todo[0]!)[i]!.length:Nat),.u 1,.m 4 (de y s.todo[0]!)[i]! jq.D,.m 2 p.u.all Key.D,.u 4]) (λp=>[(0,.buf 2 [eO 5 6 (jy nn s.todo[0]!).length]),(5,.buf 1 ((jy nn s.todo[0]!).map D.str)),(6,.buf 1 (dp y (jy nn s.todo[0]!))),(3,.buf 8 [cF.D y (.ptr 0 2 0 0)]),(10,.buf 2 (p.b.map Key.D))]) 60 (NY (de y s.todo[0]!)[i]! t i) (λp=>(de y s.todo[0]!)[i]!.length-p.j) (ala _ hb4 hb5 hb6 hta) [(3,3),(5,5),(6,6),(10,10)] ?_;rintro⟨j,u,b2,o2,c2⟩ hU;have hU2:=hU;obtain⟨hj,hu,⟨hb7,hb8,hb9⟩,hua⟩:=hU2;dsimp only at hj hu hb7 hb8 hb9 hua⊢;refine zc ?_ ?_<;>intro hc2
   .refine kF ?_;refine bY _ ?_;refine zg ?_;intro u2 u3;refine Bv ?_ ?_<;>intro hc3
    .refine Fb ?_;refine bc [Key.D (de y s.todo[0]!)[i]![j]!.k] ?_;refine rE ((u.todo++[(de y s.todo[0]!)[i]![j]!.k]).map Key.D) (n:=c2+1) (ha:=lj) (he:=lW.all rfl rfl) (hz:=ahh hb7 hb8 _) (hn:=rfl) (hb:=ae) ?_;refine zg ?_;exact⟨⟨j+1,_,(u.todo++[(de y s.todo[0]!)[i]![j]!.k]),0,c2+1⟩,(alc hU ae ae),mL,(aY.to [(3,3),(5,5),(6,6),(84,10)] ah ah eL (by repeat(first|exact bp.nil|refine bp.vO ah ah ec ?_|refine bp.KD ah ah ah ?_|refine bp.NN ah ah ah ah ?_|refine bp.vO ah ah (by exact jk _ _) ?_|refine bp.nl 3 ah ah ah rm ?_|refine bp.eq 3 ah ah ah ?_|refine bp.nl 5 ah ah ah rm ?_|refine bp.eq 5 ah ah ah ?_|refine bp.nl 6 ah ah ah rm ?_|refine bp.eq 6 ah ah ah ?_|refine bp.nl 84 ah ah ah rm ?_|refine bp.eq 84 ah ah ah ?_)))⟩
    refine zg ?_;exact⟨⟨j+1,u,b2,o2,c2⟩,(alb hU ae ae),mL,(aY.to [(3,3),(5,5),(6,6),(10,10)] ah ah eL aaX)⟩
   refine zg ?_;exact⟨⟨i+1,u,b2,o2,c2⟩,(ak6 hT hU ae ae hrl.2),mL,(aY.to [(3,3),(5,5),(6,6),(10,10)] ah ah eL aaX)⟩
  refine zg ?_;intro u4;refine Bv ?_ ?_<;>intro hc4
  .refine eX ?_;refine iu (aY.nz _ [_,⟨true,.sl 2 []⟩,_,_,_,_,_,_,_,_,_,_,_,_,_,_,_,_,_,_,_] _ _ [(0,.buf 2 [eO 5 6 ((jy nn s.todo[0]!)).length]),(5,.buf 1 (((jy nn s.todo[0]!)).map D.str)),(6,.buf 1 (dp y ((jy nn s.todo[0]!))))] ⟨⟨rfl,.refl _⟩,⟨rfl,.nil 2⟩,⟨rfl,.refl _⟩,⟨rfl,.refl _⟩,⟨rfl,.refl _⟩,⟨rfl,.refl _⟩,⟨rfl,.refl _⟩,⟨rfl,.refl _⟩,⟨rfl,.refl _⟩,⟨rfl,.refl _⟩,⟨rfl,.refl _⟩,⟨rfl,.refl _⟩,⟨rfl,.refl _⟩,⟨rfl,.refl _⟩,⟨rfl,.refl _⟩,⟨rfl,.refl _⟩,⟨rfl,.refl _⟩,⟨rfl,.refl _⟩,⟨rfl,.refl _⟩,⟨rfl,.refl _⟩,⟨rfl,.refl _⟩,trivial⟩ (.id ah (.id ah (.id ah .nil)))) ?_;refine zg ?_;refine ei trivial jC (dm ah (?_)) ah ⟨by first|(rw[(Dr hP hT ae ae ae).1];done)|(rw[(Dr hP hT ae ae ae).1];exact rfl),5,6,⟨ae,ae,ae⟩,by rw[(Dr hP hT ae ae ae).2];exact tf⟩;rfl
  refine zg ?_;exact⟨⟨n+1,t,b1,o1,c1,(jy nn s.todo[0]!)⟩,(akH hP hT ae ae ae),mL,(aY.to [(3,3),(5,5),(6,6),(10,10)] ah ah eL aaX)⟩
 refine zg ?_;refine ei trivial jC (dm ah (?_)) ah ⟨by first|(rw[(zn hP ae).1];done)|(rw[(zn hP ae).1];exact rfl),5,6,⟨ae,ae,ae⟩,by rw[(zn hP ae).2];exact tf⟩;rfl
def Zw:aj:=bj 33
def w270 (hA:C52 Y)(hB:Vo Y)(hC:C145 Y)(hD:C169 Y)(hE:Vp Y)(hF:C507 Y)(hG:C508 Y):IY (cz Y Zw):=λshop e w c hp0=>by
 refine yx ?_;refine aG (hc:=hD (w) Ks) ?_;refine dI ?_;refine cB (hc:=λhf=>hC (shop) Ks) ?_;refine uQ ?_;refine cB (hc:=λhf=>hE (w) (c) Ks) ?_;refine zc ?_ ?_<;>intro hc0
 .refine cC ?_;refine bT _ ?_;refine bY _ ?_;refine zr ?_;rw[of_a hc0];rfl
 refine kI ?_;refine aG (hc:=hA (w) (c) Ks) ?_;refine zc ?_ ?_<;>intro hc1
 .refine cC ?_;refine bT _ ?_;refine bY _ ?_;refine zr ?_;rw[of_b hc0 hc1];rfl
 refine dI ?_;refine bg (.agg [.str e.e0,.str e.e1,.str e.e2,.aL]) ?_;refine kI ?_;obtain⟨hcl,⟨hc1a,hc48⟩,hcw⟩:=C0 hc0.2;refine zg ?_;refine gp hm (ι:=Nat) (λu=>[⟨true,.sl 2 ((shop).map bM.D)⟩,.un,.un,⟨true,.sl 1 ((c).map (D.int .i64))⟩,⟨true,.ptr 2 4 0 0⟩,.un,⟨true,.ptr 1 1 0 0⟩,.un,.un,.un,⟨true,.int .i64 (u:Nat)⟩,.un,.un,.un,.un,.un,.un,.un,.un,.un,⟨true,.ptr 3 4 0 0⟩]) (λu=>[(0,.buf 9 ((dX shop w.us c u).1.map dr.D)),(1,.buf 1 [bR.D w]),(2,.buf 4 [.agg [.str [],.str [],.str [],.aL]]),(3,.buf 4 [.agg [.str e.e0,.str e.e1,.str e.e2,.own 0 9 0 (dX shop w.us c u).1.length]])]) 20 (λu=>(1<=u/\u<=w.us.length)/\(dX shop w.us c u).2=0) (λu=>w.us.length-u) 1 ⟨⟨ae,ae⟩,by rw[Ru]⟩ (aY.to [(1,1),(2,2),(29,3)] ah ah eL (by rw[Ru];repeat(first|exact bp.nil|refine bp.vO ah ah ec ?_|refine bp.KD ah ah ah ?_|refine bp.NN ah ah ah ah ?_|refine bp.nl 1 ah ah ah ec ?_|refine bp.nl 2 ah ah ah ec ?_|refine bp.ni 29 ah ah (by exact⟨_,_,rfl,⟨_,rfl,⟨_,_,rfl,⟨rfl,rfl⟩,⟨_,_,rfl,⟨rfl,rfl⟩,⟨_,_,rfl,⟨rfl,rfl⟩,⟨_,_,rfl,.inr ⟨_,_,_,rfl⟩,rfl⟩⟩⟩⟩⟩,rfl⟩) ?_|refine bp.mt ah ah ah ah ?_))) ?_;rintro u ⟨⟨hu1,hu⟩,hz⟩;have hll:=yZ (shop:=shop) (us:=w.us) (c:=c) u;refine zg ?_;intro u0;refine dN ?_ ?_<;>intro hc2
 .refine zc ?_ ?_<;>intro hc3
  .refine zg ?_;have hsk:gP w.us c u=true:=by
    unfold gP;rcases hc3 with h|h
    .rw[bN h];simp
    .rw[bA h];simp
   have hls:=OL hz hsk;rw[<-hls];refine zl (u+1) [(0,0),(1,1),(2,2),(3,3)] ?_;exact⟨⟨ae,ae⟩,by rw[hls];exact hz⟩
  refine cC ?_;have hsk:gP w.us c u=false:=by
   unfold gP;rw[bN (show ¬u=0 by omega),bN hc3.2,bA hc3.1];rfl
  have hcu:=hcw u ae;have hxm:=aq (show c[u]!.toNat<w.us[u]!.cands.length by omega);have hun:=((hp0.2.1 _ (aq (show u<w.us.length by omega))).2 _ hxm).1;refine Fb ?_;refine dd (v:=eA.D (fO w.us c u)) (hi:=λ_=>ae) ?_;refine iw ?_;refine qo ?_;refine bg (dr.D (⟨w.us[u]!.name,(fO w.us c u).v,[],0,(mg w.us c u)⟩:dr)) ?_;refine zc ?_ ?_<;>intro hc4
  .refine zc ?_ ?_<;>intro hc5
   .refine cC ?_;refine bT _ ?_;refine bY _ (he:=cZ) ?_;refine zr ?_;rw[of_c hc0 hc1 hz hsk ae 12 aU (ajl hc4 hc5)];rfl
   refine dI ?_;have hs0:0<=(fO w.us c u).sh/\(fO w.us c u).sh<(shop.length:Int):=ae;have hss:=hp0.1 _ (aq (show(fO w.us c u).sh.toNat<shop.length by omega));refine yx ?_;refine aG (hc:=hG shop[(fO w.us c u).sh.toNat]! w.us[u]!.name (fO w.us c u).v ⟨hss,hun⟩) ?_;refine yx ?_;refine bm 99 ?_ (he:=Kl) (hm:=Kl);refine zc ?_ ?_<;>intro hc6
   .refine cC ?_;refine bT _ ?_;refine bY _ (he:=cZ) ?_;refine zr ?_;rw[of_c hc0 hc1 hz hsk ae 9 aU (ajm hc4 hc5 hc6)];rfl
   refine yx ?_;refine Y7 (v:=.int .u64 (oM shop[(fO w.us c u).sh.toNat]! w.us[u]!.name (fO w.us c u).v).1.sum) ?_;refine cN ?_;refine bY (dr.D (⟨w.us[u]!.name,(fO w.us c u).v,shop[(fO w.us c u).sh.toNat]!.name,0,(mg w.us c u)⟩:dr)) (he:=cZ) ?_;refine cN ?_;refine bY (dr.D (⟨w.us[u]!.name,(fO w.us c u).v,shop[(fO w.us c u).sh.toNat]!.name,(oM shop[(fO w.us c u).sh.toNat]! w.us[u]!.name (fO w.us c u).v).1.sum,(mg w.us c u)⟩:dr)) (he:=cZ) ?_;refine cN ?_;have hln:=ajn (w:=w) (c:=c) (u:=u) hc4 hc5 hc6;obtain⟨X,hX⟩:∃X,(⟨w.us[u]!.name,(fO w.us c u).v,shop[(fO w.us c u).sh.toNat]!.name,(oM shop[(fO w.us c u).sh.toNat]! w.us[u]!.name (fO w.us c u).v).1.sum,(mg w.us c u)⟩:dr)=X:=⟨_,rfl⟩
   rw[hX]at hln⊢;have hla:=FC hz hsk hln;refine eX ?_;refine bc [dr.D X] ?_;refine cL (q:=dr.D) (xs:=(dX shop w.us c u).1) (e:=X) (hb:=ae) ?_;refine cN ?_;refine bY (.agg [.str e.e0,.str e.e1,.str e.e2,.own 120 9 0 ((dX shop w.us c u).1++[X]).length]) (he:=cZ) ?_;refine zg ?_;rw[show(dX shop w.us c u).1++[X]=(dX shop w.us c (u+1)).1 by rw[hla]];refine zl (u+1) [(120,0),(1,1),(2,2),(3,3)] ?_;exact⟨⟨ae,ae⟩,by rw[hla]⟩
  refine cN ?_;have hln:=ajk (shop:=shop) (w:=w) (c:=c) (u:=u) hc4;obtain⟨X,hX⟩:∃X,(⟨w.us[u]!.name,(fO w.us c u).v,[],0,(mg w.us c u)⟩:dr)=X:=⟨_,rfl⟩
  rw[hX]at hln⊢;have hla:=FC hz hsk hln;refine eX ?_;refine bc [dr.D X] ?_;refine cL (q:=dr.D) (xs:=(dX shop w.us c u).1) (e:=X) (hb:=ae) ?_;refine cN ?_;refine bY (.agg [.str e.e0,.str e.e1,.str e.e2,.own 80 9 0 ((dX shop w.us c u).1++[X]).length]) (he:=cZ) ?_;refine zg ?_;rw[show(dX shop w.us c u).1++[X]=(dX shop w.us c (u+1)).1 by rw[hla]];refine zl (u+1) [(80,0),(1,1),(2,2),(3,3)] ?_;exact⟨⟨ae,ae⟩,by rw[hla]⟩
 refine cC ?_;obtain rfl:u=w.us.length:=ae;rw[show dX shop w.us c w.us.length=iW shop w c from rfl]at hz⊢;refine bm 0 ?_ (he:=Kl) (hm:=Kl);refine cN ?_;refine mB (d:=kD.D ⟨e,(iW shop w c).1⟩) ?_;refine zr ?_;rw[of_d hc0 hc1 hz];rfl
def qX:aj:=⟨2,12,[⟨2,none⟩],[[.sl 1 [.sl 4 [.a,.a,.sl 14 [.a,.a,.a,.a,.a,.a,.a,.a,.a,.a,.a,.a,.a,.a],.sl 14 [.a,.a,.a,.a,.a,.a,.a,.a,.a,.a,.a,.a,.a,.a]]]]],(sq (rg [gb 8 s0,gb 2 s1,gm (.c (.aL))] [(5,0),(3,1),(2,2)]) (sq (sq (r1 [gk 2 true s3,gn (.build [.str [],.str []] []),gn (.eqA false true [.s,.s] l0 l1)] 4 2) (.cond s4 (sq (r1 [gk 8 true s5,gn (.callM 751 [l0]),gm l1] 2 2) .ret) .skip)) (sq (r1 [gm (.c (.aL))] 10 0) (sq (sq (rg [gk 8 true s5,gk 2 true s3,gn (.callM 752 [l0,l1]),gl l2,gm yE] [(9,2),(7,3),(6,4)]) (.block 0 (.loop (sq (r1 [ou s6 s7] 8 0) (sq (gce s8 0) (sq (.block 1 (sq (r1 [ga 10 s9 s6,gk 10 true l0,gb 10 (.c (.agg [.str [],.int .i64 0,.int .i64 0,.int .i64 0,.str [],.str [],.aL,.aL,.aL,.int .i64 0])),gt 10 l2 l1] 11 2) (r1 [gm UQ,gf 0 s11,gk 9 true l1,gf 2 s5,gk 3 true l3,gf 1 s3,gd l5,gx 753 [l2,l4,l6] [zzh1,[.a,.a,.a],[.a]],gn (.app 1 l0 l7),gm l8] 10 9))) (r1 [qP s6 TN,gm l0] 6 1))))))) (sq (r1 [gm UQ,gm l0] 2 1) .ret)))))⟩
def w748 (hm:(Y.at 3).cb)(y:cF)(ns:List au)(k:Key)(hA:C751 (Y.at 3))(hB:C752 (Y.at 3))(hC:C753 (Y.at 3))(hp0:qy y/\lz y.e)(hp1:ns.length<=998):dx (Y.at 3) qX.body (uG qX (KG y (jy ns k) (.sl 1 ((de y k).map dU))):Ex->List ba->St->Prop) (fU qX [cF.D y (.ptr 0 2 0 0),Key.D k]) ⟨3,[(0,.buf 2 [eO 1 2 ns.length]),(1,.buf 1 (ns.map D.str)),(2,.buf 1 (dp y ns))]⟩:=by
 show dx _ _ _ [⟨true,cF.D y (.ptr 0 2 0 0)⟩,⟨true,Key.D k⟩,.un,.un,.un,.un,.un,.un,.un,.un,.un,.un] ⟨3,[(0,.buf 2 [eO 1 2 ns.length]),(1,.buf 1 (ns.map D.str)),(2,.buf 1 (dp y ns))]⟩;refine aQ ?_;refine qo ?_;refine bg (Key.D fL) ?_;refine zc ?_ ?_<;>intro hc0
 .refine dI ?_;refine dK (nx':=11) (v:=.sl 1 ((eJ y.l).map dU)) (m':=[(10,.buf 1 ((ns).map D.str)),(11,.buf 1 (dp y (ns))),(0,.buf 2 [eO 10 11 (ns).length]),(3,.buf 8 [cF.D y (.ptr 0 2 0 0)]),(4,.buf 2 [Key.D k])]) (hc:=λK' hK=>hA y ns hp0.1.m (SN hp0.1.p) _ 0 1 2 _ K' eB eB eB aU ⟨rfl,rfl,rfl⟩ hK) (hn:=aU) ?_;refine zg ?_;refine ei trivial jC (dm ah (?_)) ah ⟨by first|(rw[Sm hc0];done)|(rw[Sm hc0];exact rfl),10,11,⟨ae,ae,ae⟩,by rw[XA hc0];refine⟨?_, ?_, ?_⟩<;>first|exact rfl|(rw[nB];exact rfl)|(rw[nA];exact rfl)⟩;rfl
 refine qx ?_;refine dK (nx':=12) (v:=uM (eN y k)) (m':=[(12,.buf 1 ((eV ns k.n).map D.str)),(13,.buf 1 (dp y (eV ns k.n))),(0,.buf 2 [eO 12 13 (eV ns k.n).length]),(3,.buf 8 [cF.D y (.ptr 0 2 0 0)]),(4,.buf 2 [Key.D k])]) (hc:=λK' hK=>hB y ns k hp0.1.p ae _ 0 1 2 _ K' eB eB eB aU ⟨rfl,rfl,rfl⟩ hK) (hn:=aU) ?_;refine cC ?_;intro u0;refine bB (env':=[_,_,_,_,_,_,⟨_,(.int _ _)⟩,⟨_,(.int _ _)⟩,_,⟨_,(.sl _ _)⟩,_,_]) ?_;refine zf hm (λi=>[.u 3,.p 4 2,.u 1,.p 3 8,.i i,.i ((eN y k).length:Nat),.u 1,.m 10 (eN y k) uF.D,.o 7 1 (((eN y k).take i).flatMap λx=>cQ x.r y.e k.f).length,.u 1]) (λi=>[(0,.buf 2 [eO 5 6 (eV ns k.n).length]),(5,.buf 1 ((eV ns k.n).map D.str)),(6,.buf 1 (dp y (eV ns k.n))),(3,.buf 8 [cF.D y (.ptr 0 2 0 0)]),(4,.buf 2 [Key.D k]),(7,.buf 1 ((((eN y k).take i).flatMap λx=>cQ x.r y.e k.f).map dU))]) 20 (λi=>i<=(eN y k).length) (λi=>(eN y k).length-i) ae [(12,5),(13,6),(3,3),(4,4)] ?_;intro i hi;have hof:=(xI hp0.1.p k).1;have hrl:=iy (f:=λx:uF=>cQ x.r y.e k.f) (B:=385) (l:=(eN y k).take i) λx hx=>(lM ((xI hp0.1.p k).2 x (D6 hx)).1).1
 rw[dQ]at hrl;refine zc ?_ ?_<;>intro hc1
 .refine kF ?_;refine bY _ ?_;refine cC ?_;obtain⟨hxp,hxv⟩:=afv hp0.1 (k:=k) (i:=i) ae;have hql:=(lM (e:=y.e) (ft:=k.f) hxp).1;refine qx ?_;refine pk (q:=dU) (xs:=(((eN y k).take i).flatMap λx=>cQ x.r y.e k.f)) (ys:=cQ (eN y k)[i]!.r y.e k.f) (he:=lW.sl) (hb:=ae) ?_;refine zg ?_;rw[<-n7 (f:=λx:uF=>cQ x.r y.e k.f) (l:=eN y k) (i:=i) ae];exact iC (i+1) [(3,3),(4,4),(5,5),(6,6),(33,7)]
 refine cC ?_;obtain rfl:i=(eN y k).length:=ae;rw[List.take_length];refine bm 7 ?_;refine zg ?_;refine ei trivial jC (dm ah (?_)) ah ⟨by first|(rw[Sl hc0];done)|(rw[Sl hc0];exact rfl),5,6,⟨ae,ae,ae⟩,by rw[OC hc0];refine⟨?_, ?_, ?_⟩<;>first|exact rfl|(rw[nB];exact rfl)|(rw[nA];exact rfl)⟩;rfl
def PL:aj:=bj 245
def w882:J4 (cz Y PL):=λn hp0=>by
 refine kI ?_;refine Aq ((n%10:Nat):Int) (hn:=by intro _;omega) (hb:=λ_=>rfl) ?_;refine qb ((n%10:Nat):Int) (hb:=λ_=>IntWalk.u8_in _ ae) ?_;refine Pb (((dg (n%10)).toNat:Nat):Int) (hb:=λ_=>by rw[ae9 ae];exact IntWalk.u8_in _ ae) ?_;refine bc [.int .u8 _] ?_;refine Y0 [dg (n%10)] (he:=λ_=>lW.all ah rfl) (hs:=λ_=>rfl) ?_;refine zg ?_;have h0:nY n=(if n<10 then []else nY (n/10))++[dg (n%10)]:=by
  split
  .rename_i h;rw[Bx h,Nat.mod_eq_of_lt h];rfl
  .rw[Bw ae]
 refine zfx hm ((n,[dg (n%10)]):(Nat×au)) (λp=>[.e (.int .u64 (p.1:Nat)),.u 2,.e (.str p.2)]) (λp=>[]) 8 (λp=>p.1<=9999/\p.2.length<=9999-p.1+1/\nY n=(if p.1<10 then []else nY (p.1/10))++p.2) (λp=>p.1) ⟨hp0,aB,h0⟩ [] ?_;rintro⟨k,s⟩ ⟨hk,hs,hr⟩;dsimp only at hk hs hr⊢;refine zc ?_ ?_<;>intro hc0
 .refine eX ?_;refine r_quo ((k/10:Nat):Int) (hn:=by intro _;omega) (hb:=λ_=>by rw[show((k:Int).tdiv 10)=((k/10:Nat):Int)from rfl,IntKind.wrap_u64];omega) ?_;refine eX ?_;refine Aq (((k/10)%10:Nat):Int) (hn:=by intro _;omega) (hb:=λ_=>rfl) ?_;refine qb (((k/10)%10:Nat):Int) (hb:=λ_=>IntWalk.u8_in _ ae) ?_;refine Pb (((dg ((k/10)%10)).toNat:Nat):Int) (hb:=λ_=>by rw[ae9 ae];exact IntWalk.u8_in _ ae) ?_;refine bc [.int .u8 _] ?_;refine Y0 [dg ((k/10)%10)] (he:=λ_=>lW.all ah rfl) (hs:=λ_=>rfl) ?_;refine zg ?_;have h1:nY n=(if k/10<10 then []else nY (k/10/10))++([dg (k/10%10)]++s):=by
   rw[hr,ai ae];split
   .rename_i h;rw[Bx h,Nat.mod_eq_of_lt h];rfl
   .rw[Bw ae,fF]
  exact⟨(k/10,[dg (k/10%10)]++s),⟨mL,dR,h1⟩,mL,(gtt [])⟩
 refine zr ?_;rw[hr,ak ae];rfl
def MN:aj:=bj 207
def w734 (hm:(Y.at 0).cb)(hA:C882 Y):oZ (cz Y MN):=λn hp0=>by
 refine zc ?_ ?_<;>intro hc0
 .omega
 refine cC ?_;obtain⟨k,rfl⟩:∃k:Nat,n=k:=⟨n.toNat,ae⟩
 refine cN ?_;refine qb (k:Int) (hb:=λ_=>yz) ?_;exact mK
def PJ:aj:=bj 131
def w470:uk (cz Y PJ):=λs b hp0=>by
 refine zg ?_;refine gp hm (ι:=(Nat×Nat×List au)) (λp:Nat×Nat×List au=>[⟨true,.str s⟩,⟨true,.int .u8 b⟩,.un,⟨true,.int .i64 (p.1:Nat)⟩,.un,.un,⟨true,.own 0 1 0 p.2.2.length⟩,⟨true,.int .i64 (p.2.1:Nat)⟩]) (λp=>[(0,.buf 1 (p.2.2.map D.str))]) 4 (λp=>p.1<=s.length/\p.2.1<=p.1/\p.2.2.length<=p.1/\bd s b=p.2.2++fE b (s.drop p.1) ((s.take p.1).drop p.2.1)) (λp=>s.length-p.1) (0,0,[]) ⟨aB,aB,aB,rfl⟩ (aY.to [] ah ah aaY (by repeat(first|exact bp.nil|refine bp.mt ah ah ah ah ?_))) ?_;rintro⟨i,fr,acc⟩ ⟨hi,hf,ha,hr⟩;dsimp only at hi hf ha hr⊢;refine zg ?_;intro u0;refine dN ?_ ?_<;>intro hc0
 .refine zg ?_;refine wp_cond (λhc1=>?_) (λhc1=>?_)
  .try simp only[gJ]at hc1
   refine kF ?_;refine bc [(.str _)] ?_;refine zg ?_;exact⟨(i+1,i+1,acc++[(s.take i).drop fr]),⟨mL,mL,dR,by rw[hr,Ge ae hc1];simp⟩,mL,(aY.to [(19,0)] ah ah Pa (by refine bp.nl 19 ah ah ah ec ?_;exact bp.nil))⟩
  simp only[cy]at hc1;refine zg ?_;exact⟨(i+1,fr,acc),⟨mL,mL,mL,by rw[hr,Gf ae ae hc1]⟩,mL,(aY.to [(0,0)] ah ah Pa Ki)⟩
 refine qo ?_;refine bc [(.str _)] ?_;refine dI ?_;refine bm 13 ?_;refine zr ?_;have hs:bd s b=acc++[s.drop fr]:=by rw[hr,DZ ae]
 rw[hs];exact rfl
def Ia:aj:=bj 172
def w554 (hm:(Y.at 0).cb)(hA:C734 Y):Jy (cz Y Ia):=λv hp0=>by
 show dx _ _ _ [⟨_,_⟩,_,_,_] _;obtain⟨hq1,hq2,hq3⟩:=hp0;simp only[Cs,aC,aV]at hq1 hq2 hq3;have hl1:=ij 4 v.major.toNat ae ae;have hl2:=ij 4 v.minor.toNat ae ae;have hl3:=ij 4 v.patch.toNat ae ae;refine aQ ?_;exact mK
def PO:aj:=bj 127
def w316 (hm:(Y.at 0).cb)(hA:BW Y)(hB:C554 Y):ug (cz Y PO):=λv hp0=>by
 show dx _ _ _ [⟨_,_⟩,_,_,_,_,_,_] _;obtain⟨hs1,hs2⟩:=hp0;have hp0:v.sm:=⟨hs1,hs2⟩;refine aQ ?_;refine zg ?_;refine aR (λhc0=>?_) (λhc0=>?_)
 .simp only[cG]at hc0;refine zr ?_;simp[uO,hc0]
 simp only[dq]at hc0;refine cC ?_;have hv:=hc0;simp only[gQ,aC]at hv;obtain⟨⟨⟨⟨hv1,hv2⟩,hv3⟩,_⟩,_⟩:=hv;have hq1:=hv1;have hq2:=hv2;have hq3:=hv3;simp only[Cs,aC,aV]at hq1 hq2 hq3;have hl1:=ij 4 v.major.toNat ae ae;have hl2:=ij 4 v.minor.toNat ae ae;have hl3:=ij 4 v.patch.toNat ae ae;refine zc ?_ ?_<;>intro hc1
 .refine zc ?_ ?_<;>intro hc2
  .refine zr ?_;simp[uO,E9,hc0,hc1,hc2]
  refine zr ?_;simp[uO,E9,hc0,hc1,hc2]
 refine zc ?_ ?_<;>intro hc2
 .refine zr ?_;simp[uO,E9,hc0,hc1,hc2]
 refine zr ?_;simp[uO,E9,hc0,hc1,hc2]
def UL:aj:=bj 85
def w464 (hm:(Y.at 0).cb):Jn (cz Y UL):=λh n hp0=>by
 refine kF ?_;refine FY (ZU h n) (hb:=λ_=>by rw[show min (Int.toNat (n:Int)) (IntKind.bits .u64)=n by simp[IntKind.bits];omega];rfl) ?_;refine cC ?_;refine HR ((64-n:Nat):Int) (hb:=λ_=>yz) ?_;refine R8 (Ga h (64-n)) (hb:=λ_=>by rw[show min (Int.toNat ((64-n:Nat):Int)) (IntKind.bits .u64)=64-n by simp[IntKind.bits]];rfl) ?_;refine afz (rot h n) (hb:=λ_=>rfl) ?_;refine zg ?_;refine fM (aw (D.int .u64) ?_);rfl
def ZC:aj:=bj 43
def w221 (hA:C464 Y):tW (cz Y ZC):=λs=>by
 refine zg ?_;refine zf hm (λi=>[.e (.sl 1 (s.map λb=>D.int .u8 b.toNat)),.u 1,.i i,.u 1,.e (.int .u64 (zy (s.take i)))]) (λi=>[]) 3 (λi=>i<=s.length) (λi=>s.length-i) ae [] ?_;intro i hi;refine zg ?_;intro u0;refine dN ?_ ?_<;>intro hc0
 .refine qo ?_;refine dd (v:=.int .u8 (at8 s i)) (hv:=λ_=>ld8 s i) ?_;refine qb (at8 s i) (hb:=λ_=>by have:=GP s i;rw[IntKind.wrap_u64];omega) ?_;refine HL (SM (zy (s.take i)) (at8 s i)) (hb:=λ_=>rfl) ?_;refine cN ?_;refine Y9 (zy (s.take (i+1))) (hb:=λ_=>by rw[Gj s i ae];rfl) ?_;exact iC (i+1) []
 refine dI ?_;have ht:s.take i=s:=fj ae;rw[ht];refine cC ?_;refine R8 (Ga (zy s) 29) (hb:=λ_=>rfl) ?_;refine HL (sumL s) (hb:=λ_=>rfl) ?_;refine zg ?_;refine fM (aw (D.int .u64) ?_);rfl
def H8:aj:=bj 61
def w505 (hA:C692 Y)(hB:C693 Y)(hC:C694 Y)(m:kn)(od:List (List Int))(c:List Int)(hD:aeW (Y.at 0) (EZ c))(hp0:(wJ m/\KA m c)/\yH m od):wkk Y H8 (O2 (mH m od c)) [kn.D m,Ask.D ⟨[],od⟩,.sl 1 (c.map (D.int .i64))]:=by
 refine cN ?_;obtain⟨⟨hmp,hcp⟩,hop⟩:=hp0;have hml:=hmp.1;have hcl:=hcp.1;refine zc ?_ ?_<;>intro hc0
 .refine zr ?_;rw[D2 hmp hop hcp,ak hc0];rfl
 refine zc ?_ ?_<;>intro hc1
 .refine zr ?_;rw[D2 hmp hop hcp,ai (by rw[hc0];decide),ak hc1];rfl
 refine Fc ?_;have hS:mH m od c=iS (λo=>mH m od (xT c o)) (eh m od c):=by rw[D2 hmp hop hcp,ai (by rw[hc0];decide),ai hc1]
 have hofl:=(qR hmp hop hcp).2;refine zg ?_;refine zf hm (λi=>[.u 2,.m 1 c (D.int .i64),.u 1,.p 0 3,.p 1 2,.u 3,.i i,.m 2 (eh m od c) ea.D,.u 4]) (λi=>[(0,.buf 3 [kn.D m]),(1,.buf 2 [Ask.D (⟨[],od⟩:Ask)])]) 30 (λi=>i<=(eh m od c).length/\mH m od c=iS (λo=>mH m od (xT c o)) ((eh m od c).drop i)) (λi=>(eh m od c).length-i) ⟨ae,hS⟩ [(0,0),(1,1)] ?_;rintro i ⟨hi,hr⟩;refine zg ?_;intro u0;refine dN ?_ ?_<;>intro hc2
 .refine dI ?_;have ho:=(qR hmp hop hcp).1 _ (aq (show i<(eh m od c).length by omega));have hput:=HK hcp ho;obtain⟨U,hU⟩:∃U:Nat,(eh m od c)[i]!.u=(U:Int):=⟨(eh m od c)[i]!.u.toNat,by have:=ho.1;omega⟩
  have hUl:U<c.length:=by have:=ho.1;omega
  refine cN ?_;refine qU (he:=lW.sl) (n:=(xT c (eh m od c)[i]!).length) (hn:=by simp[xT]) (hb:=by rw[show(xT c (eh m od c)[i]!).length=c.length from List.length_set ..];omega) ?_;refine iw ?_;refine sI U (hj:=λ_=>hU) (hb:=λ_=>by rw[show(xT c (eh m od c)[i]!).length=c.length from List.length_set ..];omega) ?_;refine lD ((xT c (eh m od c)[i]!).map (D.int .i64)) (hi:=by simp only[bX,aZ];omega) (he:=by rw[bX,stI64 hUl,xT,hU,Int.toNat_natCast]) ?_;refine cN ?_;refine bm 35 ?_;refine cN ?_;refine mB (d:=kn.D m) ?_;refine mB (d:=Ask.D (⟨[],od⟩:Ask)) ?_;refine kF ?_;refine Y5 (λbq hbq=>?_) (hs:=RQ _);refine zg ?_;refine wp_cond (λhc3=>?_) (λhc3=>?_)
  .have hbf:bq=false:=by revert hc3;cases bq<;>decide
   obtain⟨d,hsd⟩:=(vX hmp hop hput.1 hbq).2 hbf;rw[hsd];refine zr ?_;rw[hr,Om ae hsd];rfl
  have hbt:bq=true:=by revert hc3;cases bq<;>decide
  have hsn:=(vX hmp hop hput.1 hbq).1 hbt;refine gI (i+1) [(0,0),(1,1)] ?_;rw[hr];exact Lh ae hsn
 refine zr ?_;rw[hr,Ol ae];rfl
def wg:aj:=bj 147
def w751 (hm:(Y.at 3).cb)(y:cF)(ns:List au)(hA:Vv (Y.at 3))(hp0:∀m∈y.l,m.r.v∈bJ)(hp1:y.l.length<=1000):dx (Y.at 3) wg.body (uG wg (KG y ns (.sl 1 ((eJ y.l).map dU))):Ex->List ba->St->Prop) (fU wg [cF.D y (.ptr 0 2 0 0)]) ⟨3,[(0,.buf 2 [eO 1 2 ns.length]),(1,.buf 1 (ns.map D.str)),(2,.buf 1 (dp y ns))]⟩:=by
 show dx _ _ _ [⟨true,cF.D y (.ptr 0 2 0 0)⟩,.un,.un,.un,.un,.un,.un] ⟨3,[(0,.buf 2 [eO 1 2 ns.length]),(1,.buf 1 (ns.map D.str)),(2,.buf 1 (dp y ns))]⟩;refine aQ ?_;refine zg ?_;refine zf hm (λi=>[.u 2,.i i,.p 3 8,.u 1,.o 5 1 (eJ (y.l.take i)).length,.u 1]) (λi=>[(0,.buf 2 [eO 1 2 ns.length]),(1,.buf 1 (ns.map D.str)),(2,.buf 1 (dp y ns)),(3,.buf 8 [cF.D y (.ptr 0 2 0 0)]),(5,.buf 1 ((eJ (y.l.take i)).map dU))]) 20 (λi=>i<=y.l.length) (λi=>y.l.length-i) ae [(3,3)] ?_;intro i hi;have hrl:=ZI y.l i;refine zg ?_;intro u0;refine dN ?_ ?_<;>intro hc0
 .refine uQ ?_;refine bY _ ?_;refine kI ?_;refine bT _ ?_;refine dI ?_;refine bg (jq.D (⟨⟨y.l[i]!.r.name,lv⟩,dJ y.l[i]!.r.v⟩:jq)) ?_;refine bc [jq.D (⟨⟨y.l[i]!.r.name,lv⟩,dJ y.l[i]!.r.v⟩:jq)] ?_;refine bc [.own 41 4 0 1] ?_;refine rE ((eJ (y.l.take i)).map dU++[.own 41 4 0 1]) (n:=((eJ (y.l.take i))++[[(⟨⟨y.l[i]!.r.name,lv⟩,dJ y.l[i]!.r.v⟩:jq)]]).length) (ha:=lj) (he:=lW.own rfl (by first|rfl|simp)) (hz:=yA) (hn:=EC) (hb:=EE) ?_;refine dI ?_;refine bm 41 ?_ (he:=GD) (hm:=GD);refine zg ?_;rw[pI,akI ae];exact iC (i+1) [(43,5),(3,3)]
 refine cC ?_;obtain rfl:i=y.l.length:=ae;rw[List.take_length];refine bm 5 ?_ (he:=GD) (hm:=GD);refine zg ?_;refine ei trivial jC (dm ah (?_)) ah ⟨cZ,1,2,⟨ae,ae,ae⟩,tf⟩;rfl
def Ps:aj:=bj 260
def w1083 (hA:C145 Y)(hB:C359 Y)(hC:aeU Y)(hD:aeV Y):Ev (cz Y Ps):=λshop ps nm hp0=>by
 refine zc ?_ ?_<;>intro hc0
 .refine zr ?_;rw[aiH hc0];rfl
 refine zc ?_ ?_<;>intro hc1
 .refine zr ?_;rw[aiI hc0 hc1];rfl
 refine zg ?_;refine zf hm (λi=>[.m 2 shop bM.D,.m 2 ps iN.D,.e (.str nm),.u 4,.i i,.u 7]) (λi=>[]) 9 (λi=>i<=ps.length/\E3 ps nm=gM (λp=>decide (p.name=nm)) (ps.drop i) i) (λi=>ps.length-i) ⟨ae,rfl⟩ [] ?_;rintro i ⟨hi,hr⟩;refine zg ?_;intro u0;refine dN ?_ ?_<;>intro hc2
 .refine zc ?_ ?_<;>intro hc3
  .refine gI (i+1) [] ?_;rw[hr,jx ae yD]
  refine cC ?_;have hpi:E3 ps nm=(i:Nat):=by rw[hr,kR ae yD]
  refine zc ?_ ?_<;>intro hc4
  .refine zr ?_;rw[aiJ hc0 hc1 hpi hc4];rfl
  refine zr ?_;rw[aiK hc0 hc1 hpi hc4];rfl
 refine eX ?_;have hpn:E3 ps nm=-1:=by rw[hr,ml ae]
 refine zg ?_;refine zf hm (λj=>[.m 2 shop bM.D,.u 1,.e (.str nm),.u 9,.i j,.u 2]) (λj=>[]) 14 (λj=>j<=shop.length/\gM (Cw nm) shop 0=gM (Cw nm) (shop.drop j) j) (λj=>shop.length-j) ⟨ae,rfl⟩ [] ?_;rintro j ⟨hj,hr2⟩;refine zg ?_;intro u1;refine dN ?_ ?_<;>intro hc5
 .refine zc ?_ ?_<;>intro hc6
  .refine zr ?_;rw[aiL hc0 hc1 hpn (hr2.trans (kR ae hc6))];rfl
  refine gI (j+1) [] ?_;rw[hr2,jx ae hc6]
 refine zr ?_;rw[aiM hc0 hc1 hpn (hr2.trans (ml ae))];rfl
def y4:aj:=bj 90
def w535 (hm:(Y.at 1).cb)(hA:GH (Y.at 1))(hB:C135 (Y.at 1))(hC:C297 (Y.at 1))(g:Gs)(own:au)(hp0:0<=g.i/\g.i<=990000):dx (Y.at 1) y4.body (GL y4 2 (di.D (dE g own).1) (Gs.D (dE g own).2):Ex->List ba->St->Prop) (fU y4 (.ptr 0 2 0 0::[.str own])) ⟨1,[(0,.buf 2 [(Gs.D g)])]⟩:=by
 show dx _ _ _ [⟨true,.ptr 0 2 0 0⟩,⟨true,.str own⟩,.un] ⟨1,[(0,.buf 2 [(Gs.D g)])]⟩;refine aQ ?_;refine dI ?_;have ho:=xQ g own;have r8:=(cW g own).2.eQ 8 ae;refine cC ?_;refine dj (hc:=hC g own hp0) ?_;refine eX ?_;refine dj (hc:=hA (cW g own).2 8 ae iK) ?_;refine cM ((cW g own).2.val 8).toNat (hj:=λ_=>ae) (hb:=λ_=>uE) ?_;refine Dm (v:=.str kf[((cW g own).2.val 8).toNat]!) (hi:=λ_=>uE) ?_;refine cN ?_;refine dj (hc:=hA (cW g own).2.aS 3 ae iK) ?_;refine cN ?_;refine bT [.str (cW g own).1,.str kf[((cW g own).2.val 8).toNat]!,.aL,.bool (decide (0<(cW g own).2.aS.val 3))] ?_;refine cC ?_;refine AQ [(0,.buf 2 [Gs.D (dE g own).2]),(1,.buf 4 [di.D (dE g own).1])] (.id ah (.bf ah (.cons (.ag (.cons (.refl _) (.cons (.refl _) (.cons (.nil 1) (.cons (.refl _) .nil))))) .nil) .nil)) ?_;refine zg ?_;refine ja trivial Dk (dm ah (?_)) ah ah ah;rfl
def MU:aj:=bj 106
def w183 (hA:C415 Y):IK (cz Y MU):=λw l hp0=>by
 refine zg ?_;refine zf hm (λi=>[.u 1,.m 3 l Want.D,.u 1,.i i,.u 1,.o 0 2 (eD w.us (l.take i)).length,.p 1 1]) (λi=>[(0,.buf 2 ((eD w.us (l.take i)).map ea.D)),(1,.buf 1 [bR.D w])]) 4 (λi=>i<=l.length) (λi=>l.length-i) ae [(0,1)] ?_;intro i hi;have hwl:=U7 w.us l i;refine zg ?_;intro u0;refine dN ?_ ?_<;>intro hc0
 .refine iw ?_;refine cN ?_;refine bg (ea.D ⟨l[i]!.u,uL w.us l[i]!⟩) ?_;refine bc [ea.D ⟨l[i]!.u,uL w.us l[i]!⟩] ?_;refine cL (q:=ea.D) (xs:=(eD w.us (l.take i))) (e:=⟨l[i]!.u,uL w.us l[i]!⟩) (hb:=ae) ?_;refine zg ?_;rw[U6 ae];exact iC (i+1) [(22,0),(1,1)]
 refine cC ?_;obtain rfl:i=l.length:=ae;rw[List.take_length];refine bm 0 ?_;exact mK
def Pk:aj:=bj 222
def w955:Kd (cz Y Pk):=λl nm=>by
 refine zg ?_;refine zf hm (λi=>[.m 2 l cn.D,.e (.str nm),.u 1,.i i,.u 2]) (λi=>[]) 2 (λi=>i<=l.length/\findF l nm 0=findF l nm i) (λi=>l.length-i) ⟨ae,rfl⟩ [] ?_;rintro i ⟨hi,hr⟩;refine zg ?_;intro u0;refine dN ?_ ?_<;>intro hc0
 .refine zc ?_ ?_<;>intro hc1
  .refine zr ?_;rw[hr,WU ae hc1]
  refine gI (i+1) [] ?_;rw[hr,WV ae hc1]
 refine zr ?_;rw[hr,Ty ae]
def Zq:aj:=bj 191
def w905 (hm:(Y.at 0).cb)(hA:C955 Y):J8 (cz Y Zq):=λl nm=>by
 refine zc ?_ ?_<;>intro hc0
 .refine zr ?_;rw[show u6 l nm=[]from ak hc0];rfl
 refine cC ?_;obtain⟨j,hj,hjl⟩:=(Tz l nm).resolve_left ae;refine zr ?_;rw[show u6 l nm=l[j]!.of from by unfold u6;rw[ai hc0,hj,Int.toNat_natCast]];rfl
end Go.Abs
end
