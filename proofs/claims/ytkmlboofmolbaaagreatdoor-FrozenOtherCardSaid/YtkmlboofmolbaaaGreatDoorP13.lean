/- A part of the proofs. -/
import Derived.Test.YtkmlboofmolbaaaGreatDoorP09
set_option linter.all false
set_option maxRecDepth 60000
set_option maxHeartbeats 2000000
noncomputable section
namespace Go.Abs
variable {Y:Ctx}(hm:(Y.at 0).bU)
def OH:aj:=bc 74
def w349:tT (cw Y OH):=λs=>by
 refine zc ?_ ?_<;>intro hc0
 .refine zr ?_;symm;simp only[gL,ep,ct];rcases hc0 with h|h
  .subst h;exact Or.inl (Or.inl aC)
  .exact Or.inl ae
 refine zg ?_;have hP:gL s=bW (λi=>Gx (at8 s i)) 0 s.length:=by
  have:=List.length_pos_iff.2 hc0.1;simp only[gL];rw[br ae,br ae];rfl
 refine zf hm (λi=>[.e (.str s),.u 2,.e (.it 9),.u 4]) (λi=>[(9,.iter s i)]) 10 (λi=>i<=s.length/\gL s=bW (λi=>Gx (at8 s i)) i s.length) (λi=>s.length-i) ⟨ae,hP⟩ [(9,9)] ?_;rintro i ⟨hi,hr⟩;refine zg ?_;by_cases hnx:i<s.length
 .obtain⟨c,w,hdec,hw,hcw⟩:=wU s i hnx;refine HY c w (hp:=hnx) (hc:=hdec) ?_;refine zg ?_;refine aQ (t:=true) (λ_=>?_) (λh=>bZ);refine fZ ?_;refine lT ?_ hm;refine aP ?_;refine kV (.int _ _) ?_;refine bI ?_;refine bm (env':=[_,_,_,_,_,_,⟨_,(.int _ _)⟩,_]) ?_;refine lT ?_ hm;refine fY ?_;refine aP ?_;refine bI ?_;refine HU ?_;refine bI ?_;refine bI ?_;refine HW ?_;refine uU ?_;refine bI ?_;refine bm (env':=[_,_,_,_,_,_,_,⟨_,(.bool _)⟩]) ?_;refine dP ?_ ?_<;>intro hc2
  .refine zg ?_;refine Bo ?_ ?_<;>intro hc4
   .refine fE ?_;obtain⟨rfl,hat,-⟩:w=1/\(c:Int)=at8 s i/\c<128:=by
     rcases hcw with h|h
     .exact h
     .omega
    have hz:Gx (at8 s i)=true:=by
     simp only[Gx,jU,bJ,dK,aA,aT];omega
    exact⟨i+1,⟨ae,by rw[hr,aB hnx,hz];rfl⟩,ae,(gtt [(9,9)])⟩
   refine zg ?_;refine rrrb ?_;first
    |(exfalso;omega)
    |(rw[hr,bE ae];done)
    |(
     have hz:Gx (at8 s i)=false:=by
      rcases hcw with⟨_,h,_⟩|⟨_,h⟩<;>(simp only[Gx,jU,bJ,ec,ep,ct];omega)
     rw[hr,aB hnx,hz];rfl)
  refine zg ?_;refine dP ?_ ?_<;>intro hc3
  .refine zg ?_;refine Bo ?_ ?_<;>intro hc4
   .refine fE ?_;obtain⟨rfl,hat,-⟩:w=1/\(c:Int)=at8 s i/\c<128:=by
     rcases hcw with h|h
     .exact h
     .omega
    have hz:Gx (at8 s i)=true:=by
     simp only[Gx,jU,bJ,dK,aA,aT];omega
    exact⟨i+1,⟨ae,by rw[hr,aB hnx,hz];rfl⟩,ae,(gtt [(9,9)])⟩
   refine zg ?_;refine zr ?_;first
    |(exfalso;omega)
    |(rw[hr,bE ae];done)
    |(
     have hz:Gx (at8 s i)=false:=by
      rcases hcw with⟨_,h,_⟩|⟨_,h⟩<;>(simp only[Gx,jU,bJ,ec,ep,ct];omega)
     rw[hr,aB hnx,hz];rfl)
  refine zg ?_;refine Bo ?_ ?_<;>intro hc4
  .refine fE ?_;obtain⟨rfl,hat,-⟩:w=1/\(c:Int)=at8 s i/\c<128:=by
    rcases hcw with h|h
    .exact h
    .omega
   have hz:Gx (at8 s i)=true:=by
    simp only[Gx,jU,bJ,dK,aA,aT];omega
   refine gM (i+1) [(9,9)] ?_;rw[hr,aB hnx,hz];rfl
  refine zg ?_;refine zr ?_;first
   |(exfalso;omega)
   |(rw[hr,bE ae];done)
   |(
    have hz:Gx (at8 s i)=false:=by
     rcases hcw with⟨_,h,_⟩|⟨_,h⟩<;>(simp only[Gx,jU,bJ,ec,ep,ct];omega)
    rw[hr,aB hnx,hz];rfl)
 .refine HX (hp:=hnx) ?_;refine zg ?_;refine aQ (t:=false) (λh=>bZ) (λ_=>?_);refine zr ?_;first
   |(exfalso;omega)
   |(rw[hr,bE ae];done)
   |(
    have hz:Gx (at8 s i)=false:=by
     rcases hcw with⟨_,h,_⟩|⟨_,h⟩<;>(simp only[Gx,jU,bJ,ec,ep,ct];omega)
    rw[hr,aB hnx,hz];rfl)
def OG:aj:=bc 121
def w208:tL (cw Y OG):=λs=>by
 refine zc ?_ ?_<;>intro hc0
 .refine zr ?_;symm;simp only[df];rcases hc0 with h|h
  .subst h;simp
  .rw[bL (by omega:¬s.length<=16)];simp
 refine zg ?_;have h0:=List.length_pos_iff.2 hc0.1;have hP:=adM s ae ae;refine zf hm (λi=>[.e (.str s),.u 2,.e (.it 9),.u 9]) (λi=>[(9,.iter s i)]) 10 (λi=>i<=s.length/\df s=bW (o9 s) i s.length) (λi=>s.length-i) ⟨ae,hP⟩ [(9,9)] ?_;rintro i ⟨hi,hr⟩;refine zg ?_;by_cases hnx:i<s.length
 .obtain⟨c,w,hdec,hw,hcw⟩:=wU s i hnx;refine HY c w (hp:=hnx) (hc:=hdec) ?_;refine zg ?_;refine aQ (t:=true) (λ_=>?_) (λh=>bZ);refine fZ ?_;refine lT ?_ hm;refine aP ?_;refine kV (.int _ _) ?_;refine kV (.int _ _) ?_;refine bI ?_;refine bI ?_;refine bm (env':=[_,_,_,_,_,_,⟨_,(.int _ _)⟩,_,_,⟨_,(.int _ _)⟩,_,_,_]) ?_;refine lT ?_ hm;refine aP ?_;refine bI ?_;refine HU ?_;refine bI ?_;refine bI ?_;refine HW ?_;refine uU ?_;refine bI ?_;refine bm (env':=[_,_,_,_,_,_,_,⟨_,(.bool _)⟩,_,_,_,_,_]) ?_;refine Bo ?_ ?_<;>intro hc2
  .refine fE ?_;obtain⟨rfl,hat,-⟩:w=1/\(c:Int)=at8 s i/\c<128:=by
    rcases hcw with h|h
    .exact h
    .omega
   have hz:o9 s i=true:=by
    simp only[o9,jU,bJ,dK,aA,cE,aT,ct];omega
   exact⟨i+1,⟨ae,by rw[hr,aB hnx,hz];rfl⟩,ae,(gtt [(9,9)])⟩
  refine zg ?_;refine Bo ?_ ?_<;>intro hc3
  .refine zg ?_;refine Bo ?_ ?_<;>intro hc4
   .refine zg ?_;refine rrrb ?_;first
     |(exfalso;omega)
     |(rw[hr,bE ae];done)
     |(have hz:o9 s i=false:=by
        rcases hcw with⟨_,h,_⟩|⟨_,h⟩<;>(simp only[o9,jU,bJ,ec,ep,cZ,aT,ct];omega)
       rw[hr,aB hnx,hz];rfl)
   refine fE ?_;obtain⟨rfl,hat,-⟩:w=1/\(c:Int)=at8 s i/\c<128:=by
    rcases hcw with h|h
    .exact h
    .omega
   have hz:o9 s i=true:=by
    simp only[o9,jU,bJ,dK,aA,cE,aT,ct];omega
   refine gM (i+1) [(9,9)] ?_;rw[hr,aB hnx,hz];rfl
  refine zg ?_;refine Bo ?_ ?_<;>intro hc5
  .refine gZ ?_;refine Ah (i-1) ?_;refine zg ?_;refine Bo ?_ ?_<;>intro hc6
   .refine zr ?_;first
     |(exfalso;omega)
     |(rw[hr,bE ae];done)
     |(have hz:o9 s i=false:=by
        rcases hcw with⟨_,h,_⟩|⟨_,h⟩<;>(simp only[o9,jU,bJ,ec,ep,cZ,aT,ct];omega)
       rw[hr,aB hnx,hz];rfl)
   refine zg ?_;obtain⟨rfl,hat,-⟩:w=1/\(c:Int)=at8 s i/\c<128:=by
    rcases hcw with h|h
    .exact h
    .omega
   have hz:o9 s i=true:=by
    simp only[o9,jU,bJ,dK,aA,cE,aT,ct];omega
   refine gM (i+1) [(9,9)] ?_;rw[hr,aB hnx,hz];rfl
  refine zg ?_;refine zr ?_;first
   |(exfalso;omega)
   |(rw[hr,bE ae];done)
   |(have hz:o9 s i=false:=by
      rcases hcw with⟨_,h,_⟩|⟨_,h⟩<;>(simp only[o9,jU,bJ,ec,ep,cZ,aT,ct];omega)
     rw[hr,aB hnx,hz];rfl)
 .refine HX (hp:=hnx) ?_;refine zg ?_;refine aQ (t:=false) (λh=>bZ) (λ_=>?_);refine zr ?_;first
   |(exfalso;omega)
   |(rw[hr,bE ae];done)
   |(have hz:o9 s i=false:=by
      rcases hcw with⟨_,h,_⟩|⟨_,h⟩<;>(simp only[o9,jU,bJ,ec,ep,cZ,aT,ct];omega)
     rw[hr,aB hnx,hz];rfl)
def Hg:aj:=bc 162
def w658:uj (cw Y Hg):=λs=>by
 refine En ?_;refine Ah 0 (hb:=λh=>by simp at h;exact List.length_pos_iff.2 h.1) ?_;refine zc ?_ ?_<;>intro hc0
 .refine zg ?_;refine fK (bT (aw (D.int .i64) ?_) (aw D.bool ?_));all_goals
   have:ot s=false:=by
    rw[Yl];rcases hc0 with(h|h)|h
    .subst h;simp
    .rw[bL (by omega:¬s.length<=4)];simp
    .rw[br (by omega:1<s.length),br h.1];simp
   simp[C6,this]
 refine zg ?_;have h0:=List.length_pos_iff.2 hc0.1.1;have hP:ot s=bW (λi=>bJ (at8 s i)) 0 s.length:=by
  rw[Yl,br (by omega:1<=s.length),br (by omega:s.length<=4)];rcases hc0.2 with h|h
  .rw[bL h,Bool.and_false];rfl
  .rw[bL (by omega:¬1<s.length)];rfl
 refine zf hm (λi=>[.e (.str s),.u 3,.e (.it 21),.u 4,.i (e7 (s.take i):Nat)]) (λi=>[(21,.iter s i)]) 22 (λi=>i<=s.length/\s.length<=4/\ot s=bW (λi=>bJ (at8 s i)) i s.length) (λi=>s.length-i) ⟨ae,ae,hP⟩ [(21,21)] ?_;rintro i ⟨hi,h9,hr⟩;refine zg ?_;by_cases hnx:i<s.length
 .obtain⟨c,w,hdec,hw,hcw⟩:=wU s i hnx;refine HY c w (hp:=hnx) (hc:=hdec) ?_;refine zg ?_;refine aQ (t:=true) (λ_=>?_) (λh=>bZ);refine zc ?_ ?_<;>intro hc2
  .refine cO ?_;obtain⟨rfl,hat,-⟩:w=1/\(c:Int)=at8 s i/\c<128:=by
    rcases hcw with h|h
    .exact h
    .omega
   have hn:=xy s i ae;have hn2:=Ac s i ae;have h256:=GU s i;refine cO ?_;refine xR ?_;refine cO ?_;refine HZ ((c:Int) -48) (hb:=λ_=>IntWalk.i32_in _ ae) ?_;refine rB ((c:Int) -48) (hb:=λ_=>IntWalk.i64_in _ ae) ?_;refine dJ ?_;rw[show 10*(e7 (s.take i):Int)+((c:Int) -48)=(e7 (s.take (i+1)):Nat)by omega];refine zg ?_;have hz:bJ (at8 s i)=true:=by
    simp only[bJ,aA,aT];omega
   refine zl (i+1) [(21,21)] ?_;exact⟨ae,h9,by rw[hr,aB ae,hz];rfl⟩
  refine zg ?_;refine fK (bT (aw (D.int .i64) ?_) (aw D.bool ?_));all_goals
   have hz:bJ (at8 s i)=false:=by
    rcases hcw with⟨_,h,_⟩|⟨_,h⟩<;>(simp only[bJ,ep,ct];omega)
   have:ot s=false:=by rw[hr,aB ae,hz];rfl
   simp[C6,this]
 .refine HX (hp:=hnx) ?_;refine zg ?_;refine aQ (t:=false) (λh=>bZ) (λ_=>?_);refine oA ?_;refine LQ.out ?_;refine aP ?_;refine bI ?_;refine bI ?_;refine HW ?_;refine bI ?_;refine bI ?_;refine bm (env':=[_,⟨_,(.int _ _)⟩,⟨_,(.bool _)⟩,_,_,_,_,_,_,_]) ?_;refine wp_ret ?_;refine fK (bT (aw (D.int .i64) ?_) (aw D.bool ?_));all_goals
   have this:ot s=true:=by rw[hr,bE ae]
   have ht:s.take i=s:=gU ae;have h9:=this;simp only[ot,aA,aT]at h9;have h99:=h9.2;rw[ht];first
   |(simp only[C6,this];rfl)
   |(rw[this,aT];omega)
def Ie:aj:=bc 62
def w46 (hA:C158 Y)(hB:C183 Y):Qv (cw Y Ie):=λw hp0=>by
 refine pA ?_;refine bz 0 ?_ (he:=nr) (hm:=nr);refine zg ?_;refine gy hm (ι:=Nat) (λi=>[.un,⟨true,.ptr 0 3 0 0⟩,⟨true,.int .i64 (i:Nat)⟩,⟨true,.ref 1 [bP.D w] 0 0⟩,.un,.un,.un,.un,.un,.un,.un,.un,.un,⟨true,.ptr 1 3 0 0⟩]) (λi=>[(0,.buf 3 [.agg [.aL,.aL,.aL]]),(1,.buf 3 [.agg [.own 2 1 0 (iU w.us i).length,.own 3 1 0 (eD w.us i).length,.own 4 1 0 (jE w.us i).length]]),(2,.buf 1 ((iU w.us i).map (D.int .i64))),(3,.buf 1 ((eD w.us i).map qc)),(4,.buf 1 ((jE w.us i).map oI))]) 9 (λi=>i<=w.us.length) (λi=>w.us.length-i) 0 ae (aZ.to [(1,0),(2,1)] ai ai eM (by repeat(first|exact bo.nil|refine bo.ni 2 ai ai (by exact⟨_,[],rfl,⟨_,rfl,_,_,rfl,Or.inr ⟨2,1,0,rfl⟩,_,_,rfl,Or.inr ⟨3,1,0,rfl⟩,_,_,rfl,Or.inr ⟨4,1,0,rfl⟩,rfl⟩,rfl⟩) ?_|refine bo.nl 1 ai ai ai dZ ?_|refine bo.mt ai ai ai ai ?_))) ?_;intro i hi;have hfl:=OA w.us i;have hnl:=O6 w.us i;have hbl:=Tv w.us i;refine zg ?_;intro u0;refine dP ?_ ?_<;>intro hc0
 .refine zg ?_;have hil:i<w.us.length:=ae;have hu:=hp0.1.1 _ (aq hil);have hu16:=hu.1;refine zf hm (λj=>[.u 1,.p 0 3,.i i,.e (.ref 1 [bP.D w] 0 0),.u 1,.i j,.u 5,.o 5 1 (eQ w.us (w.us[i]!.cands.take j)).length,.o 6 1 (jF w.us (w.us[i]!.cands.take j)).length,.p 1 3]) (λj=>[(0,.buf 3 [.agg [.aL,.aL,.aL]]),(1,.buf 3 [.agg [.own 2 1 0 (iU w.us i).length,.own 3 1 0 (eD w.us i).length,.own 4 1 0 (jE w.us i).length]]),(2,.buf 1 ((iU w.us i).map (D.int .i64))),(3,.buf 1 ((eD w.us i).map qc)),(4,.buf 1 ((jE w.us i).map oI)),(5,.buf 1 ((eQ w.us (w.us[i]!.cands.take j)).map oI)),(6,.buf 1 ((jF w.us (w.us[i]!.cands.take j)).map Iw))]) 9 (λj=>j<=w.us[i]!.cands.length) (λj=>w.us[i]!.cands.length-j) ae [(0,0),(1,1),(2,2),(3,3),(4,4)] ?_;intro j hj;have hnl1:=O8 w.us w.us[i]!.cands j;have hbl1:=Tx w.us w.us[i]!.cands j;refine zg ?_;intro u1;refine dP ?_ ?_<;>intro hc1
  .refine dJ ?_;have hcs:=hu.2 _ (aq (show j<w.us[i]!.cands.length by omega));have hfw:=hp0.2 _ (aq hil) _ (aq (show j<w.us[i]!.cands.length by omega));refine Ff ?_;refine bz 27 ?_ (he:=nr) (hm:=nr);refine zg ?_;refine zf hm (λk=>[.u 1,.p 0 3,.i i,.e (.ref 1 [bP.D w] 0 0),.u 1,.i j,.u 1,.i k,.e (.ref 8 [eB.D w.us[i]!.cands[j]!] 0 0),.u 1,.o 7 1 (kX w.us (w.us[i]!.cands[j]!.needs.take k)).length,.o 5 1 (eQ w.us (w.us[i]!.cands.take j)).length,.o 6 1 (jF w.us (w.us[i]!.cands.take j)).length,.p 1 3]) (λk=>[(0,.buf 3 [.agg [.aL,.aL,.aL]]),(1,.buf 3 [.agg [.own 2 1 0 (iU w.us i).length,.own 3 1 0 (eD w.us i).length,.own 4 1 0 (jE w.us i).length]]),(2,.buf 1 ((iU w.us i).map (D.int .i64))),(3,.buf 1 ((eD w.us i).map qc)),(4,.buf 1 ((jE w.us i).map oI)),(5,.buf 1 ((eQ w.us (w.us[i]!.cands.take j)).map oI)),(6,.buf 1 ((jF w.us (w.us[i]!.cands.take j)).map Iw)),(7,.buf 1 ((kX w.us (w.us[i]!.cands[j]!.needs.take k)).map Iw))]) 9 (λk=>k<=w.us[i]!.cands[j]!.needs.length) (λk=>w.us[i]!.cands[j]!.needs.length-k) ae [(0,0),(1,1),(2,2),(3,3),(4,4),(5,5),(6,6)] ?_;intro k hk;have hrl:=U3 w.us w.us[i]!.cands[j]!.needs k;refine zg ?_;intro u2;refine dP ?_ ?_<;>intro hc2
   .refine yr ?_;refine dh (v:=.sl 3 (((w.us[i]!.cands[j]!.needs)[k]!).map Want.D)) (hi:=λhf=>ch) ?_;refine aF (hc:=hB (w) ((w.us[i]!.cands[j]!.needs)[k]!) aa9) ?_;refine bg [Iw (eF w.us w.us[i]!.cands[j]!.needs[k]!)] ?_;refine cH (q:=Iw) (xs:=kX w.us (w.us[i]!.cands[j]!.needs.take k)) (e:=eF w.us w.us[i]!.cands[j]!.needs[k]!) (hb:=ae) ?_;refine zg ?_;rw[U1 ae];exact iy (k+1) [(23,7),(0,0),(1,1),(2,2),(3,3),(4,4),(5,5),(6,6)]
   refine cX ?_;obtain rfl:k=w.us[i]!.cands[j]!.needs.length:=ae;rw[List.take_length];refine bz 7 ?_ (he:=nr) (hm:=nr);refine dJ ?_;refine bg [oI (kX w.us w.us[i]!.cands[j]!.needs)] ?_;refine cH (q:=oI) (xs:=eQ w.us (w.us[i]!.cands.take j)) (e:=kX w.us w.us[i]!.cands[j]!.needs) (hb:=ae) ?_;refine cO ?_;refine Pn (v:=bP.D w) ?_;refine cO ?_;refine Pn (v:=.sl 3 (w.us[i]!.cands[j]!.bars.map Want.D)) ?_;refine aF (hc:=hB (w) (w.us[i]!.cands[j]!.bars) aa9) ?_;refine bg [Iw (eF w.us w.us[i]!.cands[j]!.bars)] ?_;refine cH (q:=Iw) (xs:=jF w.us (w.us[i]!.cands.take j)) (e:=eF w.us w.us[i]!.cands[j]!.bars) (hb:=ae) ?_;refine zg ?_;rw[O7 ae,Tw ae];exact iy (j+1) [(17,5),(24,6),(0,0),(1,1),(2,2),(3,3),(4,4)]
  refine cX ?_;obtain rfl:j=w.us[i]!.cands.length:=ae;rw[List.take_length];refine bz 5 ?_ (he:=nr) (hm:=nr);refine bz 6 ?_ (he:=nr) (hm:=nr);refine kB ?_;refine bg [.int .i64 (nY w.us ((i:Nat):Int))] ?_;refine cH (q:=D.int .i64) (xs:=iU w.us i) (e:=nY w.us ((i:Nat):Int)) (hb:=ae) ?_;refine cO ?_;refine y8 (v:=.own 3 1 0 (eD w.us i).length) ?_;refine cO ?_;refine bg [qc (eQ w.us w.us[i]!.cands)] ?_;refine cH (q:=qc) (xs:=eD w.us i) (e:=eQ w.us w.us[i]!.cands) (hb:=ae) ?_;refine cO ?_;refine y8 (v:=.own 4 1 0 (jE w.us i).length) ?_;refine cO ?_;refine bg [oI (jF w.us w.us[i]!.cands)] ?_;refine cH (q:=oI) (xs:=jE w.us i) (e:=jF w.us w.us[i]!.cands) (hb:=ae) ?_;refine cO ?_;refine cy (.agg [.own 24 1 0 (iU w.us i++[nY w.us ((i:Nat):Int)]).length,.own 3 1 0 (eD w.us i).length,.own 4 1 0 (jE w.us i).length]) (he:=c8) ?_;refine cO ?_;refine cy (.agg [.own 24 1 0 (iU w.us i++[nY w.us ((i:Nat):Int)]).length,.own 29 1 0 (eD w.us i++[eQ w.us w.us[i]!.cands]).length,.own 4 1 0 (jE w.us i).length]) (he:=c8) ?_;refine cO ?_;refine cy (.agg [.own 24 1 0 (iU w.us i++[nY w.us ((i:Nat):Int)]).length,.own 29 1 0 (eD w.us i++[eQ w.us w.us[i]!.cands]).length,.own 34 1 0 (jE w.us i++[jF w.us w.us[i]!.cands]).length]) (he:=c8) ?_;refine zg ?_;rw[Oz,O5 ae,Tu ae];exact iy (i+1) [(24,2),(29,3),(34,4),(0,0),(1,1)]
 refine cX ?_;obtain rfl:i=w.us.length:=ae;refine bz 2 ?_ (he:=nr) (hm:=nr);refine bz 3 ?_ (he:=nr) (hm:=nr);refine bz 4 ?_ (he:=nr) (hm:=nr);refine cO ?_;refine kW (d:=(dy w.us).D) ?_;exact lU
def G4:aj:=bc 39
def w410 (hA:C273 Y)(hB:C623 Y)(hC:C624 Y):tX (cw Y G4):=λw c hp0=>by
 refine pA ?_;refine aF (hc:=hA (w) (c) (by first|assumption|omega|exact hp0.1|exact hmn _ (aq ae)|exact hmb _ (aq ae))) ?_;refine zg ?_;refine aQ (λhc0=>?_) (λhc0=>?_)
 .try simp only[gO]at hc0
  refine zr ?_;rw[show jh w c=[]from ak hc0];rfl
 simp only[cZ]at hc0;have hml:=OZ hc0;have hwl:=Ek hp0.1 hc0;refine qp ?_;refine cK (0) (hj:=λhf=>ch) (hb:=λhf=>ch) ?_;refine zc ?_ ?_<;>intro hc1
 .exact absurd hc1 (by have:=hp0.2;omega)
 refine zg ?_;intro u0;refine zf hm (λu=>[.u 1,.m 1 c (D.int .i64),.u 1,.p 1 1,.u 2,.o 0 3 (gA w c u).length,.i u,.i c.length,.u 1,.m 1 c (D.int .i64),.u 18]) (λu=>[(0,.buf 3 ((gA w c u).map wy.D)),(1,.buf 1 [bP.D w])]) 14 (λu=>u<=c.length) (λu=>c.length-u) ae [(0,1)] ?_;intro u hu;have hlu:=hwl u hu;refine zc ?_ ?_<;>intro hc2
 .refine zc ?_ ?_<;>intro hc3
  .refine zg ?_;rw[show gA w c u=gA w c (u+1)from(Qo hc3).symm];exact iy (u+1) [(0,0),(1,1)]
  refine cX ?_;have hone:=RM (u:=u) hp0 hc0 ae ae;obtain⟨⟨hk,hkc⟩,⟨hl1,hl2⟩,hmn,hmb⟩:=BC hone;have hul:u<w.us.length:=by have:=(nv hone.2.1).1;omega
  refine pA ?_;refine dh (v:=eB.D (aU w c u)) (hi:=λ_=>ae) ?_;refine zg ?_;intro u1;rw[show gA w c u=(gA w c u++fN w c u (aU w c u).needs 0)from(gB _).symm];refine zf hm (λk=>[.u 1,.m 1 c (D.int .i64),.u 1,.p 1 1,.u 2,.o 0 3 (gA w c u++fN w c u (aU w c u).needs k).length,.i u,.i c.length,.u 1,.m 1 c (D.int .i64),.u 2,.i u,.p 2 8,.i k,.i ((aU w c u).needs.length:Nat),.u 1,.m 1 (aU w c u).needs jJ,.u 10]) (λk=>[(0,.buf 3 ((gA w c u++fN w c u (aU w c u).needs k).map wy.D)),(1,.buf 1 [bP.D w]),(2,.buf 8 [eB.D (aU w c u)])]) 37 (λk=>k<=(aU w c u).needs.length) (λk=>(aU w c u).needs.length-k) ae [(0,0),(1,1),(31,2)] ?_;intro k hk1;have hlk:=pV (w:=w) (c:=c) (u:=u) (l:=(aU w c u).needs) k;have hlt:(gA w c u++fN w c u (aU w c u).needs k).length<=2400:=by rw[cu];omega
  refine zc ?_ ?_<;>intro hc4
  .refine k9 ?_;refine dh (v:=.sl 3 ((((aU w c u).needs)[k]!).map Want.D)) (hi:=λhf=>ch) ?_;refine zg ?_;refine wp_cond (λhc5=>?_) (λhc5=>?_)
   .simp only[cE]at hc5;have hst:(gA w c u++fN w c u (aU w c u).needs k)++[⟨2,((u:Nat):Int),((k:Nat):Int)⟩]=(gA w c u++fN w c u (aU w c u).needs (k+1)):=by rw[O2 hc5,fC]
    refine fE ?_;refine a7 (wy.D ⟨2,((u:Nat):Int),((k:Nat):Int)⟩) ?_;refine bg [wy.D ⟨2,((u:Nat):Int),((k:Nat):Int)⟩] ?_;refine cH (q:=wy.D) (xs:=(gA w c u++fN w c u (aU w c u).needs k)) (e:=⟨2,((u:Nat):Int),((k:Nat):Int)⟩) (hb:=ae) ?_;refine zg ?_;rw[hst];exact iy (k+1) [(53,0),(1,1),(2,2)]
   simp only[cZ]at hc5;have hst:(gA w c u++fN w c u (aU w c u).needs k)=(gA w c u++fN w c u (aU w c u).needs (k+1)):=by rw[O3 hc5]
   refine zg ?_;rw[hst];exact iy (k+1) [(0,0),(1,1),(2,2)]
  refine cX ?_;obtain rfl:k=(aU w c u).needs.length:=ae;refine zg ?_;intro u2;rw[show(gA w c u++fN w c u (aU w c u).needs (aU w c u).needs.length)=((gA w c u++fN w c u (aU w c u).needs (aU w c u).needs.length)++j5 w c u (aU w c u).bars 0)from(gB _).symm];refine zfL hm (λq=>[.u 1,.m 1 c (D.int .i64),.u 1,.p 1 1,.u 2,.o 0 3 ((gA w c u++fN w c u (aU w c u).needs (aU w c u).needs.length)++j5 w c u (aU w c u).bars q).length,.i u,.i c.length,.u 1,.m 1 c (D.int .i64),.u 2,.i u,.p 2 8,.u 7,.i q,.i ((aU w c u).bars.length:Nat),.u 1,.m 3 (aU w c u).bars Want.D,.u 3]) (λq=>[(0,.buf 3 (((gA w c u++fN w c u (aU w c u).needs (aU w c u).needs.length)++j5 w c u (aU w c u).bars q).map wy.D)),(1,.buf 1 [bP.D w]),(2,.buf 8 [eB.D (aU w c u)])]) 42 (λq=>q<=(aU w c u).bars.length) (λq=>(aU w c u).bars.length-q) ae [(0,0),(1,1),(2,2)] ?_;intro q hq;have hlq:=wI (w:=w) (c:=c) (u:=u) (b:=(aU w c u).bars) q;have hlk:=pV (w:=w) (c:=c) (u:=u) (l:=(aU w c u).needs) (aU w c u).needs.length;have hlt:((gA w c u++fN w c u (aU w c u).needs (aU w c u).needs.length)++j5 w c u (aU w c u).bars q).length<=2400:=by rw[cu,cu];omega
  refine zc ?_ ?_<;>intro hc6
  .refine zg ?_;refine wp_cond (λhc7=>?_) (λhc7=>?_)
   .have hst:((gA w c u++fN w c u (aU w c u).needs (aU w c u).needs.length)++j5 w c u (aU w c u).bars q)++[⟨3,((u:Nat):Int),((q:Nat):Int)⟩]=((gA w c u++fN w c u (aU w c u).needs (aU w c u).needs.length)++j5 w c u (aU w c u).bars (q+1)):=by rw[N9 hc7,<-fC]
    refine fE ?_;refine a7 (wy.D ⟨3,((u:Nat):Int),((q:Nat):Int)⟩) ?_;refine bg [wy.D ⟨3,((u:Nat):Int),((q:Nat):Int)⟩] ?_;refine cH (q:=wy.D) (xs:=((gA w c u++fN w c u (aU w c u).needs (aU w c u).needs.length)++j5 w c u (aU w c u).bars q)) (e:=⟨3,((u:Nat):Int),((q:Nat):Int)⟩) (hb:=ae) ?_;refine zg ?_;rw[hst];exact iy (q+1) [(58,0),(1,1),(2,2)]
   have hst:((gA w c u++fN w c u (aU w c u).needs (aU w c u).needs.length)++j5 w c u (aU w c u).bars q)=((gA w c u++fN w c u (aU w c u).needs (aU w c u).needs.length)++j5 w c u (aU w c u).bars (q+1)):=by rw[N8 hc7]
   refine zg ?_;rw[hst];exact iy (q+1) [(0,0),(1,1),(2,2)]
  refine zg ?_;obtain rfl:q=(aU w c u).bars.length:=ae;rw[aaz ae];exact iy (u+1) [(0,0),(1,1)]
 refine cX ?_;obtain rfl:u=c.length:=ae;rw[show gA w c c.length=jh w c from(ah (by rw[hc0];simp)).symm];refine bz 0 ?_;exact lU
def yV:aj:=bc 46
def w296 (hm:(Y.at 1).bU)(hB:GM (Y.at 1))(hC:C535 (Y.at 1))(g:Gs)(own:au)(hp0:0<=g.i/\g.i<=980000):du (Y.at 1) yV.body (GP yV 2 (bn.D (mB g own).1) (Gs.D (mB g own).2):Ex->List aY->St->Prop) (fQ yV (.ptr 0 2 0 0::[.str own])) ⟨1,[(0,.buf 2 [(Gs.D g)])]⟩:=by
 show du _ _ _ [⟨true,.ptr 0 2 0 0⟩,⟨true,.str own⟩,.un,.un,.un,.un,.un,.un,.un,.un,.un] ⟨1,[(0,.buf 2 [(Gs.D g)])]⟩;refine aP ?_;refine dJ ?_;have hw1:=BO g own;have hw2:=BO (dE g own).2.aS own;have ha:=Wd g own;refine cX ?_;refine di (hc:=hC g own ae) ?_;refine bg [de.D (dE g own).1] ?_;refine bR [.own 5 4 0 1,.str [],.str []] ?_;refine kB ?_;refine di (hc:=hB (dE g own).2 6 ae iK) ?_;refine cO ?_;refine ra hm (ι:=Unit) (λ_=>[⟨true,.ptr 0 2 0 0⟩,⟨true,.str own⟩,⟨true,.ptr 1 3 0 0⟩,.un,.un,⟨true,.ptr 2 3 0 0⟩,.un,.un,.un,.un,.un]) (λ_=>[(0,.buf 2 [Gs.D (gY g own).2]),(1,.buf 3 [.agg [.aL,.str [],.str []]]),(2,.buf 3 [.agg [.own 3 4 0 (gY g own).1.length,.str [],.str []]]),(3,.buf 4 ((gY g own).1.map de.D))]) 60 (λ_=>True) ?_ ?_
 .refine zc ?_ ?_<;>intro hc0
  .refine cX ?_;refine y8 (v:=.own 5 4 0 1) ?_;refine cX ?_;refine di (hc:=hC (dE g own).2.aS own KB) ?_;refine bg [de.D (dE (dE g own).2.aS own).1] ?_;refine cH (q:=de.D) (xs:=[(dE g own).1]) (e:=(dE (dE g own).2.aS own).1) (hb:=aC) ?_;refine cO ?_;refine cy (.agg [.own 19 4 0 2,.str [],.str []]) (he:=c8) ?_;refine zg ?_;have hA:(gY g own)=([(dE g own).1,(dE (dE g own).2.aS own).1],(dE (dE g own).2.aS own).2):=ak hc0;rw[hA];exact⟨(),trivial,(aZ.to [(1,1),(7,2),(19,3)] ai ai eM (by refine bo.nl 0 ai ai ai dZ ?_;refine bo.nl 1 ai ai ai dZ ?_;refine bo.eq 7 ai ai ai ?_;refine bo.nl 19 ai ai ai dZ ?_;exact bo.nil))⟩
  refine zc ?_ ?_<;>intro hc1
  .refine dJ ?_;refine bg [.str fW] ?_;refine F0 0 (hj:=λ_=>rfl) (hb:=λ_=>aV) ?_;refine cO ?_;refine pZ [.agg [.str (dE g own).1.name,.str (dE g own).1.range,.own 17 1 0 1,.bool (dE g own).1.bare]] (hi:=aC) (he:=c8) ?_;refine zg ?_;have hA:(gY g own)=([{(dE g own).1 with feats:=[fW]}],(dE g own).2.aS):=by rw[gY,ah hc0,ak hc1]
   rw[hA];exact⟨(),trivial,(aZ.fz 17 ai dZ Ms Ms (aZ.to [(1,1),(7,2),(5,3)] ai ai eM aa5))⟩
  refine zg ?_;have hA:(gY g own)=([(dE g own).1],(dE g own).2.aS):=by rw[gY,ah hc0,ah hc1]
  rw[hA];exact⟨(),trivial,(aZ.to [(1,1),(7,2),(5,3)] ai ai eM aa5)⟩
 .rintro _-
  refine dJ ?_;refine di (hc:=hB (gY g own).2 8 ae iK) ?_;refine cO ?_;refine ra hm (ι:=Unit) (λ_=>[⟨true,.ptr 0 2 0 0⟩,⟨true,.str own⟩,⟨true,.ptr 1 3 0 0⟩,.un,.un,⟨true,.ptr 2 3 0 0⟩,.un,.un,.un,.un,.un]) (λ_=>[(0,.buf 2 [Gs.D (jI (gY g own).2).2]),(1,.buf 3 [.agg [.aL,.str [],.str []]]),(2,.buf 3 [.agg [.own 3 4 0 (gY g own).1.length,.str (jI (gY g own).2).1,.str []]]),(3,.buf 4 ((gY g own).1.map de.D))]) 80 (λ_=>True) ?_ ?_
  .refine zc ?_ ?_<;>intro hc2
   .refine cX ?_;refine cy (.agg [.own 3 4 0 (gY g own).1.length,.str osY,.str []]) (he:=c8) ?_;refine zg ?_;have hH:(jI (gY g own).2)=(osY,(gY g own).2.aS):=by rw[jI,ak hc2]
    rw[hH];exact⟨(),trivial,(aZ.to [(1,1),(2,2),(3,3)] ai ai eM QD)⟩
   refine zc ?_ ?_<;>intro hc3
   .refine cX ?_;refine cy (.agg [.own 3 4 0 (gY g own).1.length,.str osN,.str []]) (he:=c8) ?_;refine zg ?_;have hH:(jI (gY g own).2)=(osN,(gY g own).2.aS):=by rw[jI,ah hc2,ak hc3]
    rw[hH];exact⟨(),trivial,(aZ.to [(1,1),(2,2),(3,3)] ai ai eM QD)⟩
   refine zg ?_;have hH:(jI (gY g own).2)=([],(gY g own).2.aS):=by rw[jI,ah hc2,ah hc3]
   rw[hH];exact⟨(),trivial,(aZ.to [(1,1),(2,2),(3,3)] ai ai eM QD)⟩
  .rintro _-
   refine dJ ?_;refine di (hc:=hB (jI (gY g own).2).2 5 ae (by first|omega|(simp only[Gs.aS];omega)|(simp only[oX,jI,Gs.aS]at*;omega))) ?_;refine zc ?_ ?_<;>intro hc4
   .refine cO ?_;have hO:(HJ (jI (gY g own).2).2)=([111],(jI (gY g own).2).2.aS):=by rw[HJ,ak hc4]
    refine cO ?_;refine cy (.agg [.own 3 4 0 (gY g own).1.length,.str (jI (gY g own).2).1,.str [111]]) (he:=c8) ?_;refine k9 ?_;refine bz 3 ?_;refine zg ?_;refine jc trivial Dk (dk ai (?_)) (by rw[mB,hO];exact rfl) ai ai;rw[mB,hO];rfl
   refine cO ?_;have hO:(HJ (jI (gY g own).2).2)=([],(jI (gY g own).2).2.aS):=by rw[HJ,ah hc4]
   refine fE ?_;refine bz 3 ?_;refine zg ?_;refine jc trivial Dk (dk ai (?_)) (by rw[mB,hO];exact rfl) ai ai;rw[mB,hO];rfl
def Bd:aj:=⟨2,16,[⟨2,none⟩],Vq,(sq (rg [gb 5 s0,gb 5 s1,gm yy] [(3,0),(4,1),(2,2)]) (sq (sq (r2 [gk 5 true s3,gx 209 [l0] ha5,gno l1,gm l2,Bt 3 (.ld 5 true s4),Bt 3 (.call 209 [l4] ha5),Bt 3 (.un .not l5),go1 l3 l6,gm l7,Bt 8 (.ld 5 true s3),Bt 8 (.call 530 [l9] ha5),Bt 8 (.ld 5 true s4),Bt 8 (.call 530 [l11] ha5),Bt 8 (.eqA false true [.i .i64,.i .i64,.i .i64,.s,.s] l10 l12),go1 l8 l13] 5 14) (.cond s5 (sq (r1 [gm yy] 2 0) .ret) .skip)) (sq (sq (r2 [gf 0 s3,gd l0,gf 0 s4,gd l2,gx 532 [l1,l3] qD,gf 1 s3,gd l5,gf 1 s4,gd l7,gx 532 [l6,l8] qD,gf 2 s3,gd l10,gf 2 s4,gd l12,gx 532 [l11,l13] qD,gn (.bsl 1 (.int .i64 0) 3 [(0,l4),(1,l9),(2,l14)]),gx 531 [l15] [[.sl 1 [.a]]],gm l16] 6 17) (sq (r1 [gm s6,sv l0 yy] 7 1) (.cond s7 (sq (r1 [gm s6,gm l0] 2 1) .ret) .skip))) (sq (sq (r1 [gf 3 s3,gd l0,Hx l1 cse] 8 2) (.cond s8 (sq (r1 [gm TY] 2 0) .ret) .skip)) (sq (sq (r1 [gf 3 s4,gd l0,Hx l1 cse] 9 2) (.cond s9 (sq (r1 [gn (.mv (.c (.int .i64 (-1))))] 2 0) .ret) .skip)) (sq (rt [gf 3 s3,gd l0,gx 533 [l1,(i8 46)] qD,gf 3 s4,gd l3,gx 533 [l4,(i8 46)] qD,gm l2,gm l5] [(11,6),(12,7)]) (sq (sq (r1 [gm yy] 10 0) (.block 0 (.loop (sq (sq (r1 [gm U4,gm s11,gl l1,om l0 l2,gm l3,gmt 4 U4,gmt 4 ZY,AU 4 (.len l6),AU 4 (afk l5 l7),ga1 l4 l8] 13 9) (gce s13 0)) (sq (.block 1 (sq (r2 [gm s11,gm U4,ga 1 l0 l1,gd l2,gm ZY,gm U4,ga 1 l4 l5,gd l6,gx 534 [l3,l7] qD,gm l8] 14 9) (sq (r1 [gm s14,sv l0 yy] 15 1) (.cond s15 (sq (r1 [gm s14,gm l0] 2 1) .ret) .skip)))) (r1 [gm U4,qJ l0 TY,gm l1] 10 2)))))) (sq (r1 [gm s11,gl l0,gm ZY,gl l2,gx 532 [l1,l3] qD,gm l4] 2 5) .ret))))))))⟩
def w295 (hA:AK Y)(hB:C530 Y)(hC:C531 Y)(hD:C532 Y)(hE:VD Y)(hF:C534 Y):tS (cw Y Bd):=λa b hp0=>by
 refine zg ?_;refine aQ (λhc0=>?_) (λhc0=>?_)
 .simp only[dK,cE,aT]at hc0;refine zr ?_;rcases hc0 with hc0|hc0
  .unfold iL;rw[ak hc0]
  .exact(Fs hc0).symm
 simp only[ec,cZ,ct]at hc0;have hv:¬(gJ a=false\/gJ b=false):=by simp only[not_or,Bool.not_eq_false];first|exact hc0|exact hc0.1
 refine gZ ?_;refine fE ?_;refine bg ([dn a.major b.major,dn a.minor b.minor,dn a.patch b.patch].map (D.int .i64)) ?_;refine aF (hc:=hC [dn a.major b.major,dn a.minor b.minor,dn a.patch b.patch]) (ha:=λ_=>aw (λd=>[d]) (tG (q:=D.int .i64) (xs:=[dn a.major b.major,dn a.minor b.minor,dn a.patch b.patch]) (λ_=>rfl) ai)) (hp:=λ_=>⟨qe (q:=D.int .i64) (xs:=[dn a.major b.major,dn a.minor b.minor,dn a.patch b.patch]) (λ_=>rfl) ai,trivial⟩) ?_;refine zg ?_;refine aQ (λhc1=>?_) (λhc1=>?_)
 .simp only[cE,ct]at hc1;refine zr ?_;exact Xc hv hc1
 simp only[cZ,aT]at hc1;obtain⟨z1,z2,z3⟩:=Xd hc1;refine dJ ?_;have hcp:=WA hv z1 z2 z3;have hpn:¬a.pre=b.pre:=λe=>hc0.2 (acy z1 z2 z3 e)
 refine zc ?_ ?_<;>intro hc2
 .refine zr ?_;rw[hcp];unfold A6;rw[ah hpn,ak hc2]
 refine zc ?_ ?_<;>intro hc3
 .refine zr ?_;rw[hcp];unfold A6;rw[ah hpn,ah hc2,ak hc3]
 refine fE ?_;refine aF (hc:=hE a.pre 46 hp0.1.1) ?_;refine cX ?_;refine aF (hc:=hE b.pre 46 hp0.2.1) ?_;refine zg ?_;refine zf hm (λi=>[.u 3,.p 0 5,.p 1 5,.u 5,.i i,.m 1 (ba a.pre 46) D.str,.m 1 (ba b.pre 46) D.str,.u 3]) (λi=>[(0,.buf 5 [bV.D a]),(1,.buf 5 [bV.D b])]) 53 (λi=>(i<=(ba a.pre 46).length/\i<=(ba b.pre 46).length)/\iL a b=vo (ba a.pre 46) (ba b.pre 46) i) (λi=>(ba a.pre 46).length-i) ⟨⟨ae,ae⟩,by rw[hcp];unfold A6;rw[ah hpn,ah hc2,ah hc3]⟩ [(0,0),(1,1)] ?_;rintro i ⟨hi,hr⟩;refine zg ?_;intro u0;refine dP ?_ ?_<;>intro hc4
 .refine zc ?_ ?_<;>intro hc5
  .refine zr ?_;rw[hr,Gp ae hc5]
  refine zl (i+1) [(0,0),(1,1)] ?_;exact⟨⟨ae,ae⟩,by rw[hr,Nt ae hc5]⟩
 refine zg ?_;intro u1 u2;refine zr ?_;rw[hr,Gn ae]
def MZ:aj:=bc 104
def w693 (hA:C184 Y)(hB:C829 Y):JT (cw Y MZ):=λm al c hp0=>by
 refine cO ?_;obtain⟨⟨hmp,hcp⟩,rfl⟩:=hp0;have hfp:=Lm hmp hcp;have hml:=hmp.1;have hcl:=hcp.1;refine qp ?_;refine cK 0 (hj:=λ_=>ae) (hb:=λ_=>ae) ?_;refine zc ?_ ?_<;>intro hc0
 .refine zr ?_;unfold ef;rw[ak hc0];rfl
 refine zg ?_;refine zf hm (λu=>[.u 1,.m 1 ([]:List Int) (D.int .i64),.m 1 c (D.int .i64),.u 3,.i u,.u 5,.p 0 3,.u 4]) (λu=>[(0,.buf 3 [kg.D m])]) 8 (λu=>u<=c.length) (λu=>c.length-u) ae [(0,0)] ?_;intro u hu;refine zg ?_;intro u0;refine dP ?_ ?_<;>intro hc1
 .refine zg ?_;refine wp_cond (λhc2=>?_) (λhc2=>?_)
  ·

   exfalso;revert hc2;cases decide (c[u]! <0)<;>decide
  try simp only[gO]at hc2
  exact iy (u+1) [(0,0)]
 refine zg ?_;refine zf hm (λu=>[.u 1,.m 1 ([]:List Int) (D.int .i64),.m 1 c (D.int .i64),.u 6,.i u,.u 2,.p 0 3,.u 4]) (λu=>[(0,.buf 3 [kg.D m])]) 13 (λu=>u<=c.length/\m9 m c=mM (xE m c) (c.length-u) u) (λu=>c.length-u) ⟨ae,rfl⟩ [(0,0)] ?_;rintro u ⟨hu,hr⟩;refine zg ?_;intro u1;refine dP ?_ ?_<;>intro hc3
 .refine zg ?_;refine aQ (λhc4=>?_) (λhc4=>?_)
  .try simp only[gO]at hc4
   refine gM (u+1) [(0,0)] ?_;rw[hr,GV ae (by unfold xE;rw[br hc4];rfl)]
  simp only[ct]at hc4;obtain⟨v,hv⟩:∃v:Nat,c[u]! =(v:Int):=⟨c[u]!.toNat,ae⟩
  have hfu:=hfp.2 u ae ae;rw[hv,Int.toNat_natCast]at hfu;have hro:Ir m c u=mM (λk=>ko c m.needs[u]![v]![k]!) m.needs[u]![v]!.length 0:=by unfold Ir;rw[hv,Int.toNat_natCast]
  have hou:xE m c u=decide (Ir m c u=m.needs[u]![v]!.length):=by unfold xE;rw[hv,Int.toNat_natCast,bL (show ¬((v:Nat):Int)<0 by omega),Bool.false_or]
  refine kB ?_;refine dh (v:=.sl 1 (((m.needs)[u]!).map oI)) (hi:=λhf=>ch) ?_;refine k9 ?_;refine dh (v:=.sl 1 (m.needs[u]![v]!.map Iw)) (hi:=λ_=>ae) ?_;refine zg ?_;refine zfL hm (λk=>[.u 1,.m 1 ([]:List Int) (D.int .i64),.m 1 c (D.int .i64),.u 6,.i u,.u 2,.p 0 3,.i k,.m 1 (m.needs[u]![v]!) Iw,.u 2]) (λk=>[(0,.buf 3 [kg.D m])]) 35 (λk=>k<=m.needs[u]![v]!.length/\Ir m c u=mM (λk=>ko c m.needs[u]![v]![k]!) (m.needs[u]![v]!.length-k) k) (λk=>m.needs[u]![v]!.length-k) ⟨ae,by rw[hro];rfl⟩ [(0,0)] ?_;rintro k ⟨hk,hr2⟩;refine zg ?_;intro u2;refine dP ?_ ?_<;>intro hc5
  .refine qp ?_;refine dh (v:=.sl 2 (((m.needs[u]![v]!)[k]!).map dY.D)) (hi:=λhf=>ch) ?_;refine zg ?_;refine wp_cond (λhc6=>?_) (λhc6=>?_)
   .have hk6:Ir m c u=k:=hr2.trans (QY (f:=λk=>ko c m.needs[u]![v]![k]!) ae (by simpa using hc6));refine zr ?_;have h5:m9 m c=u:=by rw[hr,QY ae (by rw[hou,hk6];exact bL ae)]
    unfold ef;rw[ah hc0,ak ae,h5,hk6];rfl
   try simp only[gO]at hc6
   refine gM (k+1) [(0,0)] ?_;exact hr2.trans (GV (f:=λk=>ko c m.needs[u]![v]![k]!) ae hc6)
  refine gM (u+1) [(0,0)] ?_;rw[hr,GV ae (by rw[hou,hr2,K3 ae];exact br ae)]
 refine zr ?_;have h5:m9 m c=u:=by rw[hr,K3 ae]
 unfold ef;rw[ah hc0,ah ae];rfl
def LL:aj:=bc 6
def w89 (hm:(Y.at 0).bU)(hA:C29 Y)(hB:C264 Y)(hC:C265 Y)    :wkk Y LL (.bool true) []:=by
 refine fE ?_;refine bR [.int .i64 0,.int .i64 0,.int .i64 0,.str [],.str [],.int .i64 (-1),.aL,.aL] ?_;refine bg [.agg [.int .i64 0,.int .i64 0,.int .i64 0,.str [],.str [],.int .i64 (-1),.aL,.aL]] ?_;refine bR [.str [],.str [],.own 2 8 0 1] ?_;refine bg [.agg [.str [],.str [],.own 2 8 0 1]] ?_;refine bR [.own 4 3 0 1] ?_;refine dJ ?_;refine AH [(2,.buf 8 [eB.D ⟨zV,-1,[],[]⟩]),(4,.buf 3 [.agg [.str [],.str [],.own 2 8 0 1]]),(6,.buf 1 [.agg [.own 4 3 0 1]])] (.bf ai (.cons (.ag (.cons (.refl _) (.cons (.refl _) (.cons (.refl _) (.cons (.refl _) (.cons (.refl _) (.cons (.refl _) (.cons (.nil 1) (.cons (.nil 3) .nil))))))))) .nil) (.id ai (.id ai .nil))) ?_;refine bz 2 ?_;refine bz 4 ?_;refine cO ?_;refine bR [.str [],.str [],.str []] ?_;refine oR (v:=bP.D QV) ?_;refine bR [.str [],.str [],.str [],.aL] ?_;refine aF (hc:=hB [] eZ QV ⟨eZ,[]⟩ (QW ⟨aV,(λ_ h=>bZ),(λi=>by unfold Env.at;split<;>decide)⟩)) ?_;refine pA ?_;rw[awk_1];refine cO ?_;refine bR [.str [],.str [],.str []] ?_;refine oR (v:=bP.D QV) ?_;refine bR [.str [],.str [],.str [],.aL] ?_;refine aF (hc:=hC [] eZ QV ⟨eZ,[]⟩ (QW ⟨aV,(λ_ h=>bZ),(λi=>by unfold Env.at;split<;>decide)⟩)) ?_;refine kB ?_;rw[awk_2];refine cO ?_;refine bR [.str [],.str [],.str []] ?_;refine oR (v:=bP.D QV) ?_;refine cO ?_;refine bR [.str (iD 1).e0,.str (iD 1).e1,.str (iD 1).e2,.aL] ?_;refine aF (hc:=hC [] eZ QV ⟨iD 1,[]⟩ (QW ⟨aV,(λ_ h=>bZ),aiI 1⟩)) ?_;refine kB ?_;rw[awk_3];refine cO ?_;refine bR [.str [],.str [],.str []] ?_;refine oR (v:=bP.D QV) ?_;refine bR [.str [97,110,116],.int .i64 0,.int .i64 0,.int .i64 0,.str [],.str [],.str [],.int .u64 0,.aL] ?_;refine bg [.agg [.str [97,110,116],.int .i64 0,.int .i64 0,.int .i64 0,.str [],.str [],.str [],.int .u64 0,.aL]] ?_;refine bR [.str [],.str [],.str [],.own 41 9 0 1] ?_;refine aF (hc:=hC [] eZ QV ⟨eZ,[antL]⟩ (QW ⟨aV,(λx hx=>by rw[aD.1 hx];exact⟨⟨aV,aV⟩,aV,aV,aV,λ_ h=>bZ⟩),(λi=>by unfold Env.at;split<;>decide)⟩)) (hp:=λ_=>by repeat' first|exact trivial|exact rfl|refine And.intro ?_ ?_|(intro e he;obtain rfl:=aD.1 he)|simp) ?_;refine kB ?_;rw[awk_4];refine k9 ?_;refine zzn ?_;refine fE ?_;refine cK 0 (hj:=λ_=>rfl) (hb:=λ_=>aV) ?_;refine dh (v:=.int .i64 0) (hi:=λ_=>aV) ?_;refine gZ ?_;refine k9 ?_;refine bm (env':=[⟨_,(.bool _)⟩,_,_,_,_,_,_,_]) ?_;refine zr ?_;decide
def Ii:aj:=bc 61
def w505 (hA:C692 Y)(hB:C693 Y)(hC:C694 Y)(m:kg)(od:List (List Int))(c:List Int)(hD:afa (Y.at 0) (E2 c))(hp0:(wA m/\KG m c)/\yC m od):wkk Y Ii (O9 (mH m od c)) [kg.D m,Ask.D ⟨[],od⟩,.sl 1 (c.map (D.int .i64))]:=by
 refine cO ?_;obtain⟨⟨hmp,hcp⟩,hop⟩:=hp0;have hml:=hmp.1;have hcl:=hcp.1;refine zc ?_ ?_<;>intro hc0
 .refine zr ?_;rw[D2 hmp hop hcp,ak hc0];rfl
 refine zc ?_ ?_<;>intro hc1
 .refine zr ?_;rw[D2 hmp hop hcp,ah (by rw[hc0];decide),ak hc1];rfl
 refine IJ ?_;have hS:mH m od c=iT (λo=>mH m od (xN c o)) (eh m od c):=by rw[D2 hmp hop hcp,ah (by rw[hc0];decide),ah hc1]
 have hofl:=(qL hmp hop hcp).2;refine zg ?_;refine zf hm (λi=>[.u 2,.m 1 c (D.int .i64),.u 1,.p 0 3,.p 1 2,.u 3,.i i,.m 2 (eh m od c) dY.D,.u 4]) (λi=>[(0,.buf 3 [kg.D m]),(1,.buf 2 [Ask.D (⟨[],od⟩:Ask)])]) 30 (λi=>i<=(eh m od c).length/\mH m od c=iT (λo=>mH m od (xN c o)) ((eh m od c).drop i)) (λi=>(eh m od c).length-i) ⟨ae,hS⟩ [(0,0),(1,1)] ?_;rintro i ⟨hi,hr⟩;refine zg ?_;intro u0;refine dP ?_ ?_<;>intro hc2
 .refine dJ ?_;have ho:=(qL hmp hop hcp).1 _ (aq (show i<(eh m od c).length by omega));have hput:=HR hcp ho;obtain⟨U,hU⟩:∃U:Nat,(eh m od c)[i]!.u=(U:Int):=⟨(eh m od c)[i]!.u.toNat,by have:=ho.1;omega⟩
  have hUl:U<c.length:=by have:=ho.1;omega
  refine cO ?_;refine qO (he:=mW.sl) (n:=(xN c (eh m od c)[i]!).length) (hn:=by simp[xN]) (hb:=by rw[show(xN c (eh m od c)[i]!).length=c.length from List.length_set ..];omega) ?_;refine gZ ?_;refine F0 U (hj:=λ_=>hU) (hb:=λ_=>by rw[show(xN c (eh m od c)[i]!).length=c.length from List.length_set ..];omega) ?_;refine pZ ((xN c (eh m od c)[i]!).map (D.int .i64)) (hi:=by simp only[cr,a8];omega) (he:=by rw[cr,stI64 hUl,xN,hU,Int.toNat_natCast]) ?_;refine cO ?_;refine bz 35 ?_;refine cO ?_;refine kW (d:=kg.D m) ?_;refine kW (d:=Ask.D (⟨[],od⟩:Ask)) ?_;refine kB ?_;refine Zi (λbq hbq=>?_) (hs:=R3 _);refine zg ?_;refine wp_cond (λhc3=>?_) (λhc3=>?_)
  .have hbf:bq=false:=by revert hc3;cases bq<;>decide
   obtain⟨d,hsd⟩:=(vQ hmp hop hput.1 hbq).2 hbf;rw[hsd];refine zr ?_;rw[hr,Ox ae hsd];rfl
  have hbt:bq=true:=by revert hc3;cases bq<;>decide
  have hsn:=(vQ hmp hop hput.1 hbq).1 hbt;refine gM (i+1) [(0,0),(1,1)] ?_;rw[hr];exact Ln ae hsn
 refine zr ?_;rw[hr,Ov ae];rfl
def Du:aj:=bc 190
def w904 (hA:C907 Y)(hB:Vw Y):Kf (cw Y Du):=λr e o hp0=>by
 refine cO ?_;have hns:=gD hp0.1;refine zg ?_;refine zf hm (λi=>[.u 2,.e (.str o),.u 1,.i i,.p 1 9,.u 2,.p 2 3,.u 1,.o 0 1 ((qM (r.needs.take i) e o)).length]) (λi=>[(0,.buf 1 (((qM (r.needs.take i) e o)).map dS)),(1,.buf 9 [Rec.D r]),(2,.buf 3 [Env.D e])]) 5 (λi=>i<=r.needs.length) (λi=>r.needs.length-i) ae [(0,1),(1,2)] ?_;intro i hi;have hol:=(xF (ns:=r.needs.take i) (e:=e) (o:=o) λn hn=>hns.2 n (D5 hn)).1;rw[dF]at hol;refine zg ?_;intro u0;refine dP ?_ ?_<;>intro hc0
 .refine yr ?_;refine cy _ ?_;refine rb ?_;refine cv (hc:=λhf=>hA _ (e) ?_) ?_;rotate_left;first|assumption|omega|exact⟨hns.2 _ (aq ae),hp0.1.2.2.1 _ (aq ae)⟩|exact⟨(hp0.1.2.2.1 _ (aq ae)).2.1,hp0.2⟩
  refine zc ?_ ?_<;>intro hc1
  .refine cO ?_;have hrl:=(tA (hns.2 _ (aq (show i<r.needs.length by omega)))).1;refine cX ?_;refine aF (hc:=hB _ ?_) ?_;rotate_left;first|assumption|omega|exact⟨hns.2 _ (aq ae),hp0.1.2.2.1 _ (aq ae)⟩|exact⟨(hp0.1.2.2.1 _ (aq ae)).2.1,hp0.2⟩
   refine pd (q:=dS) (xs:=(qM (r.needs.take i) e o)) (ys:=iM r.needs[i]!) (he:=mW.sl) (hb:=ae) ?_;refine zg ?_;rw[<-aj5 hc1,YF ae];exact iy (i+1) [(30,0),(1,1),(2,2)]
  refine zg ?_;rw[show(qM (r.needs.take i) e o)=qM (r.needs.take (i+1)) e o from by rw[<-YF ae,aj4 hc1,gB]];exact iy (i+1) [(0,0),(1,1),(2,2)]
 refine cX ?_;obtain rfl:i=r.needs.length:=ae;rw[List.take_length];refine bz 0 ?_;exact lU
def sD:aj:=bc 240
def w450 (hm:(Y.at 3).bU)(ws:List au)(t:au)(m0:List (Nat×bj))(hA:C242 (Y.at 3))(hB:C489 (Y.at 3))(hC:C664 (Y.at 3))(hp0:uK m0 0 t)(hp1:look m0 1=some (.buf 1 (ws.map D.str)))(hp2:GO ws t):du (Y.at 3) sD.body (uA sD (λd m=>d=.tup []/\look m 0=some (.bld (some 9) (t++cq ws).length true)/\look m 9=some (.row (t++cq ws))):Ex->List aY->St->Prop) (fQ sD [.ptr 0 2 0 0,.own 1 1 0 ws.length]) ⟨3,m0⟩:=by
 show du _ _ _ [⟨true,.ptr 0 2 0 0⟩,⟨true,.own 1 1 0 ws.length⟩] ⟨3,m0⟩;obtain⟨⟨q1,q2⟩,q3,q4⟩:=hp2;have hlt:t++cq ws=t++cn [32] ws++[10]:=by unfold cq;simp
 refine aP ?_;refine cX ?_;refine aF (hc:=hA ws [32] q2 aV q3) (ha:=λ_=>aw (λd=>[d,D.str [32]]) (tG (q:=D.str) (λ_=>rfl) hp1)) (hp:=λ_=>⟨qe (q:=D.str) (λ_=>rfl) hp1,rfl,trivial⟩) ?_;refine dI (nx':=4) (v:=.any) (m':=rV m0 0 6 (t++cn [32] ws)) (hc:=λK' hK=>hB _ _ K' ⟨_,0,t,rfl,hp0,jr (by decide:0<3) (Nat.le_add_right _ _),q1,ae,hK⟩) (hn:=aV) ?_;refine dJ ?_;refine dI (nx':=9) (v:=.any) (m':=rV (rV m0 0 6 (t++cn [32] ws)) 0 9 (t++cn [32] ws++[10])) (hc:=λK' hK=>hC _ _ K' ⟨10,0,t++cn [32] ws,rfl,acd aV,jr (by decide:0<8) (Nat.le_add_right _ _),aC,by rw[cu];exact q4,hK⟩) (hn:=aV) ?_;refine zg ?_

 refine ei trivial jD (dk ai (?_)) ai ⟨rfl,by rw[hlt];exact(yT aV).1,by rw[hlt];exact(yT aV).2⟩;rfl
def MI:aj:=bc 26
def w136 (hm:(Y.at 0).bU)(hA:C71 Y)(hB:C344 Y)(hC:C345 Y):IL (cw Y MI):=λm hp0=>by
 refine yr ?_;refine aF (hc:=hA m.r hp0.1) ?_;refine zg ?_;refine aQ (λhc0=>?_) (λhc0=>?_)
 .simp only[gO]at hc0;refine zg ?_;refine fK (bT (aw (D.int .i64) ?_) (aw (D.int .i64) ?_));all_goals rw[Wv hc0]
 simp only[gO]at hc0;have q0:¬¬(cQ m.r).1=0:=λh=>h hc0
 refine zg ?_;intro u0;refine aQ (λhc1=>?_) (λhc1=>?_)
 .simp only[gO]at hc1;have hz:=Wt q0 ae;refine zg ?_;refine fK (bT (aw (D.int .i64) ?_) (aw (D.int .i64) ?_));all_goals rw[hz]
 simp only[gO]at hc1;have q1:¬(8<m.ps.length\/8<m.hs.length):=ae;refine zg ?_;refine aQ (λhc2=>?_) (λhc2=>?_)
 .simp only[gO]at hc2;have hz:=Wu q0 q1 rfl hc2;refine zg ?_;refine fK (bT (aw (D.int .i64) ?_) (aw (D.int .i64) ?_));all_goals rw[hz]
 simp only[gO]at hc2;have hz:=Ws q0 q1 hc2 rfl;refine fE ?_;refine aF (hc:=hC m.hs hp0.2) ?_;refine zg ?_;refine fK (bT (aw (D.int .i64) ?_) (aw (D.int .i64) ?_));all_goals rw[hz]
def H6:aj:=bc 166
def w72 (hm:(Y.at 0).bU)(hA:C70 Y)(hB:C215 Y):zy (cw Y H6):=λr hp0=>by
 refine zc ?_ ?_<;>intro hc0
 .refine zg ?_;refine fK (bT (aw D.str ?_) (aw (D.int .i64) ?_));all_goals
   simp[ez,hc0]
 refine cX ?_;have hgd:=ki hc0;refine zg ?_;refine fK (bT (aw D.str ?_) (aw (D.int .i64) ?_));all_goals
  simp[ez,hc0]
def Pq:aj:=bc 122
def w74 (hm:(Y.at 0).bU)(hA:C72 Y)(hB:C220 Y):zz (cw Y Pq):=λr hp0=>by
 refine zc ?_ ?_<;>intro hc0
 .refine zg ?_;refine fK (bT (aw (D.int .u64) ?_) (aw (D.int .i64) ?_));all_goals
   simp[qY,hc0]
 refine fE ?_;refine aF (hc:=hB (ez r).1) (ha:=λ_=>aw (λd=>[d]) (tG (q:=λb:UInt8=>D.int .u8 b.toNat) (λ_=>rfl) ai)) (hp:=λ_=>⟨qe (q:=λb:UInt8=>D.int .u8 b.toNat) (λ_=>rfl) ai,trivial⟩) ?_;refine zg ?_;refine fK (bT (aw (D.int .u64) ?_) (aw (D.int .i64) ?_));all_goals
  simp[qY,hc0]
def Ib:aj:=bc 226
def w1012 (hm:(Y.at 0).bU)(hA:Vz Y)(hB:C356 Y):Er (cw Y Ib):=λl nm hp0=>by
 refine cO ?_;refine bI ?_;refine bm (env':=[_,_,⟨_,(.int _ _)⟩,_,_]) ?_;refine fY ?_;refine aP ?_;refine bI ?_;refine aF (hc:=hA (l) (by first|assumption|omega)) ?_;refine bI ?_;refine kV (.int _ _) ?_;refine kV (.int _ _) ?_;refine bI ?_;refine bI ?_;refine bm (env':=[_,_,_,⟨_,(.int _ _)⟩,_]) ?_;refine fY ?_;refine aP ?_;refine bI ?_;refine pf ?_;refine bm (env':=[_,_,_,_,⟨_,(.bool _)⟩]) ?_;refine dP ?_ ?_<;>intro hc0
 .exact absurd trivial hc0
 refine kB ?_;refine bm (env':=[_,_,⟨_,(.int _ _)⟩,_,_]) ?_;exact lU
def ZD:aj:=bc 191
def w905 (hm:(Y.at 0).bU)(hA:C955 Y):Kg (cw Y ZD):=λl nm=>by
 refine zc ?_ ?_<;>intro hc0
 .refine zr ?_;rw[show uT l nm=[]from ak hc0];rfl
 refine cX ?_;obtain⟨j,hj,hjl⟩:=(TJ l nm).resolve_left ae;refine zr ?_;rw[show uT l nm=l[j]!.of from by unfold uT;rw[ah hc0,hj,Int.toNat_natCast]];rfl
def PI:aj:=bc 186
def w902 (hm:(Y.at 0).bU):Kd (cw Y PI):=λa b=>by
 refine zr ?_;unfold eY;simp
end Go.Abs
end
