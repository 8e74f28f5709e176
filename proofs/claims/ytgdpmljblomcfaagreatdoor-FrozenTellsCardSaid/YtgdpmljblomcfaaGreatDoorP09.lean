/- A part of the proofs. -/
import Derived.Test.YtgdpmljblomcfaaGreatDoorP04
set_option linter.all false
set_option maxRecDepth 60000
set_option maxHeartbeats 2000000
noncomputable section
namespace Go.Abs
variable {Y:Ctx}(hm:(Y.at 0).bR)
def Ob:aj:=bc 70
def w349:tT (cu Y Ob):=fun s=>by
 refine zc ?_ ?_<;>intro hc0
 .refine zr ?_;symm;simp only[gr,eo,cK];rcases hc0 with h|h
  .subst h;exact Or.inl (Or.inl aG)
  .exact Or.inl ae
 refine zg ?_;have hP:gr s=bO (fun i=>Gp (at8 s i)) 0 s.length:=by
  have:=List.length_pos_iff.2 hc0.1;simp only[gr];rw[bz ae,bz ae];rfl
 refine zf hm (fun i=>[.e (.str s),.u 2,.e (.it 9),.u 4]) (fun i=>[(9,.iter s i)]) 10 (fun i=>i<=s.length/\gr s=bO (fun i=>Gp (at8 s i)) i s.length) (fun i=>s.length-i) ⟨ae,hP⟩ [(9,9)] ?_;rintro i ⟨hi,hr⟩;refine zg ?_;by_cases hnx:i<s.length
 .obtain⟨c,w,hdec,hw,hcw⟩:=wW s i hnx;refine HF c w (hp:=hnx) (hc:=hdec) ?_;refine zg ?_;refine aQ (t:=true) (fun _=>?_) (fun h=>ca);refine fQ ?_;refine lH ?_ hm;refine aO ?_;refine kP (.int _ _) ?_;refine bF ?_;refine bp (env':=[_,_,_,_,_,_,⟨_,(.int _ _)⟩,_]) ?_;refine lH ?_ hm;refine fC ?_;refine aO ?_;refine bF ?_;refine HC ?_;refine bF ?_;refine bF ?_;refine HD ?_;refine uU ?_;refine bF ?_;refine bp (env':=[_,_,_,_,_,_,_,⟨_,(.bool _)⟩]) ?_;refine dE ?_ ?_<;>intro hc2
  .refine zg ?_;refine Bw ?_ ?_<;>intro hc4
   .refine ez ?_;obtain⟨rfl,hat,-⟩:w=1/\(c:Int)=at8 s i/\c<128:=by
     rcases hcw with h|h
     .exact h
     .omega
    have hz:Gp (at8 s i)=true:=by
     simp only[Gp,jM,bK,dI,aN,bn];omega
    exact⟨i+1,⟨ae,by rw[hr,ay hnx,hz];rfl⟩,ae,(gtt [(9,9)])⟩
   refine zg ?_;refine rrrb ?_;first
    |(exfalso;omega)
    |(rw[hr,bB ae];done)
    |(
     have hz:Gp (at8 s i)=false:=by
      rcases hcw with⟨_,h,_⟩|⟨_,h⟩<;>(simp only[Gp,jM,bK,gC,eo,cK];omega)
     rw[hr,ay hnx,hz];rfl)
  refine zg ?_;refine dE ?_ ?_<;>intro hc3
  .refine zg ?_;refine Bw ?_ ?_<;>intro hc4
   .refine ez ?_;obtain⟨rfl,hat,-⟩:w=1/\(c:Int)=at8 s i/\c<128:=by
     rcases hcw with h|h
     .exact h
     .omega
    have hz:Gp (at8 s i)=true:=by
     simp only[Gp,jM,bK,dI,aN,bn];omega
    exact⟨i+1,⟨ae,by rw[hr,ay hnx,hz];rfl⟩,ae,(gtt [(9,9)])⟩
   refine zg ?_;refine zr ?_;first
    |(exfalso;omega)
    |(rw[hr,bB ae];done)
    |(
     have hz:Gp (at8 s i)=false:=by
      rcases hcw with⟨_,h,_⟩|⟨_,h⟩<;>(simp only[Gp,jM,bK,gC,eo,cK];omega)
     rw[hr,ay hnx,hz];rfl)
  refine zg ?_;refine Bw ?_ ?_<;>intro hc4
  .refine ez ?_;obtain⟨rfl,hat,-⟩:w=1/\(c:Int)=at8 s i/\c<128:=by
    rcases hcw with h|h
    .exact h
    .omega
   have hz:Gp (at8 s i)=true:=by
    simp only[Gp,jM,bK,dI,aN,bn];omega
   refine gh (i+1) [(9,9)] ?_;rw[hr,ay hnx,hz];rfl
  refine zg ?_;refine zr ?_;first
   |(exfalso;omega)
   |(rw[hr,bB ae];done)
   |(
    have hz:Gp (at8 s i)=false:=by
     rcases hcw with⟨_,h,_⟩|⟨_,h⟩<;>(simp only[Gp,jM,bK,gC,eo,cK];omega)
    rw[hr,ay hnx,hz];rfl)
 .refine HE (hp:=hnx) ?_;refine zg ?_;refine aQ (t:=false) (fun h=>ca) (fun _=>?_);refine zr ?_;first
   |(exfalso;omega)
   |(rw[hr,bB ae];done)
   |(
    have hz:Gp (at8 s i)=false:=by
     rcases hcw with⟨_,h,_⟩|⟨_,h⟩<;>(simp only[Gp,jM,bK,gC,eo,cK];omega)
    rw[hr,ay hnx,hz];rfl)
def Oa:aj:=bc 118
def w208:tI (cu Y Oa):=fun s=>by
 refine zc ?_ ?_<;>intro hc0
 .refine zr ?_;symm;simp only[dn];rcases hc0 with h|h
  .subst h;simp
  .rw[bI (by omega:¬s.length<=16)];simp
 refine zg ?_;have h0:=List.length_pos_iff.2 hc0.1;have hP:=acW s ae ae;refine zf hm (fun i=>[.e (.str s),.u 2,.e (.it 9),.u 9]) (fun i=>[(9,.iter s i)]) 10 (fun i=>i<=s.length/\dn s=bO (pe s) i s.length) (fun i=>s.length-i) ⟨ae,hP⟩ [(9,9)] ?_;rintro i ⟨hi,hr⟩;refine zg ?_;by_cases hnx:i<s.length
 .obtain⟨c,w,hdec,hw,hcw⟩:=wW s i hnx;refine HF c w (hp:=hnx) (hc:=hdec) ?_;refine zg ?_;refine aQ (t:=true) (fun _=>?_) (fun h=>ca);refine fQ ?_;refine lH ?_ hm;refine aO ?_;refine kP (.int _ _) ?_;refine kP (.int _ _) ?_;refine bF ?_;refine bF ?_;refine bp (env':=[_,_,_,_,_,_,⟨_,(.int _ _)⟩,_,_,⟨_,(.int _ _)⟩,_,_,_]) ?_;refine lH ?_ hm;refine aO ?_;refine bF ?_;refine HC ?_;refine bF ?_;refine bF ?_;refine HD ?_;refine uU ?_;refine bF ?_;refine bp (env':=[_,_,_,_,_,_,_,⟨_,(.bool _)⟩,_,_,_,_,_]) ?_;refine Bw ?_ ?_<;>intro hc2
  .refine ez ?_;obtain⟨rfl,hat,-⟩:w=1/\(c:Int)=at8 s i/\c<128:=by
    rcases hcw with h|h
    .exact h
    .omega
   have hz:pe s i=true:=by
    simp only[pe,jM,bK,dI,aN,cG,bn,cK];omega
   exact⟨i+1,⟨ae,by rw[hr,ay hnx,hz];rfl⟩,ae,(gtt [(9,9)])⟩
  refine zg ?_;refine Bw ?_ ?_<;>intro hc3
  .refine zg ?_;refine Bw ?_ ?_<;>intro hc4
   .refine zg ?_;refine rrrb ?_;first
     |(exfalso;omega)
     |(rw[hr,bB ae];done)
     |(have hz:pe s i=false:=by
        rcases hcw with⟨_,h,_⟩|⟨_,h⟩<;>(simp only[pe,jM,bK,gC,eo,dH,bn,cK];omega)
       rw[hr,ay hnx,hz];rfl)
   refine ez ?_;obtain⟨rfl,hat,-⟩:w=1/\(c:Int)=at8 s i/\c<128:=by
    rcases hcw with h|h
    .exact h
    .omega
   have hz:pe s i=true:=by
    simp only[pe,jM,bK,dI,aN,cG,bn,cK];omega
   refine gh (i+1) [(9,9)] ?_;rw[hr,ay hnx,hz];rfl
  refine zg ?_;refine Bw ?_ ?_<;>intro hc5
  .refine fG ?_;refine An (i-1) ?_;refine zg ?_;refine Bw ?_ ?_<;>intro hc6
   .refine zr ?_;first
     |(exfalso;omega)
     |(rw[hr,bB ae];done)
     |(have hz:pe s i=false:=by
        rcases hcw with⟨_,h,_⟩|⟨_,h⟩<;>(simp only[pe,jM,bK,gC,eo,dH,bn,cK];omega)
       rw[hr,ay hnx,hz];rfl)
   refine zg ?_;obtain⟨rfl,hat,-⟩:w=1/\(c:Int)=at8 s i/\c<128:=by
    rcases hcw with h|h
    .exact h
    .omega
   have hz:pe s i=true:=by
    simp only[pe,jM,bK,dI,aN,cG,bn,cK];omega
   refine gh (i+1) [(9,9)] ?_;rw[hr,ay hnx,hz];rfl
  refine zg ?_;refine zr ?_;first
   |(exfalso;omega)
   |(rw[hr,bB ae];done)
   |(have hz:pe s i=false:=by
      rcases hcw with⟨_,h,_⟩|⟨_,h⟩<;>(simp only[pe,jM,bK,gC,eo,dH,bn,cK];omega)
     rw[hr,ay hnx,hz];rfl)
 .refine HE (hp:=hnx) ?_;refine zg ?_;refine aQ (t:=false) (fun h=>ca) (fun _=>?_);refine zr ?_;first
   |(exfalso;omega)
   |(rw[hr,bB ae];done)
   |(have hz:pe s i=false:=by
      rcases hcw with⟨_,h,_⟩|⟨_,h⟩<;>(simp only[pe,jM,bK,gC,eo,dH,bn,cK];omega)
     rw[hr,ay hnx,hz];rfl)
def G4:aj:=bc 160
def w658:uk (cu Y G4):=fun s=>by
 refine Bq ?_;refine An 0 (hb:=fun h=>by simp at h;exact List.length_pos_iff.2 h.1) ?_;refine zc ?_ ?_<;>intro hc0
 .refine zg ?_;refine fw (bX (aw (D.int .i64) ?_) (aw D.bool ?_));all_goals
   have:oc s=false:=by
    rw[XK];rcases hc0 with(h|h)|h
    .subst h;simp
    .rw[bI (by omega:¬s.length<=4)];simp
    .rw[bz (by omega:1<s.length),bz h.1];simp
   simp[C6,this]
 refine zg ?_;have h0:=List.length_pos_iff.2 hc0.1.1;have hP:oc s=bO (fun i=>bK (at8 s i)) 0 s.length:=by
  rw[XK,bz (by omega:1<=s.length),bz (by omega:s.length<=4)];rcases hc0.2 with h|h
  .rw[bI h,Bool.and_false];rfl
  .rw[bI (by omega:¬1<s.length)];rfl
 refine zf hm (fun i=>[.e (.str s),.u 3,.e (.it 21),.u 4,.i (eO (s.take i):Nat)]) (fun i=>[(21,.iter s i)]) 22 (fun i=>i<=s.length/\s.length<=4/\oc s=bO (fun i=>bK (at8 s i)) i s.length) (fun i=>s.length-i) ⟨ae,ae,hP⟩ [(21,21)] ?_;rintro i ⟨hi,h9,hr⟩;refine zg ?_;by_cases hnx:i<s.length
 .obtain⟨c,w,hdec,hw,hcw⟩:=wW s i hnx;refine HF c w (hp:=hnx) (hc:=hdec) ?_;refine zg ?_;refine aQ (t:=true) (fun _=>?_) (fun h=>ca);refine zc ?_ ?_<;>intro hc2
  .refine cH ?_;obtain⟨rfl,hat,-⟩:w=1/\(c:Int)=at8 s i/\c<128:=by
    rcases hcw with h|h
    .exact h
    .omega
   have hn:=xF s i ae;have hn2:=Ah s i ae;have h256:=GK s i;refine cH ?_;refine xY ?_;refine cH ?_;refine HG ((c:Int) -48) (hb:=fun _=>IntWalk.i32_in _ ae) ?_;refine pY ((c:Int) -48) (hb:=fun _=>IntWalk.i64_in _ ae) ?_;refine dx ?_;rw[show 10*(eO (s.take i):Int)+((c:Int) -48)=(eO (s.take (i+1)):Nat)by omega];refine zg ?_;have hz:bK (at8 s i)=true:=by
    simp only[bK,aN,bn];omega
   refine zl (i+1) [(21,21)] ?_;exact⟨ae,h9,by rw[hr,ay ae,hz];rfl⟩
  refine zg ?_;refine fw (bX (aw (D.int .i64) ?_) (aw D.bool ?_));all_goals
   have hz:bK (at8 s i)=false:=by
    rcases hcw with⟨_,h,_⟩|⟨_,h⟩<;>(simp only[bK,eo,cK];omega)
   have:oc s=false:=by rw[hr,ay ae,hz];rfl
   simp[C6,this]
 .refine HE (hp:=hnx) ?_;refine zg ?_;refine aQ (t:=false) (fun h=>ca) (fun _=>?_);refine ov ?_;refine LQ.out ?_;refine aO ?_;refine bF ?_;refine bF ?_;refine HD ?_;refine bF ?_;refine bF ?_;refine bp (env':=[_,⟨_,(.int _ _)⟩,⟨_,(.bool _)⟩,_,_,_,_,_,_,_]) ?_;refine wp_ret ?_;refine fw (bX (aw (D.int .i64) ?_) (aw D.bool ?_));all_goals
   have this:oc s=true:=by rw[hr,bB ae]
   have ht:s.take i=s:=eU ae;have h9:=this;simp only[oc,aN,bn]at h9;have h99:=h9.2;rw[ht];first
   |(simp only[C6,this];rfl)
   |(rw[this,bn];omega)
def HR:aj:=bc 53
def w46 (hA:C158 Y)(hB:C183 Y):P4 (cu Y HR):=fun w hp0=>by
 refine pA ?_;refine bh 0 ?_ (he:=mZ) (hm:=mZ);refine zg ?_;refine fP hm (ι:=Nat) (fun i=>[.un,⟨true,.ptr 0 3 0 0⟩,⟨true,.int .i64 (i:Nat)⟩,⟨true,.ref 1 [b6.D w] 0 0⟩,.un,.un,.un,.un,.un,.un,.un,.un,.un,⟨true,.ptr 1 3 0 0⟩]) (fun i=>[(0,.buf 3 [.agg [.aJ,.aJ,.aJ]]),(1,.buf 3 [.agg [.own 2 1 0 (iO w.us i).length,.own 3 1 0 (eu w.us i).length,.own 4 1 0 (jx w.us i).length]]),(2,.buf 1 ((iO w.us i).map (D.int .i64))),(3,.buf 1 ((eu w.us i).map qd)),(4,.buf 1 ((jx w.us i).map oF))]) 9 (fun i=>i<=w.us.length) (fun i=>w.us.length-i) 0 ae (aV.to [(1,0),(2,1)] ah ah eD (by repeat(first|exact bo.nil|refine bo.ni 2 ah ah (by exact⟨_,[],rfl,⟨_,rfl,_,_,rfl,Or.inr ⟨2,1,0,rfl⟩,_,_,rfl,Or.inr ⟨3,1,0,rfl⟩,_,_,rfl,Or.inr ⟨4,1,0,rfl⟩,rfl⟩,rfl⟩) ?_|refine bo.nl 1 ah ah ah dV ?_|refine bo.mt ah ah ah ah ?_))) ?_;intro i hi;have hfl:=N5 w.us i;have hnl:=OE w.us i;have hbl:=S3 w.us i;refine zg ?_;intro u0;refine dE ?_ ?_<;>intro hc0
 .refine zg ?_;have hil:i<w.us.length:=ae;have hu:=hp0.1.1 _ (aq hil);have hu16:=hu.1;refine zf hm (fun j=>[.u 1,.p 0 3,.i i,.e (.ref 1 [b6.D w] 0 0),.u 1,.i j,.u 5,.o 5 1 (eG w.us (w.us[i]!.cands.take j)).length,.o 6 1 (jy w.us (w.us[i]!.cands.take j)).length,.p 1 3]) (fun j=>[(0,.buf 3 [.agg [.aJ,.aJ,.aJ]]),(1,.buf 3 [.agg [.own 2 1 0 (iO w.us i).length,.own 3 1 0 (eu w.us i).length,.own 4 1 0 (jx w.us i).length]]),(2,.buf 1 ((iO w.us i).map (D.int .i64))),(3,.buf 1 ((eu w.us i).map qd)),(4,.buf 1 ((jx w.us i).map oF)),(5,.buf 1 ((eG w.us (w.us[i]!.cands.take j)).map oF)),(6,.buf 1 ((jy w.us (w.us[i]!.cands.take j)).map Ic))]) 9 (fun j=>j<=w.us[i]!.cands.length) (fun j=>w.us[i]!.cands.length-j) ae [(0,0),(1,1),(2,2),(3,3),(4,4)] ?_;intro j hj;have hnl1:=OH w.us w.us[i]!.cands j;have hbl1:=S5 w.us w.us[i]!.cands j;refine zg ?_;intro u1;refine dE ?_ ?_<;>intro hc1
  .refine dx ?_;have hcs:=hu.2 _ (aq (show j<w.us[i]!.cands.length by omega));have hfw:=hp0.2 _ (aq hil) _ (aq (show j<w.us[i]!.cands.length by omega));refine Fa ?_;refine bh 27 ?_ (he:=mZ) (hm:=mZ);refine zg ?_;refine zf hm (fun k=>[.u 1,.p 0 3,.i i,.e (.ref 1 [b6.D w] 0 0),.u 1,.i j,.u 1,.i k,.e (.ref 8 [ei.D w.us[i]!.cands[j]!] 0 0),.u 1,.o 7 1 (kR w.us (w.us[i]!.cands[j]!.needs.take k)).length,.o 5 1 (eG w.us (w.us[i]!.cands.take j)).length,.o 6 1 (jy w.us (w.us[i]!.cands.take j)).length,.p 1 3]) (fun k=>[(0,.buf 3 [.agg [.aJ,.aJ,.aJ]]),(1,.buf 3 [.agg [.own 2 1 0 (iO w.us i).length,.own 3 1 0 (eu w.us i).length,.own 4 1 0 (jx w.us i).length]]),(2,.buf 1 ((iO w.us i).map (D.int .i64))),(3,.buf 1 ((eu w.us i).map qd)),(4,.buf 1 ((jx w.us i).map oF)),(5,.buf 1 ((eG w.us (w.us[i]!.cands.take j)).map oF)),(6,.buf 1 ((jy w.us (w.us[i]!.cands.take j)).map Ic)),(7,.buf 1 ((kR w.us (w.us[i]!.cands[j]!.needs.take k)).map Ic))]) 9 (fun k=>k<=w.us[i]!.cands[j]!.needs.length) (fun k=>w.us[i]!.cands[j]!.needs.length-k) ae [(0,0),(1,1),(2,2),(3,3),(4,4),(5,5),(6,6)] ?_;intro k hk;have hrl:=Ux w.us w.us[i]!.cands[j]!.needs k;refine zg ?_;intro u2;refine dE ?_ ?_<;>intro hc2
   .refine wA ?_;refine c8 (v:=.sl 3 (((w.us[i]!.cands[j]!.needs)[k]!).map Want.D)) (hi:=fun hf=>cr) ?_;refine aB (hc:=hB (w) ((w.us[i]!.cands[j]!.needs)[k]!) aap) ?_;refine ba [Ic (ew w.us w.us[i]!.cands[j]!.needs[k]!)] ?_;refine cJ (q:=Ic) (xs:=kR w.us (w.us[i]!.cands[j]!.needs.take k)) (e:=ew w.us w.us[i]!.cands[j]!.needs[k]!) (hb:=ae) ?_;refine zg ?_;rw[Uw ae];exact iq (k+1) [(23,7),(0,0),(1,1),(2,2),(3,3),(4,4),(5,5),(6,6)]
   refine cx ?_;obtain rfl:k=w.us[i]!.cands[j]!.needs.length:=ae;rw[List.take_length];refine bh 7 ?_ (he:=mZ) (hm:=mZ);refine dx ?_;refine ba [oF (kR w.us w.us[i]!.cands[j]!.needs)] ?_;refine cJ (q:=oF) (xs:=eG w.us (w.us[i]!.cands.take j)) (e:=kR w.us w.us[i]!.cands[j]!.needs) (hb:=ae) ?_;refine cH ?_;refine OW (v:=b6.D w) ?_;refine cH ?_;refine OW (v:=.sl 3 (w.us[i]!.cands[j]!.bars.map Want.D)) ?_;refine aB (hc:=hB (w) (w.us[i]!.cands[j]!.bars) aap) ?_;refine ba [Ic (ew w.us w.us[i]!.cands[j]!.bars)] ?_;refine cJ (q:=Ic) (xs:=jy w.us (w.us[i]!.cands.take j)) (e:=ew w.us w.us[i]!.cands[j]!.bars) (hb:=ae) ?_;refine zg ?_;rw[OG ae,S4 ae];exact iq (j+1) [(17,5),(24,6),(0,0),(1,1),(2,2),(3,3),(4,4)]
  refine cx ?_;obtain rfl:j=w.us[i]!.cands.length:=ae;rw[List.take_length];refine bh 5 ?_ (he:=mZ) (hm:=mZ);refine bh 6 ?_ (he:=mZ) (hm:=mZ);refine jS ?_;refine ba [.int .i64 (nR w.us ((i:Nat):Int))] ?_;refine cJ (q:=D.int .i64) (xs:=iO w.us i) (e:=nR w.us ((i:Nat):Int)) (hb:=ae) ?_;refine cH ?_;refine zh (v:=.own 3 1 0 (eu w.us i).length) ?_;refine cH ?_;refine ba [qd (eG w.us w.us[i]!.cands)] ?_;refine cJ (q:=qd) (xs:=eu w.us i) (e:=eG w.us w.us[i]!.cands) (hb:=ae) ?_;refine cH ?_;refine zh (v:=.own 4 1 0 (jx w.us i).length) ?_;refine cH ?_;refine ba [oF (jy w.us w.us[i]!.cands)] ?_;refine cJ (q:=oF) (xs:=jx w.us i) (e:=jy w.us w.us[i]!.cands) (hb:=ae) ?_;refine cH ?_;refine bS (.agg [.own 24 1 0 (iO w.us i++[nR w.us ((i:Nat):Int)]).length,.own 3 1 0 (eu w.us i).length,.own 4 1 0 (jx w.us i).length]) (he:=cW) ?_;refine cH ?_;refine bS (.agg [.own 24 1 0 (iO w.us i++[nR w.us ((i:Nat):Int)]).length,.own 29 1 0 (eu w.us i++[eG w.us w.us[i]!.cands]).length,.own 4 1 0 (jx w.us i).length]) (he:=cW) ?_;refine cH ?_;refine bS (.agg [.own 24 1 0 (iO w.us i++[nR w.us ((i:Nat):Int)]).length,.own 29 1 0 (eu w.us i++[eG w.us w.us[i]!.cands]).length,.own 34 1 0 (jx w.us i++[jy w.us w.us[i]!.cands]).length]) (he:=cW) ?_;refine zg ?_;rw[N4,OD ae,S2 ae];exact iq (i+1) [(24,2),(29,3),(34,4),(0,0),(1,1)]
 refine cx ?_;obtain rfl:i=w.us.length:=ae;refine bh 2 ?_ (he:=mZ) (hm:=mZ);refine bh 3 ?_ (he:=mZ) (hm:=mZ);refine bh 4 ?_ (he:=mZ) (hm:=mZ);refine cH ?_;refine mc (d:=(dy w.us).D) ?_;exact mr
def O2:aj:=bc 84
def w219 (hA:C249 Y)(hB:C316 Y)(hC:C461 Y)(hD:C462 Y):tL (cu Y O2):=fun r hp0=>by
 show dp _ _ _ [⟨_,_⟩,_,_,_,_,_,_,_,_,_,_,_,_] _;have hft:=tn hp0;have q0:=hft.nm;have q00:=Eb r.v hft.v;refine aO ?_;refine uK ?_;refine aB (hc:=hB r.v hft.v) ?_;refine zg ?_;refine fP hm (ι:=Nat) (fun i=>[.un,.un,⟨true,.ptr 0 9 0 0⟩,⟨true,.int .i64 (i:Nat)⟩,.un,⟨true,.str (ku r i)⟩,.un,.un,.un,.un,.un,.un,.un]) (fun i=>[(0,.buf 9 [Rec.D r])]) 13 (fun i=>i<=r.needs.length) (fun i=>r.needs.length-i) 0 ae (aV.to [(0,0)] ah ah (by repeat(first|exact fk.nil|refine fk.un ?_|refine fk.eq ah ?_|refine fk.nl (aw D.str (by rw[Zy];simp[uS,cw,cv,qe])) ah ?_)) Dh) ?_;intro i hi;have q1:=Ig hft i hi;refine zg ?_;intro u0;refine dE ?_ ?_<;>intro hc0
 .refine dx ?_;have hnf:=hft.n _ (aq (show i<r.needs.length by omega));have hn3:=hnf.1.1;refine zg ?_;refine zf hm (fun j=>[.u 2,.p 0 9,.i i,.u 1,.e (.str (ku r i++dP r.needs[i]! j)),.i j,.u 6]) (fun j=>[(0,.buf 9 [Rec.D r])]) 22 (fun j=>j<=r.needs[i]!.any.length) (fun j=>r.needs[i]!.any.length-j) ae [(0,0)] ?_;intro j hj;have q2:=FD hnf j ae;refine zg ?_;intro u1;refine dE ?_ ?_<;>intro hc1
  .refine dx ?_;have hwf:=hnf.1.2 _ (aq (show j<r.needs[i]!.any.length by omega));have q3:=zz hwf;refine zg ?_;exact⟨j+1,ae,ae,(aV.to [(0,0)] ah ah (by repeat(first|exact fk.nil|refine fk.un ?_|refine fk.eq ah ?_|refine fk.nl (aw D.str (by rw[n9 ae,fj])) ah ?_)) Dh)⟩
  refine dx ?_;have q4:=nJ hnf.2.1;have q5:=hnf.2.2;refine qo ?_;refine aB (hc:=hD r.needs[i]!.when' hnf.2.1) ?_;refine zc ?_ ?_<;>intro hc2
  .refine zg ?_;have hq:ku r (i+1)=ku r i++(dP r.needs[i]! j++kn r.needs[i]!.when'++xN r.needs[i]!.option):=by rw[mj ae,y7 (j:=j) ae]
   have ho:xN r.needs[i]!.option=[111,112,116,105,111,110,32]++r.needs[i]!.option++[10]:=by rw[xN,ai hc2];simp[cw,cv,nA]
   exact⟨i+1,ae,ae,(aV.to [(0,0)] ah ah (by repeat(first|exact fk.nil|refine fk.un ?_|refine fk.eq ah ?_|refine fk.nl (aw D.str (by rw[hq,ho];simp only[fj])) ah ?_)) Dh)⟩
  refine zg ?_;have hq:ku r (i+1)=ku r i++(dP r.needs[i]! j++kn r.needs[i]!.when'++xN r.needs[i]!.option):=by rw[mj ae,y7 (j:=j) ae]
  have ho:xN r.needs[i]!.option=[]:=by rw[xN,ak hc2]
  exact⟨i+1,ae,ae,(aV.to [(0,0)] ah ah (by repeat(first|exact fk.nil|refine fk.un ?_|refine fk.eq ah ?_|refine fk.nl (aw D.str (by rw[hq,ho];simp only[fj,gD])) ah ?_)) Dh)⟩
 refine ez ?_;have h33:i=r.needs.length:=ae;subst h33;refine zg ?_;refine fP hm (ι:=Nat) (fun i=>[.un,.un,⟨true,.ptr 0 9 0 0⟩,.un,.un,⟨true,.str (D6 r i)⟩,.un,.un,.un,⟨true,.int .i64 (i:Nat)⟩,.un,.un,.un]) (fun i=>[(0,.buf 9 [Rec.D r])]) 19 (fun i=>i<=r.bars.length) (fun i=>r.bars.length-i) 0 ae (aV.to [(0,0)] ah ah (by repeat(first|exact fk.nil|refine fk.un ?_|refine fk.eq ah ?_|refine fk.nl (aw D.str (by rw[Zz])) ah ?_)) Dh) ?_;intro i hi;have q1:=Ih hft i hi;refine zg ?_;intro u2;refine dE ?_ ?_<;>intro hc3
 .refine dx ?_;have q4:=hft.b _ (aq (show i<r.bars.length by omega));have q5:=q4.1;have q6:=q4.2.1.len;have q7:=nJ q4.2.2.len;refine fG ?_;refine uK ?_;refine aB (hc:=hD r.bars[i]!.when' q4.2.2.len) ?_;refine zg ?_;have hq:=M3 (r:=r) (i:=i) ae;exact⟨i+1,ae,ae,(aV.to [(0,0)] ah ah (by repeat(first|exact fk.nil|refine fk.un ?_|refine fk.eq ah ?_|refine fk.nl (aw D.str (by rw[hq];simp[GM,cw,cv,zy])) ah ?_)) Dh)⟩
 refine ez ?_;have h33:i=r.bars.length:=ae;subst h33;refine zg ?_;refine fP hm (ι:=Nat) (fun i=>[.un,.un,⟨true,.ptr 0 9 0 0⟩,.un,.un,⟨true,.str (Gk r i)⟩,.un,.un,.un,.un,.un,⟨true,.int .i64 (i:Nat)⟩,.un]) (fun i=>[(0,.buf 9 [Rec.D r])]) 25 (fun i=>i<=r.feats.length) (fun i=>r.feats.length-i) 0 ae (aV.to [(0,0)] ah ah (by repeat(first|exact fk.nil|refine fk.un ?_|refine fk.eq ah ?_|refine fk.nl (aw D.str (by rw[ZA])) ah ?_)) Dh) ?_;intro i hi;have q1:=Si hft i hi;refine zg ?_;intro u3;refine dE ?_ ?_<;>intro hc4
 .refine dx ?_;have q4:=hft.f _ (aq (show i<r.feats.length by omega));have q5:=Fq q4;have q6:=q4.2;simp only[w9,cw,ct,bE,b7]at q5;refine qo ?_;refine ba [(.str _),(.str _)] ?_;refine jS ?_;refine pf (xs:=[jQ,r.feats[i]!.name]) (ys:=r.feats[i]!.of) (he:=lT.sl) (hb:=ep) ?_;refine aB (hc:=hA ([jQ,r.feats[i]!.name]++r.feats[i]!.of) 32 ae) (ha:=fun _=>aw (fun d=>[d,D.int .u8 32]) (tD (q:=D.str) (fun _=>rfl) ah)) (hp:=fun _=>⟨qf (q:=D.str) (fun _=>rfl) ah,rfl,trivial⟩) ?_;refine OT (hb:=fun _=>by first|omega|(simp only[ct,bE,b7];omega)) ?_;refine zg ?_;have hq:=M4 (r:=r) (i:=i) ae;exact⟨i+1,ae,ae,(aV.to [(0,0)] ah ah (by repeat(first|exact fk.nil|refine fk.un ?_|refine fk.eq ah ?_|refine fk.nl (aw D.str (by rw[hq];simp[w9,cw])) ah ?_)) Dh)⟩
 refine dx ?_;have h33:i=r.feats.length:=ae;subst h33;refine zr ?_;exact Ii r
def Pc:aj:=bc 232
def w1014 (hA:U3 Y)(hB:C374 Y)(hC:ad9 Y)(hD:aej Y):En (cu Y Pc):=fun l nm hp0=>by
 refine cH ?_;have hya:=yy hp0;refine xX ?_;refine bF ?_;refine bp (env':=[_,_,⟨_,_⟩,⟨_,(.int _ _)⟩,_,_,_,_,_,_,_,_,_]) ?_;refine fC ?_;refine aO ?_;refine bF ?_;refine aB (hc:=hA (l) (by first|assumption|omega)) ?_;refine bF ?_;refine kP (.int _ _) ?_;refine kP (.int _ _) ?_;refine bF ?_;refine bF ?_;refine bp (env':=[_,_,_,_,⟨_,(.int _ _)⟩,_,_,_,_,_,_,_,_]) ?_;refine fC ?_;refine aO ?_;refine bF ?_;refine pg ?_;refine bp (env':=[_,_,_,_,_,⟨_,(.bool _)⟩,_,_,_,_,_,_,_]) ?_;refine dE ?_ ?_<;>intro hc0
 .exact absurd trivial hc0
 refine ez ?_;refine bS _ ?_;refine bp (env':=[_,_,_,_,_,_,_,_,_,_,_,⟨_,_⟩,_]) ?_;refine dx ?_;refine bp (env':=[_,_,_,_,_,_,⟨_,(.int _ _)⟩,_,_,_,_,_,_]) ?_;refine zf hm (fun i=>[.m 11 l gV.D,.e (.str nm),.p 1 2,.u 3,.i i,.u 4,.p 0 2,.u 1]) (fun i=>[(0,.buf 2 [cy.D (if i=0 then pD else kI l nm)]),(1,.buf 2 [.agg [.aJ,.aJ]])]) 15 (fun i=>i<=l.length) (fun i=>l.length-i) ae [(12,0),(0,1)] ?_;intro i hi;refine zg ?_;intro u0;refine dE ?_ ?_<;>intro hc1
 .refine dx ?_;obtain rfl:i=0:=by have:=hya.1;omega
  obtain⟨hyp1,hyp2,hyp3,hyp4⟩:=tE hp0 (i:=0) ae;have hmi:=hya.2 0 ae;rw[ak rfl];refine zg ?_;refine Z0 hm (fun k=>[.m 11 l gV.D,.e (.str nm),.p 1 2,.u 3,.i 0,.u 1,.i k,.u 2,.p 0 2,.u 1]) (fun k=>[(0,.buf 2 [cy.D (if k=0 then pD else kI l nm)]),(1,.buf 2 [.agg [.aJ,.aJ]])]) 20 (fun k=>k<=l[0]!.hs.length) (fun k=>l[0]!.hs.length-k) ae [(0,0),(1,1)] ?_;intro k hk;refine fC ?_;refine aO ?_;refine bF ?_;refine bF ?_;refine bF ?_;refine cz (0) (hj:=fun hf=>cr) (hb:=fun hf=>cr) ?_;refine Am ?_;refine c8 (v:=.sl 2 (l[0]!.hs.map kv.D)) (hi:=fun _=>ae) ?_;refine Dl fun u1=>?_;specialize u1 rfl rfl
  refine zi ?_;refine bp (env':=[_,_,_,_,_,_,_,_,_,⟨_,(.bool _)⟩,_,_,_]) ?_;refine dE ?_ ?_<;>intro hc2
  .refine fQ ?_;refine ml ?_ hm;refine aO ?_;have hk0:k=0:=ae;rw[ak hk0];refine bF ?_;refine bF ?_;refine cz (0) (hj:=fun hf=>cr) (hb:=fun hf=>cr) ?_;refine Am ?_;refine c8 (v:=.sl 2 (l[0]!.hs.map kv.D)) (hi:=fun _=>ae) ?_;refine bF ?_;refine cz (k) (hj:=fun hf=>cr) (hb:=fun hf=>cr) ?_;refine Am ?_;refine c8 (v:=.str (l[0]!.hs)[k]!.name) (hi:=fun hf=>cr) ?_;refine bF ?_;refine Yz ?_;refine bp (env':=[_,_,_,_,_,_,_,_,_,_,⟨_,(.bool _)⟩,_,_]) ?_;refine Bw ?_ ?_<;>intro hc3
   .refine aO ?_;refine bF ?_;refine bF ?_;refine cz (0) (hj:=fun hf=>cr) (hb:=fun hf=>cr) ?_;refine Am ?_;refine c8 (v:=.sl 2 (l[0]!.hs.map kv.D)) (hi:=fun _=>ae) ?_;refine bF ?_;refine cz (k) (hj:=fun hf=>cr) (hb:=fun hf=>cr) ?_;refine Am ?_;refine c8 (v:=.str (l[0]!.hs)[k]!.range) (hi:=fun hf=>cr) ?_;refine aB (hc:=hC l[0]!.hs[k]!.range (hmi.1.2.2 _ (aq ae))) ?_;refine bF ?_;refine kP (cy.D _) ?_;refine kP (.int _ _) ?_;refine xX ?_;refine bS _ ?_;refine bF ?_;refine bp (env':=[_,_,_,_,_,_,_,_,_,_,_,_,⟨_,_⟩]) ?_;refine po ?_;refine mc (d:=cy.D pD) ?_;refine mc (d:=cy.D (eR l[0]!.hs[k]!.range)) ?_;refine aB (hc:=hD (eR l[0]!.hs[k]!.range) (qT _)) ?_;refine bS (cy.D (eR l[0]!.hs[k]!.range)) (he:=cW) ?_;refine nw (env':=[_,_,_,_,_,_,_,_,_,_,_,_,_]) ?_;refine BQ.normal ?_;refine po ?_;refine bF ?_;refine lO (hb:=fun hf=>cr) ?_;refine bF ?_;refine nw (env':=[_,_,_,_,_,_,_,_,⟨_,(.int _ _)⟩,_,_,_,_]) ?_;refine Bs.normal ?_;rw[<-aiw hk0 ae hc3];exact⟨k+1,ae,ae,(aV.to [(0,0),(1,1)] ah ah eD Qb)⟩
   refine wp_skip ?_;refine BQ.normal ?_;refine po ?_;refine bF ?_;refine lO (hb:=fun hf=>cr) ?_;refine bF ?_;refine nw (env':=[_,_,_,_,_,_,_,_,⟨_,(.int _ _)⟩,_,_,_,_]) ?_;refine Bs.normal ?_;rw[<-aiv hk0 hc3];exact⟨k+1,ae,ae,(aV.to [(0,0),(1,1)] ah ah eD Qb)⟩
  refine ov ?_;refine Bs.out ?_;refine BQ.normal ?_;refine po ?_;refine bF ?_;refine lO (hb:=fun hf=>cr) ?_;refine bF ?_;refine nw (env':=[_,_,_,_,_,_,⟨_,(.int _ _)⟩,_,_,_,_,_,_]) ?_;refine LQ.normal ?_;rw[show(if k=0 then pD else kI l nm)=kI l nm from aiu ae];exact iq (0+1) [(0,0),(1,1)]
 refine cx ?_;rw[ai (show ¬i=0 by have:=hya.1;omega)];refine cx ?_;refine bS _ (he:=cW) ?_;exact mr
def Pj:aj:=bc 194
def w906 (hA:C907 Y)(hB:C908 Y)(hC:UZ Y):JW (cu Y Pj):=fun r e nm ft hp0=>by
 refine cH ?_;have hns:=gE hp0.1;refine zg ?_;refine zf hm (fun i=>[.u 2,.e (.str nm),.e (.str ft),.u 1,.i i,.p 1 9,.u 2,.p 2 3,.u 2,.o 0 1 ((iT (r.needs.take i) e nm ft)).length]) (fun i=>[(0,.buf 1 (((iT (r.needs.take i) e nm ft)).map dR)),(1,.buf 9 [Rec.D r]),(2,.buf 3 [Env.D e])]) 5 (fun i=>i<=r.needs.length) (fun i=>r.needs.length-i) ae [(0,1),(1,2)] ?_;intro i hi;have hol:=(zd (ns:=r.needs.take i) (e:=e) (nm:=nm) (ft:=ft) fun n hn=>hns.2 n (D3 hn)).1;rw[eg]at hol;refine zg ?_;intro u0;refine dE ?_ ?_<;>intro hc0
 .refine wA ?_;refine bS _ ?_;refine dx ?_;have hna:=(hns.2 _ (aq (show i<r.needs.length by omega))).1;have hrl:=(tx (hns.2 _ (aq (show i<r.needs.length by omega)))).1;refine qo ?_;intro u1;refine cz 0 (hj:=fun _=>rfl) (hb:=fun _=>ae) ?_;refine wA ?_;refine bQ (hc:=fun hf=>hA _ (e) ?_) ?_;rotate_left;first|assumption|omega|exact⟨hns.2 _ (aq ae),hp0.1.2.2.1 _ (aq ae)⟩|exact⟨(hp0.1.2.2.1 _ (aq ae)).2.1,hp0.2⟩|exact((hp0.1.2.2.1 _ (aq ae)).1 _ (aq ae)).1.2
  refine zc ?_ ?_<;>intro hc1
  .refine zg ?_;rw[show(iT (r.needs.take i) e nm ft)=iT (r.needs.take (i+1)) e nm ft from by rw[<-Hz ae,adl hc1,gD]];exact iq (i+1) [(0,0),(1,1),(2,2)]
  refine zc ?_ ?_<;>intro hc2
  .refine dx ?_;refine aB (hc:=hC _ ?_) ?_;rotate_left;first|assumption|omega|exact⟨hns.2 _ (aq ae),hp0.1.2.2.1 _ (aq ae)⟩|exact⟨(hp0.1.2.2.1 _ (aq ae)).2.1,hp0.2⟩|exact((hp0.1.2.2.1 _ (aq ae)).1 _ (aq ae)).1.2
   refine pf (q:=dR) (xs:=(iT (r.needs.take i) e nm ft)) (ys:=iG r.needs[i]!) (he:=lT.sl) (hb:=ae) ?_;refine jS ?_;refine bg (Key.D (⟨nm,ft⟩)) ?_;refine cx ?_;refine cz 0 (hj:=fun _=>rfl) (hb:=fun _=>ae) ?_;refine cx ?_;refine aB (hc:=hB (r.needs[i]!.any[0]!.range) aah) ?_;refine bg (jv.D (⟨⟨nm,ft⟩,eR r.needs[i]!.any[0]!.range⟩:jv)) ?_;refine ba [jv.D (⟨⟨nm,ft⟩,eR r.needs[i]!.any[0]!.range⟩:jv)] ?_;refine ba [.own 56 4 0 1] ?_;refine rv (((iT (r.needs.take i) e nm ft)++iG r.needs[i]!).map dR++[.own 56 4 0 1]) (n:=(((iT (r.needs.take i) e nm ft)++iG r.needs[i]!)++[[(⟨⟨nm,ft⟩,eR r.needs[i]!.any[0]!.range⟩:jv)]]).length) (ha:=j6) (he:=lT.own rfl (by first|rfl|simp)) (hz:=yB) (hn:=Ew) (hb:=Ez) ?_;refine dx ?_;refine bh 56 ?_ (he:=ll) (hm:=ll);refine zg ?_;rw[pE,show((iT (r.needs.take i) e nm ft)++iG r.needs[i]!)++[[(⟨⟨nm,ft⟩,eR r.needs[i]!.any[0]!.range⟩:jv)]]=iT (r.needs.take (i+1)) e nm ft from by rw[<-Hz ae,RI hc1,show X0 r.needs[i]! =iG r.needs[i]! from ai hc2,fj]];exact iq (i+1) [(58,0),(1,1),(2,2)]
  refine ko ?_;refine bg (Key.D (⟨nm,ft⟩)) ?_;refine cx ?_;refine cz 0 (hj:=fun _=>rfl) (hb:=fun _=>ae) ?_;refine cx ?_;refine aB (hc:=hB (r.needs[i]!.any[0]!.range) aah) ?_;refine bg (jv.D (⟨⟨nm,ft⟩,eR r.needs[i]!.any[0]!.range⟩:jv)) ?_;refine ba [jv.D (⟨⟨nm,ft⟩,eR r.needs[i]!.any[0]!.range⟩:jv)] ?_;refine ba [.own 51 4 0 1] ?_;refine rv ((iT (r.needs.take i) e nm ft).map dR++[.own 51 4 0 1]) (n:=((iT (r.needs.take i) e nm ft)++[[(⟨⟨nm,ft⟩,eR r.needs[i]!.any[0]!.range⟩:jv)]]).length) (ha:=j6) (he:=lT.own rfl (by first|rfl|simp)) (hz:=yB) (hn:=Ew) (hb:=Ez) ?_;refine dx ?_;refine bh 51 ?_ (he:=ll) (hm:=ll);refine zg ?_;rw[pE,show(iT (r.needs.take i) e nm ft)++[[(⟨⟨nm,ft⟩,eR r.needs[i]!.any[0]!.range⟩:jv)]]=iT (r.needs.take (i+1)) e nm ft from by rw[<-Hz ae,RI hc1,show X0 r.needs[i]! =[]from ak hc2,qZ]];exact iq (i+1) [(53,0),(1,1),(2,2)]
 refine cx ?_;obtain rfl:i=r.needs.length:=ae;rw[List.take_length];refine bh 0 ?_ (he:=ll) (hm:=ll);exact mr
def zn:aj:=bc 61
def w509 {Y:Ctx}(hm:(Y.at 1).bR)(shop:List bN)(w:b6)(x:dm)(c:List Int)(hA:C696 (Y.at 1))(hB:C697 (Y.at 1))(hC:C698 (Y.at 1))(hp0:LinP shop w x c):dp (Y.at 1) zn.body (rI zn (fun d m=>d=.int .i64 (kN shop w.us x c).1/\look m 0=some (.buf 1 ((kN shop w.us x c).2.map (D.int .i64)))):Ex->List aX->St->Prop) (fq zn [.sl 2 (shop.map bN.D),b6.D w,.own 0 1 0 c.length,dm.D x]) ⟨1,[(0,.buf 1 (c.map (D.int .i64)))]⟩:=by
 show dp _ _ _ [⟨true,.sl 2 (shop.map bN.D)⟩,⟨true,b6.D w⟩,⟨true,.own 0 1 0 c.length⟩,⟨true,dm.D x⟩,.un,.un,.un,.un,.un,.un,.un,.un,.un,.un,.un,.un,.un] ⟨1,[(0,.buf 1 (c.map (D.int .i64)))]⟩;refine aO ?_;refine ko ?_;have hcl:=hp0.2;have hul:=yu (us:=w.us) (a:=x.name) (b:=[]);refine Bo ?_;refine aB (hc:=hB w (il w.us x.name []) x.v true ⟨⟨hp0.1.2.1,hp0.1.2.2⟩,ae⟩) ?_;refine zc ?_ ?_<;>intro hc0
 .refine zg ?_;refine dD trivial iF (cU ah (?_)) ah ⟨by rw[FQ hc0],by rw[FQ hc0];exact rfl⟩;rfl
 refine dx ?_;obtain⟨j,k,hj,hk,hkl⟩:=(xT (us:=w.us) (u:=(il w.us x.name [])) (v:=x.v) (t:=true)).resolve_left ae;have hjl:j<w.us.length:=ae;refine Bo ?_;refine aB (hc:=hC shop w.us[j]!.cands[k]! x ⟨hp0.1.1,hp0.1.2.2⟩) ?_;refine zc ?_ ?_<;>intro hc1
 .refine zg ?_;refine dD trivial iF (cU ah (?_)) ah ⟨by rw[Al hj hk hc1],by rw[Al hj hk hc1];exact rfl⟩;rfl
 refine cx ?_;have hpe:=ae2 (c:=c) hj hk hc1;refine ez ?_;refine kg ((c.set j (k:Int)).map (D.int .i64)) (hi:=j6) (he:=by rw[hk];exact qV ae _) ?_;refine zg ?_;refine zf hm (fun i=>[.m 2 shop bN.D,.u 1,.o 0 1 c.length,.u 2,.p 1 1,.p 2 9,.u 5,.i i,.u 4]) (fun i=>[(0,.buf 1 ((vH w.us x (c.set j (k:Int)) i).map (D.int .i64))),(1,.buf 1 [b6.D w]),(2,.buf 9 [dm.D x])]) 38 (fun i=>i<=x.feats.length/\(kN shop w.us x c)=xe w.us x (x.feats.drop i) (vH w.us x (c.set j (k:Int)) i)) (fun i=>x.feats.length-i) ⟨ae,hpe⟩ [(1,1),(2,2)] ?_;rintro i ⟨hi,hr⟩;have hfl:=Cs (us:=w.us) (x:=x) (c:=c.set j (k:Int)) i;rw[List.length_set]at hfl;refine zg ?_;intro u0;refine dE ?_ ?_<;>intro hc2
 .refine dx ?_;have huf:=yu (us:=w.us) (a:=x.name) (b:=x.feats[i]!);refine fG ?_;refine cx ?_;refine aB (hc:=hB w (il w.us x.name x.feats[i]!) x.v false ⟨⟨hp0.1.2.1,hp0.1.2.2⟩,ae⟩) ?_;refine zc ?_ ?_<;>intro hc3
  .refine zg ?_;refine dD trivial iF (cU ah (?_)) ah ⟨by rw[hr,oK ae,ak hc3],by rw[hr,oK ae,ak hc3];exact rfl⟩;rfl
  refine cx ?_;obtain⟨p,q,hp,hq,hql⟩:=(xT (us:=w.us) (u:=(il w.us x.name x.feats[i]!)) (v:=x.v) (t:=false)).resolve_left ae;have hpl:p<w.us.length:=ae;have hfs:(vH w.us x (c.set j (k:Int)) (i+1))=(vH w.us x (c.set j (k:Int)) i).set p (q:Int):=by rw[vH,hq,hp,Int.toNat_natCast]
  refine ez ?_;refine kg ((vH w.us x (c.set j (k:Int)) (i+1)).map (D.int .i64)) (hi:=j6) (he:=by rw[hq,hfs];exact qV ae _) ?_;refine gh (i+1) [(1,1),(2,2)] ?_;rw[hr,oK ae,ai ae];rfl
 refine zg ?_;refine dD trivial iF (cU ah (?_)) ah ⟨by rw[hr,xf ae],by rw[hr,xf ae];exact rfl⟩;rfl
def Pk:aj:=bc 227
def w1009 (hA:C908 Y)(hB:aeg Y):Ek (cu Y Pk):=fun n hp0=>by
 refine wA ?_;have hna:=hp0.1.1;refine zg ?_;intro u0;refine dE ?_ ?_<;>intro hc0
 .refine dx ?_;have hul:=(ot n.any[0]!).2;have hfl:=hp0.1.2 _ (aq (show 0<n.any.length by omega));refine cx ?_;refine cz 0 (hj:=fun _=>rfl) (hb:=fun _=>ae) ?_;refine zg ?_;intro u1;refine zf hm (fun i=>[.u 2,.p 1 3,.u 1,.i i,.i ((eS n.any[0]!).length:Nat),.u 1,.m 2 (eS n.any[0]!) Key.D,.o 0 1 (zp n i).length,.u 4]) (fun i=>[(0,.buf 1 ((zp n i).map dR)),(1,.buf 3 [br.D n])]) 14 (fun i=>i<=(eS n.any[0]!).length) (fun i=>(eS n.any[0]!).length-i) ae [(0,1)] ?_;intro i hi;have hrl:=Zi n i;refine zc ?_ ?_<;>intro hc1
  .refine Bp ?_;refine cz 0 (hj:=fun _=>rfl) (hb:=fun _=>ae) ?_;refine cx ?_;refine aB (hc:=hA (n.any[0]!.range) Qf) ?_;refine bg (jv.D (⟨(eS n.any[0]!)[i]!,eR n.any[0]!.range⟩:jv)) ?_;refine ba [jv.D (⟨(eS n.any[0]!)[i]!,eR n.any[0]!.range⟩:jv)] ?_;refine ba [.own 28 4 0 1] ?_;refine rv ((zp n i).map dR++[.own 28 4 0 1]) (n:=((zp n i)++[[(⟨(eS n.any[0]!)[i]!,eR n.any[0]!.range⟩:jv)]]).length) (ha:=j6) (he:=lT.own rfl (by first|rfl|simp)) (hz:=yB) (hn:=Ew) (hb:=Ez) ?_;refine dx ?_;refine bh 28 ?_ (he:=ll) (hm:=ll);refine zg ?_;rw[pE,show zp n i++[[(⟨(eS n.any[0]!)[i]!,eR n.any[0]!.range⟩:jv)]]=zp n (i+1)from akp ae];exact iq (i+1) [(30,0),(1,1)]
  refine dx ?_;obtain rfl:i=(eS n.any[0]!).length:=ae;rw[ako hc0];refine bh 0 ?_ (he:=ll) (hm:=ll);exact mr
 refine zg ?_;refine zf hm (fun i=>[.u 2,.p 1 3,.u 5,.e .aJ,.u 1,.i i,.u 1,.o 0 4 (Ba n i).length]) (fun i=>[(0,.buf 4 ((Ba n i).map jv.D)),(1,.buf 3 [br.D n])]) 9 (fun i=>i<=n.any.length) (fun i=>n.any.length-i) ae [(0,1)] ?_;intro i hi;have hol:=XO n i;refine zg ?_;intro u2;refine dE ?_ ?_<;>intro hc2
 .refine dx ?_;have hul:=(ot n.any[i]!).1;refine jS ?_;refine aB (hc:=hB ((n.any)[i]!) Qf) ?_;refine pA ?_;refine aB (hc:=hA ((n.any)[i]!.range) Qf) ?_;refine bg (jv.D (XP n.any[i]!)) ?_;refine ba [jv.D (XP n.any[i]!)] ?_;refine cJ (q:=jv.D) (xs:=Ba n i) (e:=XP n.any[i]!) (hb:=ae) ?_;refine zg ?_;rw[ajp ae];exact iq (i+1) [(32,0),(1,1)]
 refine cx ?_;obtain rfl:i=n.any.length:=ae;refine bh 0 ?_ (he:=ll) (hm:=ll);refine dx ?_;refine ba [dR (Ba n n.any.length)] ?_;refine sE (ys:=[dR (Ba n n.any.length)]) (n:=1) (he:=lT.all rfl rfl) (hn:=rfl) (hb:=ae) ?_;refine cx ?_;refine bh 17 ?_;refine zr ?_;rw[<-ajo hc0];rfl
def Pm:aj:=bc 101
def w403 (hA:Nv Y)(hB:C617 Y)(hC:C618 Y):IQ (cu Y Pm):=fun w i hp0=>by
 refine cH ?_;obtain⟨j,rfl⟩:∃j:Nat,i=(j:Int):=⟨i.toNat,ae⟩
 have hjl:j<w.us.length:=ae;have hju:=hp0.1 _ (aq hjl);simp only[Int.toNat_natCast];refine uK ?_;refine bS _ ?_;refine zg ?_;intro u0;refine dE ?_ ?_<;>intro hc0
 .refine zr ?_;unfold sR mY;grind
 refine zc ?_ ?_<;>intro hc1
 .refine zr ?_;unfold sR mY xl;grind
 refine fG ?_;refine ez ?_;refine cz ((j-1)) (hj:=fun hf=>cr) (hb:=fun hf=>cr) ?_;refine zc ?_ ?_<;>intro hc2
 .refine zr ?_;unfold sR mY;grind
 refine zg ?_;refine zf hm (fun k=>[.u 1,.i j,.u 1,.p 0 1,.p 1 3,.u 3,.i k,.u 2]) (fun k=>[(0,.buf 1 [b6.D w]),(1,.buf 3 [c9.D (w.us[j]!)])]) 54 (fun k=>k<=w.us[j]!.cands.length/\bO (oG w.us.length w.us[j]!.cands) 0 w.us[j]!.cands.length=bO (oG w.us.length w.us[j]!.cands) k w.us[j]!.cands.length) (fun k=>w.us[j]!.cands.length-k) ⟨ae,rfl⟩ [(0,0),(7,1)] ?_;rintro k ⟨hk,hr⟩;refine zg ?_;intro u1;refine dE ?_ ?_<;>intro hc3
 .refine Bo ?_;refine aB (hc:=hC ((w.us[j]!.cands)[k]!) _ ?_) ?_;rotate_left;first|assumption|omega|(grind [b6.sm,c9.sm,ei.sm,aq])
  refine wA ?_;refine cz ((k-1)) (hj:=fun hf=>cr) (hb:=fun hf=>cr) ?_;refine pA ?_;refine bQ (hc:=fun hf=>hA ((w.us[j]!.cands)[(k-1)]!.v) ((w.us[j]!.cands)[k]!.v) (by first|assumption|omega|(grind [b6.sm,c9.sm,ei.sm,aq]))) ?_;refine zc ?_ ?_<;>intro hc4
  .refine zr ?_;unfold sR mY;rw[hr,ay (i:=k) ae];simp only[oG];grind
  refine gh (k+1) [(0,0),(1,1)] ?_;rw[hr,ay ae];simp only[oG];grind
 refine zr ?_;unfold sR mY xl;rw[hr,bB (i:=k) ae];grind
def Ue:aj:=bc 55
def w169 (hA:C403 Y):tH (cu Y Ue):=fun w hp0=>by
 refine zg ?_;intro u0;refine dE ?_ ?_<;>intro hc0
 .refine zr ?_;rw[Ee];grind
 refine zg ?_;refine zf hm (fun i=>[.u 2,.p 0 1,.u 1,.i i,.u 2]) (fun i=>[(0,.buf 1 [b6.D w])]) 13 (fun i=>i<=w.us.length/\bO (sR w.us) 0 w.us.length=bO (sR w.us) i w.us.length) (fun i=>w.us.length-i) ⟨ae,rfl⟩ [(0,0)] ?_;rintro i ⟨hi,hr⟩;refine zg ?_;intro u1;refine dE ?_ ?_<;>intro hc1
 .refine zc ?_ ?_<;>intro hc2
  .refine zr ?_;rw[Ee,hr,ay ae];grind
  refine gh (i+1) [(0,0)] ?_;rw[hr,ay ae];grind
 refine zr ?_;rw[Ee,hr,bB ae];grind
def sH:aj:=bc 245
def w450 {Y:Ctx}(hm:(Y.at 3).bR)(ws:List av)(t:av)(m0:List (Nat×bm))(hA:C242 (Y.at 3))(hB:C489 (Y.at 3))(hC:C664 (Y.at 3))(hp0:uL m0 0 t)(hp1:look m0 1=some (.buf 1 (ws.map D.str)))(hp2:GD ws t):dp (Y.at 3) sH.body (rI sH (fun d m=>d=.tup []/\look m 0=some (.bld (some 9) (t++cw ws).length true)/\look m 9=some (.row (t++cw ws))):Ex->List aX->St->Prop) (fq sH [.ptr 0 2 0 0,.own 1 1 0 ws.length]) ⟨3,m0⟩:=by
 show dp _ _ _ [⟨true,.ptr 0 2 0 0⟩,⟨true,.own 1 1 0 ws.length⟩] ⟨3,m0⟩;obtain⟨⟨q1,q2⟩,q3,q4⟩:=hp2;have hlt:t++cw ws=t++cv [32] ws++[10]:=by unfold cw;simp
 refine aO ?_;refine cx ?_;refine aB (hc:=hA ws [32] q2 aT q3) (ha:=fun _=>aw (fun d=>[d,D.str [32]]) (tD (q:=D.str) (fun _=>rfl) hp1)) (hp:=fun _=>⟨qf (q:=D.str) (fun _=>rfl) hp1,rfl,trivial⟩) ?_;refine dC (nx':=4) (v:=.any) (m':=rT m0 0 6 (t++cv [32] ws)) (hc:=fun K' hK=>hB _ _ K' ⟨_,0,t,rfl,hp0,jj (by decide:0<3) (Nat.le_add_right _ _),q1,ae,hK⟩) (hn:=aT) ?_;refine dx ?_;refine dC (nx':=9) (v:=.any) (m':=rT (rT m0 0 6 (t++cv [32] ws)) 0 9 (t++cv [32] ws++[10])) (hc:=fun K' hK=>hC _ _ K' ⟨10,0,t++cv [32] ws,rfl,abr aT,jj (by decide:0<8) (Nat.le_add_right _ _),aG,by rw[ct];exact q4,hK⟩) (hn:=aT) ?_;refine zg ?_

 refine dD trivial iF (cU ah (?_)) ah ⟨rfl,by rw[hlt];exact(y0 aT).1,by rw[hlt];exact(y0 aT).2⟩;rfl
def vF:aj:=⟨2,4,[⟨2,none⟩],ha1,(sq (rg [gb 8 s0,gm cbF] [(3,0),(2,1)]) (sq (r1 [gf 0 s3,gk 5 true l0,gf 1 s1,gk 5 true l2,gn (.eqA false true [.i .i64,.i .i64,.i .i64,.s,.s] l1 l3),gm l4] 2 5) .ret))⟩
def w690 {Y:Ctx}(hm:(Y.at 0).bR):Jt (cu Y vF):=fun c x hp0=>by
 exact mr
def vG:aj:=bc 75
def w691 {Y:Ctx}(hm:(Y.at 0).bR)(hA:SL Y):Ju (cu Y vG):=fun c x hp0=>by
 exact mr
def zu:aj:=bc 72
def w689 (hA:C690 Y)(hB:C691 Y):Js (cu Y zu):=fun l b x hp0=>by
 refine zg ?_;intro u0;refine zf hm (fun i=>[.m 8 l ei.D,.e (.fn (bif b then 690 else 691) [.ref 9 [dm.D x] 0 0]),.u 1,.i i,.i l.length,.u 3]) (fun i=>[]) 4 (fun i=>i<=l.length/\fY (Tx x.v b) l 0=fY (Tx x.v b) (l.drop i) i) (fun i=>l.length-i) ⟨ae,rfl⟩ [] ?_;rintro i ⟨hi,hr⟩;refine zc ?_ ?_<;>intro hc0
 .refine qo ?_;cases b
  .refine ko ?_;refine BM (hc:=fun _=>hB l[i]! x ⟨hp0.1 _ (aq ae),hp0.2⟩) ?_;refine zc ?_ ?_<;>intro hc1
   .refine zr ?_;rw[hr,jc ae hc1]
   refine gh (i+1) [] ?_;rw[hr,hY ae hc1]
  .refine ko ?_;refine BM (hc:=fun _=>hA l[i]! x ⟨hp0.1 _ (aq ae),hp0.2⟩) ?_;refine zc ?_ ?_<;>intro hc1
   .refine zr ?_;rw[hr,jc ae hc1]
   refine gh (i+1) [] ?_;rw[hr,hY ae hc1]
 refine zr ?_;rw[hr,jJ ae]
def Ov:aj:=bc 23
def w114:Ir (cu Y Ov):=fun w hp0=>by
 refine zg ?_;refine zf hm (fun i=>[.u 2,.i i,.p 0 1,.i (vR w.us i:Nat),.u 2]) (fun i=>[(0,.buf 1 [b6.D w])]) 4 (fun i=>(i<=w.us.length/\vR w.us i<=20000000)/\Hy w.us=LV w.us (w.us.length-i) i (vR w.us i)) (fun i=>w.us.length-i) ⟨⟨ae,show 1<=20000000 by decide⟩,rfl⟩ [(0,0)] ?_;rintro i ⟨⟨hi,hsz⟩,hr⟩;refine zg ?_;intro u0;refine dE ?_ ?_<;>intro hc0
 .refine dx ?_;have hu16:=(hp0 _ (aq (show i<w.us.length by omega))).1;have hs2:=adi (us:=w.us) (i:=i) hu16 ae;refine zc ?_ ?_<;>intro hc1
  .refine cH ?_;have hcast:=ajN (us:=w.us) (i:=i) hc1;refine wA ?_;intro u1;refine xY (hb:=by rw[hcast];omega) ?_;refine zg ?_;rw[hcast];refine zl (i+1) [(0,0)] ?_;exact⟨⟨ae,hs2⟩,by rw[hr,RG ae ae];rfl⟩
  refine zg ?_;rw[ajM hc1];refine zl (i+1) [(0,0)] ?_;exact⟨⟨ae,hs2⟩,by rw[hr,RG ae ae];rfl⟩
 refine zr ?_;rw[hr,Yf ae]
def Pa:aj:=bc 294
def w1120 (hA:EA Y):Et (cu Y Pa):=fun l=>by
 refine zg ?_;refine zf hm (fun i=>[.m 2 l iH.D,.u 1,.i i,.u 2]) (fun i=>[]) 2 (fun i=>i<=l.length/\Ai l=bO (fun i=>decide (LS l i=0)) i l.length) (fun i=>l.length-i) ⟨ae,rfl⟩ [] ?_;rintro i ⟨hi,hr⟩;refine zg ?_;intro u0;refine dE ?_ ?_<;>intro hc0
 .refine fG ?_;refine Fa ?_;refine cz ((i-1)) (hj:=fun hf=>cr) (hb:=fun hf=>cr) ?_;refine zc ?_ ?_<;>intro hc1
  .refine zr ?_;rw[hr,ay ae,X7 (by rcases hc1 with(h|h)|⟨h,h2⟩<;>simp_all)];rfl
  refine gh (i+1) [] ?_;rw[hr,ay ae,T0 (by rintro((h|h)|⟨h,h2⟩)<;>simp_all)];rfl
 refine zr ?_;rw[hr,bB ae]
def Mf:aj:=bc 89
def w356:IM (cu Y Mf):=fun l nm=>by
 refine zg ?_;refine zf hm (fun i=>[.m 11 l gV.D,.e (.str nm),.u 1,.i i,.u 2]) (fun i=>[]) 2 (fun i=>i<=l.length/\lF l nm=fY (isM nm) (l.drop i) i) (fun i=>l.length-i) ⟨ae,rfl⟩ [] ?_;rintro i ⟨hi,hr⟩;refine zg ?_;intro u0;refine dE ?_ ?_<;>intro hc0
 .refine zc ?_ ?_<;>intro hc1
  .refine zr ?_;rw[hr,jc ae (by simpa[isM]using hc1)]
  refine gh (i+1) [] ?_;rw[hr,hY ae (by simpa[isM]using hc1)]
 refine zr ?_;rw[hr,jJ ae]
end Go.Abs
end
