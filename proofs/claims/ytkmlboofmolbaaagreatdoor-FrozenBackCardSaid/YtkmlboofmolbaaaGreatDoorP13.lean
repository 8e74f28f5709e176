/- A part of the proofs. -/
import Derived.Test.YtkmlboofmolbaaaGreatDoorP09
set_option linter.all false
set_option maxRecDepth 60000
set_option maxHeartbeats 2000000
noncomputable section
namespace Go.Abs
variable {Y:Ctx}(hm:(Y.at 0).bV)
def N3:aj:=ba 74
def w349:tz (cq Y N3):=fun s=>by
 refine zc ?_ ?_<;>intro hc0
 .refine zr ?_;symm;simp only[gC,ed,cv];rcases hc0 with h|h
  .subst h;exact Or.inl (Or.inl aF)
  .exact Or.inl ae
 refine zg ?_;have hP:gC s=bU (fun i=>F6 (at8 s i)) 0 s.length:=by
  have:=List.length_pos_iff.2 hc0.1;simp only[gC];rw[bo ae,bo ae];rfl
 refine zf hm (fun i=>[.e (.str s),.u 2,.e (.it 9),.u 4]) (fun i=>[(9,.iter s i)]) 10 (fun i=>i<=s.length/\gC s=bU (fun i=>F6 (at8 s i)) i s.length) (fun i=>s.length-i) ⟨ae,hP⟩ [(9,9)] ?_;rintro i ⟨hi,hr⟩;refine zg ?_;by_cases hnx:i<s.length
 .obtain⟨c,w,hdec,hw,hcw⟩:=wy s i hnx;refine Hv c w (hp:=hnx) (hc:=hdec) ?_;refine zg ?_;refine aQ (t:=true) (fun _=>?_) (fun h=>bZ);refine fP ?_;refine lG ?_ hm;refine aP ?_;refine kL (.int _ _) ?_;refine bE ?_;refine bp (env':=[_,_,_,_,_,_,⟨_,(.int _ _)⟩,_]) ?_;refine lG ?_ hm;refine fO ?_;refine aP ?_;refine bE ?_;refine Hr ?_;refine bE ?_;refine bE ?_;refine Ht ?_;refine uD ?_;refine bE ?_;refine bp (env':=[_,_,_,_,_,_,_,⟨_,(.bool _)⟩]) ?_;refine dG ?_ ?_<;>intro hc2
  .refine zg ?_;refine A3 ?_ ?_<;>intro hc4
   .refine fk ?_;obtain⟨rfl,hat,-⟩:w=1/\(c:Int)=at8 s i/\c<128:=by
     rcases hcw with h|h
     .exact h
     .omega
    have hz:F6 (at8 s i)=true:=by
     simp only[F6,jH,bH,dC,aD,aW];omega
    exact⟨i+1,⟨ae,by rw[hr,az hnx,hz];rfl⟩,ae,(gtt [(9,9)])⟩
   refine zg ?_;refine rrrb ?_;first
    |(exfalso;omega)
    |(rw[hr,bA ae];done)
    |(
     have hz:F6 (at8 s i)=false:=by
      rcases hcw with⟨_,h,_⟩|⟨_,h⟩<;>(simp only[F6,jH,bH,eW,ed,cv];omega)
     rw[hr,az hnx,hz];rfl)
  refine zg ?_;refine dG ?_ ?_<;>intro hc3
  .refine zg ?_;refine A3 ?_ ?_<;>intro hc4
   .refine fk ?_;obtain⟨rfl,hat,-⟩:w=1/\(c:Int)=at8 s i/\c<128:=by
     rcases hcw with h|h
     .exact h
     .omega
    have hz:F6 (at8 s i)=true:=by
     simp only[F6,jH,bH,dC,aD,aW];omega
    exact⟨i+1,⟨ae,by rw[hr,az hnx,hz];rfl⟩,ae,(gtt [(9,9)])⟩
   refine zg ?_;refine zr ?_;first
    |(exfalso;omega)
    |(rw[hr,bA ae];done)
    |(
     have hz:F6 (at8 s i)=false:=by
      rcases hcw with⟨_,h,_⟩|⟨_,h⟩<;>(simp only[F6,jH,bH,eW,ed,cv];omega)
     rw[hr,az hnx,hz];rfl)
  refine zg ?_;refine A3 ?_ ?_<;>intro hc4
  .refine fk ?_;obtain⟨rfl,hat,-⟩:w=1/\(c:Int)=at8 s i/\c<128:=by
    rcases hcw with h|h
    .exact h
    .omega
   have hz:F6 (at8 s i)=true:=by
    simp only[F6,jH,bH,dC,aD,aW];omega
   refine gD (i+1) [(9,9)] ?_;rw[hr,az hnx,hz];rfl
  refine zg ?_;refine zr ?_;first
   |(exfalso;omega)
   |(rw[hr,bA ae];done)
   |(
    have hz:F6 (at8 s i)=false:=by
     rcases hcw with⟨_,h,_⟩|⟨_,h⟩<;>(simp only[F6,jH,bH,eW,ed,cv];omega)
    rw[hr,az hnx,hz];rfl)
 .refine Hu (hp:=hnx) ?_;refine zg ?_;refine aQ (t:=false) (fun h=>bZ) (fun _=>?_);refine zr ?_;first
   |(exfalso;omega)
   |(rw[hr,bA ae];done)
   |(
    have hz:F6 (at8 s i)=false:=by
     rcases hcw with⟨_,h,_⟩|⟨_,h⟩<;>(simp only[F6,jH,bH,eW,ed,cv];omega)
    rw[hr,az hnx,hz];rfl)
def N2:aj:=ba 121
def w208:tn (cq Y N2):=fun s=>by
 refine zc ?_ ?_<;>intro hc0
 .refine zr ?_;symm;simp only[dd];rcases hc0 with h|h
  .subst h;simp
  .rw[bG (by omega:¬s.length<=16)];simp
 refine zg ?_;have h0:=List.length_pos_iff.2 hc0.1;have hP:=acU s ae ae;refine zf hm (fun i=>[.e (.str s),.u 2,.e (.it 9),.u 9]) (fun i=>[(9,.iter s i)]) 10 (fun i=>i<=s.length/\dd s=bU (oQ s) i s.length) (fun i=>s.length-i) ⟨ae,hP⟩ [(9,9)] ?_;rintro i ⟨hi,hr⟩;refine zg ?_;by_cases hnx:i<s.length
 .obtain⟨c,w,hdec,hw,hcw⟩:=wy s i hnx;refine Hv c w (hp:=hnx) (hc:=hdec) ?_;refine zg ?_;refine aQ (t:=true) (fun _=>?_) (fun h=>bZ);refine fP ?_;refine lG ?_ hm;refine aP ?_;refine kL (.int _ _) ?_;refine kL (.int _ _) ?_;refine bE ?_;refine bE ?_;refine bp (env':=[_,_,_,_,_,_,⟨_,(.int _ _)⟩,_,_,⟨_,(.int _ _)⟩,_,_,_]) ?_;refine lG ?_ hm;refine aP ?_;refine bE ?_;refine Hr ?_;refine bE ?_;refine bE ?_;refine Ht ?_;refine uD ?_;refine bE ?_;refine bp (env':=[_,_,_,_,_,_,_,⟨_,(.bool _)⟩,_,_,_,_,_]) ?_;refine A3 ?_ ?_<;>intro hc2
  .refine fk ?_;obtain⟨rfl,hat,-⟩:w=1/\(c:Int)=at8 s i/\c<128:=by
    rcases hcw with h|h
    .exact h
    .omega
   have hz:oQ s i=true:=by
    simp only[oQ,jH,bH,dC,aD,cz,aW,cv];omega
   exact⟨i+1,⟨ae,by rw[hr,az hnx,hz];rfl⟩,ae,(gtt [(9,9)])⟩
  refine zg ?_;refine A3 ?_ ?_<;>intro hc3
  .refine zg ?_;refine A3 ?_ ?_<;>intro hc4
   .refine zg ?_;refine rrrb ?_;first
     |(exfalso;omega)
     |(rw[hr,bA ae];done)
     |(have hz:oQ s i=false:=by
        rcases hcw with⟨_,h,_⟩|⟨_,h⟩<;>(simp only[oQ,jH,bH,eW,ed,df,aW,cv];omega)
       rw[hr,az hnx,hz];rfl)
   refine fk ?_;obtain⟨rfl,hat,-⟩:w=1/\(c:Int)=at8 s i/\c<128:=by
    rcases hcw with h|h
    .exact h
    .omega
   have hz:oQ s i=true:=by
    simp only[oQ,jH,bH,dC,aD,cz,aW,cv];omega
   refine gD (i+1) [(9,9)] ?_;rw[hr,az hnx,hz];rfl
  refine zg ?_;refine A3 ?_ ?_<;>intro hc5
  .refine ib ?_;refine zN (i-1) ?_;refine zg ?_;refine A3 ?_ ?_<;>intro hc6
   .refine zr ?_;first
     |(exfalso;omega)
     |(rw[hr,bA ae];done)
     |(have hz:oQ s i=false:=by
        rcases hcw with⟨_,h,_⟩|⟨_,h⟩<;>(simp only[oQ,jH,bH,eW,ed,df,aW,cv];omega)
       rw[hr,az hnx,hz];rfl)
   refine zg ?_;obtain⟨rfl,hat,-⟩:w=1/\(c:Int)=at8 s i/\c<128:=by
    rcases hcw with h|h
    .exact h
    .omega
   have hz:oQ s i=true:=by
    simp only[oQ,jH,bH,dC,aD,cz,aW,cv];omega
   refine gD (i+1) [(9,9)] ?_;rw[hr,az hnx,hz];rfl
  refine zg ?_;refine zr ?_;first
   |(exfalso;omega)
   |(rw[hr,bA ae];done)
   |(have hz:oQ s i=false:=by
      rcases hcw with⟨_,h,_⟩|⟨_,h⟩<;>(simp only[oQ,jH,bH,eW,ed,df,aW,cv];omega)
     rw[hr,az hnx,hz];rfl)
 .refine Hu (hp:=hnx) ?_;refine zg ?_;refine aQ (t:=false) (fun h=>bZ) (fun _=>?_);refine zr ?_;first
   |(exfalso;omega)
   |(rw[hr,bA ae];done)
   |(have hz:oQ s i=false:=by
      rcases hcw with⟨_,h,_⟩|⟨_,h⟩<;>(simp only[oQ,jH,bH,eW,ed,df,aW,cv];omega)
     rw[hr,az hnx,hz];rfl)
def GQ:aj:=ba 162
def w658:tP (cq Y GQ):=fun s=>by
 refine DU ?_;refine zN 0 (hb:=fun h=>by simp at h;exact List.length_pos_iff.2 h.1) ?_;refine zc ?_ ?_<;>intro hc0
 .refine zg ?_;refine fE (bS (aw (D.int .i64) ?_) (aw D.bool ?_));all_goals
   have:n5 s=false:=by
    rw[XC];rcases hc0 with(h|h)|h
    .subst h;simp
    .rw[bG (by omega:¬s.length<=4)];simp
    .rw[bo (by omega:1<s.length),bo h.1];simp
   simp[Cz,this]
 refine zg ?_;have h0:=List.length_pos_iff.2 hc0.1.1;have hP:n5 s=bU (fun i=>bH (at8 s i)) 0 s.length:=by
  rw[XC,bo (by omega:1<=s.length),bo (by omega:s.length<=4)];rcases hc0.2 with h|h
  .rw[bG h,Bool.and_false];rfl
  .rw[bG (by omega:¬1<s.length)];rfl
 refine zf hm (fun i=>[.e (.str s),.u 3,.e (.it 21),.u 4,.i (eR (s.take i):Nat)]) (fun i=>[(21,.iter s i)]) 22 (fun i=>i<=s.length/\s.length<=4/\n5 s=bU (fun i=>bH (at8 s i)) i s.length) (fun i=>s.length-i) ⟨ae,ae,hP⟩ [(21,21)] ?_;rintro i ⟨hi,h9,hr⟩;refine zg ?_;by_cases hnx:i<s.length
 .obtain⟨c,w,hdec,hw,hcw⟩:=wy s i hnx;refine Hv c w (hp:=hnx) (hc:=hdec) ?_;refine zg ?_;refine aQ (t:=true) (fun _=>?_) (fun h=>bZ);refine zc ?_ ?_<;>intro hc2
  .refine cV ?_;obtain⟨rfl,hat,-⟩:w=1/\(c:Int)=at8 s i/\c<128:=by
    rcases hcw with h|h
    .exact h
    .omega
   have hn:=wW s i ae;have hn2:=zI s i ae;have h256:=Gq s i;refine cV ?_;refine xl ?_;refine cV ?_;refine Hw ((c:Int) -48) (hb:=fun _=>IntWalk.i32_in _ ae) ?_;refine qY ((c:Int) -48) (hb:=fun _=>IntWalk.i64_in _ ae) ?_;refine dD ?_;rw[show 10*(eR (s.take i):Int)+((c:Int) -48)=(eR (s.take (i+1)):Nat)by omega];refine zg ?_;have hz:bH (at8 s i)=true:=by
    simp only[bH,aD,aW];omega
   refine zl (i+1) [(21,21)] ?_;exact⟨ae,h9,by rw[hr,az ae,hz];rfl⟩
  refine zg ?_;refine fE (bS (aw (D.int .i64) ?_) (aw D.bool ?_));all_goals
   have hz:bH (at8 s i)=false:=by
    rcases hcw with⟨_,h,_⟩|⟨_,h⟩<;>(simp only[bH,ed,cv];omega)
   have:n5 s=false:=by rw[hr,az ae,hz];rfl
   simp[Cz,this]
 .refine Hu (hp:=hnx) ?_;refine zg ?_;refine aQ (t:=false) (fun h=>bZ) (fun _=>?_);refine og ?_;refine LQ.out ?_;refine aP ?_;refine bE ?_;refine bE ?_;refine Ht ?_;refine bE ?_;refine bE ?_;refine bp (env':=[_,⟨_,(.int _ _)⟩,⟨_,(.bool _)⟩,_,_,_,_,_,_,_]) ?_;refine wp_ret ?_;refine fE (bS (aw (D.int .i64) ?_) (aw D.bool ?_));all_goals
   have this:n5 s=true:=by rw[hr,bA ae]
   have ht:s.take i=s:=gK ae;have h9:=this;simp only[n5,aD,aW]at h9;have h99:=h9.2;rw[ht];first
   |(simp only[Cz,this];rfl)
   |(rw[this,aW];omega)
def HJ:aj:=ba 62
def w46 (hA:C158 Y)(hB:C183 Y):PS (cq Y HJ):=fun w hp0=>by
 refine p9 ?_;refine bB 0 ?_ (he:=m5) (hm:=m5);refine zg ?_;refine fX hm (ι:=Nat) (fun i=>[.un,⟨true,.ptr 0 3 0 0⟩,⟨true,.int .i64 (i:Nat)⟩,⟨true,.ref 1 [bT.D w] 0 0⟩,.un,.un,.un,.un,.un,.un,.un,.un,.un,⟨true,.ptr 1 3 0 0⟩]) (fun i=>[(0,.buf 3 [.agg [.aK,.aK,.aK]]),(1,.buf 3 [.agg [.own 2 1 0 (iI w.us i).length,.own 3 1 0 (ep w.us i).length,.own 4 1 0 (jq w.us i).length]]),(2,.buf 1 ((iI w.us i).map (D.int .i64))),(3,.buf 1 ((ep w.us i).map pQ)),(4,.buf 1 ((jq w.us i).map ox))]) 9 (fun i=>i<=w.us.length) (fun i=>w.us.length-i) 0 ae (aY.to [(1,0),(2,1)] ai ai eD (by repeat(first|exact bm.nil|refine bm.ni 2 ai ai (by exact⟨_,[],rfl,⟨_,rfl,_,_,rfl,Or.inr ⟨2,1,0,rfl⟩,_,_,rfl,Or.inr ⟨3,1,0,rfl⟩,_,_,rfl,Or.inr ⟨4,1,0,rfl⟩,rfl⟩,rfl⟩) ?_|refine bm.nl 1 ai ai ai dS ?_|refine bm.mt ai ai ai ai ?_))) ?_;intro i hi;have hfl:=NX w.us i;have hnl:=Ox w.us i;have hbl:=SR w.us i;refine zg ?_;intro u0;refine dG ?_ ?_<;>intro hc0
 .refine zg ?_;have hil:i<w.us.length:=ae;have hu:=hp0.1.1 _ (aq hil);have hu16:=hu.1;refine zf hm (fun j=>[.u 1,.p 0 3,.i i,.e (.ref 1 [bT.D w] 0 0),.u 1,.i j,.u 5,.o 5 1 (eH w.us (w.us[i]!.cands.take j)).length,.o 6 1 (jr w.us (w.us[i]!.cands.take j)).length,.p 1 3]) (fun j=>[(0,.buf 3 [.agg [.aK,.aK,.aK]]),(1,.buf 3 [.agg [.own 2 1 0 (iI w.us i).length,.own 3 1 0 (ep w.us i).length,.own 4 1 0 (jq w.us i).length]]),(2,.buf 1 ((iI w.us i).map (D.int .i64))),(3,.buf 1 ((ep w.us i).map pQ)),(4,.buf 1 ((jq w.us i).map ox)),(5,.buf 1 ((eH w.us (w.us[i]!.cands.take j)).map ox)),(6,.buf 1 ((jr w.us (w.us[i]!.cands.take j)).map H2))]) 9 (fun j=>j<=w.us[i]!.cands.length) (fun j=>w.us[i]!.cands.length-j) ae [(0,0),(1,1),(2,2),(3,3),(4,4)] ?_;intro j hj;have hnl1:=Oz w.us w.us[i]!.cands j;have hbl1:=SU w.us w.us[i]!.cands j;refine zg ?_;intro u1;refine dG ?_ ?_<;>intro hc1
  .refine dD ?_;have hcs:=hu.2 _ (aq (show j<w.us[i]!.cands.length by omega));have hfw:=hp0.2 _ (aq hil) _ (aq (show j<w.us[i]!.cands.length by omega));refine Ii ?_;refine bB 27 ?_ (he:=m5) (hm:=m5);refine zg ?_;refine zf hm (fun k=>[.u 1,.p 0 3,.i i,.e (.ref 1 [bT.D w] 0 0),.u 1,.i j,.u 1,.i k,.e (.ref 8 [en.D w.us[i]!.cands[j]!] 0 0),.u 1,.o 7 1 (kM w.us (w.us[i]!.cands[j]!.needs.take k)).length,.o 5 1 (eH w.us (w.us[i]!.cands.take j)).length,.o 6 1 (jr w.us (w.us[i]!.cands.take j)).length,.p 1 3]) (fun k=>[(0,.buf 3 [.agg [.aK,.aK,.aK]]),(1,.buf 3 [.agg [.own 2 1 0 (iI w.us i).length,.own 3 1 0 (ep w.us i).length,.own 4 1 0 (jq w.us i).length]]),(2,.buf 1 ((iI w.us i).map (D.int .i64))),(3,.buf 1 ((ep w.us i).map pQ)),(4,.buf 1 ((jq w.us i).map ox)),(5,.buf 1 ((eH w.us (w.us[i]!.cands.take j)).map ox)),(6,.buf 1 ((jr w.us (w.us[i]!.cands.take j)).map H2)),(7,.buf 1 ((kM w.us (w.us[i]!.cands[j]!.needs.take k)).map H2))]) 9 (fun k=>k<=w.us[i]!.cands[j]!.needs.length) (fun k=>w.us[i]!.cands[j]!.needs.length-k) ae [(0,0),(1,1),(2,2),(3,3),(4,4),(5,5),(6,6)] ?_;intro k hk;have hrl:=Um w.us w.us[i]!.cands[j]!.needs k;refine zg ?_;intro u2;refine dG ?_ ?_<;>intro hc2
   .refine x9 ?_;refine c7 (v:=.sl 3 (((w.us[i]!.cands[j]!.needs)[k]!).map Want.D)) (hi:=fun hf=>cg) ?_;refine aE (hc:=hB (w) ((w.us[i]!.cands[j]!.needs)[k]!) aai) ?_;refine bc [H2 (er w.us w.us[i]!.cands[j]!.needs[k]!)] ?_;refine cI (q:=H2) (xs:=kM w.us (w.us[i]!.cands[j]!.needs.take k)) (e:=er w.us w.us[i]!.cands[j]!.needs[k]!) (hb:=ae) ?_;refine zg ?_;rw[Ul ae];exact ij (k+1) [(23,7),(0,0),(1,1),(2,2),(3,3),(4,4),(5,5),(6,6)]
   refine cU ?_;obtain rfl:k=w.us[i]!.cands[j]!.needs.length:=ae;rw[List.take_length];refine bB 7 ?_ (he:=m5) (hm:=m5);refine dD ?_;refine bc [ox (kM w.us w.us[i]!.cands[j]!.needs)] ?_;refine cI (q:=ox) (xs:=eH w.us (w.us[i]!.cands.take j)) (e:=kM w.us w.us[i]!.cands[j]!.needs) (hb:=ae) ?_;refine cV ?_;refine OM (v:=bT.D w) ?_;refine cV ?_;refine OM (v:=.sl 3 (w.us[i]!.cands[j]!.bars.map Want.D)) ?_;refine aE (hc:=hB (w) (w.us[i]!.cands[j]!.bars) aai) ?_;refine bc [H2 (er w.us w.us[i]!.cands[j]!.bars)] ?_;refine cI (q:=H2) (xs:=jr w.us (w.us[i]!.cands.take j)) (e:=er w.us w.us[i]!.cands[j]!.bars) (hb:=ae) ?_;refine zg ?_;rw[Oy ae,SS ae];exact ij (j+1) [(17,5),(24,6),(0,0),(1,1),(2,2),(3,3),(4,4)]
  refine cU ?_;obtain rfl:j=w.us[i]!.cands.length:=ae;rw[List.take_length];refine bB 5 ?_ (he:=m5) (hm:=m5);refine bB 6 ?_ (he:=m5) (hm:=m5);refine kn ?_;refine bc [.int .i64 (nN w.us ((i:Nat):Int))] ?_;refine cI (q:=D.int .i64) (xs:=iI w.us i) (e:=nN w.us ((i:Nat):Int)) (hb:=ae) ?_;refine cV ?_;refine yN (v:=.own 3 1 0 (ep w.us i).length) ?_;refine cV ?_;refine bc [pQ (eH w.us w.us[i]!.cands)] ?_;refine cI (q:=pQ) (xs:=ep w.us i) (e:=eH w.us w.us[i]!.cands) (hb:=ae) ?_;refine cV ?_;refine yN (v:=.own 4 1 0 (jq w.us i).length) ?_;refine cV ?_;refine bc [ox (jr w.us w.us[i]!.cands)] ?_;refine cI (q:=ox) (xs:=jq w.us i) (e:=jr w.us w.us[i]!.cands) (hb:=ae) ?_;refine cV ?_;refine cy (.agg [.own 24 1 0 (iI w.us i++[nN w.us ((i:Nat):Int)]).length,.own 3 1 0 (ep w.us i).length,.own 4 1 0 (jq w.us i).length]) (he:=cY) ?_;refine cV ?_;refine cy (.agg [.own 24 1 0 (iI w.us i++[nN w.us ((i:Nat):Int)]).length,.own 29 1 0 (ep w.us i++[eH w.us w.us[i]!.cands]).length,.own 4 1 0 (jq w.us i).length]) (he:=cY) ?_;refine cV ?_;refine cy (.agg [.own 24 1 0 (iI w.us i++[nN w.us ((i:Nat):Int)]).length,.own 29 1 0 (ep w.us i++[eH w.us w.us[i]!.cands]).length,.own 34 1 0 (jq w.us i++[jr w.us w.us[i]!.cands]).length]) (he:=cY) ?_;refine zg ?_;rw[NW,Ov ae,SQ ae];exact ij (i+1) [(24,2),(29,3),(34,4),(0,0),(1,1)]
 refine cU ?_;obtain rfl:i=w.us.length:=ae;refine bB 2 ?_ (he:=m5) (hm:=m5);refine bB 3 ?_ (he:=m5) (hm:=m5);refine bB 4 ?_ (he:=m5) (hm:=m5);refine cV ?_;refine mf (d:=(dp w.us).D) ?_;exact my
def YW:aj:=ba 33
def w270 (hA:C52 Y)(hB:US Y)(hC:C145 Y)(hD:C169 Y)(hE:UT Y)(hF:C507 Y)(hG:C508 Y):IC (cq Y YW):=fun shop e w c hp0=>by
 refine x9 ?_;refine aE (hc:=hD (w) J5) ?_;refine dD ?_;refine ct (hc:=fun hf=>hC (shop) J5) ?_;refine uq ?_;refine ct (hc:=fun hf=>hE (w) (c) J5) ?_;refine zc ?_ ?_<;>intro hc0
 .refine cU ?_;refine bP _ ?_;refine cy _ ?_;refine zr ?_;rw[of_a hc0];rfl
 refine kV ?_;refine aE (hc:=hA (w) (c) J5) ?_;refine zc ?_ ?_<;>intro hc1
 .refine cU ?_;refine bP _ ?_;refine cy _ ?_;refine zr ?_;rw[of_b hc0 hc1];rfl
 refine dD ?_;refine a8 (.agg [.str e.e0,.str e.e1,.str e.e2,.aK]) ?_;refine kV ?_;obtain⟨hcl,⟨hc1a,hc48⟩,hcw⟩:=Ct hc0.2;refine zg ?_;refine fX hm (ι:=Nat) (fun u=>[⟨true,.sl 2 ((shop).map bJ.D)⟩,.un,.un,⟨true,.sl 1 ((c).map (D.int .i64))⟩,⟨true,.ptr 2 4 0 0⟩,.un,⟨true,.ptr 1 1 0 0⟩,.un,.un,.un,⟨true,.int .i64 (u:Nat)⟩,.un,.un,.un,.un,.un,.un,.un,.un,.un,⟨true,.ptr 3 4 0 0⟩]) (fun u=>[(0,.buf 9 ((dt shop w.us c u).1.map eg.D)),(1,.buf 1 [bT.D w]),(2,.buf 4 [.agg [.str [],.str [],.str [],.aK]]),(3,.buf 4 [.agg [.str e.e0,.str e.e1,.str e.e2,.own 0 9 0 (dt shop w.us c u).1.length]])]) 20 (fun u=>(1<=u/\u<=w.us.length)/\(dt shop w.us c u).2=0) (fun u=>w.us.length-u) 1 ⟨⟨ae,ae⟩,by rw[Q0]⟩ (aY.to [(1,1),(2,2),(29,3)] ai ai eD (by rw[Q0];repeat(first|exact bm.nil|refine bm.AA ai ai dS ?_|refine bm.Nj ai ai ai ?_|refine bm.Nk ai ai ai ai ?_|refine bm.nl 1 ai ai ai dS ?_|refine bm.nl 2 ai ai ai dS ?_|refine bm.ni 29 ai ai (by exact⟨_,_,rfl,⟨_,rfl,⟨_,_,rfl,⟨rfl,rfl⟩,⟨_,_,rfl,⟨rfl,rfl⟩,⟨_,_,rfl,⟨rfl,rfl⟩,⟨_,_,rfl,.inr ⟨_,_,_,rfl⟩,rfl⟩⟩⟩⟩⟩,rfl⟩) ?_|refine bm.mt ai ai ai ai ?_))) ?_;rintro u ⟨⟨hu1,hu⟩,hz⟩;have hll:=sT (shop:=shop) (us:=w.us) (c:=c) u;refine zg ?_;intro u0;refine dG ?_ ?_<;>intro hc2
 .refine zc ?_ ?_<;>intro hc3
  .refine zg ?_;have hsk:iB w.us c u=true:=by
    unfold iB;rcases hc3 with h|h
    .rw[bG h];simp
    .rw[bo h];simp
   have hls:=Oe hz hsk;rw[<-hls];refine zl (u+1) [(0,0),(1,1),(2,2),(3,3)] ?_;exact⟨⟨ae,ae⟩,by rw[hls];exact hz⟩
  refine cU ?_;have hsk:iB w.us c u=false:=by
   unfold iB;rw[bG (show ¬u=0 by omega),bG hc3.2,bo hc3.1];rfl
  have hcu:=hcw u ae;have hxm:=aq (show c[u]!.toNat<w.us[u]!.cands.length by omega);have hun:=((hp0.2.1 _ (aq (show u<w.us.length by omega))).2 _ hxm).1;refine Ih ?_;refine c7 (v:=en.D (fw w.us c u)) (hi:=fun _=>ae) ?_;refine ib ?_;refine qL ?_;refine a8 (eg.D (⟨w.us[u]!.name,(fw w.us c u).v,[],0,(lT w.us c u)⟩:eg)) ?_;refine zc ?_ ?_<;>intro hc4
  .refine zc ?_ ?_<;>intro hc5
   .refine cU ?_;refine bP _ ?_;refine cy _ (he:=cY) ?_;refine zr ?_;rw[of_c hc0 hc1 hz hsk ae 12 aU (aiC hc4 hc5)];rfl
   refine dD ?_;have hs0:0<=(fw w.us c u).sh/\(fw w.us c u).sh<(shop.length:Int):=ae;have hss:=hp0.1 _ (aq (show(fw w.us c u).sh.toNat<shop.length by omega));refine x9 ?_;refine aE (hc:=hG shop[(fw w.us c u).sh.toNat]! w.us[u]!.name (fw w.us c u).v ⟨hss,hun⟩) ?_;refine x9 ?_;refine bB 99 ?_ (he:=JY) (hm:=JY);refine zc ?_ ?_<;>intro hc6
   .refine cU ?_;refine bP _ ?_;refine cy _ (he:=cY) ?_;refine zr ?_;rw[of_c hc0 hc1 hz hsk ae 9 aU (aiD hc4 hc5 hc6)];rfl
   refine x9 ?_;refine Yx (v:=.int .u64 (ov shop[(fw w.us c u).sh.toNat]! w.us[u]!.name (fw w.us c u).v).1.sum) ?_;refine cV ?_;refine cy (eg.D (⟨w.us[u]!.name,(fw w.us c u).v,shop[(fw w.us c u).sh.toNat]!.name,0,(lT w.us c u)⟩:eg)) (he:=cY) ?_;refine cV ?_;refine cy (eg.D (⟨w.us[u]!.name,(fw w.us c u).v,shop[(fw w.us c u).sh.toNat]!.name,(ov shop[(fw w.us c u).sh.toNat]! w.us[u]!.name (fw w.us c u).v).1.sum,(lT w.us c u)⟩:eg)) (he:=cY) ?_;refine cV ?_;have hln:=aiE (w:=w) (c:=c) (u:=u) hc4 hc5 hc6;obtain⟨X,hX⟩:∃X,(⟨w.us[u]!.name,(fw w.us c u).v,shop[(fw w.us c u).sh.toNat]!.name,(ov shop[(fw w.us c u).sh.toNat]! w.us[u]!.name (fw w.us c u).v).1.sum,(lT w.us c u)⟩:eg)=X:=⟨_,rfl⟩
   rw[hX]at hln⊢;have hla:=Fe hz hsk hln;refine fk ?_;refine bc [eg.D X] ?_;refine cI (q:=eg.D) (xs:=(dt shop w.us c u).1) (e:=X) (hb:=ae) ?_;refine cV ?_;refine cy (.agg [.str e.e0,.str e.e1,.str e.e2,.own 120 9 0 ((dt shop w.us c u).1++[X]).length]) (he:=cY) ?_;refine zg ?_;rw[show(dt shop w.us c u).1++[X]=(dt shop w.us c (u+1)).1 by rw[hla]];refine zl (u+1) [(120,0),(1,1),(2,2),(3,3)] ?_;exact⟨⟨ae,ae⟩,by rw[hla]⟩
  refine cV ?_;have hln:=aiB (shop:=shop) (w:=w) (c:=c) (u:=u) hc4;obtain⟨X,hX⟩:∃X,(⟨w.us[u]!.name,(fw w.us c u).v,[],0,(lT w.us c u)⟩:eg)=X:=⟨_,rfl⟩
  rw[hX]at hln⊢;have hla:=Fe hz hsk hln;refine fk ?_;refine bc [eg.D X] ?_;refine cI (q:=eg.D) (xs:=(dt shop w.us c u).1) (e:=X) (hb:=ae) ?_;refine cV ?_;refine cy (.agg [.str e.e0,.str e.e1,.str e.e2,.own 80 9 0 ((dt shop w.us c u).1++[X]).length]) (he:=cY) ?_;refine zg ?_;rw[show(dt shop w.us c u).1++[X]=(dt shop w.us c (u+1)).1 by rw[hla]];refine zl (u+1) [(80,0),(1,1),(2,2),(3,3)] ?_;exact⟨⟨ae,ae⟩,by rw[hla]⟩
 refine cU ?_;obtain rfl:u=w.us.length:=ae;rw[show dt shop w.us c w.us.length=gv shop w c from rfl]at hz⊢;refine bB 0 ?_ (he:=JY) (hm:=JY);refine cV ?_;refine mf (d:=mB.D ⟨e,(gv shop w c).1⟩) ?_;refine zr ?_;rw[of_d hc0 hc1 hz];rfl
def KF:aj:=ba 124
def w510:Ja (cq Y KF):=fun w c hp0=>by
 refine zg ?_;intro u0 u1;refine dG ?_ ?_<;>intro hc0
 .refine zr ?_;unfold uf;rw[bG ae,Bool.false_and]
 refine zg ?_;intro u2;refine zf hm (fun i=>[.u 1,.m 1 c (D.int .i64),.u 1,.p 0 1,.u 1,.i i,.i c.length,.u 1,.m 1 c (D.int .i64),.u 3]) (fun i=>[(0,.buf 1 [bT.D w])]) 11 (fun i=>i<=c.length/\uf w c=bU (Aw w c) i c.length) (fun i=>c.length-i) ⟨ae,by unfold uf;rw[bo ae,ew]⟩ [(0,0)] ?_;rintro i ⟨hi,hr⟩;refine zc ?_ ?_<;>intro hc1
 .refine zc ?_ ?_<;>intro hc2
  .refine zr ?_;rw[hr,az ae,QI hc2];rfl
  refine gD (i+1) [(0,0)] ?_;rw[hr,az ae,KQ hc2];rfl
 refine zr ?_;rw[hr,bA ae]
def NJ:aj:=ba 80
def w273 {Y:Ctx}(hm:(Y.at 0).bV)(hA:C175 Y)(hB:C510 Y):tv (cq Y NJ):=fun w c hp0=>by
 exact my
def NK:aj:=ba 82
def w624 {Y:Ctx}(hm:(Y.at 0).bV)(hA:C712 Y):tN (cq Y NK):=fun w c x hp0=>by
 refine kn ?_;obtain⟨hsm,⟨hx0,hx1⟩,hft⟩:=hp0;have hfc:=m8 hft;obtain⟨j,hj⟩:∃j:Nat,x.u=(j:Int):=⟨x.u.toNat,ae⟩
 have hjt:x.u.toNat=j:=ae;have hjl:j<w.us.length:=ae;have hcj:=hfc.2 j ae;have hun:=hsm.1 _ (aq hjl);have hvs:0<=c[j]! ->w.us[j]!.cands[c[j]!.toNat]!.v.sm:=fun h=>(hun.2 _ (aq ae)).1
 refine ib ?_;refine qL ?_;refine cF c[j]!.toNat (hj:=fun hf=>vP) (hb:=fun hf=>vP) ?_;refine cV ?_;refine c7 (v:=bX.D w.us[j]!.cands[c[j]!.toNat]!.v) (hi:=fun hf=>vP) ?_;refine ct (hc:=fun hf=>hA x.s w.us[j]!.cands[c[j]!.toNat]!.v ⟨hsm.2,hvs (by have hf:0<=c[j]! :=J4;exact hf)⟩) ?_;refine zr ?_;unfold kH;rw[hjt]
def NL:aj:=ba 81
def w623 (hA:C624 Y):tM (cq Y NL):=fun w c l hp0=>by
 refine zg ?_;intro u0;refine zf hm (fun i=>[.u 1,.m 1 c (D.int .i64),.m 3 l Want.D,.u 1,.i i,.i l.length,.u 1,.m 3 l Want.D,.p 0 1,.u 2]) (fun i=>[(0,.buf 1 [bT.D w])]) 5 (fun i=>i<=l.length/\Du w c l=ot (fun i=>kH w c l[i]!) i l.length) (fun i=>l.length-i) ⟨ae,MQ⟩ [(0,0)] ?_;rintro i ⟨hi,hr⟩;refine zc ?_ ?_<;>intro hc0
 .refine zc ?_ ?_<;>intro hc1
  .refine zr ?_;rw[hr,jO ae,hc1];rfl
  refine gD (i+1) [(0,0)] ?_;rw[hr,jO ae];simp only[hc1,Bool.false_or]
 refine zr ?_;rw[hr,sI ae]
def T5:aj:=ba 40
def w170 (hA:C169 Y):tv (cq Y T5):=fun w c hp0=>by
 refine zg ?_;intro u0 u1;refine dG ?_ ?_<;>intro hc0
 .refine zr ?_;rw[acQ hc0]
 refine zg ?_;refine zf hm (fun i=>[.u 1,.m 1 c (D.int .i64),.u 1,.p 0 1,.u 1,.i i,.u 2]) (fun i=>[(0,.buf 1 [bT.D w])]) 14 (fun i=>i<=c.length/\eB w c=bU (Aw w c) i c.length) (fun i=>c.length-i) ⟨ae,by unfold eB;unfold uf;rw[bo ae,ew,hc0.2,ew]⟩ [(0,0)] ?_;rintro i ⟨hi,hr⟩;refine zg ?_;intro u2;refine dG ?_ ?_<;>intro hc1
 .refine zc ?_ ?_<;>intro hc2
  .refine zr ?_;rw[hr,az ae,QI hc2];rfl
  refine gD (i+1) [(0,0)] ?_;rw[hr,az ae,KQ hc2];rfl
 refine zr ?_;rw[hr,bA ae]
def T6:aj:=ba 108
def w629 {Y:Ctx}(hm:(Y.at 0).bV)(hA:C627 Y):tN (cq Y T6):=fun w c x hp0=>by
 refine kn ?_;obtain⟨hsm,⟨hx0,hx1⟩,hft⟩:=hp0;have hfc:=m8 hft;obtain⟨j,hj⟩:∃j:Nat,x.u=(j:Int):=⟨x.u.toNat,ae⟩
 have hjt:x.u.toNat=j:=ae;have hjl:j<w.us.length:=ae;have hcj:=hfc.2 j ae;have hun:=hsm.1 _ (aq hjl);have hvs:0<=c[j]! ->w.us[j]!.cands[c[j]!.toNat]!.v.sm:=fun h=>(hun.2 _ (aq ae)).1
 refine ib ?_;refine qL ?_;refine cF c[j]!.toNat (hj:=fun hf=>vP) (hb:=fun hf=>vP) ?_;refine cV ?_;refine c7 (v:=bX.D w.us[j]!.cands[c[j]!.toNat]!.v) (hi:=fun hf=>vP) ?_;refine ct (hc:=fun hf=>hA x.s w.us[j]!.cands[c[j]!.toNat]!.v ⟨hsm.2,hvs (by have hf:0<=c[j]! :=J4;exact hf)⟩) ?_;refine zr ?_;unfold kH;rw[hjt]
def Pe:aj:=ba 126
def w628 (hA:C629 Y):tM (cq Y Pe):=fun w c l hp0=>by
 refine zg ?_;refine zf hm (fun i=>[.u 1,.m 1 c (D.int .i64),.m 3 l Want.D,.u 1,.i i,.u 1,.p 0 1,.u 1]) (fun i=>[(0,.buf 1 [bT.D w])]) 3 (fun i=>i<=l.length/\Du w c l=ot (fun i=>kH w c l[i]!) i l.length) (fun i=>l.length-i) ⟨ae,MQ⟩ [(0,0)] ?_;rintro i ⟨hi,hr⟩;refine zg ?_;intro u0;refine dG ?_ ?_<;>intro hc0
 .refine zc ?_ ?_<;>intro hc1
  .refine zr ?_;rw[hr,jO ae,hc1];rfl
  refine gD (i+1) [(0,0)] ?_;rw[hr,jO ae];simp only[hc1,Bool.false_or]
 refine zr ?_;rw[hr,sI ae]
def Ud:aj:=ba 88
def w630:tJ (cq Y Ud):=fun a b=>by
 refine zc ?_ ?_<;>intro hc0
 .refine zr ?_;unfold dh;rw[ak hc0]
 refine zc ?_ ?_<;>intro hc1
 .refine zr ?_;unfold dh;rw[ah hc0,ak hc1]
 refine zr ?_;unfold dh;rw[ah hc0,ah hc1]
def Pm:aj:=ba 173
def w927:tI (cq Y Pm):=fun a b=>by
 refine zc ?_ ?_<;>intro hc0
 .refine zr ?_;simp[pn,hc0]
 refine zc ?_ ?_<;>intro hc1
 .refine zr ?_;simp_all[pn]
 refine zr ?_;simp_all[pn]
def YU:aj:=ba 135
def w783 (hA:UY Y)(hB:C667 Y)(hC:C668 Y)(hD:C927 Y):tL (cq Y YU):=fun a b=>by
 refine zc ?_ ?_<;>intro hc0
 .refine zr ?_;unfold xP;rw[ak hc0]
 refine zc ?_ ?_<;>intro hc1
 .refine zr ?_;have hn:¬(cK a=true/\cK b=true):=by rintro⟨h1,h2⟩;simp[h1,h2]at hc0
  unfold xP;rw[ah hn];rw[ak hc1]
 refine zc ?_ ?_<;>intro hc2
 .refine zr ?_;have hn:¬(cK a=true/\cK b=true):=by rintro⟨h1,h2⟩;simp[h1,h2]at hc0
  unfold xP;rw[ah hn];rw[ah (by simp[hc1]),ak hc2]
 refine zr ?_;have hn:¬(cK a=true/\cK b=true):=by rintro⟨h1,h2⟩;simp[h1,h2]at hc0
 unfold xP;rw[ah hn];rw[ah (by simp[hc1]),ah (by simp[hc2])]
def Ue:aj:=ba 89
def w631 (hA:C470 Y)(hB:UY Y)(hC:C783 Y):Jl (cq Y Ue):=fun a b hp0=>by
 refine zc ?_ ?_<;>intro hc0
 .refine zr ?_;unfold AJ;rw[ak hc0]
 refine zc ?_ ?_<;>intro hc1
 .refine zr ?_;unfold AJ;rw[ah hc0,ak hc1]
 refine zc ?_ ?_<;>intro hc2
 .refine zr ?_;unfold AJ;rw[ah hc0,ah hc1,ak hc2]
 refine zg ?_;refine zf hm (fun i=>[.u 6,.i i,.m 1 (a7 a 46) D.str,.m 1 (a7 b 46) D.str,.u 3]) (fun i=>[]) 18 (fun i=>(i<=(a7 a 46).length/\i<=(a7 b 46).length)/\AJ a b=uS (a7 a 46) (a7 b 46) i) (fun i=>(a7 a 46).length-i) ⟨⟨ae,ae⟩,by unfold AJ;rw[ah hc0,ah hc1,ah hc2]⟩ [] ?_;rintro i ⟨hi,hr⟩;refine zg ?_;intro u0;refine dG ?_ ?_<;>intro hc3
 .refine zc ?_ ?_<;>intro hc4
  .refine zr ?_;rw[hr,FY ae hc4]
  refine zl (i+1) [] ?_;exact⟨⟨ae,ae⟩,by rw[hr,MR ae hc4]⟩
 refine zg ?_;intro u1 u2;refine zr ?_;rw[hr,FX ae]
def HN:aj:=⟨2,12,[⟨2,none⟩],UI,(sq (rg [gb 5 s0,gb 5 s1,gm x8] [(3,0),(4,1),(2,2)]) (sq (sq (r1 [gk 5 true s3,gx 217 [l0] ha5,gno l1,gm l2,A8 3 (.ld 5 true s4),A8 3 (.call 217 [l4] ha5),A8 3 (.un .not l5),go1 l3 l6] 5 7) (.cond s5 (sq (r1 [gm x8] 2 0) .ret) .skip)) (sq (sq (r1 [gf 0 s3,gd l0,gf 0 s4,gd l2,gx 630 [l1,l3] qm,gm l4] 6 5) (sq (r1 [gm s6,rW l0 x8] 7 1) (.cond s7 (sq (r1 [gm s6,gm l0] 2 1) .ret) .skip))) (sq (sq (r1 [gf 1 s3,gd l0,gf 1 s4,gd l2,gx 630 [l1,l3] qm,gm l4] 8 5) (sq (r1 [gm s8,rW l0 x8] 9 1) (.cond s9 (sq (r1 [gm s8,gm l0] 2 1) .ret) .skip))) (sq (sq (r1 [gf 2 s3,gd l0,gf 2 s4,gd l2,gx 630 [l1,l3] qm,gm l4] 10 5) (sq (r1 [gm Un,rW l0 x8] 11 1) (.cond s11 (sq (r1 [gm Un,gm l0] 2 1) .ret) .skip))) (sq (r1 [gf 3 s3,gd l0,gf 3 s4,gd l2,gx 631 [l1,l3] qm,gm l4] 2 5) .ret))))))⟩
def w424 {Y:Ctx}(hm:(Y.at 0).bV)(hA:Bv Y)(hB:UY Y)(hC:C631 Y):tx (cq Y HN):=fun a b hp0=>by
 refine zg ?_;refine aQ (fun hc0=>?_) (fun hc0=>?_)
 .simp only[dC,cz]at hc0;refine zr ?_;unfold iz;rw[ak hc0]
 simp only[eW,df]at hc0;have hv:¬(gA a=false\/gA b=false):=by simp only[not_or,Bool.not_eq_false];first|exact hc0|exact hc0.1
 refine zc ?_ ?_<;>intro hc1
 .refine zr ?_;unfold iz;rw[ah hv,ak hc1]
 refine zc ?_ ?_<;>intro hc2
 .refine zr ?_;unfold iz;rw[ah hv,ah lK,ak hc2]
 refine zc ?_ ?_<;>intro hc3
 .refine zr ?_;unfold iz;rw[ah hv,ah lK,ah (by simpa using hc2),ak hc3]
 refine kn ?_;refine aE (hc:=hC a.pre b.pre ⟨hp0.1.1,hp0.2.1⟩) ?_;refine zr ?_;unfold iz;rw[ah hv,ah lK,ah (by simpa using hc2),ah x6]
def Mh:aj:=ba 149
def w753 (hA:C672 Y)(hB:C904 Y)(hC:C905 Y)(hD:C906 Y)(hE:U0 Y):JB (cq Y Mh):=fun r e ft hp0=>by
 refine cV ?_;have hof:=(wX hp0.1.1 ft).1;refine zc ?_ ?_<;>intro hc0
 .refine zr ?_;rw[show cH r e ft=qx r.needs e []from ak hc0];rfl
 refine kn ?_;refine cy _ ?_;refine fk ?_;refine a8 (Key.D (⟨r.name,[]⟩)) ?_;refine cV ?_;refine a8 (je.D (⟨⟨r.name,[]⟩,dz r.v⟩:je)) ?_;refine bc [je.D (⟨⟨r.name,[]⟩,dz r.v⟩:je)] ?_;refine bc [.own 15 4 0 1] ?_;refine dD ?_;refine bB 15 ?_ (he:=lj) (hm:=lj);refine zg ?_;intro u0;refine zf hm (fun i=>[.u 2,.e (.str ft),.u 2,.p 1 9,.p 2 3,.p 3 2,.i i,.i ((uC r.feats ft).length:Nat),.u 1,.m 1 (uC r.feats ft) D.str,.u 4,.o 0 1 ((yC r e ft i)).length,.u 3]) (fun i=>[(0,.buf 1 (((yC r e ft i)).map dL)),(1,.buf 9 [Rec.D r]),(2,.buf 3 [Env.D e]),(3,.buf 2 [cr.D (dz r.v)])]) 24 (fun i=>i<=(uC r.feats ft).length) (fun i=>(uC r.feats ft).length-i) ae [(16,0),(0,1),(1,2),(8,3)] ?_;intro i hi;have hnl:=Xv (ft:=ft) (e:=e) hp0.1.1 i;refine zc ?_ ?_<;>intro hc1
 .refine p9 ?_;have hil:=(sR (e:=e) (s:=(uC r.feats ft)[i]!) hp0.1.1).1;refine cV ?_;refine aE (hc:=hA (((uC r.feats ft))[i]!) (by first|assumption|omega|exact⟨hp0.1.1,hp0.2⟩|exact ZF hp0.1.2|exact(wX hp0.1.1 ft).2 _ (aq ae))) ?_;refine zc ?_ ?_<;>intro hc2
  .refine kV ?_;refine a8 (Key.D (⟨r.name,(bI (((uC r.feats ft))[i]!)).2.1⟩)) ?_;refine cV ?_;refine a8 (je.D (⟨⟨r.name,(bI (uC r.feats ft)[i]!).2.1⟩,dz r.v⟩:je)) ?_;refine bc [je.D (⟨⟨r.name,(bI (uC r.feats ft)[i]!).2.1⟩,dz r.v⟩:je)] ?_;refine bc [.own 47 4 0 1] ?_;refine xg ((yC r e ft i).map dL++[.own 47 4 0 1]) (n:=((yC r e ft i)++[[(⟨⟨r.name,(bI (uC r.feats ft)[i]!).2.1⟩,dz r.v⟩:je)]]).length) (ha:=lL) (he:=nF.own rfl (by first|rfl|simp)) (hz:=xY) (hn:=D8) (hb:=Ea) ?_;refine fk ?_;refine bB 47 ?_ (he:=lj) (hm:=lj);refine zg ?_;rw[pg,<-air hc2,Oo ae];exact ij (i+1) [(49,0),(1,1),(2,2),(3,3)]
  refine zc ?_ ?_<;>intro hc3
  .refine kn ?_;refine oR (q:=dL) (xs:=(yC r e ft i)) (ys:=qx r.needs e (bI (uC r.feats ft)[i]!).2.1) (he:=nF.sl) (hb:=by have:=(xa (e:=e) (o:=(bI (uC r.feats ft)[i]!).2.1) (gh hp0.1.1).2).1;have:=(gh hp0.1.1).1;omega) ?_;refine zg ?_;rw[<-ais hc2 hc3,Oo ae];exact ij (i+1) [(47,0),(1,1),(2,2),(3,3)]
  refine qL ?_;refine oR (q:=dL) (xs:=(yC r e ft i)) (ys:=iN r.needs e (bI (uC r.feats ft)[i]!).2.1 (bI (uC r.feats ft)[i]!).2.2) (he:=nF.sl) (hb:=by have:=(yK (e:=e) (nm:=(bI (uC r.feats ft)[i]!).2.1) (ft:=(bI (uC r.feats ft)[i]!).2.2) (gh hp0.1.1).2).1;have:=(gh hp0.1.1).1;omega) ?_;refine zg ?_;rw[<-ait hc2 hc3,Oo ae];exact ij (i+1) [(48,0),(1,1),(2,2),(3,3)]
 refine cU ?_;obtain rfl:i=(uC r.feats ft).length:=ae;rw[aiP hc0];refine bB 0 ?_ (he:=lj) (hm:=lj);exact my
def oW:aj:=ba 151
def w755 {Y:Ctx}(hm:(Y.at 3).bV)(y:cx)(ns:List av)(nm:av)(hA:C909 (Y.at 3))(hp0:pe y)(hp1:ns.length<=1000):dn (Y.at 3) oW.body (uc oW (Kj y (eL ns nm) (uj (dE y nm))):Ex->List aX->St->Prop) (fI oW [cx.D y (.ptr 0 2 0 0),.str nm]) ⟨3,[(0,.buf 2 [eG 1 2 ns.length]),(1,.buf 1 (ns.map D.str)),(2,.buf 1 (de y ns))]⟩:=by
 show dn _ _ _ [⟨true,cx.D y (.ptr 0 2 0 0)⟩,⟨true,.str nm⟩,.un,.un,.un,.un,.un,.un] ⟨3,[(0,.buf 2 [eG 1 2 ns.length]),(1,.buf 1 (ns.map D.str)),(2,.buf 1 (de y ns))]⟩;refine aP ?_;refine zg ?_;refine zf hm (fun i=>[.u 1,.e (.str nm),.u 1,.i i,.p 3 8,.u 3]) (fun i=>[(0,.buf 2 [eG 1 2 ns.length]),(1,.buf 1 (ns.map D.str)),(2,.buf 1 (de y ns)),(3,.buf 8 [cx.D y (.ptr 0 2 0 0)])]) 6 (fun i=>i<=ns.length/\∀j,j<i->ns[j]! ≠nm) (fun i=>ns.length-i) ⟨ae,fun j h=>ae⟩ [(3,3)] ?_;rintro i ⟨hi,hr⟩;refine zg ?_;intro _;refine dG ?_ ?_<;>intro hc0
 .refine uq ?_;refine xk (q:=D.str) (xs:=ns) (v:=.str ns[i]!) (hi:=fun _=>ae) (hv:=fun _=>tZ) ?_;refine zc ?_ ?_<;>intro hc1
  .refine p9 ?_;refine xk (q:=fun nm=>uj (dE y nm)) (xs:=ns) (v:=uj (dE y ns[i]!)) (hi:=fun _=>ae) (hv:=fun _=>tZ) ?_;refine cV ?_;refine bp (env':=[_,_,⟨_,(.sl _ _)⟩,_,_,_,_,_]) ?_;refine zg ?_;refine dY trivial jo (dc ai (?_)) ai ⟨by first|(rw[<-hc1];done)|(rw[<-hc1];exact rfl),1,2,⟨ae,ae,ae⟩,by rw[aba ae hc1];refine⟨?_, ?_, ?_⟩<;>first|exact rfl|(rw[nb];exact rfl)|(rw[na];exact rfl)⟩;rfl
  refine gD (i+1) [(3,3)] ?_;exact fun j h=>by rcases Nat.lt_succ_iff_lt_or_eq.1 h with h|rfl;exact hr j h;exact hc1
 refine dD ?_;have hout:=Vr (ns:=ns) (nm:=nm) fun j h=>hr j ae
 refine cU ?_;refine dA (nx':=16) (v:=uj (dE y nm)) (m':=[(16,.buf 1 ((ns).map D.str)),(17,.buf 1 (de y (ns))),(0,.buf 2 [eG 16 17 (ns).length]),(3,.buf 8 [cx.D y (.ptr 0 2 0 0)])]) (hc:=fun K' hK=>hA y ns nm hp0 _ 0 1 2 _ K' eo eo eo aU ⟨rfl,rfl,rfl⟩ hK) (hn:=aU) ?_;refine cV ?_;refine bp (env':=[_,_,_,_,_,_,_,⟨_,(.sl _ _)⟩]) ?_;refine cU ?_;refine Yy (v:=.ptr 0 2 0 0) ?_;refine cV ?_;refine Yy (v:=.ptr 0 2 0 0) ?_;refine kn ?_;refine bc [.str nm] ?_;refine cI (q:=D.str) (xs:=ns) (e:=nm) (hb:=ae) ?_;refine cV ?_;refine yN (v:=.ptr 0 2 0 0) ?_;refine cU ?_;refine yN (v:=.own 17 1 0 ns.length) ?_;refine cV ?_;refine bc [uj (dE y nm)] ?_;refine cI (q:=fun nm=>uj (dE y nm)) (xs:=ns) (e:=nm) (hb:=ae) ?_;refine cU ?_;refine aeY (.agg [.own 31 1 0 (ns++[nm]).length,.own 17 1 0 ns.length]) ?_;refine cU ?_;refine aeY (eG 31 39 (ns++[nm]).length) ?_;refine zg ?_;refine dY trivial jo (dc ai (?_)) ai ⟨cY,31,39,⟨ae,ae,ae⟩,by rw[hout];refine⟨?_, ?_, ?_⟩<;>first|exact rfl|(rw[nb];exact rfl)|(rw[na];exact rfl)⟩;rfl
def O3:aj:=ba 58
def w360 (hA:UR Y)(hB:C581 Y):IJ (cq Y O3):=fun l hp0=>by
 refine cV ?_;have hya:=xW hp0;refine bE ?_;refine bE ?_;refine bp (env':=[_,⟨_,.aK⟩,⟨_,(.int _ _)⟩,_,_,_,_,_,_,_,_,_,_]) ?_;refine fO ?_;refine aP ?_;refine bE ?_;refine aE (hc:=hA (l) (by first|assumption|omega)) ?_;refine bE ?_;refine kL (.int _ _) ?_;refine kL (.int _ _) ?_;refine bE ?_;refine bE ?_;refine bp (env':=[_,_,_,⟨_,(.int _ _)⟩,_,_,_,_,_,_,_,_,_]) ?_;refine fO ?_;refine aP ?_;refine bE ?_;refine oT ?_;refine bp (env':=[_,_,_,_,⟨_,(.bool _)⟩,_,_,_,_,_,_,_,_]) ?_;refine dG ?_ ?_<;>intro hc0
 .exact absurd trivial hc0
 refine dD ?_;refine bp (env':=[_,_,_,_,_,_,_,_,_,⟨_,.aK⟩,_,_,_]) ?_;refine hR (aY.nz _ [_,_,_,_,_,_,_,_,_,⟨true,.sl 2 []⟩,_,_,_] _ _ _ ⟨⟨rfl,.refl _⟩,⟨rfl,.refl _⟩,⟨rfl,.refl _⟩,⟨rfl,.refl _⟩,⟨rfl,.refl _⟩,⟨rfl,.refl _⟩,⟨rfl,.refl _⟩,⟨rfl,.refl _⟩,⟨rfl,.refl _⟩,⟨rfl,.nil 2⟩,⟨rfl,.refl _⟩,⟨rfl,.refl _⟩,⟨rfl,.refl _⟩,trivial⟩ Qh.nil) ?_;refine dD ?_;refine bp (env':=[_,_,_,_,_,⟨_,(.int _ _)⟩,_,_,_,_,_,_,_]) ?_;refine zf hm (fun i=>[.m 11 l gO.D,.u 4,.i i,.u 3,.m 2 ((gw l).take (if i=0 then 0 else(gw l).length)) iC.D,.u 3]) (fun i=>[]) 13 (fun i=>i<=l.length) (fun i=>l.length-i) ae [] ?_;intro i hi;refine zg ?_;intro u0;refine dG ?_ ?_<;>intro hc1
 .refine dD ?_;obtain rfl:i=0:=by have:=hya.1;omega
  obtain⟨hyp1,hyp2,hyp3,hyp4⟩:=tj hp0 (i:=0) ae;rw[ak rfl];refine zg ?_;refine ZT hm (fun k=>[.m 11 l gO.D,.u 4,.i 0,.u 1,.i k,.u 1,.m 2 ((gw l).take k) iC.D,.u 3]) (fun k=>[]) 18 (fun k=>k<=(gw l).length) (fun k=>(gw l).length-k) ae [] ?_;intro k hk;refine qL ?_;refine c7 (v:=.sl 2 ((gw l).map iC.D)) (hi:=fun _=>ae) ?_;refine zg ?_;intro u1;refine dG ?_ ?_<;>intro hc2
  .refine dD ?_;have hk0:k=0:=by have:(gw l).length<=1:=hyp3;omega
   have hpp:=X1 hk0 (l:=gw l) ae;refine kV ?_;refine c7 (v:=.sl 2 ((gw l).map iC.D)) (hi:=fun _=>ae) ?_;refine zc ?_ ?_<;>intro hc3
   .exfalso;rw[hpp]at hc3;exact absurd hc3 aF
   refine zg ?_;rw[hpp];exact ij (k+1) []
  refine zg ?_;obtain rfl:k=(gw l).length:=ae;exact ij (0+1) []
 refine zr ?_;rw[ah (by have:=hya.1;omega),List.take_length];rfl
def C0:aj:=ba 190
def w904 (hA:C907 Y)(hB:UO Y):JO (cq Y C0):=fun r e o hp0=>by
 refine cV ?_;have hns:=gh hp0.1;refine zg ?_;refine zf hm (fun i=>[.u 2,.e (.str o),.u 1,.i i,.p 1 9,.u 2,.p 2 3,.u 1,.o 0 1 ((qx (r.needs.take i) e o)).length]) (fun i=>[(0,.buf 1 (((qx (r.needs.take i) e o)).map dL)),(1,.buf 9 [Rec.D r]),(2,.buf 3 [Env.D e])]) 5 (fun i=>i<=r.needs.length) (fun i=>r.needs.length-i) ae [(0,1),(1,2)] ?_;intro i hi;have hol:=(xa (ns:=r.needs.take i) (e:=e) (o:=o) fun n hn=>hns.2 n (DB hn)).1;rw[ek]at hol;refine zg ?_;intro u0;refine dG ?_ ?_<;>intro hc0
 .refine x9 ?_;refine cy _ ?_;refine uq ?_;refine ct (hc:=fun hf=>hA _ (e) ?_) ?_;rotate_left;first|assumption|omega|exact⟨hns.2 _ (aq ae),hp0.1.2.2.1 _ (aq ae)⟩|exact⟨(hp0.1.2.2.1 _ (aq ae)).2.1,hp0.2⟩
  refine zc ?_ ?_<;>intro hc1
  .refine cV ?_;have hrl:=(tc (hns.2 _ (aq (show i<r.needs.length by omega)))).1;refine cU ?_;refine aE (hc:=hB _ ?_) ?_;rotate_left;first|assumption|omega|exact⟨hns.2 _ (aq ae),hp0.1.2.2.1 _ (aq ae)⟩|exact⟨(hp0.1.2.2.1 _ (aq ae)).2.1,hp0.2⟩
   refine oR (q:=dL) (xs:=(qx (r.needs.take i) e o)) (ys:=iA r.needs[i]!) (he:=nF.sl) (hb:=ae) ?_;refine zg ?_;rw[<-ajf hc1,XU ae];exact ij (i+1) [(30,0),(1,1),(2,2)]
  refine zg ?_;rw[show(qx (r.needs.take i) e o)=qx (r.needs.take (i+1)) e o from by rw[<-XU ae,aje hc1,fZ]];exact ij (i+1) [(0,0),(1,1),(2,2)]
 refine cU ?_;obtain rfl:i=r.needs.length:=ae;rw[List.take_length];refine bB 0 ?_;exact my
def yt:aj:=ba 3
def w1216 {Y:Ctx}(hm:(Y.at 0).bV)(hA:C28 Y)(hB:C29 Y)(hC:C89 Y)(hD:C90 Y)(hE:C91 Y)(hF:C92 Y)(hG:C153 Y)(hH:C264 Y)(hI:C265 Y):D5 (cq Y yt):=fun ys ss os n=>by
 refine zg ?_;intro u0;refine dG ?_ ?_<;>intro hc0
 .exact my
 refine ib ?_;have hyG:=ad0 ys ss 10 n;refine fk ?_;refine aE (hc:=hE (jx ys) (kd ss 10) (ll n) os ⟨hyG.p,ahP n⟩) ?_;refine zc ?_ ?_<;>intro hc1
 .exact my
 refine cU ?_;obtain⟨⟨hw,hwl,hwn⟩,hc00⟩:=Ur hyG (os:=os) lK;obtain⟨hq,hqn,hqm,hqh⟩:=MP hyG (os:=os) lK;have hss:=MN ss 10;have hlk:=of_w (c:=(dk (jx ys) (kd ss 10) (ll n) os).2.1) (adL ss 10) hw hwl hwn (ab4 n);have hl0:=hlk.sm aU;refine fk ?_;refine aE (hc:=hF (kd ss 10) (ll n) (dk (jx ys) (kd ss 10) (ll n) os).1 (dk (jx ys) (kd ss 10) (ll n) os).2.1 ⟨hss,hw,hc00⟩) ?_;refine zc ?_ ?_<;>intro hc2
 .exact my
 refine cU ?_;obtain⟨hcb,hkb⟩:=VO hq hqn hc00 (by simpa using hc2);refine fk ?_;refine aE (hc:=hH (kd ss 10) (ll n) (dk (jx ys) (kd ss 10) (ll n) os).1 (EA (kd ss 10) (ll n) (dk (jx ys) (kd ss 10) (ll n) os).1 (dk (jx ys) (kd ss 10) (ll n) os).2.1).1 ⟨hss,hw,hl0⟩) ?_;refine EO ?_;refine aE (hc:=hI (kd ss 10) (ll n) (dk (jx ys) (kd ss 10) (ll n) os).1 (EA (kd ss 10) (ll n) (dk (jx ys) (kd ss 10) (ll n) os).1 (dk (jx ys) (kd ss 10) (ll n) os).2.1).1 ⟨hss,hw,hl0⟩) ?_;refine zr ?_;simp[hcb,hkb]
def Mb:aj:=ba 26
def w136 {Y:Ctx}(hm:(Y.at 0).bV)(hA:C71 Y)(hB:C344 Y)(hC:C345 Y):Ik (cq Y Mb):=fun m hp0=>by
 refine x9 ?_;refine aE (hc:=hA m.r hp0.1) ?_;refine zg ?_;refine aQ (fun hc0=>?_) (fun hc0=>?_)
 .simp only[gF]at hc0;refine zg ?_;refine fE (bS (aw (D.int .i64) ?_) (aw (D.int .i64) ?_));all_goals rw[VN hc0]
 simp only[gF]at hc0;have q0:¬¬(cS m.r).1=0:=fun h=>h hc0
 refine zg ?_;intro u0;refine aQ (fun hc1=>?_) (fun hc1=>?_)
 .simp only[gF]at hc1;have hz:=VL q0 ae;refine zg ?_;refine fE (bS (aw (D.int .i64) ?_) (aw (D.int .i64) ?_));all_goals rw[hz]
 simp only[gF]at hc1;have q1:¬(8<m.ps.length\/8<m.hs.length):=ae;refine zg ?_;refine aQ (fun hc2=>?_) (fun hc2=>?_)
 .simp only[gF]at hc2;have hz:=VM q0 q1 rfl hc2;refine zg ?_;refine fE (bS (aw (D.int .i64) ?_) (aw (D.int .i64) ?_));all_goals rw[hz]
 simp only[gF]at hc2;have hz:=VK q0 q1 hc2 rfl;refine fk ?_;refine aE (hc:=hC m.hs hp0.2) ?_;refine zg ?_;refine fE (bS (aw (D.int .i64) ?_) (aw (D.int .i64) ?_));all_goals rw[hz]
def Oj:aj:=ba 29
def w114:Ij (cq Y Oj):=fun w hp0=>by
 refine zg ?_;refine zf hm (fun i=>[.u 2,.i i,.p 0 1,.i (vy w.us i:Nat),.u 2]) (fun i=>[(0,.buf 1 [bT.D w])]) 4 (fun i=>(i<=w.us.length/\vy w.us i<=20000000)/\CG w.us=LP w.us (w.us.length-i) i (vy w.us i)) (fun i=>w.us.length-i) ⟨⟨ae,show 1<=20000000 by decide⟩,rfl⟩ [(0,0)] ?_;rintro i ⟨⟨hi,hsz⟩,hr⟩;refine zg ?_;intro u0;refine dG ?_ ?_<;>intro hc0
 .refine dD ?_;have hu16:=(hp0 _ (aq (show i<w.us.length by omega))).1;have hs2:=adh (us:=w.us) (i:=i) hu16 ae;refine zc ?_ ?_<;>intro hc1
  .refine cV ?_;have hcast:=ajs (us:=w.us) (i:=i) hc1;refine x9 ?_;intro u1;refine xl (hb:=by rw[hcast];omega) ?_;refine zg ?_;rw[hcast];refine zl (i+1) [(0,0)] ?_;exact⟨⟨ae,hs2⟩,by rw[hr,Ru ae ae];rfl⟩
  refine zg ?_;rw[ajr hc1];refine zl (i+1) [(0,0)] ?_;exact⟨⟨ae,hs2⟩,by rw[hr,Ru ae ae];rfl⟩
 refine zr ?_;rw[hr,X7 ae]
def O6:aj:=ba 229
def w1015 (hA:C501 Y):DZ (cq Y O6):=fun y ns r hp0=>by
 refine zg ?_;refine zf hm (fun i=>[.u 3,.i i,.p 0 8,.u 1,.p 1 9,.u 1]) (fun i=>[(0,.buf 8 [cx.D y (fdR y ns)]),(1,.buf 9 [Rec.D r])]) 4 (fun i=>i<=y.keeps.length/\K8 y.keeps r=(y.keeps.drop i).any fun k=>decide (k.name=r.name)&&LC k.v r.v) (fun i=>y.keeps.length-i) ⟨ae,rfl⟩ [(0,0),(1,1)] ?_;rintro i ⟨hi,hr⟩;refine zg ?_;intro u0;refine dG ?_ ?_<;>intro hc0
 .refine zc ?_ ?_<;>intro hc1
  .refine zr ?_;rw[hr,v8 ae lK]
  refine gD (i+1) [(0,0),(1,1)] ?_;rw[hr,BB ae (by rcases hc1 with h|h<;>simp_all)]
 refine zr ?_;rw[hr,v7 ae]
def Ln:aj:=ba 11
def w92 {Y:Ctx}(hm:(Y.at 0).bV)(hA:C270 Y):PW (cq Y Ln):=fun shop e w c hp0=>by
 refine DU ?_;refine cV ?_;refine cy _ ?_;refine kn ?_;refine cy _ ?_;exact my
def Ug:aj:=ba 217
def w375 {Y:Ctx}(hm:(Y.at 0).bV)     :wkk Y Ug (cr.D Rk) []:=by
 refine fk ?_;refine bP _ ?_;refine cy _ ?_;exact my
end Go.Abs
end
