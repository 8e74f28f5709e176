/- A part of the proofs. -/
import Derived.Test.YtkmlboofmolbaaaGreatDoorP09
set_option linter.all false
set_option maxRecDepth 60000
set_option maxHeartbeats 2000000
noncomputable section
namespace Go.Abs
variable {Y:Ctx}(hm:(Y.at 0).bV)
def HL:aj:=ba 105
def w694 (hA:C693 Y)(hB:C829 Y)(hC:C830 Y)(hD:C831 Y):Ju (cq Y HL):=fun m al od c hp0=>by
 refine cV ?_;obtain⟨⟨hmp,hcp⟩,rfl,hop⟩:=hp0;have hml:=hmp.1;have hcl:=hcp.1;refine zc ?_ ?_<;>intro hc0
 .refine zr ?_;have h0:dX m od c=[]:=by unfold dX;rw[ak hc0]
  rw[h0];rfl
 refine cU ?_;obtain⟨hin1,hin2⟩:=Rp hcp hml.1 hc0;obtain⟨hwo1,hwo2⟩:=M8 hmp hcp hc0;obtain⟨U,hU⟩:∃U:Nat,(dV m c).1=(U:Int):=⟨(dV m c).1.toNat,ae⟩
 refine kn ?_;refine a8 (dR.D ⟨(dV m c).1,m.full[U]!⟩) ?_;refine bc [dR.D ⟨(dV m c).1,m.full[U]!⟩] ?_;refine zc ?_ ?_<;>intro hc1
 .refine cV ?_;obtain⟨hin3,hin4⟩:=hin2 lK;rw[hU,Int.toNat_natCast]at hin3 hin4;obtain⟨V,hV⟩:∃V:Nat,c[U]! =(V:Int):=⟨c[U]!.toNat,ae⟩
  obtain⟨N,hN⟩:∃N:Nat,(dV m c).2=(N:Int):=⟨(dV m c).2.toNat,ae⟩
  rw[hV,Int.toNat_natCast]at hin4;have hcU:=hcp.2 U ae;have hwq:bz m c=m.needs[U]![V]![N]! :=by unfold bz;rw[ak ae,hU,Int.toNat_natCast,hV,Int.toNat_natCast,hN,Int.toNat_natCast]
  refine fk ?_;refine c7 (v:=.sl 1 (m.needs[U]!.map ox)) (hi:=fun _=>ae) ?_;refine kV ?_;refine c7 (v:=.sl 1 (m.needs[U]![V]!.map H2)) (hi:=fun _=>ae) ?_;refine cU ?_;refine c7 (v:=.sl 2 (m.needs[U]![V]![N]!.map dR.D)) (hi:=fun _=>ae) ?_;refine cU ?_;refine bB 20 ?_ (he:=Am) (hm:=Am);refine fk ?_;rw[<-hwq];refine zg ?_;refine zf hm (fun k=>[.u 1,.m 1 ([]:List Int) (D.int .i64),.m 1 od jF,.m 1 c (D.int .i64),.u 1,.p 1 3,.u 4,.i k,.m 2 (bz m c) dR.D,.u 6,.o 0 2 (dK m od c (bz m c) k).length,.u 2]) (fun k=>[(0,.buf 2 ((dK m od c (bz m c) k).map dR.D)),(1,.buf 3 [j3.D m])]) 41 (fun k=>k<=(bz m c).length) (fun k=>(bz m c).length-k) ae [(0,1)] ?_;intro k hk;have hok2:=(wZ (m:=m) (c:=c) (ord:=od) (fun u hu=>(hmp.2 u hu).1.2) hop hwo1 k hk).2;refine zg ?_;intro u0;refine dG ?_ ?_<;>intro hc2
  .refine dD ?_;have hwk:=hwo1 _ (aq (show k<(bz m c).length by omega));obtain⟨U2,hU2⟩:∃U2:Nat,(bz m c)[k]!.u=(U2:Int):=⟨(bz m c)[k]!.u.toNat,ae⟩
   refine p9 ?_;rw[hU2];refine zg ?_;refine aQ (fun hc3=>?_) (fun hc3=>?_)
   .have hk1:dK m od c (bz m c) k=dK m od c (bz m c) (k+1):=by rw[dK,Fq,hU2,Int.toNat_natCast,ak x6]
    refine zg ?_;rw[hk1];exact ij (k+1) [(0,0),(1,1)]
   have hcU2:¬0<=c[U2]! :=by simpa only[cv,ge_iff_le]using hc3
   have hn16:=(hmp.2 U2 ae).1.2;have htr:(∀p∈(cC (cM od ((U2:Nat):Int)) m.needs[U2]!.length m.needs[U2]!.length),0<=p/\p<(m.needs[U2]!.length:Int))/\(cC (cM od ((U2:Nat):Int)) m.needs[U2]!.length m.needs[U2]!.length).length<=32:=H3 (m:=m) (ord:=od) (u:=((U2:Nat):Int)) (fun u hu=>(hmp.2 u hu).1.2) hop ⟨ae,ae⟩;have htl:=htr.2;have hk2:dK m od c (bz m c) (k+1)=jW (bz m c)[k]!.m ((U2:Nat):Int) (cC (cM od ((U2:Nat):Int)) m.needs[U2]!.length m.needs[U2]!.length) (cC (cM od ((U2:Nat):Int)) m.needs[U2]!.length m.needs[U2]!.length).length (dK m od c (bz m c) k):=by rw[dK,Fq,ah (by rw[hU2,Int.toNat_natCast];exact hcU2),MX,hU2,Int.toNat_natCast]
   refine p9 ?_;refine c7 (v:=.sl 1 (((m.needs)[U2]!).map ox)) (hi:=fun hf=>cg) ?_;refine zk1 ?_;intro u1;refine aE (hc:=hC od ((U2:Nat):Int) m.needs[U2]!.length ⟨⟨⟨ae,ae⟩,ae⟩,(hop U2 ae).1⟩) ?_;refine zg ?_;refine ZT hm (fun j=>[.u 1,.m 1 ([]:List Int) (D.int .i64),.m 1 od jF,.m 1 c (D.int .i64),.u 1,.p 1 3,.u 4,.i k,.m 2 (bz m c) dR.D,.u 1,.i U2,.u 1,.i j,.m 1 (cC (cM od ((U2:Nat):Int)) m.needs[U2]!.length m.needs[U2]!.length) (D.int .i64),.u 1,.o 0 2 (jW (bz m c)[k]!.m ((U2:Nat):Int) (cC (cM od ((U2:Nat):Int)) m.needs[U2]!.length m.needs[U2]!.length) j (dK m od c (bz m c) k)).length,.u 2]) (fun j=>[(0,.buf 2 ((jW (bz m c)[k]!.m ((U2:Nat):Int) (cC (cM od ((U2:Nat):Int)) m.needs[U2]!.length m.needs[U2]!.length) j (dK m od c (bz m c) k)).map dR.D)),(1,.buf 3 [j3.D m])]) 67 (fun j=>j<=(cC (cM od ((U2:Nat):Int)) m.needs[U2]!.length m.needs[U2]!.length).length) (fun j=>(cC (cM od ((U2:Nat):Int)) m.needs[U2]!.length m.needs[U2]!.length).length-j) ae [(0,0),(1,1)] ?_;intro j hj;have hoi2:(jW (bz m c)[k]!.m ((U2:Nat):Int) (cC (cM od ((U2:Nat):Int)) m.needs[U2]!.length m.needs[U2]!.length) j (dK m od c (bz m c) k)).length<=(dK m od c (bz m c) k).length+j:=CA _ _ _ j _;refine zg ?_;intro u2;refine dG ?_ ?_<;>intro hc4
   .refine dD ?_;have hT:=htr.1 _ (aq (show j<(cC (cM od ((U2:Nat):Int)) m.needs[U2]!.length m.needs[U2]!.length).length by omega));refine kV ?_;refine a8 (dR.D ⟨((U2:Nat):Int),(cC (cM od ((U2:Nat):Int)) m.needs[U2]!.length m.needs[U2]!.length)[j]!⟩) ?_;refine EO ?_;refine qY ((cC (cM od ((U2:Nat):Int)) m.needs[U2]!.length m.needs[U2]!.length)[j]!) (hb:=fun _=>by rw[IntKind.wrap_u64];omega) ?_;refine FB (2^((cC (cM od ((U2:Nat):Int)) m.needs[U2]!.length m.needs[U2]!.length)[j]!.toNat+1)) (hn:=fun _=>ae) (hb:=fun _=>Dp (n:=(cC (cM od ((U2:Nat):Int)) m.needs[U2]!.length m.needs[U2]!.length)[j]!.toNat) ae ae) ?_;refine CR (Gy (bz m c)[k]!.m (2^((cC (cM od ((U2:Nat):Int)) m.needs[U2]!.length m.needs[U2]!.length)[j]!.toNat+1))) (hb:=fun _=>rfl) ?_;refine EO ?_;refine ct (hc:=fun hf=>hD (jW (bz m c)[k]!.m ((U2:Nat):Int) (cC (cM od ((U2:Nat):Int)) m.needs[U2]!.length m.needs[U2]!.length) j (dK m od c (bz m c) k)) ⟨((U2:Nat):Int),(cC (cM od ((U2:Nat):Int)) m.needs[U2]!.length m.needs[U2]!.length)[j]!⟩) (ha:=fun _=>aw (fun d=>[d,dR.D ⟨((U2:Nat):Int),(cC (cM od ((U2:Nat):Int)) m.needs[U2]!.length m.needs[U2]!.length)[j]!⟩]) (ZO (q:=dR.D) (fun _=>rfl) ai)) (hp:=fun _=>⟨Sd (q:=dR.D) (fun _=>J6) ai,J6⟩) ?_;refine zg ?_;refine wp_cond (fun hc5=>?_) (fun hc5=>?_)
    .have hO1:jW (bz m c)[k]!.m ((U2:Nat):Int) (cC (cM od ((U2:Nat):Int)) m.needs[U2]!.length m.needs[U2]!.length) (j+1) (dK m od c (bz m c) k)=(jW (bz m c)[k]!.m ((U2:Nat):Int) (cC (cM od ((U2:Nat):Int)) m.needs[U2]!.length m.needs[U2]!.length) j (dK m od c (bz m c) k))++[⟨((U2:Nat):Int),(cC (cM od ((U2:Nat):Int)) m.needs[U2]!.length m.needs[U2]!.length)[j]!⟩]:=by rw[jW,OC,ak oJ]
     refine dD ?_;refine bc [dR.D ⟨((U2:Nat):Int),(cC (cM od ((U2:Nat):Int)) m.needs[U2]!.length m.needs[U2]!.length)[j]!⟩] ?_;refine cI (q:=dR.D) (xs:=(jW (bz m c)[k]!.m ((U2:Nat):Int) (cC (cM od ((U2:Nat):Int)) m.needs[U2]!.length m.needs[U2]!.length) j (dK m od c (bz m c) k))) (e:=⟨((U2:Nat):Int),(cC (cM od ((U2:Nat):Int)) m.needs[U2]!.length m.needs[U2]!.length)[j]!⟩) (hb:=ae) ?_;refine zg ?_;rw[<-hO1];exact ij (j+1) [(110,0),(1,1)]
    have hO1:jW (bz m c)[k]!.m ((U2:Nat):Int) (cC (cM od ((U2:Nat):Int)) m.needs[U2]!.length m.needs[U2]!.length) (j+1) (dK m od c (bz m c) k)=(jW (bz m c)[k]!.m ((U2:Nat):Int) (cC (cM od ((U2:Nat):Int)) m.needs[U2]!.length m.needs[U2]!.length) j (dK m od c (bz m c) k)):=by rw[jW,OC,ah oJ]
    refine zg ?_;rw[<-hO1];exact ij (j+1) [(0,0),(1,1)]
   refine zg ?_;rw[show j=(cC (cM od ((U2:Nat):Int)) m.needs[U2]!.length m.needs[U2]!.length).length by omega,<-hk2];exact ij (k+1) [(0,0),(1,1)]
  refine cU ?_;obtain rfl:k=(bz m c).length:=ae;have hov:dX m od c=dK m od c (bz m c) (bz m c).length:=by unfold dX;rw[ah hc0]
  refine bB 0 ?_ (he:=Am) (hm:=Am);refine zr ?_;rw[hov];rfl
 refine cV ?_;refine bB 20 ?_ (he:=Am) (hm:=Am);refine fk ?_;have hwq:bz m c=[⟨(dV m c).1,m.full[U]!⟩]:=by unfold bz;rw[ah ae,hU,Int.toNat_natCast]
 rw[show [dR.D ⟨(dV m c).1,m.full[U]!⟩]=(bz m c).map dR.D by rw[hwq];rfl];refine zg ?_;refine zf hm (fun k=>[.u 1,.m 1 ([]:List Int) (D.int .i64),.m 1 od jF,.m 1 c (D.int .i64),.u 1,.p 1 3,.u 4,.i k,.m 2 (bz m c) dR.D,.u 6,.o 0 2 (dK m od c (bz m c) k).length,.u 2]) (fun k=>[(0,.buf 2 ((dK m od c (bz m c) k).map dR.D)),(1,.buf 3 [j3.D m])]) 26 (fun k=>k<=(bz m c).length) (fun k=>(bz m c).length-k) ae [(0,1)] ?_;intro k hk;have hok2:=(wZ (m:=m) (c:=c) (ord:=od) (fun u hu=>(hmp.2 u hu).1.2) hop hwo1 k hk).2;refine zg ?_;intro u0;refine dG ?_ ?_<;>intro hc2
 .refine dD ?_;have hwk:=hwo1 _ (aq (show k<(bz m c).length by omega));obtain⟨U2,hU2⟩:∃U2:Nat,(bz m c)[k]!.u=(U2:Int):=⟨(bz m c)[k]!.u.toNat,ae⟩
  refine p9 ?_;rw[hU2];refine zg ?_;refine aQ (fun hc3=>?_) (fun hc3=>?_)
  .have hk1:dK m od c (bz m c) k=dK m od c (bz m c) (k+1):=by rw[dK,Fq,hU2,Int.toNat_natCast,ak x6]
   refine zg ?_;rw[hk1];exact ij (k+1) [(0,0),(1,1)]
  have hcU2:¬0<=c[U2]! :=by simpa only[cv,ge_iff_le]using hc3
  have hn16:=(hmp.2 U2 ae).1.2;have htr:(∀p∈(cC (cM od ((U2:Nat):Int)) m.needs[U2]!.length m.needs[U2]!.length),0<=p/\p<(m.needs[U2]!.length:Int))/\(cC (cM od ((U2:Nat):Int)) m.needs[U2]!.length m.needs[U2]!.length).length<=32:=H3 (m:=m) (ord:=od) (u:=((U2:Nat):Int)) (fun u hu=>(hmp.2 u hu).1.2) hop ⟨ae,ae⟩;have htl:=htr.2;have hk2:dK m od c (bz m c) (k+1)=jW (bz m c)[k]!.m ((U2:Nat):Int) (cC (cM od ((U2:Nat):Int)) m.needs[U2]!.length m.needs[U2]!.length) (cC (cM od ((U2:Nat):Int)) m.needs[U2]!.length m.needs[U2]!.length).length (dK m od c (bz m c) k):=by rw[dK,Fq,ah (by rw[hU2,Int.toNat_natCast];exact hcU2),MX,hU2,Int.toNat_natCast]
  refine p9 ?_;refine c7 (v:=.sl 1 (((m.needs)[U2]!).map ox)) (hi:=fun hf=>cg) ?_;refine zk1 ?_;intro u1;refine aE (hc:=hC od ((U2:Nat):Int) m.needs[U2]!.length ⟨⟨⟨ae,ae⟩,ae⟩,(hop U2 ae).1⟩) ?_;refine zg ?_;refine ZT hm (fun j=>[.u 1,.m 1 ([]:List Int) (D.int .i64),.m 1 od jF,.m 1 c (D.int .i64),.u 1,.p 1 3,.u 4,.i k,.m 2 (bz m c) dR.D,.u 1,.i U2,.u 1,.i j,.m 1 (cC (cM od ((U2:Nat):Int)) m.needs[U2]!.length m.needs[U2]!.length) (D.int .i64),.u 1,.o 0 2 (jW (bz m c)[k]!.m ((U2:Nat):Int) (cC (cM od ((U2:Nat):Int)) m.needs[U2]!.length m.needs[U2]!.length) j (dK m od c (bz m c) k)).length,.u 2]) (fun j=>[(0,.buf 2 ((jW (bz m c)[k]!.m ((U2:Nat):Int) (cC (cM od ((U2:Nat):Int)) m.needs[U2]!.length m.needs[U2]!.length) j (dK m od c (bz m c) k)).map dR.D)),(1,.buf 3 [j3.D m])]) 52 (fun j=>j<=(cC (cM od ((U2:Nat):Int)) m.needs[U2]!.length m.needs[U2]!.length).length) (fun j=>(cC (cM od ((U2:Nat):Int)) m.needs[U2]!.length m.needs[U2]!.length).length-j) ae [(0,0),(1,1)] ?_;intro j hj;have hoi2:(jW (bz m c)[k]!.m ((U2:Nat):Int) (cC (cM od ((U2:Nat):Int)) m.needs[U2]!.length m.needs[U2]!.length) j (dK m od c (bz m c) k)).length<=(dK m od c (bz m c) k).length+j:=CA _ _ _ j _;refine zg ?_;intro u2;refine dG ?_ ?_<;>intro hc4
  .refine dD ?_;have hT:=htr.1 _ (aq (show j<(cC (cM od ((U2:Nat):Int)) m.needs[U2]!.length m.needs[U2]!.length).length by omega));refine kV ?_;refine a8 (dR.D ⟨((U2:Nat):Int),(cC (cM od ((U2:Nat):Int)) m.needs[U2]!.length m.needs[U2]!.length)[j]!⟩) ?_;refine kn ?_;refine cF (k) (hj:=fun hf=>cg) (hb:=fun hf=>cg) ?_;refine zM ?_;refine c7 (v:=.int .i64 (((bz m c))[k]!.m)) (hi:=fun hf=>cg) ?_;refine bE ?_;refine bE ?_;refine cF (j) (hj:=fun hf=>cg) (hb:=fun hf=>cg) ?_;refine c7 (v:=.int .i64 (((cC (cM od ((U2:Nat):Int)) m.needs[U2]!.length m.needs[U2]!.length))[j]!)) (hi:=fun hf=>cg) ?_;refine qY ((cC (cM od ((U2:Nat):Int)) m.needs[U2]!.length m.needs[U2]!.length)[j]!) (hb:=fun _=>by rw[IntKind.wrap_u64];omega) ?_;refine FB (2^((cC (cM od ((U2:Nat):Int)) m.needs[U2]!.length m.needs[U2]!.length)[j]!.toNat+1)) (hn:=fun _=>ae) (hb:=fun _=>Dp (n:=(cC (cM od ((U2:Nat):Int)) m.needs[U2]!.length m.needs[U2]!.length)[j]!.toNat) ae ae) ?_;refine CR (Gy (bz m c)[k]!.m (2^((cC (cM od ((U2:Nat):Int)) m.needs[U2]!.length m.needs[U2]!.length)[j]!.toNat+1))) (hb:=fun _=>rfl) ?_;refine oT ?_;refine bE ?_;refine bE ?_;refine bE ?_;refine bE ?_;refine bE ?_;refine cF (j) (hj:=fun hf=>cg) (hb:=fun hf=>cg) ?_;refine c7 (v:=.int .i64 (((cC (cM od ((U2:Nat):Int)) m.needs[U2]!.length m.needs[U2]!.length))[j]!)) (hi:=fun hf=>cg) ?_;refine ct (hc:=fun hf=>hB [] ((U2:Nat):Int) (cC (cM od ((U2:Nat):Int)) m.needs[U2]!.length m.needs[U2]!.length)[j]! rfl) ?_;refine uD ?_;refine bE ?_;refine bE ?_;refine mf (d:=dR.D ((⟨((U2:Nat):Int),(cC (cM od ((U2:Nat):Int)) m.needs[U2]!.length m.needs[U2]!.length)[j]!⟩:dR))) ?_;refine ct (hc:=fun hf=>hD (jW (bz m c)[k]!.m ((U2:Nat):Int) (cC (cM od ((U2:Nat):Int)) m.needs[U2]!.length m.needs[U2]!.length) j (dK m od c (bz m c) k)) ⟨((U2:Nat):Int),(cC (cM od ((U2:Nat):Int)) m.needs[U2]!.length m.needs[U2]!.length)[j]!⟩) (ha:=fun _=>aw (fun d=>[d,dR.D ⟨((U2:Nat):Int),(cC (cM od ((U2:Nat):Int)) m.needs[U2]!.length m.needs[U2]!.length)[j]!⟩]) (ZO (q:=dR.D) (fun _=>rfl) ai)) (hp:=fun _=>⟨Sd (q:=dR.D) (fun _=>J6) ai,J6⟩) ?_;refine RA ?_;refine uD ?_;refine bp (env':=[_,_,_,_,_,_,_,_,_,_,_,_,_,_,_,_,_,_,_,_,⟨_,(.bool _)⟩]) ?_;refine wp_cond (fun hc5=>?_) (fun hc5=>?_)
   .have hO1:jW (bz m c)[k]!.m ((U2:Nat):Int) (cC (cM od ((U2:Nat):Int)) m.needs[U2]!.length m.needs[U2]!.length) (j+1) (dK m od c (bz m c) k)=(jW (bz m c)[k]!.m ((U2:Nat):Int) (cC (cM od ((U2:Nat):Int)) m.needs[U2]!.length m.needs[U2]!.length) j (dK m od c (bz m c) k))++[⟨((U2:Nat):Int),(cC (cM od ((U2:Nat):Int)) m.needs[U2]!.length m.needs[U2]!.length)[j]!⟩]:=by rw[jW,OC,ak oJ]
    refine oY ?_;refine bE ?_;refine mf (d:=dR.D ((⟨((U2:Nat):Int),(cC (cM od ((U2:Nat):Int)) m.needs[U2]!.length m.needs[U2]!.length)[j]!⟩:dR))) ?_;refine bc [dR.D ⟨((U2:Nat):Int),(cC (cM od ((U2:Nat):Int)) m.needs[U2]!.length m.needs[U2]!.length)[j]!⟩] ?_;refine cI (q:=dR.D) (xs:=(jW (bz m c)[k]!.m ((U2:Nat):Int) (cC (cM od ((U2:Nat):Int)) m.needs[U2]!.length m.needs[U2]!.length) j (dK m od c (bz m c) k))) (e:=⟨((U2:Nat):Int),(cC (cM od ((U2:Nat):Int)) m.needs[U2]!.length m.needs[U2]!.length)[j]!⟩) (hb:=ae) ?_;refine bE ?_;refine nr (env':=[_,_,_,_,_,_,_,_,_,_,_,_,_,_,_,_,_,_,⟨_,(.own _ _ _ _)⟩,_,_]) ?_;refine BQ.normal ?_;refine oY ?_;refine bE ?_;refine lO (hb:=fun hf=>cg) ?_;refine bE ?_;refine nr (env':=[_,_,_,_,_,_,_,_,_,_,_,_,_,_,_,⟨_,(.int _ _)⟩,_,_,_,_,_]) ?_;refine AY.normal ?_;rw[<-hO1];exact ij (j+1) [(95,0),(1,1)]
   have hO1:jW (bz m c)[k]!.m ((U2:Nat):Int) (cC (cM od ((U2:Nat):Int)) m.needs[U2]!.length m.needs[U2]!.length) (j+1) (dK m od c (bz m c) k)=(jW (bz m c)[k]!.m ((U2:Nat):Int) (cC (cM od ((U2:Nat):Int)) m.needs[U2]!.length m.needs[U2]!.length) j (dK m od c (bz m c) k)):=by rw[jW,OC,ah oJ]
   refine wp_skip ?_;refine BQ.normal ?_;refine oY ?_;refine bE ?_;refine lO (hb:=fun hf=>cg) ?_;refine bE ?_;refine nr (env':=[_,_,_,_,_,_,_,_,_,_,_,_,_,_,_,⟨_,(.int _ _)⟩,_,_,_,_,_]) ?_;refine AY.normal ?_;rw[<-hO1];exact ij (j+1) [(0,0),(1,1)]
  refine og ?_;refine AY.out ?_;refine BQ.normal ?_;refine oY ?_;refine bE ?_;refine lO (hb:=fun hf=>cg) ?_;refine bE ?_;refine nr (env':=[_,_,_,_,_,_,_,_,_,_,⟨_,(.int _ _)⟩,_,_,_,_,_,_,_,_,_,_]) ?_;refine LQ.normal ?_;rw[show j=(cC (cM od ((U2:Nat):Int)) m.needs[U2]!.length m.needs[U2]!.length).length by omega,<-hk2];exact ij (k+1) [(0,0),(1,1)]
 refine og ?_;refine LQ.out ?_;obtain rfl:k=(bz m c).length:=ae;have hov:dX m od c=dK m od c (bz m c) (bz m c).length:=by unfold dX;rw[ah hc0]
 refine bB 0 ?_ (he:=Am) (hm:=Am);refine aP ?_;refine bE ?_;refine bE ?_;refine bp (env':=[_,_,_,_,⟨_,(.sl _ _)⟩,_,_,_,_,_,_,_,_,_,_,_,_,_,_,_,_]) ?_;refine wp_ret ?_;refine zr ?_;rw[hov];rfl
def OS:aj:=ba 84
def w219 (hA:C249 Y)(hB:C316 Y)(hC:C461 Y)(hD:C462 Y):tt (cq Y OS):=fun r hp0=>by
 show dn _ _ _ [⟨_,_⟩,_,_,_,_,_,_,_,_,_,_,_,_] _;have hft:=sQ hp0;have q0:=hft.nm;have q00:=DL r.v hft.v;refine aP ?_;refine uq ?_;refine aE (hc:=hB r.v hft.v) ?_;refine zg ?_;refine fX hm (ι:=Nat) (fun i=>[.un,.un,⟨true,.ptr 0 9 0 0⟩,⟨true,.int .i64 (i:Nat)⟩,.un,⟨true,.str (kj r i)⟩,.un,.un,.un,.un,.un,.un,.un]) (fun i=>[(0,.buf 9 [Rec.D r])]) 13 (fun i=>i<=r.needs.length) (fun i=>r.needs.length-i) 0 ae (aY.to [(0,0)] ai ai (by repeat(first|exact fq.nil|refine fq.un ?_|refine fq.eq ai ?_|refine fq.nl (aw D.str (by rw[Zr];simp[uB,cj,ch,pR])) ai ?_)) CO) ?_;intro i hi;have q1:=H4 hft i hi;refine zg ?_;intro u0;refine dG ?_ ?_<;>intro hc0
 .refine dD ?_;have hnf:=hft.n _ (aq (show i<r.needs.length by omega));have hn3:=hnf.1.1;refine zg ?_;refine zf hm (fun j=>[.u 2,.p 0 9,.i i,.u 1,.e (.str (kj r i++dJ r.needs[i]! j)),.i j,.u 6]) (fun j=>[(0,.buf 9 [Rec.D r])]) 22 (fun j=>j<=r.needs[i]!.any.length) (fun j=>r.needs[i]!.any.length-j) ae [(0,0)] ?_;intro j hj;have q2:=Fl hnf j ae;refine zg ?_;intro u1;refine dG ?_ ?_<;>intro hc1
  .refine dD ?_;have hwf:=hnf.1.2 _ (aq (show j<r.needs[i]!.any.length by omega));have q3:=y1 hwf;refine zg ?_;exact⟨j+1,ae,ae,(aY.to [(0,0)] ai ai (by repeat(first|exact fq.nil|refine fq.un ?_|refine fq.eq ai ?_|refine fq.nl (aw D.str (by rw[nY ae,fm])) ai ?_)) CO)⟩
  refine dD ?_;have q4:=nE hnf.2.1;have q5:=hnf.2.2;refine qL ?_;refine aE (hc:=hD r.needs[i]!.when' hnf.2.1) ?_;refine zc ?_ ?_<;>intro hc2
  .refine zg ?_;have hq:kj r (i+1)=kj r i++(dJ r.needs[i]! j++kf r.needs[i]!.when'++xb r.needs[i]!.option):=by rw[mr ae,yD (j:=j) ae]
   have ho:xb r.needs[i]!.option=[111,112,116,105,111,110,32]++r.needs[i]!.option++[10]:=by rw[xb,ah hc2];simp[cj,ch,nt]
   exact⟨i+1,ae,ae,(aY.to [(0,0)] ai ai (by repeat(first|exact fq.nil|refine fq.un ?_|refine fq.eq ai ?_|refine fq.nl (aw D.str (by rw[hq,ho];simp only[fm])) ai ?_)) CO)⟩
  refine zg ?_;have hq:kj r (i+1)=kj r i++(dJ r.needs[i]! j++kf r.needs[i]!.when'++xb r.needs[i]!.option):=by rw[mr ae,yD (j:=j) ae]
  have ho:xb r.needs[i]!.option=[]:=by rw[xb,ak hc2]
  exact⟨i+1,ae,ae,(aY.to [(0,0)] ai ai (by repeat(first|exact fq.nil|refine fq.un ?_|refine fq.eq ai ?_|refine fq.nl (aw D.str (by rw[hq,ho];simp only[fm,fZ])) ai ?_)) CO)⟩
 refine fk ?_;have h33:i=r.needs.length:=ae;subst h33;refine zg ?_;refine fX hm (ι:=Nat) (fun i=>[.un,.un,⟨true,.ptr 0 9 0 0⟩,.un,.un,⟨true,.str (DF r i)⟩,.un,.un,.un,⟨true,.int .i64 (i:Nat)⟩,.un,.un,.un]) (fun i=>[(0,.buf 9 [Rec.D r])]) 19 (fun i=>i<=r.bars.length) (fun i=>r.bars.length-i) 0 ae (aY.to [(0,0)] ai ai (by repeat(first|exact fq.nil|refine fq.un ?_|refine fq.eq ai ?_|refine fq.nl (aw D.str (by rw[Zs])) ai ?_)) CO) ?_;intro i hi;have q1:=H5 hft i hi;refine zg ?_;intro u2;refine dG ?_ ?_<;>intro hc3
 .refine dD ?_;have q4:=hft.b _ (aq (show i<r.bars.length by omega));have q5:=q4.1;have q6:=q4.2.1.len;have q7:=nE q4.2.2.len;refine ib ?_;refine uq ?_;refine aE (hc:=hD r.bars[i]!.when' q4.2.2.len) ?_;refine zg ?_;have hq:=MY (r:=r) (i:=i) ae;exact⟨i+1,ae,ae,(aY.to [(0,0)] ai ai (by repeat(first|exact fq.nil|refine fq.un ?_|refine fq.eq ai ?_|refine fq.nl (aw D.str (by rw[hq];simp[Gt,cj,ch,y0])) ai ?_)) CO)⟩
 refine fk ?_;have h33:i=r.bars.length:=ae;subst h33;refine zg ?_;refine fX hm (ι:=Nat) (fun i=>[.un,.un,⟨true,.ptr 0 9 0 0⟩,.un,.un,⟨true,.str (F1 r i)⟩,.un,.un,.un,.un,.un,⟨true,.int .i64 (i:Nat)⟩,.un]) (fun i=>[(0,.buf 9 [Rec.D r])]) 25 (fun i=>i<=r.feats.length) (fun i=>r.feats.length-i) 0 ae (aY.to [(0,0)] ai ai (by repeat(first|exact fq.nil|refine fq.un ?_|refine fq.eq ai ?_|refine fq.nl (aw D.str (by rw[Zt])) ai ?_)) CO) ?_;intro i hi;have q1:=R4 hft i hi;refine zg ?_;intro u3;refine dG ?_ ?_<;>intro hc4
 .refine dD ?_;have q4:=hft.f _ (aq (show i<r.feats.length by omega));have q5:=E5 q4;have q6:=q4.2;simp only[wC,cj,cn,bD,b9]at q5;refine qL ?_;refine bc [(.str _),(.str _)] ?_;refine kn ?_;refine oR (xs:=[jL,r.feats[i]!.name]) (ys:=r.feats[i]!.of) (he:=nF.sl) (hb:=eo) ?_;refine aE (hc:=hA ([jL,r.feats[i]!.name]++r.feats[i]!.of) 32 ae) (ha:=fun _=>aw (fun d=>[d,D.int .u8 32]) (th (q:=D.str) (fun _=>rfl) ai)) (hp:=fun _=>⟨pT (q:=D.str) (fun _=>rfl) ai,rfl,trivial⟩) ?_;refine OJ (hb:=fun _=>by first|omega|(simp only[cn,bD,b9];omega)) ?_;refine zg ?_;have hq:=MZ (r:=r) (i:=i) ae;exact⟨i+1,ae,ae,(aY.to [(0,0)] ai ai (by repeat(first|exact fq.nil|refine fq.un ?_|refine fq.eq ai ?_|refine fq.nl (aw D.str (by rw[hq];simp[wC,cj])) ai ?_)) CO)⟩
 refine dD ?_;have h33:i=r.feats.length:=ae;subst h33;refine zr ?_;exact H6 r
def O2:aj:=ba 228
def w1014 (hA:UR Y)(hB:C374 Y)(hC:ad6 Y)(hD:aeg Y):DY (cq Y O2):=fun l nm hp0=>by
 refine cV ?_;have hya:=xW hp0;refine xh ?_;refine bE ?_;refine bp (env':=[_,_,⟨_,_⟩,⟨_,(.int _ _)⟩,_,_,_,_,_,_,_,_,_]) ?_;refine fO ?_;refine aP ?_;refine bE ?_;refine aE (hc:=hA (l) (by first|assumption|omega)) ?_;refine bE ?_;refine kL (.int _ _) ?_;refine kL (.int _ _) ?_;refine bE ?_;refine bE ?_;refine bp (env':=[_,_,_,_,⟨_,(.int _ _)⟩,_,_,_,_,_,_,_,_]) ?_;refine fO ?_;refine aP ?_;refine bE ?_;refine oT ?_;refine bp (env':=[_,_,_,_,_,⟨_,(.bool _)⟩,_,_,_,_,_,_,_]) ?_;refine dG ?_ ?_<;>intro hc0
 .exact absurd trivial hc0
 refine fk ?_;refine cy _ ?_;refine bp (env':=[_,_,_,_,_,_,_,_,_,_,_,⟨_,_⟩,_]) ?_;refine dD ?_;refine bp (env':=[_,_,_,_,_,_,⟨_,(.int _ _)⟩,_,_,_,_,_,_]) ?_;refine zf hm (fun i=>[.m 11 l gO.D,.e (.str nm),.p 1 2,.u 3,.i i,.u 4,.p 0 2,.u 1]) (fun i=>[(0,.buf 2 [cr.D (if i=0 then pf else kC l nm)]),(1,.buf 2 [.agg [.aK,.aK]])]) 15 (fun i=>i<=l.length) (fun i=>l.length-i) ae [(12,0),(0,1)] ?_;intro i hi;refine zg ?_;intro u0;refine dG ?_ ?_<;>intro hc1
 .refine dD ?_;obtain rfl:i=0:=by have:=hya.1;omega
  obtain⟨hyp1,hyp2,hyp3,hyp4⟩:=tj hp0 (i:=0) ae;have hmi:=hya.2 0 ae;rw[ak rfl];refine zg ?_;refine ZT hm (fun k=>[.m 11 l gO.D,.e (.str nm),.p 1 2,.u 3,.i 0,.u 1,.i k,.u 2,.p 0 2,.u 1]) (fun k=>[(0,.buf 2 [cr.D (if k=0 then pf else kC l nm)]),(1,.buf 2 [.agg [.aK,.aK]])]) 20 (fun k=>k<=l[0]!.hs.length) (fun k=>l[0]!.hs.length-k) ae [(0,0),(1,1)] ?_;intro k hk;refine fO ?_;refine aP ?_;refine bE ?_;refine bE ?_;refine bE ?_;refine cF (0) (hj:=fun hf=>cg) (hb:=fun hf=>cg) ?_;refine zM ?_;refine c7 (v:=.sl 2 (l[0]!.hs.map ko.D)) (hi:=fun _=>ae) ?_;refine Hs fun u1=>?_;specialize u1 rfl rfl
  refine yO ?_;refine bp (env':=[_,_,_,_,_,_,_,_,_,⟨_,(.bool _)⟩,_,_,_]) ?_;refine dG ?_ ?_<;>intro hc2
  .refine fP ?_;refine mw ?_ hm;refine aP ?_;have hk0:k=0:=ae;rw[ak hk0];refine bE ?_;refine bE ?_;refine cF (0) (hj:=fun hf=>cg) (hb:=fun hf=>cg) ?_;refine zM ?_;refine c7 (v:=.sl 2 (l[0]!.hs.map ko.D)) (hi:=fun _=>ae) ?_;refine bE ?_;refine cF (k) (hj:=fun hf=>cg) (hb:=fun hf=>cg) ?_;refine zM ?_;refine c7 (v:=.str (l[0]!.hs)[k]!.name) (hi:=fun hf=>cg) ?_;refine bE ?_;refine Yt ?_;refine bp (env':=[_,_,_,_,_,_,_,_,_,_,⟨_,(.bool _)⟩,_,_]) ?_;refine A3 ?_ ?_<;>intro hc3
   .refine aP ?_;refine bE ?_;refine bE ?_;refine cF (0) (hj:=fun hf=>cg) (hb:=fun hf=>cg) ?_;refine zM ?_;refine c7 (v:=.sl 2 (l[0]!.hs.map ko.D)) (hi:=fun _=>ae) ?_;refine bE ?_;refine cF (k) (hj:=fun hf=>cg) (hb:=fun hf=>cg) ?_;refine zM ?_;refine c7 (v:=.str (l[0]!.hs)[k]!.range) (hi:=fun hf=>cg) ?_;refine aE (hc:=hC l[0]!.hs[k]!.range (hmi.1.2.2 _ (aq ae))) ?_;refine bE ?_;refine kL (cr.D _) ?_;refine kL (.int _ _) ?_;refine xh ?_;refine cy _ ?_;refine bE ?_;refine bp (env':=[_,_,_,_,_,_,_,_,_,_,_,_,⟨_,_⟩]) ?_;refine oY ?_;refine mf (d:=cr.D pf) ?_;refine mf (d:=cr.D (eU l[0]!.hs[k]!.range)) ?_;refine aE (hc:=hD (eU l[0]!.hs[k]!.range) (qG _)) ?_;refine cy (cr.D (eU l[0]!.hs[k]!.range)) (he:=cY) ?_;refine nr (env':=[_,_,_,_,_,_,_,_,_,_,_,_,_]) ?_;refine BQ.normal ?_;refine oY ?_;refine bE ?_;refine lO (hb:=fun hf=>cg) ?_;refine bE ?_;refine nr (env':=[_,_,_,_,_,_,_,_,⟨_,(.int _ _)⟩,_,_,_,_]) ?_;refine AY.normal ?_;rw[<-aia hk0 ae hc3];exact⟨k+1,ae,ae,(aY.to [(0,0),(1,1)] ai ai eD PX)⟩
   refine wp_skip ?_;refine BQ.normal ?_;refine oY ?_;refine bE ?_;refine lO (hb:=fun hf=>cg) ?_;refine bE ?_;refine nr (env':=[_,_,_,_,_,_,_,_,⟨_,(.int _ _)⟩,_,_,_,_]) ?_;refine AY.normal ?_;rw[<-ah9 hk0 hc3];exact⟨k+1,ae,ae,(aY.to [(0,0),(1,1)] ai ai eD PX)⟩
  refine og ?_;refine AY.out ?_;refine BQ.normal ?_;refine oY ?_;refine bE ?_;refine lO (hb:=fun hf=>cg) ?_;refine bE ?_;refine nr (env':=[_,_,_,_,_,_,⟨_,(.int _ _)⟩,_,_,_,_,_,_]) ?_;refine LQ.normal ?_;rw[show(if k=0 then pf else kC l nm)=kC l nm from ah8 ae];exact ij (0+1) [(0,0),(1,1)]
 refine cU ?_;rw[ah (show ¬i=0 by have:=hya.1;omega)];refine cU ?_;refine cy _ (he:=cY) ?_;exact my
def O8:aj:=ba 192
def w906 (hA:C907 Y)(hB:C908 Y)(hC:UO Y):JQ (cq Y O8):=fun r e nm ft hp0=>by
 refine cV ?_;have hns:=gh hp0.1;refine zg ?_;refine zf hm (fun i=>[.u 2,.e (.str nm),.e (.str ft),.u 1,.i i,.p 1 9,.u 2,.p 2 3,.u 2,.o 0 1 ((iN (r.needs.take i) e nm ft)).length]) (fun i=>[(0,.buf 1 (((iN (r.needs.take i) e nm ft)).map dL)),(1,.buf 9 [Rec.D r]),(2,.buf 3 [Env.D e])]) 5 (fun i=>i<=r.needs.length) (fun i=>r.needs.length-i) ae [(0,1),(1,2)] ?_;intro i hi;have hol:=(yK (ns:=r.needs.take i) (e:=e) (nm:=nm) (ft:=ft) fun n hn=>hns.2 n (DB hn)).1;rw[ek]at hol;refine zg ?_;intro u0;refine dG ?_ ?_<;>intro hc0
 .refine x9 ?_;refine cy _ ?_;refine dD ?_;have hna:=(hns.2 _ (aq (show i<r.needs.length by omega))).1;have hrl:=(tc (hns.2 _ (aq (show i<r.needs.length by omega)))).1;refine qL ?_;intro u1;refine cF 0 (hj:=fun _=>rfl) (hb:=fun _=>ae) ?_;refine x9 ?_;refine ct (hc:=fun hf=>hA _ (e) ?_) ?_;rotate_left;first|assumption|omega|exact⟨hns.2 _ (aq ae),hp0.1.2.2.1 _ (aq ae)⟩|exact⟨(hp0.1.2.2.1 _ (aq ae)).2.1,hp0.2⟩|exact((hp0.1.2.2.1 _ (aq ae)).1 _ (aq ae)).1.2
  refine zc ?_ ?_<;>intro hc1
  .refine zg ?_;rw[show(iN (r.needs.take i) e nm ft)=iN (r.needs.take (i+1)) e nm ft from by rw[<-Ho ae,adk hc1,fZ]];exact ij (i+1) [(0,0),(1,1),(2,2)]
  refine zc ?_ ?_<;>intro hc2
  .refine dD ?_;refine aE (hc:=hC _ ?_) ?_;rotate_left;first|assumption|omega|exact⟨hns.2 _ (aq ae),hp0.1.2.2.1 _ (aq ae)⟩|exact⟨(hp0.1.2.2.1 _ (aq ae)).2.1,hp0.2⟩|exact((hp0.1.2.2.1 _ (aq ae)).1 _ (aq ae)).1.2
   refine oR (q:=dL) (xs:=(iN (r.needs.take i) e nm ft)) (ys:=iA r.needs[i]!) (he:=nF.sl) (hb:=ae) ?_;refine kn ?_;refine a8 (Key.D (⟨nm,ft⟩)) ?_;refine cU ?_;refine cF 0 (hj:=fun _=>rfl) (hb:=fun _=>ae) ?_;refine cU ?_;refine aE (hc:=hB (r.needs[i]!.any[0]!.range) Z9) ?_;refine a8 (je.D (⟨⟨nm,ft⟩,eU r.needs[i]!.any[0]!.range⟩:je)) ?_;refine bc [je.D (⟨⟨nm,ft⟩,eU r.needs[i]!.any[0]!.range⟩:je)] ?_;refine bc [.own 56 4 0 1] ?_;refine xg (((iN (r.needs.take i) e nm ft)++iA r.needs[i]!).map dL++[.own 56 4 0 1]) (n:=(((iN (r.needs.take i) e nm ft)++iA r.needs[i]!)++[[(⟨⟨nm,ft⟩,eU r.needs[i]!.any[0]!.range⟩:je)]]).length) (ha:=lL) (he:=nF.own rfl (by first|rfl|simp)) (hz:=xY) (hn:=D8) (hb:=Ea) ?_;refine dD ?_;refine bB 56 ?_ (he:=lj) (hm:=lj);refine zg ?_;rw[pg,show((iN (r.needs.take i) e nm ft)++iA r.needs[i]!)++[[(⟨⟨nm,ft⟩,eU r.needs[i]!.any[0]!.range⟩:je)]]=iN (r.needs.take (i+1)) e nm ft from by rw[<-Ho ae,Rw hc1,show XS r.needs[i]! =iA r.needs[i]! from ah hc2,fm]];exact ij (i+1) [(58,0),(1,1),(2,2)]
  refine kV ?_;refine a8 (Key.D (⟨nm,ft⟩)) ?_;refine cU ?_;refine cF 0 (hj:=fun _=>rfl) (hb:=fun _=>ae) ?_;refine cU ?_;refine aE (hc:=hB (r.needs[i]!.any[0]!.range) Z9) ?_;refine a8 (je.D (⟨⟨nm,ft⟩,eU r.needs[i]!.any[0]!.range⟩:je)) ?_;refine bc [je.D (⟨⟨nm,ft⟩,eU r.needs[i]!.any[0]!.range⟩:je)] ?_;refine bc [.own 51 4 0 1] ?_;refine xg ((iN (r.needs.take i) e nm ft).map dL++[.own 51 4 0 1]) (n:=((iN (r.needs.take i) e nm ft)++[[(⟨⟨nm,ft⟩,eU r.needs[i]!.any[0]!.range⟩:je)]]).length) (ha:=lL) (he:=nF.own rfl (by first|rfl|simp)) (hz:=xY) (hn:=D8) (hb:=Ea) ?_;refine dD ?_;refine bB 51 ?_ (he:=lj) (hm:=lj);refine zg ?_;rw[pg,show(iN (r.needs.take i) e nm ft)++[[(⟨⟨nm,ft⟩,eU r.needs[i]!.any[0]!.range⟩:je)]]=iN (r.needs.take (i+1)) e nm ft from by rw[<-Ho ae,Rw hc1,show XS r.needs[i]! =[]from ak hc2,qM]];exact ij (i+1) [(53,0),(1,1),(2,2)]
 refine cU ?_;obtain rfl:i=r.needs.length:=ae;rw[List.take_length];refine bB 0 ?_ (he:=lj) (hm:=lj);exact my
def Mf:aj:=ba 28
def w147 (hA:UR Y)(hB:US Y)(hC:C145 Y)(hD:C360 Y)(hE:C361 Y)(hF:C362 Y):Im (cq Y Mf):=fun l shop e ks hp0=>by
 refine cV ?_;have hyp:=(tj hp0.1.p.1.1 (i:=0) (by have:=(xW hp0.1.p.1.1).1;omega)).2.2.1;refine xh ?_;refine xh ?_;refine bE ?_;refine bp (env':=[_,_,_,_,⟨_,_⟩,⟨_,(.int _ _)⟩,_,_,⟨_,_⟩,_,_,_,_,_,_,_,_,_,_]) ?_;refine fO ?_;refine aP ?_;refine bE ?_;refine aE (hc:=hA (l) P7) ?_;refine bE ?_;refine kL (.int _ _) ?_;refine kL (.int _ _) ?_;refine bE ?_;refine bE ?_;refine bp (env':=[_,_,_,_,_,_,⟨_,(.int _ _)⟩,_,_,_,_,_,_,_,_,_,_,_,_]) ?_;refine fO ?_;refine aP ?_;refine bE ?_;refine oT ?_;refine bp (env':=[_,_,_,_,_,_,_,⟨_,(.bool _)⟩,_,_,_,_,_,_,_,_,_,_,_]) ?_;refine dG ?_ ?_<;>intro hc0
 .exact absurd trivial hc0
 refine fk ?_;refine aE (hc:=hC (shop) P7) ?_;refine kn ?_;refine bp (env':=[_,_,_,_,_,_,_,_,_,⟨_,(.bool _)⟩,_,_,_,_,_,_,_,_,_]) ?_;refine zc ?_ ?_<;>intro hc1
 .refine cU ?_;refine bP _ ?_;refine cy _ ?_;refine cV ?_;refine bp (env':=[_,_,_,_,_,⟨_,(.int _ _)⟩,_,_,_,_,_,_,_,_,_,_,_,_,_]) ?_;refine zr ?_;rw[abm hc1];rfl
 refine fP ?_;refine aP ?_;refine bE ?_;refine aE (hc:=hD (l) P7) ?_;refine bE ?_;refine kL (.sl _ _) ?_;refine kL (.int _ _) ?_;refine bE ?_;refine bE ?_;refine bp (env':=[_,_,_,_,_,_,_,_,_,_,⟨_,(.int _ _)⟩,_,_,⟨_,(.sl _ _)⟩,_,_,_,_,_]) ?_;refine fO ?_;refine aP ?_;refine bE ?_;refine oT ?_;refine bp (env':=[_,_,_,_,_,_,_,_,_,_,_,⟨_,(.bool _)⟩,_,_,_,_,_,_,_]) ?_;refine dG ?_ ?_<;>intro hc2
 .exact absurd trivial hc2
 refine fk ?_;refine bp (env':=[_,_,_,_,_,_,_,_,_,_,_,_,⟨_,(.int _ _)⟩,_,_,_,_,_,_]) ?_;refine zf hm (fun i=>[.m 11 l gO.D,.m 2 shop bJ.D,.u 1,.m 6 ks Kp.D,.p 1 1,.u 3,.p 0 3,.u 3,.i i,.m 2 (gw l) iC.D,.u 5]) (fun i=>[(0,.buf 3 [Env.D e]),(1,.buf 1 [.agg [.aK]])]) 30 (fun i=>i<=(gw l).length/\∀j,j<i->0<=mi shop (gw l)[j]!.shelf) (fun i=>(gw l).length-i) ⟨ae,fun j h=>ae⟩ [(0,0),(1,1)] ?_;rintro i ⟨hi,hr⟩;refine zg ?_;intro u0;refine dG ?_ ?_<;>intro hc3
 .refine zc ?_ ?_<;>intro hc4
  .refine cV ?_;refine bP _ ?_;refine cy _ ?_;refine zr ?_;rw[abn hc1 (i:=i) ae ae];rfl
  refine gD (i+1) [(0,0),(1,1)] ?_;exact fun j h=>by rcases Nat.lt_succ_iff_lt_or_eq.1 h with h|rfl;exact hr j h;omega
 refine dD ?_;have hpa:=X0 (l:=l) (shop:=shop) (i:=i) ae hr;refine kV ?_;refine bP _ ?_;refine cV ?_;refine a8 (cx.D (xU l shop e ks) (.ptr 40 2 0 0)) ?_;refine dA (nx':=34) (v:=.tup [bT.D (ei (xU l shop e ks)).1,.bool (ei (xU l shop e ks)).2]) (m':=[(0,.buf 3 [Env.D e]),(1,.buf 1 [.agg [.aK]])]) (hc:=fun K' hK=>hF (xU l shop e ks) hp0 _ 40 _ K' eo ai hK) (hn:=aU) ?_;refine zc ?_ ?_<;>intro hc5
 .refine cU ?_;refine bP _ ?_;refine cy _ ?_;refine zr ?_;rw[abo hc1 hpa oJ];rfl
 refine dD ?_;refine cy _ ?_;refine zr ?_;rw[abp hc1 hpa oJ];rfl
def Up:aj:=ba 170
def w701 {Y:Ctx}(hm:(Y.at 0).bV)(hA:An Y)(hB:SA Y):tR (cq Y Up):=fun a b hp0=>by
 exact my
def EI:aj:=ba 169
def w700 {Y:Ctx}(hm:(Y.at 0).bV)(hA:C701 Y):Jw (cq Y EI):=fun x nm v hp0=>by
 exact my
def qH:aj:=ba 168
def w699 (hA:C700 Y):Jv (cq Y qH):=fun l nm v hp0=>by
 refine zg ?_;intro u0;refine zf hm (fun i=>[.m 11 l ki.D,.e (.fn 700 [.ref 1 [.str nm] 0 0,.ref 5 [bX.D v] 0 0]),.u 1,.i i,.i l.length,.u 3]) (fun i=>[]) 4 (fun i=>i<=l.length/\r7 l nm v 0=r7 l nm v i) (fun i=>l.length-i) ⟨ae,rfl⟩ [] ?_;rintro i ⟨hi,hr⟩;refine zc ?_ ?_<;>intro hc0
 .refine Ii ?_;refine Bm (hc:=fun _=>hA l[i]! nm v ⟨hp0.1 _ (aq ae),hp0.2⟩) ?_;refine zc ?_ ?_<;>intro hc1
  .refine zr ?_;rw[hr,X2 ae hc1]
  refine gD (i+1) [] ?_;rw[hr,X4 ae hc1]
 refine zr ?_;rw[hr,Rt ae]
def ML:aj:=ba 123
def w511 {Y:Ctx}(hm:(Y.at 0).bV)(hA:C699 Y):tH (cq Y ML):=fun l nm v hp0=>by
 refine kV ?_;refine bB 0 ?_;refine bB 1 ?_;refine cU ?_;refine Rz [.ref 1 [.str nm] 0 0,.ref 5 [bX.D v] 0 0] ?_;exact my
def Uo:aj:=ba 71
def w353 (hA:C74 Y)(hB:Sz Y)(hC:C511 Y):tA (cq Y Uo):=fun s hp0=>by
 refine zg ?_;refine aQ (fun hc0=>?_) (fun hc0=>?_)
 .simp only[dC,cz,aW]at hc0;have hf:gQ s=false:=by
   unfold gQ;rcases hc0 with h|h
   .rw[h];rfl
   .rw[show decide (s.es.length<=64)=false from bG ae];simp
  refine zr ?_;exact hf.symm
 simp only[eW,df,cv]at hc0;have hq:gQ s=bU (rH s.es) 0 s.es.length:=by unfold gQ;rw[hc0.1,bo (show s.es.length<=64 by omega)];simp
 refine zg ?_;intro u0;refine zf hm (fun i=>[.u 2,.p 0 2,.u 1,.i i,.i s.es.length,.u 1,.m 11 s.es ki.D,.u 5]) (fun i=>[(0,.buf 2 [bJ.D s])]) 16 (fun i=>i<=s.es.length/\gQ s=bU (rH s.es) i s.es.length) (fun i=>s.es.length-i) ⟨ae,hq⟩ [(0,0)] ?_;rintro i ⟨hi,hr⟩;refine zc ?_ ?_<;>intro hc1
 .refine dD ?_;have hsm:=hp0 _ (aq (show i<s.es.length by omega));refine ib ?_;refine ib ?_;refine dD ?_;refine ajU (q:=ki.D) i (hj:=fun _=>rfl) (hb:=fun _=>ae) ?_;refine kn ?_;refine ct (hc:=fun hf=>hC (s.es.take i) s.es[i]!.r.name s.es[i]!.r.v ⟨fun x hx=>(hp0 x (D6 hx)).1.2,hsm.1.2⟩) ?_;refine zg ?_;refine wp_cond (fun hc2=>?_) (fun hc2=>?_)
  .have hen:rH s.es i=false:=by
    unfold rH;simp only[dC,cz,aW,cv]at hc2;simp only[ed,cv];rcases hc2 with(h|h)|h
    .exact .inl (.inl h)
    .exact .inl (.inr h)
    .exact .inr ae
   refine zr ?_;rw[hr,az ae,hen];rfl
  have hen:rH s.es i=true:=by
   unfold rH;simp only[eW,df,aW,cv]at hc2;simp only[aD,aW];exact⟨hc2.1,ae⟩
  refine gD (i+1) [(0,0)] ?_;rw[hr,az ae,hen];rfl
 refine zr ?_;rw[hr,bA ae]
def Lq:aj:=ba 36
def w138 (hA:SB Y):tk (cq Y Lq):=fun e=>by
 refine zg ?_;refine zf hm (fun i=>[.u 2,.p 0 3,.i i,.u 1,.e (Env.D e),.u 2]) (fun i=>[(0,.buf 3 [Env.D e])]) 5 (fun i=>i<=3/\nK e=bU (fun i=>decide (e.at i=[]) ||gC (e.at i)) i 3) (fun i=>3-i) ⟨ae,rfl⟩ [(0,0)] ?_;rintro i ⟨hi,hr⟩;refine zc ?_ ?_<;>intro hc0
 .refine dD ?_;refine r_ixA i (.str (e.at i)) (hv:=fun _=>Env.cut e ae) ?_;refine zg ?_;refine wp_cond (fun hc1=>?_) (fun hc1=>?_)
  .simp only[aD,cz,cv]at hc1;refine zr ?_;rw[hr,az ae];rw[bG hc1.1,hc1.2];rfl
  simp only[ed,df,aW]at hc1;refine gD (i+1) [(0,0)] ?_;rw[hr,az ae];rw[show(decide (e.at i=[]) ||gC (e.at i))=true by rw[dC,aW];exact hc1];rfl
 refine zr ?_;rw[hr,bA ae]
def Ev:aj:=ba 75
def w553 (hA:Sz Y)(hB:An Y)(hC:SB Y):Je (cq Y Ev):=fun x hp0=>by
 refine zg ?_;intro u0;refine zf hm (fun i=>[.u 2,.p 0 9,.i i,.i x.feats.length,.u 1,.m 1 x.feats D.str,.u 4]) (fun i=>[(0,.buf 9 [eg.D x])]) 7 (fun i=>i<=x.feats.length/\bU (zq x.feats) 0 x.feats.length=bU (zq x.feats) i x.feats.length) (fun i=>x.feats.length-i) ⟨ae,rfl⟩ [(0,0)] ?_;rintro i ⟨hi,hr⟩;refine zc ?_ ?_<;>intro hc0
 .refine ib ?_;refine p9 ?_;refine cF (i-1) ?_;refine zc ?_ ?_<;>intro hc1
  .refine zr ?_;have hz:zq x.feats i=false:=by
    simp only[zq];revert hc1;generalize gC x.feats[i]! =z0;generalize Op.bytesLess x.feats[i-1]! x.feats[i]! =z1;by_cases e0:0<i<;>cases z0<;>cases z1<;>simp_all
   simp only[G3];rw[hr,az ae,hz];simp
  refine zg ?_;have hz:zq x.feats i=true:=by
   simp only[zq];revert hc1;generalize gC x.feats[i]! =z0;generalize Op.bytesLess x.feats[i-1]! x.feats[i]! =z1;by_cases e0:0<i<;>cases z0<;>cases z1<;>simp_all
  refine gD (i+1) [(0,0)] ?_;rw[hr,az ae,hz];rfl
 refine ib ?_;refine ib ?_;refine kV ?_;refine ct (hc:=fun hf=>hB x.v hp0.1) ?_;refine zr ?_;simp only[G3];rw[hr,bA ae];have h9:decide ((x.feats.length:Int)<=9)=decide (x.feats.length<=9):=lI.2 ae;rw[h9];have hc:x.shelf=[]->dd x.shelf=false:=by intro e;rw[e];rfl
 revert hc;generalize dd x.name=a;generalize gA x.v=b;generalize dd x.shelf=c;generalize decide (x.feats.length<=9)=d;by_cases e:x.shelf=[]<;>by_cases e2:x.sum=0<;>cases a<;>cases b<;>cases c<;>cases d<;>simp_all
def Lp:aj:=ba 10
def w91 {Y:Ctx}(hm:(Y.at 0).bV)(hA:C114 Y)(hB:C147 Y)(hC:C267 Y)(hD:C268 Y)(hE:C269 Y):PV (cq Y Lp):=fun m shop e os hp0=>by
 refine cV ?_;refine xh ?_;refine xh ?_;refine bE ?_;refine bE ?_;refine bp (env':=[_,_,_,_,⟨_,_⟩,⟨_,.aK⟩,⟨_,(.bool _)⟩,⟨_,_⟩,_,_,_,_,_]) ?_;refine aP ?_;refine bE ?_;refine bE ?_;refine mf (d:=Env.D e) ?_;refine aE (hc:=hB [m] shop e [] hp0) ?_;refine bE ?_;refine kL (bT.D _) ?_;refine kL (.int _ _) ?_;refine xh ?_;refine cy (bT.D (ef m shop e).1) (he:=cY) ?_;refine bE ?_;refine bp (env':=[_,_,_,_,_,_,_,_,⟨_,(.int _ _)⟩,⟨_,_⟩,_,_,_]) ?_;refine fO ?_;refine aP ?_;refine bE ?_;refine oT ?_;refine bE ?_;refine mf (d:=bT.D ((ef m shop e).1)) ?_;refine ct (hc:=fun hf=>hA (ef m shop e).1 (pj hp0.1 (by simpa using hf)).1.sm) ?_;refine oS ?_;refine LW ?_;refine bp (env':=[_,_,_,_,_,_,_,_,_,_,⟨_,(.bool _)⟩,_,_]) ?_;refine dG ?_ ?_<;>intro hc0
 .refine zg ?_;refine zr ?_;rw[Dr (by rcases hc0 with h|h;exact .inl h;exact .inr ae)];rfl
 refine fP ?_;refine aP ?_;have hB0:=hc0.1;have hc0n:(ef m shop e).2=0/\¬5000<CG (ef m shop e).1.us:=⟨hc0.1,ae⟩;have hfp:=S8 hp0.1 hB0 os;refine fk ?_;refine bP _ ?_;refine aE (hc:=hC (ef m shop e).1 (iJ (ef m shop e).1.us os) hfp) ?_;refine kV ?_;refine Yv (fun bq hbq=>?_) (hs:=Rl _);refine zg ?_;refine aQ (fun hc1=>?_) (fun hc1=>?_)
 .have hbt:bq=true:=hc1;have hn:=(KP hp0.1 hB0 hbq).1 hbt;refine zr ?_;rw[Ds hc0n hn];rfl
 have hbf:bq=false:=hc1;obtain⟨d,hd⟩:=(KP hp0.1 hB0 hbq).2 hbf;have hdl:=S7 hp0.1 hB0 hd;rw[hd];refine zr ?_;rw[Dt hc0n hd];rfl
def Oi:aj:=ba 16
def w25 {Y:Ctx}(hm:(Y.at 0).bV):PO (cq Y Oi):=fun v n hp0=>by
 refine zc ?_ ?_<;>intro hc0
 .refine zr ?_;simp[jY,hc0]
 refine fk ?_;refine zO (v.tmod n) (hn:=by intro _;omega) (hb:=fun _=>rfl) ?_;have ht:=DE v n ae;refine zc ?_ ?_<;>intro hc1
 .refine zr ?_;simp only[jY];rw[ah hc0,ak hc1]
 refine zr ?_;simp only[jY];rw[ah hc0,ah hc1]
def acO:aj:=ba 49
def w159 {Y:Ctx}(hm:(Y.at 0).bV):Iq (cq Y acO):=fun l i=>by
 refine zc ?_ ?_<;>intro hc0
 .refine dD ?_;refine zO (i.tmod 3) (hn:=by intro _;omega) (hb:=fun _=>rfl) ?_;refine zr ?_;simp only[atI];rw[ak hc0]
 refine zr ?_;simp only[atI];rw[ah ae]
def rT:aj:=ba 23
def w109 {Y:Ctx}(hm:(Y.at 1).bV)(hA:C25 (Y.at 1))(hB:C159 (Y.at 1))(g:Gs)(n:Int)(hp0:n<=9223372036854775807)(hp1:0<=g.i/\g.i<=1000000):dn (Y.at 1) rT.body (Gl rT 2 (.int .i64 (g.val n)) (Gs.D g.aR):Ex->List aX->St->Prop) (fI rT (.ptr 0 2 0 0::[.int .i64 n])) ⟨1,[(0,.buf 2 [(Gs.D g)])]⟩:=by
 show dn _ _ _ [⟨true,.ptr 0 2 0 0⟩,⟨true,.int .i64 n⟩,.un] ⟨1,[(0,.buf 2 [(Gs.D g)])]⟩;refine aP ?_;refine ib ?_;refine qL ?_;refine Bn ?_;rw[show g.i+1-1=g.i by omega];refine zg ?_;refine iP trivial jo (dc ai (aw (D.int .i64) ?_)) ai ai ai;rfl
def Uc:aj:=ba 157
def w381:IK (cq Y Uc):=fun n hp0=>by
 refine cV ?_;obtain⟨j,rfl⟩:∃j:Nat,n=(j:Int):=⟨n.toNat,ae⟩
 simp only[Int.toNat_natCast];refine zg ?_;refine zf hm (fun i=>[.i j,.u 1,.i i,.u 1,.i ((2^i))]) (fun i=>[]) 3 (fun i=>i<=j) (fun i=>j-i) ae [] ?_;intro i hi;have hpb:=Fw (k:=i) ae;have hpp:=pJ i;refine zc ?_ ?_<;>intro hc0
 .refine fk ?_;refine xl (hb:=ae) ?_;refine zg ?_;rw[show(2:Int)^i*2=2^(i+1)from(Int.pow_succ 2 i).symm];exact ij (i+1) []
 refine cU ?_;obtain rfl:i=j:=ae;exact my
def Pj:aj:=ba 107
def w158 {Y:Ctx}(hm:(Y.at 0).bV)(hA:C381 Y):Ip (cq Y Pj):=fun w u hp0=>by
 refine zc ?_ ?_<;>intro hc0
 .refine zr ?_;unfold nN;rw[ak ae]
 refine cU ?_;obtain⟨j,rfl⟩:∃j:Nat,u=(j:Int):=⟨u.toNat,ae⟩
 have hjl:j<w.us.length:=ae;have hju:=(hp0 _ (aq hjl)).1;have hpb:=Fw (k:=w.us[j]!.cands.length+1) ae;have hpp:=pJ (w.us[j]!.cands.length+1);refine qL ?_;intro u0;refine r_mn ((w.us[j]!.cands.length:Nat):Int) (hv:=fun _=>ah ae) ?_;refine cU ?_;refine Bn (hb:=by simp only[Int.toNat_natCast,show(((w.us[j]!.cands.length:Nat):Int)+1).toNat=w.us[j]!.cands.length+1 from rfl];omega) ?_;refine zr ?_;unfold nN;rw[ah ae];rfl
def HD:aj:=ba 57
def w144 (hA:UU Y):tk (cq Y HD):=fun e=>by
 refine zg ?_;refine zf hm (fun i=>[.u 2,.i i,.u 1,.p 0 3,.u 1]) (fun i=>[(0,.buf 3 [Env.D e])]) 3 (fun i=>i<=3/\nK e=bU (fun i=>decide (e.at i=[]) ||gC (e.at i)) i 3) (fun i=>3-i) ⟨ae,rfl⟩ [(0,0)] ?_;rintro i ⟨hi,hr⟩;refine zc ?_ ?_<;>intro hc0
 .refine kV ?_;refine OL i ?_;refine pK (v:=.str (e.at i)) (hv:=fun _=>Env.ld e ae) ?_;refine fk ?_;refine OL i ?_;refine pK (v:=.str (e.at i)) (hv:=fun _=>Env.ld e ae) ?_;refine zg ?_;refine wp_cond (fun hc1=>?_) (fun hc1=>?_)
  .simp only[aD,cz,cv]at hc1;refine zr ?_;rw[hr,az ae];rw[bG hc1.1,hc1.2];rfl
  simp only[ed,df,aW]at hc1;refine gD (i+1) [(0,0)] ?_;rw[hr,az ae];rw[show(decide (e.at i=[]) ||gC (e.at i))=true by rw[dC,aW];exact hc1];rfl
 refine zr ?_;rw[hr,bA ae]
def Mr:aj:=ba 196
def w416 {Y:Ctx}(hm:(Y.at 0).bV):IQ (cq Y Mr):=fun c x hp0=>by
 refine kV ?_;obtain⟨j,hj⟩:∃j:Nat,x.u=(j:Int):=⟨x.u.toNat,by have:=hp0.1;omega⟩
 obtain⟨hjl,hj30⟩:=hp0;rw[hj,Int.toNat_natCast]at hj30;refine ib ?_;refine qY (c[j]!) (hb:=fun hf=>by have hf:0<=c[j]! :=J4;rw[IntKind.wrap_u64];omega) ?_;refine FB (2^(c[j]!.toNat+1)) (hn:=fun hf=>vP) (hb:=fun hf=>by have hf:0<=c[j]! :=J4;exact Dp (n:=c[j]!.toNat) ae ae) ?_;refine CR (Gy x.m (2^(c[j]!.toNat+1))) (hb:=fun _=>rfl) ?_;refine zr ?_;unfold Cu;rw[hj,Int.toNat_natCast];simp
def Mv:aj:=ba 66
def w508 {Y:Ctx}(hm:(Y.at 0).bV)(hA:C695 Y):I9 (cq Y Mv):=fun s nm v hp0=>by
 refine DU ?_;have hlm:=E7 (s:=s) (nm:=nm) (v:=v);refine zc ?_ ?_<;>intro hc0
 .refine cU ?_;refine bP _ ?_;refine cy _ ?_;refine zr ?_;rw[show ov s nm v=(default,false)from ak ae];rfl
 refine cU ?_;obtain⟨j,hj,hjl⟩:=hlm.resolve_left ae;refine zr ?_;rw[show ov s nm v=(s.es[j]!,true)from by rw[ov,ah ae,hj];rfl];rfl
end Go.Abs
end
