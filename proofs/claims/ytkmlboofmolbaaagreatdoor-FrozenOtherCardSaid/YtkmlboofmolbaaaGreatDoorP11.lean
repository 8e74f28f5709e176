/- A part of the proofs. -/
import Derived.Test.YtkmlboofmolbaaaGreatDoorP09
set_option linter.all false
set_option maxRecDepth 60000
set_option maxHeartbeats 2000000
noncomputable section
namespace Go.Abs
variable {Y:Ctx}(hm:(Y.at 0).bU)
def Ih:aj:=bc 105
def w694 (hA:C693 Y)(hB:C829 Y)(hC:C830 Y)(hD:C831 Y):JU (cw Y Ih):=λm al od c hp0=>by
 refine cO ?_;obtain⟨⟨hmp,hcp⟩,rfl,hop⟩:=hp0;have hml:=hmp.1;have hcl:=hcp.1;refine zc ?_ ?_<;>intro hc0
 .refine zr ?_;have h0:eh m od c=[]:=by unfold eh;rw[ak hc0]
  rw[h0];rfl
 refine cX ?_;obtain⟨hin1,hin2⟩:=R7 hcp hml.1 hc0;obtain⟨hwo1,hwo2⟩:=NL hmp hcp hc0;obtain⟨U,hU⟩:∃U:Nat,(ef m c).1=(U:Int):=⟨(ef m c).1.toNat,ae⟩
 refine kB ?_;refine a7 (dY.D ⟨(ef m c).1,m.full[U]!⟩) ?_;refine bg [dY.D ⟨(ef m c).1,m.full[U]!⟩] ?_;refine zc ?_ ?_<;>intro hc1
 .refine cO ?_;obtain⟨hin3,hin4⟩:=hin2 lY;rw[hU,Int.toNat_natCast]at hin3 hin4;obtain⟨V,hV⟩:∃V:Nat,c[U]! =(V:Int):=⟨c[U]!.toNat,ae⟩
  obtain⟨N,hN⟩:∃N:Nat,(ef m c).2=(N:Int):=⟨(ef m c).2.toNat,ae⟩
  rw[hV,Int.toNat_natCast]at hin4;have hcU:=hcp.2 U ae;have hwq:bB m c=m.needs[U]![V]![N]! :=by unfold bB;rw[ak ae,hU,Int.toNat_natCast,hV,Int.toNat_natCast,hN,Int.toNat_natCast]
  refine fE ?_;refine dh (v:=.sl 1 (m.needs[U]!.map oI)) (hi:=λ_=>ae) ?_;refine k9 ?_;refine dh (v:=.sl 1 (m.needs[U]![V]!.map Iw)) (hi:=λ_=>ae) ?_;refine cX ?_;refine dh (v:=.sl 2 (m.needs[U]![V]![N]!.map dY.D)) (hi:=λ_=>ae) ?_;refine cX ?_;refine bz 20 ?_ (he:=AJ) (hm:=AJ);refine fE ?_;rw[<-hwq];refine zg ?_;refine zf hm (λk=>[.u 1,.m 1 ([]:List Int) (D.int .i64),.m 1 od jS,.m 1 c (D.int .i64),.u 1,.p 1 3,.u 4,.i k,.m 2 (bB m c) dY.D,.u 6,.o 0 2 (dR m od c (bB m c) k).length,.u 2]) (λk=>[(0,.buf 2 ((dR m od c (bB m c) k).map dY.D)),(1,.buf 3 [kg.D m])]) 41 (λk=>k<=(bB m c).length) (λk=>(bB m c).length-k) ae [(0,1)] ?_;intro k hk;have hok2:=(xB (m:=m) (c:=c) (ord:=od) (λu hu=>(hmp.2 u hu).1.2) hop hwo1 k hk).2;refine zg ?_;intro u0;refine dP ?_ ?_<;>intro hc2
  .refine dJ ?_;have hwk:=hwo1 _ (aq (show k<(bB m c).length by omega));obtain⟨U2,hU2⟩:∃U2:Nat,(bB m c)[k]!.u=(U2:Int):=⟨(bB m c)[k]!.u.toNat,ae⟩
   refine pA ?_;rw[hU2];refine zg ?_;refine aQ (λhc3=>?_) (λhc3=>?_)
   .have hk1:dR m od c (bB m c) k=dR m od c (bB m c) (k+1):=by rw[dR,FP,hU2,Int.toNat_natCast,ak yx]
    refine zg ?_;rw[hk1];exact iy (k+1) [(0,0),(1,1)]
   have hcU2:¬0<=c[U2]! :=by simpa only[ct,ge_iff_le]using hc3
   have hn16:=(hmp.2 U2 ae).1.2;have htr:(∀p∈(cG (cR od ((U2:Nat):Int)) m.needs[U2]!.length m.needs[U2]!.length),0<=p/\p<(m.needs[U2]!.length:Int))/\(cG (cR od ((U2:Nat):Int)) m.needs[U2]!.length m.needs[U2]!.length).length<=32:=Ix (m:=m) (ord:=od) (u:=((U2:Nat):Int)) (λu hu=>(hmp.2 u hu).1.2) hop ⟨ae,ae⟩;have htl:=htr.2;have hk2:dR m od c (bB m c) (k+1)=j7 (bB m c)[k]!.m ((U2:Nat):Int) (cG (cR od ((U2:Nat):Int)) m.needs[U2]!.length m.needs[U2]!.length) (cG (cR od ((U2:Nat):Int)) m.needs[U2]!.length m.needs[U2]!.length).length (dR m od c (bB m c) k):=by rw[dR,FP,ah (by rw[hU2,Int.toNat_natCast];exact hcU2),Nz,hU2,Int.toNat_natCast]
   refine pA ?_;refine dh (v:=.sl 1 (((m.needs)[U2]!).map oI)) (hi:=λhf=>ch) ?_;refine zk1 ?_;intro u1;refine aF (hc:=hC od ((U2:Nat):Int) m.needs[U2]!.length ⟨⟨⟨ae,ae⟩,ae⟩,(hop U2 ae).1⟩) ?_;refine zg ?_;refine zfL hm (λj=>[.u 1,.m 1 ([]:List Int) (D.int .i64),.m 1 od jS,.m 1 c (D.int .i64),.u 1,.p 1 3,.u 4,.i k,.m 2 (bB m c) dY.D,.u 1,.i U2,.u 1,.i j,.m 1 (cG (cR od ((U2:Nat):Int)) m.needs[U2]!.length m.needs[U2]!.length) (D.int .i64),.u 1,.o 0 2 (j7 (bB m c)[k]!.m ((U2:Nat):Int) (cG (cR od ((U2:Nat):Int)) m.needs[U2]!.length m.needs[U2]!.length) j (dR m od c (bB m c) k)).length,.u 2]) (λj=>[(0,.buf 2 ((j7 (bB m c)[k]!.m ((U2:Nat):Int) (cG (cR od ((U2:Nat):Int)) m.needs[U2]!.length m.needs[U2]!.length) j (dR m od c (bB m c) k)).map dY.D)),(1,.buf 3 [kg.D m])]) 67 (λj=>j<=(cG (cR od ((U2:Nat):Int)) m.needs[U2]!.length m.needs[U2]!.length).length) (λj=>(cG (cR od ((U2:Nat):Int)) m.needs[U2]!.length m.needs[U2]!.length).length-j) ae [(0,0),(1,1)] ?_;intro j hj;have hoi2:(j7 (bB m c)[k]!.m ((U2:Nat):Int) (cG (cR od ((U2:Nat):Int)) m.needs[U2]!.length m.needs[U2]!.length) j (dR m od c (bB m c) k)).length<=(dR m od c (bB m c) k).length+j:=C7 _ _ _ j _;refine zg ?_;intro u2;refine dP ?_ ?_<;>intro hc4
   .refine dJ ?_;have hT:=htr.1 _ (aq (show j<(cG (cR od ((U2:Nat):Int)) m.needs[U2]!.length m.needs[U2]!.length).length by omega));refine k9 ?_;refine a7 (dY.D ⟨((U2:Nat):Int),(cG (cR od ((U2:Nat):Int)) m.needs[U2]!.length m.needs[U2]!.length)[j]!⟩) ?_;refine IJ ?_;refine rB ((cG (cR od ((U2:Nat):Int)) m.needs[U2]!.length m.needs[U2]!.length)[j]!) (hb:=λ_=>by rw[IntKind.wrap_u64];omega) ?_;refine F1 (2^((cG (cR od ((U2:Nat):Int)) m.needs[U2]!.length m.needs[U2]!.length)[j]!.toNat+1)) (hn:=λ_=>ae) (hb:=λ_=>DT (n:=(cG (cR od ((U2:Nat):Int)) m.needs[U2]!.length m.needs[U2]!.length)[j]!.toNat) ae ae) ?_;refine Dl (G1 (bB m c)[k]!.m (2^((cG (cR od ((U2:Nat):Int)) m.needs[U2]!.length m.needs[U2]!.length)[j]!.toNat+1))) (hb:=λ_=>rfl) ?_;refine IJ ?_;refine cv (hc:=λhf=>hD (j7 (bB m c)[k]!.m ((U2:Nat):Int) (cG (cR od ((U2:Nat):Int)) m.needs[U2]!.length m.needs[U2]!.length) j (dR m od c (bB m c) k)) ⟨((U2:Nat):Int),(cG (cR od ((U2:Nat):Int)) m.needs[U2]!.length m.needs[U2]!.length)[j]!⟩) (ha:=λ_=>aw (λd=>[d,dY.D ⟨((U2:Nat):Int),(cG (cR od ((U2:Nat):Int)) m.needs[U2]!.length m.needs[U2]!.length)[j]!⟩]) (aaC (q:=dY.D) (λ_=>rfl) ai)) (hp:=λ_=>⟨SV (q:=dY.D) (λ_=>Kz) ai,Kz⟩) ?_;refine zg ?_;refine wp_cond (λhc5=>?_) (λhc5=>?_)
    .have hO1:j7 (bB m c)[k]!.m ((U2:Nat):Int) (cG (cR od ((U2:Nat):Int)) m.needs[U2]!.length m.needs[U2]!.length) (j+1) (dR m od c (bB m c) k)=(j7 (bB m c)[k]!.m ((U2:Nat):Int) (cG (cR od ((U2:Nat):Int)) m.needs[U2]!.length m.needs[U2]!.length) j (dR m od c (bB m c) k))++[⟨((U2:Nat):Int),(cG (cR od ((U2:Nat):Int)) m.needs[U2]!.length m.needs[U2]!.length)[j]!⟩]:=by rw[j7,Pc,ak oU]
     refine dJ ?_;refine bg [dY.D ⟨((U2:Nat):Int),(cG (cR od ((U2:Nat):Int)) m.needs[U2]!.length m.needs[U2]!.length)[j]!⟩] ?_;refine cH (q:=dY.D) (xs:=(j7 (bB m c)[k]!.m ((U2:Nat):Int) (cG (cR od ((U2:Nat):Int)) m.needs[U2]!.length m.needs[U2]!.length) j (dR m od c (bB m c) k))) (e:=⟨((U2:Nat):Int),(cG (cR od ((U2:Nat):Int)) m.needs[U2]!.length m.needs[U2]!.length)[j]!⟩) (hb:=ae) ?_;refine zg ?_;rw[<-hO1];exact iy (j+1) [(110,0),(1,1)]
    have hO1:j7 (bB m c)[k]!.m ((U2:Nat):Int) (cG (cR od ((U2:Nat):Int)) m.needs[U2]!.length m.needs[U2]!.length) (j+1) (dR m od c (bB m c) k)=(j7 (bB m c)[k]!.m ((U2:Nat):Int) (cG (cR od ((U2:Nat):Int)) m.needs[U2]!.length m.needs[U2]!.length) j (dR m od c (bB m c) k)):=by rw[j7,Pc,ah oU]
    refine zg ?_;rw[<-hO1];exact iy (j+1) [(0,0),(1,1)]
   refine zg ?_;rw[show j=(cG (cR od ((U2:Nat):Int)) m.needs[U2]!.length m.needs[U2]!.length).length by omega,<-hk2];exact iy (k+1) [(0,0),(1,1)]
  refine cX ?_;obtain rfl:k=(bB m c).length:=ae;have hov:eh m od c=dR m od c (bB m c) (bB m c).length:=by unfold eh;rw[ah hc0]
  refine bz 0 ?_ (he:=AJ) (hm:=AJ);refine zr ?_;rw[hov];rfl
 refine cO ?_;refine bz 20 ?_ (he:=AJ) (hm:=AJ);refine fE ?_;have hwq:bB m c=[⟨(ef m c).1,m.full[U]!⟩]:=by unfold bB;rw[ah ae,hU,Int.toNat_natCast]
 rw[show [dY.D ⟨(ef m c).1,m.full[U]!⟩]=(bB m c).map dY.D by rw[hwq];rfl];refine zg ?_;refine zf hm (λk=>[.u 1,.m 1 ([]:List Int) (D.int .i64),.m 1 od jS,.m 1 c (D.int .i64),.u 1,.p 1 3,.u 4,.i k,.m 2 (bB m c) dY.D,.u 6,.o 0 2 (dR m od c (bB m c) k).length,.u 2]) (λk=>[(0,.buf 2 ((dR m od c (bB m c) k).map dY.D)),(1,.buf 3 [kg.D m])]) 26 (λk=>k<=(bB m c).length) (λk=>(bB m c).length-k) ae [(0,1)] ?_;intro k hk;have hok2:=(xB (m:=m) (c:=c) (ord:=od) (λu hu=>(hmp.2 u hu).1.2) hop hwo1 k hk).2;refine zg ?_;intro u0;refine dP ?_ ?_<;>intro hc2
 .refine dJ ?_;have hwk:=hwo1 _ (aq (show k<(bB m c).length by omega));obtain⟨U2,hU2⟩:∃U2:Nat,(bB m c)[k]!.u=(U2:Int):=⟨(bB m c)[k]!.u.toNat,ae⟩
  refine pA ?_;rw[hU2];refine zg ?_;refine aQ (λhc3=>?_) (λhc3=>?_)
  .have hk1:dR m od c (bB m c) k=dR m od c (bB m c) (k+1):=by rw[dR,FP,hU2,Int.toNat_natCast,ak yx]
   refine zg ?_;rw[hk1];exact iy (k+1) [(0,0),(1,1)]
  have hcU2:¬0<=c[U2]! :=by simpa only[ct,ge_iff_le]using hc3
  have hn16:=(hmp.2 U2 ae).1.2;have htr:(∀p∈(cG (cR od ((U2:Nat):Int)) m.needs[U2]!.length m.needs[U2]!.length),0<=p/\p<(m.needs[U2]!.length:Int))/\(cG (cR od ((U2:Nat):Int)) m.needs[U2]!.length m.needs[U2]!.length).length<=32:=Ix (m:=m) (ord:=od) (u:=((U2:Nat):Int)) (λu hu=>(hmp.2 u hu).1.2) hop ⟨ae,ae⟩;have htl:=htr.2;have hk2:dR m od c (bB m c) (k+1)=j7 (bB m c)[k]!.m ((U2:Nat):Int) (cG (cR od ((U2:Nat):Int)) m.needs[U2]!.length m.needs[U2]!.length) (cG (cR od ((U2:Nat):Int)) m.needs[U2]!.length m.needs[U2]!.length).length (dR m od c (bB m c) k):=by rw[dR,FP,ah (by rw[hU2,Int.toNat_natCast];exact hcU2),Nz,hU2,Int.toNat_natCast]
  refine pA ?_;refine dh (v:=.sl 1 (((m.needs)[U2]!).map oI)) (hi:=λhf=>ch) ?_;refine zk1 ?_;intro u1;refine aF (hc:=hC od ((U2:Nat):Int) m.needs[U2]!.length ⟨⟨⟨ae,ae⟩,ae⟩,(hop U2 ae).1⟩) ?_;refine zg ?_;refine zfL hm (λj=>[.u 1,.m 1 ([]:List Int) (D.int .i64),.m 1 od jS,.m 1 c (D.int .i64),.u 1,.p 1 3,.u 4,.i k,.m 2 (bB m c) dY.D,.u 1,.i U2,.u 1,.i j,.m 1 (cG (cR od ((U2:Nat):Int)) m.needs[U2]!.length m.needs[U2]!.length) (D.int .i64),.u 1,.o 0 2 (j7 (bB m c)[k]!.m ((U2:Nat):Int) (cG (cR od ((U2:Nat):Int)) m.needs[U2]!.length m.needs[U2]!.length) j (dR m od c (bB m c) k)).length,.u 2]) (λj=>[(0,.buf 2 ((j7 (bB m c)[k]!.m ((U2:Nat):Int) (cG (cR od ((U2:Nat):Int)) m.needs[U2]!.length m.needs[U2]!.length) j (dR m od c (bB m c) k)).map dY.D)),(1,.buf 3 [kg.D m])]) 52 (λj=>j<=(cG (cR od ((U2:Nat):Int)) m.needs[U2]!.length m.needs[U2]!.length).length) (λj=>(cG (cR od ((U2:Nat):Int)) m.needs[U2]!.length m.needs[U2]!.length).length-j) ae [(0,0),(1,1)] ?_;intro j hj;have hoi2:(j7 (bB m c)[k]!.m ((U2:Nat):Int) (cG (cR od ((U2:Nat):Int)) m.needs[U2]!.length m.needs[U2]!.length) j (dR m od c (bB m c) k)).length<=(dR m od c (bB m c) k).length+j:=C7 _ _ _ j _;refine zg ?_;intro u2;refine dP ?_ ?_<;>intro hc4
  .refine dJ ?_;have hT:=htr.1 _ (aq (show j<(cG (cR od ((U2:Nat):Int)) m.needs[U2]!.length m.needs[U2]!.length).length by omega));refine k9 ?_;refine a7 (dY.D ⟨((U2:Nat):Int),(cG (cR od ((U2:Nat):Int)) m.needs[U2]!.length m.needs[U2]!.length)[j]!⟩) ?_;refine kB ?_;refine cK (k) (hj:=λhf=>ch) (hb:=λhf=>ch) ?_;refine Ag ?_;refine dh (v:=.int .i64 (((bB m c))[k]!.m)) (hi:=λhf=>ch) ?_;refine bI ?_;refine bI ?_;refine cK (j) (hj:=λhf=>ch) (hb:=λhf=>ch) ?_;refine dh (v:=.int .i64 (((cG (cR od ((U2:Nat):Int)) m.needs[U2]!.length m.needs[U2]!.length))[j]!)) (hi:=λhf=>ch) ?_;refine rB ((cG (cR od ((U2:Nat):Int)) m.needs[U2]!.length m.needs[U2]!.length)[j]!) (hb:=λ_=>by rw[IntKind.wrap_u64];omega) ?_;refine F1 (2^((cG (cR od ((U2:Nat):Int)) m.needs[U2]!.length m.needs[U2]!.length)[j]!.toNat+1)) (hn:=λ_=>ae) (hb:=λ_=>DT (n:=(cG (cR od ((U2:Nat):Int)) m.needs[U2]!.length m.needs[U2]!.length)[j]!.toNat) ae ae) ?_;refine Dl (G1 (bB m c)[k]!.m (2^((cG (cR od ((U2:Nat):Int)) m.needs[U2]!.length m.needs[U2]!.length)[j]!.toNat+1))) (hb:=λ_=>rfl) ?_;refine pf ?_;refine bI ?_;refine bI ?_;refine bI ?_;refine bI ?_;refine bI ?_;refine cK (j) (hj:=λhf=>ch) (hb:=λhf=>ch) ?_;refine dh (v:=.int .i64 (((cG (cR od ((U2:Nat):Int)) m.needs[U2]!.length m.needs[U2]!.length))[j]!)) (hi:=λhf=>ch) ?_;refine cv (hc:=λhf=>hB [] ((U2:Nat):Int) (cG (cR od ((U2:Nat):Int)) m.needs[U2]!.length m.needs[U2]!.length)[j]! rfl) ?_;refine uU ?_;refine bI ?_;refine bI ?_;refine kW (d:=dY.D ((⟨((U2:Nat):Int),(cG (cR od ((U2:Nat):Int)) m.needs[U2]!.length m.needs[U2]!.length)[j]!⟩:dY))) ?_;refine cv (hc:=λhf=>hD (j7 (bB m c)[k]!.m ((U2:Nat):Int) (cG (cR od ((U2:Nat):Int)) m.needs[U2]!.length m.needs[U2]!.length) j (dR m od c (bB m c) k)) ⟨((U2:Nat):Int),(cG (cR od ((U2:Nat):Int)) m.needs[U2]!.length m.needs[U2]!.length)[j]!⟩) (ha:=λ_=>aw (λd=>[d,dY.D ⟨((U2:Nat):Int),(cG (cR od ((U2:Nat):Int)) m.needs[U2]!.length m.needs[U2]!.length)[j]!⟩]) (aaC (q:=dY.D) (λ_=>rfl) ai)) (hp:=λ_=>⟨SV (q:=dY.D) (λ_=>Kz) ai,Kz⟩) ?_;refine Sj ?_;refine uU ?_;refine bm (env':=[_,_,_,_,_,_,_,_,_,_,_,_,_,_,_,_,_,_,_,_,⟨_,(.bool _)⟩]) ?_;refine wp_cond (λhc5=>?_) (λhc5=>?_)
   .have hO1:j7 (bB m c)[k]!.m ((U2:Nat):Int) (cG (cR od ((U2:Nat):Int)) m.needs[U2]!.length m.needs[U2]!.length) (j+1) (dR m od c (bB m c) k)=(j7 (bB m c)[k]!.m ((U2:Nat):Int) (cG (cR od ((U2:Nat):Int)) m.needs[U2]!.length m.needs[U2]!.length) j (dR m od c (bB m c) k))++[⟨((U2:Nat):Int),(cG (cR od ((U2:Nat):Int)) m.needs[U2]!.length m.needs[U2]!.length)[j]!⟩]:=by rw[j7,Pc,ak oU]
    refine po ?_;refine bI ?_;refine kW (d:=dY.D ((⟨((U2:Nat):Int),(cG (cR od ((U2:Nat):Int)) m.needs[U2]!.length m.needs[U2]!.length)[j]!⟩:dY))) ?_;refine bg [dY.D ⟨((U2:Nat):Int),(cG (cR od ((U2:Nat):Int)) m.needs[U2]!.length m.needs[U2]!.length)[j]!⟩] ?_;refine cH (q:=dY.D) (xs:=(j7 (bB m c)[k]!.m ((U2:Nat):Int) (cG (cR od ((U2:Nat):Int)) m.needs[U2]!.length m.needs[U2]!.length) j (dR m od c (bB m c) k))) (e:=⟨((U2:Nat):Int),(cG (cR od ((U2:Nat):Int)) m.needs[U2]!.length m.needs[U2]!.length)[j]!⟩) (hb:=ae) ?_;refine bI ?_;refine nF (env':=[_,_,_,_,_,_,_,_,_,_,_,_,_,_,_,_,_,_,⟨_,(.own _ _ _ _)⟩,_,_]) ?_;refine BQ.normal ?_;refine po ?_;refine bI ?_;refine mb (hb:=λhf=>ch) ?_;refine bI ?_;refine nF (env':=[_,_,_,_,_,_,_,_,_,_,_,_,_,_,_,⟨_,(.int _ _)⟩,_,_,_,_,_]) ?_;refine Bj.normal ?_;rw[<-hO1];exact iy (j+1) [(95,0),(1,1)]
   have hO1:j7 (bB m c)[k]!.m ((U2:Nat):Int) (cG (cR od ((U2:Nat):Int)) m.needs[U2]!.length m.needs[U2]!.length) (j+1) (dR m od c (bB m c) k)=(j7 (bB m c)[k]!.m ((U2:Nat):Int) (cG (cR od ((U2:Nat):Int)) m.needs[U2]!.length m.needs[U2]!.length) j (dR m od c (bB m c) k)):=by rw[j7,Pc,ah oU]
   refine wp_skip ?_;refine BQ.normal ?_;refine po ?_;refine bI ?_;refine mb (hb:=λhf=>ch) ?_;refine bI ?_;refine nF (env':=[_,_,_,_,_,_,_,_,_,_,_,_,_,_,_,⟨_,(.int _ _)⟩,_,_,_,_,_]) ?_;refine Bj.normal ?_;rw[<-hO1];exact iy (j+1) [(0,0),(1,1)]
  refine oA ?_;refine Bj.out ?_;refine BQ.normal ?_;refine po ?_;refine bI ?_;refine mb (hb:=λhf=>ch) ?_;refine bI ?_;refine nF (env':=[_,_,_,_,_,_,_,_,_,_,⟨_,(.int _ _)⟩,_,_,_,_,_,_,_,_,_,_]) ?_;refine LQ.normal ?_;rw[show j=(cG (cR od ((U2:Nat):Int)) m.needs[U2]!.length m.needs[U2]!.length).length by omega,<-hk2];exact iy (k+1) [(0,0),(1,1)]
 refine oA ?_;refine LQ.out ?_;obtain rfl:k=(bB m c).length:=ae;have hov:eh m od c=dR m od c (bB m c) (bB m c).length:=by unfold eh;rw[ah hc0]
 refine bz 0 ?_ (he:=AJ) (hm:=AJ);refine aP ?_;refine bI ?_;refine bI ?_;refine bm (env':=[_,_,_,_,⟨_,(.sl _ _)⟩,_,_,_,_,_,_,_,_,_,_,_,_,_,_,_,_]) ?_;refine wp_ret ?_;refine zr ?_;rw[hov];rfl
def ZJ:aj:=bc 33
def w270 (hA:C52 Y)(hB:VA Y)(hC:C145 Y)(hD:C169 Y)(hE:VB Y)(hF:C507 Y)(hG:C508 Y):I5 (cw Y ZJ):=λshop e w c hp0=>by
 refine yr ?_;refine aF (hc:=hD (w) Ky) ?_;refine dJ ?_;refine cv (hc:=λhf=>hC (shop) Ky) ?_;refine rb ?_;refine cv (hc:=λhf=>hE (w) (c) Ky) ?_;refine zc ?_ ?_<;>intro hc0
 .refine cX ?_;refine bR _ ?_;refine cy _ ?_;refine zr ?_;rw[of_a hc0];rfl
 refine k9 ?_;refine aF (hc:=hA (w) (c) Ky) ?_;refine zc ?_ ?_<;>intro hc1
 .refine cX ?_;refine bR _ ?_;refine cy _ ?_;refine zr ?_;rw[of_b hc0 hc1];rfl
 refine dJ ?_;refine a7 (.agg [.str e.e0,.str e.e1,.str e.e2,.aL]) ?_;refine k9 ?_;obtain⟨hcl,⟨hc1a,hc48⟩,hcw⟩:=C0 hc0.2;refine zg ?_;refine gy hm (ι:=Nat) (λu=>[⟨true,.sl 2 ((shop).map bA.D)⟩,.un,.un,⟨true,.sl 1 ((c).map (D.int .i64))⟩,⟨true,.ptr 2 4 0 0⟩,.un,⟨true,.ptr 1 1 0 0⟩,.un,.un,.un,⟨true,.int .i64 (u:Nat)⟩,.un,.un,.un,.un,.un,.un,.un,.un,.un,⟨true,.ptr 3 4 0 0⟩]) (λu=>[(0,.buf 9 ((dC shop w.us c u).1.map ea.D)),(1,.buf 1 [bP.D w]),(2,.buf 4 [.agg [.str [],.str [],.str [],.aL]]),(3,.buf 4 [.agg [.str e.e0,.str e.e1,.str e.e2,.own 0 9 0 (dC shop w.us c u).1.length]])]) 20 (λu=>(1<=u/\u<=w.us.length)/\(dC shop w.us c u).2=0) (λu=>w.us.length-u) 1 ⟨⟨ae,ae⟩,by rw[RH]⟩ (aZ.to [(1,1),(2,2),(29,3)] ai ai eM (by rw[RH];repeat(first|exact bo.nil|refine bo.AW ai ai dZ ?_|refine bo.NU ai ai ai ?_|refine bo.NV ai ai ai ai ?_|refine bo.nl 1 ai ai ai dZ ?_|refine bo.nl 2 ai ai ai dZ ?_|refine bo.ni 29 ai ai (by exact⟨_,_,rfl,⟨_,rfl,⟨_,_,rfl,⟨rfl,rfl⟩,⟨_,_,rfl,⟨rfl,rfl⟩,⟨_,_,rfl,⟨rfl,rfl⟩,⟨_,_,rfl,.inr ⟨_,_,_,rfl⟩,rfl⟩⟩⟩⟩⟩,rfl⟩) ?_|refine bo.mt ai ai ai ai ?_))) ?_;rintro u ⟨⟨hu1,hu⟩,hz⟩;have hll:=tp (shop:=shop) (us:=w.us) (c:=c) u;refine zg ?_;intro u0;refine dP ?_ ?_<;>intro hc2
 .refine zc ?_ ?_<;>intro hc3
  .refine zg ?_;have hsk:fq w.us c u=true:=by
    unfold fq;rcases hc3 with h|h
    .rw[bL h];simp
    .rw[br h];simp
   have hls:=OS hz hsk;rw[<-hls];refine zl (u+1) [(0,0),(1,1),(2,2),(3,3)] ?_;exact⟨⟨ae,ae⟩,by rw[hls];exact hz⟩
  refine cX ?_;have hsk:fq w.us c u=false:=by
   unfold fq;rw[bL (show ¬u=0 by omega),bL hc3.2,br hc3.1];rfl
  have hcu:=hcw u ae;have hxm:=aq (show c[u]!.toNat<w.us[u]!.cands.length by omega);have hun:=((hp0.2.1 _ (aq (show u<w.us.length by omega))).2 _ hxm).1;refine Em ?_;refine dh (v:=eB.D (cj w.us c u)) (hi:=λ_=>ae) ?_;refine gZ ?_;refine qp ?_;refine a7 (ea.D (⟨w.us[u]!.name,(cj w.us c u).v,[],0,(lB w.us c u)⟩:ea)) ?_;refine zc ?_ ?_<;>intro hc4
  .refine zc ?_ ?_<;>intro hc5
   .refine cX ?_;refine bR _ ?_;refine cy _ (he:=c8) ?_;refine zr ?_;rw[of_c hc0 hc1 hz hsk ae 12 aV (ajt hc4 hc5)];rfl
   refine dJ ?_;have hs0:0<=(cj w.us c u).sh/\(cj w.us c u).sh<(shop.length:Int):=ae;have hss:=hp0.1 _ (aq (show(cj w.us c u).sh.toNat<shop.length by omega));refine yr ?_;refine aF (hc:=hG shop[(cj w.us c u).sh.toNat]! w.us[u]!.name (cj w.us c u).v ⟨hss,hun⟩) ?_;refine yr ?_;refine bz 99 ?_ (he:=Ks) (hm:=Ks);refine zc ?_ ?_<;>intro hc6
   .refine cX ?_;refine bR _ ?_;refine cy _ (he:=c8) ?_;refine zr ?_;rw[of_c hc0 hc1 hz hsk ae 9 aV (aju hc4 hc5 hc6)];rfl
   refine yr ?_;refine Zk (v:=.int .u64 (oH shop[(cj w.us c u).sh.toNat]! w.us[u]!.name (cj w.us c u).v).1.sum) ?_;refine cO ?_;refine cy (ea.D (⟨w.us[u]!.name,(cj w.us c u).v,shop[(cj w.us c u).sh.toNat]!.name,0,(lB w.us c u)⟩:ea)) (he:=c8) ?_;refine cO ?_;refine cy (ea.D (⟨w.us[u]!.name,(cj w.us c u).v,shop[(cj w.us c u).sh.toNat]!.name,(oH shop[(cj w.us c u).sh.toNat]! w.us[u]!.name (cj w.us c u).v).1.sum,(lB w.us c u)⟩:ea)) (he:=c8) ?_;refine cO ?_;have hln:=ajv (w:=w) (c:=c) (u:=u) hc4 hc5 hc6;obtain⟨X,hX⟩:∃X,(⟨w.us[u]!.name,(cj w.us c u).v,shop[(cj w.us c u).sh.toNat]!.name,(oH shop[(cj w.us c u).sh.toNat]! w.us[u]!.name (cj w.us c u).v).1.sum,(lB w.us c u)⟩:ea)=X:=⟨_,rfl⟩
   rw[hX]at hln⊢;have hla:=FE hz hsk hln;refine fE ?_;refine bg [ea.D X] ?_;refine cH (q:=ea.D) (xs:=(dC shop w.us c u).1) (e:=X) (hb:=ae) ?_;refine cO ?_;refine cy (.agg [.str e.e0,.str e.e1,.str e.e2,.own 120 9 0 ((dC shop w.us c u).1++[X]).length]) (he:=c8) ?_;refine zg ?_;rw[show(dC shop w.us c u).1++[X]=(dC shop w.us c (u+1)).1 by rw[hla]];refine zl (u+1) [(120,0),(1,1),(2,2),(3,3)] ?_;exact⟨⟨ae,ae⟩,by rw[hla]⟩
  refine cO ?_;have hln:=ajs (shop:=shop) (w:=w) (c:=c) (u:=u) hc4;obtain⟨X,hX⟩:∃X,(⟨w.us[u]!.name,(cj w.us c u).v,[],0,(lB w.us c u)⟩:ea)=X:=⟨_,rfl⟩
  rw[hX]at hln⊢;have hla:=FE hz hsk hln;refine fE ?_;refine bg [ea.D X] ?_;refine cH (q:=ea.D) (xs:=(dC shop w.us c u).1) (e:=X) (hb:=ae) ?_;refine cO ?_;refine cy (.agg [.str e.e0,.str e.e1,.str e.e2,.own 80 9 0 ((dC shop w.us c u).1++[X]).length]) (he:=c8) ?_;refine zg ?_;rw[show(dC shop w.us c u).1++[X]=(dC shop w.us c (u+1)).1 by rw[hla]];refine zl (u+1) [(80,0),(1,1),(2,2),(3,3)] ?_;exact⟨⟨ae,ae⟩,by rw[hla]⟩
 refine cX ?_;obtain rfl:u=w.us.length:=ae;rw[show dC shop w.us c w.us.length=dx shop w c from rfl]at hz⊢;refine bz 0 ?_ (he:=Ks) (hm:=Ks);refine cO ?_;refine kW (d:=lI.D ⟨e,(dx shop w c).1⟩) ?_;refine zr ?_;rw[of_d hc0 hc1 hz];rfl
def PD:aj:=bc 228
def w1014 (hA:Vz Y)(hB:C374 Y)(hC:aeX Y)(hD:ae7 Y):Et (cw Y PD):=λl nm hp0=>by
 refine cO ?_;have hya:=yq hp0;refine xP ?_;refine bI ?_;refine bm (env':=[_,_,⟨_,_⟩,⟨_,(.int _ _)⟩,_,_,_,_,_,_,_,_,_]) ?_;refine fY ?_;refine aP ?_;refine bI ?_;refine aF (hc:=hA (l) (by first|assumption|omega)) ?_;refine bI ?_;refine kV (.int _ _) ?_;refine kV (.int _ _) ?_;refine bI ?_;refine bI ?_;refine bm (env':=[_,_,_,_,⟨_,(.int _ _)⟩,_,_,_,_,_,_,_,_]) ?_;refine fY ?_;refine aP ?_;refine bI ?_;refine pf ?_;refine bm (env':=[_,_,_,_,_,⟨_,(.bool _)⟩,_,_,_,_,_,_,_]) ?_;refine dP ?_ ?_<;>intro hc0
 .exact absurd trivial hc0
 refine fE ?_;refine cy _ ?_;refine bm (env':=[_,_,_,_,_,_,_,_,_,_,_,⟨_,_⟩,_]) ?_;refine dJ ?_;refine bm (env':=[_,_,_,_,_,_,⟨_,(.int _ _)⟩,_,_,_,_,_,_]) ?_;refine zf hm (λi=>[.m 11 l gW.D,.e (.str nm),.p 1 2,.u 3,.i i,.u 4,.p 0 2,.u 1]) (λi=>[(0,.buf 2 [cx.D (if i=0 then pC else kM l nm)]),(1,.buf 2 [.agg [.aL,.aL]])]) 15 (λi=>i<=l.length) (λi=>l.length-i) ae [(12,0),(0,1)] ?_;intro i hi;refine zg ?_;intro u0;refine dP ?_ ?_<;>intro hc1
 .refine dJ ?_;obtain rfl:i=0:=by have:=hya.1;omega
  obtain⟨hyp1,hyp2,hyp3,hyp4⟩:=tH hp0 (i:=0) ae;have hmi:=hya.2 0 ae;rw[ak rfl];refine zg ?_;refine zfL hm (λk=>[.m 11 l gW.D,.e (.str nm),.p 1 2,.u 3,.i 0,.u 1,.i k,.u 2,.p 0 2,.u 1]) (λk=>[(0,.buf 2 [cx.D (if k=0 then pC else kM l nm)]),(1,.buf 2 [.agg [.aL,.aL]])]) 20 (λk=>k<=l[0]!.hs.length) (λk=>l[0]!.hs.length-k) ae [(0,0),(1,1)] ?_;intro k hk;refine fY ?_;refine aP ?_;refine bI ?_;refine bI ?_;refine bI ?_;refine cK (0) (hj:=λhf=>ch) (hb:=λhf=>ch) ?_;refine Ag ?_;refine dh (v:=.sl 2 (l[0]!.hs.map kE.D)) (hi:=λ_=>ae) ?_;refine HV λu1=>?_;specialize u1 rfl rfl
  refine y9 ?_;refine bm (env':=[_,_,_,_,_,_,_,_,_,⟨_,(.bool _)⟩,_,_,_]) ?_;refine dP ?_ ?_<;>intro hc2
  .refine fZ ?_;refine mJ ?_ hm;refine aP ?_;have hk0:k=0:=ae;rw[ak hk0];refine bI ?_;refine bI ?_;refine cK (0) (hj:=λhf=>ch) (hb:=λhf=>ch) ?_;refine Ag ?_;refine dh (v:=.sl 2 (l[0]!.hs.map kE.D)) (hi:=λ_=>ae) ?_;refine bI ?_;refine cK (k) (hj:=λhf=>ch) (hb:=λhf=>ch) ?_;refine Ag ?_;refine dh (v:=.str (l[0]!.hs)[k]!.name) (hi:=λhf=>ch) ?_;refine bI ?_;refine Zg ?_;refine bm (env':=[_,_,_,_,_,_,_,_,_,_,⟨_,(.bool _)⟩,_,_]) ?_;refine Bo ?_ ?_<;>intro hc3
   .refine aP ?_;refine bI ?_;refine bI ?_;refine cK (0) (hj:=λhf=>ch) (hb:=λhf=>ch) ?_;refine Ag ?_;refine dh (v:=.sl 2 (l[0]!.hs.map kE.D)) (hi:=λ_=>ae) ?_;refine bI ?_;refine cK (k) (hj:=λhf=>ch) (hb:=λhf=>ch) ?_;refine Ag ?_;refine dh (v:=.str (l[0]!.hs)[k]!.range) (hi:=λhf=>ch) ?_;refine aF (hc:=hC l[0]!.hs[k]!.range (hmi.1.2.2 _ (aq ae))) ?_;refine bI ?_;refine kV (cx.D _) ?_;refine kV (.int _ _) ?_;refine xP ?_;refine cy _ ?_;refine bI ?_;refine bm (env':=[_,_,_,_,_,_,_,_,_,_,_,_,⟨_,_⟩]) ?_;refine po ?_;refine kW (d:=cx.D pC) ?_;refine kW (d:=cx.D (fe l[0]!.hs[k]!.range)) ?_;refine aF (hc:=hD (fe l[0]!.hs[k]!.range) (qW _)) ?_;refine cy (cx.D (fe l[0]!.hs[k]!.range)) (he:=c8) ?_;refine nF (env':=[_,_,_,_,_,_,_,_,_,_,_,_,_]) ?_;refine BQ.normal ?_;refine po ?_;refine bI ?_;refine mb (hb:=λhf=>ch) ?_;refine bI ?_;refine nF (env':=[_,_,_,_,_,_,_,_,⟨_,(.int _ _)⟩,_,_,_,_]) ?_;refine Bj.normal ?_;rw[<-ai2 hk0 ae hc3];exact⟨k+1,ae,ae,(aZ.to [(0,0),(1,1)] ai ai eM QA)⟩
   refine wp_skip ?_;refine BQ.normal ?_;refine po ?_;refine bI ?_;refine mb (hb:=λhf=>ch) ?_;refine bI ?_;refine nF (env':=[_,_,_,_,_,_,_,_,⟨_,(.int _ _)⟩,_,_,_,_]) ?_;refine Bj.normal ?_;rw[<-ai1 hk0 hc3];exact⟨k+1,ae,ae,(aZ.to [(0,0),(1,1)] ai ai eM QA)⟩
  refine oA ?_;refine Bj.out ?_;refine BQ.normal ?_;refine po ?_;refine bI ?_;refine mb (hb:=λhf=>ch) ?_;refine bI ?_;refine nF (env':=[_,_,_,_,_,_,⟨_,(.int _ _)⟩,_,_,_,_,_,_]) ?_;refine LQ.normal ?_;rw[show(if k=0 then pC else kM l nm)=kM l nm from ai0 ae];exact iy (0+1) [(0,0),(1,1)]
 refine cX ?_;rw[ah (show ¬i=0 by have:=hya.1;omega)];refine cX ?_;refine cy _ (he:=c8) ?_;exact lU
def PJ:aj:=bc 192
def w906 (hA:C907 Y)(hB:C908 Y)(hC:Vw Y):Kh (cw Y PJ):=λr e nm ft hp0=>by
 refine cO ?_;have hns:=gD hp0.1;refine zg ?_;refine zf hm (λi=>[.u 2,.e (.str nm),.e (.str ft),.u 1,.i i,.p 1 9,.u 2,.p 2 3,.u 2,.o 0 1 ((ja (r.needs.take i) e nm ft)).length]) (λi=>[(0,.buf 1 (((ja (r.needs.take i) e nm ft)).map dS)),(1,.buf 9 [Rec.D r]),(2,.buf 3 [Env.D e])]) 5 (λi=>i<=r.needs.length) (λi=>r.needs.length-i) ae [(0,1),(1,2)] ?_;intro i hi;have hol:=(y6 (ns:=r.needs.take i) (e:=e) (nm:=nm) (ft:=ft) λn hn=>hns.2 n (D5 hn)).1;rw[dF]at hol;refine zg ?_;intro u0;refine dP ?_ ?_<;>intro hc0
 .refine yr ?_;refine cy _ ?_;refine dJ ?_;have hna:=(hns.2 _ (aq (show i<r.needs.length by omega))).1;have hrl:=(tA (hns.2 _ (aq (show i<r.needs.length by omega)))).1;refine qp ?_;intro u1;refine cK 0 (hj:=λ_=>rfl) (hb:=λ_=>ae) ?_;refine yr ?_;refine cv (hc:=λhf=>hA _ (e) ?_) ?_;rotate_left;first|assumption|omega|exact⟨hns.2 _ (aq ae),hp0.1.2.2.1 _ (aq ae)⟩|exact⟨(hp0.1.2.2.1 _ (aq ae)).2.1,hp0.2⟩|exact((hp0.1.2.2.1 _ (aq ae)).1 _ (aq ae)).1.2
  refine zc ?_ ?_<;>intro hc1
  .refine zg ?_;rw[show(ja (r.needs.take i) e nm ft)=ja (r.needs.take (i+1)) e nm ft from by rw[<-HQ ae,aea hc1,gB]];exact iy (i+1) [(0,0),(1,1),(2,2)]
  refine zc ?_ ?_<;>intro hc2
  .refine dJ ?_;refine aF (hc:=hC _ ?_) ?_;rotate_left;first|assumption|omega|exact⟨hns.2 _ (aq ae),hp0.1.2.2.1 _ (aq ae)⟩|exact⟨(hp0.1.2.2.1 _ (aq ae)).2.1,hp0.2⟩|exact((hp0.1.2.2.1 _ (aq ae)).1 _ (aq ae)).1.2
   refine pd (q:=dS) (xs:=(ja (r.needs.take i) e nm ft)) (ys:=iM r.needs[i]!) (he:=mW.sl) (hb:=ae) ?_;refine kB ?_;refine a7 (Key.D (⟨nm,ft⟩)) ?_;refine cX ?_;refine cK 0 (hj:=λ_=>rfl) (hb:=λ_=>ae) ?_;refine cX ?_;refine aF (hc:=hB (r.needs[i]!.any[0]!.range) aa0) ?_;refine a7 (js.D (⟨⟨nm,ft⟩,fe r.needs[i]!.any[0]!.range⟩:js)) ?_;refine bg [js.D (⟨⟨nm,ft⟩,fe r.needs[i]!.any[0]!.range⟩:js)] ?_;refine bg [.own 56 4 0 1] ?_;refine xO (((ja (r.needs.take i) e nm ft)++iM r.needs[i]!).map dS++[.own 56 4 0 1]) (n:=(((ja (r.needs.take i) e nm ft)++iM r.needs[i]!)++[[(⟨⟨nm,ft⟩,fe r.needs[i]!.any[0]!.range⟩:js)]]).length) (ha:=kf) (he:=mW.own rfl (by first|rfl|simp)) (hz:=yu) (hn:=EE) (hb:=EG) ?_;refine dJ ?_;refine bz 56 ?_ (he:=lH) (hm:=lH);refine zg ?_;rw[pD,show((ja (r.needs.take i) e nm ft)++iM r.needs[i]!)++[[(⟨⟨nm,ft⟩,fe r.needs[i]!.any[0]!.range⟩:js)]]=ja (r.needs.take (i+1)) e nm ft from by rw[<-HQ ae,Se hc1,show YD r.needs[i]! =iM r.needs[i]! from ah hc2,fC]];exact iy (i+1) [(58,0),(1,1),(2,2)]
  refine k9 ?_;refine a7 (Key.D (⟨nm,ft⟩)) ?_;refine cX ?_;refine cK 0 (hj:=λ_=>rfl) (hb:=λ_=>ae) ?_;refine cX ?_;refine aF (hc:=hB (r.needs[i]!.any[0]!.range) aa0) ?_;refine a7 (js.D (⟨⟨nm,ft⟩,fe r.needs[i]!.any[0]!.range⟩:js)) ?_;refine bg [js.D (⟨⟨nm,ft⟩,fe r.needs[i]!.any[0]!.range⟩:js)] ?_;refine bg [.own 51 4 0 1] ?_;refine xO ((ja (r.needs.take i) e nm ft).map dS++[.own 51 4 0 1]) (n:=((ja (r.needs.take i) e nm ft)++[[(⟨⟨nm,ft⟩,fe r.needs[i]!.any[0]!.range⟩:js)]]).length) (ha:=kf) (he:=mW.own rfl (by first|rfl|simp)) (hz:=yu) (hn:=EE) (hb:=EG) ?_;refine dJ ?_;refine bz 51 ?_ (he:=lH) (hm:=lH);refine zg ?_;rw[pD,show(ja (r.needs.take i) e nm ft)++[[(⟨⟨nm,ft⟩,fe r.needs[i]!.any[0]!.range⟩:js)]]=ja (r.needs.take (i+1)) e nm ft from by rw[<-HQ ae,Se hc1,show YD r.needs[i]! =[]from ak hc2,rh]];exact iy (i+1) [(53,0),(1,1),(2,2)]
 refine cX ?_;obtain rfl:i=r.needs.length:=ae;rw[List.take_length];refine bz 0 ?_ (he:=lH) (hm:=lH);exact lU
def MO:aj:=bc 149
def w753 (hA:C672 Y)(hB:C904 Y)(hC:C905 Y)(hD:C906 Y)(hE:VH Y):J1 (cw Y MO):=λr e ft hp0=>by
 refine cO ?_;have hof:=(xz hp0.1.1 ft).1;refine zc ?_ ?_<;>intro hc0
 .refine zr ?_;rw[show cM r e ft=qM r.needs e []from ak hc0];rfl
 refine kB ?_;refine cy _ ?_;refine fE ?_;refine a7 (Key.D (⟨r.name,[]⟩)) ?_;refine cO ?_;refine a7 (js.D (⟨⟨r.name,[]⟩,dH r.v⟩:js)) ?_;refine bg [js.D (⟨⟨r.name,[]⟩,dH r.v⟩:js)] ?_;refine bg [.own 15 4 0 1] ?_;refine dJ ?_;refine bz 15 ?_ (he:=lH) (hm:=lH);refine zg ?_;intro u0;refine zf hm (λi=>[.u 2,.e (.str ft),.u 2,.p 1 9,.p 2 3,.p 3 2,.i i,.i ((uT r.feats ft).length:Nat),.u 1,.m 1 (uT r.feats ft) D.str,.u 4,.o 0 1 ((yZ r e ft i)).length,.u 3]) (λi=>[(0,.buf 1 (((yZ r e ft i)).map dS)),(1,.buf 9 [Rec.D r]),(2,.buf 3 [Env.D e]),(3,.buf 2 [cx.D (dH r.v)])]) 24 (λi=>i<=(uT r.feats ft).length) (λi=>(uT r.feats ft).length-i) ae [(16,0),(0,1),(1,2),(8,3)] ?_;intro i hi;have hnl:=Ye (ft:=ft) (e:=e) hp0.1.1 i;refine zc ?_ ?_<;>intro hc1
 .refine pA ?_;have hil:=(tl (e:=e) (s:=(uT r.feats ft)[i]!) hp0.1.1).1;refine cO ?_;refine aF (hc:=hA (((uT r.feats ft))[i]!) (by first|assumption|omega|exact⟨hp0.1.1,hp0.2⟩|exact aat hp0.1.2|exact(xz hp0.1.1 ft).2 _ (aq ae))) ?_;refine zc ?_ ?_<;>intro hc2
  .refine k9 ?_;refine a7 (Key.D (⟨r.name,(bK (((uT r.feats ft))[i]!)).2.1⟩)) ?_;refine cO ?_;refine a7 (js.D (⟨⟨r.name,(bK (uT r.feats ft)[i]!).2.1⟩,dH r.v⟩:js)) ?_;refine bg [js.D (⟨⟨r.name,(bK (uT r.feats ft)[i]!).2.1⟩,dH r.v⟩:js)] ?_;refine bg [.own 47 4 0 1] ?_;refine xO ((yZ r e ft i).map dS++[.own 47 4 0 1]) (n:=((yZ r e ft i)++[[(⟨⟨r.name,(bK (uT r.feats ft)[i]!).2.1⟩,dH r.v⟩:js)]]).length) (ha:=kf) (he:=mW.own rfl (by first|rfl|simp)) (hz:=yu) (hn:=EE) (hb:=EG) ?_;refine fE ?_;refine bz 47 ?_ (he:=lH) (hm:=lH);refine zg ?_;rw[pD,<-aji hc2,O1 ae];exact iy (i+1) [(49,0),(1,1),(2,2),(3,3)]
  refine zc ?_ ?_<;>intro hc3
  .refine kB ?_;refine pd (q:=dS) (xs:=(yZ r e ft i)) (ys:=qM r.needs e (bK (uT r.feats ft)[i]!).2.1) (he:=mW.sl) (hb:=by have:=(xF (e:=e) (o:=(bK (uT r.feats ft)[i]!).2.1) (gD hp0.1.1).2).1;have:=(gD hp0.1.1).1;omega) ?_;refine zg ?_;rw[<-ajj hc2 hc3,O1 ae];exact iy (i+1) [(47,0),(1,1),(2,2),(3,3)]
  refine qp ?_;refine pd (q:=dS) (xs:=(yZ r e ft i)) (ys:=ja r.needs e (bK (uT r.feats ft)[i]!).2.1 (bK (uT r.feats ft)[i]!).2.2) (he:=mW.sl) (hb:=by have:=(y6 (e:=e) (nm:=(bK (uT r.feats ft)[i]!).2.1) (ft:=(bK (uT r.feats ft)[i]!).2.2) (gD hp0.1.1).2).1;have:=(gD hp0.1.1).1;omega) ?_;refine zg ?_;rw[<-ajk hc2 hc3,O1 ae];exact iy (i+1) [(48,0),(1,1),(2,2),(3,3)]
 refine cX ?_;obtain rfl:i=(uT r.feats ft).length:=ae;rw[ajG hc0];refine bz 0 ?_ (he:=lH) (hm:=lH);exact lU
def Px:aj:=bc 261
def w1084 (hA:Ti Y)(hB:Tj Y):Ey (cw Y Px):=λs nm hp0=>by
 refine zc ?_ ?_<;>intro hc0
 .refine zr ?_;rw[show kq s nm=[]from ak hc0];rfl
 refine zg ?_;refine zf hm (λi=>[.u 1,.e (.str nm),.u 1,.p 1 2,.u 1,.i i,.u 3,.o 0 1 ((eK s.es nm i)).length,.u 1]) (λi=>[(0,.buf 1 (((eK s.es nm i)).map (D.int .i64))),(1,.buf 2 [bA.D s])]) 7 (λi=>i<=s.es.length) (λi=>s.es.length-i) ae [(0,1)] ?_;intro i hi;have hlt:=xk s.es nm i;refine zg ?_;intro u0;refine dP ?_ ?_<;>intro hc1
 .refine fE ?_;have h64:=SC hc0;refine zg ?_;refine aQ (λhc2=>?_) (λhc2=>?_)
  .simp only[gO]at hc2;refine zg ?_;rw[adB hc2];exact iy (i+1) [(0,0),(1,1)]
  try simp only[gO]at hc2
  refine cO ?_;refine bz 0 ?_;refine zg ?_;refine zf hm (λk=>[.u 1,.e (.str nm),.u 1,.p 0 2,.u 1,.i i,.u 2,.i k,.m 1 (eK s.es nm i) (D.int .i64),.u 1]) (λk=>[(0,.buf 2 [bA.D s])]) 22 (λk=>k<=(eK s.es nm i).length/\AY s.es (eK s.es nm i) i 0=AY s.es (eK s.es nm i) i k) (λk=>(eK s.es nm i).length-k) ⟨ae,rfl⟩ [(1,0)] ?_;rintro k ⟨hk,hr⟩;refine IJ ?_;refine cK ((eK s.es nm i)[k]!).toNat (hj:=λhf=>by
    have hkl:k<(eK s.es nm i).length:=by simp at hf;omega
    have hkr:=hlt.2 _ (aq hkl);omega) (hb:=λhf=>by
    have hkl:k<(eK s.es nm i).length:=by simp at hf;omega
    have hkr:=hlt.2 _ (aq hkl);omega) ?_
  refine cX ?_;refine dh (v:=bV.D s.es[((eK s.es nm i)[k]!).toNat]!.r.v) (hi:=λhf=>by
    have hkl:k<(eK s.es nm i).length:=by simp at hf;omega
    have hkr:=hlt.2 _ (aq hkl);omega) ?_
  refine qp ?_;refine cv (hc:=λhf=>hB s.es[((eK s.es nm i)[k]!).toNat]!.r.v s.es[i]!.r.v (by
    have hkl:k<(eK s.es nm i).length:=by simp at hf;omega
    have hkr:=hlt.2 _ (aq hkl);exact⟨(hp0 _ (aq ae)).1.2,(hp0 _ (aq ae)).1.2⟩)) ?_
  refine zc ?_ ?_<;>intro hc3
  .refine gM (k+1) [(0,0)] ?_;rw[hr,TZ ae hc3.2]
  refine dJ ?_;have hk2:AY s.es (eK s.es nm i) i 0=k:=by rw[hr];exact T0 (λh=>by rcases hc3 with h1|h1;omega;exact h1)
  refine dJ ?_;refine BG (he:=mW.sl) (n:=((eK s.es nm i).take k).length) (hn:=aC) (hb:=zE) ?_;refine cO ?_;refine bg [.int .i64 ((i:Nat):Int)] ?_;refine cH (q:=D.int .i64) (xs:=(eK s.es nm i).take k) (e:=((i:Nat):Int)) (hb:=zE) ?_;refine dJ ?_;refine pd (q:=D.int .i64) (xs:=(eK s.es nm i).take k++[((i:Nat):Int)]) (ys:=(eK s.es nm i).drop k) (he:=mW.sl) (hb:=QH) ?_;refine zg ?_;rw[adr hk2,adC hc2];exact iy (i+1) [(57,0),(0,1)]
 refine cX ?_;obtain rfl:i=s.es.length:=ae;rw[adA hc0];refine bz 0 ?_;exact lU
def UE:aj:=bc 54
def w504 (hA:C75 Y)(hB:Ti Y)(hC:VE Y):Jw (cw Y UE):=λs r hp0=>by
 refine zc ?_ ?_<;>intro hc0
 .refine cX ?_;refine bR [.str [],.aL] ?_;refine zr ?_;rw[put_1 hc0];rfl
 refine zc ?_ ?_<;>intro hc1
 .refine cO ?_;refine bR [.str [],.aL] ?_;refine zr ?_;rw[put_2 hc0 hc1];rfl
 refine qp ?_;refine aF (hc:=hC (s.es) (r.name) (r.v) (by first|assumption|exact hp0.1|exact hp0.2|exact⟨λx hx=>(hp0.1 x hx).1.2,hp0.2.1.2⟩)) ?_;refine zc ?_ ?_<;>intro hc2
 .refine cO ?_;refine bR [.str [],.aL] ?_;refine zr ?_;rw[put_3 hc0 hc1 hc2];rfl
 refine zg ?_;intro u0;refine Bo ?_ ?_<;>intro hc3
 .refine cO ?_;refine bR [.str [],.aL] ?_;refine zr ?_;rw[put_4 hc0 hc1 hc2 ae];rfl
 refine cX ?_;refine bz 0 ?_ (he:=aaX) (hm:=aaX);refine cX ?_;refine Zk (v:=.str s.name) ?_;refine cX ?_;refine BG (he:=mW.sl) (n:=s.es.length) (hn:=aC) (hb:=ae) ?_;refine cX ?_;refine a7 (iQ.D (⟨r,qY r,false⟩:iQ)) ?_;refine bg [iQ.D (⟨r,qY r,false⟩:iQ)] ?_;refine cH (q:=iQ.D) (xs:=s.es) (e:=(⟨r,qY r,false⟩:iQ)) (hb:=ae) ?_;refine bR [.str s.name,.own 40 11 0 (s.es++[(⟨r,qY r,false⟩:iQ)]).length] ?_;refine dJ ?_;refine bz 40 ?_;refine zr ?_;rw[put_5 hc0 hc1 hc2 ae];rfl
def Py:aj:=bc 53
def w503 (hm:(Y.at 0).bU)(hA:Ti Y)(hB:VE Y):Jv (cw Y Py):=λs nm v on hp0=>by
 refine zc ?_ ?_<;>intro hc0
 .refine cX ?_;refine bR [.str [],.aL] ?_;refine zr ?_;rw[aln hc0];rfl
 refine kB ?_;refine aF (hc:=hB (s.es) (nm) (v) (by first|assumption|exact hp0.1|exact⟨λx hx=>(hp0.1 x hx).1.2,hp0.2⟩)) ?_;refine zc ?_ ?_<;>intro hc1
 .refine cX ?_;refine bR [.str [],.aL] ?_;refine zr ?_;rw[alo hc0 hc1];rfl
 refine cX ?_;have h64:s.es.length<=64:=(aey hc0).2;obtain⟨j,hj,hjl⟩:=(BE (l:=s.es) (nm:=nm) (v:=v)).resolve_left ae;refine cX ?_;refine qO (ys:=s.es.map iQ.D) (n:=s.es.length) (he:=mW.sl) (hn:=aC) (hb:=ae) ?_;refine pA ?_;refine pZ ((s.es.set j {s.es[j]! with off:=on}).map iQ.D) (hi:=kf) (he:=BL hjl rfl) ?_;refine cX ?_;have hsl:(s.es.set j {s.es[j]! with off:=on}).length=s.es.length:=List.length_set;refine dJ ?_;refine bR [.str s.name,.own 17 11 0 s.es.length] ?_;refine cy (.agg [.str s.name,.own 17 11 0 (s.es.set j {s.es[j]! with off:=on}).length]) (he:=by rw[List.length_set];exact rfl) ?_;refine cX ?_;refine bz 17 ?_;refine zr ?_;rw[alp hc0 hj];rfl
def Ig:aj:=bc 103
def w692 (hA:C184 Y)(hB:C829 Y):JS (cw Y Ig):=λm al c hp0=>by
 refine cO ?_;obtain⟨⟨hmp,hcp⟩,rfl⟩:=hp0;have hfp:=Lm hmp hcp;have hml:=hmp.1;have hcl:=hcp.1;refine zg ?_;refine zf hm (λu=>[.u 1,.m 1 ([]:List Int) (D.int .i64),.m 1 c (D.int .i64),.u 1,.i u,.u 1,.p 0 3,.u 1]) (λu=>[(0,.buf 3 [kg.D m])]) 3 (λu=>u<=c.length/\yG m c=bW (vx m c) u c.length) (λu=>c.length-u) ⟨ae,rfl⟩ [(0,0)] ?_;rintro u ⟨hu,hr⟩;refine zg ?_;intro u0;refine dP ?_ ?_<;>intro hc0
 .refine dJ ?_;have hfu:=λh=>hfp.2 u ae h
  refine gZ ?_;refine kB ?_;refine dh (v:=.sl 1 (((m.bars)[u]!).map Iw)) (hi:=λhf=>ch) ?_;refine fE ?_;refine cK c[u]!.toNat (hj:=λhf=>by have hcu:0<=c[u]! :=Decidable.byContradiction λhn=>(by rw[bL hn]at hf;revert hf;decide);omega) (hb:=λhf=>abb) ?_;refine dh (v:=.sl 2 (m.bars[u]![c[u]!.toNat]!.map dY.D)) (hi:=λhf=>abb) ?_;refine zg ?_;refine wp_cond (λhc1=>?_) (λhc1=>?_)
  .have hcx:vx m c u=false:=by
    unfold vx;by_cases hq:c[u]! <0
    .rw[bL (show ¬0<=c[u]! by omega)]at hc1;cases hc1
    .rw[br (show 0<=c[u]! by omega)]at hc1;rw[bL hq,show ko c m.bars[u]![c[u]!.toNat]! =true from hc1];rfl
   refine zr ?_;rw[hr,aB ae,hcx,Bool.false_and]
  have hcx:vx m c u=true:=by
   unfold vx;by_cases hq:c[u]! <0
   .rw[br hq];rfl
   .rw[br (show 0<=c[u]! by omega)]at hc1;rw[bL hq,show ko c m.bars[u]![c[u]!.toNat]! =false from hc1];rfl
  refine gM (u+1) [(0,0)] ?_;rw[hr,aB ae,hcx,eI]
 refine zr ?_;rw[hr,bE ae]
def PF:aj:=bc 150
def w754 (hA:C903 Y)(hB:C907 Y)(hC:C908 Y):J2 (cw Y PF):=λall r e hp0=>by
 refine cO ?_;have hbl:=hp0.1.1.2.1.2;refine zg ?_;refine zf hm (λi=>[.m 2 all Key.D,.u 3,.i i,.p 1 9,.u 2,.p 2 3,.u 1,.o 0 3 (((r.bars.take i).flatMap (qt all e))).length]) (λi=>[(0,.buf 3 ((((r.bars.take i).flatMap (qt all e))).map Want.D)),(1,.buf 9 [Rec.D r]),(2,.buf 3 [Env.D e])]) 5 (λi=>i<=r.bars.length) (λi=>r.bars.length-i) ae [(0,1),(1,2)] ?_;intro i hi;have hol:=Ty all e r.bars i;refine zg ?_;intro u0;refine dP ?_ ?_<;>intro hc0
 .refine rb ?_;refine a7 (Key.D ⟨r.bars[i]!.name,[]⟩) ?_;refine gZ ?_;refine cv (hc:=λhf=>hB ((r.bars)[i]!.when') (e) abe) ?_;refine zc ?_ ?_<;>intro hc1
  .refine yr ?_;refine aF (hc:=hC ((r.bars)[i]!.range) abe) ?_;refine a7 (Want.D (⟨eo all ⟨r.bars[i]!.name,[]⟩,fe r.bars[i]!.range⟩:Want)) ?_;refine bg [Want.D (⟨eo all ⟨r.bars[i]!.name,[]⟩,fe r.bars[i]!.range⟩:Want)] ?_;refine cH (q:=Want.D) (xs:=((r.bars.take i).flatMap (qt all e))) (e:=(⟨eo all ⟨r.bars[i]!.name,[]⟩,fe r.bars[i]!.range⟩:Want)) (hb:=ae) ?_;refine zg ?_;rw[<-ahr hc1,QZ ae];exact iy (i+1) [(43,0),(1,1),(2,2)]
  refine zg ?_;rw[show((r.bars.take i).flatMap (qt all e))=(r.bars.take (i+1)).flatMap (qt all e)from by rw[<-QZ ae,ahq hc1,gB]];exact iy (i+1) [(0,0),(1,1),(2,2)]
 refine cX ?_;obtain rfl:i=r.bars.length:=ae;rw[List.take_length];refine bz 0 ?_;exact lU
def Dv:aj:=bc 65
def w507:Jy (cw Y Dv):=λw c nm hp0=>by
 refine zg ?_;refine zfx hm (1:Nat) (λi=>[.u 1,.m 1 c (D.int .i64),.e (.str nm),.u 1,.i i,.p 1 1,.u 2,.o 0 1 (fU w.us c nm i).length]) (λi=>[(0,.buf 1 ((fU w.us c nm i).map D.str)),(1,.buf 1 [bP.D w])]) 4 (λi=>1<=i/\i<=w.us.length) (λi=>w.us.length-i) ⟨ae,ae⟩ [(0,1)] ?_;rintro i ⟨hi0,hi⟩;have hfl:=vC (us:=w.us) (c:=c) nm i;refine zg ?_;intro u0;refine dP ?_ ?_<;>intro hc0
 .refine zc ?_ ?_<;>intro hc1
  .refine pA ?_;refine bg [.str w.us[i]!.feat] ?_;refine cH (q:=D.str) (xs:=fU w.us c nm i) (e:=w.us[i]!.feat) (hb:=ae) ?_;refine zg ?_;rw[<-W5 (us:=w.us) (c:=c) (i:=i) ⟨ae,hc1⟩];refine gM (i+1) [(41,0),(1,1)] ?_;omega
  refine zg ?_;rw[<-W4 (us:=w.us) (c:=c) (i:=i) (nm:=nm) (by rintro⟨_,⟨h1,h2⟩,h3⟩;rcases hc1 with(h|h)|h;exact h h1;exact h2 h;exact h h3)];refine gM (i+1) [(0,0),(1,1)] ?_;omega
 refine cX ?_;obtain rfl:i=w.us.length:=ae;refine bz 0 ?_;exact lU
def MC:aj:=bc 42
def w73 (hm:(Y.at 0).bU)(hA:C71 Y)(hB:C219 Y):zy (cw Y MC):=λr hp0=>by
 refine zc ?_ ?_<;>intro hc0
 .refine zg ?_;refine fK (bT (aw D.str ?_) (aw (D.int .i64) ?_));all_goals
   simp[ez,hc0]
 refine cX ?_;have hgd:=ki hc0;refine zg ?_;refine fK (bT (aw D.str ?_) (aw (D.int .i64) ?_));all_goals
  simp[ez,hc0]
def UA:aj:=bc 18
def w75 (hm:(Y.at 0).bU)(hA:C73 Y)(hB:C221 Y):zz (cw Y UA):=λr hp0=>by
 refine zc ?_ ?_<;>intro hc0
 .refine zg ?_;refine fK (bT (aw (D.int .u64) ?_) (aw (D.int .i64) ?_));all_goals
   simp[qY,hc0]
 refine fE ?_;refine aF (hc:=hB (ez r).1) (ha:=λ_=>aw (λd=>[d]) (tG (q:=λb:UInt8=>D.int .u8 b.toNat) (λ_=>rfl) ai)) (hp:=λ_=>⟨qe (q:=λb:UInt8=>D.int .u8 b.toNat) (λ_=>rfl) ai,trivial⟩) ?_;refine zg ?_;refine fK (bT (aw (D.int .u64) ?_) (aw (D.int .i64) ?_));all_goals
  simp[qY,hc0]
def PB:aj:=bc 288
def w1120 (hA:GN Y):Ez (cw Y PB):=λl=>by
 refine zg ?_;refine zf hm (λi=>[.m 2 l iN.D,.u 1,.i i,.u 2]) (λi=>[]) 2 (λi=>i<=l.length/\Ad l=bW (λi=>decide (Ml l i=0)) i l.length) (λi=>l.length-i) ⟨ae,rfl⟩ [] ?_;rintro i ⟨hi,hr⟩;refine zg ?_;intro u0;refine dP ?_ ?_<;>intro hc0
 .refine gZ ?_;refine Ff ?_;refine cK ((i-1)) (hj:=λhf=>ch) (hb:=λhf=>ch) ?_;refine zc ?_ ?_<;>intro hc1
  .refine zr ?_;rw[hr,aB ae,YM (by rcases hc1 with(h|h)|⟨h,h2⟩<;>simp_all)];rfl
  refine gM (i+1) [] ?_;rw[hr,aB ae,Uu (by rintro((h|h)|⟨h,h2⟩)<;>simp_all)];rfl
 refine zr ?_;rw[hr,bE ae]
def X1:aj:=bc 9
def w29 (hm:(Y.at 0).bU)(hA:C25 Y):Qu (cw Y X1):=λn=>by
 refine zg ?_;have hpl:=iF n 3 ae;refine bg (Fu.map D.str) ?_;refine zg ?_;rw[cr];refine xQ (v:=.str Fu[(iE n 3).toNat]!) (hi:=λ_=>by simp[Fu];omega) ?_;refine cO ?_;refine Pm 0 ?_;refine fE ?_;refine cy _ ?_;exact lU
def UW:aj:=bc 217
def w375 (hm:(Y.at 0).bU)     :wkk Y UW (cx.D R2) []:=by
 refine fE ?_;refine bR _ ?_;refine cy _ ?_;exact lU
end Go.Abs
end
