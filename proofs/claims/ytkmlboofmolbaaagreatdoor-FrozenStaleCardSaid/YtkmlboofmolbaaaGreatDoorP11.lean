/- A part of the proofs. -/
import Derived.Test.YtkmlboofmolbaaaGreatDoorP09
set_option linter.all false
set_option maxRecDepth 60000
set_option maxHeartbeats 2000000
noncomputable section
namespace Go.Abs
variable {Y:Ctx}(hm:(Y.at 0).cb)
def H7:aj:=bj 105
def w694 (hA:C693 Y)(hB:C829 Y)(hC:C830 Y)(hD:C831 Y):JN (cz Y H7):=λm al od c hp0=>by
 refine cN ?_;obtain⟨⟨hmp,hcp⟩,rfl,hop⟩:=hp0;have hml:=hmp.1;have hcl:=hcp.1;refine zc ?_ ?_<;>intro hc0
 .refine zr ?_;have h0:eh m od c=[]:=by unfold eh;rw[ak hc0]
  rw[h0];rfl
 refine cC ?_;obtain⟨hin1,hin2⟩:=RW hcp hml.1 hc0;obtain⟨hwo1,hwo2⟩:=NC hmp hcp hc0;obtain⟨U,hU⟩:∃U:Nat,(ef m c).1=(U:Int):=⟨(ef m c).1.toNat,ae⟩
 refine kF ?_;refine bg (ea.D ⟨(ef m c).1,m.full[U]!⟩) ?_;refine bc [ea.D ⟨(ef m c).1,m.full[U]!⟩] ?_;refine zc ?_ ?_<;>intro hc1
 .refine cN ?_;obtain⟨hin3,hin4⟩:=hin2 lV;rw[hU,Int.toNat_natCast]at hin3 hin4;obtain⟨V,hV⟩:∃V:Nat,c[U]! =(V:Int):=⟨c[U]!.toNat,ae⟩
  obtain⟨N,hN⟩:∃N:Nat,(ef m c).2=(N:Int):=⟨(ef m c).2.toNat,ae⟩
  rw[hV,Int.toNat_natCast]at hin4;have hcU:=hcp.2 U ae;have hwq:bG m c=m.needs[U]![V]![N]! :=by unfold bG;rw[ak ae,hU,Int.toNat_natCast,hV,Int.toNat_natCast,hN,Int.toNat_natCast]
  refine eX ?_;refine dd (v:=.sl 1 (m.needs[U]!.map oN)) (hi:=λ_=>ae) ?_;refine kI ?_;refine dd (v:=.sl 1 (m.needs[U]![V]!.map Iq)) (hi:=λ_=>ae) ?_;refine cC ?_;refine dd (v:=.sl 2 (m.needs[U]![V]![N]!.map ea.D)) (hi:=λ_=>ae) ?_;refine cC ?_;refine bm 20 ?_ (he:=AS) (hm:=AS);refine eX ?_;rw[<-hwq];refine zg ?_;refine zf hm (λk=>[.u 1,.m 1 ([]:List Int) (D.int .i64),.m 1 od jS,.m 1 c (D.int .i64),.u 1,.p 1 3,.u 4,.i k,.m 2 (bG m c) ea.D,.u 6,.o 0 2 (dT m od c (bG m c) k).length,.u 2]) (λk=>[(0,.buf 2 ((dT m od c (bG m c) k).map ea.D)),(1,.buf 3 [kn.D m])]) 41 (λk=>k<=(bG m c).length) (λk=>(bG m c).length-k) ae [(0,1)] ?_;intro k hk;have hok2:=(xJ (m:=m) (c:=c) (ord:=od) (λu hu=>(hmp.2 u hu).1.2) hop hwo1 k hk).2;refine zg ?_;intro u0;refine dN ?_ ?_<;>intro hc2
  .refine dI ?_;have hwk:=hwo1 _ (aq (show k<(bG m c).length by omega));obtain⟨U2,hU2⟩:∃U2:Nat,(bG m c)[k]!.u=(U2:Int):=⟨(bG m c)[k]!.u.toNat,ae⟩
   refine qx ?_;rw[hU2];refine zg ?_;refine aR (λhc3=>?_) (λhc3=>?_)
   .have hk1:dT m od c (bG m c) k=dT m od c (bG m c) (k+1):=by rw[dT,FN,hU2,Int.toNat_natCast,ak yD]
    refine zg ?_;rw[hk1];exact iC (k+1) [(0,0),(1,1)]
   have hcU2:¬0<=c[U2]! :=by simpa only[cy,ge_iff_le]using hc3
   have hn16:=(hmp.2 U2 ae).1.2;have htr:(∀p∈(cK (cV od ((U2:Nat):Int)) m.needs[U2]!.length m.needs[U2]!.length),0<=p/\p<(m.needs[U2]!.length:Int))/\(cK (cV od ((U2:Nat):Int)) m.needs[U2]!.length m.needs[U2]!.length).length<=32:=Ir (m:=m) (ord:=od) (u:=((U2:Nat):Int)) (λu hu=>(hmp.2 u hu).1.2) hop ⟨ae,ae⟩;have htl:=htr.2;have hk2:dT m od c (bG m c) (k+1)=j9 (bG m c)[k]!.m ((U2:Nat):Int) (cK (cV od ((U2:Nat):Int)) m.needs[U2]!.length m.needs[U2]!.length) (cK (cV od ((U2:Nat):Int)) m.needs[U2]!.length m.needs[U2]!.length).length (dT m od c (bG m c) k):=by rw[dT,FN,ai (by rw[hU2,Int.toNat_natCast];exact hcU2),Nr,hU2,Int.toNat_natCast]
   refine qx ?_;refine dd (v:=.sl 1 (((m.needs)[U2]!).map oN)) (hi:=λhf=>cv) ?_;refine zk1 ?_;intro u1;refine aG (hc:=hC od ((U2:Nat):Int) m.needs[U2]!.length ⟨⟨⟨ae,ae⟩,ae⟩,(hop U2 ae).1⟩) ?_;refine zg ?_;refine zfL hm (λj=>[.u 1,.m 1 ([]:List Int) (D.int .i64),.m 1 od jS,.m 1 c (D.int .i64),.u 1,.p 1 3,.u 4,.i k,.m 2 (bG m c) ea.D,.u 1,.i U2,.u 1,.i j,.m 1 (cK (cV od ((U2:Nat):Int)) m.needs[U2]!.length m.needs[U2]!.length) (D.int .i64),.u 1,.o 0 2 (j9 (bG m c)[k]!.m ((U2:Nat):Int) (cK (cV od ((U2:Nat):Int)) m.needs[U2]!.length m.needs[U2]!.length) j (dT m od c (bG m c) k)).length,.u 2]) (λj=>[(0,.buf 2 ((j9 (bG m c)[k]!.m ((U2:Nat):Int) (cK (cV od ((U2:Nat):Int)) m.needs[U2]!.length m.needs[U2]!.length) j (dT m od c (bG m c) k)).map ea.D)),(1,.buf 3 [kn.D m])]) 67 (λj=>j<=(cK (cV od ((U2:Nat):Int)) m.needs[U2]!.length m.needs[U2]!.length).length) (λj=>(cK (cV od ((U2:Nat):Int)) m.needs[U2]!.length m.needs[U2]!.length).length-j) ae [(0,0),(1,1)] ?_;intro j hj;have hoi2:(j9 (bG m c)[k]!.m ((U2:Nat):Int) (cK (cV od ((U2:Nat):Int)) m.needs[U2]!.length m.needs[U2]!.length) j (dT m od c (bG m c) k)).length<=(dT m od c (bG m c) k).length+j:=C7 _ _ _ j _;refine zg ?_;intro u2;refine dN ?_ ?_<;>intro hc4
   .refine dI ?_;have hT:=htr.1 _ (aq (show j<(cK (cV od ((U2:Nat):Int)) m.needs[U2]!.length m.needs[U2]!.length).length by omega));refine kI ?_;refine bg (ea.D ⟨((U2:Nat):Int),(cK (cV od ((U2:Nat):Int)) m.needs[U2]!.length m.needs[U2]!.length)[j]!⟩) ?_;refine Fc ?_;refine qb ((cK (cV od ((U2:Nat):Int)) m.needs[U2]!.length m.needs[U2]!.length)[j]!) (hb:=λ_=>yz) ?_;refine FY (2^((cK (cV od ((U2:Nat):Int)) m.needs[U2]!.length m.needs[U2]!.length)[j]!.toNat+1)) (hn:=λ_=>ae) (hb:=λ_=>DU (n:=(cK (cV od ((U2:Nat):Int)) m.needs[U2]!.length m.needs[U2]!.length)[j]!.toNat) ae ae) ?_;refine Dl (GX (bG m c)[k]!.m (2^((cK (cV od ((U2:Nat):Int)) m.needs[U2]!.length m.needs[U2]!.length)[j]!.toNat+1))) (hb:=λ_=>rfl) ?_;refine Fc ?_;refine cB (hc:=λhf=>hD (j9 (bG m c)[k]!.m ((U2:Nat):Int) (cK (cV od ((U2:Nat):Int)) m.needs[U2]!.length m.needs[U2]!.length) j (dT m od c (bG m c) k)) ⟨((U2:Nat):Int),(cK (cV od ((U2:Nat):Int)) m.needs[U2]!.length m.needs[U2]!.length)[j]!⟩) (ha:=λ_=>aw (λd=>[d,ea.D ⟨((U2:Nat):Int),(cK (cV od ((U2:Nat):Int)) m.needs[U2]!.length m.needs[U2]!.length)[j]!⟩]) (aar (q:=ea.D) (λ_=>rfl) ah)) (hp:=λ_=>⟨SL (q:=ea.D) (λ_=>Kt) ah,Kt⟩) ?_;refine zg ?_;refine wp_cond (λhc5=>?_) (λhc5=>?_)
    .have hO1:j9 (bG m c)[k]!.m ((U2:Nat):Int) (cK (cV od ((U2:Nat):Int)) m.needs[U2]!.length m.needs[U2]!.length) (j+1) (dT m od c (bG m c) k)=(j9 (bG m c)[k]!.m ((U2:Nat):Int) (cK (cV od ((U2:Nat):Int)) m.needs[U2]!.length m.needs[U2]!.length) j (dT m od c (bG m c) k))++[⟨((U2:Nat):Int),(cK (cV od ((U2:Nat):Int)) m.needs[U2]!.length m.needs[U2]!.length)[j]!⟩]:=by rw[j9,O4,ak o8]
     refine dI ?_;refine bc [ea.D ⟨((U2:Nat):Int),(cK (cV od ((U2:Nat):Int)) m.needs[U2]!.length m.needs[U2]!.length)[j]!⟩] ?_;refine cL (q:=ea.D) (xs:=(j9 (bG m c)[k]!.m ((U2:Nat):Int) (cK (cV od ((U2:Nat):Int)) m.needs[U2]!.length m.needs[U2]!.length) j (dT m od c (bG m c) k))) (e:=⟨((U2:Nat):Int),(cK (cV od ((U2:Nat):Int)) m.needs[U2]!.length m.needs[U2]!.length)[j]!⟩) (hb:=ae) ?_;refine zg ?_;rw[<-hO1];exact iC (j+1) [(110,0),(1,1)]
    have hO1:j9 (bG m c)[k]!.m ((U2:Nat):Int) (cK (cV od ((U2:Nat):Int)) m.needs[U2]!.length m.needs[U2]!.length) (j+1) (dT m od c (bG m c) k)=(j9 (bG m c)[k]!.m ((U2:Nat):Int) (cK (cV od ((U2:Nat):Int)) m.needs[U2]!.length m.needs[U2]!.length) j (dT m od c (bG m c) k)):=by rw[j9,O4,ai o8]
    refine zg ?_;rw[<-hO1];exact iC (j+1) [(0,0),(1,1)]
   refine zg ?_;rw[show j=(cK (cV od ((U2:Nat):Int)) m.needs[U2]!.length m.needs[U2]!.length).length by omega,<-hk2];exact iC (k+1) [(0,0),(1,1)]
  refine cC ?_;obtain rfl:k=(bG m c).length:=ae;have hov:eh m od c=dT m od c (bG m c) (bG m c).length:=by unfold eh;rw[ai hc0]
  refine bm 0 ?_ (he:=AS) (hm:=AS);refine zr ?_;rw[hov];rfl
 refine cN ?_;refine bm 20 ?_ (he:=AS) (hm:=AS);refine eX ?_;have hwq:bG m c=[⟨(ef m c).1,m.full[U]!⟩]:=by unfold bG;rw[ai ae,hU,Int.toNat_natCast]
 rw[show [ea.D ⟨(ef m c).1,m.full[U]!⟩]=(bG m c).map ea.D by rw[hwq];rfl];refine zg ?_;refine zf hm (λk=>[.u 1,.m 1 ([]:List Int) (D.int .i64),.m 1 od jS,.m 1 c (D.int .i64),.u 1,.p 1 3,.u 4,.i k,.m 2 (bG m c) ea.D,.u 6,.o 0 2 (dT m od c (bG m c) k).length,.u 2]) (λk=>[(0,.buf 2 ((dT m od c (bG m c) k).map ea.D)),(1,.buf 3 [kn.D m])]) 26 (λk=>k<=(bG m c).length) (λk=>(bG m c).length-k) ae [(0,1)] ?_;intro k hk;have hok2:=(xJ (m:=m) (c:=c) (ord:=od) (λu hu=>(hmp.2 u hu).1.2) hop hwo1 k hk).2;refine zg ?_;intro u0;refine dN ?_ ?_<;>intro hc2
 .refine dI ?_;have hwk:=hwo1 _ (aq (show k<(bG m c).length by omega));obtain⟨U2,hU2⟩:∃U2:Nat,(bG m c)[k]!.u=(U2:Int):=⟨(bG m c)[k]!.u.toNat,ae⟩
  refine qx ?_;rw[hU2];refine zg ?_;refine aR (λhc3=>?_) (λhc3=>?_)
  .have hk1:dT m od c (bG m c) k=dT m od c (bG m c) (k+1):=by rw[dT,FN,hU2,Int.toNat_natCast,ak yD]
   refine zg ?_;rw[hk1];exact iC (k+1) [(0,0),(1,1)]
  have hcU2:¬0<=c[U2]! :=by simpa only[cy,ge_iff_le]using hc3
  have hn16:=(hmp.2 U2 ae).1.2;have htr:(∀p∈(cK (cV od ((U2:Nat):Int)) m.needs[U2]!.length m.needs[U2]!.length),0<=p/\p<(m.needs[U2]!.length:Int))/\(cK (cV od ((U2:Nat):Int)) m.needs[U2]!.length m.needs[U2]!.length).length<=32:=Ir (m:=m) (ord:=od) (u:=((U2:Nat):Int)) (λu hu=>(hmp.2 u hu).1.2) hop ⟨ae,ae⟩;have htl:=htr.2;have hk2:dT m od c (bG m c) (k+1)=j9 (bG m c)[k]!.m ((U2:Nat):Int) (cK (cV od ((U2:Nat):Int)) m.needs[U2]!.length m.needs[U2]!.length) (cK (cV od ((U2:Nat):Int)) m.needs[U2]!.length m.needs[U2]!.length).length (dT m od c (bG m c) k):=by rw[dT,FN,ai (by rw[hU2,Int.toNat_natCast];exact hcU2),Nr,hU2,Int.toNat_natCast]
  refine qx ?_;refine dd (v:=.sl 1 (((m.needs)[U2]!).map oN)) (hi:=λhf=>cv) ?_;refine zk1 ?_;intro u1;refine aG (hc:=hC od ((U2:Nat):Int) m.needs[U2]!.length ⟨⟨⟨ae,ae⟩,ae⟩,(hop U2 ae).1⟩) ?_;refine zg ?_;refine zfL hm (λj=>[.u 1,.m 1 ([]:List Int) (D.int .i64),.m 1 od jS,.m 1 c (D.int .i64),.u 1,.p 1 3,.u 4,.i k,.m 2 (bG m c) ea.D,.u 1,.i U2,.u 1,.i j,.m 1 (cK (cV od ((U2:Nat):Int)) m.needs[U2]!.length m.needs[U2]!.length) (D.int .i64),.u 1,.o 0 2 (j9 (bG m c)[k]!.m ((U2:Nat):Int) (cK (cV od ((U2:Nat):Int)) m.needs[U2]!.length m.needs[U2]!.length) j (dT m od c (bG m c) k)).length,.u 2]) (λj=>[(0,.buf 2 ((j9 (bG m c)[k]!.m ((U2:Nat):Int) (cK (cV od ((U2:Nat):Int)) m.needs[U2]!.length m.needs[U2]!.length) j (dT m od c (bG m c) k)).map ea.D)),(1,.buf 3 [kn.D m])]) 52 (λj=>j<=(cK (cV od ((U2:Nat):Int)) m.needs[U2]!.length m.needs[U2]!.length).length) (λj=>(cK (cV od ((U2:Nat):Int)) m.needs[U2]!.length m.needs[U2]!.length).length-j) ae [(0,0),(1,1)] ?_;intro j hj;have hoi2:(j9 (bG m c)[k]!.m ((U2:Nat):Int) (cK (cV od ((U2:Nat):Int)) m.needs[U2]!.length m.needs[U2]!.length) j (dT m od c (bG m c) k)).length<=(dT m od c (bG m c) k).length+j:=C7 _ _ _ j _;refine zg ?_;intro u2;refine dN ?_ ?_<;>intro hc4
  .refine dI ?_;have hT:=htr.1 _ (aq (show j<(cK (cV od ((U2:Nat):Int)) m.needs[U2]!.length m.needs[U2]!.length).length by omega));refine kI ?_;refine bg (ea.D ⟨((U2:Nat):Int),(cK (cV od ((U2:Nat):Int)) m.needs[U2]!.length m.needs[U2]!.length)[j]!⟩) ?_;refine kF ?_;refine cM (k) (hj:=λhf=>cv) (hb:=λhf=>cv) ?_;refine Ao ?_;refine dd (v:=.int .i64 (((bG m c))[k]!.m)) (hi:=λhf=>cv) ?_;refine bK ?_;refine bK ?_;refine cM (j) (hj:=λhf=>cv) (hb:=λhf=>cv) ?_;refine dd (v:=.int .i64 (((cK (cV od ((U2:Nat):Int)) m.needs[U2]!.length m.needs[U2]!.length))[j]!)) (hi:=λhf=>cv) ?_;refine qb ((cK (cV od ((U2:Nat):Int)) m.needs[U2]!.length m.needs[U2]!.length)[j]!) (hb:=λ_=>yz) ?_;refine FY (2^((cK (cV od ((U2:Nat):Int)) m.needs[U2]!.length m.needs[U2]!.length)[j]!.toNat+1)) (hn:=λ_=>ae) (hb:=λ_=>DU (n:=(cK (cV od ((U2:Nat):Int)) m.needs[U2]!.length m.needs[U2]!.length)[j]!.toNat) ae ae) ?_;refine Dl (GX (bG m c)[k]!.m (2^((cK (cV od ((U2:Nat):Int)) m.needs[U2]!.length m.needs[U2]!.length)[j]!.toNat+1))) (hb:=λ_=>rfl) ?_;refine po ?_;refine bK ?_;refine bK ?_;refine bK ?_;refine bK ?_;refine bK ?_;refine cM (j) (hj:=λhf=>cv) (hb:=λhf=>cv) ?_;refine dd (v:=.int .i64 (((cK (cV od ((U2:Nat):Int)) m.needs[U2]!.length m.needs[U2]!.length))[j]!)) (hi:=λhf=>cv) ?_;refine cB (hc:=λhf=>hB [] ((U2:Nat):Int) (cK (cV od ((U2:Nat):Int)) m.needs[U2]!.length m.needs[U2]!.length)[j]! rfl) ?_;refine u7 ?_;refine bK ?_;refine bK ?_;refine mB (d:=ea.D ((⟨((U2:Nat):Int),(cK (cV od ((U2:Nat):Int)) m.needs[U2]!.length m.needs[U2]!.length)[j]!⟩:ea))) ?_;refine cB (hc:=λhf=>hD (j9 (bG m c)[k]!.m ((U2:Nat):Int) (cK (cV od ((U2:Nat):Int)) m.needs[U2]!.length m.needs[U2]!.length) j (dT m od c (bG m c) k)) ⟨((U2:Nat):Int),(cK (cV od ((U2:Nat):Int)) m.needs[U2]!.length m.needs[U2]!.length)[j]!⟩) (ha:=λ_=>aw (λd=>[d,ea.D ⟨((U2:Nat):Int),(cK (cV od ((U2:Nat):Int)) m.needs[U2]!.length m.needs[U2]!.length)[j]!⟩]) (aar (q:=ea.D) (λ_=>rfl) ah)) (hp:=λ_=>⟨SL (q:=ea.D) (λ_=>Kt) ah,Kt⟩) ?_;refine R7 ?_;refine u7 ?_;refine bB (env':=[_,_,_,_,_,_,_,_,_,_,_,_,_,_,_,_,_,_,_,_,⟨_,(.bool _)⟩]) ?_;refine wp_cond (λhc5=>?_) (λhc5=>?_)
   .have hO1:j9 (bG m c)[k]!.m ((U2:Nat):Int) (cK (cV od ((U2:Nat):Int)) m.needs[U2]!.length m.needs[U2]!.length) (j+1) (dT m od c (bG m c) k)=(j9 (bG m c)[k]!.m ((U2:Nat):Int) (cK (cV od ((U2:Nat):Int)) m.needs[U2]!.length m.needs[U2]!.length) j (dT m od c (bG m c) k))++[⟨((U2:Nat):Int),(cK (cV od ((U2:Nat):Int)) m.needs[U2]!.length m.needs[U2]!.length)[j]!⟩]:=by rw[j9,O4,ak o8]
    refine pC ?_;refine bK ?_;refine mB (d:=ea.D ((⟨((U2:Nat):Int),(cK (cV od ((U2:Nat):Int)) m.needs[U2]!.length m.needs[U2]!.length)[j]!⟩:ea))) ?_;refine bc [ea.D ⟨((U2:Nat):Int),(cK (cV od ((U2:Nat):Int)) m.needs[U2]!.length m.needs[U2]!.length)[j]!⟩] ?_;refine cL (q:=ea.D) (xs:=(j9 (bG m c)[k]!.m ((U2:Nat):Int) (cK (cV od ((U2:Nat):Int)) m.needs[U2]!.length m.needs[U2]!.length) j (dT m od c (bG m c) k))) (e:=⟨((U2:Nat):Int),(cK (cV od ((U2:Nat):Int)) m.needs[U2]!.length m.needs[U2]!.length)[j]!⟩) (hb:=ae) ?_;refine bK ?_;refine nH (env':=[_,_,_,_,_,_,_,_,_,_,_,_,_,_,_,_,_,_,⟨_,(.own _ _ _ _)⟩,_,_]) ?_;refine BQ.normal ?_;refine pC ?_;refine bK ?_;refine lZ (hb:=λhf=>cv) ?_;refine bK ?_;refine nH (env':=[_,_,_,_,_,_,_,_,_,_,_,_,_,_,_,⟨_,(.int _ _)⟩,_,_,_,_,_]) ?_;refine Bq.normal ?_;rw[<-hO1];exact iC (j+1) [(95,0),(1,1)]
   have hO1:j9 (bG m c)[k]!.m ((U2:Nat):Int) (cK (cV od ((U2:Nat):Int)) m.needs[U2]!.length m.needs[U2]!.length) (j+1) (dT m od c (bG m c) k)=(j9 (bG m c)[k]!.m ((U2:Nat):Int) (cK (cV od ((U2:Nat):Int)) m.needs[U2]!.length m.needs[U2]!.length) j (dT m od c (bG m c) k)):=by rw[j9,O4,ai o8]
   refine wp_skip ?_;refine BQ.normal ?_;refine pC ?_;refine bK ?_;refine lZ (hb:=λhf=>cv) ?_;refine bK ?_;refine nH (env':=[_,_,_,_,_,_,_,_,_,_,_,_,_,_,_,⟨_,(.int _ _)⟩,_,_,_,_,_]) ?_;refine Bq.normal ?_;rw[<-hO1];exact iC (j+1) [(0,0),(1,1)]
  refine oG ?_;refine Bq.out ?_;refine BQ.normal ?_;refine pC ?_;refine bK ?_;refine lZ (hb:=λhf=>cv) ?_;refine bK ?_;refine nH (env':=[_,_,_,_,_,_,_,_,_,_,⟨_,(.int _ _)⟩,_,_,_,_,_,_,_,_,_,_]) ?_;refine LQ.normal ?_;rw[show j=(cK (cV od ((U2:Nat):Int)) m.needs[U2]!.length m.needs[U2]!.length).length by omega,<-hk2];exact iC (k+1) [(0,0),(1,1)]
 refine oG ?_;refine LQ.out ?_;obtain rfl:k=(bG m c).length:=ae;have hov:eh m od c=dT m od c (bG m c) (bG m c).length:=by unfold eh;rw[ai hc0]
 refine bm 0 ?_ (he:=AS) (hm:=AS);refine aQ ?_;refine bK ?_;refine bK ?_;refine bB (env':=[_,_,_,_,⟨_,(.sl _ _)⟩,_,_,_,_,_,_,_,_,_,_,_,_,_,_,_,_]) ?_;refine wp_ret ?_;refine zr ?_;rw[hov];rfl
def Pm:aj:=bj 84
def w219 (hA:C249 Y)(hB:C316 Y)(hC:C461 Y)(hD:C462 Y):tV (cz Y Pm):=λr hp0=>by
 show dx _ _ _ [⟨_,_⟩,_,_,_,_,_,_,_,_,_,_,_,_] _;have hft:=tu hp0;have q0:=hft.nm;have q00:=Ed r.v hft.v;refine aQ ?_;refine uQ ?_;refine aG (hc:=hB r.v hft.v) ?_;refine zg ?_;refine gp hm (ι:=Nat) (λi=>[.un,.un,⟨true,.ptr 0 9 0 0⟩,⟨true,.int .i64 (i:Nat)⟩,.un,⟨true,.str (kH r i)⟩,.un,.un,.un,.un,.un,.un,.un]) (λi=>[(0,.buf 9 [Rec.D r])]) 13 (λi=>i<=r.needs.length) (λi=>r.needs.length-i) 0 ae (aY.to [(0,0)] ah ah (by repeat(first|exact fH.nil|refine fH.un ?_|refine fH.eq ah ?_|refine fH.nl (aw D.str (by rw[Z4];simp[uZ,cx,cw,qj])) ah ?_)) Dj) ?_;intro i hi;have q1:=Is hft i hi;refine zg ?_;intro u0;refine dN ?_ ?_<;>intro hc0
 .refine dI ?_;have hnf:=hft.n _ (aq (show i<r.needs.length by omega));have hn3:=hnf.1.1;refine zg ?_;refine zf hm (λj=>[.u 2,.p 0 9,.i i,.u 1,.e (.str (kH r i++dS r.needs[i]! j)),.i j,.u 6]) (λj=>[(0,.buf 9 [Rec.D r])]) 22 (λj=>j<=r.needs[i]!.any.length) (λj=>r.needs[i]!.any.length-j) ae [(0,0)] ?_;intro j hj;have q2:=FJ hnf j ae;refine zg ?_;intro u1;refine dN ?_ ?_<;>intro hc1
  .refine dI ?_;have hwf:=hnf.1.2 _ (aq (show j<r.needs[i]!.any.length by omega));have q3:=zA hwf;refine zg ?_;exact⟨j+1,ae,ae,(aY.to [(0,0)] ah ah (by repeat(first|exact fH.nil|refine fH.un ?_|refine fH.eq ah ?_|refine fH.nl (aw D.str (by rw[ov ae,fF])) ah ?_)) Dj)⟩
  refine dI ?_;have q4:=nV hnf.2.1;have q5:=hnf.2.2;refine qo ?_;refine aG (hc:=hD r.needs[i]!.when' hnf.2.1) ?_;refine zc ?_ ?_<;>intro hc2
  .refine zg ?_;have hq:kH r (i+1)=kH r i++(dS r.needs[i]! j++kC r.needs[i]!.when'++xO r.needs[i]!.option):=by rw[mI ae,y8 (j:=j) ae]
   have ho:xO r.needs[i]!.option=[111,112,116,105,111,110,32]++r.needs[i]!.option++[10]:=by rw[xO,ai hc2];simp[cx,cw,nJ]
   exact⟨i+1,ae,ae,(aY.to [(0,0)] ah ah (by repeat(first|exact fH.nil|refine fH.un ?_|refine fH.eq ah ?_|refine fH.nl (aw D.str (by rw[hq,ho];simp only[fF])) ah ?_)) Dj)⟩
  refine zg ?_;have hq:kH r (i+1)=kH r i++(dS r.needs[i]! j++kC r.needs[i]!.when'++xO r.needs[i]!.option):=by rw[mI ae,y8 (j:=j) ae]
  have ho:xO r.needs[i]!.option=[]:=by rw[xO,ak hc2]
  exact⟨i+1,ae,ae,(aY.to [(0,0)] ah ah (by repeat(first|exact fH.nil|refine fH.un ?_|refine fH.eq ah ?_|refine fH.nl (aw D.str (by rw[hq,ho];simp only[fF,gF])) ah ?_)) Dj)⟩
 refine eX ?_;have h33:i=r.needs.length:=ae;subst h33;refine zg ?_;refine gp hm (ι:=Nat) (λi=>[.un,.un,⟨true,.ptr 0 9 0 0⟩,.un,.un,⟨true,.str (D9 r i)⟩,.un,.un,.un,⟨true,.int .i64 (i:Nat)⟩,.un,.un,.un]) (λi=>[(0,.buf 9 [Rec.D r])]) 19 (λi=>i<=r.bars.length) (λi=>r.bars.length-i) 0 ae (aY.to [(0,0)] ah ah (by repeat(first|exact fH.nil|refine fH.un ?_|refine fH.eq ah ?_|refine fH.nl (aw D.str (by rw[Z5])) ah ?_)) Dj) ?_;intro i hi;have q1:=It hft i hi;refine zg ?_;intro u2;refine dN ?_ ?_<;>intro hc3
 .refine dI ?_;have q4:=hft.b _ (aq (show i<r.bars.length by omega));have q5:=q4.1;have q6:=q4.2.1.len;have q7:=nV q4.2.2.len;refine iw ?_;refine uQ ?_;refine aG (hc:=hD r.bars[i]!.when' q4.2.2.len) ?_;refine zg ?_;have hq:=Ns (r:=r) (i:=i) ae;exact⟨i+1,ae,ae,(aY.to [(0,0)] ah ah (by repeat(first|exact fH.nil|refine fH.un ?_|refine fH.eq ah ?_|refine fH.nl (aw D.str (by rw[hq];simp[GR,cx,cw,zz])) ah ?_)) Dj)⟩
 refine eX ?_;have h33:i=r.bars.length:=ae;subst h33;refine zg ?_;refine gp hm (ι:=Nat) (λi=>[.un,.un,⟨true,.ptr 0 9 0 0⟩,.un,.un,⟨true,.str (Gp r i)⟩,.un,.un,.un,.un,.un,⟨true,.int .i64 (i:Nat)⟩,.un]) (λi=>[(0,.buf 9 [Rec.D r])]) 25 (λi=>i<=r.feats.length) (λi=>r.feats.length-i) 0 ae (aY.to [(0,0)] ah ah (by repeat(first|exact fH.nil|refine fH.un ?_|refine fH.eq ah ?_|refine fH.nl (aw D.str (by rw[Z6])) ah ?_)) Dj) ?_;intro i hi;have q1:=SB hft i hi;refine zg ?_;intro u3;refine dN ?_ ?_<;>intro hc4
 .refine dI ?_;have q4:=hft.f _ (aq (show i<r.feats.length by omega));have q5:=Fu q4;have q6:=q4.2;simp only[xe,cx,cu,bE,b8]at q5;refine qo ?_;refine bc [(.str _),(.str _)] ?_;refine kF ?_;refine pk (xs:=[jZ,r.feats[i]!.name]) (ys:=r.feats[i]!.of) (he:=lW.sl) (hb:=eB) ?_;refine aG (hc:=hA ([jZ,r.feats[i]!.name]++r.feats[i]!.of) 32 ae) (ha:=λ_=>aw (λd=>[d,D.int .u8 32]) (tM (q:=D.str) (λ_=>rfl) ah)) (hp:=λ_=>⟨qk (q:=D.str) (λ_=>rfl) ah,rfl,trivial⟩) ?_;refine Pc (hb:=λ_=>by first|omega|(simp only[cu,bE,b8];omega)) ?_;refine zg ?_;have hq:=Nt (r:=r) (i:=i) ae;exact⟨i+1,ae,ae,(aY.to [(0,0)] ah ah (by repeat(first|exact fH.nil|refine fH.un ?_|refine fH.eq ah ?_|refine fH.nl (aw D.str (by rw[hq];simp[xe,cx])) ah ?_)) Dj)⟩
 refine dI ?_;have h33:i=r.feats.length:=ae;subst h33;refine zr ?_;exact Iu r
def K5:aj:=bj 124
def w510:Jt (cz Y K5):=λw c hp0=>by
 refine zg ?_;intro u0 u1;refine dN ?_ ?_<;>intro hc0
 .refine zr ?_;unfold sn;rw[bN ae,Bool.false_and]
 refine zg ?_;intro u2;refine zf hm (λi=>[.u 1,.m 1 c (D.int .i64),.u 1,.p 0 1,.u 1,.i i,.i c.length,.u 1,.m 1 c (D.int .i64),.u 3]) (λi=>[(0,.buf 1 [bR.D w])]) 11 (λi=>i<=c.length/\sn w c=b9 (yU w c) i c.length) (λi=>c.length-i) ⟨ae,by unfold sn;rw[bA ae,eu]⟩ [(0,0)] ?_;rintro i ⟨hi,hr⟩;refine zc ?_ ?_<;>intro hc1
 .refine zc ?_ ?_<;>intro hc2
  .refine zr ?_;rw[hr,aA ae,Rc hc2];rfl
  refine gI (i+1) [(0,0)] ?_;rw[hr,aA ae,Lj hc2];rfl
 refine zr ?_;rw[hr,bI ae]
def Oa:aj:=bj 80
def w273 (hm:(Y.at 0).cb)(hA:C175 Y)(hB:C510 Y):tX (cz Y Oa):=λw c hp0=>by
 exact mK
def Ob:aj:=bj 82
def w624 (hm:(Y.at 0).cb)(hA:C712 Y):uq (cz Y Ob):=λw c x hp0=>by
 refine kF ?_;obtain⟨hsm,⟨hx0,hx1⟩,hft⟩:=hp0;have hfc:=nw hft;obtain⟨j,hj⟩:∃j:Nat,x.u=(j:Int):=⟨x.u.toNat,ae⟩
 have hjt:x.u.toNat=j:=ae;have hjl:j<w.us.length:=ae;have hcj:=hfc.2 j ae;have hun:=hsm.1 _ (aq hjl);have hvs:0<=c[j]! ->w.us[j]!.cands[c[j]!.toNat]!.v.sm:=λh=>(hun.2 _ (aq ae)).1
 refine iw ?_;refine qo ?_;refine cM c[j]!.toNat (hj:=λhf=>wC) (hb:=λhf=>wC) ?_;refine cN ?_;refine dd (v:=ca.D w.us[j]!.cands[c[j]!.toNat]!.v) (hi:=λhf=>wC) ?_;refine cB (hc:=λhf=>hA x.s w.us[j]!.cands[c[j]!.toNat]!.v ⟨hsm.2,hvs (by have hf:0<=c[j]! :=Kr;exact hf)⟩) ?_;refine zr ?_;unfold kV;rw[hjt]
def Oc:aj:=bj 81
def w623 (hA:C624 Y):uo (cz Y Oc):=λw c l hp0=>by
 refine zg ?_;intro u0;refine zf hm (λi=>[.u 1,.m 1 c (D.int .i64),.m 3 l Want.D,.u 1,.i i,.i l.length,.u 1,.m 3 l Want.D,.p 0 1,.u 2]) (λi=>[(0,.buf 1 [bR.D w])]) 5 (λi=>i<=l.length/\DY w c l=oK (λi=>kV w c l[i]!) i l.length) (λi=>l.length-i) ⟨ae,Ni⟩ [(0,0)] ?_;rintro i ⟨hi,hr⟩;refine zc ?_ ?_<;>intro hc0
 .refine zc ?_ ?_<;>intro hc1
  .refine zr ?_;rw[hr,j1 ae,hc1];rfl
  refine gI (i+1) [(0,0)] ?_;rw[hr,j1 ae];simp only[hc1,Bool.false_or]
 refine zr ?_;rw[hr,tj ae]
def Uz:aj:=bj 40
def w170 (hA:C169 Y):tX (cz Y Uz):=λw c hp0=>by
 refine zg ?_;intro u0 u1;refine dN ?_ ?_<;>intro hc0
 .refine zr ?_;rw[adu hc0]
 refine zg ?_;refine zf hm (λi=>[.u 1,.m 1 c (D.int .i64),.u 1,.p 0 1,.u 1,.i i,.u 2]) (λi=>[(0,.buf 1 [bR.D w])]) 14 (λi=>i<=c.length/\en w c=b9 (yU w c) i c.length) (λi=>c.length-i) ⟨ae,by unfold en;unfold sn;rw[bA ae,eu,hc0.2,eu]⟩ [(0,0)] ?_;rintro i ⟨hi,hr⟩;refine zg ?_;intro u2;refine dN ?_ ?_<;>intro hc1
 .refine zc ?_ ?_<;>intro hc2
  .refine zr ?_;rw[hr,aA ae,Rc hc2];rfl
  refine gI (i+1) [(0,0)] ?_;rw[hr,aA ae,Lj hc2];rfl
 refine zr ?_;rw[hr,bI ae]
def UA:aj:=bj 108
def w629 (hm:(Y.at 0).cb)(hA:C627 Y):uq (cz Y UA):=λw c x hp0=>by
 refine kF ?_;obtain⟨hsm,⟨hx0,hx1⟩,hft⟩:=hp0;have hfc:=nw hft;obtain⟨j,hj⟩:∃j:Nat,x.u=(j:Int):=⟨x.u.toNat,ae⟩
 have hjt:x.u.toNat=j:=ae;have hjl:j<w.us.length:=ae;have hcj:=hfc.2 j ae;have hun:=hsm.1 _ (aq hjl);have hvs:0<=c[j]! ->w.us[j]!.cands[c[j]!.toNat]!.v.sm:=λh=>(hun.2 _ (aq ae)).1
 refine iw ?_;refine qo ?_;refine cM c[j]!.toNat (hj:=λhf=>wC) (hb:=λhf=>wC) ?_;refine cN ?_;refine dd (v:=ca.D w.us[j]!.cands[c[j]!.toNat]!.v) (hi:=λhf=>wC) ?_;refine cB (hc:=λhf=>hA x.s w.us[j]!.cands[c[j]!.toNat]!.v ⟨hsm.2,hvs (by have hf:0<=c[j]! :=Kr;exact hf)⟩) ?_;refine zr ?_;unfold kV;rw[hjt]
def PI:aj:=bj 126
def w628 (hA:C629 Y):uo (cz Y PI):=λw c l hp0=>by
 refine zg ?_;refine zf hm (λi=>[.u 1,.m 1 c (D.int .i64),.m 3 l Want.D,.u 1,.i i,.u 1,.p 0 1,.u 1]) (λi=>[(0,.buf 1 [bR.D w])]) 3 (λi=>i<=l.length/\DY w c l=oK (λi=>kV w c l[i]!) i l.length) (λi=>l.length-i) ⟨ae,Ni⟩ [(0,0)] ?_;rintro i ⟨hi,hr⟩;refine zg ?_;intro u0;refine dN ?_ ?_<;>intro hc0
 .refine zc ?_ ?_<;>intro hc1
  .refine zr ?_;rw[hr,j1 ae,hc1];rfl
  refine gI (i+1) [(0,0)] ?_;rw[hr,j1 ae];simp only[hc1,Bool.false_or]
 refine zr ?_;rw[hr,tj ae]
def PY:aj:=bj 73
def w355 (hm:(Y.at 0).cb):I3 (cz Y PY):=λx s=>by
 exact mK
def PZ:aj:=bj 72
def w354 (hA:C355 Y):I2 (cz Y PZ):=λl s=>by
 refine zg ?_;intro u0;refine zf hm (λi=>[.m 2 l bM.D,.e (.fn 355 [.ref 2 [bM.D s] 0 0]),.u 1,.i i,.i l.length,.u 1,.m 2 l bM.D,.u 3]) (λi=>[]) 4 (λi=>i<=l.length/\mE l s.name=gM (FA s.name) (l.drop i) i) (λi=>l.length-i) ⟨ae,rfl⟩ [] ?_;rintro i ⟨hi,hr⟩;refine zc ?_ ?_<;>intro hc0
 .refine qx ?_;refine bY _ ?_;refine eX ?_;refine BM (hc:=λ_=>hA l[i]! s) ?_;refine zc ?_ ?_<;>intro hc1
  .refine zr ?_;rw[hr,kR ae hc1]
  refine gI (i+1) [] ?_;rw[hr,jx ae hc1]
 refine zr ?_;rw[hr,ml ae]
def ZV:aj:=bj 35
def w142 (hA:C353 Y)(hB:C354 Y):tP (cz Y ZV):=λl hp0=>by
 refine zg ?_;intro u0;refine dN ?_ ?_<;>intro hc0
 .refine zr ?_;unfold eS;rw[bN ae,Bool.false_and]
 refine zg ?_;intro u1;refine zf hm (λi=>[.m 2 l bM.D,.u 2,.i i,.i l.length,.u 1,.m 2 l bM.D,.u 3]) (λi=>[]) 7 (λi=>i<=l.length/\eS l=b9 (Bi l) i l.length) (λi=>l.length-i) ⟨ae,by unfold eS;rw[bA ae,eu]⟩ [] ?_;rintro i ⟨hi,hr⟩;refine zc ?_ ?_<;>intro hc1
 .refine uQ ?_;refine bm 11 ?_ (he:=aaK) (hm:=aaK);refine cC ?_;refine aG (hc:=hA (l[i]!) (by first|assumption|omega|exact hp0 _ (aq ae)|exact hp0.1|exact hp0.2)) ?_;refine dI ?_;refine R6 [.ref 2 [bM.D l[i]!] 0 0] ?_;refine zc ?_ ?_<;>intro hc2
  .refine zr ?_;rw[hr,aA ae,ZX hc2];rfl
  refine gI (i+1) [] ?_;rw[hr,aA ae,UT ae hc2];rfl
 refine zr ?_;rw[hr,bI ae]
def MA:aj:=bj 98
def w359:uc (cz Y MA):=λl nm=>by
 refine zg ?_;refine zf hm (λi=>[.m 2 l bM.D,.e (.str nm),.u 1,.i i,.u 2]) (λi=>[]) 2 (λi=>i<=l.length/\mE l nm=gM (FA nm) (l.drop i) i) (λi=>l.length-i) ⟨ae,rfl⟩ [] ?_;rintro i ⟨hi,hr⟩;refine zg ?_;intro u0;refine dN ?_ ?_<;>intro hc0
 .refine zc ?_ ?_<;>intro hc1
  .refine zr ?_;rw[hr,kR ae (by simpa[FA]using hc1)]
  refine gI (i+1) [] ?_;rw[hr,jx ae (by simpa[FA]using hc1)]
 refine zr ?_;rw[hr,ml ae]
def Uu:aj:=bj 56
def w145 (hA:S9 Y)(hB:C359 Y):tP (cz Y Uu):=λl hp0=>by
 refine zg ?_;intro u0;refine dN ?_ ?_<;>intro hc0
 .refine zr ?_;unfold eS;rw[bN ae,Bool.false_and]
 refine zg ?_;refine zf hm (λi=>[.m 2 l bM.D,.u 2,.i i,.u 2]) (λi=>[]) 5 (λi=>i<=l.length/\eS l=b9 (Bi l) i l.length) (λi=>l.length-i) ⟨ae,by unfold eS;rw[bA ae,eu]⟩ [] ?_;rintro i ⟨hi,hr⟩;refine zg ?_;intro u1;refine dN ?_ ?_<;>intro hc1
 .refine qo ?_;refine aG (hc:=hA ((l)[i]!) (by first|assumption|omega|exact hp0 _ (aq ae)|exact hp0.1|exact hp0.2)) ?_;refine zc ?_ ?_<;>intro hc2
  .refine zr ?_;rw[hr,aA ae,aeo hc2];rfl
  refine gI (i+1) [] ?_;rw[hr,aA ae,Ng hc2];rfl
 refine zr ?_;rw[hr,bI ae]
def PX:aj:=bj 78
def w274 (hm:(Y.at 0).cb)(hA:C353 Y)(hB:C511 Y):tY (cz Y PX):=λs nm v hp0=>by
 refine zc ?_ ?_<;>intro hc0
 .refine zr ?_;unfold jR;rw[ak hc0]
 refine kF ?_;refine aG (hc:=hB (s.es) (nm) (v) (by first|assumption|omega|exact hp0.1|exact⟨λx hx=>(hp0.1 x hx).1.2,hp0.2⟩)) ?_;refine zr ?_;unfold jR;rw[ai (by rw[hc0];simp)]
def Pp:aj:=bj 110
def w695 (hm:(Y.at 0).cb)(hA:S9 Y)(hB:Vs Y):tY (cz Y Pp):=λs nm v hp0=>by
 refine zc ?_ ?_<;>intro hc0
 .refine zr ?_;unfold jR;rw[ak hc0]
 refine kF ?_;refine aG (hc:=hB (s.es) (nm) (v) (by first|assumption|omega|exact hp0.1|exact⟨λx hx=>(hp0.1 x hx).1.2,hp0.2⟩)) ?_;refine zr ?_;unfold jR;rw[ai (by rw[hc0];simp)]
def US:aj:=bj 170
def w701 (hm:(Y.at 0).cb)(hA:AU Y)(hB:S7 Y):uw (cz Y US):=λa b hp0=>by
 exact mK
def E7:aj:=bj 169
def w700 (hm:(Y.at 0).cb)(hA:C701 Y):JP (cz Y E7):=λx nm v hp0=>by
 exact mK
def rb:aj:=bj 168
def w699 (hA:C700 Y):JO (cz Y rb):=λl nm v hp0=>by
 refine zg ?_;intro u0;refine zf hm (λi=>[.m 11 l kj.D,.e (.fn 700 [.ref 1 [.str nm] 0 0,.ref 5 [ca.D v] 0 0]),.u 1,.i i,.i l.length,.u 3]) (λi=>[]) 4 (λi=>i<=l.length/\sG l nm v 0=sG l nm v i) (λi=>l.length-i) ⟨ae,rfl⟩ [] ?_;rintro i ⟨hi,hr⟩;refine zc ?_ ?_<;>intro hc0
 .refine ID ?_;refine BM (hc:=λ_=>hA l[i]! nm v ⟨hp0.1 _ (aq ae),hp0.2⟩) ?_;refine zc ?_ ?_<;>intro hc1
  .refine zr ?_;rw[hr,YD ae hc1]
  refine gI (i+1) [] ?_;rw[hr,YF ae hc1]
 refine zr ?_;rw[hr,R0 ae]
def Nb:aj:=bj 123
def w511 (hm:(Y.at 0).cb)(hA:C699 Y):uh (cz Y Nb):=λl nm v hp0=>by
 refine kI ?_;refine bm 0 ?_;refine bm 1 ?_;refine cC ?_;refine R6 [.ref 1 [.str nm] 0 0,.ref 5 [ca.D v] 0 0] ?_;exact mK
def UR:aj:=bj 71
def w353 (hA:C74 Y)(hB:S6 Y)(hC:C511 Y):ub (cz Y UR):=λs hp0=>by
 refine zg ?_;refine aR (λhc0=>?_) (λhc0=>?_)
 .simp only[dF,cG,aV]at hc0;have hf:ic s=false:=by
   unfold ic;rcases hc0 with h|h
   .rw[h];rfl
   .rw[show decide (s.es.length<=64)=false from bN ae];simp
  refine zr ?_;exact hf.symm
 simp only[eF,dq,cy]at hc0;have hq:ic s=b9 (se s.es) 0 s.es.length:=by unfold ic;rw[hc0.1,bA (show s.es.length<=64 by omega)];simp
 refine zg ?_;intro u0;refine zf hm (λi=>[.u 2,.p 0 2,.u 1,.i i,.i s.es.length,.u 1,.m 11 s.es kj.D,.u 5]) (λi=>[(0,.buf 2 [bM.D s])]) 16 (λi=>i<=s.es.length/\ic s=b9 (se s.es) i s.es.length) (λi=>s.es.length-i) ⟨ae,hq⟩ [(0,0)] ?_;rintro i ⟨hi,hr⟩;refine zc ?_ ?_<;>intro hc1
 .refine dI ?_;have hsm:=hp0 _ (aq (show i<s.es.length by omega));refine iw ?_;refine iw ?_;refine dI ?_;refine akD (q:=kj.D) i (hj:=λ_=>rfl) (hb:=λ_=>ae) ?_;refine kF ?_;refine cB (hc:=λhf=>hC (s.es.take i) s.es[i]!.r.name s.es[i]!.r.v ⟨λx hx=>(hp0 x (zH hx)).1.2,hsm.1.2⟩) ?_;refine zg ?_;refine wp_cond (λhc2=>?_) (λhc2=>?_)
  .have hen:se s.es i=false:=by
    unfold se;simp only[dF,cG,aV,cy]at hc2;simp only[er,cy];rcases hc2 with(h|h)|h
    .exact .inl (.inl h)
    .exact .inl (.inr h)
    .exact .inr ae
   refine zr ?_;rw[hr,aA ae,hen];rfl
  have hen:se s.es i=true:=by
   unfold se;simp only[eF,dq,aV,cy]at hc2;simp only[aC,aV];exact⟨hc2.1,ae⟩
  refine gI (i+1) [(0,0)] ?_;rw[hr,aA ae,hen];rfl
 refine zr ?_;rw[hr,bI ae]
def LS:aj:=bj 36
def w138 (hA:S8 Y):tO (cz Y LS):=λe=>by
 refine zg ?_;refine zf hm (λi=>[.u 2,.p 0 3,.i i,.u 1,.e (Env.D e),.u 2]) (λi=>[(0,.buf 3 [Env.D e])]) 5 (λi=>i<=3/\n6 e=b9 (λi=>decide (e.at i=[]) ||gT (e.at i)) i 3) (λi=>3-i) ⟨ae,rfl⟩ [(0,0)] ?_;rintro i ⟨hi,hr⟩;refine zc ?_ ?_<;>intro hc0
 .refine dI ?_;refine r_ixA i (.str (e.at i)) (hv:=λ_=>Env.cut e ae) ?_;refine zg ?_;refine wp_cond (λhc1=>?_) (λhc1=>?_)
  .simp only[aC,cG,cy]at hc1;refine zr ?_;rw[hr,aA ae];rw[bN hc1.1,hc1.2];rfl
  simp only[er,dq,aV]at hc1;refine gI (i+1) [(0,0)] ?_;rw[hr,aA ae];rw[show(decide (e.at i=[]) ||gT (e.at i))=true by rw[dF,aV];exact hc1];rfl
 refine zr ?_;rw[hr,bI ae]
def EW:aj:=bj 75
def w553 (hA:S6 Y)(hB:AU Y)(hC:S8 Y):Jx (cz Y EW):=λx hp0=>by
 refine zg ?_;intro u0;refine zf hm (λi=>[.u 2,.p 0 9,.i i,.i x.feats.length,.u 1,.m 1 x.feats D.str,.u 4]) (λi=>[(0,.buf 9 [dr.D x])]) 7 (λi=>i<=x.feats.length/\b9 (zX x.feats) 0 x.feats.length=b9 (zX x.feats) i x.feats.length) (λi=>x.feats.length-i) ⟨ae,rfl⟩ [(0,0)] ?_;rintro i ⟨hi,hr⟩;refine zc ?_ ?_<;>intro hc0
 .refine iw ?_;refine qx ?_;refine cM (i-1) ?_;refine zc ?_ ?_<;>intro hc1
  .refine zr ?_;have hz:zX x.feats i=false:=by
    simp only[zX];revert hc1;generalize gT x.feats[i]! =z0;generalize Op.bytesLess x.feats[i-1]! x.feats[i]! =z1;by_cases e0:0<i<;>cases z0<;>cases z1<;>simp_all
   simp only[Ho];rw[hr,aA ae,hz];simp
  refine zg ?_;have hz:zX x.feats i=true:=by
   simp only[zX];revert hc1;generalize gT x.feats[i]! =z0;generalize Op.bytesLess x.feats[i-1]! x.feats[i]! =z1;by_cases e0:0<i<;>cases z0<;>cases z1<;>simp_all
  refine gI (i+1) [(0,0)] ?_;rw[hr,aA ae,hz];rfl
 refine iw ?_;refine iw ?_;refine kI ?_;refine cB (hc:=λhf=>hB x.v hp0.1) ?_;refine zr ?_;simp only[Ho];rw[hr,bI ae];have h9:decide ((x.feats.length:Int)<=9)=decide (x.feats.length<=9):=lT.2 ae;rw[h9];have hc:x.shelf=[]->dn x.shelf=false:=by intro e;rw[e];rfl
 revert hc;generalize dn x.name=a;generalize gQ x.v=b;generalize dn x.shelf=c;generalize decide (x.feats.length<=9)=d;by_cases e:x.shelf=[]<;>by_cases e2:x.sum=0<;>cases a<;>cases b<;>cases c<;>cases d<;>simp_all
def Us:aj:=bj 20
def w501 (hm:(Y.at 0).cb)(hA:BW Y)(hB:Ta Y):uw (cz Y Us):=λa b hp0=>by
 exact mK
def My:aj:=bj 96
def w580 (hA:C501 Y):uh (cz Y My):=λl nm v hp0=>by
 refine zg ?_;refine zf hm (λi=>[.m 11 l kj.D,.e (.str nm),.u 2,.i i,.u 1,.p 0 5,.u 1]) (λi=>[(0,.buf 5 [ca.D v])]) 3 (λi=>i<=l.length/\sG l nm v 0=sG l nm v i) (λi=>l.length-i) ⟨ae,rfl⟩ [(0,0)] ?_;rintro i ⟨hi,hr⟩;refine zg ?_;intro u0;refine dN ?_ ?_<;>intro hc0
 .refine zc ?_ ?_<;>intro hc1
  .refine zr ?_;rw[hr,YD ae (adg hc1)]
  refine gI (i+1) [(0,0)] ?_;rw[hr,YF ae (ai6 hc1)]
 refine zr ?_;rw[hr,R0 ae]
def Ur:aj:=bj 95
def w358 (hA:C75 Y)(hB:GJ Y)(hC:Vs Y):ub (cz Y Ur):=λs hp0=>by
 refine zg ?_;refine aR (λhc0=>?_) (λhc0=>?_)
 .simp only[dF,cG,aV]at hc0;have hf:ic s=false:=by
   unfold ic;rcases hc0 with h|h
   .rw[h];rfl
   .rw[show decide (s.es.length<=64)=false from bN ae];simp
  refine zr ?_;exact hf.symm
 simp only[eF,dq,cy]at hc0;have hq:ic s=b9 (se s.es) 0 s.es.length:=by unfold ic;rw[hc0.1,bA (show s.es.length<=64 by omega)];simp
 refine zg ?_;refine zf hm (λi=>[.u 2,.p 0 2,.u 1,.i i,.u 5]) (λi=>[(0,.buf 2 [bM.D s])]) 13 (λi=>i<=s.es.length/\ic s=b9 (se s.es) i s.es.length) (λi=>s.es.length-i) ⟨ae,hq⟩ [(0,0)] ?_;rintro i ⟨hi,hr⟩;refine zg ?_;intro u0;refine dN ?_ ?_<;>intro hc1
 .refine dI ?_;have hsm:=hp0 _ (aq (show i<s.es.length by omega));refine iw ?_;refine iw ?_;refine qx ?_;refine cB (hc:=λhf=>hC s.es s.es[i]!.r.name s.es[i]!.r.v ⟨λx hx=>(hp0 x hx).1.2,hsm.1.2⟩) ?_;refine zg ?_;refine wp_cond (λhc2=>?_) (λhc2=>?_)
  .have hen:se s.es i=false:=by
    simp only[dF,cG,aV,cy]at hc2;exact acL ae hc2
   refine zr ?_;rw[hr,aA ae,hen];rfl
  have hen:se s.es i=true:=by
   simp only[eF,dq,aV,cy]at hc2;exact WB ae hc2.1.1 hc2.1.2 hc2.2
  refine gI (i+1) [(0,0)] ?_;rw[hr,aA ae,hen];rfl
 refine zr ?_;rw[hr,bI ae]
def OP:aj:=bj 16
def w25 (hm:(Y.at 0).cb):Qh (cz Y OP):=λv n hp0=>by
 refine zc ?_ ?_<;>intro hc0
 .refine zr ?_;simp[bo,hc0]
 refine eX ?_;refine Aq (v.tmod n) (hn:=by intro _;omega) (hb:=λ_=>rfl) ?_;have ht:=D8 v n ae;refine zc ?_ ?_<;>intro hc1
 .refine zr ?_;simp only[bo];rw[ai hc0,ak hc1]
 refine zr ?_;simp only[bo];rw[ai hc0,ai hc1]
def ads:aj:=bj 49
def w159 (hm:(Y.at 0).cb):IJ (cz Y ads):=λl i=>by
 refine zc ?_ ?_<;>intro hc0
 .refine dI ?_;refine Aq (i.tmod 3) (hn:=by intro _;omega) (hb:=λ_=>rfl) ?_;refine zr ?_;simp only[atI];rw[ak hc0]
 refine zr ?_;simp only[atI];rw[ai ae]
def sz:aj:=bj 23
def w109 (hm:(Y.at 1).cb)(hA:C25 (Y.at 1))(hB:C159 (Y.at 1))(g:Gs)(n:Int)(hp0:n<=9223372036854775807)(hp1:0<=g.i/\g.i<=1000000):dx (Y.at 1) sz.body (GL sz 2 (.int .i64 (g.val n)) (Gs.D g.aS):Ex->List ba->St->Prop) (fU sz (.ptr 0 2 0 0::[.int .i64 n])) ⟨1,[(0,.buf 2 [(Gs.D g)])]⟩:=by
 show dx _ _ _ [⟨true,.ptr 0 2 0 0⟩,⟨true,.int .i64 n⟩,.un] ⟨1,[(0,.buf 2 [(Gs.D g)])]⟩;refine aQ ?_;refine iw ?_;refine qo ?_;refine BN ?_;rw[show g.i+1-1=g.i by omega];refine zg ?_;refine ja trivial jC (dm ah (aw (D.int .i64) ?_)) ah ah ah;rfl
def E6:aj:=⟨2,7,[⟨2,none⟩],ha1,(sq (rg [gb 2 s1,gm cbF] [(5,0),(2,1)]) (sq (sq (r1 [gm yE] 3 0) (.block 0 (.loop (sq (sq (r1 [gm s3,gm s0,gl l1,ou l0 l2] 4 3) (gce s4 0)) (sq (.block 1 (sq (r2 [gm s0,gm s3,ga 2 l0 l1,gk 2 true l2,gk 2 true s5,gn (.eqA false true [.i .i64,.i .i64] l3 l4)] 6 5) (.cond s6 (sq (r1 [gm cbT] 2 0) .ret) .skip))) (r1 [gm s3,qP l0 TN,gm l1] 3 2)))))) (sq (r1 [gm cbF] 2 0) .ret)))⟩
def w831:J3 (cz Y E6):=λl o=>by
 refine zg ?_;refine zf hm (λi=>[.m 2 l ea.D,.u 2,.i i,.u 1,.p 0 2,.u 1]) (λi=>[(0,.buf 2 [ea.D o])]) 3 (λi=>i<=l.length/\offB l o=oK (λi=>decide (l[i]! =o)) i l.length) (λi=>l.length-i) ⟨ae,rfl⟩ [(0,0)] ?_;rintro i ⟨hi,hr⟩;refine zg ?_;intro u0;refine dN ?_ ?_<;>intro hc0
 .refine zc ?_ ?_<;>intro hc1
  .refine zr ?_;rw[hr,j1 ae,bA hc1,Bool.true_or]
  refine gI (i+1) [(0,0)] ?_;rw[hr,j1 ae,bN hc1,Bool.false_or]
 refine zr ?_;rw[hr,tj ae]
def Mv:aj:=bj 42
def w73 (hm:(Y.at 0).cb)(hA:C71 Y)(hB:C219 Y):zF (cz Y Mv):=λr hp0=>by
 refine zc ?_ ?_<;>intro hc0
 .refine zg ?_;refine fM (b7 (aw D.str ?_) (aw (D.int .i64) ?_));all_goals
   simp[fD,hc0]
 refine cC ?_;have hgd:=mf hc0;refine zg ?_;refine fM (b7 (aw D.str ?_) (aw (D.int .i64) ?_));all_goals
  simp[fD,hc0]
def Up:aj:=bj 18
def w75 (hm:(Y.at 0).cb)(hA:C73 Y)(hB:C221 Y):zG (cz Y Up):=λr hp0=>by
 refine zc ?_ ?_<;>intro hc0
 .refine zg ?_;refine fM (b7 (aw (D.int .u64) ?_) (aw (D.int .i64) ?_));all_goals
   simp[wv,hc0]
 refine eX ?_;refine aG (hc:=hB (fD r).1) (ha:=λ_=>aw (λd=>[d]) (tM (q:=λb:UInt8=>D.int .u8 b.toNat) (λ_=>rfl) ah)) (hp:=λ_=>⟨qk (q:=λb:UInt8=>D.int .u8 b.toNat) (λ_=>rfl) ah,trivial⟩) ?_;refine zg ?_;refine fM (b7 (aw (D.int .u64) ?_) (aw (D.int .i64) ?_));all_goals
  simp[wv,hc0]
def Pt:aj:=bj 227
def w1013 (hm:(Y.at 0).cb)(hA:aeR Y)(hC:aeS Y):Er (cz Y Pt):=λshop ps nm hp0=>by
 refine zc ?_ ?_<;>intro hc0
 .refine zr ?_;rw[show(cO shop ps nm)=(0,[],(gy shop ps nm).2)from ak hc0];rfl
 refine cC ?_;obtain⟨hB,j,hj,hjl⟩:=pQ (by simpa using hc0:(gy shop ps nm).2=0);refine kF ?_;refine aG (hc:=hC shop[j]! nm (hp0 _ (aq hjl))) ?_;refine zr ?_;rw[show(cO shop ps nm)=((gy shop ps nm).1,ku shop[(gy shop ps nm).1.toNat]! nm,0)from ai (by simpa using hc0),hj,Int.toNat_natCast];rfl
def XT:aj:=bj 9
def w29 (hm:(Y.at 0).cb)(hA:C25 Y):Qj (cz Y XT):=λn=>by
 refine zg ?_;have hpl:=c9 n 3 ae;refine bc (Fq.map D.str) ?_;refine zg ?_;rw[bX];refine oX (v:=.str Fq[(bo n 3).toNat]!) (hi:=λ_=>by simp[Fq];omega) ?_;refine cN ?_;refine Pe 0 ?_;refine eX ?_;refine bY _ ?_;exact mK
end Go.Abs
end
