/- A part of the proofs. -/
import Derived.Test.YtdhangmdmdegpaaGreatDoorP09
set_option linter.all false
set_option maxRecDepth 60000
set_option maxHeartbeats 2000000
noncomputable section
namespace Go.Abs
variable {Y:Ctx}(hm:(Y.at 0).bU)
def I5:aj:=bd 103
def w694 (hA:C693 Y)(hB:C829 Y)(hC:C830 Y)(hD:C831 Y):KN (ct Y I5):=λm al od c hp0=>by
 refine c9 ?_;obtain⟨⟨hmp,hcp⟩,rfl,hop⟩:=hp0;have hml:=hmp.1;have hcl:=hcp.1;refine zc ?_ ?_<;>intro hc0
 .refine zr ?_;have h0:eA m od c=[]:=by unfold eA;rw[ak hc0]
  rw[h0];rfl
 refine c7 ?_;obtain⟨hin1,hin2⟩:=Tg hcp hml.1 hc0;obtain⟨hwo1,hwo2⟩:=OM hmp hcp hc0;obtain⟨U,hU⟩:∃U:Nat,(ey m c).1=(U:Int):=⟨(ey m c).1.toNat,ae⟩
 refine kv ?_;refine bc (ek.D ⟨(ey m c).1,m.full[U]!⟩) ?_;refine bm [ek.D ⟨(ey m c).1,m.full[U]!⟩] ?_;refine zc ?_ ?_<;>intro hc1
 .refine c9 ?_;obtain⟨hin3,hin4⟩:=hin2 oY;rw[hU,Int.toNat_natCast]at hin3 hin4;obtain⟨V,hV⟩:∃V:Nat,c[U]! =(V:Int):=⟨c[U]!.toNat,ae⟩
  obtain⟨N,hN⟩:∃N:Nat,(ey m c).2=(N:Int):=⟨(ey m c).2.toNat,ae⟩
  rw[hV,Int.toNat_natCast]at hin4;have hcU:=hcp.2 U ae;have hwq:bF m c=m.needs[U]![V]![N]! :=by unfold bF;rw[ak ae,hU,Int.toNat_natCast,hV,Int.toNat_natCast,hN,Int.toNat_natCast]
  refine fA ?_;refine dj (v:=.sl 1 (m.needs[U]!.map pj)) (hi:=λ_=>ae) ?_;refine j7 ?_;refine dj (v:=.sl 1 (m.needs[U]![V]!.map Jj)) (hi:=λ_=>ae) ?_;refine c7 ?_;refine dj (v:=.sl 2 (m.needs[U]![V]![N]!.map ek.D)) (hi:=λ_=>ae) ?_;refine c7 ?_;refine bG 20 ?_ (he:=Bm) (hm:=Bm);refine fA ?_;rw[<-hwq];refine zg ?_;refine zf hm (λk=>[.u 1,.m 1 ([]:Δ) (D.int .i64),.m 1 od jW,.m 1 c (D.int .i64),.u 1,.p 1 3,.u 4,.i k,.m 2 (bF m c) ek.D,.u 6,.o 0 2 (dZ m od c (bF m c) k).length,.u 2]) (λk=>[(0,.buf 2 ((dZ m od c (bF m c) k).map ek.D)),(1,.buf 3 [kB.D m])]) 41 (λk=>k<=(bF m c).length) (λk=>(bF m c).length-k) ae [(0,1)] ?_;intro k hk;have hok2:=(ya (m:=m) (c:=c) (ord:=od) (λu hu=>(hmp.2 u hu).1.2) hop hwo1 k hk).2;refine zg ?_;intro u0;refine dF ?_ ?_<;>intro hc2
  .refine dR ?_;have hwk:=hwo1 _ (aq (show k<(bF m c).length by omega));obtain⟨U2,hU2⟩:∃U2:Nat,(bF m c)[k]!.u=(U2:Int):=⟨(bF m c)[k]!.u.toNat,ae⟩
   refine qH ?_;rw[hU2];refine zg ?_;refine aQ (λhc3=>?_) (λhc3=>?_)
   .have hk1:dZ m od c (bF m c) k=dZ m od c (bF m c) (k+1):=by rw[dZ,GH,hU2,Int.toNat_natCast,ak yX]
    refine zg ?_;rw[hk1];exact iw (k+1) [(0,0),(1,1)]
   have hcU2:¬0<=c[U2]! :=by simpa only[bR,ge_iff_le]using hc3
   have hn16:=(hmp.2 U2 ae).1.2;have htr:(∀p∈(cK (cU od ((U2:Nat):Int)) m.needs[U2]!.length m.needs[U2]!.length),0<=p/\p<(m.needs[U2]!.length:Int))/\(cK (cU od ((U2:Nat):Int)) m.needs[U2]!.length m.needs[U2]!.length).length<=32:=Jk (m:=m) (ord:=od) (u:=((U2:Nat):Int)) (λu hu=>(hmp.2 u hu).1.2) hop ⟨ae,ae⟩;have htl:=htr.2;have hk2:dZ m od c (bF m c) (k+1)=kn (bF m c)[k]!.m ((U2:Nat):Int) (cK (cU od ((U2:Nat):Int)) m.needs[U2]!.length m.needs[U2]!.length) (cK (cU od ((U2:Nat):Int)) m.needs[U2]!.length m.needs[U2]!.length).length (dZ m od c (bF m c) k):=by rw[dZ,GH,ah (by rw[hU2,Int.toNat_natCast];exact hcU2),OB,hU2,Int.toNat_natCast]
   refine qH ?_;refine dj (v:=.sl 1 (((m.needs)[U2]!).map pj)) (hi:=λhf=>cr) ?_;refine zk1 ?_;intro u1;refine aE (hc:=hC od ((U2:Nat):Int) m.needs[U2]!.length ⟨⟨⟨ae,ae⟩,ae⟩,(hop U2 ae).1⟩) ?_;refine zg ?_;refine zfL hm (λj=>[.u 1,.m 1 ([]:Δ) (D.int .i64),.m 1 od jW,.m 1 c (D.int .i64),.u 1,.p 1 3,.u 4,.i k,.m 2 (bF m c) ek.D,.u 1,.i U2,.u 1,.i j,.m 1 (cK (cU od ((U2:Nat):Int)) m.needs[U2]!.length m.needs[U2]!.length) (D.int .i64),.u 1,.o 0 2 (kn (bF m c)[k]!.m ((U2:Nat):Int) (cK (cU od ((U2:Nat):Int)) m.needs[U2]!.length m.needs[U2]!.length) j (dZ m od c (bF m c) k)).length,.u 2]) (λj=>[(0,.buf 2 ((kn (bF m c)[k]!.m ((U2:Nat):Int) (cK (cU od ((U2:Nat):Int)) m.needs[U2]!.length m.needs[U2]!.length) j (dZ m od c (bF m c) k)).map ek.D)),(1,.buf 3 [kB.D m])]) 67 (λj=>j<=(cK (cU od ((U2:Nat):Int)) m.needs[U2]!.length m.needs[U2]!.length).length) (λj=>(cK (cU od ((U2:Nat):Int)) m.needs[U2]!.length m.needs[U2]!.length).length-j) ae [(0,0),(1,1)] ?_;intro j hj;have hoi2:(kn (bF m c)[k]!.m ((U2:Nat):Int) (cK (cU od ((U2:Nat):Int)) m.needs[U2]!.length m.needs[U2]!.length) j (dZ m od c (bF m c) k)).length<=(dZ m od c (bF m c) k).length+j:=DO _ _ _ j _;refine zg ?_;intro u2;refine dF ?_ ?_<;>intro hc4
   .refine dR ?_;have hT:=htr.1 _ (aq (show j<(cK (cU od ((U2:Nat):Int)) m.needs[U2]!.length m.needs[U2]!.length).length by omega));refine j7 ?_;refine bc (ek.D ⟨((U2:Nat):Int),(cK (cU od ((U2:Nat):Int)) m.needs[U2]!.length m.needs[U2]!.length)[j]!⟩) ?_;refine F3 ?_;refine rU ((cK (cU od ((U2:Nat):Int)) m.needs[U2]!.length m.needs[U2]!.length)[j]!) (hb:=λ_=>by rw[IntKind.wrap_u64];omega) ?_;refine GR (2^((cK (cU od ((U2:Nat):Int)) m.needs[U2]!.length m.needs[U2]!.length)[j]!.toNat+1)) (hn:=λ_=>ae) (hb:=λ_=>EE (n:=(cK (cU od ((U2:Nat):Int)) m.needs[U2]!.length m.needs[U2]!.length)[j]!.toNat) ae ae) ?_;refine D0 (HL (bF m c)[k]!.m (2^((cK (cU od ((U2:Nat):Int)) m.needs[U2]!.length m.needs[U2]!.length)[j]!.toNat+1))) (hb:=λ_=>rfl) ?_;refine F3 ?_;refine ca (hc:=λhf=>hD (kn (bF m c)[k]!.m ((U2:Nat):Int) (cK (cU od ((U2:Nat):Int)) m.needs[U2]!.length m.needs[U2]!.length) j (dZ m od c (bF m c) k)) ⟨((U2:Nat):Int),(cK (cU od ((U2:Nat):Int)) m.needs[U2]!.length m.needs[U2]!.length)[j]!⟩) (ha:=λ_=>ay (λd=>[d,ek.D ⟨((U2:Nat):Int),(cK (cU od ((U2:Nat):Int)) m.needs[U2]!.length m.needs[U2]!.length)[j]!⟩]) (abQ (q:=ek.D) (λ_=>rfl) ai)) (hp:=λ_=>⟨TZ (q:=ek.D) (λ_=>Lu) ai,Lu⟩) ?_;refine zg ?_;refine wp_cond (λhc5=>?_) (λhc5=>?_)
    .have hO1:kn (bF m c)[k]!.m ((U2:Nat):Int) (cK (cU od ((U2:Nat):Int)) m.needs[U2]!.length m.needs[U2]!.length) (j+1) (dZ m od c (bF m c) k)=(kn (bF m c)[k]!.m ((U2:Nat):Int) (cK (cU od ((U2:Nat):Int)) m.needs[U2]!.length m.needs[U2]!.length) j (dZ m od c (bF m c) k))++[⟨((U2:Nat):Int),(cK (cU od ((U2:Nat):Int)) m.needs[U2]!.length m.needs[U2]!.length)[j]!⟩]:=by rw[kn,Qc,ak pG]
     refine dR ?_;refine bm [ek.D ⟨((U2:Nat):Int),(cK (cU od ((U2:Nat):Int)) m.needs[U2]!.length m.needs[U2]!.length)[j]!⟩] ?_;refine cQ (q:=ek.D) (xs:=(kn (bF m c)[k]!.m ((U2:Nat):Int) (cK (cU od ((U2:Nat):Int)) m.needs[U2]!.length m.needs[U2]!.length) j (dZ m od c (bF m c) k))) (e:=⟨((U2:Nat):Int),(cK (cU od ((U2:Nat):Int)) m.needs[U2]!.length m.needs[U2]!.length)[j]!⟩) (hb:=ae) ?_;refine zg ?_;rw[<-hO1];exact iw (j+1) [(110,0),(1,1)]
    have hO1:kn (bF m c)[k]!.m ((U2:Nat):Int) (cK (cU od ((U2:Nat):Int)) m.needs[U2]!.length m.needs[U2]!.length) (j+1) (dZ m od c (bF m c) k)=(kn (bF m c)[k]!.m ((U2:Nat):Int) (cK (cU od ((U2:Nat):Int)) m.needs[U2]!.length m.needs[U2]!.length) j (dZ m od c (bF m c) k)):=by rw[kn,Qc,ah pG]
    refine zg ?_;rw[<-hO1];exact iw (j+1) [(0,0),(1,1)]
   refine zg ?_;rw[show j=(cK (cU od ((U2:Nat):Int)) m.needs[U2]!.length m.needs[U2]!.length).length by omega,<-hk2];exact iw (k+1) [(0,0),(1,1)]
  refine c7 ?_;obtain rfl:k=(bF m c).length:=ae;have hov:eA m od c=dZ m od c (bF m c) (bF m c).length:=by unfold eA;rw[ah hc0]
  refine bG 0 ?_ (he:=Bm) (hm:=Bm);refine zr ?_;rw[hov];rfl
 refine c9 ?_;refine bG 20 ?_ (he:=Bm) (hm:=Bm);refine fA ?_;have hwq:bF m c=[⟨(ey m c).1,m.full[U]!⟩]:=by unfold bF;rw[ah ae,hU,Int.toNat_natCast]
 rw[show [ek.D ⟨(ey m c).1,m.full[U]!⟩]=(bF m c).map ek.D by rw[hwq];rfl];refine zg ?_;refine zf hm (λk=>[.u 1,.m 1 ([]:Δ) (D.int .i64),.m 1 od jW,.m 1 c (D.int .i64),.u 1,.p 1 3,.u 4,.i k,.m 2 (bF m c) ek.D,.u 6,.o 0 2 (dZ m od c (bF m c) k).length,.u 2]) (λk=>[(0,.buf 2 ((dZ m od c (bF m c) k).map ek.D)),(1,.buf 3 [kB.D m])]) 26 (λk=>k<=(bF m c).length) (λk=>(bF m c).length-k) ae [(0,1)] ?_;intro k hk;have hok2:=(ya (m:=m) (c:=c) (ord:=od) (λu hu=>(hmp.2 u hu).1.2) hop hwo1 k hk).2;refine zg ?_;intro u0;refine dF ?_ ?_<;>intro hc2
 .refine dR ?_;have hwk:=hwo1 _ (aq (show k<(bF m c).length by omega));obtain⟨U2,hU2⟩:∃U2:Nat,(bF m c)[k]!.u=(U2:Int):=⟨(bF m c)[k]!.u.toNat,ae⟩
  refine qH ?_;rw[hU2];refine zg ?_;refine aQ (λhc3=>?_) (λhc3=>?_)
  .have hk1:dZ m od c (bF m c) k=dZ m od c (bF m c) (k+1):=by rw[dZ,GH,hU2,Int.toNat_natCast,ak yX]
   refine zg ?_;rw[hk1];exact iw (k+1) [(0,0),(1,1)]
  have hcU2:¬0<=c[U2]! :=by simpa only[bR,ge_iff_le]using hc3
  have hn16:=(hmp.2 U2 ae).1.2;have htr:(∀p∈(cK (cU od ((U2:Nat):Int)) m.needs[U2]!.length m.needs[U2]!.length),0<=p/\p<(m.needs[U2]!.length:Int))/\(cK (cU od ((U2:Nat):Int)) m.needs[U2]!.length m.needs[U2]!.length).length<=32:=Jk (m:=m) (ord:=od) (u:=((U2:Nat):Int)) (λu hu=>(hmp.2 u hu).1.2) hop ⟨ae,ae⟩;have htl:=htr.2;have hk2:dZ m od c (bF m c) (k+1)=kn (bF m c)[k]!.m ((U2:Nat):Int) (cK (cU od ((U2:Nat):Int)) m.needs[U2]!.length m.needs[U2]!.length) (cK (cU od ((U2:Nat):Int)) m.needs[U2]!.length m.needs[U2]!.length).length (dZ m od c (bF m c) k):=by rw[dZ,GH,ah (by rw[hU2,Int.toNat_natCast];exact hcU2),OB,hU2,Int.toNat_natCast]
  refine qH ?_;refine dj (v:=.sl 1 (((m.needs)[U2]!).map pj)) (hi:=λhf=>cr) ?_;refine zk1 ?_;intro u1;refine aE (hc:=hC od ((U2:Nat):Int) m.needs[U2]!.length ⟨⟨⟨ae,ae⟩,ae⟩,(hop U2 ae).1⟩) ?_;refine zg ?_;refine zfL hm (λj=>[.u 1,.m 1 ([]:Δ) (D.int .i64),.m 1 od jW,.m 1 c (D.int .i64),.u 1,.p 1 3,.u 4,.i k,.m 2 (bF m c) ek.D,.u 1,.i U2,.u 1,.i j,.m 1 (cK (cU od ((U2:Nat):Int)) m.needs[U2]!.length m.needs[U2]!.length) (D.int .i64),.u 1,.o 0 2 (kn (bF m c)[k]!.m ((U2:Nat):Int) (cK (cU od ((U2:Nat):Int)) m.needs[U2]!.length m.needs[U2]!.length) j (dZ m od c (bF m c) k)).length,.u 2]) (λj=>[(0,.buf 2 ((kn (bF m c)[k]!.m ((U2:Nat):Int) (cK (cU od ((U2:Nat):Int)) m.needs[U2]!.length m.needs[U2]!.length) j (dZ m od c (bF m c) k)).map ek.D)),(1,.buf 3 [kB.D m])]) 52 (λj=>j<=(cK (cU od ((U2:Nat):Int)) m.needs[U2]!.length m.needs[U2]!.length).length) (λj=>(cK (cU od ((U2:Nat):Int)) m.needs[U2]!.length m.needs[U2]!.length).length-j) ae [(0,0),(1,1)] ?_;intro j hj;have hoi2:(kn (bF m c)[k]!.m ((U2:Nat):Int) (cK (cU od ((U2:Nat):Int)) m.needs[U2]!.length m.needs[U2]!.length) j (dZ m od c (bF m c) k)).length<=(dZ m od c (bF m c) k).length+j:=DO _ _ _ j _;refine zg ?_;intro u2;refine dF ?_ ?_<;>intro hc4
  .refine dR ?_;have hT:=htr.1 _ (aq (show j<(cK (cU od ((U2:Nat):Int)) m.needs[U2]!.length m.needs[U2]!.length).length by omega));refine j7 ?_;refine bc (ek.D ⟨((U2:Nat):Int),(cK (cU od ((U2:Nat):Int)) m.needs[U2]!.length m.needs[U2]!.length)[j]!⟩) ?_;refine kv ?_;refine cD (k) (hj:=λhf=>cr) (hb:=λhf=>cr) ?_;refine AR ?_;refine dj (v:=.int .i64 (((bF m c))[k]!.m)) (hi:=λhf=>cr) ?_;refine bL ?_;refine bL ?_;refine cD (j) (hj:=λhf=>cr) (hb:=λhf=>cr) ?_;refine dj (v:=.int .i64 (((cK (cU od ((U2:Nat):Int)) m.needs[U2]!.length m.needs[U2]!.length))[j]!)) (hi:=λhf=>cr) ?_;refine rU ((cK (cU od ((U2:Nat):Int)) m.needs[U2]!.length m.needs[U2]!.length)[j]!) (hb:=λ_=>by rw[IntKind.wrap_u64];omega) ?_;refine GR (2^((cK (cU od ((U2:Nat):Int)) m.needs[U2]!.length m.needs[U2]!.length)[j]!.toNat+1)) (hn:=λ_=>ae) (hb:=λ_=>EE (n:=(cK (cU od ((U2:Nat):Int)) m.needs[U2]!.length m.needs[U2]!.length)[j]!.toNat) ae ae) ?_;refine D0 (HL (bF m c)[k]!.m (2^((cK (cU od ((U2:Nat):Int)) m.needs[U2]!.length m.needs[U2]!.length)[j]!.toNat+1))) (hb:=λ_=>rfl) ?_;refine oK ?_;refine bL ?_;refine bL ?_;refine bL ?_;refine bL ?_;refine bL ?_;refine cD (j) (hj:=λhf=>cr) (hb:=λhf=>cr) ?_;refine dj (v:=.int .i64 (((cK (cU od ((U2:Nat):Int)) m.needs[U2]!.length m.needs[U2]!.length))[j]!)) (hi:=λhf=>cr) ?_;refine ca (hc:=λhf=>hB [] ((U2:Nat):Int) (cK (cU od ((U2:Nat):Int)) m.needs[U2]!.length m.needs[U2]!.length)[j]! rfl) ?_;refine vz ?_;refine bL ?_;refine bL ?_;refine mH (d:=ek.D ((⟨((U2:Nat):Int),(cK (cU od ((U2:Nat):Int)) m.needs[U2]!.length m.needs[U2]!.length)[j]!⟩:ek))) ?_;refine ca (hc:=λhf=>hD (kn (bF m c)[k]!.m ((U2:Nat):Int) (cK (cU od ((U2:Nat):Int)) m.needs[U2]!.length m.needs[U2]!.length) j (dZ m od c (bF m c) k)) ⟨((U2:Nat):Int),(cK (cU od ((U2:Nat):Int)) m.needs[U2]!.length m.needs[U2]!.length)[j]!⟩) (ha:=λ_=>ay (λd=>[d,ek.D ⟨((U2:Nat):Int),(cK (cU od ((U2:Nat):Int)) m.needs[U2]!.length m.needs[U2]!.length)[j]!⟩]) (abQ (q:=ek.D) (λ_=>rfl) ai)) (hp:=λ_=>⟨TZ (q:=ek.D) (λ_=>Lu) ai,Lu⟩) ?_;refine Tr ?_;refine vz ?_;refine bg (env':=[_,_,_,_,_,_,_,_,_,_,_,_,_,_,_,_,_,_,_,_,⟨_,(.bool _)⟩]) ?_;refine wp_cond (λhc5=>?_) (λhc5=>?_)
   .have hO1:kn (bF m c)[k]!.m ((U2:Nat):Int) (cK (cU od ((U2:Nat):Int)) m.needs[U2]!.length m.needs[U2]!.length) (j+1) (dZ m od c (bF m c) k)=(kn (bF m c)[k]!.m ((U2:Nat):Int) (cK (cU od ((U2:Nat):Int)) m.needs[U2]!.length m.needs[U2]!.length) j (dZ m od c (bF m c) k))++[⟨((U2:Nat):Int),(cK (cU od ((U2:Nat):Int)) m.needs[U2]!.length m.needs[U2]!.length)[j]!⟩]:=by rw[kn,Qc,ak pG]
    refine pV ?_;refine bL ?_;refine mH (d:=ek.D ((⟨((U2:Nat):Int),(cK (cU od ((U2:Nat):Int)) m.needs[U2]!.length m.needs[U2]!.length)[j]!⟩:ek))) ?_;refine bm [ek.D ⟨((U2:Nat):Int),(cK (cU od ((U2:Nat):Int)) m.needs[U2]!.length m.needs[U2]!.length)[j]!⟩] ?_;refine cQ (q:=ek.D) (xs:=(kn (bF m c)[k]!.m ((U2:Nat):Int) (cK (cU od ((U2:Nat):Int)) m.needs[U2]!.length m.needs[U2]!.length) j (dZ m od c (bF m c) k))) (e:=⟨((U2:Nat):Int),(cK (cU od ((U2:Nat):Int)) m.needs[U2]!.length m.needs[U2]!.length)[j]!⟩) (hb:=ae) ?_;refine bL ?_;refine nN (env':=[_,_,_,_,_,_,_,_,_,_,_,_,_,_,_,_,_,_,⟨_,(.own _ _ _ _)⟩,_,_]) ?_;refine BQ.normal ?_;refine pV ?_;refine bL ?_;refine mh (hb:=λhf=>cr) ?_;refine bL ?_;refine nN (env':=[_,_,_,_,_,_,_,_,_,_,_,_,_,_,_,⟨_,(.int _ _)⟩,_,_,_,_,_]) ?_;refine BZ.normal ?_;rw[<-hO1];exact iw (j+1) [(95,0),(1,1)]
   have hO1:kn (bF m c)[k]!.m ((U2:Nat):Int) (cK (cU od ((U2:Nat):Int)) m.needs[U2]!.length m.needs[U2]!.length) (j+1) (dZ m od c (bF m c) k)=(kn (bF m c)[k]!.m ((U2:Nat):Int) (cK (cU od ((U2:Nat):Int)) m.needs[U2]!.length m.needs[U2]!.length) j (dZ m od c (bF m c) k)):=by rw[kn,Qc,ah pG]
   refine wp_skip ?_;refine BQ.normal ?_;refine pV ?_;refine bL ?_;refine mh (hb:=λhf=>cr) ?_;refine bL ?_;refine nN (env':=[_,_,_,_,_,_,_,_,_,_,_,_,_,_,_,⟨_,(.int _ _)⟩,_,_,_,_,_]) ?_;refine BZ.normal ?_;rw[<-hO1];exact iw (j+1) [(0,0),(1,1)]
  refine oV ?_;refine BZ.out ?_;refine BQ.normal ?_;refine pV ?_;refine bL ?_;refine mh (hb:=λhf=>cr) ?_;refine bL ?_;refine nN (env':=[_,_,_,_,_,_,_,_,_,_,⟨_,(.int _ _)⟩,_,_,_,_,_,_,_,_,_,_]) ?_;refine LQ.normal ?_;rw[show j=(cK (cU od ((U2:Nat):Int)) m.needs[U2]!.length m.needs[U2]!.length).length by omega,<-hk2];exact iw (k+1) [(0,0),(1,1)]
 refine oV ?_;refine LQ.out ?_;obtain rfl:k=(bF m c).length:=ae;have hov:eA m od c=dZ m od c (bF m c) (bF m c).length:=by unfold eA;rw[ah hc0]
 refine bG 0 ?_ (he:=Bm) (hm:=Bm);refine aS ?_;refine bL ?_;refine bL ?_;refine bg (env':=[_,_,_,_,⟨_,(.sl _ _)⟩,_,_,_,_,_,_,_,_,_,_,_,_,_,_,_,_]) ?_;refine wp_ret ?_;refine zr ?_;rw[hov];rfl
def Nw:aj:=bd 258
def w211 (hA:Uj Y)(hB:C444 Y):JG (ct Y Nw):=λr name rng hp0=>by
 refine zc ?_ ?_<;>intro hc0
 .refine zr ?_;rw[gO,ak hc0]
 refine zc ?_ ?_<;>intro hc1
 .refine zr ?_;rw[gO,ah jT,ak hc1]
 refine zc ?_ ?_<;>intro hc2
 .refine zr ?_;rw[gO,ah jT,ah hc1,ak hc2]
 refine zr ?_;rw[gO,ah jT,ah hc1,ah (by simp[hc2])]
def Nx:aj:=bd 287
def w443 (hA:C211 Y)(hB:Ul Y):uA (ct Y Nx):=λr w al hp0=>by
 refine F1 ?_;refine aE (hc:=hA r w.name w.range hp0.1.2) ?_;refine zc ?_ ?_<;>intro hc0
 .refine zr ?_;rw[lK,ak hc0]
 refine zg ?_;intro u0;refine aQ (λhc1=>?_) (λhc1=>?_)
 .have hq:(decide (w.feats.length<=6)&&(al ||decide (w.feats.length=0)))=false:=by rw[<-b8,<-abJ];exact hc1
  refine zr ?_;rw[lK,ah jT,ak (by unfold nQ;rw[hq];rfl)]
 have hq:(decide (w.feats.length<=6)&&(al ||decide (w.feats.length=0)))=true:=by rw[<-cF,<-abJ];exact hc1
 refine zg ?_;intro u1;refine zf hm (λi=>[.u 2,.e (.bool al),.u 1,.p 0 9,.p 1 4,.u 3,.i i,.i w.feats.length,.u 1,.m 1 w.feats D.str,.u 3]) (λi=>[(0,.buf 9 [Rec.D r]),(1,.buf 4 [cP.D w])]) 30 (λi=>i<=w.feats.length/\nQ w.feats al=bK (wfB w.feats) i w.feats.length) (λi=>w.feats.length-i) ⟨ae,by unfold nQ;rw[hq,eh]⟩ [(0,0),(1,1)] ?_;rintro i ⟨hi,hr⟩;refine zc ?_ ?_<;>intro hc2
 .refine iz ?_;refine pW ?_;refine cD (i-1) ?_;refine zg ?_;refine wp_cond (λhc3=>?_) (λhc3=>?_)
  .have hz:wfB w.feats i=false:=by rw[<-b8,<-wf_c];exact hc3
   refine zr ?_;rw[lK,ah jT,ak (by rw[hr,ax ae,hz];rfl)]
  have hz:wfB w.feats i=true:=by rw[<-cF,<-wf_c];exact hc3
  refine fX (i+1) [(0,0),(1,1)] ?_;rw[hr,ax ae,hz];rfl
 refine zr ?_;rw[lK,ah jT,ah (by rw[hr,bp ae];simp)]
def Nu:aj:=bd 257
def w210 (hA:C212 Y)(hB:Ul Y)(hC:C443 Y):uk (ct Y Nu):=λr n hp0=>by
 refine zg ?_;intro u0;refine dF ?_ ?_<;>intro hc0
 .refine zr ?_;rw[jM,ak ae]
 refine zg ?_;intro u1;refine dF ?_ ?_<;>intro hc1
 .refine zr ?_;rw[jM,ah ae,ak ae]
 refine zg ?_;intro u2;refine zf hm (λi=>[.u 3,.p 1 3,.u 2,.i i,.i n.any.length,.u 1,.m 4 n.any cP.D,.p 0 9,.u 5]) (λi=>[(0,.buf 9 [Rec.D r]),(1,.buf 3 [bn.D n])]) 15 (λi=>i<=n.any.length/\nR r n.any=gh (λi=>lK r n.any[i]! (decide ((n.any.length:Int)=1))) i n.any.length) (λi=>n.any.length-i) ⟨ae,rfl⟩ [(0,0),(1,1)] ?_;rintro i ⟨hi,hr⟩;refine zc ?_ ?_<;>intro hc2
 .refine Fa ?_;intro u3;refine aE (hc:=hC r n.any[i]! _ (hp0.1 _ (aq ae))) ?_;refine zc ?_ ?_<;>intro hc3
  .refine zr ?_;have hw:nR r n.any=lK r n.any[i]! (decide ((n.any.length:Int)=1)):=by rw[hr,lO ae hc3]
   rw[jM,ah ae,ah ae,ak (by rw[hw];exact hc3),hw]
  refine fX (i+1) [(0,0),(1,1)] ?_;rw[hr,qf ae hc3]
 refine fA ?_;have hw0:nR r n.any=0:=by rw[hr,qe ae]
 refine c7 ?_;refine aE (hc:=hA n.when' hp0.2.1) ?_;refine zg ?_;refine aQ (λhc4=>?_) (λhc4=>?_)
 .try simp only[gR]at hc4
  refine zr ?_;rw[jM,ah ae,ah ae,ah mq,ak hc4]
 simp only[cF]at hc4;refine zg ?_;refine aQ (λhc5=>?_) (λhc5=>?_)
 .try simp only[gR]at hc5
  refine zr ?_;rw[jM,ah ae,ah ae,ah mq,ah (by simp[hc4]),ak hc5]
 simp only[eJ,cF,aT]at hc5;refine zr ?_;rw[jM,ah ae,ah ae,ah mq,ah (by simp[hc4]),ah (by rintro⟨g1,g2⟩;rcases hc5 with h|h;exact g1 h;rw[g2]at h;cases h)]
def Nt:aj:=bd 261
def w214 (hA:C448 Y):JH (ct Y Nt):=λr s hp0=>by
 refine zg ?_;intro u0;refine zf hm (λi=>[.u 3,.p 0 9,.i i,.i r.needs.length,.u 1,.m 3 r.needs bn.D,.i (bN s).1,.u 1,.e (.str (bN s).2.1),.u 4]) (λi=>[(0,.buf 9 [Rec.D r])]) 15 (λi=>i<=r.needs.length/\oy r s=(if(r.needs.drop i).any (itC (bN s).1 (bN s).2.1)=true then 0 else itE (bN s).1)) (λi=>r.needs.length-i) ⟨ae,YT r s⟩ [(0,0)] ?_;rintro i ⟨hi,hr⟩;refine zc ?_ ?_<;>intro hc0
 .refine iz ?_;refine iz ?_;refine c9 ?_;refine cD 0 (hb:=λh=>Lx) ?_;refine c9 ?_;refine dj (q:=cP.D) (xs:=r.needs[i]!.any) (i:=0) (hi:=λh=>Lx) (v:=(.str r.needs[i]!.any[0]!.name)) ?_;refine zg ?_;refine wp_cond (λhc1=>?_) (λhc1=>?_)
  .have hz:itC (bN s).1 (bN s).2.1 r.needs[i]! =true:=hc1;refine zr ?_;rw[hr,xg ae hz];rfl
  have hz:itC (bN s).1 (bN s).2.1 r.needs[i]! =false:=hc1;refine fX (i+1) [(0,0)] ?_;rw[hr,CE ae hz]
 refine fA ?_;have he:oy r s=itE (bN s).1:=by rw[hr,xf ae];rfl
 refine zc ?_ ?_<;>intro hc2
 .refine zr ?_;rw[he,itE,ak hc2]
 refine zc ?_ ?_<;>intro hc3
 .refine zr ?_;rw[he,itE,ah hc2,ak hc3]
 refine zr ?_;rw[he,itE,ah hc2,ah hc3]
def ta:aj:=bd 41
def w362 (hm:(Y.at 1).bU)(y:cu)(hA:C582 (Y.at 1))(hB:C583 (Y.at 1))(hp0:qP y/\kS y.e):dD (Y.at 1) ta.body (uV ta (WldQ y):Ex->Φ->St->Prop) (fV ta [cu.D y (.ptr 0 2 0 0)]) ⟨1,[(0,.buf 2 [.agg [.aO,.aO]])]⟩:=by
 show dD _ _ _ [⟨true,cu.D y (.ptr 0 2 0 0)⟩,.un,.un,.un,.un,.un,.un,.un,.un,.un,.un] ⟨1,[(0,.buf 2 [.agg [.aO,.aO]])]⟩;refine aS ?_;refine pW ?_;refine iu (a8.to [(1,3),(2,1),(4,2)] (nx':=8) rfl ai (env':=[.un,⟨true,.ptr 1 1 0 0⟩,⟨true,.bool false⟩,⟨true,.ptr 3 8 0 0⟩,.un,.un,.un,.un,.un,⟨true,.ptr 2 1 0 0⟩,.un]) (m':=[(0,.buf 2 [eS 5 6 ([]:Ψ).length]),(5,.buf 1 (([]:Ψ).map D.str)),(6,.buf 1 (dn y [])),(3,.buf 8 [cu.D y (.ptr 0 2 0 0)]),(1,.buf 1 [.agg [.aO]]),(2,.buf 1 [.agg [.aO]])]) eQ (by refine bB.ni 0 ai ai (by exact⟨_,_,rfl,⟨_,rfl,⟨_,_,rfl,.inr ⟨_,_,_,rfl⟩,⟨_,_,rfl,.inr ⟨_,_,_,rfl⟩,rfl⟩⟩⟩,rfl⟩) ?_;refine bB.mt ai ai ai ai ?_;refine bB.mt ai ai ai ai ?_;refine bB.eq 1 ai ai ai ?_;refine bB.eq 2 ai ai ai ?_;refine bB.eq 4 ai ai ai ?_;exact bB.nil)) ?_;refine c7 ?_;refine dT (nx':=10) (v:=.tup [.sl 2 ((iT y).map Key.D),.bool (okY y)]) (m':=[(9,.buf 1 ((sV y 49 nM []).map D.str)),(10,.buf 1 (dn y (sV y 49 nM []))),(0,.buf 2 [eS 9 10 (sV y 49 nM []).length]),(3,.buf 8 [cu.D y (.ptr 0 2 0 0)]),(1,.buf 1 [.agg [.aO]]),(2,.buf 1 [.agg [.aO]])]) (hc:=λK' hK=>(GS y▸hA y [] hp0 aJ) _ 0 5 6 _ K' eL eL eL aX ⟨rfl,rfl,rfl⟩ hK) (hn:=aX) ?_;refine pW ?_;have hal:=Xj y;have hok0:okY y=ZF y 0:=by unfold ZF;rw[nT,gW]
 rw[hok0];refine zg ?_;refine gE hm (ι:=Nat) (λi=>[.un,⟨true,.ptr 1 1 0 0⟩,.un,⟨true,.ptr 3 8 0 0⟩,⟨true,.int .i64 (i:Nat)⟩,⟨true,.sl 2 (((iT y)).map Key.D)⟩,⟨true,.bool ((ZF y i))⟩,.un,.un,⟨true,.ptr 2 1 0 0⟩,.un]) (λi=>[(0,.buf 2 [eS 5 6 (ZB y i).length]),(5,.buf 1 ((ZB y i).map D.str)),(6,.buf 1 (dn y (ZB y i))),(3,.buf 8 [cu.D y (.ptr 0 2 0 0)]),(1,.buf 1 [.agg [.aO]]),(2,.buf 1 [.agg [.own 7 3 0 (yO y i).length]]),(7,.buf 3 ((yO y i).map cN.D))]) 20 (λi=>i<=(iT y).length) (λi=>(iT y).length-i) 0 ae (a8.to [(1,1),(2,2),(3,3),(9,5),(10,6)] ai ai eQ (by repeat(first|exact bB.nil|refine bB.By ai ai eo ?_|refine bB.OW ai ai ai ?_|refine bB.OX ai ai ai ai ?_|refine bB.By ai ai (by exact jo _ _) ?_|refine bB.nl 0 ai ai ai rI ?_|refine bB.eq 0 ai ai ai ?_|refine bB.nl 9 ai ai ai rI ?_|refine bB.eq 9 ai ai ai ?_|refine bB.nl 10 ai ai ai rI ?_|refine bB.eq 10 ai ai ai ?_|refine bB.nl 3 ai ai ai rI ?_|refine bB.eq 3 ai ai ai ?_|refine bB.nl 1 ai ai ai rI ?_|refine bB.eq 1 ai ai ai ?_|refine bB.ni 2 ai ai (by exact⟨_,_,rfl,⟨_,rfl,⟨_,_,rfl,.inr ⟨_,_,_,rfl⟩,rfl⟩⟩,rfl⟩) ?_|refine bB.mt ai ai ai ai ?_))) ?_;intro i hi;have hnl:=aeZ y i;have hul:=OG (y:=y) i;refine zg ?_;intro u0;refine dF ?_ ?_<;>intro hc0
 .refine yZ ?_;refine dT (nx':=29) (v:=.tup [.sl 8 ((dW y (iT y) (iT y)[i]!).1.map eI.D),.bool (dW y (iT y) (iT y)[i]!).2]) (m':=[(33,.buf 1 ((jD (ZB y i) (iT y)[i]!).map D.str)),(34,.buf 1 (dn y (jD (ZB y i) (iT y)[i]!))),(0,.buf 2 [eS 33 34 (jD (ZB y i) (iT y)[i]!).length]),(3,.buf 8 [cu.D y (.ptr 0 2 0 0)]),(1,.buf 1 [.agg [.aO]]),(2,.buf 1 [.agg [.own 7 3 0 (yO y i).length]]),(7,.buf 3 ((yO y i).map cN.D))]) (hc:=λK' hK=>hB y (ZB y i) (iT y) (iT y)[i]! hp0 ae _ 0 5 6 _ K' eL eL eL aX ⟨rfl,rfl,rfl⟩ hK) (hn:=aX) ?_;refine iz ?_;refine se ?_;refine bc (cN.D (oR y (iT y) (iT y)[i]!)) ?_;refine bm [cN.D (oR y (iT y) (iT y)[i]!)] ?_;refine cQ (q:=cN.D) (xs:=(yO y i)) (e:=(oR y (iT y) (iT y)[i]!)) (hb:=ae) ?_;refine c9 ?_;refine cE (.agg [.own 58 3 0 ((yO y i)++[(oR y (iT y) (iT y)[i]!)]).length]) (he:=dh) ?_;refine zg ?_;rw[amA hc0.2,okS_s hc0.2,nsS_s];exact iw (i+1) [(1,1),(2,2),(3,3),(33,5),(34,6),(58,7)]
 refine c7 ?_;have hwe:=Wr hi (by rcases hc0 with h|h;exact .inl h;exact .inr h);refine bG 7 ?_ (he:=ab1) (hm:=ab1);refine c9 ?_;refine mH (d:=bP.D ⟨(yO y i)⟩) ?_;refine zg ?_;refine eB trivial DZ (dp ai (?_)) ai (by first|(rw[WldQ,Aa,hwe];done)|(rw[WldQ,Aa,hwe];exact rfl));rfl
def q9:aj:=bd 27
def w266 (hm:(Y.at 1).bU)(hA:Hx (Y.at 1))(hB:C110 (Y.at 1))(hC:C111 (Y.at 1))(hD:C112 (Y.at 1))(hE:C503 (Y.at 1))(hF:C504 (Y.at 1))(g:Gs)(l:Β)(hp0:0<=g.i/\g.i<=960000)(hp1:fq l/\1<=l.length/\l.length<=100):dD (Y.at 1) q9.body (HB q9 2 (.sl 2 ((lD g l).1.map bz.D)) (Gs.D (lD g l).2):Ex->Φ->St->Prop) (fV q9 (.ptr 0 2 0 0::[.sl 2 (l.map bz.D)])) ⟨1,[(0,.buf 2 [(Gs.D g)])]⟩:=by
 show dD _ _ _ [⟨true,.ptr 0 2 0 0⟩,⟨true,.sl 2 (l.map bz.D)⟩,.un,.un,.un,.un,.un,.un,.un,.un,.un,.un,.un,.un] ⟨1,[(0,.buf 2 [(Gs.D g)])]⟩;refine aS ?_;refine dR ?_;obtain⟨hsh,hl1,hl2⟩:=hp1;have rk:=g.e7 l.length ae;have r1:=g.aU.e7 4 ae;have r2:=g.aU.aU.e7 4 ae;have hk:g.val l.length=(((kG g l):Nat):Int):=by unfold kG;omega
 have hkl:(kG g l)<l.length:=by unfold kG;omega
 refine dR ?_;intro u0;refine dd (hc:=hA g l.length ae ae) ?_;refine j7 ?_;refine dd (hc:=hA g.aU 4 ae lz) ?_;refine cD (g.aU.val 4).toNat (hj:=λ_=>ae) (hb:=λ_=>pZ) ?_;refine D1 (v:=.str cI[(g.aU.val 4).toNat]!) (hi:=λ_=>pZ) ?_;refine c7 ?_;refine dd (hc:=hA g.aU.aU 4 ae lz) ?_;refine cD (g.aU.aU.val 4).toNat (hj:=λ_=>ae) (hb:=λ_=>by simp[bQ];omega) ?_;refine dj (v:=b6.D bQ[(g.aU.aU.val 4).toNat]!) (hi:=λ_=>by simp[bQ];omega) ?_;refine c7 ?_;refine cE (b6.D (vrG g)) (he:=dh) ?_;refine c9 ?_;refine bG 17 ?_ (he:=ab6) (hm:=ab6);refine c7 ?_;refine zL (ys:=l.map bz.D) (n:=l.length) (he:=n9.sl) (hn:=aJ) (hb:=ae) ?_;refine j7 ?_;refine dd (hc:=hA g.aU.aU.aU 6 ae lz) ?_;refine zc ?_ ?_<;>intro hc0
 .refine kv ?_;refine D1 (v:=bz.D l[(kG g l)]!) (hi:=λ_=>ae) ?_;refine c9 ?_;refine Qm (v:=b6.D (vrG g)) ?_;refine c9 ?_;refine dd (hc:=hA g.aU.aU.aU.aU 3 ae lz) ?_;refine c9 ?_;refine aE (hc:=hE l[(kG g l)]! (nmG g) (vrG g) (decide (0<g.aU.aU.aU.aU.val 3)) ⟨HX hsh _,yQ _⟩) ?_;refine fA ?_;refine cE (bz.D (WC g l).1) (he:=dh) ?_;refine zc ?_ ?_<;>intro hc1
  .refine j7 ?_;refine sU ((l.set (kG g l) (WC g l).1).map bz.D) (hi:=mb) (he:=Jh ae rfl) ?_;refine c7 ?_;rw[show D.own 21 2 0 l.length=D.own 21 2 0 (l.set (kG g l) (WC g l).1).length from by rw[List.length_set]];refine fA ?_;refine bG 21 ?_;refine zg ?_;refine jc trivial jJ (dp ai (?_)) (by rw[aaa hc0 hc1];exact rfl) ai ai;rw[aaa hc0 hc1];rfl
  refine kv ?_;refine bG 21 ?_;refine zg ?_;refine jc trivial jJ (dp ai (?_)) (by rw[aab hc0 hc1];exact rfl) ai ai;rw[aab hc0 hc1];rfl
 refine kv ?_;refine D1 (v:=bz.D l[(kG g l)]!) (hi:=λ_=>ae) ?_;refine dR ?_;refine dd (hc:=hB g.aU.aU.aU.aU (nmG g) (vrG g) 2 Lw aX) ?_;refine aE (hc:=hF l[(kG g l)]! (rcG g).1 ⟨HX hsh _,aaP _ (zz _) (yQ _)⟩) ?_;refine fA ?_;refine cE (bz.D (WA g l).1) (he:=dh) ?_;refine zc ?_ ?_<;>intro hc2
 .refine j7 ?_;refine sU ((l.set (kG g l) (WA g l).1).map bz.D) (hi:=mb) (he:=Jh ae rfl) ?_;refine c9 ?_;rw[show D.own 21 2 0 l.length=D.own 21 2 0 (l.set (kG g l) (WA g l).1).length from by rw[List.length_set]];refine fA ?_;refine bG 21 ?_;refine zg ?_;refine jc trivial jJ (dp ai (?_)) (by rw[aac hc0 hc2];exact rfl) ai ai;rw[aac hc0 hc2];rfl
 refine j7 ?_;refine bG 21 ?_;refine zg ?_;refine jc trivial jJ (dp ai (?_)) (by rw[aad hc0 hc2];exact rfl) ai ai;rw[aad hc0 hc2];rfl
def I8:aj:=bd 195
def w554 (hm:(Y.at 0).bU)(hA:C734 Y):Kx (ct Y I8):=λv hp0=>by
 show dD _ _ _ [⟨_,_⟩,_,_,_] _;obtain⟨hq1,hq2,hq3⟩:=hp0;simp only[C6,aD,aT]at hq1 hq2 hq3;have hl1:=ie 4 v.major.toNat ae ae;have hl2:=ie 4 v.minor.toNat ae ae;have hl3:=ie 4 v.patch.toNat ae ae;refine aS ?_;exact lL
def QV:aj:=bd 146
def w316 (hm:(Y.at 0).bU)(hA:Cw Y)(hB:C554 Y):uB (ct Y QV):=λv hp0=>by
 show dD _ _ _ [⟨_,_⟩,_,_,_,_,_,_] _;obtain⟨hs1,hs2⟩:=hp0;have hp0:v.sm:=⟨hs1,hs2⟩;refine aS ?_;refine zg ?_;refine aQ (λhc0=>?_) (λhc0=>?_)
 .simp only[b8]at hc0;refine zr ?_;simp[vc,hc0]
 simp only[cF]at hc0;refine c7 ?_;have hv:=hc0;simp only[gN,aD]at hv;obtain⟨⟨⟨⟨hv1,hv2⟩,hv3⟩,_⟩,_⟩:=hv;have hq1:=hv1;have hq2:=hv2;have hq3:=hv3;simp only[C6,aD,aT]at hq1 hq2 hq3;have hl1:=ie 4 v.major.toNat ae ae;have hl2:=ie 4 v.minor.toNat ae ae;have hl3:=ie 4 v.patch.toNat ae ae;refine zc ?_ ?_<;>intro hc1
 .refine zc ?_ ?_<;>intro hc2
  .refine zr ?_;simp[vc,FZ,hc0,hc1,hc2]
  refine zr ?_;simp[vc,FZ,hc0,hc1,hc2]
 refine zc ?_ ?_<;>intro hc2
 .refine zr ?_;simp[vc,FZ,hc0,hc1,hc2]
 refine zr ?_;simp[vc,FZ,hc0,hc1,hc2]
def V7:aj:=bd 162
def w464 (hm:(Y.at 0).bU):Kk (ct Y V7):=λh n hp0=>by
 refine kv ?_;refine GR (abi h n) (hb:=λ_=>by rw[show min (Int.toNat (n:Int)) (IntKind.bits .u64)=n by simp[IntKind.bits];omega];rfl) ?_;refine c7 ?_;refine IN ((64-n:Nat):Int) (hb:=λ_=>by rw[IntKind.wrap_u64];omega) ?_;refine Ts (G4 h (64-n)) (hb:=λ_=>by rw[show min (Int.toNat ((64-n:Nat):Int)) (IntKind.bits .u64)=64-n by simp[IntKind.bits]];rfl) ?_;refine ag3 (rot h n) (hb:=λ_=>rfl) ?_;refine zg ?_;refine fQ (ay (D.int .u64) ?_);rfl
def aa3:aj:=bd 112
def w221 (hA:C464 Y):uo (ct Y aa3):=λs=>by
 refine zg ?_;refine zf hm (λi=>[.e (.sl 1 (s.map λb=>D.int .u8 b.toNat)),.u 1,.i i,.u 1,.e (.int .u64 (zZ (s.take i)))]) (λi=>[]) 3 (λi=>i<=s.length) (λi=>s.length-i) ae [] ?_;intro i hi;refine zg ?_;intro u0;refine dF ?_ ?_<;>intro hc0
 .refine pW ?_;refine dj (v:=.int .u8 (at8 s i)) (hv:=λ_=>ld8 s i) ?_;refine rU (at8 s i) (hb:=λ_=>by have:=HE s i;rw[IntKind.wrap_u64];omega) ?_;refine IH (T0 (zZ (s.take i)) (at8 s i)) (hb:=λ_=>rfl) ?_;refine c9 ?_;refine aaA (zZ (s.take (i+1))) (hb:=λ_=>by rw[Hd s i ae];rfl) ?_;exact iw (i+1) []
 refine dR ?_;have ht:s.take i=s:=gG ae;rw[ht];refine c7 ?_;refine Ts (G4 (zZ s) 29) (hb:=λ_=>rfl) ?_;refine IH (sumL s) (hb:=λ_=>rfl) ?_;refine zg ?_;refine fQ (ay (D.int .u64) ?_);rfl
def QM:aj:=bd 107
def w403 (hA:Um Y)(hB:C617 Y)(hC:C618 Y):J3 (ct Y QM):=λw i hp0=>by
 refine c9 ?_;obtain⟨j,rfl⟩:∃j:Nat,i=(j:Int):=⟨i.toNat,ae⟩
 have hjl:j<w.us.length:=ae;have hju:=hp0.1 _ (aq hjl);simp only[Int.toNat_natCast];refine se ?_;refine cE _ ?_;refine zg ?_;intro u0;refine dF ?_ ?_<;>intro hc0
 .refine zr ?_;unfold tl lJ;grind
 refine zc ?_ ?_<;>intro hc1
 .refine zr ?_;unfold tl lJ vv;grind
 refine iz ?_;refine fA ?_;refine cD ((j-1)) (hj:=λhf=>cr) (hb:=λhf=>cr) ?_;refine zc ?_ ?_<;>intro hc2
 .refine zr ?_;unfold tl lJ;grind
 refine zg ?_;refine zf hm (λk=>[.u 1,.i j,.u 1,.p 0 1,.p 1 3,.u 3,.i k,.u 2]) (λk=>[(0,.buf 1 [bP.D w]),(1,.buf 3 [cN.D (w.us[j]!)])]) 54 (λk=>k<=w.us[j]!.ar.length/\bK (nj w.us.length w.us[j]!.ar) 0 w.us[j]!.ar.length=bK (nj w.us.length w.us[j]!.ar) k w.us[j]!.ar.length) (λk=>w.us[j]!.ar.length-k) ⟨ae,rfl⟩ [(0,0),(7,1)] ?_;rintro k ⟨hk,hr⟩;refine zg ?_;intro u1;refine dF ?_ ?_<;>intro hc3
 .refine Jw ?_;refine aE (hc:=hC ((w.us[j]!.ar)[k]!) _ ?_) ?_;rotate_left;first|assumption|omega|(grind [bP.sm,cN.sm,eI.sm,aq])
  refine yZ ?_;refine cD ((k-1)) (hj:=λhf=>cr) (hb:=λhf=>cr) ?_;refine qH ?_;refine ca (hc:=λhf=>hA ((w.us[j]!.ar)[(k-1)]!.v) ((w.us[j]!.ar)[k]!.v) (by first|assumption|omega|(grind [bP.sm,cN.sm,eI.sm,aq]))) ?_;refine zc ?_ ?_<;>intro hc4
  .refine zr ?_;unfold tl lJ;rw[hr,ax (i:=k) ae];simp only[nj];grind
  refine fX (k+1) [(0,0),(1,1)] ?_;rw[hr,ax ae];simp only[nj];grind
 refine zr ?_;unfold tl lJ vv;rw[hr,bp (i:=k) ae];grind
def VT:aj:=bd 63
def w169 (hA:C403 Y):uh (ct Y VT):=λw hp0=>by
 refine zg ?_;intro u0;refine dF ?_ ?_<;>intro hc0
 .refine zr ?_;rw[E4];grind
 refine zg ?_;refine zf hm (λi=>[.u 2,.p 0 1,.u 1,.i i,.u 2]) (λi=>[(0,.buf 1 [bP.D w])]) 13 (λi=>i<=w.us.length/\bK (tl w.us) 0 w.us.length=bK (tl w.us) i w.us.length) (λi=>w.us.length-i) ⟨ae,rfl⟩ [(0,0)] ?_;rintro i ⟨hi,hr⟩;refine zg ?_;intro u1;refine dF ?_ ?_<;>intro hc1
 .refine zc ?_ ?_<;>intro hc2
  .refine zr ?_;rw[E4,hr,ax ae];grind
  refine fX (i+1) [(0,0)] ?_;rw[hr,ax ae];grind
 refine zr ?_;rw[E4,hr,bp ae];grind
def wI:aj:=bd 119
def w751 (hm:(Y.at 3).bU)(y:cu)(ns:Ψ)(hA:WR (Y.at 3))(hp0:∀m∈y.l,m.r.v∈bQ)(hp1:y.l.length<=1000):dD (Y.at 3) wI.body (uV wI (LH y ns (.sl 1 ((eH y.l).map ed))):Ex->Φ->St->Prop) (fV wI [cu.D y (.ptr 0 2 0 0)]) ⟨3,[(0,.buf 2 [eS 1 2 ns.length]),(1,.buf 1 (ns.map D.str)),(2,.buf 1 (dn y ns))]⟩:=by
 show dD _ _ _ [⟨true,cu.D y (.ptr 0 2 0 0)⟩,.un,.un,.un,.un,.un,.un] ⟨3,[(0,.buf 2 [eS 1 2 ns.length]),(1,.buf 1 (ns.map D.str)),(2,.buf 1 (dn y ns))]⟩;refine aS ?_;refine zg ?_;refine zf hm (λi=>[.u 2,.i i,.p 3 8,.u 1,.o 5 1 (eH (y.l.take i)).length,.u 1]) (λi=>[(0,.buf 2 [eS 1 2 ns.length]),(1,.buf 1 (ns.map D.str)),(2,.buf 1 (dn y ns)),(3,.buf 8 [cu.D y (.ptr 0 2 0 0)]),(5,.buf 1 ((eH (y.l.take i)).map ed))]) 20 (λi=>i<=y.l.length) (λi=>y.l.length-i) ae [(3,3)] ?_;intro i hi;have hrl:=aa8 y.l i;refine zg ?_;intro u0;refine dF ?_ ?_<;>intro hc0
 .refine se ?_;refine cE _ ?_;refine j7 ?_;refine bW _ ?_;refine dR ?_;refine bc (jv.D (⟨⟨y.l[i]!.r.name,lE⟩,dS y.l[i]!.r.v⟩:jv)) ?_;refine bm [jv.D (⟨⟨y.l[i]!.r.name,lE⟩,dS y.l[i]!.r.v⟩:jv)] ?_;refine bm [.own 41 4 0 1] ?_;refine yk ((eH (y.l.take i)).map ed++[.own 41 4 0 1]) (n:=((eH (y.l.take i))++[[(⟨⟨y.l[i]!.r.name,lE⟩,dS y.l[i]!.r.v⟩:jv)]]).length) (ha:=mb) (he:=n9.own rfl (by first|rfl|simp)) (hz:=yU) (hn:=Fu) (hb:=Fw) ?_;refine dR ?_;refine bG 41 ?_ (he:=Hv) (hm:=Hv);refine zg ?_;rw[p9,amc ae];exact iw (i+1) [(43,5),(3,3)]
 refine c7 ?_;obtain rfl:i=y.l.length:=ae;rw[List.take_length];refine bG 5 ?_ (he:=Hv) (hm:=Hv);refine zg ?_;refine eB trivial jJ (dp ai (?_)) ai ⟨dh,1,2,⟨ae,ae,ae⟩,tx⟩;rfl
def V1:aj:=bd 156
def w415 (hA:C381 Y)(hB:C627 Y):J6 (ct Y V1):=λw x hp0=>by
 refine zc ?_ ?_<;>intro hc0
 .refine zr ?_;unfold uZ;rw[ak ae]
 refine j7 ?_;obtain⟨j,hwj⟩:∃j:Nat,x.u=(j:Int):=⟨(x.u).toNat,ae⟩
 have hjl:j<w.us.length:=ae;have hju:=hp0.1 _ (aq hjl);have hj16:=hju.1;refine zg ?_;refine zf hm (λi=>[.u 3,.p 0 3,.u 2,.i i,.m 8 (w.us[j]!.ar) eI.D,.u 2,.i ((rh w.us[j]!.ar x.s i))]) (λi=>[(0,.buf 3 [Want.D x])]) 24 (λi=>i<=w.us[j]!.ar.length) (λi=>w.us[j]!.ar.length-i) ae [(1,0)] ?_;intro i hi;have hmr:=P1 w.us[j]!.ar x.s i;have hpb:=GM (k:=i+1) ae;have hpp:=qu (i+1);refine zg ?_;intro u0;refine dF ?_ ?_<;>intro hc1
 .refine se ?_;refine aE (hc:=hB (x.s) ((w.us[j]!.ar)[i]!.v) (by first|assumption|omega|exact⟨hp0.2,(hju.2 _ (aq ae)).1⟩)) ?_;refine zg ?_;refine wp_cond (λhc2=>?_) (λhc2=>?_)
  .have hst:rh w.us[j]!.ar x.s (i+1)=rh w.us[j]!.ar x.s i+2^(i+1):=by rw[rh,ak hc2]
   refine j7 ?_;refine mh (hb:=by simp only[show(((i:Nat):Int)+1).toNat=i+1 from rfl];omega) ?_;refine zg ?_;rw[show rh w.us[j]!.ar x.s i+2^(((i:Nat):Int)+1).toNat=rh w.us[j]!.ar x.s (i+1)from hst.symm];exact iw (i+1) [(0,0)]
  have hst:rh w.us[j]!.ar x.s (i+1)=rh w.us[j]!.ar x.s i:=by rw[rh,ah (by rw[hc2];exact Bool.false_ne_true)]
  refine zg ?_;rw[<-hst];exact iw (i+1) [(0,0)]
 refine zr ?_;unfold uZ;rw[ah ae,show i=w.us[j]!.ar.length by omega,hwj];rfl
def wg:aj:=⟨2,4,[⟨2,none⟩],H0,(sq (rg [gb 8 s0,gm HO] [(3,0),(2,1)]) (sq (r1 [gf 0 s3,gk 5 true l0,gf 1 s1,gk 5 true l2,gn (.eqA false true [.i .i64,.i .i64,.i .i64,.s,.s] l1 l3),gm l4] 2 5) .ret))⟩
def w690 (hm:(Y.at 0).bU):KJ (ct Y wg):=λc x hp0=>by
 exact lL
def wh:aj:=bd 89
def w691 (hm:(Y.at 0).bU)(hA:Uk Y):KK (ct Y wh):=λc x hp0=>by
 exact lL
def zX:aj:=bd 86
def w689 (hA:C690 Y)(hB:C691 Y):KI (ct Y zX):=λl b x hp0=>by
 refine zg ?_;intro u0;refine zf hm (λi=>[.m 8 l eI.D,.e (.fn (bif b then 690 else 691) [.ref 9 [dI.D x] 0 0]),.u 1,.i i,.i l.length,.u 3]) (λi=>[]) 4 (λi=>i<=l.length/\gp (Wx x.v b) l 0=gp (Wx x.v b) (l.drop i) i) (λi=>l.length-i) ⟨ae,rfl⟩ [] ?_;rintro i ⟨hi,hr⟩;refine zc ?_ ?_<;>intro hc0
 .refine pW ?_;cases b
  .refine j7 ?_;refine Cm (hc:=λ_=>hB l[i]! x ⟨hp0.1 _ (aq ae),hp0.2⟩) ?_;refine zc ?_ ?_<;>intro hc1
   .refine zr ?_;rw[hr,kX ae hc1]
   refine fX (i+1) [] ?_;rw[hr,jC ae hc1]
  .refine j7 ?_;refine Cm (hc:=λ_=>hA l[i]! x ⟨hp0.1 _ (aq ae),hp0.2⟩) ?_;refine zc ?_ ?_<;>intro hc1
   .refine zr ?_;rw[hr,kX ae hc1]
   refine fX (i+1) [] ?_;rw[hr,jC ae hc1]
 refine zr ?_;rw[hr,mB ae]
def D7:aj:=bd 114
def w225 (hA:C477 Y):JJ (ct Y D7):=λa b=>by
 refine zg ?_;refine aQ (λhc0=>?_) (λhc0=>?_)
 .simp only[dk,b8,bR]at hc0;refine zr ?_;symm;rw[bR];rintro rfl;simp at hc0
 simp only[eg,cF,aT]at hc0;refine zg ?_;have hb:=bn.same3 hc0.1.1 hc0.1.2 ae;refine zf hm (λi=>[.u 3,.p 0 3,.p 1 3,.u 1,.i i,.u 2]) (λi=>[(0,.buf 3 [bn.D a]),(1,.buf 3 [bn.D b])]) 25 (λi=>i<=a.any.length/\decide (a=b)=bK (λi=>decide (a.any[i]! =b.any[i]!)) i a.any.length) (λi=>a.any.length-i) ⟨ae,hb⟩ [(0,0),(1,1)] ?_;rintro i ⟨hi,hr⟩;refine zg ?_;intro u0;refine dF ?_ ?_<;>intro hc1
 .refine zg ?_;refine wp_cond (λhc2=>?_) (λhc2=>?_)
  .simp only[b8,bR]at hc2;refine zr ?_;rw[hr,ax ae,bA hc2];rfl
  simp only[cF,aT]at hc2;refine fX (i+1) [(0,0),(1,1)] ?_;rw[hr,ax ae,aY hc2];rfl
 refine zr ?_;rw[hr,bp ae]
def PO:aj:=bd 14
def w1221 (hA:WH Y):Fo (ct Y PO):=λa b ps l hp0=>by
 refine zg ?_;refine zf hm (λi=>[.m 2 a bz.D,.m 2 b bz.D,.m 2 ps gY.D,.u 2,.i i,.p 0 4,.u 7]) (λi=>[(0,.buf 4 [j8.D l])]) 3 (λi=>i<=l.lines.length/\Ez a b ps l.lines=bK (λi=>vN a b ps l.lines[i]!) i l.lines.length) (λi=>l.lines.length-i) ⟨ae,Wd⟩ [(0,0)] ?_;rintro i ⟨hi,hr⟩;refine zg ?_;intro u0;refine dF ?_ ?_<;>intro hc0
 .refine zc ?_ ?_<;>intro hc1
  .refine fX (i+1) [(0,0)] ?_;rw[hr,ax ae,afC hc1];rfl
  refine zc ?_ ?_<;>intro hc2
  .refine zr ?_;rw[hr,ax ae,afA hc1 hc2];rfl
  refine fX (i+1) [(0,0)] ?_;rw[hr,ax ae,afB hc2];rfl
 refine zr ?_;rw[hr,bp ae]
def VQ:aj:=bd 73
def w1121:Fl (ct Y VQ):=λs nm=>by
 refine zg ?_;refine zf hm (λi=>[.u 1,.e (.str nm),.u 1,.i i,.p 0 2,.u 2]) (λi=>[(0,.buf 2 [bz.D s])]) 3 (λi=>i<=s.es.length/\Dc nm s=(s.es.drop i).any λx=>decide (x.r.name=nm)) (λi=>s.es.length-i) ⟨ae,rfl⟩ [(0,0)] ?_;rintro i ⟨hi,hr⟩;refine zg ?_;intro u0;refine dF ?_ ?_<;>intro hc0
 .refine zc ?_ ?_<;>intro hc1
  .refine zr ?_;rw[hr,xg ae oY]
  refine fX (i+1) [(0,0)] ?_;rw[hr,CE ae oY]
 refine zr ?_;rw[hr,xf ae]
def V6:aj:=bd 209
def w375 (hm:(Y.at 0).bU)     :wkk Y V6 (cy.D S9) []:=by
 refine fA ?_;refine bW _ ?_;refine cE _ ?_;exact lL
end Go.Abs
end
