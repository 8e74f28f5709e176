/- A part of the proofs. -/
import Derived.Test.YtgdpmljblomcfaaGreatDoorP04
set_option linter.all false
set_option maxRecDepth 60000
set_option maxHeartbeats 2000000
noncomputable section
namespace Go.Abs
variable {Y:Ctx}(hm:(Y.at 0).bR)
def HT:aj:=bc 97
def w694 (hA:C693 Y)(hB:C829 Y)(hC:C830 Y)(hD:C831 Y):Jx (cu Y HT):=fun m al od c hp0=>by
 refine cH ?_;obtain⟨⟨hmp,hcp⟩,rfl,hop⟩:=hp0;have hml:=hmp.1;have hcl:=hcp.1;refine zc ?_ ?_<;>intro hc0
 .refine zr ?_;have h0:ed m od c=[]:=by unfold ed;rw[ak hc0]
  rw[h0];rfl
 refine cx ?_;obtain⟨hin1,hin2⟩:=RA hcp hml.1 hc0;obtain⟨hwo1,hwo2⟩:=Nc hmp hcp hc0;obtain⟨U,hU⟩:∃U:Nat,(ea m c).1=(U:Int):=⟨(ea m c).1.toNat,ae⟩
 refine jS ?_;refine bg (dU.D ⟨(ea m c).1,m.full[U]!⟩) ?_;refine ba [dU.D ⟨(ea m c).1,m.full[U]!⟩] ?_;refine zc ?_ ?_<;>intro hc1
 .refine cH ?_;obtain⟨hin3,hin4⟩:=hin2 mK;rw[hU,Int.toNat_natCast]at hin3 hin4;obtain⟨V,hV⟩:∃V:Nat,c[U]! =(V:Int):=⟨c[U]!.toNat,ae⟩
  obtain⟨N,hN⟩:∃N:Nat,(ea m c).2=(N:Int):=⟨(ea m c).2.toNat,ae⟩
  rw[hV,Int.toNat_natCast]at hin4;have hcU:=hcp.2 U ae;have hwq:bG m c=m.needs[U]![V]![N]! :=by unfold bG;rw[ak ae,hU,Int.toNat_natCast,hV,Int.toNat_natCast,hN,Int.toNat_natCast]
  refine ez ?_;refine c8 (v:=.sl 1 (m.needs[U]!.map oF)) (hi:=fun _=>ae) ?_;refine ko ?_;refine c8 (v:=.sl 1 (m.needs[U]![V]!.map Ic)) (hi:=fun _=>ae) ?_;refine cx ?_;refine c8 (v:=.sl 2 (m.needs[U]![V]![N]!.map dU.D)) (hi:=fun _=>ae) ?_;refine cx ?_;refine bh 20 ?_ (he:=AQ) (hm:=AQ);refine ez ?_;rw[<-hwq];refine zg ?_;refine zf hm (fun k=>[.u 1,.m 1 ([]:List Int) (D.int .i64),.m 1 od jK,.m 1 c (D.int .i64),.u 1,.p 1 3,.u 4,.i k,.m 2 (bG m c) dU.D,.u 6,.o 0 2 (dQ m od c (bG m c) k).length,.u 2]) (fun k=>[(0,.buf 2 ((dQ m od c (bG m c) k).map dU.D)),(1,.buf 3 [j7.D m])]) 41 (fun k=>k<=(bG m c).length) (fun k=>(bG m c).length-k) ae [(0,1)] ?_;intro k hk;have hok2:=(xJ (m:=m) (c:=c) (ord:=od) (fun u hu=>(hmp.2 u hu).1.2) hop hwo1 k hk).2;refine zg ?_;intro u0;refine dE ?_ ?_<;>intro hc2
  .refine dx ?_;have hwk:=hwo1 _ (aq (show k<(bG m c).length by omega));obtain⟨U2,hU2⟩:∃U2:Nat,(bG m c)[k]!.u=(U2:Int):=⟨(bG m c)[k]!.u.toNat,ae⟩
   refine pA ?_;rw[hU2];refine zg ?_;refine aQ (fun hc3=>?_) (fun hc3=>?_)
   .have hk1:dQ m od c (bG m c) k=dQ m od c (bG m c) (k+1):=by rw[dQ,FH,hU2,Int.toNat_natCast,ak yE]
    refine zg ?_;rw[hk1];exact iq (k+1) [(0,0),(1,1)]
   have hcU2:¬0<=c[U2]! :=by simpa only[cK,ge_iff_le]using hc3
   have hn16:=(hmp.2 U2 ae).1.2;have htr:(∀p∈(cI (cR od ((U2:Nat):Int)) m.needs[U2]!.length m.needs[U2]!.length),0<=p/\p<(m.needs[U2]!.length:Int))/\(cI (cR od ((U2:Nat):Int)) m.needs[U2]!.length m.needs[U2]!.length).length<=32:=Ie (m:=m) (ord:=od) (u:=((U2:Nat):Int)) (fun u hu=>(hmp.2 u hu).1.2) hop ⟨ae,ae⟩;have htl:=htr.2;have hk2:dQ m od c (bG m c) (k+1)=jZ (bG m c)[k]!.m ((U2:Nat):Int) (cI (cR od ((U2:Nat):Int)) m.needs[U2]!.length m.needs[U2]!.length) (cI (cR od ((U2:Nat):Int)) m.needs[U2]!.length m.needs[U2]!.length).length (dQ m od c (bG m c) k):=by rw[dQ,FH,ai (by rw[hU2,Int.toNat_natCast];exact hcU2),M1,hU2,Int.toNat_natCast]
   refine pA ?_;refine c8 (v:=.sl 1 (((m.needs)[U2]!).map oF)) (hi:=fun hf=>cr) ?_;refine zk1 ?_;intro u1;refine aB (hc:=hC od ((U2:Nat):Int) m.needs[U2]!.length ⟨⟨⟨ae,ae⟩,ae⟩,(hop U2 ae).1⟩) ?_;refine zg ?_;refine Z0 hm (fun j=>[.u 1,.m 1 ([]:List Int) (D.int .i64),.m 1 od jK,.m 1 c (D.int .i64),.u 1,.p 1 3,.u 4,.i k,.m 2 (bG m c) dU.D,.u 1,.i U2,.u 1,.i j,.m 1 (cI (cR od ((U2:Nat):Int)) m.needs[U2]!.length m.needs[U2]!.length) (D.int .i64),.u 1,.o 0 2 (jZ (bG m c)[k]!.m ((U2:Nat):Int) (cI (cR od ((U2:Nat):Int)) m.needs[U2]!.length m.needs[U2]!.length) j (dQ m od c (bG m c) k)).length,.u 2]) (fun j=>[(0,.buf 2 ((jZ (bG m c)[k]!.m ((U2:Nat):Int) (cI (cR od ((U2:Nat):Int)) m.needs[U2]!.length m.needs[U2]!.length) j (dQ m od c (bG m c) k)).map dU.D)),(1,.buf 3 [j7.D m])]) 67 (fun j=>j<=(cI (cR od ((U2:Nat):Int)) m.needs[U2]!.length m.needs[U2]!.length).length) (fun j=>(cI (cR od ((U2:Nat):Int)) m.needs[U2]!.length m.needs[U2]!.length).length-j) ae [(0,0),(1,1)] ?_;intro j hj;have hoi2:(jZ (bG m c)[k]!.m ((U2:Nat):Int) (cI (cR od ((U2:Nat):Int)) m.needs[U2]!.length m.needs[U2]!.length) j (dQ m od c (bG m c) k)).length<=(dQ m od c (bG m c) k).length+j:=C7 _ _ _ j _;refine zg ?_;intro u2;refine dE ?_ ?_<;>intro hc4
   .refine dx ?_;have hT:=htr.1 _ (aq (show j<(cI (cR od ((U2:Nat):Int)) m.needs[U2]!.length m.needs[U2]!.length).length by omega));refine ko ?_;refine bg (dU.D ⟨((U2:Nat):Int),(cI (cR od ((U2:Nat):Int)) m.needs[U2]!.length m.needs[U2]!.length)[j]!⟩) ?_;refine Bp ?_;refine pY ((cI (cR od ((U2:Nat):Int)) m.needs[U2]!.length m.needs[U2]!.length)[j]!) (hb:=fun _=>yA) ?_;refine FR (2^((cI (cR od ((U2:Nat):Int)) m.needs[U2]!.length m.needs[U2]!.length)[j]!.toNat+1)) (hn:=fun _=>ae) (hb:=fun _=>DU (n:=(cI (cR od ((U2:Nat):Int)) m.needs[U2]!.length m.needs[U2]!.length)[j]!.toNat) ae ae) ?_;refine Dj (GR (bG m c)[k]!.m (2^((cI (cR od ((U2:Nat):Int)) m.needs[U2]!.length m.needs[U2]!.length)[j]!.toNat+1))) (hb:=fun _=>rfl) ?_;refine Bp ?_;refine bQ (hc:=fun hf=>hD (jZ (bG m c)[k]!.m ((U2:Nat):Int) (cI (cR od ((U2:Nat):Int)) m.needs[U2]!.length m.needs[U2]!.length) j (dQ m od c (bG m c) k)) ⟨((U2:Nat):Int),(cI (cR od ((U2:Nat):Int)) m.needs[U2]!.length m.needs[U2]!.length)[j]!⟩) (ha:=fun _=>aw (fun d=>[d,dU.D ⟨((U2:Nat):Int),(cI (cR od ((U2:Nat):Int)) m.needs[U2]!.length m.needs[U2]!.length)[j]!⟩]) (ZV (q:=dU.D) (fun _=>rfl) ah)) (hp:=fun _=>⟨Sp (q:=dU.D) (fun _=>Kf) ah,Kf⟩) ?_;refine zg ?_;refine wp_cond (fun hc5=>?_) (fun hc5=>?_)
    .have hO1:jZ (bG m c)[k]!.m ((U2:Nat):Int) (cI (cR od ((U2:Nat):Int)) m.needs[U2]!.length m.needs[U2]!.length) (j+1) (dQ m od c (bG m c) k)=(jZ (bG m c)[k]!.m ((U2:Nat):Int) (cI (cR od ((U2:Nat):Int)) m.needs[U2]!.length m.needs[U2]!.length) j (dQ m od c (bG m c) k))++[⟨((U2:Nat):Int),(cI (cR od ((U2:Nat):Int)) m.needs[U2]!.length m.needs[U2]!.length)[j]!⟩]:=by rw[jZ,OK,ak oW]
     refine dx ?_;refine ba [dU.D ⟨((U2:Nat):Int),(cI (cR od ((U2:Nat):Int)) m.needs[U2]!.length m.needs[U2]!.length)[j]!⟩] ?_;refine cJ (q:=dU.D) (xs:=(jZ (bG m c)[k]!.m ((U2:Nat):Int) (cI (cR od ((U2:Nat):Int)) m.needs[U2]!.length m.needs[U2]!.length) j (dQ m od c (bG m c) k))) (e:=⟨((U2:Nat):Int),(cI (cR od ((U2:Nat):Int)) m.needs[U2]!.length m.needs[U2]!.length)[j]!⟩) (hb:=ae) ?_;refine zg ?_;rw[<-hO1];exact iq (j+1) [(110,0),(1,1)]
    have hO1:jZ (bG m c)[k]!.m ((U2:Nat):Int) (cI (cR od ((U2:Nat):Int)) m.needs[U2]!.length m.needs[U2]!.length) (j+1) (dQ m od c (bG m c) k)=(jZ (bG m c)[k]!.m ((U2:Nat):Int) (cI (cR od ((U2:Nat):Int)) m.needs[U2]!.length m.needs[U2]!.length) j (dQ m od c (bG m c) k)):=by rw[jZ,OK,ai oW]
    refine zg ?_;rw[<-hO1];exact iq (j+1) [(0,0),(1,1)]
   refine zg ?_;rw[show j=(cI (cR od ((U2:Nat):Int)) m.needs[U2]!.length m.needs[U2]!.length).length by omega,<-hk2];exact iq (k+1) [(0,0),(1,1)]
  refine cx ?_;obtain rfl:k=(bG m c).length:=ae;have hov:ed m od c=dQ m od c (bG m c) (bG m c).length:=by unfold ed;rw[ai hc0]
  refine bh 0 ?_ (he:=AQ) (hm:=AQ);refine zr ?_;rw[hov];rfl
 refine cH ?_;refine bh 20 ?_ (he:=AQ) (hm:=AQ);refine ez ?_;have hwq:bG m c=[⟨(ea m c).1,m.full[U]!⟩]:=by unfold bG;rw[ai ae,hU,Int.toNat_natCast]
 rw[show [dU.D ⟨(ea m c).1,m.full[U]!⟩]=(bG m c).map dU.D by rw[hwq];rfl];refine zg ?_;refine zf hm (fun k=>[.u 1,.m 1 ([]:List Int) (D.int .i64),.m 1 od jK,.m 1 c (D.int .i64),.u 1,.p 1 3,.u 4,.i k,.m 2 (bG m c) dU.D,.u 6,.o 0 2 (dQ m od c (bG m c) k).length,.u 2]) (fun k=>[(0,.buf 2 ((dQ m od c (bG m c) k).map dU.D)),(1,.buf 3 [j7.D m])]) 26 (fun k=>k<=(bG m c).length) (fun k=>(bG m c).length-k) ae [(0,1)] ?_;intro k hk;have hok2:=(xJ (m:=m) (c:=c) (ord:=od) (fun u hu=>(hmp.2 u hu).1.2) hop hwo1 k hk).2;refine zg ?_;intro u0;refine dE ?_ ?_<;>intro hc2
 .refine dx ?_;have hwk:=hwo1 _ (aq (show k<(bG m c).length by omega));obtain⟨U2,hU2⟩:∃U2:Nat,(bG m c)[k]!.u=(U2:Int):=⟨(bG m c)[k]!.u.toNat,ae⟩
  refine pA ?_;rw[hU2];refine zg ?_;refine aQ (fun hc3=>?_) (fun hc3=>?_)
  .have hk1:dQ m od c (bG m c) k=dQ m od c (bG m c) (k+1):=by rw[dQ,FH,hU2,Int.toNat_natCast,ak yE]
   refine zg ?_;rw[hk1];exact iq (k+1) [(0,0),(1,1)]
  have hcU2:¬0<=c[U2]! :=by simpa only[cK,ge_iff_le]using hc3
  have hn16:=(hmp.2 U2 ae).1.2;have htr:(∀p∈(cI (cR od ((U2:Nat):Int)) m.needs[U2]!.length m.needs[U2]!.length),0<=p/\p<(m.needs[U2]!.length:Int))/\(cI (cR od ((U2:Nat):Int)) m.needs[U2]!.length m.needs[U2]!.length).length<=32:=Ie (m:=m) (ord:=od) (u:=((U2:Nat):Int)) (fun u hu=>(hmp.2 u hu).1.2) hop ⟨ae,ae⟩;have htl:=htr.2;have hk2:dQ m od c (bG m c) (k+1)=jZ (bG m c)[k]!.m ((U2:Nat):Int) (cI (cR od ((U2:Nat):Int)) m.needs[U2]!.length m.needs[U2]!.length) (cI (cR od ((U2:Nat):Int)) m.needs[U2]!.length m.needs[U2]!.length).length (dQ m od c (bG m c) k):=by rw[dQ,FH,ai (by rw[hU2,Int.toNat_natCast];exact hcU2),M1,hU2,Int.toNat_natCast]
  refine pA ?_;refine c8 (v:=.sl 1 (((m.needs)[U2]!).map oF)) (hi:=fun hf=>cr) ?_;refine zk1 ?_;intro u1;refine aB (hc:=hC od ((U2:Nat):Int) m.needs[U2]!.length ⟨⟨⟨ae,ae⟩,ae⟩,(hop U2 ae).1⟩) ?_;refine zg ?_;refine Z0 hm (fun j=>[.u 1,.m 1 ([]:List Int) (D.int .i64),.m 1 od jK,.m 1 c (D.int .i64),.u 1,.p 1 3,.u 4,.i k,.m 2 (bG m c) dU.D,.u 1,.i U2,.u 1,.i j,.m 1 (cI (cR od ((U2:Nat):Int)) m.needs[U2]!.length m.needs[U2]!.length) (D.int .i64),.u 1,.o 0 2 (jZ (bG m c)[k]!.m ((U2:Nat):Int) (cI (cR od ((U2:Nat):Int)) m.needs[U2]!.length m.needs[U2]!.length) j (dQ m od c (bG m c) k)).length,.u 2]) (fun j=>[(0,.buf 2 ((jZ (bG m c)[k]!.m ((U2:Nat):Int) (cI (cR od ((U2:Nat):Int)) m.needs[U2]!.length m.needs[U2]!.length) j (dQ m od c (bG m c) k)).map dU.D)),(1,.buf 3 [j7.D m])]) 52 (fun j=>j<=(cI (cR od ((U2:Nat):Int)) m.needs[U2]!.length m.needs[U2]!.length).length) (fun j=>(cI (cR od ((U2:Nat):Int)) m.needs[U2]!.length m.needs[U2]!.length).length-j) ae [(0,0),(1,1)] ?_;intro j hj;have hoi2:(jZ (bG m c)[k]!.m ((U2:Nat):Int) (cI (cR od ((U2:Nat):Int)) m.needs[U2]!.length m.needs[U2]!.length) j (dQ m od c (bG m c) k)).length<=(dQ m od c (bG m c) k).length+j:=C7 _ _ _ j _;refine zg ?_;intro u2;refine dE ?_ ?_<;>intro hc4
  .refine dx ?_;have hT:=htr.1 _ (aq (show j<(cI (cR od ((U2:Nat):Int)) m.needs[U2]!.length m.needs[U2]!.length).length by omega));refine ko ?_;refine bg (dU.D ⟨((U2:Nat):Int),(cI (cR od ((U2:Nat):Int)) m.needs[U2]!.length m.needs[U2]!.length)[j]!⟩) ?_;refine jS ?_;refine cz (k) (hj:=fun hf=>cr) (hb:=fun hf=>cr) ?_;refine Am ?_;refine c8 (v:=.int .i64 (((bG m c))[k]!.m)) (hi:=fun hf=>cr) ?_;refine bF ?_;refine bF ?_;refine cz (j) (hj:=fun hf=>cr) (hb:=fun hf=>cr) ?_;refine c8 (v:=.int .i64 (((cI (cR od ((U2:Nat):Int)) m.needs[U2]!.length m.needs[U2]!.length))[j]!)) (hi:=fun hf=>cr) ?_;refine pY ((cI (cR od ((U2:Nat):Int)) m.needs[U2]!.length m.needs[U2]!.length)[j]!) (hb:=fun _=>yA) ?_;refine FR (2^((cI (cR od ((U2:Nat):Int)) m.needs[U2]!.length m.needs[U2]!.length)[j]!.toNat+1)) (hn:=fun _=>ae) (hb:=fun _=>DU (n:=(cI (cR od ((U2:Nat):Int)) m.needs[U2]!.length m.needs[U2]!.length)[j]!.toNat) ae ae) ?_;refine Dj (GR (bG m c)[k]!.m (2^((cI (cR od ((U2:Nat):Int)) m.needs[U2]!.length m.needs[U2]!.length)[j]!.toNat+1))) (hb:=fun _=>rfl) ?_;refine pg ?_;refine bF ?_;refine bF ?_;refine bF ?_;refine bF ?_;refine bF ?_;refine cz (j) (hj:=fun hf=>cr) (hb:=fun hf=>cr) ?_;refine c8 (v:=.int .i64 (((cI (cR od ((U2:Nat):Int)) m.needs[U2]!.length m.needs[U2]!.length))[j]!)) (hi:=fun hf=>cr) ?_;refine bQ (hc:=fun hf=>hB [] ((U2:Nat):Int) (cI (cR od ((U2:Nat):Int)) m.needs[U2]!.length m.needs[U2]!.length)[j]! rfl) ?_;refine uU ?_;refine bF ?_;refine bF ?_;refine mc (d:=dU.D ((⟨((U2:Nat):Int),(cI (cR od ((U2:Nat):Int)) m.needs[U2]!.length m.needs[U2]!.length)[j]!⟩:dU))) ?_;refine bQ (hc:=fun hf=>hD (jZ (bG m c)[k]!.m ((U2:Nat):Int) (cI (cR od ((U2:Nat):Int)) m.needs[U2]!.length m.needs[U2]!.length) j (dQ m od c (bG m c) k)) ⟨((U2:Nat):Int),(cI (cR od ((U2:Nat):Int)) m.needs[U2]!.length m.needs[U2]!.length)[j]!⟩) (ha:=fun _=>aw (fun d=>[d,dU.D ⟨((U2:Nat):Int),(cI (cR od ((U2:Nat):Int)) m.needs[U2]!.length m.needs[U2]!.length)[j]!⟩]) (ZV (q:=dU.D) (fun _=>rfl) ah)) (hp:=fun _=>⟨Sp (q:=dU.D) (fun _=>Kf) ah,Kf⟩) ?_;refine RM ?_;refine uU ?_;refine bp (env':=[_,_,_,_,_,_,_,_,_,_,_,_,_,_,_,_,_,_,_,_,⟨_,(.bool _)⟩]) ?_;refine wp_cond (fun hc5=>?_) (fun hc5=>?_)
   .have hO1:jZ (bG m c)[k]!.m ((U2:Nat):Int) (cI (cR od ((U2:Nat):Int)) m.needs[U2]!.length m.needs[U2]!.length) (j+1) (dQ m od c (bG m c) k)=(jZ (bG m c)[k]!.m ((U2:Nat):Int) (cI (cR od ((U2:Nat):Int)) m.needs[U2]!.length m.needs[U2]!.length) j (dQ m od c (bG m c) k))++[⟨((U2:Nat):Int),(cI (cR od ((U2:Nat):Int)) m.needs[U2]!.length m.needs[U2]!.length)[j]!⟩]:=by rw[jZ,OK,ak oW]
    refine po ?_;refine bF ?_;refine mc (d:=dU.D ((⟨((U2:Nat):Int),(cI (cR od ((U2:Nat):Int)) m.needs[U2]!.length m.needs[U2]!.length)[j]!⟩:dU))) ?_;refine ba [dU.D ⟨((U2:Nat):Int),(cI (cR od ((U2:Nat):Int)) m.needs[U2]!.length m.needs[U2]!.length)[j]!⟩] ?_;refine cJ (q:=dU.D) (xs:=(jZ (bG m c)[k]!.m ((U2:Nat):Int) (cI (cR od ((U2:Nat):Int)) m.needs[U2]!.length m.needs[U2]!.length) j (dQ m od c (bG m c) k))) (e:=⟨((U2:Nat):Int),(cI (cR od ((U2:Nat):Int)) m.needs[U2]!.length m.needs[U2]!.length)[j]!⟩) (hb:=ae) ?_;refine bF ?_;refine nw (env':=[_,_,_,_,_,_,_,_,_,_,_,_,_,_,_,_,_,_,⟨_,(.own _ _ _ _)⟩,_,_]) ?_;refine BQ.normal ?_;refine po ?_;refine bF ?_;refine lO (hb:=fun hf=>cr) ?_;refine bF ?_;refine nw (env':=[_,_,_,_,_,_,_,_,_,_,_,_,_,_,_,⟨_,(.int _ _)⟩,_,_,_,_,_]) ?_;refine Bs.normal ?_;rw[<-hO1];exact iq (j+1) [(95,0),(1,1)]
   have hO1:jZ (bG m c)[k]!.m ((U2:Nat):Int) (cI (cR od ((U2:Nat):Int)) m.needs[U2]!.length m.needs[U2]!.length) (j+1) (dQ m od c (bG m c) k)=(jZ (bG m c)[k]!.m ((U2:Nat):Int) (cI (cR od ((U2:Nat):Int)) m.needs[U2]!.length m.needs[U2]!.length) j (dQ m od c (bG m c) k)):=by rw[jZ,OK,ai oW]
   refine wp_skip ?_;refine BQ.normal ?_;refine po ?_;refine bF ?_;refine lO (hb:=fun hf=>cr) ?_;refine bF ?_;refine nw (env':=[_,_,_,_,_,_,_,_,_,_,_,_,_,_,_,⟨_,(.int _ _)⟩,_,_,_,_,_]) ?_;refine Bs.normal ?_;rw[<-hO1];exact iq (j+1) [(0,0),(1,1)]
  refine ov ?_;refine Bs.out ?_;refine BQ.normal ?_;refine po ?_;refine bF ?_;refine lO (hb:=fun hf=>cr) ?_;refine bF ?_;refine nw (env':=[_,_,_,_,_,_,_,_,_,_,⟨_,(.int _ _)⟩,_,_,_,_,_,_,_,_,_,_]) ?_;refine LQ.normal ?_;rw[show j=(cI (cR od ((U2:Nat):Int)) m.needs[U2]!.length m.needs[U2]!.length).length by omega,<-hk2];exact iq (k+1) [(0,0),(1,1)]
 refine ov ?_;refine LQ.out ?_;obtain rfl:k=(bG m c).length:=ae;have hov:ed m od c=dQ m od c (bG m c) (bG m c).length:=by unfold ed;rw[ai hc0]
 refine bh 0 ?_ (he:=AQ) (hm:=AQ);refine aO ?_;refine bF ?_;refine bF ?_;refine bp (env':=[_,_,_,_,⟨_,(.sl _ _)⟩,_,_,_,_,_,_,_,_,_,_,_,_,_,_,_,_]) ?_;refine wp_ret ?_;refine zr ?_;rw[hov];rfl
def L8:aj:=bc 83
def w218 (hA:C457 Y)(hB:C458 Y)(hC:C459 Y)(hD:C460 Y):IC (cu Y L8):=fun r hp0=>by
 refine zg ?_;refine zf hm (fun i=>[.u 3,.i i,.p 0 9,.u 12]) (fun i=>[(0,.buf 9 [Rec.D r])]) 4 (fun i=>i<=r.needs.length/\lA r=gO (fun i=>jz r r.needs[i]!) i r.needs.length) (fun i=>r.needs.length-i) ⟨ae,rfl⟩ [(0,0)] ?_;rintro i ⟨hi,hr⟩;refine zg ?_;intro u0;refine dE ?_ ?_<;>intro hc0
 .refine wA ?_;refine aB (hc:=hA r r.needs[i]! (hp0.2.1 _ (aq ae))) ?_;refine zc ?_ ?_<;>intro hc1
  .refine zg ?_;refine fw (bX (aw (D.int .i64) ?_) (aw (D.int .i64) ?_));all_goals
    have hq:ef r=(jz r r.needs[i]!,((i:Nat):Int)):=by
     exact LO (by rw[hr,gP ae hc1]) hc1
    rw[hq];first|done|rfl
  refine gh (i+1) [(0,0)] ?_;rw[hr,j9 ae hc1]
 refine ez ?_;have hn0:lA r=(0,0):=by rw[hr,j8 ae]
 refine zg ?_;refine zf hm (fun i=>[.u 4,.p 0 9,.u 3,.i i,.u 8]) (fun i=>[(0,.buf 9 [Rec.D r])]) 10 (fun i=>i<=r.bars.length/\uN r=gO (fun i=>rR r r.bars[i]!) i r.bars.length) (fun i=>r.bars.length-i) ⟨ae,rfl⟩ [(0,0)] ?_;rintro i ⟨hi,hr⟩;refine zg ?_;intro u1;refine dE ?_ ?_<;>intro hc2
 .refine wA ?_;refine aB (hc:=hB r r.bars[i]! (hp0.2.2.1 _ (aq ae))) ?_;refine zc ?_ ?_<;>intro hc3
  .refine zg ?_;refine fw (bX (aw (D.int .i64) ?_) (aw (D.int .i64) ?_));all_goals
    have hq:ef r=(rR r r.bars[i]!,((i:Nat):Int)):=by
     exact Da hn0 (by rw[hr,gP ae hc3]) hc3
    rw[hq];first|done|rfl
  refine gh (i+1) [(0,0)] ?_;rw[hr,j9 ae hc3]
 refine ez ?_;have hb0:uN r=(0,0):=by rw[hr,j8 ae]
 refine cx ?_;refine aB (hc:=hC r.feats hp0.2.2.2) ?_;refine zg ?_;refine aQ (fun hc4=>?_) (fun hc4=>?_)
 .try simp only[gF]at hc4
  refine zg ?_;refine fw (bX (aw (D.int .i64) ?_) (aw (D.int .i64) ?_));all_goals
   have hq:ef r=(11,0):=by
    exact LP hn0 hb0 hc4
   rw[hq];first|done|rfl
 simp only[dH]at hc4;refine zg ?_;refine zf hm (fun i=>[.u 4,.p 0 9,.u 8,.i i,.u 3]) (fun i=>[(0,.buf 9 [Rec.D r])]) 20 (fun i=>i<=r.feats.length/\GX r=gO (fun i=>mC r r.feats[i]!.of) i r.feats.length) (fun i=>r.feats.length-i) ⟨ae,rfl⟩ [(0,0)] ?_;rintro i ⟨hi,hr⟩;refine zg ?_;intro u2;refine dE ?_ ?_<;>intro hc5
 .refine uK ?_;refine aB (hc:=hD r r.feats[i]!.of (jm.it hp0.2.2.2 _ (aq ae))) ?_;refine zc ?_ ?_<;>intro hc6
  .refine zg ?_;refine fw (bX (aw (D.int .i64) ?_) (aw (D.int .i64) ?_));all_goals
    have hq:ef r=(mC r r.feats[i]!.of,((i:Nat):Int)):=by
     exact xR hn0 hb0 hc4 (by rw[hr,gP (f:=(fun i=>mC r r.feats[i]!.of)) ae hc6])
    rw[hq];first|done|rfl
  refine gh (i+1) [(0,0)] ?_;rw[hr,j9 (f:=(fun i=>mC r r.feats[i]!.of)) ae hc6]
 refine zg ?_;refine fw (bX (aw (D.int .i64) ?_) (aw (D.int .i64) ?_));all_goals
  have hq:ef r=(0,0):=by
   exact xR hn0 hb0 hc4 (by rw[hr,j8 ae])
  rw[hq];first|done|rfl
def L5:aj:=bc 41
def w71 (hA:EA Y)(hB:AS Y)(hC:C218 Y)(hD:C219 Y):zD (cu Y L5):=fun r hp0=>by
 refine zg ?_;refine wp_cond (fun hc0=>?_) (fun hc0=>?_)
 .try simp only[gF]at hc0
  refine zg ?_;refine fw (bX (aw (D.int .i64) ?_) (aw (D.int .i64) ?_));all_goals (have hq:c7 r=(4,0):=(by rw[c7,ak hc0]);rw[hq];first|done|rfl)
 simp only[dH]at hc0;refine dx ?_;refine aB (hc:=hB r.v hp0.1.2) ?_;refine zg ?_;refine wp_cond (fun hc1=>?_) (fun hc1=>?_)
 .try simp only[gF]at hc1
  refine zg ?_;refine fw (bX (aw (D.int .i64) ?_) (aw (D.int .i64) ?_));all_goals (have hq:c7 r=(5,0):=(by rw[c7,ai jF,ak hc1]);rw[hq];first|done|rfl)
 simp only[dH]at hc1;refine zg ?_;intro u0;refine Bw ?_ ?_<;>intro hc2
 .refine zg ?_;refine fw (bX (aw (D.int .i64) ?_) (aw (D.int .i64) ?_));all_goals (have hq:c7 r=(3,0):=(by rw[c7,ai jF,ai (by simp[hc1]),ak ae]);rw[hq];first|done|rfl)
 refine zg ?_;refine aQ (fun hc3=>?_) (fun hc3=>?_)
 .try simp only[gF]at hc3
  refine zg ?_;refine fw (bX (aw (D.int .i64) ?_) (aw (D.int .i64) ?_));all_goals
   have hq:c7 r=ef r:=by
    exact pG hc0 hc1 ae ae rfl hc3
   rw[hq];first|done|rfl
 simp only[dH,bn]at hc3;have hpz:ef r=(0,0):=LR hc3;have hgd:Fv r:=⟨⟨hc0,hc1⟩,⟨ae,ae⟩,hpz⟩;refine fQ ?_;refine fC ?_;refine aO ?_;refine mc ?_;refine aB (hc:=hD r ⟨hgd,hp0⟩) ?_;refine Dm fun u1=>?_;specialize u1 rfl rfl
 refine kQ ?_;refine bp (env':=[_,_,_,_,_,_,_,_,_,_,⟨_,(.bool _)⟩]) ?_;refine dE ?_ ?_<;>intro hc4
 .refine zg ?_;refine fw (bX (aw (D.int .i64) ?_) (aw (D.int .i64) ?_));all_goals
   have hq:c7 r=(3,0):=by
    rw[wT hc0 hc1 ae ae hpz,ak ae]
   rw[hq];first|done|rfl
 refine zg ?_;refine fw (bX (aw (D.int .i64) ?_) (aw (D.int .i64) ?_));all_goals
  have hq:c7 r=(0,0):=by
   rw[wT hc0 hc1 ae ae hpz,ai ae]
  rw[hq];first|done|rfl
def qP:aj:=⟨2,12,[⟨2,none⟩],[[.sl 1 [.sl 4 [.a,.a,.sl 14 [.a,.a,.a,.a,.a,.a,.a,.a,.a,.a,.a,.a,.a,.a],.sl 14 [.a,.a,.a,.a,.a,.a,.a,.a,.a,.a,.a,.a,.a,.a]]]]],(sq (rg [gb 8 s0,gb 2 s1,gm (.c (.aJ))] [(5,0),(3,1),(2,2)]) (sq (sq (r1 [gk 2 true s3,gn (.build [.str [],.str []] []),gn (.eqA false true [.s,.s] l0 l1)] 4 2) (.cond s4 (sq (r1 [gk 8 true s5,gn (.callM 751 [l0]),gm l1] 2 2) .ret) .skip)) (sq (r1 [gm (.c (.aJ))] 10 0) (sq (sq (rg [gk 8 true s5,gk 2 true s3,gn (.callM 752 [l0,l1]),gl l2,gm rM] [(9,2),(7,3),(6,4)]) (.block 0 (.loop (sq (r1 [lz s6 s7] 8 0) (sq (US s8 0) (sq (.block 1 (sq (r1 [ga 10 s9 s6,gk 10 true l0,gb 10 (.c (.agg [.str [],.int .i64 0,.int .i64 0,.int .i64 0,.str [],.str [],.aJ,.aJ,.aJ,.int .i64 0])),gt 10 l2 l1] 11 2) (r1 [gm H5,gf 0 s11,gk 9 true l1,gf 2 s5,gk 3 true l3,gf 1 s3,gd l5,gx 753 [l2,l4,l6] [zzh1,[.a,.a,.a],[.a]],gn (.app 1 l0 l7),gm l8] 10 9))) (r1 [mE s6 Kq,gm l0] 6 1))))))) (sq (r1 [gm H5,gm l0] 2 1) .ret)))))⟩
def w748 {Y:Ctx}(hm:(Y.at 3).bR)(y:cD)(ns:List av)(k:Key)(hA:C751 (Y.at 3))(hB:C752 (Y.at 3))(hC:C753 (Y.at 3))(hp0:qp y/\kX y.e)(hp1:ns.length<=998):dp (Y.at 3) qP.body (rI qP (Ku y (jo ns k) (.sl 1 ((df y k).map dR))):Ex->List aX->St->Prop) (fq qP [cD.D y (.ptr 0 2 0 0),Key.D k]) ⟨3,[(0,.buf 2 [eF 1 2 ns.length]),(1,.buf 1 (ns.map D.str)),(2,.buf 1 (dk y ns))]⟩:=by
 show dp _ _ _ [⟨true,cD.D y (.ptr 0 2 0 0)⟩,⟨true,Key.D k⟩,.un,.un,.un,.un,.un,.un,.un,.un,.un,.un] ⟨3,[(0,.buf 2 [eF 1 2 ns.length]),(1,.buf 1 (ns.map D.str)),(2,.buf 1 (dk y ns))]⟩;refine aO ?_;refine qo ?_;refine bg (Key.D fZ) ?_;refine zc ?_ ?_<;>intro hc0
 .refine dx ?_;refine dC (nx':=11) (v:=.sl 1 ((eC y.l).map dR)) (m':=[(10,.buf 1 ((ns).map D.str)),(11,.buf 1 (dk y (ns))),(0,.buf 2 [eF 10 11 (ns).length]),(3,.buf 8 [cD.D y (.ptr 0 2 0 0)]),(4,.buf 2 [Key.D k])]) (hc:=fun K' hK=>hA y ns hp0.1.m (Sr hp0.1.p) _ 0 1 2 _ K' ep ep ep aT ⟨rfl,rfl,rfl⟩ hK) (hn:=aT) ?_;refine zg ?_;refine dD trivial iF (cU ah (?_)) ah ⟨by first|(rw[R4 hc0];done)|(rw[R4 hc0];exact rfl),10,11,⟨ae,ae,ae⟩,by rw[Xd hc0];refine⟨?_, ?_, ?_⟩<;>first|exact rfl|(rw[nj];exact rfl)|(rw[nd];exact rfl)⟩;rfl
 refine pA ?_;refine dC (nx':=12) (v:=uG (eH y k)) (m':=[(12,.buf 1 ((eL ns k.n).map D.str)),(13,.buf 1 (dk y (eL ns k.n))),(0,.buf 2 [eF 12 13 (eL ns k.n).length]),(3,.buf 8 [cD.D y (.ptr 0 2 0 0)]),(4,.buf 2 [Key.D k])]) (hc:=fun K' hK=>hB y ns k hp0.1.p ae _ 0 1 2 _ K' ep ep ep aT ⟨rfl,rfl,rfl⟩ hK) (hn:=aT) ?_;refine cx ?_;intro u0;refine bp (env':=[_,_,_,_,_,_,⟨_,(.int _ _)⟩,⟨_,(.int _ _)⟩,_,⟨_,(.sl _ _)⟩,_,_]) ?_;refine zf hm (fun i=>[.u 3,.p 4 2,.u 1,.p 3 8,.i i,.i ((eH y k).length:Nat),.u 1,.m 10 (eH y k) uA.D,.o 7 1 (((eH y k).take i).flatMap fun x=>dc x.r y.e k.f).length,.u 1]) (fun i=>[(0,.buf 2 [eF 5 6 (eL ns k.n).length]),(5,.buf 1 ((eL ns k.n).map D.str)),(6,.buf 1 (dk y (eL ns k.n))),(3,.buf 8 [cD.D y (.ptr 0 2 0 0)]),(4,.buf 2 [Key.D k]),(7,.buf 1 ((((eH y k).take i).flatMap fun x=>dc x.r y.e k.f).map dR))]) 20 (fun i=>i<=(eH y k).length) (fun i=>(eH y k).length-i) ae [(12,5),(13,6),(3,3),(4,4)] ?_;intro i hi;have hof:=(xI hp0.1.p k).1;have hrl:=ir (f:=fun x:uA=>dc x.r y.e k.f) (B:=385) (l:=(eH y k).take i) fun x hx=>(lB ((xI hp0.1.p k).2 x (D3 hx)).1).1
 rw[eg]at hrl;refine zc ?_ ?_<;>intro hc1
 .refine jS ?_;refine bS _ ?_;refine cx ?_;obtain⟨hxp,hxv⟩:=aeY hp0.1 (k:=k) (i:=i) ae;have hql:=(lB (e:=y.e) (ft:=k.f) hxp).1;refine pA ?_;refine pf (q:=dR) (xs:=(((eH y k).take i).flatMap fun x=>dc x.r y.e k.f)) (ys:=dc (eH y k)[i]!.r y.e k.f) (he:=lT.sl) (hb:=ae) ?_;refine zg ?_;rw[<-nP (f:=fun x:uA=>dc x.r y.e k.f) (l:=eH y k) (i:=i) ae];exact iq (i+1) [(3,3),(4,4),(5,5),(6,6),(33,7)]
 refine cx ?_;obtain rfl:i=(eH y k).length:=ae;rw[List.take_length];refine bh 7 ?_;refine zg ?_;refine dD trivial iF (cU ah (?_)) ah ⟨by first|(rw[R3 hc0];done)|(rw[R3 hc0];exact rfl),5,6,⟨ae,ae,ae⟩,by rw[Oe hc0];refine⟨?_, ?_, ?_⟩<;>first|exact rfl|(rw[nj];exact rfl)|(rw[nd];exact rfl)⟩;rfl
def xp:aj:=bc 3
def w16 {Y:Ctx}(hm:(Y.at 0).bR)(hA:C28 Y)(hB:C29 Y)(hC:C89 Y)(hD:C90 Y)(hE:C91 Y)(hF:C92 Y)(hG:C93 Y)(hH:C94 Y):P0 (cu Y xp):=fun ys ss os n at1 wh by1 ts=>by
 refine cH ?_;refine bF ?_;refine bp (env':=[_,_,_,_,_,_,_,_,⟨_,(.bool _)⟩,_,_,_,_,_,_,_,_,_,_,_,_,_,_]) ?_;refine fC ?_;refine aO ?_;refine bF ?_;refine Dl fun u0=>?_;specialize u0 rfl rfl
 refine kQ ?_;refine bF ?_;refine bF ?_;refine zzn ?_;refine kQ ?_;refine Dn ?_;refine bF ?_;refine bF ?_;refine zzn ?_;refine kQ ?_;refine Dn ?_;refine bF ?_;refine bF ?_;refine zzn ?_;refine kQ ?_;refine Dn ?_;refine bp (env':=[_,_,_,_,_,_,_,_,_,⟨_,(.bool _)⟩,_,_,_,_,_,_,_,_,_,_,_,_,_]) ?_;refine dE ?_ ?_<;>intro hc0
 .exact mr
 refine fG ?_;have hyG:=ad3 ys ss 10 n;refine ez ?_;refine aB (hc:=hE (fD ys) (en ss 10) (ff n) os ⟨hyG.p,ah7 n⟩) ?_;refine zc ?_ ?_<;>intro hc1
 .exact mr
 refine cx ?_;obtain⟨⟨hw,hwl,hwn⟩,hc00⟩:=UB hyG (os:=os) mK;have hss:=DV ss 10;have hlk:=of_w (c:=(cZ (fD ys) (en ss 10) (ff n) os).2.1) (adM ss 10) hw hwl hwn (QS n);have hb1:=VJ hlk at1 wh by1;have si:=VJ hb1 (IntKind.i64.wrap (at1.tdiv 8)) (IntKind.i64.wrap (wh.tdiv 8)) (IntKind.i64.wrap (by1.tdiv 8));have hl0:=hlk.sm aT;have hl1:=hb1.sm aT;have hl2:=si.sm aT;refine ez ?_;refine aB (hc:=hF (en ss 10) (ff n) (cZ (fD ys) (en ss 10) (ff n) os).1 (cZ (fD ys) (en ss 10) (ff n) os).2.1 ⟨hss,hw,hc00⟩) ?_;refine zc ?_ ?_<;>intro hc2
 .exact mr
 refine Bp ?_;refine RN (IntKind.i64.wrap (at1.tdiv 8)) (hn:=fun _=>aT) (hb:=fun _=>rfl) ?_;refine cH ?_;refine RN (IntKind.i64.wrap (wh.tdiv 8)) (hn:=fun _=>aT) (hb:=fun _=>rfl) ?_;refine cH ?_;refine RN (IntKind.i64.wrap (by1.tdiv 8)) (hn:=fun _=>aT) (hb:=fun _=>rfl) ?_;refine fG ?_;refine aB (hc:=hH (en ss 10) (ff n) (cZ (fD ys) (en ss 10) (ff n) os).1 (Hp (en ss 10) (ff n) (cZ (fD ys) (en ss 10) (ff n) os).1 (cZ (fD ys) (en ss 10) (ff n) os).2.1).1 ⟨hss,hw,hl0⟩) ?_;refine ko ?_;refine bQ (hc:=fun _=>hH (en ss 10) (ff n) (cZ (fD ys) (en ss 10) (ff n) os).1 (iR (Hp (en ss 10) (ff n) (cZ (fD ys) (en ss 10) (ff n) os).1 (cZ (fD ys) (en ss 10) (ff n) os).2.1).1 at1 wh by1) ⟨hss,hw,hl1⟩) ?_;refine jS ?_;refine bQ (hc:=fun _=>hH (en ss 10) (ff n) (cZ (fD ys) (en ss 10) (ff n) os).1 (iR (iR (Hp (en ss 10) (ff n) (cZ (fD ys) (en ss 10) (ff n) os).1 (cZ (fD ys) (en ss 10) (ff n) os).2.1).1 at1 wh by1) (IntKind.i64.wrap (at1.tdiv 8)) (IntKind.i64.wrap (wh.tdiv 8)) (IntKind.i64.wrap (by1.tdiv 8))) ⟨hss,hw,hl2⟩) ?_;refine jS ?_;refine bQ (hc:=fun _=>hH (en ts 6) (ff n) (cZ (fD ys) (en ss 10) (ff n) os).1 (Hp (en ss 10) (ff n) (cZ (fD ys) (en ss 10) (ff n) os).1 (cZ (fD ys) (en ss 10) (ff n) os).2.1).1 ⟨DV ts 6,hw,hl0⟩) ?_;refine ez ?_;refine bQ (hc:=fun _=>hB by1) ?_;refine cx ?_;refine bQ (hc:=fun _=>hH (en ss 10) (ff by1) (cZ (fD ys) (en ss 10) (ff n) os).1 (Hp (en ss 10) (ff n) (cZ (fD ys) (en ss 10) (ff n) os).1 (cZ (fD ys) (en ss 10) (ff n) os).2.1).1 ⟨hss,hw,hl0⟩) ?_;refine ez ?_;refine bM _ ?_;refine cH ?_;refine bQ (hc:=fun _=>hH (en ss 10) (ff n) (⟨[]⟩:b6) (Hp (en ss 10) (ff n) (cZ (fD ys) (en ss 10) (ff n) os).1 (cZ (fD ys) (en ss 10) (ff n) os).2.1).1 ⟨hss,(fun _ h=>ca),hl0⟩) ?_;refine zr ?_;simp
def vW:aj:=bc 197
def w909 {Y:Ctx}(hm:(Y.at 3).bR)(y:cD)(ns:List av)(nm:av)(hA:C627 (Y.at 3))(hB:aea (Y.at 3))(hC:aeb (Y.at 3))(hD:aec (Y.at 3))(hE:aed (Y.at 3))(hp0:pC y):dp (Y.at 3) vW.body (rI vW (Ku y ns (uG (dK y nm))):Ex->List aX->St->Prop) (fq vW [cD.D y (.ptr 0 2 0 0),.str nm]) ⟨3,[(0,.buf 2 [eF 1 2 ns.length]),(1,.buf 1 (ns.map D.str)),(2,.buf 1 (dk y ns))]⟩:=by
 show dp _ _ _ [⟨true,cD.D y (.ptr 0 2 0 0)⟩,⟨true,.str nm⟩,.un,.un,.un,.un,.un,.un,.un,.un,.un,.un,.un,.un,.un] ⟨3,[(0,.buf 2 [eF 1 2 ns.length]),(1,.buf 1 (ns.map D.str)),(2,.buf 1 (dk y ns))]⟩;refine aO ?_;refine pA ?_;refine aB (hc:=hB (y.l) (nm) J0) ?_;refine zc ?_ ?_<;>intro hc0
 .refine cx ?_;obtain⟨j,hj,hjl⟩:=(qM y.l nm).resolve_left ae;refine jS ?_;refine bg (uA.D ⟨y.l[j]!.r,-1⟩) ?_;refine ba [uA.D ⟨y.l[j]!.r,-1⟩] ?_;refine cx ?_;refine bh 19 ?_;refine zg ?_;refine dD trivial iF (cU ah (?_)) ah ⟨by first|(rw[Xn hj];done)|(rw[Xn hj];exact rfl),1,2,⟨ae,ae,ae⟩,sZ⟩;rfl
 refine qo ?_;refine aB (hc:=hC (y.shop) (y.pins) (nm) J0) ?_;refine Fa ?_;refine aB (hc:=hD (y.l) (nm) J0) ?_;refine ez ?_;refine bS _ ?_;refine zg ?_;refine zf hm (fun i=>[.u 1,.e (.str nm),.u 1,.p 3 8,.u 2,.i i,.m 1 (cM y.shop y.pins nm).2.1 (D.int .i64),.i ((cM y.shop y.pins nm).2.2),.u 1,.i ((cM y.shop y.pins nm).1),.u 1,.p 4 2,.u 1,.o 5 10 (iS y nm (cM y.shop y.pins nm).1.toNat ((cM y.shop y.pins nm).2.1.take i)).length]) (fun i=>[(0,.buf 2 [eF 1 2 ns.length]),(1,.buf 1 (ns.map D.str)),(2,.buf 1 (dk y ns)),(3,.buf 8 [cD.D y (.ptr 0 2 0 0)]),(4,.buf 2 [cy.D (kI y.l nm)]),(5,.buf 10 ((iS y nm (cM y.shop y.pins nm).1.toNat ((cM y.shop y.pins nm).2.1.take i)).map uA.D))]) 20 (fun i=>i<=(cM y.shop y.pins nm).2.1.length) (fun i=>(cM y.shop y.pins nm).2.1.length-i) ae [(3,3),(32,4)] ?_;intro i hi;have hll:=(pT (y:=y) (nm:=nm) (a:=(cM y.shop y.pins nm).1.toNat) ((cM y.shop y.pins nm).2.1.take i)).1;have hl64:=acP y nm;rw[eg]at hll;refine zg ?_;intro u0;refine dE ?_ ?_<;>intro hc1
 .refine dx ?_;obtain⟨j,hj,hjl,t,ht,htl,hxs⟩:=ai4 hp0 (nm:=nm) (i:=i) hc1.2 ae;refine Bp ?_;refine bS _ ?_;refine wA ?_;refine bQ (hc:=fun hf=>hE y ns y.shop[j]!.es[t]!.r ⟨hp0.2.2.1,hxs⟩) (ha:=fun _=>by exact ad4 y ns ⟨rfl,rfl,rfl⟩) (hp:=fun _=>by exact ZZ y ns ⟨rfl,rfl,rfl⟩ iF) ?_;refine jS ?_;refine bQ (hc:=fun hf=>hA (kI y.l nm) y.shop[j]!.es[t]!.r.v ⟨WO _ _,hxs⟩) ?_;refine zc ?_ ?_<;>intro hc2
  .refine ko ?_;refine bg (uA.D ⟨y.shop[j]!.es[t]!.r,(cM y.shop y.pins nm).1⟩) ?_;refine ba [uA.D ⟨y.shop[j]!.es[t]!.r,(cM y.shop y.pins nm).1⟩] ?_;refine cJ (q:=uA.D) (xs:=(iS y nm (cM y.shop y.pins nm).1.toNat ((cM y.shop y.pins nm).2.1.take i))) (e:=⟨y.shop[j]!.es[t]!.r,(cM y.shop y.pins nm).1⟩) (hb:=ae) ?_;refine zg ?_;rw[acO hj ae ht hc2];exact iq (i+1) [(3,3),(4,4),(64,5)]
  refine zg ?_;rw[acN hj ae ht hc2];exact iq (i+1) [(3,3),(4,4),(5,5)]
 refine cx ?_;rw[ai1 ae hi hc1];refine bh 5 ?_ (he:=Z8) (hm:=Z8);refine zg ?_;refine dD trivial iF (cU ah (?_)) ah ⟨cW,1,2,⟨ae,ae,ae⟩,sZ⟩;rfl
def pk:aj:=bc 147
def w755 {Y:Ctx}(hm:(Y.at 3).bR)(y:cD)(ns:List av)(nm:av)(hA:C909 (Y.at 3))(hp0:pC y)(hp1:ns.length<=1000):dp (Y.at 3) pk.body (rI pk (Ku y (eL ns nm) (uG (dK y nm))):Ex->List aX->St->Prop) (fq pk [cD.D y (.ptr 0 2 0 0),.str nm]) ⟨3,[(0,.buf 2 [eF 1 2 ns.length]),(1,.buf 1 (ns.map D.str)),(2,.buf 1 (dk y ns))]⟩:=by
 show dp _ _ _ [⟨true,cD.D y (.ptr 0 2 0 0)⟩,⟨true,.str nm⟩,.un,.un,.un,.un,.un,.un] ⟨3,[(0,.buf 2 [eF 1 2 ns.length]),(1,.buf 1 (ns.map D.str)),(2,.buf 1 (dk y ns))]⟩;refine aO ?_;refine zg ?_;refine zf hm (fun i=>[.u 1,.e (.str nm),.u 1,.i i,.p 3 8,.u 3]) (fun i=>[(0,.buf 2 [eF 1 2 ns.length]),(1,.buf 1 (ns.map D.str)),(2,.buf 1 (dk y ns)),(3,.buf 8 [cD.D y (.ptr 0 2 0 0)])]) 6 (fun i=>i<=ns.length/\∀j,j<i->ns[j]! ≠nm) (fun i=>ns.length-i) ⟨ae,fun j h=>ae⟩ [(3,3)] ?_;rintro i ⟨hi,hr⟩;refine zg ?_;intro _;refine dE ?_ ?_<;>intro hc0
 .refine uK ?_;refine oS (q:=D.str) (xs:=ns) (v:=.str ns[i]!) (hi:=fun _=>ae) (hv:=fun _=>uy) ?_;refine zc ?_ ?_<;>intro hc1
  .refine pA ?_;refine oS (q:=fun nm=>uG (dK y nm)) (xs:=ns) (v:=uG (dK y ns[i]!)) (hi:=fun _=>ae) (hv:=fun _=>uy) ?_;refine cH ?_;refine bp (env':=[_,_,⟨_,(.sl _ _)⟩,_,_,_,_,_]) ?_;refine zg ?_;refine dD trivial iF (cU ah (?_)) ah ⟨by first|(rw[<-hc1];done)|(rw[<-hc1];exact rfl),1,2,⟨ae,ae,ae⟩,by rw[abi ae hc1];refine⟨?_, ?_, ?_⟩<;>first|exact rfl|(rw[nj];exact rfl)|(rw[nd];exact rfl)⟩;rfl
  refine gh (i+1) [(3,3)] ?_;exact fun j h=>by rcases Nat.lt_succ_iff_lt_or_eq.1 h with h|rfl;exact hr j h;exact hc1
 refine dx ?_;have hout:=Vy (ns:=ns) (nm:=nm) fun j h=>hr j ae
 refine cx ?_;refine dC (nx':=16) (v:=uG (dK y nm)) (m':=[(16,.buf 1 ((ns).map D.str)),(17,.buf 1 (dk y (ns))),(0,.buf 2 [eF 16 17 (ns).length]),(3,.buf 8 [cD.D y (.ptr 0 2 0 0)])]) (hc:=fun K' hK=>hA y ns nm hp0 _ 0 1 2 _ K' ep ep ep aT ⟨rfl,rfl,rfl⟩ hK) (hn:=aT) ?_;refine cH ?_;refine bp (env':=[_,_,_,_,_,_,_,⟨_,(.sl _ _)⟩]) ?_;refine cx ?_;refine YE (v:=.ptr 0 2 0 0) ?_;refine cH ?_;refine YE (v:=.ptr 0 2 0 0) ?_;refine jS ?_;refine ba [.str nm] ?_;refine cJ (q:=D.str) (xs:=ns) (e:=nm) (hb:=ae) ?_;refine cH ?_;refine zh (v:=.ptr 0 2 0 0) ?_;refine cx ?_;refine zh (v:=.own 17 1 0 ns.length) ?_;refine cH ?_;refine ba [uG (dK y nm)] ?_;refine cJ (q:=fun nm=>uG (dK y nm)) (xs:=ns) (e:=nm) (hb:=ae) ?_;refine cx ?_;refine ae5 (.agg [.own 31 1 0 (ns++[nm]).length,.own 17 1 0 ns.length]) ?_;refine cx ?_;refine ae5 (eF 31 39 (ns++[nm]).length) ?_;refine zg ?_;refine dD trivial iF (cU ah (?_)) ah ⟨cW,31,39,⟨ae,ae,ae⟩,by rw[hout];refine⟨?_, ?_, ?_⟩<;>first|exact rfl|(rw[nj];exact rfl)|(rw[nd];exact rfl)⟩;rfl
def Uf:aj:=⟨2,7,[⟨2,none⟩],[[.sl 2 [.a,.a]]],(sq (rg [gb 2 s1,gm (.c (.aJ))] [(4,0),(2,1)]) (sq (r1 [gm rM] 3 0) (sq (.block 0 (.loop (sq (sq (r2 [gm s3,gm s0,gl l1,lz l0 l2,gm l3,gmt 4 s0,gmt 4 s3,sg 4 (.ia 2 l5 l6),sg 4 (.ld 2 true l7),sg 4 (.ld 2 true s4),sg 4 (.call 902 [l8,l9] [[.a,.a],[.a,.a]]),UR l4 l10] 5 11) (US s5 0)) (.block 1 (r1 [gm s3,mE l0 Kq,gm l1] 3 2))))) (sq (sq (r2 [gm s3,gm s0,gl l1,lz l0 l2,gm l3,gmt 4 s0,gmt 4 s3,sg 4 (.ia 2 l5 l6),sg 4 (.ld 2 true l7),sg 4 (.ld 2 true s4),sg 4 (.eqA false true [.s,.s] l8 l9),UR l4 l10] 6 11) (.cond s6 (sq (r1 [gm s0,gm l0] 2 1) .ret) .skip)) (sq (r2 [gm s0,gm s3,gn (.slA 2 l0 none (some l1)),gn (.appN 2 l2),gk 2 true s4,gn (.bsl 2 (.agg [.str [],.str []]) 1 [(0,l4)]),gn (.app 2 l3 l5),gm s0,gm s3,gn (.slA 2 l7 (some l8) none),gn (.app 2 l6 l9),gm l10] 2 11) .ret)))))⟩
def w749 (hA:C902 Y):JF (cu Y Uf):=fun l k hp0=>by
 refine zg ?_;refine zf hm (fun i=>[.m 2 l Key.D,.u 2,.i i,.p 0 2,.u 2]) (fun i=>[(0,.buf 2 [Key.D k])]) 3 (fun i=>i<=l.length/\EN l k 0=EN l k i) (fun i=>l.length-i) ⟨ae,rfl⟩ [(0,0)] ?_;rintro i ⟨hi,hr⟩;refine zc ?_ ?_<;>intro hc0
 .refine gh (i+1) [(0,0)] ?_;rw[hr,Xb ae hc0.2]
 refine ez ?_;have hk:EN l k 0=i:=by rw[hr];exact Xc (fun h=>by rcases hc0 with h1|h1;omega;exact h1)
 refine zc ?_ ?_<;>intro hc1
 .refine zr ?_;rw[<-adn hk ⟨ae,hc1.2⟩];rfl
 refine ko ?_;refine xW (he:=lT.sl) (n:=(l.take i).length) (hn:=aG) (hb:=zM) ?_;refine cH ?_;refine ba [Key.D k] ?_;refine cJ (q:=Key.D) (xs:=l.take i) (e:=k) (hb:=zM) ?_;refine dx ?_;refine pf (xs:=l.take i++[k]) (ys:=l.drop i) (he:=lT.sl) (hb:=Qi) ?_;refine cx ?_;refine bh 37 ?_;refine zr ?_;rw[<-adp hk SI];rfl
def vX:aj:=bc 143
def w751 {Y:Ctx}(hm:(Y.at 3).bR)(y:cD)(ns:List av)(hA:Va (Y.at 3))(hp0:∀m∈y.l,m.r.v∈bU)(hp1:y.l.length<=1000):dp (Y.at 3) vX.body (rI vX (Ku y ns (.sl 1 ((eC y.l).map dR))):Ex->List aX->St->Prop) (fq vX [cD.D y (.ptr 0 2 0 0)]) ⟨3,[(0,.buf 2 [eF 1 2 ns.length]),(1,.buf 1 (ns.map D.str)),(2,.buf 1 (dk y ns))]⟩:=by
 show dp _ _ _ [⟨true,cD.D y (.ptr 0 2 0 0)⟩,.un,.un,.un,.un,.un,.un] ⟨3,[(0,.buf 2 [eF 1 2 ns.length]),(1,.buf 1 (ns.map D.str)),(2,.buf 1 (dk y ns))]⟩;refine aO ?_;refine zg ?_;refine zf hm (fun i=>[.u 2,.i i,.p 3 8,.u 1,.o 5 1 (eC (y.l.take i)).length,.u 1]) (fun i=>[(0,.buf 2 [eF 1 2 ns.length]),(1,.buf 1 (ns.map D.str)),(2,.buf 1 (dk y ns)),(3,.buf 8 [cD.D y (.ptr 0 2 0 0)]),(5,.buf 1 ((eC (y.l.take i)).map dR))]) 20 (fun i=>i<=y.l.length) (fun i=>y.l.length-i) ae [(3,3)] ?_;intro i hi;have hrl:=Zf y.l i;refine zg ?_;intro u0;refine dE ?_ ?_<;>intro hc0
 .refine uK ?_;refine bS _ ?_;refine ko ?_;refine bM _ ?_;refine dx ?_;refine bg (jv.D (⟨⟨y.l[i]!.r.name,nM⟩,er y.l[i]!.r.v⟩:jv)) ?_;refine ba [jv.D (⟨⟨y.l[i]!.r.name,nM⟩,er y.l[i]!.r.v⟩:jv)] ?_;refine ba [.own 41 4 0 1] ?_;refine rv ((eC (y.l.take i)).map dR++[.own 41 4 0 1]) (n:=((eC (y.l.take i))++[[(⟨⟨y.l[i]!.r.name,nM⟩,er y.l[i]!.r.v⟩:jv)]]).length) (ha:=j6) (he:=lT.own rfl (by first|rfl|simp)) (hz:=yB) (hn:=Ew) (hb:=Ez) ?_;refine dx ?_;refine bh 41 ?_ (he:=Gz) (hm:=Gz);refine zg ?_;rw[pE,akk ae];exact iq (i+1) [(43,5),(3,3)]
 refine cx ?_;obtain rfl:i=y.l.length:=ae;rw[List.take_length];refine bh 5 ?_ (he:=Gz) (hm:=Gz);refine zg ?_;refine dD trivial iF (cU ah (?_)) ah ⟨cW,1,2,⟨ae,ae,ae⟩,sZ⟩;rfl
def Ou:aj:=bc 21
def w25 {Y:Ctx}(hm:(Y.at 0).bR):P1 (cu Y Ou):=fun v n hp0=>by
 refine zc ?_ ?_<;>intro hc0
 .refine zr ?_;simp[bY,hc0]
 refine ez ?_;refine Ao (v.tmod n) (hn:=by intro _;omega) (hb:=fun _=>rfl) ?_;have ht:=D5 v n ae;refine zc ?_ ?_<;>intro hc1
 .refine zr ?_;simp only[bY];rw[ai hc0,ak hc1]
 refine zr ?_;simp only[bY];rw[ai hc0,ai hc1]
def acQ:aj:=bc 40
def w159 {Y:Ctx}(hm:(Y.at 0).bR):Ix (cu Y acQ):=fun l i=>by
 refine zc ?_ ?_<;>intro hc0
 .refine dx ?_;refine Ao (i.tmod 3) (hn:=by intro _;omega) (hb:=fun _=>rfl) ?_;refine zr ?_;simp only[atI];rw[ak hc0]
 refine zr ?_;simp only[atI];rw[ai ae]
def sw:aj:=bc 16
def w109 {Y:Ctx}(hm:(Y.at 1).bR)(hA:C25 (Y.at 1))(hB:C159 (Y.at 1))(g:Gs)(n:Int)(hp0:n<=9223372036854775807)(hp1:0<=g.i/\g.i<=1000000):dp (Y.at 1) sw.body (GG sw 2 (.int .i64 (g.val n)) (Gs.D g.aS):Ex->List aX->St->Prop) (fq sw (.ptr 0 2 0 0::[.int .i64 n])) ⟨1,[(0,.buf 2 [(Gs.D g)])]⟩:=by
 show dp _ _ _ [⟨true,.ptr 0 2 0 0⟩,⟨true,.int .i64 n⟩,.un] ⟨1,[(0,.buf 2 [(Gs.D g)])]⟩;refine aO ?_;refine fG ?_;refine qo ?_;refine BN ?_;rw[show g.i+1-1=g.i by omega];refine zg ?_;refine iV trivial iF (cU ah (aw (D.int .i64) ?_)) ah ah ah;rfl
def Pb:aj:=bc 42
def w344 (hA:EA Y):II (cu Y Pb):=fun l=>by
 refine zg ?_;refine zf hm (fun i=>[.m 2 l iH.D,.u 2,.i i,.u 2]) (fun i=>[]) 3 (fun i=>i<=l.length/\Db l=gO (LS l) i l.length) (fun i=>l.length-i) ⟨ae,rfl⟩ [] ?_;rintro i ⟨hi,hr⟩;refine zg ?_;intro u0;refine dE ?_ ?_<;>intro hc0
 .refine fG ?_;refine Fa ?_;refine cz (i-1) (hj:=fun hf=>BT) (hb:=fun hf=>BT) ?_;refine zg ?_;refine wp_cond (fun hc1=>?_) (fun hc1=>?_)
  .simp only[gF]at hc1;simp only[gt_iff_lt,Int.natCast_pos]at hc1;have hz:=LU hc1;refine zg ?_;refine fw (bX (aw (D.int .i64) ?_) (aw (D.int .i64) ?_));all_goals rw[hr,gP ae (by rw[hz];decide),hz]
  simp only[gF]at hc1;simp only[gt_iff_lt,Int.natCast_pos]at hc1;have hz:=RE (l:=l) (i:=i) (by rintro((h|h)|⟨h,h2⟩)<;>simp_all);refine gh (i+1) [] ?_;rw[hr,j9 ae hz]
 refine zg ?_;refine fw (bX (aw (D.int .i64) ?_) (aw (D.int .i64) ?_));all_goals rw[hr,j8 ae]
def HL:aj:=bc 48
def w144 (hA:SN Y):tF (cu Y HL):=fun e=>by
 refine zg ?_;refine zf hm (fun i=>[.u 2,.i i,.u 1,.p 0 3,.u 1]) (fun i=>[(0,.buf 3 [Env.D e])]) 3 (fun i=>i<=3/\o8 e=bO (fun i=>decide (e.at i=[]) ||gr (e.at i)) i 3) (fun i=>3-i) ⟨ae,rfl⟩ [(0,0)] ?_;rintro i ⟨hi,hr⟩;refine zc ?_ ?_<;>intro hc0
 .refine ko ?_;refine OV i ?_;refine pZ (v:=.str (e.at i)) (hv:=fun _=>Env.ld e ae) ?_;refine ez ?_;refine OV i ?_;refine pZ (v:=.str (e.at i)) (hv:=fun _=>Env.ld e ae) ?_;refine zg ?_;refine wp_cond (fun hc1=>?_) (fun hc1=>?_)
  .simp only[aN,cG,cK]at hc1;refine zr ?_;rw[hr,ay ae];rw[bI hc1.1,hc1.2];rfl
  simp only[eo,dH,bn]at hc1;refine gh (i+1) [(0,0)] ?_;rw[hr,ay ae];rw[show(decide (e.at i=[]) ||gr (e.at i))=true by rw[dI,bn];exact hc1];rfl
 refine zr ?_;rw[hr,bB ae]
def EV:aj:=bc 15
def w112 {Y:Ctx}(hm:(Y.at 0).bR)     :wkk Y EV (.sl 5 (bU.map bZ.D)) []:=by
 refine ez ?_;refine bM _ ?_;refine bM _ ?_;refine bM _ ?_;refine bM _ ?_;refine ba (bU.map bZ.D) ?_;refine cx ?_;refine bh 5 ?_;exact mr
def Lt:aj:=bc 9
def w92 {Y:Ctx}(hm:(Y.at 0).bR)(hA:C270 Y):P8 (cu Y Lt):=fun shop e w c hp0=>by
 refine Bq ?_;refine cH ?_;refine bS _ ?_;refine jS ?_;refine bS _ ?_;exact mr
end Go.Abs
end
