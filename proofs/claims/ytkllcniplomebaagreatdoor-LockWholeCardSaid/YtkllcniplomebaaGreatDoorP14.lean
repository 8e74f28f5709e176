/- A part of the proofs. -/
import Derived.Test.YtkllcniplomebaaGreatDoorP09
set_option linter.all false
set_option maxRecDepth 60000
set_option maxHeartbeats 2000000
noncomputable section
namespace Go.Abs
variable {Y:Ctx}(hm:(Y.at 0).bN)
def adX:aj:=bd 9
def w98 (hA:C138 Y)(hB:C142 Y)(hC:C175 Y)(hD:C176 Y)(hE:C273 Y)(hF:C274 Y):Q6 (cn Y adX):=λshop e w c hp0=>by
 refine B8 ?_;refine aD (hc:=hC (w) KW) ?_;refine dt ?_;refine bX (hc:=λhf=>hB (shop) KW) ?_;refine qp ?_;refine bX (hc:=λhf=>hE (w) (c) KW) ?_;refine zc ?_ ?_<;>intro hc0
 .refine cU ?_;refine cq _ ?_;refine br _ ?_;refine zr ?_;rw[of_a hc0];rfl
 refine k9 ?_;refine aD (hc:=hD (w) (c) KW) ?_;refine zc ?_ ?_<;>intro hc1
 .refine cU ?_;refine cq _ ?_;refine br _ ?_;refine zr ?_;rw[of_b hc0 hc1];rfl
 refine dt ?_;refine aV (.agg [.str e.e0,.str e.e1,.str e.e2,.aR]) ?_;refine k9 ?_;obtain⟨hcl,⟨hc1a,hc48⟩,hcw⟩:=Dj hc0.2;refine zg ?_;intro u0;refine gG hm (ι:=Nat) (λu=>[⟨true,.sl 2 ((shop).map cj.D)⟩,.un,.un,⟨true,.sl 1 ((c).map (D.int .i64))⟩,⟨true,.ptr 2 4 0 0⟩,.un,⟨true,.ptr 1 1 0 0⟩,.un,.un,.un,⟨true,.int .i64 (u:Nat)⟩,⟨true,.int .i64 (w.us.length:Nat)⟩,.un,⟨true,.sl 3 ((w.us).map dz.D)⟩,.un,.un,.un,.un,.un,.un,.un,.un,.un,.un,.un,.un,.un,.un,.un,.un,⟨true,.ptr 3 4 0 0⟩]) (λu=>[(0,.buf 9 ((dP shop w.us c u).1.map ea.D)),(1,.buf 1 [cA.D w]),(2,.buf 4 [.agg [.str [],.str [],.str [],.aR]]),(3,.buf 4 [.agg [.str e.e0,.str e.e1,.str e.e2,.own 0 9 0 (dP shop w.us c u).1.length]])]) 20 (λu=>u<=w.us.length/\(dP shop w.us c u).2=0) (λu=>w.us.length-u) 0 ⟨ae,rfl⟩ (aZ.to [(1,1),(2,2),(29,3)] ah ah fK (by repeat(first|exact bn.nil|refine bn.Am ah ah dL ?_|refine bn.L4 ah ah ah ?_|refine bn.L6 ah ah ah ah ?_|refine bn.nl 1 ah ah ah dL ?_|refine bn.nl 2 ah ah ah dL ?_|refine bn.ni 29 ah ah (by exact⟨_,_,rfl,⟨_,rfl,⟨_,_,rfl,⟨rfl,rfl⟩,⟨_,_,rfl,⟨rfl,rfl⟩,⟨_,_,rfl,⟨rfl,rfl⟩,⟨_,_,rfl,.inr ⟨_,_,_,rfl⟩,rfl⟩⟩⟩⟩⟩,rfl⟩) ?_|refine bn.mt ah ah ah ah ?_))) ?_;rintro u ⟨hu,hz⟩;have hll:=tC (shop:=shop) (us:=w.us) (c:=c) u;refine zc ?_ ?_<;>intro hc2
 .refine zc ?_ ?_<;>intro hc3
  .refine zg ?_;have hsk:ei w.us c u=true:=by
    unfold ei;rcases hc3 with(h|h)|h
    .rw[bg (show u=0 by omega)];rfl
    .rw[bg h];simp
    .rw[bB h];simp
   have hls:=Pr hz hsk;rw[<-hls];refine fM (u+1) [(0,0),(1,1),(2,2),(3,3)] ?_;rw[hls];exact hz
  refine cY ?_;refine bD 24 ?_ (he:=G7) (hm:=G7);refine zg ?_;have hsk:ei w.us c u=false:=by
   unfold ei;rw[bB (show ¬u=0 by omega),bg (show w.us[u]!.feat=[]from hc3.2),bB (show ¬c[u]! <0 by omega)];rfl
  have hcu:=hcw u ae;have hxm:=aq (show c[u]!.toNat<w.us[u]!.cands.length by omega);have hun:=((hp0.2.1 _ (aq (show u<w.us.length by omega))).2 _ hxm).1;refine aV (.agg [.str [],.int .i64 zV.major,.int .i64 zV.minor,.int .i64 zV.patch,.str zV.pre,.str zV.build,.str [],.int .u64 0,.aR]) ?_;refine ru ?_;refine qT (v:=.sl 8 (w.us[u]!.cands.map fj.D)) ?_;refine dt ?_;refine Ib (v:=.int .i64 c[u]!) (hi:=λ_=>ae) ?_;refine cU ?_;refine Ib (v:=bO.D (cG w.us c u).v) (hi:=λ_=>ae) ?_;refine cU ?_;refine br (.agg [.str w.us[u]!.name,.int .i64 zV.major,.int .i64 zV.minor,.int .i64 zV.patch,.str zV.pre,.str zV.build,.str [],.int .u64 0,.aR]) (he:=cE) ?_;refine cU ?_;refine br (.agg [.str w.us[u]!.name,.int .i64 (cG w.us c u).v.major,.int .i64 (cG w.us c u).v.minor,.int .i64 (cG w.us c u).v.patch,.str (cG w.us c u).v.pre,.str (cG w.us c u).v.build,.str [],.int .u64 0,.aR]) (he:=cE) ?_;refine Ov ?_;refine dm (v:=.int .i64 (cG w.us c u).sh) (hi:=λ_=>ae) ?_;refine cU ?_;refine rm hm (ι:=(av×Int)) (λp=>[⟨true,.sl 2 ((shop).map cj.D)⟩,.un,.un,⟨true,.sl 1 ((c).map (D.int .i64))⟩,⟨true,.ptr 2 4 0 0⟩,.un,⟨true,.ptr 1 1 0 0⟩,.un,.un,.un,⟨true,.int .i64 (u:Nat)⟩,⟨true,.int .i64 (w.us.length:Nat)⟩,.un,⟨true,.sl 3 ((w.us).map dz.D)⟩,⟨true,.int .i64 (u:Nat)⟩,⟨true,.ref 3 [dz.D w.us[u]!] 0 0⟩,.un,⟨true,.ptr 5 9 0 0⟩,.un,.un,.un,.un,.un,.un,.un,.un,.un,.un,.un,.un,⟨true,.ptr 3 4 0 0⟩]) (λp=>[(0,.buf 9 ((dP shop w.us c u).1.map ea.D)),(1,.buf 1 [cA.D w]),(2,.buf 4 [.agg [.str [],.str [],.str [],.aR]]),(3,.buf 4 [.agg [.str e.e0,.str e.e1,.str e.e2,.own 0 9 0 (dP shop w.us c u).1.length]]),(5,.buf 9 [.agg [.str w.us[u]!.name,.int .i64 (cG w.us c u).v.major,.int .i64 (cG w.us c u).v.minor,.int .i64 (cG w.us c u).v.patch,.str (cG w.us c u).v.pre,.str (cG w.us c u).v.build,.str p.1,.int .u64 p.2,.aR]])]) 60 (λp=>(eA shop w.us c u (cG w.us c u))=((⟨w.us[u]!.name,(cG w.us c u).v,p.1,p.2,(mb w.us c u)⟩:ea),0)) ?_ ?_
  .refine zc ?_ ?_<;>intro hc4
   .refine zg ?_;exact⟨([],0),ajW ae,(aZ.to [(0,0),(1,1),(2,2),(3,3),(42,5)] ah ah fK abe)⟩
   refine zc ?_ ?_<;>intro hc5
   .refine cY ?_;refine cq _ ?_;refine br _ (he:=cE) ?_;refine zr ?_;rw[of_c hc0 hc1 hz hsk ae 12 a7 (ajX hc4 hc5)];rfl
   refine cY ?_;have hs0:0<=(cG w.us c u).sh/\(cG w.us c u).sh<(shop.length:Int):=ae;have hss:=hp0.1 _ (aq (show(cG w.us c u).sh.toNat<shop.length by omega));refine qp ?_;refine aD (hc:=hF shop[(cG w.us c u).sh.toNat]! w.us[u]!.name (cG w.us c u).v ⟨hss,hun⟩) ?_;refine zc ?_ ?_<;>intro hc6
   .refine cU ?_;refine cq _ ?_;refine br _ (he:=cE) ?_;refine zr ?_;rw[of_c hc0 hc1 hz hsk ae 9 a7 (ajY hc4 hc5 (by unfold entP;rw[ak hc6]))];rfl
   refine cU ?_;obtain⟨j,hj,hjl⟩:=(FW (s:=shop[(cG w.us c u).sh.toNat]!) (nm:=w.us[u]!.name) (v:=(cG w.us c u).v)).resolve_left ae;refine B8 ?_;refine Ib (v:=.sl 11 (shop[(cG w.us c u).sh.toNat]!.es.map j8.D)) (hi:=λ_=>ae) ?_;refine dt ?_;refine Ib (v:=.int .u64 shop[(cG w.us c u).sh.toNat]!.es[j]!.sum) (hi:=λ_=>ae) ?_;refine cU ?_;refine br (.agg [.str w.us[u]!.name,.int .i64 (cG w.us c u).v.major,.int .i64 (cG w.us c u).v.minor,.int .i64 (cG w.us c u).v.patch,.str (cG w.us c u).v.pre,.str (cG w.us c u).v.build,.str shop[(cG w.us c u).sh.toNat]!.name,.int .u64 0,.aR]) (he:=cE) ?_;refine cU ?_;refine br (.agg [.str w.us[u]!.name,.int .i64 (cG w.us c u).v.major,.int .i64 (cG w.us c u).v.minor,.int .i64 (cG w.us c u).v.patch,.str (cG w.us c u).v.pre,.str (cG w.us c u).v.build,.str shop[(cG w.us c u).sh.toNat]!.name,.int .u64 shop[(cG w.us c u).sh.toNat]!.es[j]!.sum,.aR]) (he:=cE) ?_;refine zg ?_;exact⟨(shop[(cG w.us c u).sh.toNat]!.name,shop[(cG w.us c u).sh.toNat]!.es[j]!.sum),by rw[eA,ai ae,ai ae,ai (by rw[hj];omega),hj,Int.toNat_natCast],(aZ.to [(0,0),(1,1),(2,2),(3,3),(42,5)] ah ah fK abe)⟩
  .rintro p hln;refine zg ?_;intro u1;refine gG hm (ι:=Nat) (λk=>[⟨true,.sl 2 ((shop).map cj.D)⟩,.un,.un,⟨true,.sl 1 ((c).map (D.int .i64))⟩,⟨true,.ptr 2 4 0 0⟩,.un,⟨true,.ptr 1 1 0 0⟩,.un,.un,.un,⟨true,.int .i64 (u:Nat)⟩,⟨true,.int .i64 (w.us.length:Nat)⟩,.un,⟨true,.sl 3 ((w.us).map dz.D)⟩,⟨true,.int .i64 (u:Nat)⟩,⟨true,.ref 3 [dz.D w.us[u]!] 0 0⟩,.un,⟨true,.ptr 5 9 0 0⟩,.un,.un,.un,.un,.un,⟨true,.int .i64 (k:Nat)⟩,⟨true,.int .i64 (w.us.length:Nat)⟩,.un,⟨true,.sl 3 ((w.us).map dz.D)⟩,.un,.un,.un,⟨true,.ptr 3 4 0 0⟩]) (λk=>[(0,.buf 9 ((dP shop w.us c u).1.map ea.D)),(1,.buf 1 [cA.D w]),(2,.buf 4 [.agg [.str [],.str [],.str [],.aR]]),(3,.buf 4 [.agg [.str e.e0,.str e.e1,.str e.e2,.own 0 9 0 (dP shop w.us c u).1.length]]),(5,.buf 9 [.agg [.str w.us[u]!.name,.int .i64 (cG w.us c u).v.major,.int .i64 (cG w.us c u).v.minor,.int .i64 (cG w.us c u).v.patch,.str (cG w.us c u).v.pre,.str (cG w.us c u).v.build,.str p.1,.int .u64 p.2,.own 6 1 0 (eM w.us c w.us[u]!.name k).length]]),(6,.buf 1 ((eM w.us c w.us[u]!.name k).map D.str))]) 64 (λk=>k<=w.us.length) (λk=>w.us.length-k) 0 ae (aZ.to [(0,0),(1,1),(2,2),(3,3),(5,5)] ah ah fK (by repeat(first|exact bn.nil|refine bn.Am ah ah dL ?_|refine bn.L4 ah ah ah ?_|refine bn.L6 ah ah ah ah ?_|refine bn.nl 0 ah ah ah dL ?_|refine bn.nl 1 ah ah ah dL ?_|refine bn.nl 2 ah ah ah dL ?_|refine bn.eq 3 ah ah ah ?_|refine bn.ni 5 ah ah (by exact⟨_,_,rfl,⟨_,rfl,⟨_,_,rfl,⟨rfl,rfl⟩,⟨_,_,rfl,⟨rfl,rfl⟩,⟨_,_,rfl,⟨rfl,rfl⟩,⟨_,_,rfl,⟨rfl,rfl⟩,⟨_,_,rfl,⟨rfl,rfl⟩,⟨_,_,rfl,⟨rfl,rfl⟩,⟨_,_,rfl,⟨rfl,rfl⟩,⟨_,_,rfl,⟨rfl,rfl⟩,⟨_,_,rfl,.inr ⟨_,_,_,rfl⟩,rfl⟩⟩⟩⟩⟩⟩⟩⟩⟩⟩,rfl⟩) ?_|refine bn.mt ah ah ah ah ?_))) ?_;intro k hk;have hfl:=vH (us:=w.us) (c:=c) w.us[u]!.name k;refine zc ?_ ?_<;>intro hc7
   .refine zc ?_ ?_<;>intro hc8
    .refine jX ?_;refine bj [.str w.us[k]!.feat] ?_;refine cR (q:=D.str) (xs:=(eM w.us c w.us[u]!.name k)) (e:=w.us[k]!.feat) (hb:=ae) ?_;refine cU ?_;refine br (.agg [.str w.us[u]!.name,.int .i64 (cG w.us c u).v.major,.int .i64 (cG w.us c u).v.minor,.int .i64 (cG w.us c u).v.patch,.str (cG w.us c u).v.pre,.str (cG w.us c u).v.build,.str p.1,.int .u64 p.2,.own 98 1 0 ((eM w.us c w.us[u]!.name k)++[w.us[k]!.feat]).length]) (he:=cE) ?_;refine zg ?_;rw[show(eM w.us c w.us[u]!.name k)++[w.us[k]!.feat]=(eM w.us c w.us[u]!.name (k+1))from(Xz ⟨ae,⟨⟨hc8.1.1.2,hc8.1.2⟩,hc8.2⟩⟩).symm];exact ir (k+1) [(0,0),(1,1),(2,2),(3,3),(5,5),(98,6)]
    refine zg ?_;have hfn:(eM w.us c w.us[u]!.name k)=(eM w.us c w.us[u]!.name (k+1)):=(Xy (us:=w.us) (c:=c) (i:=k) (nm:=w.us[u]!.name) (λh=>by
     rcases hc8 with((h2|h2)|h2)|h2
     .exact absurd h.1 ae
     .exact h2 h.2.1.1
     .exact h.2.1.2 h2
     .exact h2 h.2.2)).symm
    rw[hfn];exact ir (k+1) [(0,0),(1,1),(2,2),(3,3),(5,5),(6,6)]
   refine cU ?_;obtain rfl:k=w.us.length:=ae;have hla:=Us hz hsk hln;refine bD 6 ?_ (he:=G7) (hm:=G7);refine fw ?_;refine iF (d:=ea.D (⟨w.us[u]!.name,(cG w.us c u).v,p.1,p.2,(mb w.us c u)⟩:ea)) ?_;refine bj [ea.D (⟨w.us[u]!.name,(cG w.us c u).v,p.1,p.2,(mb w.us c u)⟩:ea)] ?_;refine cR (q:=ea.D) (xs:=(dP shop w.us c u).1) (e:=(⟨w.us[u]!.name,(cG w.us c u).v,p.1,p.2,(mb w.us c u)⟩:ea)) (hb:=ae) ?_;refine cY ?_;refine br (.agg [.str e.e0,.str e.e1,.str e.e2,.own 70 9 0 ((dP shop w.us c u).1++[(⟨w.us[u]!.name,(cG w.us c u).v,p.1,p.2,(mb w.us c u)⟩:ea)]).length]) (he:=cE) ?_;refine zg ?_;rw[show(dP shop w.us c u).1++[(⟨w.us[u]!.name,(cG w.us c u).v,p.1,p.2,(mb w.us c u)⟩:ea)]=(dP shop w.us c (u+1)).1 by rw[hla]];refine fM (u+1) [(70,0),(1,1),(2,2),(3,3)] ?_;rw[hla]
 refine cU ?_;obtain rfl:u=w.us.length:=ae;rw[show dP shop w.us c w.us.length=eQ shop w c from rfl]at hz⊢;refine bD 0 ?_ (he:=G7) (hm:=G7);refine cY ?_;refine iF (d:=jE.D ⟨e,(eQ shop w c).1⟩) ?_;refine zr ?_;rw[of_d hc0 hc1 hz];rfl
def Is:aj:=bd 70
def w46 (hA:C158 Y)(hB:C183 Y):Q3 (cn Y Is):=λw hp0=>by
 refine pz ?_;refine bD 0 ?_ (he:=nj) (hm:=nj);refine zg ?_;refine gG hm (ι:=Nat) (λi=>[.un,⟨true,.ptr 0 3 0 0⟩,⟨true,.int .i64 (i:Nat)⟩,⟨true,.ref 1 [cA.D w] 0 0⟩,.un,.un,.un,.un,.un,.un,.un,.un,.un,⟨true,.ptr 1 3 0 0⟩]) (λi=>[(0,.buf 3 [.agg [.aR,.aR,.aR]]),(1,.buf 3 [.agg [.own 2 1 0 (iN w.us i).length,.own 3 1 0 (eC w.us i).length,.own 4 1 0 (jv w.us i).length]]),(2,.buf 1 ((iN w.us i).map (D.int .i64))),(3,.buf 1 ((eC w.us i).map qh)),(4,.buf 1 ((jv w.us i).map oE))]) 9 (λi=>i<=w.us.length) (λi=>w.us.length-i) 0 ae (aZ.to [(1,0),(2,1)] ah ah fK (by repeat(first|exact bn.nil|refine bn.ni 2 ah ah (by exact⟨_,[],rfl,⟨_,rfl,_,_,rfl,Or.inr ⟨2,1,0,rfl⟩,_,_,rfl,Or.inr ⟨3,1,0,rfl⟩,_,_,rfl,Or.inr ⟨4,1,0,rfl⟩,rfl⟩,rfl⟩) ?_|refine bn.nl 1 ah ah ah dL ?_|refine bn.mt ah ah ah ah ?_))) ?_;intro i hi;have hfl:=O7 w.us i;have hnl:=PI w.us i;have hbl:=TM w.us i;refine zg ?_;intro u0;refine dT ?_ ?_<;>intro hc0
 .refine zg ?_;have hil:i<w.us.length:=ae;have hu:=hp0.1.1 _ (aq hil);have hu16:=hu.1;refine zf hm (λj=>[.u 1,.p 0 3,.i i,.e (.ref 1 [cA.D w] 0 0),.u 1,.i j,.u 5,.o 5 1 (eO w.us (w.us[i]!.cands.take j)).length,.o 6 1 (jx w.us (w.us[i]!.cands.take j)).length,.p 1 3]) (λj=>[(0,.buf 3 [.agg [.aR,.aR,.aR]]),(1,.buf 3 [.agg [.own 2 1 0 (iN w.us i).length,.own 3 1 0 (eC w.us i).length,.own 4 1 0 (jv w.us i).length]]),(2,.buf 1 ((iN w.us i).map (D.int .i64))),(3,.buf 1 ((eC w.us i).map qh)),(4,.buf 1 ((jv w.us i).map oE)),(5,.buf 1 ((eO w.us (w.us[i]!.cands.take j)).map oE)),(6,.buf 1 ((jx w.us (w.us[i]!.cands.take j)).map IL))]) 9 (λj=>j<=w.us[i]!.cands.length) (λj=>w.us[i]!.cands.length-j) ae [(0,0),(1,1),(2,2),(3,3),(4,4)] ?_;intro j hj;have hnl1:=PK w.us w.us[i]!.cands j;have hbl1:=TO w.us w.us[i]!.cands j;refine zg ?_;intro u1;refine dT ?_ ?_<;>intro hc1
  .refine dt ?_;have hcs:=hu.2 _ (aq (show j<w.us[i]!.cands.length by omega));have hfw:=hp0.2 _ (aq hil) _ (aq (show j<w.us[i]!.cands.length by omega));refine EH ?_;refine bD 27 ?_ (he:=nj) (hm:=nj);refine zg ?_;refine zf hm (λk=>[.u 1,.p 0 3,.i i,.e (.ref 1 [cA.D w] 0 0),.u 1,.i j,.u 1,.i k,.e (.ref 8 [fj.D w.us[i]!.cands[j]!] 0 0),.u 1,.o 7 1 (kU w.us (w.us[i]!.cands[j]!.needs.take k)).length,.o 5 1 (eO w.us (w.us[i]!.cands.take j)).length,.o 6 1 (jx w.us (w.us[i]!.cands.take j)).length,.p 1 3]) (λk=>[(0,.buf 3 [.agg [.aR,.aR,.aR]]),(1,.buf 3 [.agg [.own 2 1 0 (iN w.us i).length,.own 3 1 0 (eC w.us i).length,.own 4 1 0 (jv w.us i).length]]),(2,.buf 1 ((iN w.us i).map (D.int .i64))),(3,.buf 1 ((eC w.us i).map qh)),(4,.buf 1 ((jv w.us i).map oE)),(5,.buf 1 ((eO w.us (w.us[i]!.cands.take j)).map oE)),(6,.buf 1 ((jx w.us (w.us[i]!.cands.take j)).map IL)),(7,.buf 1 ((kU w.us (w.us[i]!.cands[j]!.needs.take k)).map IL))]) 9 (λk=>k<=w.us[i]!.cands[j]!.needs.length) (λk=>w.us[i]!.cands[j]!.needs.length-k) ae [(0,0),(1,1),(2,2),(3,3),(4,4),(5,5),(6,6)] ?_;intro k hk;have hrl:=Vr w.us w.us[i]!.cands[j]!.needs k;refine zg ?_;intro u2;refine dT ?_ ?_<;>intro hc2
   .refine B8 ?_;refine dm (v:=.sl 3 (((w.us[i]!.cands[j]!.needs)[k]!).map Want.D)) (hi:=λhf=>ct) ?_;refine aD (hc:=hB (w) ((w.us[i]!.cands[j]!.needs)[k]!) abq) ?_;refine bj [IL (eD w.us w.us[i]!.cands[j]!.needs[k]!)] ?_;refine cR (q:=IL) (xs:=kU w.us (w.us[i]!.cands[j]!.needs.take k)) (e:=eD w.us w.us[i]!.cands[j]!.needs[k]!) (hb:=ae) ?_;refine zg ?_;rw[Vq ae];exact ir (k+1) [(23,7),(0,0),(1,1),(2,2),(3,3),(4,4),(5,5),(6,6)]
   refine cU ?_;obtain rfl:k=w.us[i]!.cands[j]!.needs.length:=ae;rw[List.take_length];refine bD 7 ?_ (he:=nj) (hm:=nj);refine dt ?_;refine bj [oE (kU w.us w.us[i]!.cands[j]!.needs)] ?_;refine cR (q:=oE) (xs:=eO w.us (w.us[i]!.cands.take j)) (e:=kU w.us w.us[i]!.cands[j]!.needs) (hb:=ae) ?_;refine cY ?_;refine P0 (v:=cA.D w) ?_;refine cY ?_;refine P0 (v:=.sl 3 (w.us[i]!.cands[j]!.bars.map Want.D)) ?_;refine aD (hc:=hB (w) (w.us[i]!.cands[j]!.bars) abq) ?_;refine bj [IL (eD w.us w.us[i]!.cands[j]!.bars)] ?_;refine cR (q:=IL) (xs:=jx w.us (w.us[i]!.cands.take j)) (e:=eD w.us w.us[i]!.cands[j]!.bars) (hb:=ae) ?_;refine zg ?_;rw[PJ ae,TN ae];exact ir (j+1) [(17,5),(24,6),(0,0),(1,1),(2,2),(3,3),(4,4)]
  refine cU ?_;obtain rfl:j=w.us[i]!.cands.length:=ae;rw[List.take_length];refine bD 5 ?_ (he:=nj) (hm:=nj);refine bD 6 ?_ (he:=nj) (hm:=nj);refine jX ?_;refine bj [.int .i64 (nT w.us ((i:Nat):Int))] ?_;refine cR (q:=D.int .i64) (xs:=iN w.us i) (e:=nT w.us ((i:Nat):Int)) (hb:=ae) ?_;refine cY ?_;refine zq (v:=.own 3 1 0 (eC w.us i).length) ?_;refine cY ?_;refine bj [qh (eO w.us w.us[i]!.cands)] ?_;refine cR (q:=qh) (xs:=eC w.us i) (e:=eO w.us w.us[i]!.cands) (hb:=ae) ?_;refine cY ?_;refine zq (v:=.own 4 1 0 (jv w.us i).length) ?_;refine cY ?_;refine bj [oE (jx w.us w.us[i]!.cands)] ?_;refine cR (q:=oE) (xs:=jv w.us i) (e:=jx w.us w.us[i]!.cands) (hb:=ae) ?_;refine cY ?_;refine br (.agg [.own 24 1 0 (iN w.us i++[nT w.us ((i:Nat):Int)]).length,.own 3 1 0 (eC w.us i).length,.own 4 1 0 (jv w.us i).length]) (he:=cE) ?_;refine cY ?_;refine br (.agg [.own 24 1 0 (iN w.us i++[nT w.us ((i:Nat):Int)]).length,.own 29 1 0 (eC w.us i++[eO w.us w.us[i]!.cands]).length,.own 4 1 0 (jv w.us i).length]) (he:=cE) ?_;refine cY ?_;refine br (.agg [.own 24 1 0 (iN w.us i++[nT w.us ((i:Nat):Int)]).length,.own 29 1 0 (eC w.us i++[eO w.us w.us[i]!.cands]).length,.own 34 1 0 (jv w.us i++[jx w.us w.us[i]!.cands]).length]) (he:=cE) ?_;refine zg ?_;rw[O6,PH ae,TL ae];exact ir (i+1) [(24,2),(29,3),(34,4),(0,0),(1,1)]
 refine cU ?_;obtain rfl:i=w.us.length:=ae;refine bD 2 ?_ (he:=nj) (hm:=nj);refine bD 3 ?_ (he:=nj) (hm:=nj);refine bD 4 ?_ (he:=nj) (hm:=nj);refine cY ?_;refine iF (d:=(dx w.us).D) ?_;exact mQ
def Yr:aj:=bd 10
def w315 (hA:C138 Y)(hB:C553 Y):Jl (cn Y Yr):=λl hp0=>by
 refine zg ?_;intro u0;refine zf hm (λi=>[.u 2,.p 0 4,.i i,.i l.lines.length,.u 1,.m 9 l.lines ea.D,.u 3]) (λi=>[(0,.buf 4 [jE.D l])]) 6 (λi=>i<=l.lines.length/\bI (xe l.lines) 0 l.lines.length=bI (xe l.lines) i l.lines.length) (λi=>l.lines.length-i) ⟨ae,rfl⟩ [(0,0)] ?_;rintro i ⟨hi,hr⟩;refine zc ?_ ?_<;>intro hc0
 .refine pz ?_;refine br _ ?_;refine dt ?_;refine aV (ea.D l.lines[i]!) ?_;refine aD (hc:=hB l.lines[i]! (hp0.2.1 _ (aq ae))) ?_;refine B8 ?_;refine cC (i-1) ?_;refine zc ?_ ?_<;>intro hc1
  .refine zr ?_;have hz:xe l.lines i=false:=by
    simp only[xe];revert hc1;generalize Da l.lines[i]! =z0;generalize Op.bytesLess l.lines[i-1]!.name l.lines[i]!.name=z1;by_cases e0:0<i<;>cases z0<;>cases z1<;>simp_all
   simp only[Mf];rw[hr,ay ae,hz];simp
  refine zg ?_;have hz:xe l.lines i=true:=by
   simp only[xe];revert hc1;generalize Da l.lines[i]! =z0;generalize Op.bytesLess l.lines[i-1]!.name l.lines[i]!.name=z1;by_cases e0:0<i<;>cases z0<;>cases z1<;>simp_all
  refine fM (i+1) [(0,0)] ?_;rw[hr,ay ae,hz];rfl
 refine zr ?_;simp only[Mf];rw[hr,bA ae,fR];have h9:decide ((l.lines.length:Int)<=48)=decide (l.lines.length<=48):=kZ.2 ae;rw[h9]
def IH:aj:=bd 94
def w486:JL (cn Y IH):=λa b=>by
 refine zg ?_;intro u0 u1;refine dT ?_ ?_<;>intro hc0
 .refine zr ?_;symm;rw[b8];rintro rfl;simp at hc0
 refine zg ?_;intro u2;have hb:=Ea (show a.length=b.length by omega);refine zf hm (λi=>[.m 1 a D.str,.m 1 b D.str,.u 2,.i i,.i a.length,.u 3]) (λi=>[]) 9 (λi=>i<=a.length/\decide (a=b)=bI (λi=>decide (a[i]! =b[i]!)) i a.length) (λi=>a.length-i) ⟨ae,hb⟩ [] ?_;rintro i ⟨hi,hr⟩;refine zc ?_ ?_<;>intro hc1
 .refine zg ?_;refine wp_cond (λhc2=>?_) (λhc2=>?_)
  .simp only[cg,b8]at hc2;refine zr ?_;rw[hr,ay ae,bB hc2];rfl
  simp only[cX,aX]at hc2;refine fM (i+1) [] ?_;rw[hr,ay ae,bg hc2];rfl
 refine zr ?_;rw[hr,bA ae]
def Db:aj:=⟨2,5,[⟨2,none⟩],Pa,(sq (rg [gb 9 s0,gb 9 s1,gm OS] [(3,0),(4,1),(2,2)]) (sq (r1 [gf 0 s3,gf 0 l0,gd l1,gf 0 s4,gf 0 l3,gd l4,sI l2 l5,gm l6,uV 7 0 s3,uV 7 1 l8,rI 7 (.ld 5 true l9),uV 7 0 s4,uV 7 1 R5,rI 7 (.ld 5 true Yk),rI 7 (.eqA false true [.i .i64,.i .i64,.i .i64,.s,.s] l10 l13),K7 l7 l14,gm l15,uV 16 0 s3,uV 16 6 l17,LZ 16 l18,uV 16 0 s4,uV 16 6 l20,LZ 16 l21,rI 16 (sa l19 l22),K7 l16 l23,gm l24,uV 25 0 s3,uV 25 7 l26,LZ 25 l27,uV 25 0 s4,uV 25 7 l29,LZ 25 l30,rI 25 (sa l28 l31),K7 l25 l32,gm l33,uV 34 0 s3,uV 34 8 l35,LZ 34 l36,uV 34 0 s4,uV 34 8 l38,LZ 34 l39,rI 34 (.call 486 [l37,l40] [[.sl 1 [.a]],[.sl 1 [.a]]]),K7 l34 l41,gm l42] 2 43) .ret))⟩
def w552 (hm:(Y.at 0).bN)(hA:C486 Y):uq (cn Y Db):=λa b=>by
 refine zr ?_;obtain⟨a1,a2,a3,a4,a5⟩:=a;obtain⟨b1,b2,b3,b4,b5⟩:=b;simp only[ea.mk.injEq,Bool.decide_and,Bool.and_assoc]
def Mp:aj:=bd 52
def w551 (hm:(Y.at 0).bN)(hA:C552 Y):uq (cn Y Mp):=λa b=>by
 refine ru ?_;refine aV (ea.D a) ?_;refine cY ?_;refine aV (ea.D b) ?_;exact mQ
def zD:aj:=bd 51
def w550 (hA:C551 Y):J0 (cn Y zD):=λa b=>by
 refine zg ?_;intro u0 u1;refine dT ?_ ?_<;>intro hc0
 .refine zr ?_;symm;rw[b8];rintro rfl;simp at hc0
 refine zg ?_;intro u2;have hb:=Ea (show a.length=b.length by omega);refine zf hm (λi=>[.u 1,.m 9 b ea.D,.e (.fn 551 []),.u 2,.i i,.i a.length,.u 1,.m 9 a ea.D,.u 4]) (λi=>[]) 9 (λi=>i<=a.length/\decide (a=b)=bI (λi=>decide (a[i]! =b[i]!)) i a.length) (λi=>a.length-i) ⟨ae,hb⟩ [] ?_;rintro i ⟨hi,hr⟩;refine zc ?_ ?_<;>intro hc1
 .refine pz ?_;refine br _ ?_;refine ru ?_;refine br _ ?_;refine k9 ?_;refine B0 (hc:=λ_=>hA a[i]! b[i]!) ?_;refine zg ?_;refine wp_cond (λhc2=>?_) (λhc2=>?_)
  .simp only[cg,b8]at hc2;refine zr ?_;rw[hr,ay ae,bB hc2];rfl
  simp only[cX,aX]at hc2;refine fM (i+1) [] ?_;rw[hr,ay ae,bg hc2];rfl
 refine zr ?_;rw[hr,bA ae]
def Uw:aj:=⟨2,5,[⟨2,none⟩],Pa,(sq (rg [gb 4 s0,gb 4 s1,gm OS] [(3,0),(4,1),(2,2)]) (sq (r1 [gf 0 s3,gk 3 true l0,gf 0 s4,gk 3 true l2,gn (.eqA false true [.s,.s,.s] l1 l3),gm l4,uV 5 3 s3,LZ 5 l6,uV 5 3 s4,LZ 5 l8,rI 5 (.call 550 [l7,l9,(.c (.fn 551 []))] [[.sl 9 [.a,.a,.a,.a,.a,.a,.a,.a,.sl 1 [.a]]],[.sl 9 [.a,.a,.a,.a,.a,.a,.a,.a,.sl 1 [.a]]],[.a]]),K7 l5 l10,gm R5] 2 12) .ret))⟩
def w314 (hm:(Y.at 0).bN)(hA:C550 Y):Jk (cn Y Uw):=λa b=>by
 refine zr ?_;obtain⟨a1,a2⟩:=a;obtain⟨b1,b2⟩:=b;simp only[jE.mk.injEq,Bool.decide_and]
def Pz:aj:=bd 29
def w268 (hA:C25 Y)(hB:C159 Y):Je (cn Y Pz):=λw l hp0=>by
 refine zg ?_;intro u0;refine dT ?_ ?_<;>intro hc0
 .refine zr ?_;rw[ord_z ae];rfl
 refine zg ?_;refine zf hm (λu=>[.u 1,.m 1 l (D.int .i64),.u 2,.i u,.p 1 1,.u 11,.o 0 1 (pZ w.us l u).length]) (λu=>[(0,.buf 1 ((pZ w.us l u).map jL)),(1,.buf 1 [cA.D w])]) 7 (λu=>u<=w.us.length) (λu=>w.us.length-u) ae [(0,1)] ?_;intro u hu;have hol:=UP w.us l u;refine zg ?_;intro u1;refine dT ?_ ?_<;>intro hc1
 .refine jX ?_;have hu16:=(hp0.1 _ (aq (show u<w.us.length by omega))).1;refine zk17 ?_;intro u2;obtain⟨hk0,hk1⟩:=kQ (atI l ((u:Nat):Int)) 24 a7;rw[show kP (atI l ((u:Nat):Int)) 24=js w.us l u from rfl]at hk0 hk1⊢;refine zg ?_;refine zf hm (λi=>[.u 1,.m 1 l (D.int .i64),.u 2,.i u,.p 1 1,.u 1,.i i,.i (w.us[u]!.cands.length:Nat),.i ((js w.us l u)),.u 2,.o 2 1 (kv w.us[u]!.cands.length (js w.us l u) i).length,.u 4,.o 0 1 (pZ w.us l u).length]) (λi=>[(0,.buf 1 ((pZ w.us l u).map jL)),(1,.buf 1 [cA.D w]),(2,.buf 1 ((kv w.us[u]!.cands.length (js w.us l u) i).map (D.int .i64)))]) 27 (λi=>i<=xE w.us[u]!.cands.length (js w.us l u)) (λi=>w.us[u]!.cands.length-i) ae [(0,0),(1,1)] ?_;intro i hi;have hoc:xE w.us[u]!.cands.length (js w.us l u)<=w.us[u]!.cands.length:=by unfold xE;omega
  have hil:=MK (n:=w.us[u]!.cands.length) (k:=(js w.us l u)) i;refine pz ?_;refine AD ((js w.us l u)%5) (hn:=λ_=>a7) (hb:=λ_=>aad hk0) ?_;refine zc ?_ ?_<;>intro hc2
  .refine dt ?_;have hvb:=akE (i:=i) (k:=(js w.us l u)) ae;refine cU ?_;refine AD ((js w.us l u)%3) (hn:=λ_=>a7) (hb:=λ_=>aad hk0) ?_;refine cY ?_;refine qU (hb:=ae) ?_;refine dt ?_;refine AD (Ft w.us[u]!.cands.length (js w.us l u) i) (hn:=λ_=>ae) (hb:=λ_=>aad ae) ?_;refine zg ?_;refine zf hm (λj=>[.u 1,.m 1 l (D.int .i64),.u 2,.i u,.p 1 1,.u 1,.i i,.i (w.us[u]!.cands.length:Nat),.i ((js w.us l u)),.u 1,.i j,.o 2 1 (kv w.us[u]!.cands.length (js w.us l u) i).length,.u 1,.e (.bool (o8 (λk=>decide ((kv w.us[u]!.cands.length (js w.us l u) i)[k]! =(Ft w.us[u]!.cands.length (js w.us l u) i))) 0 j)),.i ((Ft w.us[u]!.cands.length (js w.us l u) i)),.u 1,.o 0 1 (pZ w.us l u).length]) (λj=>[(0,.buf 1 ((pZ w.us l u).map jL)),(1,.buf 1 [cA.D w]),(2,.buf 1 ((kv w.us[u]!.cands.length (js w.us l u) i).map (D.int .i64)))]) 48 (λj=>j<=(kv w.us[u]!.cands.length (js w.us l u) i).length) (λj=>(kv w.us[u]!.cands.length (js w.us l u) i).length-j) ae [(0,0),(1,1),(2,2)] ?_;intro j hj;refine zg ?_;intro _;refine dT ?_ ?_<;>intro hc3
   .refine pz ?_;refine uZ (q:=D.int .i64) (xs:=(kv w.us[u]!.cands.length (js w.us l u) i)) (v:=.int .i64 (kv w.us[u]!.cands.length (js w.us l u) i)[j]!) (hi:=λ_=>ae) (hv:=λ_=>uE) ?_;refine zg ?_;rw[XQ ae];exact ir (j+1) [(0,0),(1,1),(2,2)]
   refine cU ?_;obtain rfl:j=(kv w.us[u]!.cands.length (js w.us l u) i).length:=ae;refine zc ?_ ?_<;>intro hc4
   .refine dt ?_;refine bj [.int .i64 (Ft w.us[u]!.cands.length (js w.us l u) i)] ?_;refine cR (q:=D.int .i64) (xs:=(kv w.us[u]!.cands.length (js w.us l u) i)) (e:=(Ft w.us[u]!.cands.length (js w.us l u) i)) (hb:=ae) ?_;refine zg ?_;rw[akB hc4];refine zl (i+1) [(0,0),(1,1),(57,2)] ?_;exact(by unfold xE;omega)
   refine zg ?_;rw[akA hc4];refine zl (i+1) [(0,0),(1,1),(2,2)] ?_;exact(by unfold xE;omega)
  refine cU ?_;obtain rfl:i=xE w.us[u]!.cands.length (js w.us l u):=by unfold xE at hi⊢;omega
  rw[show kv w.us[u]!.cands.length (js w.us l u) (xE w.us[u]!.cands.length (js w.us l u))=Fs w.us l u from rfl]at hil⊢;refine bD 2 ?_ (he:=KP) (hm:=KP);refine dt ?_;refine bj [jL (Fs w.us l u)] ?_;refine cR (q:=jL) (xs:=(pZ w.us l u)) (e:=Fs w.us l u) (hb:=ae) ?_;refine zg ?_;rw[aeq];exact ir (u+1) [(39,0),(1,1)]
 refine cU ?_;obtain rfl:u=w.us.length:=ae;rw[<-ord_e ae];refine bD 0 ?_ (he:=KP) (hm:=KP);exact mQ
def Qv:aj:=bd 280
def w882:KB (cn Y Qv):=λn hp0=>by
 refine k9 ?_;refine AD ((n%10:Nat):Int) (hn:=by intro _;omega) (hb:=λ_=>rfl) ?_;refine m5 ((n%10:Nat):Int) (hb:=λ_=>IntWalk.u8_in _ ae) ?_;refine DB (((dg (n%10)).toNat:Nat):Int) (hb:=λ_=>by rw[afJ ae];exact IntWalk.u8_in _ ae) ?_;refine bj [.int .u8 _] ?_;refine M1 [dg (n%10)] (he:=λ_=>nk.all ah rfl) (hs:=λ_=>rfl) ?_;refine zg ?_;have h0:nO n=(if n<10 then []else nO (n/10))++[dg (n%10)]:=by
  split
  .rename_i h;rw[BJ h,Nat.mod_eq_of_lt h];rfl
  .rw[BI ae]
 refine zfx hm ((n,[dg (n%10)]):(Nat×av)) (λp=>[.e (.int .u64 (p.1:Nat)),.u 2,.e (.str p.2)]) (λp=>[]) 8 (λp=>p.1<=9999/\p.2.length<=9999-p.1+1/\nO n=(if p.1<10 then []else nO (p.1/10))++p.2) (λp=>p.1) ⟨hp0,aF,h0⟩ [] ?_;rintro⟨k,s⟩ ⟨hk,hs,hr⟩;dsimp only at hk hs hr⊢;refine zc ?_ ?_<;>intro hc0
 .refine fw ?_;refine r_quo ((k/10:Nat):Int) (hn:=by intro _;omega) (hb:=λ_=>by rw[show((k:Int).tdiv 10)=((k/10:Nat):Int)from rfl,IntKind.wrap_u64];omega) ?_;refine fw ?_;refine AD (((k/10)%10:Nat):Int) (hn:=by intro _;omega) (hb:=λ_=>rfl) ?_;refine m5 (((k/10)%10:Nat):Int) (hb:=λ_=>IntWalk.u8_in _ ae) ?_;refine DB (((dg ((k/10)%10)).toNat:Nat):Int) (hb:=λ_=>by rw[afJ ae];exact IntWalk.u8_in _ ae) ?_;refine bj [.int .u8 _] ?_;refine M1 [dg ((k/10)%10)] (he:=λ_=>nk.all ah rfl) (hs:=λ_=>rfl) ?_;refine zg ?_;have h1:nO n=(if k/10<10 then []else nO (k/10/10))++([dg (k/10%10)]++s):=by
   rw[hr,ai ae];split
   .rename_i h;rw[BJ h,Nat.mod_eq_of_lt h];rfl
   .rw[BI ae,fF]
  exact⟨(k/10,[dg (k/10%10)]++s),⟨k8,eJ,h1⟩,k8,(gtt [])⟩
 refine zr ?_;rw[hr,ak ae];rfl
def Nx:aj:=bd 240
def w734 (hm:(Y.at 0).bN)(hA:C882 Y):oU (cn Y Nx):=λn hp0=>by
 refine zc ?_ ?_<;>intro hc0
 .omega
 refine cU ?_;obtain⟨k,rfl⟩:∃k:Nat,n=k:=⟨n.toNat,ae⟩
 refine cY ?_;refine m5 (k:Int) (hb:=λ_=>wu) ?_;exact mQ
def Qt:aj:=bd 191
def w470:um (cn Y Qt):=λs b hp0=>by
 refine zg ?_;refine gG hm (ι:=(Nat×Nat×List av)) (λp:Nat×Nat×List av=>[⟨true,.str s⟩,⟨true,.int .u8 b⟩,.un,⟨true,.int .i64 (p.1:Nat)⟩,.un,.un,⟨true,.own 0 1 0 p.2.2.length⟩,⟨true,.int .i64 (p.2.1:Nat)⟩]) (λp=>[(0,.buf 1 (p.2.2.map D.str))]) 4 (λp=>p.1<=s.length/\p.2.1<=p.1/\p.2.2.length<=p.1/\aQ s b=p.2.2++fD b (s.drop p.1) ((s.take p.1).drop p.2.1)) (λp=>s.length-p.1) (0,0,[]) ⟨aF,aF,aF,rfl⟩ (aZ.to [] ah ah abr (by repeat(first|exact bn.nil|refine bn.mt ah ah ah ah ?_))) ?_;rintro⟨i,fr,acc⟩ ⟨hi,hf,ha,hr⟩;dsimp only at hi hf ha hr⊢;refine zg ?_;intro u0;refine dT ?_ ?_<;>intro hc0
 .refine zg ?_;refine wp_cond (λhc1=>?_) (λhc1=>?_)
  .try simp only[gL]at hc1
   refine jX ?_;refine bj [(.str _)] ?_;refine zg ?_;exact⟨(i+1,i+1,acc++[(s.take i).drop fr]),⟨k8,k8,eJ,by rw[hr,GK ae hc1];simp⟩,k8,(aZ.to [(19,0)] ah ah UY (by refine bn.nl 19 ah ah ah dL ?_;exact bn.nil))⟩
  simp only[b8]at hc1;refine zg ?_;exact⟨(i+1,fr,acc),⟨k8,k8,k8,by rw[hr,GL ae ae hc1]⟩,k8,(aZ.to [(0,0)] ah ah UY KM)⟩
 refine ru ?_;refine bj [(.str _)] ?_;refine dt ?_;refine bD 13 ?_;refine zr ?_;have hs:aQ s b=acc++[s.drop fr]:=by rw[hr,Eh ae]
 rw[hs];exact rfl
def Vu:aj:=bd 133
def w701 (hm:(Y.at 0).bN)(hA:yB Y)(hB:V0 Y):ux (cn Y Vu):=λa b hp0=>by
 exact mQ
def FA:aj:=bd 132
def w700 (hm:(Y.at 0).bN)(hA:C701 Y):Kk (cn Y FA):=λx nm v hp0=>by
 exact mQ
def rh:aj:=bd 131
def w699 (hA:C700 Y):Kj (cn Y rh):=λl nm v hp0=>by
 refine zg ?_;intro u0;refine zf hm (λi=>[.m 11 l j8.D,.e (.fn 700 [.ref 1 [.str nm] 0 0,.ref 5 [bO.D v] 0 0]),.u 1,.i i,.i l.length,.u 3]) (λi=>[]) 4 (λi=>i<=l.length/\r7 l nm v 0=r7 l nm v i) (λi=>l.length-i) ⟨ae,rfl⟩ [] ?_;rintro i ⟨hi,hr⟩;refine zc ?_ ?_<;>intro hc0
 .refine EH ?_;refine B0 (hc:=λ_=>hA l[i]! nm v ⟨hp0.1 _ (aq ae),hp0.2⟩) ?_;refine zc ?_ ?_<;>intro hc1
  .refine zr ?_;rw[hr,Zj ae hc1]
  refine fM (i+1) [] ?_;rw[hr,Zk ae hc1]
 refine zr ?_;rw[hr,Sz ae]
def NW:aj:=bd 82
def w511 (hm:(Y.at 0).bN)(hA:C699 Y):ui (cn Y NW):=λl nm v hp0=>by
 refine k9 ?_;refine bD 0 ?_;refine bD 1 ?_;refine cU ?_;refine ZJ [.ref 1 [.str nm] 0 0,.ref 5 [bO.D v] 0 0] ?_;exact mQ
def Vt:aj:=bd 76
def w353 (hA:C74 Y)(hB:Tx Y)(hC:C511 Y):uc (cn Y Vt):=λs hp0=>by
 refine zg ?_;refine aH (λhc0=>?_) (λhc0=>?_)
 .simp only[cW,cg,aX]at hc0;have hf:gy s=false:=by
   unfold gy;rcases hc0 with h|h
   .rw[h];rfl
   .rw[show decide (s.es.length<=64)=false from bB ae];simp
  refine zr ?_;exact hf.symm
 simp only[dX,cX,b8]at hc0;have hq:gy s=bI (sr s.es) 0 s.es.length:=by unfold gy;rw[hc0.1,bg (show s.es.length<=64 by omega)];simp
 refine zg ?_;intro u0;refine zf hm (λi=>[.u 2,.p 0 2,.u 1,.i i,.i s.es.length,.u 1,.m 11 s.es j8.D,.u 5]) (λi=>[(0,.buf 2 [cj.D s])]) 16 (λi=>i<=s.es.length/\gy s=bI (sr s.es) i s.es.length) (λi=>s.es.length-i) ⟨ae,hq⟩ [(0,0)] ?_;rintro i ⟨hi,hr⟩;refine zc ?_ ?_<;>intro hc1
 .refine dt ?_;have hsm:=hp0 _ (aq (show i<s.es.length by omega));refine jb ?_;refine jb ?_;refine dt ?_;refine ala (q:=j8.D) i (hj:=λ_=>rfl) (hb:=λ_=>ae) ?_;refine jX ?_;refine bX (hc:=λhf=>hC (s.es.take i) s.es[i]!.r.name s.es[i]!.r.v ⟨λx hx=>(hp0 x (zQ hx)).1.2,hsm.1.2⟩) ?_;refine zg ?_;refine wp_cond (λhc2=>?_) (λhc2=>?_)
  .have hen:sr s.es i=false:=by
    unfold sr;simp only[cW,cg,aX,b8]at hc2;simp only[ew,b8];rcases hc2 with(h|h)|h
    .exact .inl (.inl h)
    .exact .inl (.inr h)
    .exact .inr ae
   refine zr ?_;rw[hr,ay ae,hen];rfl
  have hen:sr s.es i=true:=by
   unfold sr;simp only[dX,cX,aX,b8]at hc2;simp only[aK,aX];exact⟨hc2.1,ae⟩
  refine fM (i+1) [(0,0)] ?_;rw[hr,ay ae,hen];rfl
 refine zr ?_;rw[hr,bA ae]
def Mu:aj:=bd 33
def w138 (hA:Ty Y):tQ (cn Y Mu):=λe=>by
 refine zg ?_;refine zf hm (λi=>[.u 2,.p 0 3,.i i,.u 1,.e (Env.D e),.u 2]) (λi=>[(0,.buf 3 [Env.D e])]) 5 (λi=>i<=3/\pd e=bI (λi=>decide (e.at i=[]) ||gC (e.at i)) i 3) (λi=>3-i) ⟨ae,rfl⟩ [(0,0)] ?_;rintro i ⟨hi,hr⟩;refine zc ?_ ?_<;>intro hc0
 .refine dt ?_;refine af8 i (.str (e.at i)) (hv:=λ_=>Env.cut e ae) ?_;refine zg ?_;refine wp_cond (λhc1=>?_) (λhc1=>?_)
  .simp only[aK,cg,b8]at hc1;refine zr ?_;rw[hr,ay ae];rw[bB hc1.1,hc1.2];rfl
  simp only[ew,cX,aX]at hc1;refine fM (i+1) [(0,0)] ?_;rw[hr,ay ae];rw[show(decide (e.at i=[]) ||gC (e.at i))=true by rw[cW,aX];exact hc1];rfl
 refine zr ?_;rw[hr,bA ae]
def Fl:aj:=bd 37
def w553 (hA:Tx Y)(hB:yB Y)(hC:Ty Y):J1 (cn Y Fl):=λx hp0=>by
 refine zg ?_;intro u0;refine zf hm (λi=>[.u 2,.p 0 9,.i i,.i x.feats.length,.u 1,.m 1 x.feats D.str,.u 4]) (λi=>[(0,.buf 9 [ea.D x])]) 7 (λi=>i<=x.feats.length/\bI (Ad x.feats) 0 x.feats.length=bI (Ad x.feats) i x.feats.length) (λi=>x.feats.length-i) ⟨ae,rfl⟩ [(0,0)] ?_;rintro i ⟨hi,hr⟩;refine zc ?_ ?_<;>intro hc0
 .refine jb ?_;refine pz ?_;refine cC (i-1) ?_;refine zc ?_ ?_<;>intro hc1
  .refine zr ?_;have hz:Ad x.feats i=false:=by
    simp only[Ad];revert hc1;generalize gC x.feats[i]! =z0;generalize Op.bytesLess x.feats[i-1]! x.feats[i]! =z1;by_cases e0:0<i<;>cases z0<;>cases z1<;>simp_all
   simp only[Da];rw[hr,ay ae,hz];simp
  refine zg ?_;have hz:Ad x.feats i=true:=by
   simp only[Ad];revert hc1;generalize gC x.feats[i]! =z0;generalize Op.bytesLess x.feats[i-1]! x.feats[i]! =z1;by_cases e0:0<i<;>cases z0<;>cases z1<;>simp_all
  refine fM (i+1) [(0,0)] ?_;rw[hr,ay ae,hz];rfl
 refine jb ?_;refine jb ?_;refine k9 ?_;refine bX (hc:=λhf=>hB x.v hp0.1) ?_;refine zr ?_;simp only[Da];rw[hr,bA ae];have h9:decide ((x.feats.length:Int)<=9)=decide (x.feats.length<=9):=kZ.2 ae;rw[h9];have hc:x.shelf=[]->dc x.shelf=false:=by intro e;rw[e];rfl
 revert hc;generalize dc x.name=a;generalize fT x.v=b;generalize dc x.shelf=c;generalize decide (x.feats.length<=9)=d;by_cases e:x.shelf=[]<;>by_cases e2:x.sum=0<;>cases a<;>cases b<;>cases c<;>cases d<;>simp_all
def Vd:aj:=bd 155
def w249:Jc (cn Y Vd):=λl x hp0=>by
 refine zg ?_;refine zf hm (λi=>[.m 1 l D.str,.e (.int .u8 (x.toNat:Nat)),.u 1,.i i,.u 2,.e (.str (b6 [x] (l.take i)))]) (λi=>[]) 3 (λi=>i<=l.length) (λi=>l.length-i) ae [] ?_;intro i hi;refine zg ?_;intro u0;refine dT ?_ ?_<;>intro hc0
 .refine fw ?_;have hj:=F4 [x] l (i+1);refine zg ?_;refine aH (λhc1=>?_) (λhc1=>?_)
  .simp only[aX]at hc1;have ht:=C4 [x] l i ae;rw[ak ae]at ht;have htl:=ar List.length ht;simp only[bV,List.length_singleton]at htl;refine dt ?_;refine bj [.int .u8 _] ?_;refine M1 [x] (he:=λ_=>nk.all ah rfl) (hs:=λ_=>rfl) ?_;refine zg ?_;exact⟨i+1,ae,ae,(aZ.to [] ah ah (by repeat(first|exact eX.nil|refine eX.un ?_|refine eX.eq ah ?_|refine eX.nl (ar D.str (by rw[ht])) ah ?_)) xJ)⟩
  simp only[b8]at hc1;have ht:=C4 [x] l i ae;rw[ai ae]at ht;have htl:=ar List.length ht;simp only[bV,b7]at htl;have hi0:i=0:=ae;refine ru ?_;refine zn (hb:=λ_=>by first|(simp only[bV,List.length_singleton];omega)|(subst hi0;simp only[List.take_zero,b6,b7]at htl⊢;omega)) ?_;refine zg ?_;exact⟨i+1,ae,ae,(aZ.to [] ah ah (by repeat(first|exact eX.nil|refine eX.un ?_|refine eX.eq ah ?_|refine eX.nl (ar D.str (by rw[ht];subst hi0;rfl)) ah ?_)) xJ)⟩
 refine zr ?_;rw[fE ae]
def Nz:aj:=bd 239
def w815:Kw (cn Y Nz):=λl=>by
 refine zg ?_;refine zfx hm (1:Nat) (λi=>[.m 1 l D.str,.u 1,.i i,.u 2]) (λi=>[]) 2 (λi=>1<=i/\(i<=l.length\/i=1)/\rising l=bI (λi=>Op.bytesLess l[i-1]! l[i]!) i l.length) (λi=>l.length-i) ⟨ae,ae,rfl⟩ [] ?_;rintro i ⟨h1,hi,hr⟩;refine zg ?_;intro u0;refine dT ?_ ?_<;>intro hc0
 .refine jX ?_;refine cC (i-1) ?_;refine zg ?_;refine wp_cond (λhc1=>?_) (λhc1=>?_)
  .simp only[cg]at hc1;refine zr ?_;rw[hr,ay ae,hc1];rfl
  simp only[cX]at hc1;refine zl (i+1) [] ?_;exact⟨ae,ae,by rw[hr,ay ae,hc1];rfl⟩
 refine zr ?_;rw[hr,bA ae]
def DQ:aj:=bd 213
def w904 (hA:C907 Y)(hB:VV Y):KE (cn Y DQ):=λr e o hp0=>by
 refine cY ?_;have hns:=gh hp0.1;refine zg ?_;refine zf hm (λi=>[.u 2,.e (.str o),.u 1,.i i,.p 1 9,.u 2,.p 2 3,.u 1,.o 0 1 ((qR (r.needs.take i) e o)).length]) (λi=>[(0,.buf 1 (((qR (r.needs.take i) e o)).map dU)),(1,.buf 9 [Rec.D r]),(2,.buf 3 [Env.D e])]) 5 (λi=>i<=r.needs.length) (λi=>r.needs.length-i) ae [(0,1),(1,2)] ?_;intro i hi;have hol:=(xB (ns:=r.needs.take i) (e:=e) (o:=o) λn hn=>hns.2 n (Ep hn)).1;rw[ey]at hol;refine zg ?_;intro u0;refine dT ?_ ?_<;>intro hc0
 .refine B8 ?_;refine br _ ?_;refine qp ?_;refine bX (hc:=λhf=>hA _ (e) ?_) ?_;rotate_left;first|assumption|omega|exact⟨hns.2 _ (aq ae),hp0.1.2.2.1 _ (aq ae)⟩|exact⟨(hp0.1.2.2.1 _ (aq ae)).2.1,hp0.2⟩
  refine zc ?_ ?_<;>intro hc1
  .refine cY ?_;have hrl:=(tJ (hns.2 _ (aq (show i<r.needs.length by omega)))).1;refine cU ?_;refine aD (hc:=hB _ ?_) ?_;rotate_left;first|assumption|omega|exact⟨hns.2 _ (aq ae),hp0.1.2.2.1 _ (aq ae)⟩|exact⟨(hp0.1.2.2.1 _ (aq ae)).2.1,hp0.2⟩
   refine pn (q:=dU) (xs:=(qR (r.needs.take i) e o)) (ys:=iG r.needs[i]!) (he:=nk.sl) (hb:=ae) ?_;refine zg ?_;rw[<-akz hc1,Zb ae];exact ir (i+1) [(30,0),(1,1),(2,2)]
  refine zg ?_;rw[show(qR (r.needs.take i) e o)=qR (r.needs.take (i+1)) e o from by rw[<-Zb ae,aky hc1,fZ]];exact ir (i+1) [(0,0),(1,1),(2,2)]
 refine cU ?_;obtain rfl:i=r.needs.length:=ae;rw[List.take_length];refine bD 0 ?_;exact mQ
def NA:aj:=bd 28
def w267 (hA:C46 Y)(hB:C505 Y):Jd (cn Y NA):=λw od hp0=>by
 refine cY ?_;obtain⟨⟨hw,hwb⟩,hop⟩:=hp0;have hs16:∀x∈w.us,x.cands.length<=16:=λx hx=>(hw.1.1 x hx).1
 have hmp:=maskP hwb hs16 hw.2;have hwl:=hw.1.2;refine zg ?_;refine zf hm (λi=>[.u 3,.i i,.p 1 1,.u 1,.o 0 1 (n9 i).length,.p 2 2]) (λi=>[(0,.buf 1 ((n9 i).map (D.int .i64))),(1,.buf 1 [cA.D w]),(2,.buf 2 [Ask.D (⟨[],od⟩:Ask)])]) 5 (λi=>i<=w.us.length) (λi=>w.us.length-i) ae [(0,1),(1,2)] ?_;intro i hi;have hnl:=UG i;refine zg ?_;intro u0;refine dT ?_ ?_<;>intro hc0
 .refine fw ?_;refine bj [.int .i64 (-1)] ?_;refine cR (q:=D.int .i64) (xs:=n9 i) (e:=-1) (hb:=ae) ?_;refine zg ?_;rw[UF];exact ir (i+1) [(12,0),(1,1),(2,2)]
 refine cU ?_;obtain rfl:i=w.us.length:=ae;refine bD 0 ?_;refine cY ?_;refine iF (d:=cA.D w) ?_;refine cY ?_;refine iF (d:=Ask.D (⟨[],od⟩:Ask)) ?_;refine cY ?_;refine aD (hc:=hB (dx w.us) od (n9 w.us.length) ⟨⟨hmp,sL _⟩,hop⟩) ?_;refine zg ?_;obtain⟨os,h1,h2⟩:∃os,mC (dx w.us) od (n9 w.us.length)=os/\jV w.us od=os:=⟨_,rfl,rfl⟩
 rw[h1,h2];cases os<;>exact QE trivial Fx lO rfl
def Nu:aj:=⟨2,7,[⟨2,none⟩],Pa,(sq (rg [gb 2 s1,gm yW] [(5,0),(2,1)]) (sq (sq (r1 [gm yW] 3 0) (.block 0 (.loop (sq (sq (r1 [gm s3,gm s0,gl l1,mL l0 l2] 4 3) (gce s4 0)) (sq (.block 1 (sq (r2 [gm s0,gm s3,ga 2 l0 l1,gk 2 true l2,gk 2 true s5,gn (.eqA false true [.s,.s] l3 l4)] 6 5) (.cond s6 (sq (r1 [gm s3,gm l0] 2 1) .ret) .skip))) (r1 [gm s3,pj l0 R2,gm l1] 3 2)))))) (sq (r1 [gn (.mv (.c (.int .i64 (-1))))] 2 0) .ret)))⟩
def w903:KD (cn Y Nu):=λl k=>by
 refine zg ?_;refine zf hm (λi=>[.m 2 l Key.D,.u 2,.i i,.u 1,.p 0 2,.u 1]) (λi=>[(0,.buf 2 [Key.D k])]) 3 (λi=>i<=l.length/\eu l k=iD (λx=>decide (x=k)) (l.drop i) i) (λi=>l.length-i) ⟨ae,rfl⟩ [(0,0)] ?_;rintro i ⟨hi,hr⟩;refine zg ?_;intro u0;refine dT ?_ ?_<;>intro hc0
 .refine zc ?_ ?_<;>intro hc1
  .refine zr ?_;rw[hr,nV ae ox]
  refine fM (i+1) [(0,0)] ?_;rw[hr,lF ae ox]
 refine zr ?_;rw[hr,nU ae]
def P6:aj:=bd 253
def w955:KJ (cn Y P6):=λl nm=>by
 refine zg ?_;refine zf hm (λi=>[.m 2 l bY.D,.e (.str nm),.u 1,.i i,.u 2]) (λi=>[]) 2 (λi=>i<=l.length/\findF l nm 0=findF l nm i) (λi=>l.length-i) ⟨ae,rfl⟩ [] ?_;rintro i ⟨hi,hr⟩;refine zg ?_;intro u0;refine dT ?_ ?_<;>intro hc0
 .refine zc ?_ ?_<;>intro hc1
  .refine zr ?_;rw[hr,XB ae hc1]
  refine fM (i+1) [] ?_;rw[hr,XC ae hc1]
 refine zr ?_;rw[hr,T1 ae]
def Fo:aj:=bd 19
def w112 (hm:(Y.at 0).bN)     :wkk Y Fo (.sl 5 (bT.map bO.D)) []:=by
 refine fw ?_;refine cq _ ?_;refine cq _ ?_;refine cq _ ?_;refine cq _ ?_;refine bj (bT.map bO.D) ?_;refine cU ?_;refine bD 5 ?_;exact mQ
end Go.Abs
end
