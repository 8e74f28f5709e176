/- A part of the proofs. -/
import Derived.Test.YtkmlboofmolbaaaGreatDoorP09
set_option linter.all false
set_option maxRecDepth 60000
set_option maxHeartbeats 2000000
noncomputable section
namespace Go.Abs
variable {Y:Ctx}(hm:(Y.at 0).cb)
def EX:aj:=bj 15
def w93 (hA:C25 Y)(hB:C29 Y)(hC:C112 Y):Qp (cz Y EX):=λl pa pw pb hp0=>by
 show dx _ _ _ [⟨_,_⟩,⟨_,_⟩,⟨_,_⟩,⟨_,_⟩,_,_,_,_,_,_,_,_,_,_,_,_,_,_,_,_,_,_] _;obtain⟨k,hk⟩:∃k:Nat,k=(bo pa l.lines.length).toNat:=⟨_,rfl⟩
 have hsz:=hp0.1;refine aQ ?_;refine kF ?_;refine bT _ ?_;refine cN ?_;refine bY _ ?_;refine zg ?_;refine gp hm (ι:=Nat) (λi=>[.un,⟨true,.int .i64 pa⟩,⟨true,.int .i64 pw⟩,⟨true,.int .i64 pb⟩,⟨true,.ptr 1 4 0 0⟩,⟨true,.ptr 0 4 0 0⟩,⟨true,.int .i64 (i:Nat)⟩,.un,.un,⟨true,.ptr 5 4 0 0⟩,.un,.un,.un,.un,.un,.un,.un,.un,.un,.un,.un,.un]) (λi=>[(0,.buf 4 [kD.D l]),(1,.buf 4 [.agg [.str [],.str [],.str [],.aL]]),(5,.buf 4 [.agg [.str l.env.e0,.str l.env.e1,.str l.env.e2,.own 2 9 0 (List.range i).length]]),(2,.buf 9 ((List.range i).map (bq 3 l.lines[k]!.feats.length l.lines k))),(3,.buf 1 (if k<i then l.lines[k]!.feats.map D.str else []))]) 8 (λi=>i<=l.lines.length) (λi=>l.lines.length-i) 0 aB (aY.to [(0,0),(1,1),(5,5)] ah ah Pa (by(refine bp.vO ah ah rfl ?_);(refine bp.vO ah ah rfl ?_);refine bp.ni 5 ah ah (by exact⟨_,_,rfl,⟨_,rfl,⟨_,_,rfl,⟨rfl,rfl⟩,⟨_,_,rfl,⟨rfl,rfl⟩,⟨_,_,rfl,⟨rfl,rfl⟩,⟨_,_,rfl,Or.inr ⟨_,_,_,rfl⟩,rfl⟩⟩⟩⟩⟩,rfl⟩) ?_;refine bp.mt ah ah ah ah ?_;refine bp.mt ah ah ah aB ?_;exact bp.nil)) ?_;intro i hi;refine zg ?_;intro u0;refine dN ?_ ?_<;>intro hc0
 .refine dI ?_;have hx:=hp0.2.1 _ (aq (show i<l.lines.length by omega));have hxf:=hx.2.2.2.1;refine yx ?_;by_cases hik:i=k
  .refine cC ?_;refine qU (n:=l.lines[i]!.feats.length) (he:=lW.sl) (hn:=aB) ?_;refine cN ?_;refine bY (dr.F l.lines[i]!.name l.lines[i]!.v l.lines[i]!.shelf l.lines[i]!.sum (.own 22 1 0 l.lines[i]!.feats.length)) (he:=cZ) ?_;refine kI ?_;refine bc [dr.F l.lines[i]!.name l.lines[i]!.v l.lines[i]!.shelf l.lines[i]!.sum (.own 22 1 0 l.lines[i]!.feats.length)] ?_;refine rE ((List.range (i+1)).map (bq 22 l.lines[k]!.feats.length l.lines k)) (n:=(List.range (i+1)).length) (ha:=aB) (he:=lW.all (es:=[dr.F l.lines[i]!.name l.lines[i]!.v l.lines[i]!.shelf l.lines[i]!.sum (.own 22 1 0 l.lines[i]!.feats.length)]) rfl rfl) (hz:=by rw[cR,fj aB];exact(by rw[hik];exact bq_eq rfl)) (hn:=aB) (hb:=dR) ?_;refine zg ?_;exact⟨i+1,ae,ae,(aY.to [(0,0),(1,1),(5,5),(29,2),(22,3)] ah ah Pa (by(refine bp.vO ah ah rfl ?_);(refine bp.vO ah ah rfl ?_);refine bp.KD ah ah ah ?_;refine bp.eq 29 ah ah (afE rfl _) ?_;refine bp.nl 22 ah ah (by rw[ak ae,hik]) (by exact bQ (λ_=>rfl) _) ?_;exact bp.nil))⟩
  .refine cC ?_;refine qU (n:=l.lines[i]!.feats.length) (he:=lW.sl) (hn:=aB) ?_;refine cN ?_;refine bY (dr.F l.lines[i]!.name l.lines[i]!.v l.lines[i]!.shelf l.lines[i]!.sum (.own 22 1 0 l.lines[i]!.feats.length)) (he:=cZ) ?_;refine cN ?_;refine bm 22 ?_ (he:=aaG) (hm:=aaG);refine eX ?_;refine bc [dr.D l.lines[i]!] ?_;refine rE ((List.range (i+1)).map (bq 3 l.lines[k]!.feats.length l.lines k)) (n:=(List.range (i+1)).length) (ha:=aB) (he:=lW.all (es:=[dr.D l.lines[i]!]) rfl rfl) (hz:=by rw[cR,fj aB];exact bq_ne hik) (hn:=aB) (hb:=dR) ?_;refine zg ?_;exact⟨i+1,ae,ae,(aY.to [(0,0),(1,1),(5,5),(29,2),(3,3)] ah ah Pa (by(refine bp.vO ah ah rfl ?_);(refine bp.vO ah ah rfl ?_);refine bp.KD ah ah ah ?_;refine bp.eq 29 ah ah (afE rfl _) ?_;refine bp.nl 3 ah ah (by simp only[show(k<i+1)=(k<i)from propext ae]) (by split<;>first|rfl|exact bQ (λ_=>rfl) _) ?_;exact bp.nil))⟩
 refine eX ?_;obtain rfl:i=l.lines.length:=ae;simp only[List.length_range];refine zg ?_;intro u1;refine aR (λhc1=>?_) (λhc1=>?_)
 .try simp only[gJ]at hc1
  refine cN ?_;have hnil:l.lines=[]:=lh ae;rw[show(List.range l.lines.length).map (bq 3 l.lines[k]!.feats.length l.lines k)=l.lines.map dr.D by simp[hnil]];refine bm 2 ?_ (he:=lI) (hm:=lI);refine cC ?_;refine bY _ ?_;refine zr ?_;rw[show hY l pa pw pb=l by simp[hY,hnil]];exact rfl
 simp only[cy]at hc1;have hnil:¬l.lines=[]:=λh=>hc1 (by rw[h];rfl)
 have hpl:=c9 pa l.lines.length ae;have hkp:bo pa l.lines.length=(k:Int):=ae;have hkn:k<l.lines.length:=ae;have hpw:=c9 pw 8 ae;rw[ak hkn];refine Fc ?_;intro u2;refine sI k (hj:=λ_=>hkp) (hb:=λ_=>by first|omega|(simp;omega)) ?_;rw[bX];refine zc ?_ ?_<;>intro hc2
 .refine bm 3 ?_ (hm:=wB);refine cN ?_;have hpb:=c9 pb 7 ae;refine cN ?_;refine bc (nm7.map D.str) ?_;refine cC ?_;refine sI (bo pb 7).toNat (hj:=λ_=>ae) (hb:=λ_=>ae) ?_;rw[bX];refine oX (v:=.str nm7[(bo pb 7).toNat]!) (hi:=λ_=>by simp[nm7];omega) ?_;refine cC ?_;refine lD ((l.lines.set k {l.lines[k]! with name:=nm7[(bo pb 7).toNat]!}).map dr.D) (hi:=dR) (he:=yp hkn rfl) ?_;refine cC ?_;refine bm 2 ?_ (he:=lI) (hm:=lI);refine cC ?_;refine bY _ ?_;refine zr ?_;rw[show hY l pa pw pb=⟨l.env,l.lines.set k {l.lines[k]! with name:=nm7[(bo pb 7).toNat]!}⟩by simp[hY,hnil,<-hk,hc2]];exact rfl
 refine zc ?_ ?_<;>intro hc3
 .refine bm 3 ?_ (hm:=wB);refine cN ?_;have hpb:=c9 pb 4 ae;refine eX ?_;refine cM (bo pb 4).toNat (hj:=λ_=>ae) (hb:=λ_=>by simp[bJ];omega) ?_;refine dd (v:=ca.D bJ[(bo pb 4).toNat]!) (hi:=λ_=>by simp[bJ];omega) ?_;refine cC ?_;refine lD ((l.lines.set k {l.lines[k]! with v:=bJ[(bo pb 4).toNat]!}).map dr.D) (hi:=dR) (he:=yp hkn rfl) ?_;refine cC ?_;refine bm 2 ?_ (he:=lI) (hm:=lI);refine cC ?_;refine bY _ ?_;refine zr ?_;rw[show hY l pa pw pb=⟨l.env,l.lines.set k {l.lines[k]! with v:=bJ[(bo pb 4).toNat]!}⟩by simp[hY,hnil,<-hk,hc2,hc3]];exact rfl
 refine zc ?_ ?_<;>intro hc4
 .refine bm 3 ?_ (hm:=wB);refine cN ?_;have hpb:=c9 pb 5 ae;refine cN ?_;refine bc (sh5.map D.str) ?_;refine cC ?_;refine sI (bo pb 5).toNat (hj:=λ_=>ae) (hb:=λ_=>ae) ?_;rw[bX];refine oX (v:=.str sh5[(bo pb 5).toNat]!) (hi:=λ_=>by simp[sh5];omega) ?_;refine cC ?_;refine lD ((l.lines.set k {l.lines[k]! with shelf:=sh5[(bo pb 5).toNat]!}).map dr.D) (hi:=dR) (he:=yp hkn rfl) ?_;refine cC ?_;refine bm 2 ?_ (he:=lI) (hm:=lI);refine cC ?_;refine bY _ ?_;refine zr ?_;rw[show hY l pa pw pb=⟨l.env,l.lines.set k {l.lines[k]! with shelf:=sh5[(bo pb 5).toNat]!}⟩by simp[hY,hnil,<-hk,hc2,hc3,hc4]];exact rfl
 refine zc ?_ ?_<;>intro hc5
 .refine bm 3 ?_ (hm:=wB);refine cN ?_;have hpb:=c9 pb 3 ae;refine qo ?_;refine qb (bo pb 3) (hb:=λ_=>yz) ?_;refine Pb _ (hb:=λ_=>rfl) ?_;refine cC ?_;refine lD ((l.lines.set k {l.lines[k]! with sum:=IntKind.u64.wrap (l.lines[k]!.sum+bo pb 3)}).map dr.D) (hi:=dR) (he:=yp hkn rfl) ?_;refine cC ?_;refine bm 2 ?_ (he:=lI) (hm:=lI);refine cC ?_;refine bY _ ?_;refine zr ?_;rw[show hY l pa pw pb=⟨l.env,l.lines.set k {l.lines[k]! with sum:=IntKind.u64.wrap (l.lines[k]!.sum+bo pb 3)}⟩by simp[hY,hnil,<-hk,hc2,hc3,hc4,hc5]];exact rfl
 refine zc ?_ ?_<;>intro hc6
 .refine cN ?_;have hpb:=c9 pb 3 ae;refine eX ?_;refine oX (v:=.own 3 1 0 l.lines[k]!.feats.length) (hi:=λ_=>dR) (hv:=λ_=>ahm hkn) ?_;refine bc (ft3.map D.str) ?_;refine cC ?_;refine sI (bo pb 3).toNat (hj:=λ_=>ae) (hb:=λ_=>ae) ?_;rw[bX];refine oX (v:=.str ft3[(bo pb 3).toNat]!) (hi:=λ_=>by simp[ft3];omega) ?_;refine bc [(.str _)] ?_;refine cL (xs:=l.lines[k]!.feats) (hb:=by have:=(hp0.2.1 _ (aq hkn)).2.2.2.1;omega) ?_;refine cC ?_;refine lD ((List.range l.lines.length).map (bq 51 (l.lines[k]!.feats++[ft3[(bo pb 3).toNat]!]).length l.lines k)) (hi:=dR) (he:=bq_st hkn) ?_;refine cC ?_;refine bm 51 ?_ (hm:=by simp only[uJ,iz,lu,wF,Aa,cT,Nat.reduceEqDiff,a8,aW,fS,dG,dh,fG,fR,bX,aZ,aN,cR,br,reduceCtorEq,bE,b8,Nat.reduceAdd,Nat.reduceLeDiff,W7 hkn];exact rfl);refine bm 2 ?_ (he:=lI) (hm:=lI);refine cC ?_;refine bY _ ?_;refine zr ?_;rw[show hY l pa pw pb=⟨l.env,l.lines.set k {l.lines[k]! with feats:=l.lines[k]!.feats++[ft3[(bo pb 3).toNat]!]}⟩by simp[hY,hnil,<-hk,hc2,hc3,hc4,hc5,hc6]];exact rfl
 refine zc ?_ ?_<;>intro hc7
 .refine bm 3 ?_ (hm:=wB);refine cN ?_;have hpb:=c9 pb 3 ae;refine cN ?_;refine bc (bu3.map D.str) ?_;refine cC ?_;refine sI (bo pb 3).toNat (hj:=λ_=>ae) (hb:=λ_=>ae) ?_;rw[bX];refine oX (v:=.str bu3[(bo pb 3).toNat]!) (hi:=λ_=>by simp[bu3];omega) ?_;refine dI ?_;refine lD ((l.lines.set k {l.lines[k]! with v:={l.lines[k]!.v with build:=bu3[(bo pb 3).toNat]!}}).map dr.D) (hi:=dR) (he:=yp hkn rfl) ?_;refine cC ?_;refine bm 2 ?_ (he:=lI) (hm:=lI);refine cC ?_;refine bY _ ?_;refine zr ?_;rw[show hY l pa pw pb=⟨l.env,l.lines.set k {l.lines[k]! with v:={l.lines[k]!.v with build:=bu3[(bo pb 3).toNat]!}}⟩by simp[hY,hnil,<-hk,hc2,hc3,hc4,hc5,hc6,hc7]];exact rfl
 refine zc ?_ ?_<;>intro hc8
 .refine bm 3 ?_ (hm:=wB);refine kI ?_;refine xU (he:=lW.own rfl dR) (hn:=dR) (n:=k) ?_;rw[cR,<-List.map_take];refine eX ?_;refine Dp (k+1) (hi:=λ_=>ae) (hb:=λ_=>ae) ?_;refine rE ((l.lines.take k++l.lines.drop (k+1)).map dr.D) (n:=(l.lines.take k++l.lines.drop (k+1)).length) (ha:=dR) (he:=lW.own rfl dR) (hz:=cut_k _ _ _ _ dR) (hn:=dR) (hb:=dR) ?_;refine cN ?_;refine bY (.agg [.str l.env.e0,.str l.env.e1,.str l.env.e2,.own 54 9 0 (l.lines.take k++l.lines.drop (k+1)).length]) (he:=cZ) ?_;refine cC ?_;refine bm 54 ?_ (he:=lI) (hm:=lI);refine cC ?_;refine bY _ ?_;refine zr ?_;rw[show hY l pa pw pb=⟨l.env,l.lines.take k++l.lines.drop (k+1)⟩by simp[hY,hnil,<-hk,hc2,hc3,hc4,hc5,hc6,hc7,hc8]];exact rfl
 refine zc ?_ ?_<;>intro hc9
 .refine bm 3 ?_ (hm:=wB);refine eX ?_;refine bY (.agg [.str (bV pb).e0,.str (bV pb).e1,.str (bV pb).e2,.own 2 9 0 l.lines.length]) (he:=cZ) ?_;refine cC ?_;refine bm 2 ?_ (he:=lI) (hm:=lI);refine cC ?_;refine bY _ ?_;refine zr ?_;rw[show hY l pa pw pb=⟨bV pb,l.lines⟩by simp[hY,hnil,<-hk,hc2,hc3,hc4,hc5,hc6,hc7,hc8,hc9]];exact rfl
 exfalso;omega
def H5:aj:=bj 62
def w46 (hA:C158 Y)(hB:C183 Y):Qk (cz Y H5):=λw hp0=>by
 refine qx ?_;refine bm 0 ?_ (he:=nt) (hm:=nt);refine zg ?_;refine gp hm (ι:=Nat) (λi=>[.un,⟨true,.ptr 0 3 0 0⟩,⟨true,.int .i64 (i:Nat)⟩,⟨true,.ref 1 [bR.D w] 0 0⟩,.un,.un,.un,.un,.un,.un,.un,.un,.un,⟨true,.ptr 1 3 0 0⟩]) (λi=>[(0,.buf 3 [.agg [.aL,.aL,.aL]]),(1,.buf 3 [.agg [.own 2 1 0 (iT w.us i).length,.own 3 1 0 (eC w.us i).length,.own 4 1 0 (jD w.us i).length]]),(2,.buf 1 ((iT w.us i).map (D.int .i64))),(3,.buf 1 ((eC w.us i).map qi)),(4,.buf 1 ((jD w.us i).map oN))]) 9 (λi=>i<=w.us.length) (λi=>w.us.length-i) 0 ae (aY.to [(1,0),(2,1)] ah ah eL (by repeat(first|exact bp.nil|refine bp.ni 2 ah ah (by exact⟨_,[],rfl,⟨_,rfl,_,_,rfl,Or.inr ⟨2,1,0,rfl⟩,_,_,rfl,Or.inr ⟨3,1,0,rfl⟩,_,_,rfl,Or.inr ⟨4,1,0,rfl⟩,rfl⟩,rfl⟩) ?_|refine bp.nl 1 ah ah ah ec ?_|refine bp.mt ah ah ah ah ?_))) ?_;intro i hi;have hfl:=Oq w.us i;have hnl:=OZ w.us i;have hbl:=Tl w.us i;refine zg ?_;intro u0;refine dN ?_ ?_<;>intro hc0
 .refine zg ?_;have hil:i<w.us.length:=ae;have hu:=hp0.1.1 _ (aq hil);have hu16:=hu.1;refine zf hm (λj=>[.u 1,.p 0 3,.i i,.e (.ref 1 [bR.D w] 0 0),.u 1,.i j,.u 5,.o 5 1 (eP w.us (w.us[i]!.cands.take j)).length,.o 6 1 (jE w.us (w.us[i]!.cands.take j)).length,.p 1 3]) (λj=>[(0,.buf 3 [.agg [.aL,.aL,.aL]]),(1,.buf 3 [.agg [.own 2 1 0 (iT w.us i).length,.own 3 1 0 (eC w.us i).length,.own 4 1 0 (jD w.us i).length]]),(2,.buf 1 ((iT w.us i).map (D.int .i64))),(3,.buf 1 ((eC w.us i).map qi)),(4,.buf 1 ((jD w.us i).map oN)),(5,.buf 1 ((eP w.us (w.us[i]!.cands.take j)).map oN)),(6,.buf 1 ((jE w.us (w.us[i]!.cands.take j)).map Iq))]) 9 (λj=>j<=w.us[i]!.cands.length) (λj=>w.us[i]!.cands.length-j) ae [(0,0),(1,1),(2,2),(3,3),(4,4)] ?_;intro j hj;have hnl1:=O1 w.us w.us[i]!.cands j;have hbl1:=Tn w.us w.us[i]!.cands j;refine zg ?_;intro u1;refine dN ?_ ?_<;>intro hc1
  .refine dI ?_;have hcs:=hu.2 _ (aq (show j<w.us[i]!.cands.length by omega));have hfw:=hp0.2 _ (aq hil) _ (aq (show j<w.us[i]!.cands.length by omega));refine ID ?_;refine bm 27 ?_ (he:=nt) (hm:=nt);refine zg ?_;refine zf hm (λk=>[.u 1,.p 0 3,.i i,.e (.ref 1 [bR.D w] 0 0),.u 1,.i j,.u 1,.i k,.e (.ref 8 [eA.D w.us[i]!.cands[j]!] 0 0),.u 1,.o 7 1 (kZ w.us (w.us[i]!.cands[j]!.needs.take k)).length,.o 5 1 (eP w.us (w.us[i]!.cands.take j)).length,.o 6 1 (jE w.us (w.us[i]!.cands.take j)).length,.p 1 3]) (λk=>[(0,.buf 3 [.agg [.aL,.aL,.aL]]),(1,.buf 3 [.agg [.own 2 1 0 (iT w.us i).length,.own 3 1 0 (eC w.us i).length,.own 4 1 0 (jD w.us i).length]]),(2,.buf 1 ((iT w.us i).map (D.int .i64))),(3,.buf 1 ((eC w.us i).map qi)),(4,.buf 1 ((jD w.us i).map oN)),(5,.buf 1 ((eP w.us (w.us[i]!.cands.take j)).map oN)),(6,.buf 1 ((jE w.us (w.us[i]!.cands.take j)).map Iq)),(7,.buf 1 ((kZ w.us (w.us[i]!.cands[j]!.needs.take k)).map Iq))]) 9 (λk=>k<=w.us[i]!.cands[j]!.needs.length) (λk=>w.us[i]!.cands[j]!.needs.length-k) ae [(0,0),(1,1),(2,2),(3,3),(4,4),(5,5),(6,6)] ?_;intro k hk;have hrl:=UP w.us w.us[i]!.cands[j]!.needs k;refine zg ?_;intro u2;refine dN ?_ ?_<;>intro hc2
   .refine yx ?_;refine dd (v:=.sl 3 (((w.us[i]!.cands[j]!.needs)[k]!).map Want.D)) (hi:=λhf=>cv) ?_;refine aG (hc:=hB (w) ((w.us[i]!.cands[j]!.needs)[k]!) aaW) ?_;refine bc [Iq (eD w.us w.us[i]!.cands[j]!.needs[k]!)] ?_;refine cL (q:=Iq) (xs:=kZ w.us (w.us[i]!.cands[j]!.needs.take k)) (e:=eD w.us w.us[i]!.cands[j]!.needs[k]!) (hb:=ae) ?_;refine zg ?_;rw[UO ae];exact iC (k+1) [(23,7),(0,0),(1,1),(2,2),(3,3),(4,4),(5,5),(6,6)]
   refine cC ?_;obtain rfl:k=w.us[i]!.cands[j]!.needs.length:=ae;rw[List.take_length];refine bm 7 ?_ (he:=nt) (hm:=nt);refine dI ?_;refine bc [oN (kZ w.us w.us[i]!.cands[j]!.needs)] ?_;refine cL (q:=oN) (xs:=eP w.us (w.us[i]!.cands.take j)) (e:=kZ w.us w.us[i]!.cands[j]!.needs) (hb:=ae) ?_;refine cN ?_;refine Pf (v:=bR.D w) ?_;refine cN ?_;refine Pf (v:=.sl 3 (w.us[i]!.cands[j]!.bars.map Want.D)) ?_;refine aG (hc:=hB (w) (w.us[i]!.cands[j]!.bars) aaW) ?_;refine bc [Iq (eD w.us w.us[i]!.cands[j]!.bars)] ?_;refine cL (q:=Iq) (xs:=jE w.us (w.us[i]!.cands.take j)) (e:=eD w.us w.us[i]!.cands[j]!.bars) (hb:=ae) ?_;refine zg ?_;rw[O0 ae,Tm ae];exact iC (j+1) [(17,5),(24,6),(0,0),(1,1),(2,2),(3,3),(4,4)]
  refine cC ?_;obtain rfl:j=w.us[i]!.cands.length:=ae;rw[List.take_length];refine bm 5 ?_ (he:=nt) (hm:=nt);refine bm 6 ?_ (he:=nt) (hm:=nt);refine kF ?_;refine bc [.int .i64 (n9 w.us ((i:Nat):Int))] ?_;refine cL (q:=D.int .i64) (xs:=iT w.us i) (e:=n9 w.us ((i:Nat):Int)) (hb:=ae) ?_;refine cN ?_;refine zj (v:=.own 3 1 0 (eC w.us i).length) ?_;refine cN ?_;refine bc [qi (eP w.us w.us[i]!.cands)] ?_;refine cL (q:=qi) (xs:=eC w.us i) (e:=eP w.us w.us[i]!.cands) (hb:=ae) ?_;refine cN ?_;refine zj (v:=.own 4 1 0 (jD w.us i).length) ?_;refine cN ?_;refine bc [oN (jE w.us w.us[i]!.cands)] ?_;refine cL (q:=oN) (xs:=jD w.us i) (e:=jE w.us w.us[i]!.cands) (hb:=ae) ?_;refine cN ?_;refine bY (.agg [.own 24 1 0 (iT w.us i++[n9 w.us ((i:Nat):Int)]).length,.own 3 1 0 (eC w.us i).length,.own 4 1 0 (jD w.us i).length]) (he:=cZ) ?_;refine cN ?_;refine bY (.agg [.own 24 1 0 (iT w.us i++[n9 w.us ((i:Nat):Int)]).length,.own 29 1 0 (eC w.us i++[eP w.us w.us[i]!.cands]).length,.own 4 1 0 (jD w.us i).length]) (he:=cZ) ?_;refine cN ?_;refine bY (.agg [.own 24 1 0 (iT w.us i++[n9 w.us ((i:Nat):Int)]).length,.own 29 1 0 (eC w.us i++[eP w.us w.us[i]!.cands]).length,.own 34 1 0 (jD w.us i++[jE w.us w.us[i]!.cands]).length]) (he:=cZ) ?_;refine zg ?_;rw[Oo,OY ae,Tk ae];exact iC (i+1) [(24,2),(29,3),(34,4),(0,0),(1,1)]
 refine cC ?_;obtain rfl:i=w.us.length:=ae;refine bm 2 ?_ (he:=nt) (hm:=nt);refine bm 3 ?_ (he:=nt) (hm:=nt);refine bm 4 ?_ (he:=nt) (hm:=nt);refine cN ?_;refine mB (d:=(dz w.us).D) ?_;exact mK
def Mx:aj:=bj 93
def w218 (hA:C457 Y)(hB:C458 Y)(hC:C459 Y)(hD:C460 Y):IP (cz Y Mx):=λr hp0=>by
 refine zg ?_;refine zf hm (λi=>[.u 3,.i i,.p 0 9,.u 12]) (λi=>[(0,.buf 9 [Rec.D r])]) 4 (λi=>i<=r.needs.length/\lL r=gX (λi=>jF r r.needs[i]!) i r.needs.length) (λi=>r.needs.length-i) ⟨ae,rfl⟩ [(0,0)] ?_;rintro i ⟨hi,hr⟩;refine zg ?_;intro u0;refine dN ?_ ?_<;>intro hc0
 .refine yx ?_;refine aG (hc:=hA r r.needs[i]! (hp0.2.1 _ (aq ae))) ?_;refine zc ?_ ?_<;>intro hc1
  .refine zg ?_;refine fM (b7 (aw (D.int .i64) ?_) (aw (D.int .i64) ?_));all_goals
    have hq:eo r=(jF r r.needs[i]!,((i:Nat):Int)):=by
     exact Mc (by rw[hr,gY ae hc1]) hc1
    rw[hq];first|done|rfl
  refine gI (i+1) [(0,0)] ?_;rw[hr,kq ae hc1]
 refine eX ?_;have hn0:lL r=(0,0):=by rw[hr,ko ae]
 refine zg ?_;refine zf hm (λi=>[.u 4,.p 0 9,.u 3,.i i,.u 8]) (λi=>[(0,.buf 9 [Rec.D r])]) 10 (λi=>i<=r.bars.length/\uU r=gX (λi=>rY r r.bars[i]!) i r.bars.length) (λi=>r.bars.length-i) ⟨ae,rfl⟩ [(0,0)] ?_;rintro i ⟨hi,hr⟩;refine zg ?_;intro u1;refine dN ?_ ?_<;>intro hc2
 .refine yx ?_;refine aG (hc:=hB r r.bars[i]! (hp0.2.2.1 _ (aq ae))) ?_;refine zc ?_ ?_<;>intro hc3
  .refine zg ?_;refine fM (b7 (aw (D.int .i64) ?_) (aw (D.int .i64) ?_));all_goals
    have hq:eo r=(rY r r.bars[i]!,((i:Nat):Int)):=by
     exact Db hn0 (by rw[hr,gY ae hc3]) hc3
    rw[hq];first|done|rfl
  refine gI (i+1) [(0,0)] ?_;rw[hr,kq ae hc3]
 refine eX ?_;have hb0:uU r=(0,0):=by rw[hr,ko ae]
 refine cC ?_;refine aG (hc:=hC r.feats hp0.2.2.2) ?_;refine zg ?_;refine aR (λhc4=>?_) (λhc4=>?_)
 .try simp only[gJ]at hc4
  refine zg ?_;refine fM (b7 (aw (D.int .i64) ?_) (aw (D.int .i64) ?_));all_goals
   have hq:eo r=(11,0):=by
    exact Md hn0 hb0 hc4
   rw[hq];first|done|rfl
 simp only[dq]at hc4;refine zg ?_;refine zf hm (λi=>[.u 4,.p 0 9,.u 8,.i i,.u 3]) (λi=>[(0,.buf 9 [Rec.D r])]) 20 (λi=>i<=r.feats.length/\G3 r=gX (λi=>mQ r r.feats[i]!.of) i r.feats.length) (λi=>r.feats.length-i) ⟨ae,rfl⟩ [(0,0)] ?_;rintro i ⟨hi,hr⟩;refine zg ?_;intro u2;refine dN ?_ ?_<;>intro hc5
 .refine uQ ?_;refine aG (hc:=hD r r.feats[i]!.of (ju.it hp0.2.2.2 _ (aq ae))) ?_;refine zc ?_ ?_<;>intro hc6
  .refine zg ?_;refine fM (b7 (aw (D.int .i64) ?_) (aw (D.int .i64) ?_));all_goals
    have hq:eo r=(mQ r r.feats[i]!.of,((i:Nat):Int)):=by
     exact xR hn0 hb0 hc4 (by rw[hr,gY (f:=(λi=>mQ r r.feats[i]!.of)) ae hc6])
    rw[hq];first|done|rfl
  refine gI (i+1) [(0,0)] ?_;rw[hr,kq (f:=(λi=>mQ r r.feats[i]!.of)) ae hc6]
 refine zg ?_;refine fM (b7 (aw (D.int .i64) ?_) (aw (D.int .i64) ?_));all_goals
  have hq:eo r=(0,0):=by
   exact xR hn0 hb0 hc4 (by rw[hr,ko ae])
  rw[hq];first|done|rfl
def Mu:aj:=bj 50
def w71 (hA:GJ Y)(hB:BW Y)(hC:C218 Y)(hD:C219 Y):zE (cz Y Mu):=λr hp0=>by
 refine zg ?_;refine wp_cond (λhc0=>?_) (λhc0=>?_)
 .try simp only[gJ]at hc0
  refine zg ?_;refine fM (b7 (aw (D.int .i64) ?_) (aw (D.int .i64) ?_));all_goals (have hq:dc r=(4,0):=(by rw[dc,ak hc0]);rw[hq];first|done|rfl)
 simp only[dq]at hc0;refine dI ?_;refine aG (hc:=hB r.v hp0.1.2) ?_;refine zg ?_;refine wp_cond (λhc1=>?_) (λhc1=>?_)
 .try simp only[gJ]at hc1
  refine zg ?_;refine fM (b7 (aw (D.int .i64) ?_) (aw (D.int .i64) ?_));all_goals (have hq:dc r=(5,0):=(by rw[dc,ai jN,ak hc1]);rw[hq];first|done|rfl)
 simp only[dq]at hc1;refine zg ?_;intro u0;refine Bv ?_ ?_<;>intro hc2
 .refine zg ?_;refine fM (b7 (aw (D.int .i64) ?_) (aw (D.int .i64) ?_));all_goals (have hq:dc r=(3,0):=(by rw[dc,ai jN,ai (by simp[hc1]),ak ae]);rw[hq];first|done|rfl)
 refine zg ?_;refine aR (λhc3=>?_) (λhc3=>?_)
 .try simp only[gJ]at hc3
  refine zg ?_;refine fM (b7 (aw (D.int .i64) ?_) (aw (D.int .i64) ?_));all_goals
   have hq:dc r=eo r:=by
    exact pL hc0 hc1 ae ae rfl hc3
   rw[hq];first|done|rfl
 simp only[dq,aV]at hc3;have hpz:eo r=(0,0):=Me hc3;have hgd:Fy r:=⟨⟨hc0,hc1⟩,⟨ae,ae⟩,hpz⟩;refine gr ?_;refine gh ?_;refine aQ ?_;refine mB ?_;refine aG (hc:=hD r ⟨hgd,hp0⟩) ?_;refine Dn λu1=>?_;specialize u1 rfl rfl
 refine pn ?_;refine bB (env':=[_,_,_,_,_,_,_,_,_,_,⟨_,(.bool _)⟩]) ?_;refine dN ?_ ?_<;>intro hc4
 .refine zg ?_;refine fM (b7 (aw (D.int .i64) ?_) (aw (D.int .i64) ?_));all_goals
   have hq:dc r=(3,0):=by
    rw[wX hc0 hc1 ae ae hpz,ak ae]
   rw[hq];first|done|rfl
 refine zg ?_;refine fM (b7 (aw (D.int .i64) ?_) (aw (D.int .i64) ?_));all_goals
  have hq:dc r=(0,0):=by
   rw[wX hc0 hc1 ae ae hpz,ai ae]
  rw[hq];first|done|rfl
def sP:aj:=bj 60
def w362 (hm:(Y.at 1).cb)(y:cF)(hA:C582 (Y.at 1))(hB:C583 (Y.at 1))(hp0:qy y/\lz y.e):dx (Y.at 1) sP.body (uG sP (WldQ y):Ex->List ba->St->Prop) (fU sP [cF.D y (.ptr 0 2 0 0)]) ⟨1,[(0,.buf 2 [.agg [.aL,.aL]])]⟩:=by
 show dx _ _ _ [⟨true,cF.D y (.ptr 0 2 0 0)⟩,.un,.un,.un,.un,.un,.un,.un,.un,.un,.un] ⟨1,[(0,.buf 2 [.agg [.aL,.aL]])]⟩;refine aQ ?_;refine qo ?_;refine iu (aY.to [(1,3),(2,1),(4,2)] (nx':=8) rfl ah (env':=[.un,⟨true,.ptr 1 1 0 0⟩,⟨true,.bool false⟩,⟨true,.ptr 3 8 0 0⟩,.un,.un,.un,.un,.un,⟨true,.ptr 2 1 0 0⟩,.un]) (m':=[(0,.buf 2 [eO 5 6 ([]:List au).length]),(5,.buf 1 (([]:List au).map D.str)),(6,.buf 1 (dp y [])),(3,.buf 8 [cF.D y (.ptr 0 2 0 0)]),(1,.buf 1 [.agg [.aL]]),(2,.buf 1 [.agg [.aL]])]) eL (by refine bp.ni 0 ah ah (by exact⟨_,_,rfl,⟨_,rfl,⟨_,_,rfl,.inr ⟨_,_,_,rfl⟩,⟨_,_,rfl,.inr ⟨_,_,_,rfl⟩,rfl⟩⟩⟩,rfl⟩) ?_;refine bp.mt ah ah ah ah ?_;refine bp.mt ah ah ah ah ?_;refine bp.eq 1 ah ah ah ?_;refine bp.eq 2 ah ah ah ?_;refine bp.eq 4 ah ah ah ?_;exact bp.nil)) ?_;refine cC ?_;refine dK (nx':=10) (v:=.tup [.sl 2 ((iQ y).map Key.D),.bool (okY y)]) (m':=[(9,.buf 1 ((sJ y 49 nG []).map D.str)),(10,.buf 1 (dp y (sJ y 49 nG []))),(0,.buf 2 [eO 9 10 (sJ y 49 nG []).length]),(3,.buf 8 [cF.D y (.ptr 0 2 0 0)]),(1,.buf 1 [.agg [.aL]]),(2,.buf 1 [.agg [.aL]])]) (hc:=λK' hK=>(FZ y▸hA y [] hp0 aB) _ 0 5 6 _ K' eB eB eB aU ⟨rfl,rfl,rfl⟩ hK) (hn:=aU) ?_;refine qo ?_;have hal:=VY y;have hok0:okY y=Yf y 0:=by unfold Yf;rw[nM,gG]
 rw[hok0];refine zg ?_;refine gp hm (ι:=Nat) (λi=>[.un,⟨true,.ptr 1 1 0 0⟩,.un,⟨true,.ptr 3 8 0 0⟩,⟨true,.int .i64 (i:Nat)⟩,⟨true,.sl 2 (((iQ y)).map Key.D)⟩,⟨true,.bool ((Yf y i))⟩,.un,.un,⟨true,.ptr 2 1 0 0⟩,.un]) (λi=>[(0,.buf 2 [eO 5 6 (Ya y i).length]),(5,.buf 1 ((Ya y i).map D.str)),(6,.buf 1 (dp y (Ya y i))),(3,.buf 8 [cF.D y (.ptr 0 2 0 0)]),(1,.buf 1 [.agg [.aL]]),(2,.buf 1 [.agg [.own 7 3 0 (yr y i).length]]),(7,.buf 3 ((yr y i).map cJ.D))]) 20 (λi=>i<=(iQ y).length) (λi=>(iQ y).length-i) 0 ae (aY.to [(1,1),(2,2),(3,3),(9,5),(10,6)] ah ah eL (by repeat(first|exact bp.nil|refine bp.vO ah ah ec ?_|refine bp.KD ah ah ah ?_|refine bp.NN ah ah ah ah ?_|refine bp.vO ah ah (by exact jk _ _) ?_|refine bp.nl 0 ah ah ah rm ?_|refine bp.eq 0 ah ah ah ?_|refine bp.nl 9 ah ah ah rm ?_|refine bp.eq 9 ah ah ah ?_|refine bp.nl 10 ah ah ah rm ?_|refine bp.eq 10 ah ah ah ?_|refine bp.nl 3 ah ah ah rm ?_|refine bp.eq 3 ah ah ah ?_|refine bp.nl 1 ah ah ah rm ?_|refine bp.eq 1 ah ah ah ?_|refine bp.ni 2 ah ah (by exact⟨_,_,rfl,⟨_,rfl,⟨_,_,rfl,.inr ⟨_,_,_,rfl⟩,rfl⟩⟩,rfl⟩) ?_|refine bp.mt ah ah ah ah ?_))) ?_;intro i hi;have hnl:=adE y i;have hul:=Nv (y:=y) i;refine zg ?_;intro u0;refine dN ?_ ?_<;>intro hc0
 .refine yx ?_;refine dK (nx':=29) (v:=.tup [.sl 8 ((ey y (iQ y) (iQ y)[i]!).1.map eA.D),.bool (ey y (iQ y) (iQ y)[i]!).2]) (m':=[(33,.buf 1 ((jy (Ya y i) (iQ y)[i]!).map D.str)),(34,.buf 1 (dp y (jy (Ya y i) (iQ y)[i]!))),(0,.buf 2 [eO 33 34 (jy (Ya y i) (iQ y)[i]!).length]),(3,.buf 8 [cF.D y (.ptr 0 2 0 0)]),(1,.buf 1 [.agg [.aL]]),(2,.buf 1 [.agg [.own 7 3 0 (yr y i).length]]),(7,.buf 3 ((yr y i).map cJ.D))]) (hc:=λK' hK=>hB y (Ya y i) (iQ y) (iQ y)[i]! hp0 ae _ 0 5 6 _ K' eB eB eB aU ⟨rfl,rfl,rfl⟩ hK) (hn:=aU) ?_;refine iw ?_;refine uQ ?_;refine bg (cJ.D (rN y (iQ y) (iQ y)[i]!)) ?_;refine bc [cJ.D (rN y (iQ y) (iQ y)[i]!)] ?_;refine cL (q:=cJ.D) (xs:=(yr y i)) (e:=(rN y (iQ y) (iQ y)[i]!)) (hb:=ae) ?_;refine cN ?_;refine bY (.agg [.own 58 3 0 ((yr y i)++[(rN y (iQ y) (iQ y)[i]!)]).length]) (he:=cZ) ?_;refine zg ?_;rw[ald hc0.2,okS_s hc0.2,nsS_s];exact iC (i+1) [(1,1),(2,2),(3,3),(33,5),(34,6),(58,7)]
 refine cC ?_;have hwe:=U9 hi (by rcases hc0 with h|h;exact .inl h;exact .inr h);refine bm 7 ?_ (he:=aaC) (hm:=aaC);refine cN ?_;refine mB (d:=bR.D ⟨(yr y i)⟩) ?_;refine zg ?_;refine ei trivial Dk (dm ah (?_)) ah (by first|(rw[WldQ,zB,hwe];done)|(rw[WldQ,zB,hwe];exact rfl));rfl
def we:aj:=bj 195
def w909 (hm:(Y.at 3).cb)(y:cF)(ns:List au)(nm:au)(hA:C627 (Y.at 3))(hB:aeK (Y.at 3))(hC:aeL (Y.at 3))(hD:aeM (Y.at 3))(hE:aeN (Y.at 3))(hp0:pG y):dx (Y.at 3) we.body (uG we (KG y ns (uM (dL y nm))):Ex->List ba->St->Prop) (fU we [cF.D y (.ptr 0 2 0 0),.str nm]) ⟨3,[(0,.buf 2 [eO 1 2 ns.length]),(1,.buf 1 (ns.map D.str)),(2,.buf 1 (dp y ns))]⟩:=by
 show dx _ _ _ [⟨true,cF.D y (.ptr 0 2 0 0)⟩,⟨true,.str nm⟩,.un,.un,.un,.un,.un,.un,.un,.un,.un,.un,.un,.un,.un] ⟨3,[(0,.buf 2 [eO 1 2 ns.length]),(1,.buf 1 (ns.map D.str)),(2,.buf 1 (dp y ns))]⟩;refine aQ ?_;refine qx ?_;refine aG (hc:=hB (y.l) (nm) Kf) ?_;refine zc ?_ ?_<;>intro hc0
 .refine cC ?_;obtain⟨j,hj,hjl⟩:=(qT y.l nm).resolve_left ae;refine kF ?_;refine bg (uF.D ⟨y.l[j]!.r,-1⟩) ?_;refine bc [uF.D ⟨y.l[j]!.r,-1⟩] ?_;refine cC ?_;refine bm 19 ?_;refine zg ?_;refine ei trivial jC (dm ah (?_)) ah ⟨by first|(rw[XP hj];done)|(rw[XP hj];exact rfl),1,2,⟨ae,ae,ae⟩,tf⟩;rfl
 refine qo ?_;refine aG (hc:=hC (y.shop) (y.pins) (nm) Kf) ?_;refine ID ?_;refine aG (hc:=hD (y.l) (nm) Kf) ?_;refine eX ?_;refine bY _ ?_;refine zg ?_;refine zf hm (λi=>[.u 1,.e (.str nm),.u 1,.p 3 8,.u 2,.i i,.m 1 (cO y.shop y.pins nm).2.1 (D.int .i64),.i ((cO y.shop y.pins nm).2.2),.u 1,.i ((cO y.shop y.pins nm).1),.u 1,.p 4 2,.u 1,.o 5 10 (iX y nm (cO y.shop y.pins nm).1.toNat ((cO y.shop y.pins nm).2.1.take i)).length]) (λi=>[(0,.buf 2 [eO 1 2 ns.length]),(1,.buf 1 (ns.map D.str)),(2,.buf 1 (dp y ns)),(3,.buf 8 [cF.D y (.ptr 0 2 0 0)]),(4,.buf 2 [cA.D (kQ y.l nm)]),(5,.buf 10 ((iX y nm (cO y.shop y.pins nm).1.toNat ((cO y.shop y.pins nm).2.1.take i)).map uF.D))]) 20 (λi=>i<=(cO y.shop y.pins nm).2.1.length) (λi=>(cO y.shop y.pins nm).2.1.length-i) ae [(3,3),(32,4)] ?_;intro i hi;have hll:=(pY (y:=y) (nm:=nm) (a:=(cO y.shop y.pins nm).1.toNat) ((cO y.shop y.pins nm).2.1.take i)).1;have hl64:=adr y nm;rw[dQ]at hll;refine zg ?_;intro u0;refine dN ?_ ?_<;>intro hc1
 .refine dI ?_;obtain⟨j,hj,hjl,t,ht,htl,hxs⟩:=ajt hp0 (nm:=nm) (i:=i) hc1.2 ae;refine Fc ?_;refine bY _ ?_;refine yx ?_;refine cB (hc:=λhf=>hE y ns y.shop[j]!.es[t]!.r ⟨hp0.2.2.1,hxs⟩) (ha:=λ_=>by exact aeE y ns ⟨rfl,rfl,rfl⟩) (hp:=λ_=>by exact aav y ns ⟨rfl,rfl,rfl⟩ jC) ?_;refine kF ?_;refine cB (hc:=λhf=>hA (kQ y.l nm) y.shop[j]!.es[t]!.r.v ⟨Xc _ _,hxs⟩) ?_;refine zc ?_ ?_<;>intro hc2
  .refine kI ?_;refine bg (uF.D ⟨y.shop[j]!.es[t]!.r,(cO y.shop y.pins nm).1⟩) ?_;refine bc [uF.D ⟨y.shop[j]!.es[t]!.r,(cO y.shop y.pins nm).1⟩] ?_;refine cL (q:=uF.D) (xs:=(iX y nm (cO y.shop y.pins nm).1.toNat ((cO y.shop y.pins nm).2.1.take i))) (e:=⟨y.shop[j]!.es[t]!.r,(cO y.shop y.pins nm).1⟩) (hb:=ae) ?_;refine zg ?_;rw[adq hj ae ht hc2];exact iC (i+1) [(3,3),(4,4),(64,5)]
  refine zg ?_;rw[adp hj ae ht hc2];exact iC (i+1) [(3,3),(4,4),(5,5)]
 refine cC ?_;rw[ajq ae hi hc1];refine bm 5 ?_ (he:=aaE) (hm:=aaE);refine zg ?_;refine ei trivial jC (dm ah (?_)) ah ⟨cZ,1,2,⟨ae,ae,ae⟩,tf⟩;rfl
def Pq:aj:=bj 261
def w1084 (hA:S9 Y)(hB:Ta Y):Ew (cz Y Pq):=λs nm hp0=>by
 refine zc ?_ ?_<;>intro hc0
 .refine zr ?_;rw[show ku s nm=[]from ak hc0];rfl
 refine zg ?_;refine zf hm (λi=>[.u 1,.e (.str nm),.u 1,.p 1 2,.u 1,.i i,.u 3,.o 0 1 ((eI s.es nm i)).length,.u 1]) (λi=>[(0,.buf 1 (((eI s.es nm i)).map (D.int .i64))),(1,.buf 2 [bM.D s])]) 7 (λi=>i<=s.es.length) (λi=>s.es.length-i) ae [(0,1)] ?_;intro i hi;have hlt:=xr s.es nm i;refine zg ?_;intro u0;refine dN ?_ ?_<;>intro hc1
 .refine eX ?_;have h64:=Sr hc0;refine zg ?_;refine aR (λhc2=>?_) (λhc2=>?_)
  .simp only[gJ]at hc2;refine zg ?_;rw[adn hc2];exact iC (i+1) [(0,0),(1,1)]
  try simp only[gJ]at hc2
  refine cN ?_;refine bm 0 ?_;refine zg ?_;refine zf hm (λk=>[.u 1,.e (.str nm),.u 1,.p 0 2,.u 1,.i i,.u 2,.i k,.m 1 (eI s.es nm i) (D.int .i64),.u 1]) (λk=>[(0,.buf 2 [bM.D s])]) 22 (λk=>k<=(eI s.es nm i).length/\A5 s.es (eI s.es nm i) i 0=A5 s.es (eI s.es nm i) i k) (λk=>(eI s.es nm i).length-k) ⟨ae,rfl⟩ [(1,0)] ?_;rintro k ⟨hk,hr⟩;refine Fc ?_;refine cM ((eI s.es nm i)[k]!).toNat (hj:=λhf=>by
    have hkl:k<(eI s.es nm i).length:=by simp at hf;omega
    have hkr:=hlt.2 _ (aq hkl);omega) (hb:=λhf=>by
    have hkl:k<(eI s.es nm i).length:=by simp at hf;omega
    have hkr:=hlt.2 _ (aq hkl);omega) ?_
  refine cC ?_;refine dd (v:=ca.D s.es[((eI s.es nm i)[k]!).toNat]!.r.v) (hi:=λhf=>by
    have hkl:k<(eI s.es nm i).length:=by simp at hf;omega
    have hkr:=hlt.2 _ (aq hkl);omega) ?_
  refine qo ?_;refine cB (hc:=λhf=>hB s.es[((eI s.es nm i)[k]!).toNat]!.r.v s.es[i]!.r.v (by
    have hkl:k<(eI s.es nm i).length:=by simp at hf;omega
    have hkr:=hlt.2 _ (aq hkl);exact⟨(hp0 _ (aq ae)).1.2,(hp0 _ (aq ae)).1.2⟩)) ?_
  refine zc ?_ ?_<;>intro hc3
  .refine gI (k+1) [(0,0)] ?_;rw[hr,TO ae hc3.2]
  refine dI ?_;have hk2:A5 s.es (eI s.es nm i) i 0=k:=by rw[hr];exact TP (λh=>by rcases hc3 with h1|h1;omega;exact h1)
  refine dI ?_;refine xU (he:=lW.sl) (n:=((eI s.es nm i).take k).length) (hn:=aB) (hb:=zM) ?_;refine cN ?_;refine bc [.int .i64 ((i:Nat):Int)] ?_;refine cL (q:=D.int .i64) (xs:=(eI s.es nm i).take k) (e:=((i:Nat):Int)) (hb:=zM) ?_;refine dI ?_;refine pk (q:=D.int .i64) (xs:=(eI s.es nm i).take k++[((i:Nat):Int)]) (ys:=(eI s.es nm i).drop k) (he:=lW.sl) (hb:=Qx) ?_;refine zg ?_;rw[adb hk2,ado hc2];exact iC (i+1) [(57,0),(0,1)]
 refine cC ?_;obtain rfl:i=s.es.length:=ae;rw[adm hc0];refine bm 0 ?_;exact mK
def PD:aj:=bj 223
def w1009 (hA:C908 Y)(hB:aeQ Y):Eo (cz Y PD):=λn hp0=>by
 refine yx ?_;have hna:=hp0.1.1;refine zg ?_;intro u0;refine dN ?_ ?_<;>intro hc0
 .refine dI ?_;have hul:=(oE n.any[0]!).2;have hfl:=hp0.1.2 _ (aq (show 0<n.any.length by omega));refine cC ?_;refine cM 0 (hj:=λ_=>rfl) (hb:=λ_=>ae) ?_;refine zg ?_;intro u1;refine zf hm (λi=>[.u 2,.p 1 3,.u 1,.i i,.i ((fh n.any[0]!).length:Nat),.u 1,.m 2 (fh n.any[0]!) Key.D,.o 0 1 (zq n i).length,.u 4]) (λi=>[(0,.buf 1 ((zq n i).map dU)),(1,.buf 3 [bw.D n])]) 14 (λi=>i<=(fh n.any[0]!).length) (λi=>(fh n.any[0]!).length-i) ae [(0,1)] ?_;intro i hi;have hrl:=ZL n i;refine zc ?_ ?_<;>intro hc1
  .refine Fc ?_;refine cM 0 (hj:=λ_=>rfl) (hb:=λ_=>ae) ?_;refine cC ?_;refine aG (hc:=hA (n.any[0]!.range) Qu) ?_;refine bg (jq.D (⟨(fh n.any[0]!)[i]!,fg n.any[0]!.range⟩:jq)) ?_;refine bc [jq.D (⟨(fh n.any[0]!)[i]!,fg n.any[0]!.range⟩:jq)] ?_;refine bc [.own 28 4 0 1] ?_;refine rE ((zq n i).map dU++[.own 28 4 0 1]) (n:=((zq n i)++[[(⟨(fh n.any[0]!)[i]!,fg n.any[0]!.range⟩:jq)]]).length) (ha:=lj) (he:=lW.own rfl (by first|rfl|simp)) (hz:=yA) (hn:=EC) (hb:=EE) ?_;refine dI ?_;refine bm 28 ?_ (he:=lH) (hm:=lH);refine zg ?_;rw[pI,show zq n i++[[(⟨(fh n.any[0]!)[i]!,fg n.any[0]!.range⟩:jq)]]=zq n (i+1)from akN ae];exact iC (i+1) [(30,0),(1,1)]
  refine dI ?_;obtain rfl:i=(fh n.any[0]!).length:=ae;rw[akM hc0];refine bm 0 ?_ (he:=lH) (hm:=lH);exact mK
 refine zg ?_;refine zf hm (λi=>[.u 2,.p 1 3,.u 5,.e .aL,.u 1,.i i,.u 1,.o 0 4 (A9 n i).length]) (λi=>[(0,.buf 4 ((A9 n i).map jq.D)),(1,.buf 3 [bw.D n])]) 9 (λi=>i<=n.any.length) (λi=>n.any.length-i) ae [(0,1)] ?_;intro i hi;have hol:=Yg n i;refine zg ?_;intro u2;refine dN ?_ ?_<;>intro hc2
 .refine dI ?_;have hul:=(oE n.any[i]!).1;refine kF ?_;refine aG (hc:=hB ((n.any)[i]!) Qu) ?_;refine qx ?_;refine aG (hc:=hA ((n.any)[i]!.range) Qu) ?_;refine bg (jq.D (Yh n.any[i]!)) ?_;refine bc [jq.D (Yh n.any[i]!)] ?_;refine cL (q:=jq.D) (xs:=A9 n i) (e:=Yh n.any[i]!) (hb:=ae) ?_;refine zg ?_;rw[ajN ae];exact iC (i+1) [(32,0),(1,1)]
 refine cC ?_;obtain rfl:i=n.any.length:=ae;refine bm 0 ?_ (he:=lH) (hm:=lH);refine dI ?_;refine bc [dU (A9 n n.any.length)] ?_;refine qU (ys:=[dU (A9 n n.any.length)]) (n:=1) (he:=lW.all rfl rfl) (hn:=rfl) (hb:=ae) ?_;refine cC ?_;refine bm 17 ?_;refine zr ?_;rw[<-ajM hc0];rfl
def LP:aj:=bj 10
def w91 (hm:(Y.at 0).cb)(hA:C114 Y)(hB:C147 Y)(hC:C267 Y)(hD:C268 Y)(hE:C269 Y):Qn (cz Y LP):=λm shop e os hp0=>by
 refine cN ?_;refine xW ?_;refine xW ?_;refine bK ?_;refine bK ?_;refine bB (env':=[_,_,_,_,⟨_,_⟩,⟨_,.aL⟩,⟨_,(.bool _)⟩,⟨_,_⟩,_,_,_,_,_]) ?_;refine aQ ?_;refine bK ?_;refine bK ?_;refine mB (d:=Env.D e) ?_;refine aG (hc:=hB [m] shop e [] hp0) ?_;refine bK ?_;refine kY (bR.D _) ?_;refine kY (.int _ _) ?_;refine xW ?_;refine bY (bR.D (ew m shop e).1) (he:=cZ) ?_;refine bK ?_;refine bB (env':=[_,_,_,_,_,_,_,_,⟨_,(.int _ _)⟩,⟨_,_⟩,_,_,_]) ?_;refine gh ?_;refine aQ ?_;refine bK ?_;refine po ?_;refine bK ?_;refine mB (d:=bR.D ((ew m shop e).1)) ?_;refine cB (hc:=λhf=>hA (ew m shop e).1 (pK hp0.1 (by simpa using hf)).1.sm) ?_;refine pn ?_;refine Mn ?_;refine bB (env':=[_,_,_,_,_,_,_,_,_,_,⟨_,(.bool _)⟩,_,_]) ?_;refine dN ?_ ?_<;>intro hc0
 .refine zg ?_;refine zr ?_;rw[DV (by rcases hc0 with h|h;exact .inl h;exact .inr ae)];rfl
 refine gr ?_;refine aQ ?_;have hB0:=hc0.1;have hc0n:(ew m shop e).2=0/\¬5000<Dd (ew m shop e).1.us:=⟨hc0.1,ae⟩;have hfp:=TB hp0.1 hB0 os;refine eX ?_;refine bT _ ?_;refine aG (hc:=hC (ew m shop e).1 (iU (ew m shop e).1.us os) hfp) ?_;refine kI ?_;refine Y5 (λbq hbq=>?_) (hs:=RQ _);refine zg ?_;refine aR (λhc1=>?_) (λhc1=>?_)
 .have hbt:bq=true:=hc1;have hn:=(Li hp0.1 hB0 hbq).1 hbt;refine zr ?_;rw[DW hc0n hn];rfl
 have hbf:bq=false:=hc1;obtain⟨d,hd⟩:=(Li hp0.1 hB0 hbq).2 hbf;have hdl:=TA hp0.1 hB0 hd;rw[hd];refine zr ?_;rw[DX hc0n hd];rfl
def UF:aj:=bj 156
def w415 (hA:C381 Y)(hB:C627 Y):Ja (cz Y UF):=λw x hp0=>by
 refine zc ?_ ?_<;>intro hc0
 .refine zr ?_;unfold uL;rw[ak ae]
 refine kI ?_;obtain⟨j,hwj⟩:∃j:Nat,x.u=(j:Int):=⟨(x.u).toNat,ae⟩
 have hjl:j<w.us.length:=ae;have hju:=hp0.1 _ (aq hjl);have hj16:=hju.1;refine zg ?_;refine zf hm (λi=>[.u 3,.p 0 3,.u 2,.i i,.m 8 (w.us[j]!.cands) eA.D,.u 2,.i ((qO w.us[j]!.cands x.s i))]) (λi=>[(0,.buf 3 [Want.D x])]) 24 (λi=>i<=w.us[j]!.cands.length) (λi=>w.us[j]!.cands.length-i) ae [(1,0)] ?_;intro i hi;have hmr:=OT w.us[j]!.cands x.s i;have hpb:=FU (k:=i+1) ae;have hpp:=qa (i+1);refine zg ?_;intro u0;refine dN ?_ ?_<;>intro hc1
 .refine uQ ?_;refine aG (hc:=hB (x.s) ((w.us[j]!.cands)[i]!.v) (by first|assumption|omega|exact⟨hp0.2,(hju.2 _ (aq ae)).1⟩)) ?_;refine zg ?_;refine wp_cond (λhc2=>?_) (λhc2=>?_)
  .have hst:qO w.us[j]!.cands x.s (i+1)=qO w.us[j]!.cands x.s i+2^(i+1):=by rw[qO,ak hc2]
   refine kI ?_;refine lZ (hb:=by simp only[show(((i:Nat):Int)+1).toNat=i+1 from rfl];omega) ?_;refine zg ?_;rw[show qO w.us[j]!.cands x.s i+2^(((i:Nat):Int)+1).toNat=qO w.us[j]!.cands x.s (i+1)from hst.symm];exact iC (i+1) [(0,0)]
  have hst:qO w.us[j]!.cands x.s (i+1)=qO w.us[j]!.cands x.s i:=by rw[qO,ai (by rw[hc2];exact Bool.false_ne_true)]
  refine zg ?_;rw[<-hst];exact iC (i+1) [(0,0)]
 refine zr ?_;unfold uL;rw[ai ae,show i=w.us[j]!.cands.length by omega,hwj];rfl
def MQ:aj:=bj 30
def w267 (hA:C46 Y)(hB:C505 Y):IV (cz Y MQ):=λw od hp0=>by
 refine cN ?_;obtain⟨⟨hw,hwb⟩,hop⟩:=hp0;have hs16:∀x∈w.us,x.cands.length<=16:=λx hx=>(hw.1.1 x hx).1
 have hmp:=maskP hwb hs16 hw.2;have hwl:=hw.1.2;refine zg ?_;refine zf hm (λi=>[.u 3,.i i,.p 1 1,.u 1,.o 0 1 (ow i).length,.p 2 2]) (λi=>[(0,.buf 1 ((ow i).map (D.int .i64))),(1,.buf 1 [bR.D w]),(2,.buf 2 [Ask.D (⟨[],od⟩:Ask)])]) 5 (λi=>i<=w.us.length) (λi=>w.us.length-i) ae [(0,1),(1,2)] ?_;intro i hi;have hnl:=T8 i;refine zg ?_;intro u0;refine dN ?_ ?_<;>intro hc0
 .refine eX ?_;refine bc [.int .i64 (-1)] ?_;refine cL (q:=D.int .i64) (xs:=ow i) (e:=-1) (hb:=ae) ?_;refine zg ?_;rw[T7];exact iC (i+1) [(12,0),(1,1),(2,2)]
 refine cC ?_;obtain rfl:i=w.us.length:=ae;refine bm 0 ?_;refine cN ?_;refine mB (d:=bR.D w) ?_;refine cN ?_;refine mB (d:=Ask.D (⟨[],od⟩:Ask)) ?_;refine cN ?_;refine aG (hc:=hB (dz w.us) od (ow w.us.length) ⟨⟨hmp,sE _⟩,hop⟩) ?_;refine zg ?_;obtain⟨os,h1,h2⟩:∃os,mH (dz w.us) od (ow w.us.length)=os/\kN w.us od=os:=⟨_,rfl,rfl⟩
 rw[h1,h2];cases os<;>exact PV trivial Dk jC rfl
def MD:aj:=bj 55
def w143 (hA:C136 Y)(hB:C356 Y):IG (cz Y MD):=λl hp0=>by
 refine cN ?_;have hya:=yw hp0;refine zg ?_;intro u0;refine dN ?_ ?_<;>intro hc0
 .exfalso;have:=hya.1;omega
 refine zg ?_;intro u1;refine dN ?_ ?_<;>intro hc1
 .exfalso;have:=hya.1;omega
 refine zg ?_;refine zf hm (λi=>[.m 11 l hR.D,.u 4,.i i,.u 4]) (λi=>[]) 9 (λi=>i<=l.length) (λi=>l.length-i) ae [] ?_;intro i hi;refine zg ?_;intro u2;refine dN ?_ ?_<;>intro hc2
 .refine eX ?_;have hmi:=hya.2 i ae;have hck:=ajv hmi;refine eX ?_;refine aG (hc:=hA l[i]! hmi.1.2) ?_;refine zc ?_ ?_<;>intro hc3
  .exfalso;rw[hck]at hc3;exact absurd rfl hc3
  refine zc ?_ ?_<;>intro hc4
  .exfalso;rw[Qg hp0 ae]at hc4;exact absurd rfl hc4
  exact iC (i+1) []
 exact mK
def G5:aj:=bj 13
def w265 (hm:(Y.at 0).cb)(hA:C264 Y)(hB:C410 Y):IU (cz Y G5):=λshop e w l hp0=>by
 refine zc ?_ ?_<;>intro hc0
 .refine zr ?_;rw[chk_a hc0];rfl
 refine dI ?_;have hcw:=acf (l:=l) (e:=e) (shop:=shop) hp0.2.1 hc0;refine zg ?_;intro u0;refine dN ?_ ?_<;>intro hc1
 .refine cC ?_;have hun:=hcw.2.2 ae;refine dI ?_;refine cM 0 (hj:=λ_=>ae) (hb:=λ_=>ae) ?_;refine zr ?_;rw[chk_c hc0 ae];rfl
 refine zr ?_;rw[chk_b hc0 ae];rfl
def EY:aj:=bj 22
def w112 (hm:(Y.at 0).cb)     :wkk Y EY (.sl 5 (bJ.map ca.D)) []:=by
 refine eX ?_;refine bT _ ?_;refine bT _ ?_;refine bT _ ?_;refine bT _ ?_;refine bc (bJ.map ca.D) ?_;refine cC ?_;refine bm 5 ?_;exact mK
end Go.Abs
end
