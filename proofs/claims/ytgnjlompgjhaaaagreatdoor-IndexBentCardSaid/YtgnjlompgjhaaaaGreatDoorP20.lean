/- A part of the proofs. -/
import Derived.Test.YtgnjlompgjhaaaaGreatDoorP08
set_option linter.all false
set_option maxRecDepth 60000
set_option maxHeartbeats 2000000
namespace Go.Abs
variable {Y:Ctx}(hm:(Y.at 0).b8)
noncomputable def Pl:aC:=cR 213
def w810 (h349:Jc Y)(l:List Nd)   :di Y Pl (.bool (decide (l.length<=15)&&py l)) [.sl 5 (l.map Nd.D)]:=by
 show bK _ _ _ [⟨_,_⟩,_,_,_,_,_,_,_,_,_,_,_,_,_,_,_,_,_] _;refine ar ?_;refine aD ?_;intro u0;refine ax ?_;refine av (fun hc0=>?_) (fun hc0=>?_)
 .try simp only[dq]at hc0
  refine aE ?_;refine bV ?_;rw[show decide (l.length<=15)=false from cI ae];rfl
 simp only[bc]at hc0;have h15:l.length<=15:=ae;have hd15:decide (l.length<=15)=true:=ca h15;refine aB ?_;intro u1;refine Xn l.length ?_;refine aD ?_;intro u2;refine ax ?_;rw[show List.replicate l.length (D.int .i64 0)=(List.replicate l.length (0:Int)).map (D.int .i64)by simp];refine ba hm (ι:=(Nat×List Int×List Int)) (fun p=>[⟨true,.sl 5 (l.map Nd.D)⟩,.un,.un,⟨true,.int .i64 (p.1:Nat)⟩,⟨true,.int .i64 (l.length:Nat)⟩,.un,⟨true,.sl 5 (l.map Nd.D)⟩,⟨true,.own 0 1 0 l.length⟩,.un,.un,.un,.un,.un,.un,.un,.un,.un,.un]) (fun p=>[(0,.buf 1 (p.2.1.map (D.int .i64)))]) 11 (fun p=>p.1<=l.length/\p.2.1.length=l.length/\Ga p.2.1 (p.1:Nat) p.2.2.reverse/\nJ l 0 []=nJ (l.drop p.1) p.1 p.2.2) (fun p=>l.length-p.1) (0,List.replicate l.length 0,[]) ⟨aJ,aJ,rfl,aJ⟩ (a7.to [(6,0)] ah ah ei (by refine bo.nl 6 ah ah ah eL ?_;exact bo.nil)) ?_;rintro⟨i,S,o⟩ ⟨hi,hS,hc,hr⟩;dsimp only at hi hS hc hr⊢;refine ay ?_;refine cG (fun hc1=>?_) fun hc1=>?_
 .refine aE ?_;first|refine bE (v:=(Nd.D _)) ?_|refine ff (v:=(Nd.D _)) ?_
  refine ax ?_;refine aI (Nd.D l[i]!) (he:=aQ) ?_;refine aE ?_;refine iv i ?_;refine su ((S.set i (i:Int)).map (D.int .i64)) (hi:=cZ) (he:=zr ae _) ?_;have hch:Ga (S.set i (i:Int)) (i:Nat) o.reverse:=EH (Int.le_refl _) hc;have hSl:(S.set i (i:Int)).length=l.length:=by simp[hS]
  refine bN ?_;obtain⟨t1,t2⟩:=vB hch;obtain⟨u1,u2⟩:=EI hch;refine ay ?_;refine wp_cond (fun hc2=>?_) (fun hc2=>?_)
  .simp only[aK]at hc2;have hq1:=hc2;refine lX ?_;refine aq (hc:=h349 _) ?_;refine lX ?_;refine av (fun hc3=>?_) (fun hc3=>?_)
   .have hlf:ph l[i]! =false:=by rw[LH hq1,hc3];rfl
    refine bN ?_;refine bV ?_;rw[hd15];symm;refine kL ?_;rw[hr];refine gU ae ?_;exact FM hq1 hlf
   have hlf:ph l[i]! =true:=by rw[LH hq1,hc3];rfl
   refine c7 ?_;have hs:jB l[i]! i o=some (o++[(i:Int)]):=by exact KL hlf
   have hp:Ga (S.set i (i:Int)) ((i+1:Nat):Int) ((o++[(i:Int)])).reverse:=by
    rw[List.reverse_append,List.reverse_singleton,List.singleton_append];exact vA ae ae (Int.le_refl _) hc
   exact⟨(i+1,(S.set i (i:Int)),(o++[(i:Int)])),⟨dF,by simp[hS],hp,by rw[hr];exact jx ae hs⟩,dF,(a7.to [(0,0)] ah ah ei (by refine eN ?_;exact bo.nil))⟩
  simp only[bc]at hc2;have hq1:=hc2;refine aB ?_;refine wp_cond (fun hc4=>?_) (fun hc4=>?_)
  .simp only[aK]at hc4;have hq2:=hc4;refine Cq ?_;refine av (fun hc5=>?_) (fun hc5=>?_)
   .try simp only[dq]at hc5
    refine bN ?_;refine bV ?_;rw[hd15];symm;refine kL ?_;rw[hr];refine gU ae ?_;rw[xJ hch hq2,ak];rintro⟨⟨g1,g2,g3⟩,g4⟩;omega
   simp only[de,bc,bM,aK]at hc5;refine aZ ?_;refine iv (i-1) ?_;refine qf (q:=D.int .i64) (xs:=(S.set i (i:Int))) (v:=(.int .i64 (S.set i (i:Int))[i-1]!)) (hi:=fun _=>ae) (hv:=fun _=>by rw[bR];rfl) ?_;refine iv i ?_;refine su (((S.set i (i:Int)).set i (S.set i (i:Int))[i-1]!).map (D.int .i64)) (hi:=cZ) (he:=zr ae _) ?_;refine gD ?_;refine wp_cond (fun hc9=>?_) (fun hc9=>?_)
   .have hb:kX l[i]! =false:=by simp only[cN,bd,bc]at hc9;simp only[kX,dz,bc];exact hc9
    refine aD ?_;refine bV ?_;rw[hd15];symm;refine kL ?_;rw[hr];refine gU ae ?_;rw[xJ hch hq2,ak];rintro⟨⟨g1,g2,g3⟩,g4⟩;rw[hb]at g4;cases g4
   have hb:kX l[i]! =true:=by simp only[de,bM,aK]at hc9;simp only[kX,hc9.1,hc9.2,decide_true,Bool.and_self]
   refine aZ ?_;have hs:jB l[i]! i o=some (o.take (o.length-1)++[(i:Int)]):=by rw[xJ hch hq2,aw ⟨⟨ae,ae,ae⟩,hb⟩]
   have hp:Ga ((S.set i (i:Int)).set i (S.set i (i:Int))[i-1]!) ((i+1:Nat):Int) ((o.take (o.length-1)++[(i:Int)])).reverse:=by
    rw[List.reverse_append,List.reverse_singleton,List.singleton_append];obtain⟨y1,y2,y3,y4⟩:=t2 ae;exact vA ae y2 ae y4
   exact⟨(i+1,((S.set i (i:Int)).set i (S.set i (i:Int))[i-1]!),(o.take (o.length-1)++[(i:Int)])),⟨dF,by simp[hS],hp,by rw[hr];exact jx ae hs⟩,dF,(a7.to [(0,0)] ah ah ei (by refine eN ?_;exact bo.nil))⟩
  simp only[bc]at hc4;have hq2:=hc4;refine aE ?_;refine cG (fun hc6=>?_) fun hc6=>?_
  .refine aA ?_;refine fO (fun hc7=>?_) fun hc7=>?_
   .refine Cn ?_;refine iv (i-1) ?_;refine qf (q:=D.int .i64) (xs:=(S.set i (i:Int))) (v:=(.int .i64 (S.set i (i:Int))[i-1]!)) (hi:=fun h=>by simp at h;omega) (hv:=fun _=>by rw[bR];rfl) ?_;refine bN ?_;refine iv (i-1) ?_;refine qf (q:=D.int .i64) (xs:=(S.set i (i:Int))) (v:=(.int .i64 (S.set i (i:Int))[i-1]!)) (hi:=fun h=>by simp at h;omega) (hv:=fun _=>by rw[bR];rfl) ?_;refine aB ?_;refine av (fun hc8=>?_) (fun hc8=>?_)
    .have hq34:l[i]!.op=3\/l[i]!.op=4:=ae;simp only[cN,aK,bd,bc]at hc8;refine bN ?_;refine bV ?_;rw[hd15];symm;refine kL ?_;rw[hr];refine gU ae ?_;rw[oo hch hq34,ak];rintro⟨⟨g1,g2,g3,g4⟩,g5⟩;omega
    simp only[de,bc,bM,aK]at hc8;have hq34:l[i]!.op=3\/l[i]!.op=4:=ae;have hk2:=u1.2 ⟨ae,ae⟩;obtain⟨w1,w2,w3,w4⟩:=u2 hk2;obtain⟨y1,y2,y3,y4⟩:=t2 ae;refine aZ ?_;refine iv l[i]!.a.toNat ?_;refine qf (q:=D.int .i64) (xs:=(S.set i (i:Int))) (v:=(.int .i64 (S.set i (i:Int))[l[i]!.a.toNat]!)) (hi:=fun _=>ae) (hv:=fun _=>by rw[bR];rfl) ?_;refine iv i ?_;refine su (((S.set i (i:Int)).set i (S.set i (i:Int))[l[i]!.a.toNat]!).map (D.int .i64)) (hi:=cZ) (he:=zr ae _) ?_;refine gD ?_;refine wp_cond (fun hc9=>?_) (fun hc9=>?_)
    .have hb:kX l[i]! =false:=by simp only[cN,bd,bc]at hc9;simp only[kX,dz,bc];exact hc9
     refine aD ?_;refine bV ?_;rw[hd15];symm;refine kL ?_;rw[hr];refine gU ae ?_;rw[oo hch hq34,ak];rintro⟨⟨g1,g2,g3,g4⟩,g5⟩;rw[hb]at g5;cases g5
    have hb:kX l[i]! =true:=by simp only[de,bM,aK]at hc9;simp only[kX,hc9.1,hc9.2,decide_true,Bool.and_self]
    refine aZ ?_;have hs:jB l[i]! i o=some (o.take (o.length-2)++[(i:Int)]):=by rw[oo hch hq34,aw ⟨⟨ae,ae,ae,ae⟩,hb⟩]
    have hp:Ga ((S.set i (i:Int)).set i (S.set i (i:Int))[l[i]!.a.toNat]!) ((i+1:Nat):Int) ((o.take (o.length-2)++[(i:Int)])).reverse:=by
     rw[List.reverse_append,List.reverse_singleton,List.singleton_append];rw[show l[i]!.a=(S.set i (i:Int))[i-1]! -1 by omega];exact vA ae w2 ae w4
    exact⟨(i+1,((S.set i (i:Int)).set i (S.set i (i:Int))[l[i]!.a.toNat]!),(o.take (o.length-2)++[(i:Int)])),⟨dF,by simp[hS],hp,by rw[hr];exact jx ae hs⟩,dF,(a7.to [(0,0)] ah ah ei (by refine eN ?_;exact bo.nil))⟩
   refine aZ ?_;refine bV ?_;exfalso;omega
  refine aB ?_;refine fO (fun hc7=>?_) fun hc7=>?_
  .refine Cn ?_;refine iv (i-1) ?_;refine qf (q:=D.int .i64) (xs:=(S.set i (i:Int))) (v:=(.int .i64 (S.set i (i:Int))[i-1]!)) (hi:=fun h=>by simp at h;omega) (hv:=fun _=>by rw[bR];rfl) ?_;refine bN ?_;refine iv (i-1) ?_;refine qf (q:=D.int .i64) (xs:=(S.set i (i:Int))) (v:=(.int .i64 (S.set i (i:Int))[i-1]!)) (hi:=fun h=>by simp at h;omega) (hv:=fun _=>by rw[bR];rfl) ?_;refine aB ?_;refine av (fun hc8=>?_) (fun hc8=>?_)
   .have hq34:l[i]!.op=3\/l[i]!.op=4:=ae;simp only[cN,aK,bd,bc]at hc8;refine bN ?_;refine bV ?_;rw[hd15];symm;refine kL ?_;rw[hr];refine gU ae ?_;rw[oo hch hq34,ak];rintro⟨⟨g1,g2,g3,g4⟩,g5⟩;omega
   simp only[de,bc,bM,aK]at hc8;have hq34:l[i]!.op=3\/l[i]!.op=4:=ae;have hk2:=u1.2 ⟨ae,ae⟩;obtain⟨w1,w2,w3,w4⟩:=u2 hk2;obtain⟨y1,y2,y3,y4⟩:=t2 ae;refine aZ ?_;refine iv l[i]!.a.toNat ?_;refine qf (q:=D.int .i64) (xs:=(S.set i (i:Int))) (v:=(.int .i64 (S.set i (i:Int))[l[i]!.a.toNat]!)) (hi:=fun _=>ae) (hv:=fun _=>by rw[bR];rfl) ?_;refine iv i ?_;refine su (((S.set i (i:Int)).set i (S.set i (i:Int))[l[i]!.a.toNat]!).map (D.int .i64)) (hi:=cZ) (he:=zr ae _) ?_;refine gD ?_;refine wp_cond (fun hc9=>?_) (fun hc9=>?_)
   .have hb:kX l[i]! =false:=by simp only[cN,bd,bc]at hc9;simp only[kX,dz,bc];exact hc9
    refine aD ?_;refine bV ?_;rw[hd15];symm;refine kL ?_;rw[hr];refine gU ae ?_;rw[oo hch hq34,ak];rintro⟨⟨g1,g2,g3,g4⟩,g5⟩;rw[hb]at g5;cases g5
   have hb:kX l[i]! =true:=by simp only[de,bM,aK]at hc9;simp only[kX,hc9.1,hc9.2,decide_true,Bool.and_self]
   refine aZ ?_;have hs:jB l[i]! i o=some (o.take (o.length-2)++[(i:Int)]):=by rw[oo hch hq34,aw ⟨⟨ae,ae,ae,ae⟩,hb⟩]
   have hp:Ga ((S.set i (i:Int)).set i (S.set i (i:Int))[l[i]!.a.toNat]!) ((i+1:Nat):Int) ((o.take (o.length-2)++[(i:Int)])).reverse:=by
    rw[List.reverse_append,List.reverse_singleton,List.singleton_append];rw[show l[i]!.a=(S.set i (i:Int))[i-1]! -1 by omega];exact vA ae w2 ae w4
   exact⟨(i+1,((S.set i (i:Int)).set i (S.set i (i:Int))[l[i]!.a.toNat]!),(o.take (o.length-2)++[(i:Int)])),⟨dF,by simp[hS],hp,by rw[hr];exact jx ae hs⟩,dF,(a7.to [(0,0)] ah ah ei (by refine eN ?_;exact bo.nil))⟩
  refine aZ ?_;refine bV ?_;rw[hd15];symm;refine kL ?_;rw[hr];refine gU ae ?_;exact Io hq1 hq2 ae ae
 refine ay ?_;obtain rfl:i=l.length:=ae;obtain⟨t1,t2⟩:=vB hc;obtain⟨u1,u2⟩:=EI hc;refine ax ?_;intro u3;refine aB ?_;refine iy ?_;refine aA ?_;refine iv (l.length-1) (hj:=fun h=>by have hz:¬l.length=0:=(fun hz=>by simp[hz]at h);omega) (hb:=fun h=>by have hz:¬l.length=0:=(fun hz=>by simp[hz]at h);omega) ?_;refine qf (q:=D.int .i64) (xs:=S) (v:=(.int .i64 S[l.length-1]!)) (hi:=fun h=>by have hz:¬l.length=0:=(fun hz=>by simp[hz]at h);omega) (hv:=fun _=>by rw[bR];rfl) ?_;refine aE ?_;refine bV ?_;rw[hd15];simp only[py,hr,DM (aL l.length),gH];exact(T1 t1 t2 u1).symm
noncomputable def HZ:aC:=cR 14
def w87 (h223:XB Y)(h258:C258 Y)(h259:C259 Y)(h260:C260 Y)(h261:XI Y)(h262:C262 Y)(s:au)  (hp0:s.length<=1048576):di Y HZ (.tup [fR.D (hX s).1,.int .i64 (hX s).2.1,.int .i64 (hX s).2.2]) [.str s]:=by
 show bK _ _ _ [⟨_,_⟩,_,_,_,_,_,_,_,_,_,_,_,_,_,_,_,_,_,_,_,_] _;refine ar ?_;refine bN ?_;intro u0;refine ax ?_;refine av (fun hc0=>?_) (fun hc0=>?_)
 .simp only[dq]at hc0;have hz:=DZ (s:=s) ae;refine ax ?_;refine df _ ?_;refine aE ?_;refine bG (dj ?_ (aj (D.int .i64) ?_) (aj (D.int .i64) ?_));all_goals
   rw[hz];first|done|rfl
 simp only[dq]at hc0;have g0:¬524288<s.length:=ae;refine ay ?_;refine aq (hc:=h223 s hp0) ?_;refine aA ?_;refine eZ (.sl _ _) ?_;refine bN ?_;intro u1;refine ay ?_;refine iy ?_;refine aZ ?_;refine av (fun hc1=>?_) (fun hc1=>?_)
 .simp only[dq]at hc1;have hz:=SX g0 (by rcases hc1 with h|⟨h,h2⟩;exact .inl ae;exact .inr ⟨ae,h2⟩);refine ax ?_;refine df _ ?_;refine aE ?_;refine bG (dj ?_ (aj (D.int .i64) ?_) (aj (D.int .i64) ?_));all_goals
   rw[hz];first|done|rfl
 simp only[dq]at hc1;have g1:¬((az s).1.length=0\/((az s).1.length=1/\(az s).2=false)):=by
  rintro(h|⟨h,h2⟩)
  .exact hc1.1 ae
  .rcases hc1.2 with h3|h3
   .exact h3 ae
   .rw[h2]at h3;cases h3
 have hph:=SW g0 g1;have gl:0<(az s).1.length:=by
  by_cases h:(az s).1.length=0
  .exact absurd (.inl h) g1
  .omega
 refine ay ?_;refine bI 0 (hb:=fun _=>ae) ?_;refine bE (v:=.str (az s).1[0]!) (hi:=fun _=>ae) ?_;refine aq (hc:=h258 (az s).1[0]! (by have:=vT gl;omega)) ?_;refine fK ?_;refine av (fun hc2=>?_) (fun hc2=>?_)
 .simp only[dq]at hc2;have hz:hX s=(oY,2,1):=by rw[hph,ak (by rw[hc2];simp)]
  refine ax ?_;refine df _ ?_;refine aE ?_;refine bG (dj ?_ (aj (D.int .i64) ?_) (aj (D.int .i64) ?_));all_goals
   rw[hz];first|done|rfl
 simp only[dq]at hc2;have hz:hX s=AN ((ib (az s).1[0]!).getD []) (oN (cD s) [] 1):=by rw[hph,aw hc2]
 refine ay ?_;refine bg (.agg [.str ((ib (az s).1[0]!).getD []),.bq]) ?_;refine aA ?_;refine aI (.agg [.str ((ib (az s).1[0]!).getD []),.bq]) (he:=aQ) ?_;refine aE ?_;refine ba hm (ι:=(List cx×Nat)) (fun p=>[⟨true,.str s⟩,⟨true,.ptr 0 2 0 0⟩,.un,.un,.un,⟨true,.sl 1 ((az s).1.map D.str)⟩,⟨true,.bool (az s).2⟩,.un,.un,.un,.un,⟨true,.int .i64 (p.2:Nat)⟩,.un,.un,.un,.un,.un,.un,⟨true,.ptr 1 2 0 0⟩,.un,.un]) (fun p=>[(0,.buf 2 [.agg [.str [],.bq]]),(1,.buf 2 [.agg [.str ((ib (az s).1[0]!).getD []),.own 2 11 0 (p.1).length]]),(2,.buf 11 ((p.1).map cx.D))]) 60 (fun p=>(1<=p.2/\p.2<=(az s).1.length)/\Ua p.1/\p.1.length<=64/\hX s=AN ((ib (az s).1[0]!).getD []) (oN (cD s) p.1 p.2)) (fun p=>(az s).1.length-p.2) ([],1) ⟨dF,(fun _ h=>by cases h),aJ,hz⟩ (a7.to [(0,0),(38,1)] ah ah lP (by refine bo.fY ah ah ah ?_;refine bo.ni 38 ah ah (by exact⟨_,_,rfl,⟨_,rfl,⟨_,_,rfl,⟨rfl,rfl⟩,⟨_,_,rfl,Or.inr ⟨_,_,_,rfl⟩,rfl⟩⟩⟩,rfl⟩) ?_;refine bo.mt ah ah ah ah ?_;exact bo.nil)) ?_;rintro⟨es,k⟩ ⟨hk,hes,he64,hr⟩;dsimp only at hk hes he64 hr⊢;refine aE ?_;intro u2;refine ax ?_;refine cG (fun hc3=>?_) fun hc3=>?_
 .refine ay ?_;have g4:=vT (s:=s) (i:=k) ae;refine ax ?_;refine bI k (hb:=fun _=>ae) ?_;refine bE (v:=.str (az s).1[k]!) (hi:=fun _=>ae) ?_;refine aq (hc:=h259 (az s).1[k]! ae) ?_;refine aA ?_;refine eZ (cx.D _) ?_;refine ax ?_;refine aI (cx.D (⟨hH,(fP (az s).1[k]!).1,(fP (az s).1[k]!).2.1⟩:cx)) (he:=aQ) ?_;refine gD ?_;refine iy ?_;refine aE ?_;refine av (fun hc4=>?_) (fun hc4=>?_)
  .simp only[dq]at hc4;have hz2:=Qb (es:=es) (show k<(az s).1.length by omega) hc4;refine ax ?_;refine df _ ?_;refine c7 ?_;refine bG (dj ?_ (aj (D.int .i64) ?_) (aj (D.int .i64) ?_));all_goals
    rw[hr,hz2,rN aF];first|done|rfl
  simp only[dq]at hc4;refine aD ?_;refine ba hm (ι:=Nat) (fun j=>[⟨true,.str s⟩,⟨true,.ptr 0 2 0 0⟩,.un,.un,.un,⟨true,.sl 1 ((az s).1.map D.str)⟩,⟨true,.bool (az s).2⟩,.un,.un,.un,.un,⟨true,.int .i64 (k:Nat)⟩,.un,.un,.un,⟨true,.int .i64 (j:Nat)⟩,.un,⟨true,.ptr 3 11 0 0⟩,⟨true,.ptr 1 2 0 0⟩,.un,.un]) (fun _=>[(0,.buf 2 [.agg [.str [],.bq]]),(1,.buf 2 [.agg [.str ((ib (az s).1[0]!).getD []),.own 2 11 0 (es).length]]),(2,.buf 11 ((es).map cx.D)),(3,.buf 11 [cx.D (⟨hH,(fP (az s).1[k]!).1,(fP (az s).1[k]!).2.1⟩:cx)])]) 100 (fun j=>(k+1<=j/\j<=(az s).1.length)/\Bm (az s).1 (k+1)=sC (fun j=>decide (fw (az s).1[j]! =gG)) j (az s).1.length) (fun j=>(az s).1.length-j) (k+1) ⟨ae,rfl⟩ (a7.to [(0,0),(1,1),(2,2),(72,3)] ah ah lP (by refine eN ?_;refine eN ?_;refine eN ?_;first|(refine bo.fY ah ah ah ?_;exact bo.nil)|(refine bo.nl 72 ah ah rfl ah ?_;exact bo.nil))) ?_;rintro j ⟨hj,hn⟩;refine aE ?_;intro u3;refine aB ?_;refine bI j (hb:=fun hf=>by simp at hf;omega) ?_;refine bE (v:=.str (az s).1[j]!) (hi:=fun hf=>by simp at hf;omega) ?_;refine c9 (hc:=fun hf=>h260 (az s).1[j]! (by have:=vT (s:=s) (i:=j) (by simp at hf;omega);omega)) ?_;refine ay ?_;refine av (fun hc5=>?_) (fun hc5=>?_)
  .simp only[dq]at hc5;refine c7 ?_;exact⟨(j+1),⟨ae,by rw[hn,FJ ae (cI hc5.2)]⟩,ae,(a7.to [(0,0),(1,1),(2,2),(3,3)] ah ah lP (by refine eN ?_;refine eN ?_;refine eN ?_;first|(refine bo.fY ah ah ah ?_;exact bo.nil)|(refine bo.nl 72 ah ah rfl ah ?_;exact bo.nil)))⟩
  simp only[dq]at hc5;have hnj:Bm (az s).1 (k+1)=j:=by
   rw[hn];rcases hc5 with h|h
   .exact sE ae
   .by_cases hjl:j<(az s).1.length
    .exact B2 hjl (ca h)
    .exact sE ae
  have hz2:=TK (es:=es) (show k<(az s).1.length by omega) hc4 hnj;refine aB ?_;by_cases hadd:(gJ es (jO (slice (az s).1 (k+1) j) ((az s).2 ||decide (j<(az s).1.length))) (fP (az s).1[k]!).1 (fP (az s).1[k]!).2.1).1=0
  .refine cA (d:=cx.D (⟨hH,(fP (az s).1[k]!).1,(fP (az s).1[k]!).2.1⟩:cx)) ?_;refine aB ?_;refine BG (k+1) j ?_;refine aB ?_;refine iy ?_;refine ax ?_;refine aq (v:=.str (jO (slice (az s).1 (k+1) j) ((az s).2 ||decide (j<(az s).1.length)))) (hc:=h262 (slice (az s).1 (k+1) j) ((az s).2 ||decide (j<(az s).1.length)) (LI ae)) (ha:=fun _=>by rw[show decide (j<(az s).1.length)=decide ((j:Int)<((az s).1.length:Int))from gY.2 ae];exact rfl) ?_;refine cy (nx':=113) (v:=.int .i64 0) (m':=[(126,.buf 11 ((gJ es (jO (slice (az s).1 (k+1) j) ((az s).2 ||decide (j<(az s).1.length))) (fP (az s).1[k]!).1 (fP (az s).1[k]!).2.1).2.map cx.D)),(0,.buf 2 [.agg [.str [],.bq]]),(1,.buf 2 [.agg [.str ((ib (az s).1[0]!).getD []),.own 126 11 0 (gJ es (jO (slice (az s).1 (k+1) j) ((az s).2 ||decide (j<(az s).1.length))) (fP (az s).1[k]!).1 (fP (az s).1[k]!).2.1).2.length]]),(3,.buf 11 [cx.D (⟨hH,(fP (az s).1[k]!).1,(fP (az s).1[k]!).2.1⟩:cx)])]) (hc:=fun K' hK=>h261 ((ib (az s).1[0]!).getD []) es (⟨hH,(fP (az s).1[k]!).1,(fP (az s).1[k]!).2.1⟩:cx) (jO (slice (az s).1 (k+1) j) ((az s).2 ||decide (j<(az s).1.length))) hes _ 1 2 _ K' ah ah cd cd (fun h=>absurd hadd h) (fun _=>hK)) (hn:=aF) ?_;refine aZ ?_;refine av (fun hc6=>?_) (fun hc6=>?_)
   .exact absurd hc6 aF
   refine aZ ?_;exact⟨((gJ es (jO (slice (az s).1 (k+1) j) ((az s).2 ||decide (j<(az s).1.length))) (fP (az s).1[k]!).1 (fP (az s).1[k]!).2.1).2,j),⟨dF,(Gr hadd hes).1,(Gr hadd hes).2,by rw[hr,hz2,ak (fun h=>h hadd)]⟩,dF,(a7.to [(0,0),(1,1),(126,2)] ah ah lP (by refine eN ?_;refine bo.Gc ah ah ah ?_;refine bo.nl 126 ah ah rfl (br (fun _=>rfl) _) ?_;exact bo.nil))⟩
  .refine cA (d:=cx.D (⟨hH,(fP (az s).1[k]!).1,(fP (az s).1[k]!).2.1⟩:cx)) ?_;refine aB ?_;refine BG (k+1) j ?_;refine aB ?_;refine iy ?_;refine ax ?_;refine aq (v:=.str (jO (slice (az s).1 (k+1) j) ((az s).2 ||decide (j<(az s).1.length)))) (hc:=h262 (slice (az s).1 (k+1) j) ((az s).2 ||decide (j<(az s).1.length)) (LI ae)) (ha:=fun _=>by rw[show decide (j<(az s).1.length)=decide ((j:Int)<((az s).1.length:Int))from gY.2 ae];exact rfl) ?_;refine cy (nx':=112) (v:=.int .i64 (gJ es (jO (slice (az s).1 (k+1) j) ((az s).2 ||decide (j<(az s).1.length))) (fP (az s).1[k]!).1 (fP (az s).1[k]!).2.1).1) (m':=[(0,.buf 2 [.agg [.str [],.bq]]),(1,.buf 2 [.agg [.str ((ib (az s).1[0]!).getD []),.own 2 11 0 (es).length]]),(2,.buf 11 ((es).map cx.D)),(3,.buf 11 [cx.D (⟨hH,(fP (az s).1[k]!).1,(fP (az s).1[k]!).2.1⟩:cx)])]) (hc:=fun K' hK=>h261 ((ib (az s).1[0]!).getD []) es (⟨hH,(fP (az s).1[k]!).1,(fP (az s).1[k]!).2.1⟩:cx) (jO (slice (az s).1 (k+1) j) ((az s).2 ||decide (j<(az s).1.length))) hes _ 1 2 _ K' ah ah cd cd (fun _=>hK) (fun h=>absurd h hadd)) (hn:=aF) ?_;refine aZ ?_;refine av (fun hc6=>?_) (fun hc6=>?_)
   .refine ax ?_;refine df _ ?_;refine fU ?_;refine bG (dj ?_ (aj (D.int .i64) ?_) (aj (D.int .i64) ?_));all_goals
     rw[hr,hz2,aw hadd,rN hadd];first|done|rfl
   exact absurd (by simpa using hc6) hadd
 refine ax ?_;refine eI 2 ?_;refine aA ?_;refine cA (d:=fR.D ⟨((ib (az s).1[0]!).getD []),es⟩) ?_;refine aI (fR.D ⟨((ib (az s).1[0]!).getD []),es⟩) (he:=aQ) ?_;refine aB ?_;refine bG (dj ?_ (aj (D.int .i64) ?_) (aj (D.int .i64) ?_));all_goals
  rw[hr,DV (by rw[kg];omega)];first|done|rfl
noncomputable def yR:aC:=cR 43
def w263 {Y:Ctx}(hm:(Y.at 0).b8)(h78:C78 Y)(a:cx)(b:cx)   :di Y yR (.bool (decide (a.sum=b.sum)&&decide (a.r=b.r))) [cx.D a,cx.D b]:=by
 show bK _ _ _ [⟨_,_⟩,⟨_,_⟩,_,_,_] _;refine ar ?_;refine aD ?_;refine aT (v:=.int .u64 a.sum) ?_;refine aA ?_;refine aT (v:=.int .u64 b.sum) ?_;refine ay ?_;refine aT (v:=Rec.D a.r) ?_;refine aA ?_;refine aT (v:=Rec.D b.r) ?_;refine c9 (hc:=fun hf=>h78 a.r b.r) ?_;refine aB ?_;exact bV rfl
def Kj:aC:=⟨2,9,[⟨2,none⟩],ha1,(sq (rg [gb 2 s0,gb 2 s1,gm W2] [(3,0),(4,1),(2,2)]) (sq (sq (r1 [gf 0 s3,gd l0,gf 0 s4,gd l2,r6 l1 l3,gm l4,Gb 5 1 s3,I6 5 l6,tI 5 (.len l7),Gb 5 1 s4,I6 5 l9,tI 5 (.len l10),tI 5 (K8 l8 l11),Ut l5 l12] 5 13) (.cond s5 (sq (r1 [gm W2] 2 0) .ret) .skip)) (sq (sq (r1 [gm Lv] 6 0) (.block 0 (.loop (sq (sq (r1 [gm s6,gf 1 s3,gd l1,gl l2,Bc l0 l3] 7 4) (gce s7 0)) (sq (.block 1 (sq (r2 [gf 1 s3,gd l0,gm s6,ga 11 l1 l2,gk 11 true l3,gf 1 s4,gd l5,gm s6,ga 11 l6 l7,gk 11 true l8,gx 263 [l4,l9] [[.a,.a,.a,.a,.a,.a,.sl 3 [.sl 4 [.a,.a,.sl 1 [.a],.a],.a,.a],.sl 3 [.a,.a,.a],.sl 2 [.a,.sl 1 [.a]],.a,.a],[.a,.a,.a,.a,.a,.a,.sl 3 [.sl 4 [.a,.a,.sl 1 [.a],.a],.a,.a],.sl 3 [.a,.a,.a],.sl 2 [.a,.sl 1 [.a]],.a,.a]],gno l10,gm l11,Gb 12 1 s3,I6 12 l13,gmf 12 s6,tI 12 (.ia 11 l14 l15),Gb 12 10 l16,I6 12 l17,Gb 12 1 s4,I6 12 l19,gmf 12 s6,tI 12 (.ia 11 l20 l21),Gb 12 10 l22,I6 12 l23,tI 12 (.eqA true false [.b] l18 l24),Ut l12 l25] 8 26) (.cond s8 (sq (r1 [gm W2] 2 0) .ret) .skip))) (r1 [gm s6,Bb l0 ic1,gm l1] 6 2)))))) (sq (r1 [gm cbT] 2 0) .ret))))⟩
def w88 (h263:C263 Y)(a:fR)(b:fR)   :di Y Kj (.bool (decide (a=b))) [fR.D a,fR.D b]:=by
 show bK _ _ _ [⟨_,_⟩,⟨_,_⟩,_,_,_,_,_,_,_] _;refine ar ?_;refine aZ ?_;refine aT (v:=.str a.name) ?_;refine aA ?_;refine aT (v:=.str b.name) ?_;refine ay ?_;refine aT (v:=.sl 11 (a.es.map cx.D)) ?_;refine iy ?_;refine aA ?_;refine aT (v:=.sl 11 (b.es.map cx.D)) ?_;refine iy ?_;refine ay ?_;refine av (fun hc0=>?_) (fun hc0=>?_)
 .simp only[cN,bd,aK,bc]at hc0;refine aE ?_;refine bV ?_;symm;apply cI;rintro rfl;rcases hc0 with h|h
  .exact h rfl
  .exact h rfl
 simp only[de,bM,aK,bc,Classical.not_not]at hc0;obtain⟨hnm,hln⟩:=hc0;replace hln:a.es.length=b.es.length:=ae;refine aE ?_;refine ba hm (ι:=Nat) (fun i=>[.un,.un,.un,⟨true,.ptr 0 2 0 0⟩,⟨true,.ptr 1 2 0 0⟩,.un,⟨true,.int .i64 (i:Nat)⟩,.un,.un]) (fun i=>[(0,.buf 2 [fR.D a]),(1,.buf 2 [fR.D b])]) 18 (fun i=>i<=a.es.length/\∀j,j<i->a.es[j]! =b.es[j]!) (fun i=>a.es.length-i) 0 ⟨ae,fun j h=>ae⟩ (du [(0,0),(1,1)]) ?_;rintro i ⟨hi,hr⟩;refine aB ?_;refine aT (v:=.sl 11 (a.es.map cx.D)) ?_;refine aA ?_;intro u0;refine ax ?_;refine cG (fun hc1=>?_) fun hc1=>?_
 .refine aB ?_;refine aT (v:=.sl 11 (a.es.map cx.D)) ?_;refine aA ?_;refine bI i (hb:=fun _=>ae) ?_;refine bE (v:=cx.D a.es[i]!) (hi:=fun _=>ae) ?_;refine aA ?_;refine aT (v:=.sl 11 (b.es.map cx.D)) ?_;refine aA ?_;refine bI i (hb:=fun _=>ae) ?_;refine bE (v:=cx.D b.es[i]!) (hi:=fun _=>ae) ?_;refine aq (hc:=h263 a.es[i]! b.es[i]!) ?_;refine sQ ?_;refine Ma (hb:=YX _ _) ?_;refine ax ?_;refine wp_cond (fun hc2=>?_) (fun hc2=>?_)
  .simp only[dq]at hc2;refine aD ?_;refine bV ?_;symm;apply cI;rintro rfl;simp at hc2
  simp only[dq]at hc2;refine bN ?_;exact⟨i+1,⟨ae,fun j h=>(Nat.lt_or_eq_of_le (Nat.le_of_lt_succ h)).elim (hr j) fun e=>e▸YZ hc2⟩,ae,(du [(0,0),(1,1)])⟩
 refine aD ?_;refine bV ?_;symm;exact ca (ZQ hnm hln fun j h=>hr j ae)
noncomputable def xy:aC:=cR 45
def w504 {Y:Ctx}(hm:(Y.at 0).b8)(s:fR)(r:Rec)(h75:C75 Y)(h358:XK Y)(h580:X2 Y)(hp0:(∀x∈s.es,fC x.r)/\fC r):bK (Y.at 0) xy.body (j5 xy (PutQ s r):Ex->List ch->St->Prop) (fF xy [fR.D s,Rec.D r]) ⟨0,[]⟩:=by
 show bK _ _ _ [⟨_,_⟩,⟨_,_⟩,_,_,_,_,_,_,_,_,_,_] _;refine ar ?_;refine aZ ?_;refine cA (d:=fR.D s) ?_;refine aq (hc:=h358 s hp0.1) ?_;refine ax ?_;refine av (fun hc0=>?_) (fun hc0=>?_)
 .simp only[bd]at hc0;have hz:nD s r=(oY,1):=by unfold nD;rw[aw hc0]
  refine ax ?_;refine df _ ?_;refine aB ?_;refine bP trivial sj (bS ah (aH ?_ (aj (D.int .i64) ?_))) ah (.inl ⟨by rw[hz];decide,rfl⟩);all_goals first|rfl|(rw[hz];done)|(rw[hz];rfl)
 simp only[bM]at hc0;have hq0:¬kA s=false:=by simp[hc0]
 refine ax ?_;refine cA (d:=Rec.D r) ?_;refine aq (hc:=h75 r hp0.2) ?_;refine gD ?_;refine wp_cond (fun hc1=>?_) (fun hc1=>?_)
 .simp only[bd,bc]at hc1;have hz:nD s r=(oY,(dw r).2):=by unfold nD;rw[ak hq0,aw hc1]
  refine aA ?_;refine df _ ?_;refine aD ?_;refine bP trivial sj (bS ah (aH ?_ (aj (D.int .i64) ?_))) ah (.inl ⟨by rw[hz];exact hc1,rfl⟩);all_goals first|rfl|(rw[hz];done)|(rw[hz];rfl)
 simp only[bM,aK]at hc1;have hq1:¬¬(dw r).2=0:=fun h=>h hc1
 refine ax ?_;refine aT (v:=.sl 11 (s.es.map cx.D)) ?_;refine aA ?_;refine aT (v:=.str r.name) ?_;refine aA ?_;refine aT (v:=cq.D r.v) ?_;refine aq (hc:=h580 s.es r.name r.v ⟨fun x hx=>(hp0.1 x hx).1.2,hp0.2.1.2⟩) ?_;refine ay ?_;refine wp_cond (fun hc2=>?_) (fun hc2=>?_)
 .simp only[aK]at hc2;have hz:nD s r=(oY,8):=by unfold nD;rw[ak hq0,ak hq1,aw hc2]
  refine aA ?_;refine df _ ?_;refine aE ?_;refine bP trivial sj (bS ah (aH ?_ (aj (D.int .i64) ?_))) ah (.inl ⟨by rw[hz];decide,rfl⟩);all_goals first|rfl|(rw[hz];done)|(rw[hz];rfl)
 simp only[bc]at hc2;refine ax ?_;refine aT (v:=.sl 11 (s.es.map cx.D)) ?_;refine aA ?_;intro u0;refine ay ?_;refine wp_cond (fun hc3=>?_) (fun hc3=>?_)
 .simp only[aK]at hc3;have hz:nD s r=(oY,10):=by unfold nD;rw[ak hq0,ak hq1,ak hc2,aw ae]
  refine aA ?_;refine df _ ?_;refine aE ?_;refine bP trivial sj (bS ah (aH ?_ (aj (D.int .i64) ?_))) ah (.inl ⟨by rw[hz];decide,rfl⟩);all_goals first|rfl|(rw[hz];done)|(rw[hz];rfl)
 simp only[bc]at hc3;have hz:nD s r=(⟨s.name,oW s r⟩,0):=by unfold nD;rw[ak hq0,ak hq1,ak hc2,ak ae];rfl
 refine ax ?_;refine eI 0 ?_;refine ax ?_;refine BF (v:=.str s.name) ?_;refine aA ?_;refine ff (v:=.sl 11 (s.es.map cx.D)) ?_;refine L9 (he:=sR.sl) (n:=s.es.length) (hn:=aJ) (hb:=ae) ?_;refine cA (d:=Rec.D r) ?_;refine aA ?_;refine bg (cx.D (⟨r,m9 r,false⟩:cx)) ?_;refine dh [cx.D (⟨r,m9 r,false⟩:cx)] ?_;refine gV (q:=cx.D) (xs:=s.es) (e:=(⟨r,m9 r,false⟩:cx)) (hb:=ae) ?_;refine bg (.agg [.str s.name,.own 40 11 0 (oW s r).length]) ?_;refine aI (.agg [.str s.name,.own 40 11 0 (oW s r).length]) (he:=aQ) ?_;refine ay ?_;refine bP trivial sj (bS ah (aH ?_ (aj (D.int .i64) ?_))) ah (.inr ⟨by rw[hz],40,rfl,aQ⟩);all_goals rfl
def yT:aC:=⟨2,16,[⟨2,none⟩],ha1,(sq (rg [gb 5 s0,gb 5 s1,gm Lv] [(3,0),(4,1),(2,2)]) (sq (sq (r2 [gk 5 true s3,gx 209 [l0] Z9,gno l1,gm l2,tI 3 (.ld 5 true s4),tI 3 (.call 209 [l4] Z9),tI 3 (.un .not l5),Ut l3 l6,gm l7,tI 8 (.ld 5 true s3),tI 8 (.call 530 [l9] Z9),tI 8 (.ld 5 true s4),tI 8 (.call 530 [l11] Z9),tI 8 (.eqA false true [.i .i64,.i .i64,.i .i64,.s,.s] l10 l12),Ut l8 l13] 5 14) (.cond s5 (sq (r1 [gm Lv] 2 0) .ret) .skip)) (sq (sq (r2 [gf 0 s3,gd l0,gf 0 s4,gd l2,gx 532 [l1,l3] tJ,gf 1 s3,gd l5,gf 1 s4,gd l7,gx 532 [l6,l8] tJ,gf 2 s3,gd l10,gf 2 s4,gd l12,gx 532 [l11,l13] tJ,gn (.bsl 1 (.int .i64 0) 3 [(0,l4),(1,l9),(2,l14)]),gx 531 [l15] [[.sl 1 [.a]]],gm l16] 6 17) (sq (r1 [gm s6,r6 l0 Lv] 7 1) (.cond s7 (sq (r1 [gm s6,gm l0] 2 1) .ret) .skip))) (sq (sq (r1 [gf 3 s3,gd l0,Sq l1 cse] 8 2) (.cond s8 (sq (r1 [gm ic1] 2 0) .ret) .skip)) (sq (sq (r1 [gf 3 s4,gd l0,Sq l1 cse] 9 2) (.cond s9 (sq (r1 [gn (.mv (.c (.int .i64 (-1))))] 2 0) .ret) .skip)) (sq (rt [gf 3 s3,gd l0,gx 533 [l1,(i8 46)] tJ,gf 3 s4,gd l3,gx 533 [l4,(i8 46)] tJ,gm l2,gm l5] [(11,6),(12,7)]) (sq (sq (r1 [gm Lv] 10 0) (.block 0 (.loop (sq (sq (r1 [gm Xp,gm s11,gl l1,Bc l0 l2,gm l3,gmt 4 Xp,gmt 4 Wi,gnt 4 (.len l6),gnt 4 (b_lss l5 l7),ga1 l4 l8] 13 9) (gce s13 0)) (sq (.block 1 (sq (r2 [gm s11,gm Xp,ga 1 l0 l1,gd l2,gm Wi,gm Xp,ga 1 l4 l5,gd l6,gx 534 [l3,l7] tJ,gm l8] 14 9) (sq (r1 [gm s14,r6 l0 Lv] 15 1) (.cond s15 (sq (r1 [gm s14,gm l0] 2 1) .ret) .skip)))) (r1 [gm Xp,Bb l0 ic1,gm l1] 10 2)))))) (sq (r1 [gm s11,gl l0,gm Wi,gl l2,gx 532 [l1,l3] tJ,gm l4] 2 5) .ret))))))))⟩
def w295 (h209:I8 Y)(h530:C530 Y)(h531:C531 Y)(h532:X0 Y)(h533:N8 Y)(h534:C534 Y)(a:cq)(b:cq)  (hp0:a.sm/\b.sm):di Y yT (.int .i64 (pR a b)) [cq.D a,cq.D b]:=by
 show bK _ _ _ [⟨_,_⟩,⟨_,_⟩,_,_,_,_,_,_,_,_,_,_,_,_,_,_] _;refine ar ?_;refine aZ ?_;refine aq (hc:=h209 a hp0.1) ?_;refine ay ?_;refine c9 (hc:=fun hf=>h209 b hp0.2) ?_;refine aB ?_;refine c9 (hc:=fun hf=>h530 a) ?_;refine aA ?_;refine c9 (hc:=fun hf=>h530 b) ?_;refine Xl (hb:=cq.eq _ _) ?_;refine ax ?_;refine av (fun hc0=>?_) (fun hc0=>?_)
 .simp only[cN,bd,aK]at hc0;refine aE ?_;refine cY ?_;rcases hc0 with hc0|hc0
  .unfold pR;rw[aw hc0]
  .exact(Db hc0).symm
 simp only[de,bM,bc]at hc0;have hv:¬(e8 a=false\/e8 b=false):=by simp only[not_or,Bool.not_eq_false];first|exact hc0|exact hc0.1
 refine aZ ?_;refine aq (hc:=h532 _ _) ?_;refine aB ?_;refine aq (hc:=h532 _ _) ?_;refine aB ?_;refine aq (hc:=h532 _ _) ?_;refine dh ([fE a.major b.major,fE a.minor b.minor,fE a.patch b.patch].map (D.int .i64)) ?_;refine aq (hc:=h531 [fE a.major b.major,fE a.minor b.minor,fE a.patch b.patch]) (ha:=fun _=>aj (fun d=>[d]) (pB (q:=D.int .i64) (xs:=[fE a.major b.major,fE a.minor b.minor,fE a.patch b.patch]) (fun _=>rfl) ah)) (hp:=fun _=>⟨nj (q:=D.int .i64) (xs:=[fE a.major b.major,fE a.minor b.minor,fE a.patch b.patch]) (fun _=>rfl) ah,trivial⟩) ?_;refine aZ ?_;refine av (fun hc1=>?_) (fun hc1=>?_)
 .simp only[bd,bc]at hc1;refine aD ?_;refine cY ?_;exact RH hv hc1
 simp only[bM,aK]at hc1;obtain⟨z1,z2,z3⟩:=RI hc1;refine ay ?_;have hcp:=Ro hv z1 z2 z3;have hpn:¬a.pre=b.pre:=fun e=>hc0.2 (UY z1 z2 z3 e)
 refine aB ?_;refine cG (fun hc2=>?_) fun hc2=>?_
 .refine aE ?_;refine cY ?_;rw[hcp];unfold xr;rw[ak hpn,aw hc2]
 refine aZ ?_;refine cG (fun hc3=>?_) fun hc3=>?_
 .refine aE ?_;refine cY ?_;rw[hcp];unfold xr;rw[ak hpn,ak hc2,aw hc3]
 refine aB ?_;refine aq (hc:=h533 a.pre 46 hp0.1.1) ?_;refine ax ?_;refine aq (hc:=h533 b.pre 46 hp0.2.1) ?_;refine aZ ?_;refine ba hm (ι:=Nat) (fun i=>[.un,.un,.un,⟨true,.ptr 0 5 0 0⟩,⟨true,.ptr 1 5 0 0⟩,.un,.un,.un,.un,.un,⟨true,.int .i64 (i:Nat)⟩,⟨true,.sl 1 ((ai a.pre 46).map D.str)⟩,⟨true,.sl 1 ((ai b.pre 46).map D.str)⟩,.un,.un,.un]) (fun i=>[(0,.buf 5 [cq.D a]),(1,.buf 5 [cq.D b])]) 53 (fun i=>(i<=(ai a.pre 46).length/\i<=(ai b.pre 46).length)/\pR a b=tX (ai a.pre 46) (ai b.pre 46) i) (fun i=>(ai a.pre 46).length-i) 0 ⟨⟨ae,ae⟩,by rw[hcp];unfold xr;rw[ak hpn,ak hc2,ak hc3]⟩ (du [(0,0),(1,1)]) ?_;rintro i ⟨hi,hr⟩;refine aE ?_;intro u0;refine aB ?_;refine iy ?_;refine ay ?_;refine cG (fun hc4=>?_) fun hc4=>?_
 .refine aE ?_;refine bI i (hb:=fun _=>ae) ?_;refine bE (v:=.str (ai a.pre 46)[i]!) (hi:=fun _=>ae) ?_;refine ax ?_;refine bI i (hb:=fun _=>ae) ?_;refine bE (v:=.str (ai b.pre 46)[i]!) (hi:=fun _=>ae) ?_;refine aq (hc:=h534 _ _) ?_;refine aD ?_;refine fO (fun hc5=>?_) fun hc5=>?_
  .refine aZ ?_;refine cY ?_;rw[hr,Ef ae hc5]
  refine bN ?_;exact⟨i+1,⟨⟨ae,ae⟩,by rw[hr,Ir ae hc5]⟩,ae,(du [(0,0),(1,1)])⟩
 refine aE ?_;intro u1;refine ax ?_;intro u2;refine aq (hc:=h532 _ _) ?_;refine ay ?_;refine cY ?_;rw[hr,Ee ae]
noncomputable def HN:aC:=cR 217
def w813 {Y:Ctx}(hm:(Y.at 0).b8)(h470:tZ Y)(h952:Yl Y)(h953:Ym Y)(s:au)   :di Y HN (.tup [lO (m5 s).1,.int .i64 (m5 s).2]) [.str s]:=by
 show bK _ _ _ [⟨_,_⟩,_,_,_,_,_,_,_] _;refine ar ?_;refine aD ?_;refine iy ?_;refine ax ?_;refine cG (fun hc0=>?_) fun hc0=>?_
 .refine ax ?_;refine df [.bq] ?_;refine aI (.agg [.bq]) (he:=aQ) ?_;refine ay ?_;refine bG (aH ?_ (aj (D.int .i64) ?_));all_goals (have hq:m5 s=([],3):=(by simp only[m5];rw[aw ae]);rw[hq];first|done|rfl)
 refine aD ?_;refine av (fun hc1=>?_) (fun hc1=>?_)
 .try simp only[dq]at hc1
  refine ax ?_;refine df [.bq] ?_;refine aI (.agg [.bq]) (he:=aQ) ?_;refine ay ?_;refine bG (aH ?_ (aj (D.int .i64) ?_));all_goals (have hq:m5 s=([],0):=(by simp only[m5];rw[ak ae,aw hc1]);rw[hq];first|done|rfl)
 simp only[bc]at hc1;have hnl:¬96<s.length:=ae;have hsl:=dm s 32;refine ay ?_;refine aq (hc:=h470 s 32 ae) ?_;refine bg (jn (ai s 32) (ai s 32) .bq false) (hv:=fun _=>by show D.agg _=D.agg _;rw[Nat.sub_self];rfl) ?_;refine ay ?_;refine ik (a7.to (env':=[⟨true,.str s⟩,⟨true,.ptr 0 1 0 0⟩,.un,.un,.un,⟨true,.ptr 1 4 0 0⟩,.un,.un]) (c:=20) (nx':=20) (m':=[(0,.buf 1 [.agg [.bq]]),(1,.buf 4 [jn (ai s 32)  (ai s 32) (.own 2 5 0 ([]:List Nd).length) false]),(2,.buf 5 (([]:List Nd).map Nd.D))]) [(0,0),(10,1)] rfl ah ei (by refine bo.fY ah ah ah ?_;refine bo.ni 10 ah ah (by exact⟨_,_,rfl,⟨_,rfl,⟨_,_,rfl,⟨rfl,rfl⟩,⟨_,_,rfl,⟨rfl,rfl⟩,⟨_,_,rfl,Or.inr ⟨_,_,_,rfl⟩,⟨_,_,rfl,⟨rfl,rfl⟩,rfl⟩⟩⟩⟩⟩,rfl⟩) ?_;refine bo.mt ah ah ah ah ?_;exact bo.nil)) ?_;refine ax ?_;refine gR (eC (jf (ai s 32) []) (ai s 32) []) Va 21 (fun o=>[(21,.buf 5 (o.nd.map Nd.D)),(0,.buf 1 [.agg [.bq]]),(1,.buf 4 [jn (ai s 32) o.w (.own 21 5 0 o.nd.length) o.bad])]) (fun o1 ho1=>?_) (hc:=fun K' hK=>h952 (ai s 32) (ai s 32) [] ⟨mI _,ae⟩ (by simp only[a8];omega) _ 1 2 _ K' ah ah cd cd (fun o ho=>hK o ho)) (hn:=aF);refine aA ?_;refine eI 21 ?_ (he:=by simp only[lf,iL,iV,lQ,nk,cJ,Nat.reduceEqDiff,aW,aX,cO,ct,cu,cT,cX,bR,bO,aL,bZ,aN,reduceCtorEq,aP,a8,Nat.reduceAdd,Nat.reduceLeDiff,jn];exact rfl) (hm:=by simp only[lf,iL,iV,lQ,nk,cJ,Nat.reduceEqDiff,aW,aX,cO,ct,cu,cT,cX,bR,bO,aL,bZ,aN,reduceCtorEq,aP,a8,Nat.reduceAdd,Nat.reduceLeDiff,jn];exact rfl);refine aB ?_;refine aT (v:=.sl 5 (o1.nd.map Nd.D)) ?_;refine bg (lO o1.nd) ?_;refine aA ?_;refine aI (lO o1.nd) (he:=aQ) ?_;refine aD ?_;refine aT (v:=.bool o1.bad) ?_;refine aB ?_;refine aT (v:=.int .i64 (((ai s 32).length-o1.w.length:Nat):Int)) ?_;refine ay ?_;refine aT (v:=.sl 1 ((ai s 32).map D.str)) ?_;refine iy ?_;refine ay ?_;refine cA (d:=lO o1.nd) ?_;refine aq (hc:=h953 o1.nd) ?_;refine ay ?_;refine av (fun hc2=>?_) (fun hc2=>?_)
 .have hwl:=ho1.2.1;have hlt:decide ((((ai s 32).length-o1.w.length:Nat):Int)<((ai s 32).length:Nat))=decide ((0:Int)<(o1.w.length:Nat)):=gY.2 ae;rw[hlt]at hc2;have hmx:=So ho1 hc2;refine ax ?_;refine df [.bq] ?_;refine aI (.agg [.bq]) (he:=aQ) ?_;refine ay ?_;refine bG (aH ?_ (aj (D.int .i64) ?_));all_goals (have hq:=LP hnl hc1 hmx;rw[hq];first|done|rfl)
 have hwl:=ho1.2.1;have hlt:decide ((((ai s 32).length-o1.w.length:Nat):Int)<((ai s 32).length:Nat))=decide ((0:Int)<(o1.w.length:Nat)):=gY.2 ae;rw[hlt]at hc2;have hmx:=LU ho1 hc2;refine ax ?_;refine cA (d:=lO o1.nd) ?_;refine aI (lO o1.nd) (he:=aQ) ?_;refine ay ?_;refine bG (aH ?_ (aj (D.int .i64) ?_));all_goals (have hq:=LR hnl hc1 hmx;rw[hq];first|done|rfl)
noncomputable def HO:aC:=cR 188
def w670 {Y:Ctx}(hm:(Y.at 0).b8)(h813:C813 Y)(h814:C814 Y)(s:au)   :di Y HO (.bool (qH s)) [.str s]:=by
 show bK _ _ _ [⟨_,_⟩,_,_,_] _;refine ar ?_;refine aB ?_;refine aq (hc:=h813 s) ?_;refine aA ?_;refine eZ (lO _) ?_;refine ax ?_;refine aI (lO (m5 s).1) (he:=aQ) ?_;refine aD ?_;refine cA (d:=lO (m5 s).1) ?_;refine aq (hc:=h814 (m5 s).1) ?_;refine aD ?_;exact bV rfl
noncomputable def H0:aC:=cR 12
def w1202 (h73:C73 Y)(h313:C313 Y)(h358:XK Y)(s:fR)  (hp0:∀x∈s.es,fC x.r):di Y H0 (.tup [.str (jd s).1,.int .i64 (jd s).2]) [fR.D s]:=by
 show bK _ _ _ [⟨_,_⟩,_,_,_,_,_,_,_,_,_,_,_] _;refine ar ?_;refine aD ?_;refine cA (d:=fR.D s) ?_;refine aq (hc:=h358 s hp0) ?_;refine ax ?_;refine av (fun hc0=>?_) (fun hc0=>?_)
 .simp only[bd]at hc0;refine aD ?_;refine bG (aH (aj D.str ?_) (aj (D.int .i64) ?_));all_goals
   have hps:jd s=([],1):=by unfold jd;rw[aw hc0]
   rw[hps];first|done|rfl
 simp only[bM]at hc0;obtain⟨q1,q2⟩:=FK hc0;refine ay ?_;refine aT (v:=.str s.name) ?_;refine fH ?_;refine fH ?_;refine aD ?_;refine ba hm (ι:=Nat) (fun i=>[.un,.un,.un,⟨true,.ptr 0 2 0 0⟩,.un,⟨true,.int .i64 (i:Nat)⟩,.un,.un,.un,⟨true,.str (vk s i)⟩,.un,.un]) (fun i=>[(0,.buf 2 [fR.D s])]) 12 (fun i=>i<=s.es.length) (fun i=>s.es.length-i) 0 ae (a7.to [(0,0)] ah ah (by repeat(first|exact dr.nil|refine dr.un ?_|refine dr.eq ah ?_|refine dr.nl (aj D.str (by rw[T5];rfl)) ah ?_)) qd) ?_;intro i hi;have q3:=zx (s:=s) ae hi;refine aB ?_;refine aT (v:=.sl 11 (s.es.map cx.D)) ?_;refine aA ?_;intro u0;refine ax ?_;refine cG (fun hc1=>?_) fun hc1=>?_
 .refine ay ?_;have hsm:=hp0 _ (bF (show i<s.es.length by omega));have q4:=uK s.es[i]!.r;have q5:=ig s.es[i]!.sum;have hxt:=Cb (show i<s.es.length by omega);have hee:=ER s.es[i]!;refine aA ?_;refine aT (v:=.sl 11 (s.es.map cx.D)) ?_;refine aA ?_;refine bI i ?_;refine bE (v:=cx.D s.es[i]!) ?_;refine aA ?_;refine aI (cx.D s.es[i]!) (he:=aQ) ?_;refine aZ ?_;refine aT (v:=.bool s.es[i]!.off) ?_;refine aA ?_;refine cG (fun hc2=>?_) fun hc2=>?_
  .refine aE ?_;refine aT (v:=Rec.D s.es[i]!.r) ?_;refine aq (hc:=h73 s.es[i]!.r hsm) ?_;refine bN ?_;refine fH ?_;refine aA ?_;refine aT (v:=.int .u64 s.es[i]!.sum) ?_;refine aq (hc:=h313 _) ?_;refine fH ?_;refine aA ?_;refine fH ?_;refine aA ?_;refine fH ?_;refine c7 ?_;exact⟨i+1,ae,ae,(a7.to [(0,0)] ah ah (by repeat(first|exact dr.nil|refine dr.un ?_|refine dr.eq ah ?_|refine dr.nl (aj D.str (by rw[hxt,hee,hc2];simp[gG,vc])) ah ?_)) qd)⟩
  refine ay ?_;refine aT (v:=Rec.D s.es[i]!.r) ?_;refine aq (hc:=h73 s.es[i]!.r hsm) ?_;refine bN ?_;refine fH ?_;refine aA ?_;refine aT (v:=.int .u64 s.es[i]!.sum) ?_;refine aq (hc:=h313 _) ?_;refine fH ?_;refine aA ?_;refine fH ?_;refine aA ?_;refine fH ?_;refine c7 ?_;exact⟨i+1,ae,ae,(a7.to [(0,0)] ah ah (by repeat(first|exact dr.nil|refine dr.un ?_|refine dr.eq ah ?_|refine dr.nl (aj D.str (by rw[hxt,hee,hc2];simp[gG,Ub])) ah ?_)) qd)⟩
 refine ay ?_;have h33:i=s.es.length:=ae;subst h33;have hps:jd s=(vk s s.es.length,0):=by unfold jd;rw[ak (by simp[hc0]),FU]
 refine aE ?_;refine bG (aH (aj D.str ?_) (aj (D.int .i64) ?_));all_goals
  rw[hps];first|done|rfl
noncomputable def FA:aC:=cR 108
def w461 {Y:Ctx}(hm:(Y.at 0).b8)(h249:N6 Y)(w:bT)  (hp0:w.fit):di Y FA (.str (jQ w)) [bT.D w]:=by
 show bK _ _ _ [⟨_,_⟩,_,_,_,_,_,_] _;have q1:=Ch hp0;have q2:=hp0.1.1.1;have q3:=hp0.1.1.2;refine ar ?_;refine gD ?_;intro u0;refine ax ?_;refine cG (fun hc0=>?_) fun hc0=>?_
 .refine ay ?_;refine aq (hc:=h249 w.feats 44 ae) ?_;refine aZ ?_;refine cG (fun hc1=>?_) fun hc1=>?_
  .refine aD ?_;refine fH ?_;refine fH ?_;refine aA ?_;refine fH ?_;refine fH ?_;refine aA ?_;refine fH ?_;refine fH ?_;refine ax ?_;refine fH ?_;refine fH ?_;refine ay ?_;refine dc ?_;all_goals
    simp only[jQ,cw,jk,aS,gA,jj,dG];first|rw[aw (show w.feats.length=0 by omega)]|rw[ak (show ¬w.feats.length=0 by omega)]
    simp[hc1]
  refine aB ?_;refine fH ?_;refine fH ?_;refine aA ?_;refine fH ?_;refine fH ?_;refine aA ?_;refine fH ?_;refine fH ?_;refine ax ?_;refine fH ?_;refine fH ?_;refine ay ?_;refine dc ?_;all_goals
   simp only[jQ,cw,jk,aS,gA,jj,dG];first|rw[aw (show w.feats.length=0 by omega)]|rw[ak (show ¬w.feats.length=0 by omega)]
   simp[hc1]
 refine aD ?_;refine cG (fun hc1=>?_) fun hc1=>?_
 .refine aD ?_;refine fH ?_;refine fH ?_;refine aA ?_;refine fH ?_;refine fH ?_;refine aA ?_;refine fH ?_;refine fH ?_;refine ax ?_;refine fH ?_;refine fH ?_;refine ay ?_;refine dc ?_;all_goals
   simp only[jQ,cw,jk,aS,gA,jj,dG];first|rw[aw (show w.feats.length=0 by omega)]|rw[ak (show ¬w.feats.length=0 by omega)]
   simp[hc1]
 refine aB ?_;refine fH ?_;refine fH ?_;refine aA ?_;refine fH ?_;refine fH ?_;refine aA ?_;refine fH ?_;refine fH ?_;refine ax ?_;refine fH ?_;refine fH ?_;refine ay ?_;refine dc ?_;all_goals
  simp only[jQ,cw,jk,aS,gA,jj,dG];first|rw[aw (show w.feats.length=0 by omega)]|rw[ak (show ¬w.feats.length=0 by omega)]
  simp[hc1]
noncomputable def Kh:aC:=cR 109
def w462 {Y:Ctx}(hm:(Y.at 0).b8)  (s:au)  (hp0:s.length<=1048576):di Y Kh (.str (ix s)) [.str s]:=by
 show bK _ _ _ [⟨_,_⟩,_,_] _;refine ar ?_;refine aZ ?_;refine cG (fun hc0=>?_) fun hc0=>?_
 .refine aE ?_;refine dc ?_;rw[ix,aw hc0]
 refine ay ?_;refine fH ?_;refine fH ?_;refine ay ?_;refine dc ?_;rw[ix,ak hc0];simp[cw,aS,eG]
end Go.Abs
