/- A part of the proofs. -/
import Derived.Test.YtgnjlompgjhaaaaGreatDoorP08
set_option linter.all false
set_option maxRecDepth 60000
set_option maxHeartbeats 2000000
namespace Go.Abs
variable {Y:Ctx}(hm:(Y.at 0).b8)
noncomputable def JF:aC:=cR 137
def w349  (s:au)   :di Y JF (.bool (cW s)) [.str s]:=by
 show bK _ _ _ [⟨_,_⟩,_,_,_,_,_,_,_] _;refine ar ?_;refine bN ?_;refine iy ?_;refine ay ?_;refine cG (fun hc0=>?_) fun hc0=>?_
 .refine aE ?_;refine bV ?_;symm;simp only[cW,dz,bc];rcases hc0 with h|h
  .subst h;exact Or.inl (Or.inl aJ)
  .exact Or.inl ae
 refine aD ?_;have hP:cW s=cS (fun i=>zy (at8 s i)) 0 s.length:=by
  have:=List.length_pos_iff.2 hc0.1;simp only[cW];rw[ca ae,ca ae];rfl
 refine ba hm (ι:=Nat) (fun i=>[⟨true,.str s⟩,.un,.un,⟨true,.it 9⟩,.un,.un,.un,.un]) (fun i=>[(9,.iter s i)]) 10 (fun i=>i<=s.length/\cW s=cS (fun i=>zy (at8 s i)) i s.length) (fun i=>s.length-i) 0 ⟨ae,hP⟩ (du [(9,9)]) ?_;rintro i ⟨hi,hr⟩;refine aA ?_;by_cases hnx:i<s.length
 .obtain⟨c,w,hdec,hw,hcw⟩:=vE s i hnx;refine Ft c w (hp:=hnx) (hc:=hdec) ?_;refine ax ?_;refine av (t:=true) (fun _=>?_) (fun h=>by cases h);refine Cq ?_;refine cG (fun hc2=>?_) fun hc2=>?_
  .refine aA ?_;refine fO (fun hc4=>?_) fun hc4=>?_
   .refine aB ?_;obtain⟨rfl,hat,-⟩:w=1/\(c:Int)=at8 s i/\c<128:=by
     rcases hcw with h|h
     .exact h
     .omega
    have hz:zy (at8 s i)=true:=by
     simp only[zy,iG,bn,cN,bC,aK];omega
    exact⟨i+1,⟨ae,by rw[hr,aU hnx,hz];rfl⟩,ae,(du [(9,9)])⟩
   refine aZ ?_;refine bV ?_;first
    |(exfalso;omega)
    |(rw[hr,cn ae];done)
    |(
     have hz:zy (at8 s i)=false:=by
      rcases hcw with⟨_,h,_⟩|⟨_,h⟩<;>(simp only[zy,iG,bn,de,dz,bc];omega)
     rw[hr,aU hnx,hz];rfl)
  refine fU ?_;refine cG (fun hc3=>?_) fun hc3=>?_
  .refine aA ?_;refine fO (fun hc4=>?_) fun hc4=>?_
   .refine aB ?_;obtain⟨rfl,hat,-⟩:w=1/\(c:Int)=at8 s i/\c<128:=by
     rcases hcw with h|h
     .exact h
     .omega
    have hz:zy (at8 s i)=true:=by
     simp only[zy,iG,bn,cN,bC,aK];omega
    exact⟨i+1,⟨ae,by rw[hr,aU hnx,hz];rfl⟩,ae,(du [(9,9)])⟩
   refine aZ ?_;refine bV ?_;first
    |(exfalso;omega)
    |(rw[hr,cn ae];done)
    |(
     have hz:zy (at8 s i)=false:=by
      rcases hcw with⟨_,h,_⟩|⟨_,h⟩<;>(simp only[zy,iG,bn,de,dz,bc];omega)
     rw[hr,aU hnx,hz];rfl)
  refine aE ?_;refine fO (fun hc4=>?_) fun hc4=>?_
  .refine aB ?_;obtain⟨rfl,hat,-⟩:w=1/\(c:Int)=at8 s i/\c<128:=by
    rcases hcw with h|h
    .exact h
    .omega
   have hz:zy (at8 s i)=true:=by
    simp only[zy,iG,bn,cN,bC,aK];omega
   exact⟨i+1,⟨ae,by rw[hr,aU hnx,hz];rfl⟩,ae,(du [(9,9)])⟩
  refine aZ ?_;refine bV ?_;first
   |(exfalso;omega)
   |(rw[hr,cn ae];done)
   |(
    have hz:zy (at8 s i)=false:=by
     rcases hcw with⟨_,h,_⟩|⟨_,h⟩<;>(simp only[zy,iG,bn,de,dz,bc];omega)
    rw[hr,aU hnx,hz];rfl)
 .refine Fs (hp:=hnx) ?_;refine ax ?_;refine av (t:=false) (fun h=>by cases h) (fun _=>?_);refine aD ?_;refine bV ?_;first
   |(exfalso;omega)
   |(rw[hr,cn ae];done)
   |(
    have hz:zy (at8 s i)=false:=by
     rcases hcw with⟨_,h,_⟩|⟨_,h⟩<;>(simp only[zy,iG,bn,de,dz,bc];omega)
    rw[hr,aU hnx,hz];rfl)
noncomputable def JE:aC:=cR 31
def w208  (s:au)   :di Y JE (.bool (dL s)) [.str s]:=by
 show bK _ _ _ [⟨_,_⟩,_,_,_,_,_,_,_,_,_,_,_,_] _;refine ar ?_;refine bN ?_;refine iy ?_;refine ay ?_;refine cG (fun hc0=>?_) fun hc0=>?_
 .refine aE ?_;refine bV ?_;symm;simp only[dL];rcases hc0 with h|h
  .subst h;simp
  .rw[cI (by omega:¬s.length<=16)];simp
 refine aD ?_;have h0:=List.length_pos_iff.2 hc0.1;have hP:=VL s ae ae;refine ba hm (ι:=Nat) (fun i=>[⟨true,.str s⟩,.un,.un,⟨true,.it 9⟩,.un,.un,.un,.un,.un,.un,.un,.un,.un]) (fun i=>[(9,.iter s i)]) 10 (fun i=>i<=s.length/\dL s=cS (pK s) i s.length) (fun i=>s.length-i) 0 ⟨ae,hP⟩ (du [(9,9)]) ?_;rintro i ⟨hi,hr⟩;refine aA ?_;by_cases hnx:i<s.length
 .obtain⟨c,w,hdec,hw,hcw⟩:=vE s i hnx;refine Ft c w (hp:=hnx) (hc:=hdec) ?_;refine ax ?_;refine av (t:=true) (fun _=>?_) (fun h=>by cases h);refine Xt ?_;refine fO (fun hc2=>?_) fun hc2=>?_
  .refine aB ?_;obtain⟨rfl,hat,-⟩:w=1/\(c:Int)=at8 s i/\c<128:=by
    rcases hcw with h|h
    .exact h
    .omega
   have hz:pK s i=true:=by
    simp only[pK,iG,bn,cN,bC,bd,aK,bc];omega
   exact⟨i+1,⟨ae,by rw[hr,aU hnx,hz];rfl⟩,ae,(du [(9,9)])⟩
  refine c7 ?_;refine fO (fun hc3=>?_) fun hc3=>?_
  .refine aB ?_;refine fO (fun hc4=>?_) fun hc4=>?_
   .refine aZ ?_;refine bV ?_;first
     |(exfalso;omega)
     |(rw[hr,cn ae];done)
     |(have hz:pK s i=false:=by
        rcases hcw with⟨_,h,_⟩|⟨_,h⟩<;>(simp only[pK,iG,bn,de,dz,bM,aK,bc];omega)
       rw[hr,aU hnx,hz];rfl)
   refine aB ?_;obtain⟨rfl,hat,-⟩:w=1/\(c:Int)=at8 s i/\c<128:=by
    rcases hcw with h|h
    .exact h
    .omega
   have hz:pK s i=true:=by
    simp only[pK,iG,bn,cN,bC,bd,aK,bc];omega
   exact⟨i+1,⟨ae,by rw[hr,aU hnx,hz];rfl⟩,ae,(du [(9,9)])⟩
  refine aE ?_;refine fO (fun hc5=>?_) fun hc5=>?_
  .refine aD ?_;refine iy ?_;refine aZ ?_;refine qe (i-1) ?_;refine ay ?_;refine fO (fun hc6=>?_) fun hc6=>?_
   .refine aZ ?_;refine bV ?_;first
     |(exfalso;omega)
     |(rw[hr,cn ae];done)
     |(have hz:pK s i=false:=by
        rcases hcw with⟨_,h,_⟩|⟨_,h⟩<;>(simp only[pK,iG,bn,de,dz,bM,aK,bc];omega)
       rw[hr,aU hnx,hz];rfl)
   refine aB ?_;obtain⟨rfl,hat,-⟩:w=1/\(c:Int)=at8 s i/\c<128:=by
    rcases hcw with h|h
    .exact h
    .omega
   have hz:pK s i=true:=by
    simp only[pK,iG,bn,cN,bC,bd,aK,bc];omega
   exact⟨i+1,⟨ae,by rw[hr,aU hnx,hz];rfl⟩,ae,(du [(9,9)])⟩
  refine aZ ?_;refine bV ?_;first
   |(exfalso;omega)
   |(rw[hr,cn ae];done)
   |(have hz:pK s i=false:=by
      rcases hcw with⟨_,h,_⟩|⟨_,h⟩<;>(simp only[pK,iG,bn,de,dz,bM,aK,bc];omega)
     rw[hr,aU hnx,hz];rfl)
 .refine Fs (hp:=hnx) ?_;refine ax ?_;refine av (t:=false) (fun h=>by cases h) (fun _=>?_);refine aD ?_;refine bV ?_;first
   |(exfalso;omega)
   |(rw[hr,cn ae];done)
   |(have hz:pK s i=false:=by
      rcases hcw with⟨_,h,_⟩|⟨_,h⟩<;>(simp only[pK,iG,bn,de,dz,bM,aK,bc];omega)
     rw[hr,aU hnx,hz];rfl)
noncomputable def E5:aC:=cR 162
def w658  (s:au)   :di Y E5 (.tup [.int .i64 (eg s),.bool (fW s)]) [.str s]:=by
 show bK _ _ _ [⟨_,_⟩,_,_,_,_,_,_,_,_,_] _;refine ar ?_;refine c7 ?_;refine iy ?_;refine aB ?_;refine qe 0 (hb:=fun h=>by simp at h;exact List.length_pos_iff.2 h.1) ?_;refine ay ?_;refine iy ?_;refine aB ?_;refine cG (fun hc0=>?_) fun hc0=>?_
 .refine aD ?_;refine bG (aH (aj (D.int .i64) ?_) (aj D.bool ?_));all_goals
   have:fW s=false:=by
    rw[Fe];rcases hc0 with(h|h)|h
    .subst h;simp
    .rw[cI (by omega:¬s.length<=4)];simp
    .rw[ca (by omega:1<s.length),ca h.1];simp
   simp[eg,this]
 refine c7 ?_;have h0:=List.length_pos_iff.2 hc0.1.1;have hP:fW s=cS (fun i=>bn (at8 s i)) 0 s.length:=by
  rw[Fe,ca (by omega:1<=s.length),ca (by omega:s.length<=4)];rcases hc0.2 with h|h
  .rw[cI h,Bool.and_false];rfl
  .rw[cI (by omega:¬1<s.length)];rfl
 refine ba hm (ι:=Nat) (fun i=>[⟨true,.str s⟩,.un,.un,.un,⟨true,.it 21⟩,.un,.un,.un,.un,⟨true,.int .i64 (dM (s.take i):Nat)⟩]) (fun i=>[(21,.iter s i)]) 22 (fun i=>i<=s.length/\s.length<=4/\fW s=cS (fun i=>bn (at8 s i)) i s.length) (fun i=>s.length-i) 0 ⟨ae,ae,hP⟩ (du [(21,21)]) ?_;rintro i ⟨hi,h9,hr⟩;refine aA ?_;by_cases hnx:i<s.length
 .obtain⟨c,w,hdec,hw,hcw⟩:=vE s i hnx;refine Ft c w (hp:=hnx) (hc:=hdec) ?_;refine ax ?_;refine av (t:=true) (fun _=>?_) (fun h=>by cases h);refine Co ?_;refine fO (fun hc2=>?_) fun hc2=>?_
  .refine aA ?_;obtain⟨rfl,hat,-⟩:w=1/\(c:Int)=at8 s i/\c<128:=by
    rcases hcw with h|h
    .exact h
    .omega
   have hn:=vW s i ae;have hn2:=yn s i ae;have h256:=wz s i;refine aA ?_;refine nW ?_;refine aA ?_;refine qM ((c:Int) -48) (hb:=fun _=>IntWalk.i32_in _ ae) ?_;refine lT ((c:Int) -48) (hb:=fun _=>IntWalk.i64_in _ ae) ?_;refine ay ?_;rw[show 10*(dM (s.take i):Int)+((c:Int) -48)=(dM (s.take (i+1)):Nat)by omega];refine ay ?_;have hz:bn (at8 s i)=true:=by
    simp only[bn,bC,aK];omega
   exact⟨i+1,⟨ae,h9,by rw[hr,aU ae,hz];rfl⟩,ae,(du [(21,21)])⟩
  refine bN ?_;refine bG (aH (aj (D.int .i64) ?_) (aj D.bool ?_));all_goals
   have hz:bn (at8 s i)=false:=by
    rcases hcw with⟨_,h,_⟩|⟨_,h⟩<;>(simp only[bn,dz,bc];omega)
   have:fW s=false:=by rw[hr,aU ae,hz];rfl
   simp[eg,this]
 .refine Fs (hp:=hnx) ?_;refine ax ?_;refine av (t:=false) (fun h=>by cases h) (fun _=>?_);refine fU ?_;refine bG (aH (aj (D.int .i64) ?_) (aj D.bool ?_));all_goals
   have this:fW s=true:=by rw[hr,cn ae]
   have ht:s.take i=s:=ee ae;have h9:=this;simp only[fW,bC,aK]at h9;have h99:=h9.2;rw[ht];first
   |(simp only[eg,this];rfl)
   |(rw[this,aK];omega)
noncomputable def EL:aC:=cR 58
def w686 {Y:Ctx}(hm:(Y.at 0).b8)  (k:Nat)  (hp0:k<16):di Y EL (.int .u8 ((tK k).toNat:Nat)) [.int .u8 (k:Nat)]:=by
 show bK _ _ _ [⟨_,_⟩,_,_] _;refine ar ?_;refine aE ?_;first|refine Tq ?_|refine Tr ?_
 refine aA ?_;refine cG (fun hc0=>?_) fun hc0=>?_
 .refine ay ?_;refine BE (48+(k:Int)) (hb:=fun _=>IntWalk.u8_in _ ae) ?_;refine ay ?_;refine bG (aj (D.int .u8) ?_);exact(Vu k ae).symm
 refine ay ?_;refine BE (97+(k:Int)) (hb:=fun _=>IntWalk.u8_in _ ae) ?_;refine qM (87+(k:Int)) (hb:=fun _=>by rw[show 97+(k:Int) -10=87+k by omega];exact IntWalk.u8_in _ ae) ?_;refine ay ?_;refine bG (aj (D.int .u8) ?_);exact(Vt k ae hp0).symm
noncomputable def GH:aC:=cR 23
def w497 (h686:C686 Y)(n:Int)   :di Y GH (.str (fQ n)) [.int .u64 n]:=by
 show bK _ _ _ [⟨_,_⟩,_,_,_,_,_,_] _;refine ar ?_;refine ay ?_;refine Xn _ ?_;refine aD ?_;intro u0;refine ax ?_;refine ba hm (ι:=Nat) (fun i=>[⟨true,.int .u64 n⟩,.un,⟨true,.own 1 1 0 16⟩,⟨true,.int .i64 (i:Nat)⟩,⟨true,.int .i64 (16:Nat)⟩,.un,.un]) (fun i=>[(1,.buf 1 ((we n i).map fun b=>D.int .u8 b.toNat))]) 6 (fun i=>i<=16) (fun i=>16-i) 0 ae (du [(1,1)]) ?_;intro i hi;have hlen:=tC n i;refine ay ?_;refine cG (fun hc0=>?_) fun hc0=>?_
 .refine gD ?_;refine nW ?_;refine tV (sG n (4*i)) (hb:=fun _=>by rw[show min (Int.toNat (4*(i:Int))) (IntKind.bits .u64)=4*i by simp[IntKind.bits];omega];rfl) ?_;refine uO ((LZ n i:Nat):Int) (hb:=fun _=>Hp n i) ?_;have hnib:=xl n i;refine lT ((LZ n i:Nat):Int) (hb:=fun _=>IntWalk.u8_in _ ae) ?_;refine aq (hc:=h686 (LZ n i) hnib) ?_;refine iv (15-i) ?_;refine su ((we n (i+1)).map fun b=>D.int .u8 b.toNat) (hi:=cZ) (he:=by rw[Qt n i ae,getD_map ae];simp[v7,D.isAgg]) ?_;refine aZ ?_;exact⟨i+1,ae,ae,(du [(1,1)])⟩
 refine ay ?_;have h16:i=16:=ae;subst h16;refine aA ?_;refine HD (fQ n) (he:=fun _=>sR.all ah (by simp[tC])) (hs:=fun _=>by rw[Qs]) ?_;refine ay ?_;exact dc rfl
noncomputable def Ky:aC:=cR 219
def w744 (h470:tZ Y)(h896:C896 Y)(h897:C897 Y)(h898:C898 Y)(h899:Yi Y)(h900:UI Y)(s:au)  (hp0:s.length<=1048576):di Y Ky (.tup [iJ (iR s).1,.int .i64 (iR s).2]) [.str s]:=by
 show bK _ _ _ [⟨_,_⟩,_,_,_,_,_,_,_,_,_,_,_,_,_,_,_,_] _;have hdl:=oR s [];have hgl:∀i,i<(aR s []).length->(aR s [])[i]!.length<=s.length:=fun i hi=>by
  have:=hdl.2 _ (bF hi);simpa using this
 refine ar ?_;refine aZ ?_;intro u0;refine ax ?_;refine cG (fun hc0=>?_) fun hc0=>?_
 .refine ax ?_;refine df [.bq] ?_;refine aI (.agg [.bq]) (he:=aQ) ?_;refine ay ?_;refine bG (aH ?_ (aj (D.int .i64) ?_));all_goals
   have hq:iR s=([],3):=by
    unfold iR;rw[aw ae]
   rw[hq];first|done|rfl
 refine aD ?_;refine aq (hc:=h896 s ae) ?_;refine aD ?_;refine ba hm (ι:=Nat) (fun i=>[.un,⟨true,.ptr 0 1 0 0⟩,.un,.un,⟨true,.int .i64 (i:Nat)⟩,⟨true,.sl 1 ((aR s []).map D.str)⟩,.un,.un,.un,.un,.un,.un,.un,.un,⟨true,.ptr 5 1 0 0⟩,.un,.un]) (fun i=>[(0,.buf 1 [.agg [.bq]]),(5,.buf 1 [.agg [.own 1 1 0 ((iS s).take i).length]]),(1,.buf 1 (((iS s).take i).map rz))]) 10 (fun i=>i<=(aR s []).length/\BX s=cS (fun i=>wOK (aR s [])[i]!) i (aR s []).length) (fun i=>(aR s []).length-i) 0 ⟨ae,rfl⟩ (a7.to [(0,0),(5,5)] ah ah ei (by refine eN ?_;refine bo.ni 5 ah ah (by exact⟨_,_,rfl,⟨_,rfl,⟨_,_,rfl,Or.inr ⟨_,_,_,rfl⟩,rfl⟩⟩,rfl⟩) ?_;refine bo.mt ah ah ah ah ?_;exact bo.nil)) ?_;rintro i ⟨hi,hr⟩;have hrt:((iS s).take i).length<=i:=by rw[eu];omega
 refine aE ?_;intro u1;refine ax ?_;refine cG (fun hc1=>?_) fun hc1=>?_
 .refine aD ?_;have hgi:=hgl i ae;have hsl:=dm (aR s [])[i]! 44;have hsp:1<=(ai (aR s [])[i]! 44).length:=er _ _ _;refine aB ?_;refine aq (hc:=h470 (aR s [])[i]! 44 ae) ?_;refine aD ?_;refine ba hm (ι:=Nat) (fun k=>[.un,⟨true,.ptr 0 1 0 0⟩,.un,.un,⟨true,.int .i64 (i:Nat)⟩,⟨true,.sl 1 ((aR s []).map D.str)⟩,.un,⟨true,.int .i64 (k:Nat)⟩,⟨true,.sl 1 ((ai (aR s [])[i]! 44).map D.str)⟩,.un,.un,.un,⟨true,.own 2 7 0 ((nq (aR s [])[i]!).take k).length⟩,.un,⟨true,.ptr 5 1 0 0⟩,.un,.un]) (fun k=>[(0,.buf 1 [.agg [.bq]]),(5,.buf 1 [.agg [.own 1 1 0 ((iS s).take i).length]]),(1,.buf 1 (((iS s).take i).map rz)),(2,.buf 7 (((nq (aR s [])[i]!).take k).map dI.D))]) 22 (fun k=>k<=(ai (aR s [])[i]! 44).length/\wOK (aR s [])[i]! =cS (fun k=>(eP (eO (ai (aR s [])[i]! 44)[k]!)).isSome) k (ai (aR s [])[i]! 44).length) (fun k=>(ai (aR s [])[i]! 44).length-k) 0 ⟨ae,rfl⟩ (a7.to [(0,0),(5,5),(1,1)] ah ah (by repeat(first|exact dr.nil|refine dr.un ?_|refine dr.eq ah ?_|refine dr.nl ah ah ?_|refine dr.ni (Or.inr ⟨_,_,_,rfl⟩) ?_)) (by refine eN ?_;refine eN ?_;refine eN ?_;refine bo.mt ah ah ah ah ?_;exact bo.nil)) ?_;rintro k ⟨hk,hwk⟩;have htk:((nq (aR s [])[i]!).take k).length<=k:=by rw[eu];omega
  refine aE ?_;intro u2;refine ax ?_;refine cG (fun hc2=>?_) fun hc2=>?_
  .refine ay ?_;have hwl:=qO (aR s [])[i]! 44 (show k<(ai (aR s [])[i]! 44).length by omega);have hbl:=wA (ai (aR s [])[i]! 44)[k]!;refine aB ?_;refine aq (hc:=h898 (ai (aR s [])[i]! 44)[k]!) ?_;refine aq (hc:=h897 (eO (ai (aR s [])[i]! 44)[k]!) ae) ?_;refine aA ?_;refine eZ (dI.D _) ?_;refine ax ?_;refine aI (dI.D ((eP (eO (ai (aR s [])[i]! 44)[k]!)).getD eQ)) (he:=aQ) ?_;refine aZ ?_;refine av (fun hc3=>?_) (fun hc3=>?_)
   .have hsm:(eP (eO (ai (aR s [])[i]! 44)[k]!)).isSome=false:=by cases hx:(eP (eO (ai (aR s [])[i]! 44)[k]!)).isSome with|false=>rfl|true=>rw[hx]at hc3;exact absurd hc3 aF
    refine ax ?_;refine df [.bq] ?_;refine aI (.agg [.bq]) (he:=aQ) ?_;refine aZ ?_;refine bG (aH ?_ (aj (D.int .i64) ?_));all_goals
     have hq:iR s=([],6):=by
      have hno:BX s=false:=by rw[hr,aU ae,hwk,aU ae,hsm];rfl
      unfold iR;rw[ak ae,aw hno]
     rw[hq];first|done|rfl
   have hsm:(eP (eO (ai (aR s [])[i]! 44)[k]!)).isSome=true:=by cases hx:(eP (eO (ai (aR s [])[i]! 44)[k]!)).isSome with|true=>rfl|false=>rw[hx]at hc3;exact absurd hc3 aF
   refine ay ?_;refine cA (d:=dI.D ((eP (eO (ai (aR s [])[i]! 44)[k]!)).getD eQ)) ?_;refine dh [(dI.D _)] ?_;refine fU ?_;have hq:=iY (fun x=>(eP (eO x)).getD eQ) (ai (aR s [])[i]! 44) (show k<(ai (aR s [])[i]! 44).length by omega);rw[show(fun x=>(eP (eO x)).getD eQ)=fun x=>(eP (eO x)).getD eQ from rfl]at hq;have hq:(nq (aR s [])[i]!).take (k+1)=_:=hq;rw[show(nq (aR s [])[i]!).take k++[(eP (eO (ai (aR s [])[i]! 44)[k]!)).getD eQ]=(nq (aR s [])[i]!).take (k+1)from hq.symm];exact⟨k+1,⟨ae,by rw[hwk,aU ae,hsm];rfl⟩,ae,(a7.to [(0,0),(5,5),(1,1),(43,2)] ah ah ei (by refine eN ?_;refine eN ?_;refine eN ?_;refine bo.nl 43 ah ah ah eL ?_;exact bo.nil))⟩
  refine ax ?_;refine eI 2 ?_ (he:=by simp only[lf,iL,iV,lQ,nk,cJ,Nat.reduceEqDiff,aW,aX,cO,ct,cu,cT,cX,bR,bO,aL,bZ,aN,reduceCtorEq,aP,a8,Nat.reduceAdd,Nat.reduceLeDiff,pg];exact rfl) (hm:=by simp only[lf,iL,iV,lQ,nk,cJ,Nat.reduceEqDiff,aW,aX,cO,ct,cu,cT,cX,bR,bO,aL,bZ,aN,reduceCtorEq,aP,a8,Nat.reduceAdd,Nat.reduceLeDiff,pg];exact rfl);refine aA ?_;obtain rfl:k=(ai (aR s [])[i]! 44).length:=ae;rw[ee (show(nq (aR s [])[i]!).length<=(ai (aR s [])[i]! 44).length by simp[nq])];refine aA ?_;refine aT (v:=.own _ _ _ _) ?_;refine aA ?_;refine dh [rz (nq (aR s [])[i]!)] ?_;refine ax ?_;refine aI (.agg [.own 30 1 0 ((iS s).take i++[nq (aR s [])[i]!]).length]) (he:=aQ) ?_;refine bN ?_;have hq:(iS s).take (i+1)=(iS s).take i++[nq (aR s [])[i]!]:=iY nq (aR s []) (show i<(aR s []).length by omega);rw[<-hq];exact⟨i+1,⟨ae,by rw[hr,aU ae,hwk,cn ae];rfl⟩,ae,(a7.to [(0,0),(5,5),(30,1)] ah ah ei (by refine eN ?_;refine eN ?_;refine bo.nl 30 ah ah ah eL ?_;exact bo.nil))⟩
 refine ay ?_;refine eI 1 ?_ (he:=by simp only[lf,iL,iV,lQ,nk,cJ,Nat.reduceEqDiff,aW,aX,cO,ct,cu,cT,cX,bR,bO,aL,bZ,aN,reduceCtorEq,aP,a8,Nat.reduceAdd,Nat.reduceLeDiff,pg];exact rfl) (hm:=by simp only[lf,iL,iV,lQ,nk,cJ,Nat.reduceEqDiff,aW,aX,cO,ct,cu,cT,cX,bR,bO,aL,bZ,aN,reduceCtorEq,aP,a8,Nat.reduceAdd,Nat.reduceLeDiff,pg];exact rfl);refine aA ?_;obtain rfl:i=(aR s []).length:=ae;have hok:BX s=true:=by rw[hr,cn ae]
 rw[ee (show(iS s).length<=(aR s []).length by simp[iS])];have hrs:=FH (s:=s) ae;refine cA (d:=iJ (iS s)) ?_;refine aq (hc:=h899 (iS s) hrs) ?_;refine ax ?_;refine av (fun hc4=>?_) (fun hc4=>?_)
 .simp only[bd]at hc4;refine ax ?_;refine df [.bq] ?_;refine aI (.agg [.bq]) (he:=aQ) ?_;refine ay ?_;refine bG (aH ?_ (aj (D.int .i64) ?_));all_goals
   have hq:iR s=([],6):=by
    unfold iR;rw[ak ae,ak (by rw[hok];simp),aw hc4]
   rw[hq];first|done|rfl
 simp only[bM]at hc4;refine ay ?_;refine cA (d:=iJ (iS s)) ?_;refine aq (hc:=h900 (iS s) ⟨hc4,hrs⟩) ?_;refine aA ?_;intro u3;refine ax ?_;refine cG (fun hc5=>?_) fun hc5=>?_
 .refine ax ?_;refine df [.bq] ?_;refine aI (.agg [.bq]) (he:=aQ) ?_;refine ay ?_;refine bG (aH ?_ (aj (D.int .i64) ?_));all_goals
   have hq:iR s=([],3):=by
    unfold iR;rw[ak ae,ak (by rw[hok];simp),ak (by rw[hc4];simp),aw ae]
   rw[hq];first|done|rfl
 refine ax ?_;refine cA (d:=iJ (iS s)) ?_;refine aI (iJ (iS s)) (he:=aQ) ?_;refine ay ?_;refine bG (aH ?_ (aj (D.int .i64) ?_));all_goals
  have hq:iR s=(iS s,0):=by
   unfold iR;rw[ak ae,ak (by rw[hok];simp),ak (by rw[hc4];simp),ak ae]
  rw[hq];first|done|rfl
noncomputable def Kz:aC:=cR 190
def w572 {Y:Ctx}(hm:(Y.at 0).b8)(h744:C744 Y)(h745:C745 Y)(s:au)  (hp0:s.length<=1048576):di Y Kz (.bool (tt s)) [.str s]:=by
 show bK _ _ _ [⟨_,_⟩,_,_,_] _;refine ar ?_;refine aB ?_;refine aq (hc:=h744 s hp0) ?_;refine aA ?_;refine eZ (iJ _) ?_;refine ax ?_;refine aI (iJ (iR s).1) (he:=aQ) ?_;refine aD ?_;refine cA (d:=iJ (iR s).1) ?_;refine c9 (hc:=fun hf=>h745 (iR s).1 Mj.1) ?_;refine aD ?_;exact bV rfl
noncomputable def HL:aC:=cR 96
def w211 {Y:Ctx}(hm:(Y.at 0).b8)(h208:N5 Y)(h444:C444 Y)(r:Rec)(name:au)(yu:au)  (hp0:yu.length<=1048576):di Y HL (.int .i64 (fT r name yu)) [Rec.D r,.str name,.str yu]:=by
 show bK _ _ _ [⟨_,_⟩,⟨_,_⟩,⟨_,_⟩,_,_,_,_,_] _;refine ar ?_;refine aD ?_;refine aq (hc:=h208 _) ?_;refine ay ?_;refine fO (fun hc0=>?_) fun hc0=>?_
 .refine aE ?_;refine cY ?_;rw[fT,aw hc0]
 refine aZ ?_;refine fO (fun hc1=>?_) fun hc1=>?_
 .refine aE ?_;refine cY ?_;rw[fT,ak (by simp[hc0]),aw hc1]
 refine ax ?_;refine aq (hc:=h444 yu hp0) ?_;refine ay ?_;refine fO (fun hc2=>?_) fun hc2=>?_
 .refine aE ?_;refine cY ?_;rw[fT,ak (by simp[hc0]),ak hc1,aw hc2]
 refine aD ?_;refine cY ?_;rw[fT,ak (by simp[hc0]),ak hc1,ak (by simp[hc2])]
noncomputable def HM:aC:=cR 136
def w443 (h211:Xx Y)(h349:Jc Y)(r:Rec)(w:bT)(al:Bool)  (hp0:w.sm):di Y HM (.int .i64 (jP r w al)) [Rec.D r,bT.D w,.bool al]:=by
 show bK _ _ _ [⟨_,_⟩,⟨_,_⟩,⟨_,_⟩,_,_,_,_,_,_,_,_,_,_,_,_,_] _;refine ar ?_;refine fK ?_;refine aq (hc:=h211 r w.name w.range hp0.1.2) ?_;refine aZ ?_;refine cG (fun hc0=>?_) fun hc0=>?_
 .refine aD ?_;refine cY ?_;rw[jP,aw hc0]
 refine aD ?_;intro u0;refine aB ?_;refine iy ?_;refine aZ ?_;refine av (fun hc1=>?_) (fun hc1=>?_)
 .have hq:(decide (w.feats.length<=6)&&(al ||decide (w.feats.length=0)))=false:=by rw[<-bd,<-Uc];exact hc1
  refine aE ?_;refine cY ?_;rw[jP,ak (by simp[hc0]),aw (by unfold jN;rw[hq];rfl)]
 have hq:(decide (w.feats.length<=6)&&(al ||decide (w.feats.length=0)))=true:=by rw[<-bM,<-Uc];exact hc1
 refine aD ?_;intro u1;refine ax ?_;refine ba hm (ι:=Nat) (fun i=>[.un,.un,⟨true,.bool al⟩,.un,⟨true,.ptr 0 9 0 0⟩,⟨true,.ptr 1 4 0 0⟩,.un,.un,.un,⟨true,.int .i64 (i:Nat)⟩,⟨true,.int .i64 (w.feats.length:Nat)⟩,.un,⟨true,.sl 1 (w.feats.map D.str)⟩,.un,.un,.un]) (fun i=>[(0,.buf 9 [Rec.D r]),(1,.buf 4 [bT.D w])]) 30 (fun i=>i<=w.feats.length/\jN w.feats al=cS (Xq w.feats) i w.feats.length) (fun i=>w.feats.length-i) 0 ⟨ae,by unfold jN;rw[hq,gH]⟩ (du [(0,0),(1,1)]) ?_;rintro i ⟨hi,hr⟩;refine ay ?_;refine cG (fun hc2=>?_) fun hc2=>?_
 .refine fK ?_;refine aq (hc:=h349 _) ?_;refine c7 ?_;refine bI (i-1) ?_;refine aD ?_;refine wp_cond (fun hc3=>?_) (fun hc3=>?_)
  .have hz:Xq w.feats i=false:=by rw[<-bd,<-wf_c];exact hc3
   refine aD ?_;refine cY ?_;rw[jP,ak (by simp[hc0]),aw (by rw[hr,aU ae,hz];rfl)]
  have hz:Xq w.feats i=true:=by rw[<-bM,<-wf_c];exact hc3
  refine aZ ?_;exact⟨i+1,⟨ae,by rw[hr,aU ae,hz];rfl⟩,ae,(du [(0,0),(1,1)])⟩
 refine aD ?_;refine cY ?_;rw[jP,ak (by simp[hc0]),ak (by rw[hr,cn ae];simp)]
noncomputable def HJ:aC:=cR 95
def w210 (h212:Xy Y)(h349:Jc Y)(h443:C443 Y)(r:Rec)(n:bp)  (hp0:n.sm):di Y HJ (.int .i64 (jh r n)) [Rec.D r,bp.D n]:=by
 show bK _ _ _ [⟨_,_⟩,⟨_,_⟩,_,_,_,_,_,_,_,_,_,_,_,_,_,_] _;refine ar ?_;refine c7 ?_;intro u0;refine ax ?_;refine cG (fun hc0=>?_) fun hc0=>?_
 .refine aE ?_;refine cY ?_;rw[jh,aw ae]
 refine aD ?_;intro u1;refine ax ?_;refine cG (fun hc1=>?_) fun hc1=>?_
 .refine aE ?_;refine cY ?_;rw[jh,ak ae,aw ae]
 refine aD ?_;intro u2;refine ax ?_;refine ba hm (ι:=Nat) (fun i=>[.un,.un,.un,⟨true,.ptr 1 3 0 0⟩,.un,.un,⟨true,.int .i64 (i:Nat)⟩,⟨true,.int .i64 (n.any.length:Nat)⟩,.un,⟨true,.sl 4 (n.any.map bT.D)⟩,⟨true,.ptr 0 9 0 0⟩,.un,.un,.un,.un,.un]) (fun i=>[(0,.buf 9 [Rec.D r]),(1,.buf 3 [bp.D n])]) 15 (fun i=>i<=n.any.length/\mP r n.any=fL (fun i=>jP r n.any[i]! (decide ((n.any.length:Int)=1))) i n.any.length) (fun i=>n.any.length-i) 0 ⟨ae,rfl⟩ (du [(0,0),(1,1)]) ?_;rintro i ⟨hi,hr⟩;refine ay ?_;refine cG (fun hc2=>?_) fun hc2=>?_
 .refine aB ?_;first|refine bE (v:=(bT.D _)) ?_|refine ff (v:=(bT.D _)) ?_
  refine aA ?_;refine aI (bT.D n.any[i]!) (he:=aQ) ?_;refine aZ ?_;intro u3;refine aA ?_;refine aq (hc:=h443 r n.any[i]! _ (hp0.1 _ (bF ae))) ?_;refine aD ?_;refine fO (fun hc3=>?_) fun hc3=>?_
  .refine aZ ?_;refine cY ?_;have hw:mP r n.any=jP r n.any[i]! (decide ((n.any.length:Int)=1)):=by rw[hr,mc ae hc3]
   rw[jh,ak ae,ak ae,aw (by rw[hw];exact hc3),hw]
  refine aZ ?_;exact⟨i+1,⟨ae,by rw[hr,n5 ae hc3]⟩,ae,(du [(0,0),(1,1)])⟩
 refine aB ?_;have hw0:mP r n.any=0:=by rw[hr,nZ ae]
 refine ax ?_;refine aq (hc:=h212 _) ?_;refine ax ?_;refine av (fun hc4=>?_) (fun hc4=>?_)
 .try simp only[dq]at hc4
  refine aE ?_;refine cY ?_;rw[jh,ak ae,ak ae,ak (by simp[hw0]),aw hc4]
 simp only[bM]at hc4;refine c7 ?_;refine aq (hc:=h349 _) ?_;refine ay ?_;refine av (fun hc5=>?_) (fun hc5=>?_)
 .try simp only[dq]at hc5
  refine aE ?_;refine cY ?_;rw[jh,ak ae,ak ae,ak (by simp[hw0]),ak (by simp[hc4]),aw hc5]
 simp only[dz,bM,aK]at hc5;refine aE ?_;refine cY ?_;rw[jh,ak ae,ak ae,ak (by simp[hw0]),ak (by simp[hc4]),ak (by rintro⟨g1,g2⟩;rcases hc5 with h|h;exact g1 h;rw[g2]at h;cases h)]
noncomputable def HI:aC:=cR 99
def w214 (h448:XM Y)(r:Rec)(s:au)  (hp0:s.length<=1048576):di Y HI (.int .i64 (j9 r s)) [Rec.D r,.str s]:=by
 show bK _ _ _ [⟨_,_⟩,⟨_,_⟩,_,_,_,_,_,_,_,_,_,_,_,_,_] _;refine ar ?_;refine aE ?_;refine aq (hc:=h448 s hp0) ?_;refine lX ?_;intro u0;refine ax ?_;refine ba hm (ι:=Nat) (fun i=>[.un,.un,.un,⟨true,.ptr 0 9 0 0⟩,⟨true,.int .i64 (i:Nat)⟩,⟨true,.int .i64 (r.needs.length:Nat)⟩,.un,⟨true,.sl 3 (r.needs.map bp.D)⟩,⟨true,.int .i64 (dK s).1⟩,.un,⟨true,.str (dK s).2.1⟩,.un,.un,.un,.un]) (fun i=>[(0,.buf 9 [Rec.D r])]) 15 (fun i=>i<=r.needs.length/\j9 r s=(if(r.needs.drop i).any (itC (dK s).1 (dK s).2.1)=true then 0 else Zc (dK s).1)) (fun i=>r.needs.length-i) 0 ⟨ae,R7 r s⟩ (du [(0,0)]) ?_;rintro i ⟨hi,hr⟩;refine ay ?_;refine cG (fun hc0=>?_) fun hc0=>?_
 .refine aB ?_;first|refine bE (v:=(bp.D _)) ?_|refine ff (v:=(bp.D _)) ?_
  refine aA ?_;refine aI (bp.D r.needs[i]!) (he:=aQ) ?_;refine Co ?_;refine iy ?_;refine aE ?_;refine bI 0 (hb:=fun h=>by simp only[gH,beq_iff_eq,bC,aK]at h;omega) ?_;refine aA ?_;refine bE (q:=bT.D) (xs:=r.needs[i]!.any) (i:=0) (hi:=fun h=>by simp only[gH,beq_iff_eq,bC,aK]at h;omega) (v:=(.str r.needs[i]!.any[0]!.name)) ?_;refine aE ?_;refine wp_cond (fun hc1=>?_) (fun hc1=>?_)
  .have hz:itC (dK s).1 (dK s).2.1 r.needs[i]! =true:=hc1;refine aD ?_;refine cY ?_;rw[hr,vv ae hz];rfl
  have hz:itC (dK s).1 (dK s).2.1 r.needs[i]! =false:=hc1;refine aZ ?_;exact⟨i+1,⟨ae,by rw[hr,Ap ae hz]⟩,ae,(du [(0,0)])⟩
 refine aB ?_;have he:j9 r s=Zc (dK s).1:=by rw[hr,vu ae];rfl
 refine aZ ?_;refine fO (fun hc2=>?_) fun hc2=>?_
 .refine aE ?_;refine cY ?_;rw[he,Zc,aw hc2]
 refine aB ?_;refine fO (fun hc3=>?_) fun hc3=>?_
 .refine aE ?_;refine cY ?_;rw[he,Zc,ak hc2,aw hc3]
 refine aD ?_;refine cY ?_;rw[he,Zc,ak hc2,ak hc3]
noncomputable def JK:aC:=cR 16
def w1203 (h79:C79 Y)(h228:Jb Y)(h504:XZ Y)(l:List Int)(i:Int)(nm:au)(most:Nat)  (hp0:(0<=i/\i<=100000)/\most<=60/\dL nm=true):di Y JK (fR.D (Cu l i nm most)) [.sl 1 (l.map (D.int .i64)),.int .i64 i,.str nm,.int .i64 (most:Nat)]:=by
 show bK _ _ _ [⟨_,_⟩,⟨_,_⟩,⟨_,_⟩,⟨_,_⟩,_,_,_,_,_,_,_,_] _;refine ar ?_;refine aB ?_;refine bg (.agg [.str nm,.bq]) ?_;refine aA ?_;refine aI (.agg [.str nm,.bq]) (he:=aQ) ?_;refine aA ?_;refine kP [(0,.buf 2 [.agg [.str [],.bq]]),(3,.buf 2 [.agg [.str nm,.sl 11 []]])] (.id ah (.bf ah (.cons (.ag (.cons (.refl _) (.cons (.nil 11) .nil))) .nil) .nil)) ?_;refine aB ?_;refine ba hm (ι:=(Nat×List cx)) (fun p=>[⟨true,.sl 1 (l.map (D.int .i64))⟩,⟨true,.int .i64 i⟩,⟨true,.str nm⟩,⟨true,.int .i64 (most:Nat)⟩,⟨true,.ptr 0 2 0 0⟩,⟨true,.int .i64 (p.1:Nat)⟩,.un,⟨true,.ptr 1 2 0 0⟩,.un,.un,.un,.un]) (fun p=>[(0,.buf 2 [.agg [.str [],.bq]]),(1,.buf 2 [fR.D ⟨nm,p.2⟩])]) 20 (fun p=>p.1<=(fX l i ((most:Int)+1)).toNat/\p.2=yJ l i p.1) (fun p=>(fX l i ((most:Int)+1)).toNat-p.1) (0,[]) ⟨Nat.zero_le _,rfl⟩ (a7.to [(0,0),(3,1)] ah ah ei (by refine bo.fY ah ah ah ?_;refine bo.nl 3 ah ah rfl ah ?_;exact bo.nil)) ?_;rintro⟨k,es⟩ ⟨hk,he⟩;dsimp only at hk he⊢;have hfr:=dP l i ((most:Int)+1) ae;have hk60:k<=60:=ae;have hel:es.length<=k:=by rw[he];exact vN l i k
 have heg:∀x∈es,Cv x:=by rw[he];exact ze l i k
 refine fK ?_;refine c9 (hc:=fun hf=>h228 l i ((most:Nat)+1) ae) ?_;refine ay ?_;refine av (fun hc0=>?_) (fun hc0=>?_)
 .simp only[bC,aK]at hc0;refine ay ?_;have ho:=dP l (i+1+82*(k:Nat)+80) 4 aF;have hgr:=EW l i k;refine aB ?_;refine nW ?_;refine aE ?_;refine nW ?_;refine ax ?_;refine aq (hc:=h228 l (i+1+82*(k:Nat)+80) 4 aF) ?_;refine aA ?_;refine aq (hc:=h79 l (i+1+82*(k:Nat)) (1+fX l (i+1+82*(k:Nat)+80) 4) ae ae) ?_;refine aA ?_;refine aI (Rec.D (pW l i k)) (he:=aQ) ?_;refine ax ?_;by_cases hput:(nD ⟨nm,es⟩ (pW l i k)).2=0
  .refine cA (d:=fR.D ⟨nm,es⟩) ?_;refine cA (d:=Rec.D (pW l i k)) ?_;refine cy (nx':=51) (v:=.tup [.agg [.str nm,.own 52 11 0 (oW ⟨nm,es⟩ (pW l i k)).length],.int .i64 0]) (m':=[(52,.buf 11 ((oW ⟨nm,es⟩ (pW l i k)).map cx.D)),(0,.buf 2 [.agg [.str [],.bq]]),(1,.buf 2 [fR.D ⟨nm,es⟩]),(48,.buf 9 [Rec.D (pW l i k)])]) (hc:=fun K' hK=>h504 ⟨nm,es⟩ (pW l i k) ⟨fun x hx=>(heg x hx).m,hgr.2.2.2.2⟩ _ _ K' (fun h=>absurd hput h) (fun _=>hK)) (hn:=aF) ?_;refine aA ?_;refine eZ _ ?_;refine ax ?_;refine aI (.agg [.str nm,.own 52 11 0 (oW ⟨nm,es⟩ (pW l i k)).length]) (he:=aQ) ?_;refine aD ?_;refine wp_cond (fun hc1=>?_) (fun hc1=>?_)
   .try simp only[dq]at hc1
    refine aA ?_;refine cA (d:=.agg [.str nm,.own 52 11 0 (oW ⟨nm,es⟩ (pW l i k)).length]) ?_;refine aI (.agg [.str nm,.own 52 11 0 (oW ⟨nm,es⟩ (pW l i k)).length]) (he:=aQ) ?_;refine ay ?_;refine aT (v:=.own 52 11 0 (oW ⟨nm,es⟩ (pW l i k)).length) ?_;refine aA ?_;refine aT (v:=.own 52 11 0 (oW ⟨nm,es⟩ (pW l i k)).length) ?_;refine iy ?_;refine Md (hb:=fun _=>by simp only[oW,bQ,aP,a8];omega) ?_;refine aB ?_;refine nW ?_;refine ax ?_;refine aq (hc:=h228 l (i+1+82*(k:Nat)+81) 9 aF) ?_;refine aA ?_;refine iv es.length (hj:=fun _=>by simp[oW]) (hb:=fun _=>by simp[oW]) ?_;refine aA ?_;refine su ((es++[(⟨(pW l i k),m9 (pW l i k),gEY l i k⟩:cx)]).map cx.D) (hi:=by simp[oW]) (he:=by rw[bR];exact stY es _ _) ?_;refine bN ?_;rw[show(oW ⟨nm,es⟩ (pW l i k)).length=(es++[(⟨(pW l i k),m9 (pW l i k),gEY l i k⟩:cx)]).length by simp[oW]];exact⟨(k+1,es++[⟨(pW l i k),m9 (pW l i k),gEY l i k⟩]),⟨dF,by dsimp only;rw[he]at hput⊢;exact(Vi hp0.2.2 ae hput).symm⟩,dF,(a7.fz 52 ah eL qqq8 qqq8 (a7.to [(0,0),(1,1)] ah ah ei (by refine bo.fY ah ah ah ?_;refine bo.fY ah ah ah ?_;exact bo.nil)))⟩
   exact absurd hc1 aF
  .refine cA (d:=fR.D ⟨nm,es⟩) ?_;refine cA (d:=Rec.D (pW l i k)) ?_;refine cy (nx':=50) (v:=.tup [.agg [.str [],.bq],.int .i64 (nD ⟨nm,es⟩ (pW l i k)).2]) (m':=[(0,.buf 2 [.agg [.str [],.bq]]),(1,.buf 2 [fR.D ⟨nm,es⟩]),(48,.buf 9 [Rec.D (pW l i k)])]) (hc:=fun K' hK=>h504 ⟨nm,es⟩ (pW l i k) ⟨fun x hx=>(heg x hx).m,hgr.2.2.2.2⟩ _ _ K' (fun _=>hK) (fun h=>absurd h hput)) (hn:=aF) ?_;refine aA ?_;refine eZ _ ?_;refine ax ?_;refine aI (.agg [.str [],.bq]) (he:=aQ) ?_;refine aD ?_;refine wp_cond (fun hc1=>?_) (fun hc1=>?_)
   .exact absurd (of_decide_eq_true hc1) hput
   try simp only[dq]at hc1
   refine bN ?_;exact⟨(k+1,es),⟨dF,by dsimp only;rw[he]at hput⊢;exact(Y5 hp0.2.2 ae hput).symm⟩,dF,(a7.to [(0,0),(1,1)] ah ah ei (by refine bo.fY ah ah ah ?_;refine bo.fY ah ah ah ?_;exact bo.nil))⟩
 simp only[dz,bc]at hc0;have hkf:k=(fX l i ((most:Int)+1)).toNat:=ae;refine ay ?_;refine cA (d:=fR.D ⟨nm,es⟩) ?_;refine aI (fR.D ⟨nm,es⟩) (he:=aQ) ?_;refine ax ?_;refine bG (?_);rw[he,hkf];rfl
noncomputable def Kb:aC:=cR 255
def w955  (l:List b7)(nm:au)   :di Y Kb (.int .i64 (findF l nm 0)) [.sl 2 (l.map b7.D),.str nm]:=by
 show bK _ _ _ [⟨_,_⟩,⟨_,_⟩,_,_,_,_] _;refine ar ?_;refine aD ?_;refine ba hm (ι:=Nat) (fun i=>[⟨true,.sl 2 (l.map b7.D)⟩,⟨true,.str nm⟩,.un,⟨true,.int .i64 (i:Nat)⟩,.un,.un]) (fun i=>[]) 2 (fun i=>i<=l.length/\findF l nm 0=findF l nm i) (fun i=>l.length-i) 0 ⟨ae,rfl⟩ (du []) ?_;rintro i ⟨hi,hr⟩;refine aE ?_;intro u0;refine ax ?_;refine cG (fun hc0=>?_) fun hc0=>?_
 .refine fK ?_;refine fO (fun hc1=>?_) fun hc1=>?_
  .refine aZ ?_;refine cY ?_;rw[hr,GN ae hc1]
  refine bN ?_;exact⟨i+1,⟨ae,by rw[hr,GO ae hc1]⟩,ae,(du [])⟩
 refine aD ?_;refine cY ?_;rw[hr,Dj ae]
noncomputable def ES:aC:=cR 182
def w663  (l:List b7)(nm:au)   :di Y ES (.int .i64 (findF l nm 0)) [.sl 2 (l.map b7.D),.str nm]:=by
 show bK _ _ _ [⟨_,_⟩,⟨_,_⟩,_,_,_,_,_,_,_,_] _;refine ar ?_;refine aD ?_;intro u0;refine ax ?_;refine ba hm (ι:=Nat) (fun i=>[⟨true,.sl 2 (l.map b7.D)⟩,⟨true,.str nm⟩,.un,⟨true,.int .i64 (i:Nat)⟩,⟨true,.int .i64 (l.length:Nat)⟩,.un,⟨true,.sl 2 (l.map b7.D)⟩,.un,.un,.un]) (fun i=>[]) 4 (fun i=>i<=l.length/\findF l nm 0=findF l nm i) (fun i=>l.length-i) 0 ⟨ae,rfl⟩ (du []) ?_;rintro i ⟨hi,hr⟩;refine ay ?_;refine cG (fun hc0=>?_) fun hc0=>?_
 .refine aE ?_;first|refine bE (v:=(b7.D _)) ?_|refine ff (v:=(b7.D _)) ?_
  refine ax ?_;refine aI (b7.D l[i]!) (he:=aQ) ?_;refine aZ ?_;refine fO (fun hc1=>?_) fun hc1=>?_
  .refine aZ ?_;refine cY ?_;rw[hr,GN ae hc1]
  refine aZ ?_;exact⟨i+1,⟨ae,by rw[hr,GO ae hc1]⟩,ae,(du [])⟩
 refine aD ?_;refine cY ?_;rw[hr,Dj ae]
noncomputable def Tx:aC:=cR 222
def w816 {Y:Ctx}(hm:(Y.at 0).b8)(h955:C955 Y)(l:List b7)(nm:au)   :di Y Tx (.bool (R5 l nm)) [.sl 2 (l.map b7.D),.str nm]:=by
 show bK _ _ _ [⟨_,_⟩,⟨_,_⟩,_] _;refine ar ?_;refine bN ?_;refine aq (hc:=h955 _ _) ?_;refine aE ?_;exact bV rfl
noncomputable def CD:aC:=cR 143
def w449 {Y:Ctx}(hm:(Y.at 0).b8)(h663:C663 Y)(l:List b7)(nm:au)   :di Y CD (.bool (R5 l nm)) [.sl 2 (l.map b7.D),.str nm]:=by
 show bK _ _ _ [⟨_,_⟩,⟨_,_⟩,_] _;refine ar ?_;refine bN ?_;refine aq (hc:=h663 _ _) ?_;refine aE ?_;exact bV rfl
noncomputable def Kc:aC:=cR 192
def w672 {Y:Ctx}(hm:(Y.at 0).b8)(h216:I9 Y)(h357:Jd Y)(h470:tZ Y)(s:au)  (hp0:s.length<=1048576):di Y Kc (.tup [.int .i64 (dK s).1,.str (dK s).2.1,.str (dK s).2.2]) [.str s]:=by
 show bK _ _ _ [⟨_,_⟩,_,_,_,_,_,_,_] _;refine ar ?_;refine aZ ?_;refine aq (hc:=h357 _) ?_;refine aA ?_;refine cG (fun hc0=>?_) fun hc0=>?_
 .refine bN ?_;refine bG (dj (aj (D.int .i64) ?_) (aj D.str ?_) (aj D.str ?_));all_goals rw[Lz hc0]
 refine aE ?_;intro u0;refine ay ?_;refine qe 0 ?_;refine aB ?_;refine fB 1 (hb:=fun h=>by simp at h;omega) ?_;refine aq (hc:=h357 _) ?_;refine ax ?_;refine cG (fun hc1=>?_) fun hc1=>?_
 .refine ay ?_;refine fB 1 (hb:=fun h=>ae) ?_;refine aE ?_;refine bG (dj (aj (D.int .i64) ?_) (aj D.str ?_) (aj D.str ?_));all_goals rw[LA hc0 hc1]
 refine ay ?_;refine aq (hc:=h470 _ _ ?_) ?_;rotate_left;first|assumption|omega
 refine aD ?_;intro u1;refine ay ?_;refine bI 0 ?_;refine aA ?_;refine aq (hc:=h216 _) ?_;refine ay ?_;refine bI 1 ?_;refine aA ?_;refine aq (hc:=h357 _) ?_;refine ax ?_;refine cG (fun hc2=>?_) fun hc2=>?_
 .refine ay ?_;refine bI 0 ?_;refine ax ?_;refine bI 1 ?_;refine aD ?_;refine bG (dj (aj (D.int .i64) ?_) (aj D.str ?_) (aj D.str ?_));all_goals rw[LB hc0 hc1 hc2]
 refine aZ ?_;refine bG (dj (aj (D.int .i64) ?_) (aj D.str ?_) (aj D.str ?_));all_goals rw[Ly hc0 hc1 hc2]
noncomputable def JQ:aC:=cR 139
def w445 {Y:Ctx}(hm:(Y.at 0).b8)(h124:N4 Y)(h660:X4 Y)(h661:X5 Y)(s:au)   :di Y JQ (.tup [lO (m5 s).1,.int .i64 (m5 s).2]) [.str s]:=by
 show bK _ _ _ [⟨_,_⟩,_,_,_,_,_,_,_] _;refine ar ?_;refine aD ?_;refine iy ?_;refine ax ?_;refine cG (fun hc0=>?_) fun hc0=>?_
 .refine ax ?_;refine df [.bq] ?_;refine aI (.agg [.bq]) (he:=aQ) ?_;refine ay ?_;refine bG (aH ?_ (aj (D.int .i64) ?_));all_goals (have hq:m5 s=([],3):=(by simp only[m5];rw[aw ae]);rw[hq];first|done|rfl)
 refine aD ?_;refine av (fun hc1=>?_) (fun hc1=>?_)
 .try simp only[dq]at hc1
  refine ax ?_;refine df [.bq] ?_;refine aI (.agg [.bq]) (he:=aQ) ?_;refine ay ?_;refine bG (aH ?_ (aj (D.int .i64) ?_));all_goals (have hq:m5 s=([],0):=(by simp only[m5];rw[ak ae,aw hc1]);rw[hq];first|done|rfl)
 simp only[bc]at hc1;have hnl:¬96<s.length:=ae;have hsl:=dm s 32;refine ay ?_;refine aq (hc:=h124 s 32 ae) ?_;refine bg (iW (ai s 32) .bq false) ?_;refine ay ?_;refine ik (a7.to (env':=[⟨true,.str s⟩,⟨true,.ptr 0 1 0 0⟩,.un,.un,.un,⟨true,.ptr 1 3 0 0⟩,.un,.un]) (c:=20) (nx':=20) (m':=[(0,.buf 1 [.agg [.bq]]),(1,.buf 3 [iW (ai s 32) (.own 2 5 0 ([]:List Nd).length) false]),(2,.buf 5 (([]:List Nd).map Nd.D))]) [(0,0),(10,1)] rfl ah ei (by refine bo.fY ah ah ah ?_;refine bo.ni 10 ah ah (by exact⟨_,_,rfl,⟨_,rfl,⟨_,_,rfl,⟨rfl,rfl⟩,⟨_,_,rfl,Or.inr ⟨_,_,_,rfl⟩,⟨_,_,rfl,⟨rfl,rfl⟩,rfl⟩⟩⟩⟩,rfl⟩) ?_;refine bo.mt ah ah ah ah ?_;exact bo.nil)) ?_;refine ax ?_;refine gR (eC (jf (ai s 32) []) (ai s 32) []) Va 21 (fun o=>[(21,.buf 5 (o.nd.map Nd.D)),(0,.buf 1 [.agg [.bq]]),(1,.buf 3 [iW o.w (.own 21 5 0 o.nd.length) o.bad])]) (fun o1 ho1=>?_) (hc:=fun K' hK=>h660 (ai s 32) [] (by simp only[a8];omega) _ 1 2 _ K' ah ah cd cd (fun o ho=>hK o ho)) (hn:=aF);refine aA ?_;refine eI 21 ?_ (he:=by simp only[lf,iL,iV,lQ,nk,cJ,Nat.reduceEqDiff,aW,aX,cO,ct,cu,cT,cX,bR,bO,aL,bZ,aN,reduceCtorEq,aP,a8,Nat.reduceAdd,Nat.reduceLeDiff,iW];exact rfl) (hm:=by simp only[lf,iL,iV,lQ,nk,cJ,Nat.reduceEqDiff,aW,aX,cO,ct,cu,cT,cX,bR,bO,aL,bZ,aN,reduceCtorEq,aP,a8,Nat.reduceAdd,Nat.reduceLeDiff,iW];exact rfl);refine aB ?_;refine aT (v:=.sl 5 (o1.nd.map Nd.D)) ?_;refine bg (lO o1.nd) ?_;refine aA ?_;refine aI (lO o1.nd) (he:=aQ) ?_;refine aD ?_;refine aT (v:=.bool o1.bad) ?_;refine aB ?_;refine aT (v:=.sl 1 (o1.w.map D.str)) ?_;refine iy ?_;refine ay ?_;refine cA (d:=lO o1.nd) ?_;refine aq (hc:=h661 o1.nd) ?_;refine ay ?_;refine av (fun hc2=>?_) (fun hc2=>?_)
 .have hmx:=So ho1 hc2;refine ax ?_;refine df [.bq] ?_;refine aI (.agg [.bq]) (he:=aQ) ?_;refine ay ?_;refine bG (aH ?_ (aj (D.int .i64) ?_));all_goals (have hq:=LP hnl hc1 hmx;rw[hq];first|done|rfl)
 have hmx:=LU ho1 hc2;refine ax ?_;refine cA (d:=lO o1.nd) ?_;refine aI (lO o1.nd) (he:=aQ) ?_;refine ay ?_;refine bG (aH ?_ (aj (D.int .i64) ?_));all_goals (have hq:=LR hnl hc1 hmx;rw[hq];first|done|rfl)
noncomputable def CO:aC:=cR 97
def w212 {Y:Ctx}(hm:(Y.at 0).b8)(h445:C445 Y)(h446:C446 Y)(s:au)   :di Y CO (.bool (qH s)) [.str s]:=by
 show bK _ _ _ [⟨_,_⟩,_,_,_] _;refine ar ?_;refine aB ?_;refine aq (hc:=h445 s) ?_;refine aA ?_;refine eZ (lO _) ?_;refine ax ?_;refine aI (lO (m5 s).1) (he:=aQ) ?_;refine aD ?_;refine cA (d:=lO (m5 s).1) ?_;refine aq (hc:=h446 (m5 s).1) ?_;refine aD ?_;exact bV rfl
noncomputable def Jo:aC:=cR 207
def w682 {Y:Ctx}(hm:(Y.at 0).b8)(h819:C819 Y)(s:au)  (hp0:s.length<=1048575):di Y Jo (.tup [dI.D ((nH s).getD eQ),.int .i64 (if(nH s).isSome=true then 0 else 6)]) [.str s]:=by
 show bK _ _ _ [⟨_,_⟩,_,_,_,_,_,_,_,_] _;refine ar ?_;refine aD ?_;refine aq (hc:=h819 s ae) ?_;refine aA ?_;refine eZ (dI.D _) ?_;refine ax ?_;refine aI (dI.D ((iw s).getD eQ)) (he:=aQ) ?_;refine aD ?_;refine cG (fun hc0=>?_) fun hc0=>?_
 .refine ax ?_;refine cA (d:=dI.D ((iw s).getD eQ)) ?_;refine aB ?_;refine bG (aH ?_ (aj (D.int .i64) ?_));all_goals (have hn:nH s=iw s:=aw hc0;rw[hn];first|rfl|simp only[hc0,aW])
 refine aB ?_;refine dk (hb:=fun _=>cZ) ?_;refine aq (hc:=h819 (94::s) cZ) ?_;refine aA ?_;refine eZ (dI.D _) ?_;refine ax ?_;refine aI (dI.D ((iw (94::s)).getD eQ)) (he:=aQ) ?_;refine aD ?_;refine cG (fun hc1=>?_) fun hc1=>?_
 .refine ax ?_;refine cA (d:=dI.D ((iw (94::s)).getD eQ)) ?_;refine aB ?_;refine bG (aH ?_ (aj (D.int .i64) ?_));all_goals (have hn:nH s=iw (94::s):=(by simp only[nH,hc0,fS,aX]);rw[hn];first|rfl|simp only[hc1,aW])
 refine ax ?_;refine bg (dI.D eQ) ?_;refine aB ?_;refine bG (aH ?_ (aj (D.int .i64) ?_));all_goals (have hn:nH s=none:=(by simp only[nH,hc0,fS,aX];exact Option.not_isSome_iff_eq_none.1 (by rw[hc1];simp));rw[hn];rfl)
noncomputable def FL:aC:=cR 202
def w494  (l:List au)(x:au)   :di Y FL (.int .i64 (wW l x 0)) [.sl 1 (l.map D.str),.str x]:=by
 show bK _ _ _ [⟨_,_⟩,⟨_,_⟩,_,_,_,_,_,_] _;refine ar ?_;refine aD ?_;intro u0;refine ax ?_;refine ba hm (ι:=Nat) (fun i=>[⟨true,.sl 1 (l.map D.str)⟩,⟨true,.str x⟩,.un,⟨true,.int .i64 (i:Nat)⟩,⟨true,.int .i64 (l.length:Nat)⟩,.un,.un,.un]) (fun i=>[]) 4 (fun i=>i<=l.length/\wW l x 0=wW l x i) (fun i=>l.length-i) 0 ⟨ae,rfl⟩ (du []) ?_;rintro i ⟨hi,hr⟩;refine ay ?_;refine cG (fun hc0=>?_) fun hc0=>?_
 .refine sQ ?_;refine fO (fun hc1=>?_) fun hc1=>?_
  .refine aZ ?_;refine cY ?_;rw[hr,Vy ae hc1]
  refine aZ ?_;exact⟨i+1,⟨ae,by rw[hr,Vz ae hc1]⟩,ae,(du [])⟩
 refine aD ?_;refine cY ?_;rw[hr,R1 ae]
noncomputable def yS:aC:=cR 160
def w246 {Y:Ctx}(hm:(Y.at 0).b8)(h494:C494 Y)(l:List au)(x:au)   :di Y yS (.bool (decide (x∈l))) [.sl 1 (l.map D.str),.str x]:=by
 show bK _ _ _ [⟨_,_⟩,⟨_,_⟩,_] _;refine ar ?_;refine aE ?_;refine aq (hc:=h494 l x) ?_;refine aB ?_;refine bV ?_;exact R2 l x
end Go.Abs
