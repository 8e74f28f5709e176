/- A part of the proofs. -/
import Derived.Test.YtgnjlompgjhaaaaGreatDoorP07
set_option linter.all false
set_option maxRecDepth 60000
namespace Go.Abs
variable {Y:Ctx}(hm:(Y.at 0).b7)
noncomputable def HN:aC:=cP 177
def w495 (h124:NC Y)(h682:C682 Y)(h683:C683 Y)(h684:Ue Y)(h685:C685 Y)(h9124:Wi Y)(s:au)  (hp0:s.length<=1048576):dh Y HN (.tup [iB (iJ s).1,.int .i64 (iJ s).2]) [.str s]:=by
 show bJ _ _ _ [⟨_,_⟩,_,_,_,_,_,_,_,_,_,_,_,_,_,_,_,_,_,_,_,_,_] _;have hdl:=oA s [];have hgl:∀i,i<(aR s []).length->(aR s [])[i]!.length<=s.length:=fun i hi=>by
  have:=hdl.2 _ (bE hi);simpa using this
 refine ar ?_;refine aZ ?_;intro u0;refine ax ?_;refine cF (fun hc0=>?_) fun hc0=>?_
 .refine ax ?_;refine de [.bq] ?_;refine aI (.agg [.bq]) (he:=aQ) ?_;refine ay ?_;refine bF (aH ?_ (aj (D.int .i64) ?_));all_goals
   have hq:iJ s=([],3):=by
    unfold iJ;rw[aw ae]
   rw[hq];first|done|rfl
 refine aZ ?_;refine aq (hc:=h9124 s ae) ?_;refine aA ?_;intro u1;refine ax ?_;refine ba hm (ι:=Nat) (fun i=>[.un,⟨true,.ptr 0 1 0 0⟩,.un,.un,⟨true,.int .i64 (i:Nat)⟩,⟨true,.int .i64 ((aR s []).length:Nat)⟩,.un,⟨true,.sl 1 ((aR s []).map D.str)⟩,.un,.un,.un,.un,.un,.un,.un,.un,.un,.un,⟨true,.ptr 5 1 0 0⟩,.un,.un,.un]) (fun i=>[(0,.buf 1 [.agg [.bq]]),(5,.buf 1 [.agg [.own 1 1 0 ((iK s).take i).length]]),(1,.buf 1 (((iK s).take i).map ra))]) 10 (fun i=>i<=(aR s []).length/\Bv s=cQ (fun i=>wOK (aR s [])[i]!) i (aR s []).length) (fun i=>(aR s []).length-i) 0 ⟨ae,rfl⟩ (a7.to [(0,0),(5,5)] ah ah eh (by refine eM ?_;refine bo.ni 5 ah ah (by exact⟨_,_,rfl,⟨_,rfl,⟨_,_,rfl,Or.inr ⟨_,_,_,rfl⟩,rfl⟩⟩,rfl⟩) ?_;refine bo.mt ah ah ah ah ?_;exact bo.nil)) ?_;rintro i ⟨hi,hr⟩;have hrt:((iK s).take i).length<=i:=by rw[er];omega
 refine ay ?_;refine cF (fun hc1=>?_) fun hc1=>?_
 .refine gu ?_;have hgi:=hgl i ae;have hsl:=dk (aR s [])[i]! 44;have hsp:1<=(ai (aR s [])[i]! 44).length:=ep _ _ _;refine aA ?_;refine aq (v:=.sl 1 ((ai (aR s [])[i]! 44).map D.str)) (hc:=h124 (aR s [])[i]! 44 ae) ?_;refine aA ?_;intro u2;refine ax ?_;refine ba hm (ι:=Nat) (fun k=>[.un,⟨true,.ptr 0 1 0 0⟩,.un,.un,⟨true,.int .i64 (i:Nat)⟩,⟨true,.int .i64 ((aR s []).length:Nat)⟩,.un,⟨true,.sl 1 ((aR s []).map D.str)⟩,.un,⟨true,.int .i64 (k:Nat)⟩,⟨true,.int .i64 ((ai (aR s [])[i]! 44).length:Nat)⟩,.un,⟨true,.sl 1 ((ai (aR s [])[i]! 44).map D.str)⟩,.un,.un,.un,⟨true,.own 2 7 0 ((mV (aR s [])[i]!).take k).length⟩,.un,⟨true,.ptr 5 1 0 0⟩,.un,.un,.un]) (fun k=>[(0,.buf 1 [.agg [.bq]]),(5,.buf 1 [.agg [.own 1 1 0 ((iK s).take i).length]]),(1,.buf 1 (((iK s).take i).map ra)),(2,.buf 7 (((mV (aR s [])[i]!).take k).map dH.D))]) 19 (fun k=>k<=(ai (aR s [])[i]! 44).length/\wOK (aR s [])[i]! =cQ (fun k=>(eO (eN (ai (aR s [])[i]! 44)[k]!)).isSome) k (ai (aR s [])[i]! 44).length) (fun k=>(ai (aR s [])[i]! 44).length-k) 0 ⟨ae,rfl⟩ (a7.to [(0,0),(5,5),(1,1)] ah ah (by repeat(first|exact dp.nil|refine dp.un ?_|refine dp.eq ah ?_|refine dp.nl ah ah ?_|refine dp.ni (Or.inr ⟨_,_,_,rfl⟩) ?_)) (by refine eM ?_;refine eM ?_;refine eM ?_;refine bo.mt ah ah ah ah ?_;exact bo.nil)) ?_;rintro k ⟨hk,hwk⟩;have htk:((mV (aR s [])[i]!).take k).length<=k:=by rw[er];omega
  refine ay ?_;refine cF (fun hc2=>?_) fun hc2=>?_
  .refine bL ?_;have hwl:=qA (aR s [])[i]! 44 (show k<(ai (aR s [])[i]! 44).length by omega);have hbl:=vU (ai (aR s [])[i]! 44)[k]!;refine aA ?_;refine aq (hc:=h683 (ai (aR s [])[i]! 44)[k]! 32 rfl ae) ?_;refine aq (v:=.tup [dH.D ((eO (eN (ai (aR s [])[i]! 44)[k]!)).getD eP),.int .i64 (if(eO (eN (ai (aR s [])[i]! 44)[k]!)).isSome=true then 0 else 6)]) (hc:=by rw[<-QV];exact h682 (eN (ai (aR s [])[i]! 44)[k]!) ae) ?_;refine aA ?_;refine eX (dH.D _) ?_;refine ax ?_;refine aI (dH.D ((eO (eN (ai (aR s [])[i]! 44)[k]!)).getD eP)) (he:=aQ) ?_;refine aZ ?_;refine av (fun hc3=>?_) (fun hc3=>?_)
   .have hsm:(eO (eN (ai (aR s [])[i]! 44)[k]!)).isSome=false:=by cases hx:(eO (eN (ai (aR s [])[i]! 44)[k]!)).isSome with|false=>rfl|true=>rw[hx]at hc3;exact absurd hc3 aF
    refine ax ?_;refine de [.bq] ?_;refine aI (.agg [.bq]) (he:=aQ) ?_;refine aZ ?_;refine bF (aH ?_ (aj (D.int .i64) ?_));all_goals
     have hq:iJ s=([],6):=by
      have hno:Bv s=false:=by rw[hr,aU ae,hwk,aU ae,hsm];rfl
      unfold iJ;rw[ak ae,aw hno]
     rw[hq];first|done|rfl
   have hsm:(eO (eN (ai (aR s [])[i]! 44)[k]!)).isSome=true:=by cases hx:(eO (eN (ai (aR s [])[i]! 44)[k]!)).isSome with|true=>rfl|false=>rw[hx]at hc3;exact absurd hc3 aF
   refine ay ?_;refine cz (d:=dH.D ((eO (eN (ai (aR s [])[i]! 44)[k]!)).getD eP)) ?_;refine df [(dH.D _)] ?_;refine cZ ?_;have hq:=iQ (fun x=>(eO (eN x)).getD eP) (ai (aR s [])[i]! 44) (show k<(ai (aR s [])[i]! 44).length by omega);rw[show(fun x=>(eO (eN x)).getD eP)=fun x=>(eO (eN x)).getD eP from rfl]at hq;have hq:(mV (aR s [])[i]!).take (k+1)=_:=hq;rw[show(mV (aR s [])[i]!).take k++[(eO (eN (ai (aR s [])[i]! 44)[k]!)).getD eP]=(mV (aR s [])[i]!).take (k+1)from hq.symm];exact⟨k+1,⟨ae,by rw[hwk,aU ae,hsm];rfl⟩,ae,(a7.to [(0,0),(5,5),(1,1),(37,2)] ah ah eh (by refine eM ?_;refine eM ?_;refine eM ?_;refine bo.nl 37 ah ah ah eK ?_;exact bo.nil))⟩
  refine ax ?_;refine eH 2 ?_ (he:=by simp only[kS,iD,iN,lG,mU,cH,Nat.reduceEqDiff,aW,aX,cN,cr,ct,cS,cW,bQ,bN,aL,bY,aN,reduceCtorEq,aP,a8,Nat.reduceAdd,Nat.reduceLeDiff,oO];exact rfl) (hm:=by simp only[kS,iD,iN,lG,mU,cH,Nat.reduceEqDiff,aW,aX,cN,cr,ct,cS,cW,bQ,bN,aL,bY,aN,reduceCtorEq,aP,a8,Nat.reduceAdd,Nat.reduceLeDiff,oO];exact rfl);refine aA ?_;obtain rfl:k=(ai (aR s [])[i]! 44).length:=ae;rw[ed (show(mV (aR s [])[i]!).length<=(ai (aR s [])[i]! 44).length by simp[mV])];refine aA ?_;refine aT (v:=.own _ _ _ _) ?_;refine aA ?_;refine df [ra (mV (aR s [])[i]!)] ?_;refine ax ?_;refine aI (.agg [.own 24 1 0 ((iK s).take i++[mV (aR s [])[i]!]).length]) (he:=aQ) ?_;refine aZ ?_;have hq:(iK s).take (i+1)=(iK s).take i++[mV (aR s [])[i]!]:=iQ mV (aR s []) (show i<(aR s []).length by omega);rw[<-hq];exact⟨i+1,⟨ae,by rw[hr,aU ae,hwk,cj ae];rfl⟩,ae,(a7.to [(0,0),(5,5),(24,1)] ah ah eh (by refine eM ?_;refine eM ?_;refine bo.nl 24 ah ah ah eK ?_;exact bo.nil))⟩
 refine ay ?_;refine eH 1 ?_ (he:=by simp only[kS,iD,iN,lG,mU,cH,Nat.reduceEqDiff,aW,aX,cN,cr,ct,cS,cW,bQ,bN,aL,bY,aN,reduceCtorEq,aP,a8,Nat.reduceAdd,Nat.reduceLeDiff,oO];exact rfl) (hm:=by simp only[kS,iD,iN,lG,mU,cH,Nat.reduceEqDiff,aW,aX,cN,cr,ct,cS,cW,bQ,bN,aL,bY,aN,reduceCtorEq,aP,a8,Nat.reduceAdd,Nat.reduceLeDiff,oO];exact rfl);refine aA ?_;obtain rfl:i=(aR s []).length:=ae;have hok:Bv s=true:=by rw[hr,cj ae]
 rw[ed (show(iK s).length<=(aR s []).length by simp[iK])];have hrs:=Fg (s:=s) ae;refine cz (d:=iB (iK s)) ?_;refine aq (hc:=h684 (iK s) hrs) ?_;refine fH ?_;refine av (fun hc4=>?_) (fun hc4=>?_)
 .simp only[bd]at hc4;refine ax ?_;refine de [.bq] ?_;refine aI (.agg [.bq]) (he:=aQ) ?_;refine ay ?_;refine bF (aH ?_ (aj (D.int .i64) ?_));all_goals
   have hq:iJ s=([],6):=by
    unfold iJ;rw[ak ae,ak (by rw[hok];simp),aw hc4]
   rw[hq];first|done|rfl
 simp only[bK]at hc4;refine ay ?_;refine cz (d:=iB (iK s)) ?_;refine aq (hc:=h685 (iK s) hrs) ?_;refine ax ?_;refine av (fun hc5=>?_) (fun hc5=>?_)
 .simp only[bd,ue,hc4,gz,bc]at hc5;refine ax ?_;refine de [.bq] ?_;refine aI (.agg [.bq]) (he:=aQ) ?_;refine ay ?_;refine bF (aH ?_ (aj (D.int .i64) ?_));all_goals
   have hq:iJ s=([],3):=by
    unfold iJ;rw[ak ae,ak (by rw[hok];simp),ak (by rw[hc4];simp),aw ae]
   rw[hq];first|done|rfl
 simp only[bK,ue,hc4,gz,aK]at hc5;refine ax ?_;refine cz (d:=iB (iK s)) ?_;refine aI (iB (iK s)) (he:=aQ) ?_;refine ay ?_;refine bF (aH ?_ (aj (D.int .i64) ?_));all_goals
  have hq:iJ s=(iK s,0):=by
   unfold iJ;rw[ak ae,ak (by rw[hok];simp),ak (by rw[hc4];simp),ak ae]
  rw[hq];first|done|rfl
def C495 (Y:Ctx):Prop:=zJ (bx Y 495)
noncomputable def Cn:aC:=cP 138
def w444 {Y:Ctx}(hm:(Y.at 0).b7)(h495:C495 Y)(h496:C496 Y)(s:au)  (hp0:s.length<=1048576):dh Y Cn (.bool (sV s)) [.str s]:=by
 show bJ _ _ _ [⟨_,_⟩,_,_,_] _;refine ar ?_;refine aB ?_;refine aq (hc:=h495 s hp0) ?_;refine aA ?_;refine eX (iB _) ?_;refine ax ?_;refine aI (iB (iJ s).1) (he:=aQ) ?_;refine aD ?_;refine cz (d:=iB (iJ s).1) ?_;refine c8 (hc:=fun hf=>h496 (iJ s).1 LP.1) ?_;refine aD ?_;exact bU rfl
def C444 (Y:Ctx):Prop:=zA (bx Y 444)
def V5 (T:List D->D->Prop):Prop:=∀(l:List Nd) (i:Int) (b:Bool),(jL l/\l.length<=15/\0<=i/\i<l.length)->T [.sl 5 (l.map Nd.D),.int .i64 i,.bool b] (.str (lB (mS l i) b))
def Wk (Y:Ctx)(u:Nat):Prop:=∀(l:List Nd) (i:Int) (b:Bool),(jL l/\l.length<=15/\0<=i/\i<l.length)->2*i.toNat+1<u->Y.pre 951 [.sl 5 (l.map Nd.D),.int .i64 i,.bool b]/\Y.val 951 [.sl 5 (l.map Nd.D),.int .i64 i,.bool b]=.str (lB (mS l i) b)
def zL (T:List D->D->Prop):Prop:=∀(l:List Nd) (i:Int),(jL l/\l.length<=15/\0<=i/\i<l.length)->T [.sl 5 (l.map Nd.D),.int .i64 i] (.str (mS l i))
def C811 (Y:Ctx):Prop:=zL (bx Y 811)
def Qp (Y:Ctx)(u:Nat):Prop:=∀(l:List Nd) (i:Int),(jL l/\l.length<=15/\0<=i/\i<l.length)->2*i.toNat<u->Y.pre 811 [.sl 5 (l.map Nd.D),.int .i64 i]/\Y.val 811 [.sl 5 (l.map Nd.D),.int .i64 i]=.str (mS l i)
noncomputable def JI:aC:=cP 282
def w1098 {Y:Ctx}(hm:(Y.at 0).b7)(h357:IJ Y)(n:Nd)   :dh Y JI (.bool (oP n)) [Nd.D n]:=by
 show bJ _ _ _ [⟨_,_⟩,_,_] _;refine ar ?_;refine WW ?_;refine aq (hc:=h357 _) ?_;refine sy ?_;refine bU ?_;simp only[oP]
def Ir (T:List D->D->Prop):Prop:=∀(n:Nd),T [Nd.D n] (.bool (oP n))
def Wc (Y:Ctx):Prop:=Ir (bx Y 1098)
noncomputable def OR:aC:=cP 243
def w950 {Y:Ctx}(hm:(Y.at 0).b7)     :dh Y OR (.sl 1 (rK.map D.str)) []:=by
 show bJ _ _ _ [_] _;refine ar ?_;refine ay ?_;refine df [(.str _),(.str _),(.str _)] ?_;refine ax ?_;refine eH 1 ?_;refine aA ?_;refine bF (?_);rfl
def NA (T:List D->D->Prop):Prop:=T [] (.sl 1 (rK.map D.str))
def XM (Y:Ctx):Prop:=NA (bx Y 950)
noncomputable def Pj:aC:=cP 283
def w1099 {Y:Ctx}(hm:(Y.at 0).b7)  (k:Int)  (hp0:0<=k/\k<3):dh Y Pj (.str (ua k)) [.int .i64 k]:=by
 show bJ _ _ _ [⟨_,_⟩,_] _;refine ar ?_;refine ay ?_;refine df [(.str _),(.str _),(.str _)] ?_;refine aA ?_;refine ie k.toNat ?_;refine SS (es:=[.str [111,115],.str [97,114,99,104],.str [97,98,105]]) (.str (ua k)) (hi:=fun _=>cY) (hv:=fun _=>RI hp0.1 hp0.2) ?_;refine ay ?_;exact c9 rfl
def Is (T:List D->D->Prop):Prop:=∀(k:Int),(0<=k/\k<3)->T [.int .i64 k] (.str (ua k))
def Qi (Y:Ctx):Prop:=Is (bx Y 1099)
noncomputable def JL:aC:=cP 284
def w1100 {Y:Ctx}(hm:(Y.at 0).b7)  (s:au)(b:Bool)  (hp0:s.length<=1000000000):dh Y JL (.str (lB s b)) [.str s,.bool b]:=by
 show bJ _ _ _ [⟨_,_⟩,⟨_,_⟩,_,_] _;refine ar ?_;refine aD ?_;refine cF (fun hc0=>?_) fun hc0=>?_
 .refine ay ?_;refine fF ?_;refine fF ?_;refine ay ?_;refine c9 ?_;simp[lB,hc0]
 refine aD ?_;refine c9 ?_;simp[lB,hc0]
def It (T:List D->D->Prop):Prop:=∀(s:au) (b:Bool),(s.length<=1000000000)->T [.str s,.bool b] (.str (lB s b))
def Wd (Y:Ctx):Prop:=It (bx Y 1100)
noncomputable def OQ:aC:=cP 244
def w951 {Y:Ctx}(hm:(Y.at 0).b7)  (l:List Nd)(i:Int)(b:Bool)(h811:Qp (Y.at 0) (2*i.toNat+1))(hp0:jL l/\l.length<=15/\0<=i/\i<l.length):dh Y OQ (.str (lB (mS l i) b)) [.sl 5 (l.map Nd.D),.int .i64 i,.bool b]:=by
 show bJ _ _ _ [⟨_,_⟩,⟨_,_⟩,⟨_,_⟩,_,_] _;have htl:=su hp0.1 hp0.2.1 hp0.2.2.1 hp0.2.2.2;refine ar ?_;refine aD ?_;refine cF (fun hc0=>?_) fun hc0=>?_
 .refine aB ?_;refine aq (hc:=h811 l i hp0 ae) ?_;refine fF ?_;refine fF ?_;refine ay ?_;refine c9 ?_;simp[lB,hc0]
 refine aB ?_;refine aq (hc:=h811 l i hp0 ae) ?_;refine ay ?_;refine c9 ?_;simp[lB,hc0]
noncomputable def OS:aC:=cP 214
def w811 {Y:Ctx}(hm:(Y.at 0).b7)(h950:XM Y)(l:List Nd)(i:Int)(h811:Qp (Y.at 0) (2*i.toNat))(h951:Wk (Y.at 0) (2*i.toNat))(hp0:jL l/\l.length<=15/\0<=i/\i<l.length):dh Y OS (.str (mS l i)) [.sl 5 (l.map Nd.D),.int .i64 i]:=by
 show bJ _ _ _ [⟨_,_⟩,⟨_,_⟩,_,_,_,_,_,_,_,_] _;obtain⟨hk,hl15,hi0,hi1⟩:=hp0;have htx:=L3 hk hi0 hi1;obtain⟨k1,k2,k3⟩:=hk i.toNat ae;refine ar ?_;refine aD ?_;first|refine bD (v:=(Nd.D _)) ?_|refine e7 (v:=(Nd.D _)) ?_
 refine lN ?_;refine wp_cond (fun hc0=>?_) (fun hc0=>?_)
 .simp only[aK]at hc0;have k1:=k1 hc0;have hkl:=pM l[i.toNat]!.key;refine aA ?_;refine aq (hc:=h950) ?_;refine ax ?_;refine bH l[i.toNat]!.key.toNat (hb:=fun _=>by show _<3;omega) ?_;refine bD (q:=D.str) (xs:=rK) (hi:=fun _=>by show _<3;omega) (i:=l[i.toNat]!.key.toNat) (k:=1) (o:=0) (v:=(.str (ua l[i.toNat]!.key))) (hv:=fun _=>aj D.str (sO k1.1 k1.2.1)) ?_;refine fF ?_;refine ax ?_;refine fF ?_;refine aB ?_;refine c9 ?_;rw[htx,aw hc0]
 simp only[bc]at hc0;have ka:=k2 hc0;have hla:=su hk hl15 (i:=l[i.toNat]!.a) ae ae;have hwa:=fun b=>nV (mS l l[i.toNat]!.a) b
 refine aB ?_;refine wp_cond (fun hc1=>?_) (fun hc1=>?_)
 .simp only[aK]at hc1;refine aB ?_;refine bH l[i.toNat]!.a.toNat ?_;first|refine bD (v:=(Nd.D _)) ?_|refine e7 (v:=(Nd.D _)) ?_
  refine cZ ?_;refine av (fun hc2=>?_) (fun hc2=>?_)
  .simp only[aK]at hc2;have k4:=(hk l[i.toNat]!.a.toNat ae).1 hc2;have hkl:=pM l[l[i.toNat]!.a.toNat]!.key;refine ax ?_;refine aq (hc:=h950) ?_;refine ax ?_;refine bH l[l[i.toNat]!.a.toNat]!.key.toNat (hb:=fun _=>by show _<3;omega) ?_;refine bD (q:=D.str) (xs:=rK) (hi:=fun _=>by show _<3;omega) (i:=l[l[i.toNat]!.a.toNat]!.key.toNat) (k:=1) (o:=0) (v:=(.str (ua l[l[i.toNat]!.a.toNat]!.key))) (hv:=fun _=>aj D.str (sO k4.1 k4.2.1)) ?_;refine fF ?_;refine ax ?_;refine fF ?_;refine aB ?_;refine c9 ?_;rw[htx,ak hc0,aw hc1,aw hc2]
  try simp only[dn]at hc2
  refine bL ?_;refine aq (hc:=h951 l l[i.toNat]!.a _ ⟨hk,hl15,ae,ae⟩ ae) ?_;have hwx:=hwa (!decide (l[l[i.toNat]!.a.toNat]!.op=2));refine fF ?_;refine aB ?_;refine c9 ?_;rw[htx,ak hc0,aw hc1,ak hc2]
 simp only[bc]at hc1;have kb:=k3 hc0 hc1;have hlb:=su hk hl15 (i:=l[i.toNat]!.b) ae ae;have hwb:=fun b=>nV (mS l l[i.toNat]!.b) b
 refine aB ?_;refine fM (fun hc3=>?_) fun hc3=>?_
 .refine aZ ?_;refine bH l[i.toNat]!.a.toNat ?_;refine ay ?_;refine aq (hc:=h951 l l[i.toNat]!.a _ ⟨hk,hl15,ae,ae⟩ ae) ?_;have hwx:=hwa (decide (l[l[i.toNat]!.a.toNat]!.op=4));refine fF ?_;refine aD ?_;refine bH l[i.toNat]!.b.toNat ?_;refine aZ ?_;refine bH l[i.toNat]!.b.toNat ?_;refine aB ?_;refine aq (hc:=h951 l l[i.toNat]!.b _ ⟨hk,hl15,ae,ae⟩ ae) ?_;have hwy:=hwb (decide (l[l[i.toNat]!.b.toNat]!.op=4) ||decide (l[l[i.toNat]!.b.toNat]!.op=3));refine fF ?_;refine aB ?_;refine c9 ?_;rw[htx,ak hc0,ak hc1,aw hc3]
 refine aD ?_;refine aq (hc:=h811 l l[i.toNat]!.a ⟨hk,hl15,ae,ae⟩ ae) ?_;refine fF ?_;refine aD ?_;refine bH l[i.toNat]!.b.toNat ?_;refine ay ?_;refine aq (hc:=h951 l l[i.toNat]!.b _ ⟨hk,hl15,ae,ae⟩ ae) ?_;have hwy:=hwb (decide (l[l[i.toNat]!.b.toNat]!.op=4));refine fF ?_;refine ay ?_;refine c9 ?_;rw[htx,ak hc0,ak hc1,ak hc3]
def Wa (Y:Ctx):Prop:=zL (bx Y 1036)
def Qh (Y:Ctx)(u:Nat):Prop:=∀(l:List Nd) (i:Int),(jL l/\l.length<=15/\0<=i/\i<l.length)->2*i.toNat<u->Y.pre 1036 [.sl 5 (l.map Nd.D),.int .i64 i]/\Y.val 1036 [.sl 5 (l.map Nd.D),.int .i64 i]=.str (mS l i)
noncomputable def JJ:aC:=cP 270
def w1036 {Y:Ctx}(hm:(Y.at 0).b7)(h1099:Qi Y)(h1100:Wd Y)(l:List Nd)(i:Int)(h1036:Qh (Y.at 0) (2*i.toNat))(hp0:jL l/\l.length<=15/\0<=i/\i<l.length):dh Y JJ (.str (mS l i)) [.sl 5 (l.map Nd.D),.int .i64 i]:=by
 show bJ _ _ _ [⟨_,_⟩,⟨_,_⟩,_,_,_,_,_,_,_,_,_,_] _;obtain⟨hk,hl15,hi0,hi1⟩:=hp0;have htx:=L3 hk hi0 hi1;obtain⟨k1,k2,k3⟩:=hk i.toNat ae;refine ar ?_;refine aD ?_;first|refine bD (v:=(Nd.D _)) ?_|refine e7 (v:=(Nd.D _)) ?_
 refine lN ?_;refine wp_cond (fun hc0=>?_) (fun hc0=>?_)
 .simp only[aK]at hc0;have k1:=k1 hc0;have hkl:=pM l[i.toNat]!.key;refine ay ?_;refine aq (hc:=h1099 l[i.toNat]!.key ⟨k1.1,k1.2.1⟩) ?_;refine fF ?_;refine ax ?_;refine fF ?_;refine aB ?_;refine c9 ?_;rw[htx,aw hc0]
 simp only[bc]at hc0;have ka:=k2 hc0;have hla:=su hk hl15 (i:=l[i.toNat]!.a) ae ae;have hwa:=fun b=>nV (mS l l[i.toNat]!.a) b
 refine aB ?_;refine wp_cond (fun hc1=>?_) (fun hc1=>?_)
 .simp only[aK]at hc1;refine aB ?_;refine bH l[i.toNat]!.a.toNat ?_;first|refine bD (v:=(Nd.D _)) ?_|refine e7 (v:=(Nd.D _)) ?_
  refine cZ ?_;refine av (fun hc2=>?_) (fun hc2=>?_)
  .simp only[aK]at hc2;have k4:=(hk l[i.toNat]!.a.toNat ae).1 hc2;have hkl:=pM l[l[i.toNat]!.a.toNat]!.key;refine aB ?_;refine aq (hc:=h1099 l[l[i.toNat]!.a.toNat]!.key ⟨k4.1,k4.2.1⟩) ?_;refine fF ?_;refine ax ?_;refine fF ?_;refine aB ?_;refine c9 ?_;rw[htx,ak hc0,aw hc1,aw hc2]
  try simp only[dn]at hc2
  refine aE ?_;refine aq (hc:=h1036 l l[i.toNat]!.a ⟨hk,hl15,ae,ae⟩ ae) ?_;refine ay ?_;refine aq (hc:=h1100 (mS l l[i.toNat]!.a) _ ae) ?_;have hwx:=hwa (!decide (l[l[i.toNat]!.a.toNat]!.op=2));refine fF ?_;refine aB ?_;refine c9 ?_;rw[htx,ak hc0,aw hc1,ak hc2]
 simp only[bc]at hc1;have kb:=k3 hc0 hc1;have hlb:=su hk hl15 (i:=l[i.toNat]!.b) ae ae;have hwb:=fun b=>nV (mS l l[i.toNat]!.b) b
 refine aB ?_;refine fM (fun hc3=>?_) fun hc3=>?_
 .refine aB ?_;refine bH l[i.toNat]!.a.toNat ?_;refine aE ?_;refine bH l[i.toNat]!.b.toNat ?_;refine cZ ?_;refine aq (hc:=h1036 l l[i.toNat]!.a ⟨hk,hl15,ae,ae⟩ ae) ?_;refine ax ?_;refine aq (hc:=h1100 (mS l l[i.toNat]!.a) _ ae) ?_;have hwx:=hwa (decide (l[l[i.toNat]!.a.toNat]!.op=4));refine fF ?_;refine ay ?_;refine aq (hc:=h1036 l l[i.toNat]!.b ⟨hk,hl15,ae,ae⟩ ae) ?_;refine aD ?_;refine aq (hc:=h1100 (mS l l[i.toNat]!.b) _ ae) ?_;have hwy:=hwb (decide (l[l[i.toNat]!.b.toNat]!.op=4) ||decide (l[l[i.toNat]!.b.toNat]!.op=3));refine fF ?_;refine aB ?_;refine c9 ?_;rw[htx,ak hc0,ak hc1,aw hc3]
 refine aD ?_;refine aq (hc:=h1036 l l[i.toNat]!.a ⟨hk,hl15,ae,ae⟩ ae) ?_;refine fF ?_;refine ay ?_;refine aq (hc:=h1036 l l[i.toNat]!.b ⟨hk,hl15,ae,ae⟩ ae) ?_;refine ay ?_;refine bH l[i.toNat]!.b.toNat ?_;refine ay ?_;refine aq (hc:=h1100 (mS l l[i.toNat]!.b) _ ae) ?_;have hwy:=hwb (decide (l[l[i.toNat]!.b.toNat]!.op=4));refine fF ?_;refine ay ?_;refine c9 ?_;rw[htx,ak hc0,ak hc1,ak hc3]
noncomputable def JK:aC:=cP 269
def w1035 (h1098:Wc Y)(l:List Nd)  (hp0:l.length<=15):dh Y JK (.bool (oW l)) [.sl 5 (l.map Nd.D)]:=by
 show bJ _ _ _ [⟨_,_⟩,_,_,_,_,_,_,_,_,_,_] _;refine ar ?_;refine cZ ?_;refine ba hm (ι:=(Nat×List Int)) (fun p=>[⟨true,.sl 5 (l.map Nd.D)⟩,.un,⟨true,.int .i64 (p.1:Nat)⟩,.un,⟨true,.own 0 1 0 p.2.length⟩,.un,.un,.un,.un,.un,.un]) (fun p=>[(0,.buf 1 (p.2.map (D.int .i64)))]) 3 (fun p=>p.1<=l.length/\p.2.length<=p.1/\nr l 0 []=nr (l.drop p.1) p.1 p.2) (fun p=>l.length-p.1) (0,[]) ⟨aJ,aJ,aJ⟩ (a7.to [] ah ah (by repeat(first|exact dp.nil|refine dp.un ?_|refine dp.eq ah ?_|refine dp.nl ah ah ?_|refine dp.ni (Or.inr ⟨_,_,_,rfl⟩) ?_)) (by repeat(first|exact bo.nil|refine bo.mt ah ah ah ah ?_))) ?_;rintro⟨i,o⟩ ⟨hi,ho,hr⟩;dsimp only at hi ho hr⊢;refine aE ?_;intro u0;refine ax ?_;refine cF (fun hc0=>?_) fun hc0=>?_
 .refine aD ?_;first|refine bD (v:=(Nd.D _)) ?_|refine e7 (v:=(Nd.D _)) ?_
  refine ax ?_;intro u1;refine aA ?_;refine aI (Nd.D l[i]!) (he:=aQ) ?_;refine BX ?_;refine aq (hc:=h1098 _) ?_;refine ax ?_;refine fM (fun hc1=>?_) fun hc1=>?_
  .refine aE ?_;refine df [(.int _ _)] ?_;refine xS ((o++[(i:Int)]).map (D.int .i64)) (n:=(o++[(i:Int)]).length) (ha:=by simp<;>omega) (he:=sA.all (es:=[.int .i64 (i:Nat)]) ah rfl) (hz:=by rw[bY,ed aJ,List.map_append];rfl) (hn:=by simp<;>omega) (hb:=by simp<;>omega) ?_;refine cZ ?_;have hs:js l[i]! i o=some (o++[(i:Int)]):=by rw[yW,aw hc1]
   exact⟨(i+1,(o++[(i:Int)])),⟨dE,cY,by rw[hr];exact jn ae hs⟩,dE,(a7.to [(31,0)] ah ah eh (by refine bo.nl 31 ah ah ah eK ?_;exact bo.nil))⟩
  refine BY ?_;refine ie (o.length-1) ?_;refine pV (q:=D.int .i64) (xs:=o) (v:=(.int .i64 o[o.length-1]!)) (hv:=fun _=>by rw[bQ];rfl) ?_;refine cZ ?_;refine wp_cond (fun hc2=>?_) (fun hc2=>?_)
  .replace hc2:QP l[i]! o=true:=hc2;have hk1:1<=o.length:=by have hq:=hc2;simp only[QP,bB,aK]at hq;omega
   refine aB ?_;refine vA (o.length-1) ?_;refine aD ?_;refine df [(.int _ _)] ?_;refine xS ((o.take (o.length-1)++[(i:Int)]).map (D.int .i64)) (n:=(o.take (o.length-1)++[(i:Int)]).length) (ha:=by simp<;>omega) (he:=sA.all (es:=[.int .i64 (i:Nat)]) ah rfl) (hz:=by rw[bY,<-List.map_take,List.map_append];rfl) (hn:=by simp<;>omega) (hb:=by simp<;>omega) ?_;refine cZ ?_;have hs:js l[i]! i o=some (o.take (o.length-1)++[(i:Int)]):=by rw[yW,ak (by rw[hc1];simp),aw hc2]
   exact⟨(i+1,(o.take (o.length-1)++[(i:Int)])),⟨dE,cY,by rw[hr];exact jn ae hs⟩,dE,(a7.to [(62,0)] ah ah eh (by refine bo.nl 62 ah ah ah eK ?_;exact bo.nil))⟩
  replace hc2:QP l[i]! o=false:=hc2;refine TZ ?_;refine ie (o.length-2) ?_;refine pV (q:=D.int .i64) (xs:=o) (v:=(.int .i64 o[o.length-2]!)) (hv:=fun _=>by rw[bQ];rfl) ?_;refine bL ?_;refine ie (o.length-1) ?_;refine pV (q:=D.int .i64) (xs:=o) (v:=(.int .i64 o[o.length-1]!)) (hv:=fun _=>by rw[bQ];rfl) ?_;refine aB ?_;refine wp_cond (fun hc3=>?_) (fun hc3=>?_)
  .replace hc3:QQ l[i]! o=true:=hc3;have hk1:2<=o.length:=by have hq:=hc3;simp only[QQ,bB,aK]at hq;omega
   refine aB ?_;refine vA (o.length-2) ?_;refine aD ?_;refine df [(.int _ _)] ?_;refine xS ((o.take (o.length-2)++[(i:Int)]).map (D.int .i64)) (n:=(o.take (o.length-2)++[(i:Int)]).length) (ha:=by simp<;>omega) (he:=sA.all (es:=[.int .i64 (i:Nat)]) ah rfl) (hz:=by rw[bY,<-List.map_take,List.map_append];rfl) (hn:=by simp<;>omega) (hb:=by simp<;>omega) ?_;refine cZ ?_;have hs:js l[i]! i o=some (o.take (o.length-2)++[(i:Int)]):=by rw[yW,ak (by rw[hc1];simp),ak (by rw[hc2];simp),aw hc3]
   exact⟨(i+1,(o.take (o.length-2)++[(i:Int)])),⟨dE,cY,by rw[hr];exact jn ae hs⟩,dE,(a7.to [(98,0)] ah ah eh (by refine bo.nl 98 ah ah ah eK ?_;exact bo.nil))⟩
  replace hc3:QQ l[i]! o=false:=hc3;refine aZ ?_;refine bU ?_;symm;refine H5 ?_;rw[hr];refine gJ ae ?_;rw[yW,ak (by rw[hc1];simp),ak (by rw[hc2];simp),ak (by rw[hc3];simp)]
 refine aE ?_;intro u2;refine ay ?_;refine ik ?_;refine aE ?_;refine bU ?_;simp only[oW,hr,Dk (show l.length<=i by omega)];rw[gO.2 (show((l.length:Nat):Int)=0↔l.length=0 by omega),gO.2 (show((o.length:Nat):Int)=1↔o.length=1 by omega)]
def Iq (T:List D->D->Prop):Prop:=∀(l:List Nd),(l.length<=15)->T [.sl 5 (l.map Nd.D)] (.bool (oW l))
def V9 (Y:Ctx):Prop:=Iq (bx Y 1035)
noncomputable def OT:aC:=cP 213
def w810 (h349:II Y)(l:List Nd)   :dh Y OT (.bool (decide (l.length<=15)&&oW l)) [.sl 5 (l.map Nd.D)]:=by
 show bJ _ _ _ [⟨_,_⟩,_,_,_,_,_,_,_,_,_,_,_,_,_,_,_,_,_] _;refine ar ?_;refine aD ?_;intro u0;refine ax ?_;refine av (fun hc0=>?_) (fun hc0=>?_)
 .try simp only[dn]at hc0
  refine aE ?_;refine bU ?_;rw[show decide (l.length<=15)=false from cG ae];rfl
 simp only[bc]at hc0;have h15:l.length<=15:=ae;have hd15:decide (l.length<=15)=true:=b9 h15;refine aB ?_;intro u1;refine WQ l.length ?_;refine aD ?_;intro u2;refine ax ?_;rw[show List.replicate l.length (D.int .i64 0)=(List.replicate l.length (0:Int)).map (D.int .i64)by simp];refine ba hm (ι:=(Nat×List Int×List Int)) (fun p=>[⟨true,.sl 5 (l.map Nd.D)⟩,.un,.un,⟨true,.int .i64 (p.1:Nat)⟩,⟨true,.int .i64 (l.length:Nat)⟩,.un,⟨true,.sl 5 (l.map Nd.D)⟩,⟨true,.own 0 1 0 l.length⟩,.un,.un,.un,.un,.un,.un,.un,.un,.un,.un]) (fun p=>[(0,.buf 1 (p.2.1.map (D.int .i64)))]) 11 (fun p=>p.1<=l.length/\p.2.1.length=l.length/\FI p.2.1 (p.1:Nat) p.2.2.reverse/\nr l 0 []=nr (l.drop p.1) p.1 p.2.2) (fun p=>l.length-p.1) (0,List.replicate l.length 0,[]) ⟨aJ,aJ,rfl,aJ⟩ (a7.to [(6,0)] ah ah eh (by refine bo.nl 6 ah ah ah eK ?_;exact bo.nil)) ?_;rintro⟨i,S,o⟩ ⟨hi,hS,hc,hr⟩;dsimp only at hi hS hc hr⊢;refine ay ?_;refine cF (fun hc1=>?_) fun hc1=>?_
 .refine aE ?_;first|refine bD (v:=(Nd.D _)) ?_|refine e7 (v:=(Nd.D _)) ?_
  refine ax ?_;refine aI (Nd.D l[i]!) (he:=aQ) ?_;refine aE ?_;refine ie i ?_;refine r5 ((S.set i (i:Int)).map (D.int .i64)) (hi:=cY) (he:=yV ae _) ?_;have hch:FI (S.set i (i:Int)) (i:Nat) o.reverse:=Eg (Int.le_refl _) hc;have hSl:(S.set i (i:Int)).length=l.length:=by simp[hS]
  refine bL ?_;obtain⟨t1,t2⟩:=uV hch;obtain⟨u1,u2⟩:=Eh hch;refine ay ?_;refine wp_cond (fun hc2=>?_) (fun hc2=>?_)
  .simp only[aK]at hc2;have hq1:=hc2;refine lN ?_;refine aq (hc:=h349 _) ?_;refine lN ?_;refine av (fun hc3=>?_) (fun hc3=>?_)
   .have hlf:oP l[i]! =false:=by rw[Lc hq1,hc3];rfl
    refine bL ?_;refine bU ?_;rw[hd15];symm;refine kB ?_;rw[hr];refine gJ ae ?_;exact Fl hq1 hlf
   have hlf:oP l[i]! =true:=by rw[Lc hq1,hc3];rfl
   refine cZ ?_;have hs:js l[i]! i o=some (o++[(i:Int)]):=by exact Kl hlf
   have hp:FI (S.set i (i:Int)) ((i+1:Nat):Int) ((o++[(i:Int)])).reverse:=by
    rw[List.reverse_append,List.reverse_singleton,List.singleton_append];exact uU ae ae (Int.le_refl _) hc
   exact⟨(i+1,(S.set i (i:Int)),(o++[(i:Int)])),⟨dE,by simp[hS],hp,by rw[hr];exact jn ae hs⟩,dE,(a7.to [(0,0)] ah ah eh (by refine eM ?_;exact bo.nil))⟩
  simp only[bc]at hc2;have hq1:=hc2;refine aB ?_;refine wp_cond (fun hc4=>?_) (fun hc4=>?_)
  .simp only[aK]at hc4;have hq2:=hc4;refine BY ?_;refine av (fun hc5=>?_) (fun hc5=>?_)
   .try simp only[dn]at hc5
    refine bL ?_;refine bU ?_;rw[hd15];symm;refine kB ?_;rw[hr];refine gJ ae ?_;rw[xh hch hq2,ak];rintro⟨⟨g1,g2,g3⟩,g4⟩;omega
   simp only[dd,bc,bK,aK]at hc5;refine aZ ?_;refine ie (i-1) ?_;refine pV (q:=D.int .i64) (xs:=(S.set i (i:Int))) (v:=(.int .i64 (S.set i (i:Int))[i-1]!)) (hi:=fun _=>ae) (hv:=fun _=>by rw[bQ];rfl) ?_;refine ie i ?_;refine r5 (((S.set i (i:Int)).set i (S.set i (i:Int))[i-1]!).map (D.int .i64)) (hi:=cY) (he:=yV ae _) ?_;refine gu ?_;refine wp_cond (fun hc9=>?_) (fun hc9=>?_)
   .have hb:kN l[i]! =false:=by simp only[cM,bd,bc]at hc9;simp only[kN,dy,bc];exact hc9
    refine aD ?_;refine bU ?_;rw[hd15];symm;refine kB ?_;rw[hr];refine gJ ae ?_;rw[xh hch hq2,ak];rintro⟨⟨g1,g2,g3⟩,g4⟩;rw[hb]at g4;cases g4
   have hb:kN l[i]! =true:=by simp only[dd,bK,aK]at hc9;simp only[kN,hc9.1,hc9.2,decide_true,Bool.and_self]
   refine aZ ?_;have hs:js l[i]! i o=some (o.take (o.length-1)++[(i:Int)]):=by rw[xh hch hq2,aw ⟨⟨ae,ae,ae⟩,hb⟩]
   have hp:FI ((S.set i (i:Int)).set i (S.set i (i:Int))[i-1]!) ((i+1:Nat):Int) ((o.take (o.length-1)++[(i:Int)])).reverse:=by
    rw[List.reverse_append,List.reverse_singleton,List.singleton_append];obtain⟨y1,y2,y3,y4⟩:=t2 ae;exact uU ae y2 ae y4
   exact⟨(i+1,((S.set i (i:Int)).set i (S.set i (i:Int))[i-1]!),(o.take (o.length-1)++[(i:Int)])),⟨dE,by simp[hS],hp,by rw[hr];exact jn ae hs⟩,dE,(a7.to [(0,0)] ah ah eh (by refine eM ?_;exact bo.nil))⟩
  simp only[bc]at hc4;have hq2:=hc4;refine aE ?_;refine cF (fun hc6=>?_) fun hc6=>?_
  .refine aA ?_;refine fM (fun hc7=>?_) fun hc7=>?_
   .refine BW ?_;refine ie (i-1) ?_;refine pV (q:=D.int .i64) (xs:=(S.set i (i:Int))) (v:=(.int .i64 (S.set i (i:Int))[i-1]!)) (hi:=fun h=>by simp at h;omega) (hv:=fun _=>by rw[bQ];rfl) ?_;refine bL ?_;refine ie (i-1) ?_;refine pV (q:=D.int .i64) (xs:=(S.set i (i:Int))) (v:=(.int .i64 (S.set i (i:Int))[i-1]!)) (hi:=fun h=>by simp at h;omega) (hv:=fun _=>by rw[bQ];rfl) ?_;refine aB ?_;refine av (fun hc8=>?_) (fun hc8=>?_)
    .have hq34:l[i]!.op=3\/l[i]!.op=4:=ae;simp only[cM,aK,bd,bc]at hc8;refine bL ?_;refine bU ?_;rw[hd15];symm;refine kB ?_;rw[hr];refine gJ ae ?_;rw[nT hch hq34,ak];rintro⟨⟨g1,g2,g3,g4⟩,g5⟩;omega
    simp only[dd,bc,bK,aK]at hc8;have hq34:l[i]!.op=3\/l[i]!.op=4:=ae;have hk2:=u1.2 ⟨ae,ae⟩;obtain⟨w1,w2,w3,w4⟩:=u2 hk2;obtain⟨y1,y2,y3,y4⟩:=t2 ae;refine aZ ?_;refine ie l[i]!.a.toNat ?_;refine pV (q:=D.int .i64) (xs:=(S.set i (i:Int))) (v:=(.int .i64 (S.set i (i:Int))[l[i]!.a.toNat]!)) (hi:=fun _=>ae) (hv:=fun _=>by rw[bQ];rfl) ?_;refine ie i ?_;refine r5 (((S.set i (i:Int)).set i (S.set i (i:Int))[l[i]!.a.toNat]!).map (D.int .i64)) (hi:=cY) (he:=yV ae _) ?_;refine gu ?_;refine wp_cond (fun hc9=>?_) (fun hc9=>?_)
    .have hb:kN l[i]! =false:=by simp only[cM,bd,bc]at hc9;simp only[kN,dy,bc];exact hc9
     refine aD ?_;refine bU ?_;rw[hd15];symm;refine kB ?_;rw[hr];refine gJ ae ?_;rw[nT hch hq34,ak];rintro⟨⟨g1,g2,g3,g4⟩,g5⟩;rw[hb]at g5;cases g5
    have hb:kN l[i]! =true:=by simp only[dd,bK,aK]at hc9;simp only[kN,hc9.1,hc9.2,decide_true,Bool.and_self]
    refine aZ ?_;have hs:js l[i]! i o=some (o.take (o.length-2)++[(i:Int)]):=by rw[nT hch hq34,aw ⟨⟨ae,ae,ae,ae⟩,hb⟩]
    have hp:FI ((S.set i (i:Int)).set i (S.set i (i:Int))[l[i]!.a.toNat]!) ((i+1:Nat):Int) ((o.take (o.length-2)++[(i:Int)])).reverse:=by
     rw[List.reverse_append,List.reverse_singleton,List.singleton_append];rw[show l[i]!.a=(S.set i (i:Int))[i-1]! -1 by omega];exact uU ae w2 ae w4
    exact⟨(i+1,((S.set i (i:Int)).set i (S.set i (i:Int))[l[i]!.a.toNat]!),(o.take (o.length-2)++[(i:Int)])),⟨dE,by simp[hS],hp,by rw[hr];exact jn ae hs⟩,dE,(a7.to [(0,0)] ah ah eh (by refine eM ?_;exact bo.nil))⟩
   refine aZ ?_;refine bU ?_;exfalso;omega
  refine aB ?_;refine fM (fun hc7=>?_) fun hc7=>?_
  .refine BW ?_;refine ie (i-1) ?_;refine pV (q:=D.int .i64) (xs:=(S.set i (i:Int))) (v:=(.int .i64 (S.set i (i:Int))[i-1]!)) (hi:=fun h=>by simp at h;omega) (hv:=fun _=>by rw[bQ];rfl) ?_;refine bL ?_;refine ie (i-1) ?_;refine pV (q:=D.int .i64) (xs:=(S.set i (i:Int))) (v:=(.int .i64 (S.set i (i:Int))[i-1]!)) (hi:=fun h=>by simp at h;omega) (hv:=fun _=>by rw[bQ];rfl) ?_;refine aB ?_;refine av (fun hc8=>?_) (fun hc8=>?_)
   .have hq34:l[i]!.op=3\/l[i]!.op=4:=ae;simp only[cM,aK,bd,bc]at hc8;refine bL ?_;refine bU ?_;rw[hd15];symm;refine kB ?_;rw[hr];refine gJ ae ?_;rw[nT hch hq34,ak];rintro⟨⟨g1,g2,g3,g4⟩,g5⟩;omega
   simp only[dd,bc,bK,aK]at hc8;have hq34:l[i]!.op=3\/l[i]!.op=4:=ae;have hk2:=u1.2 ⟨ae,ae⟩;obtain⟨w1,w2,w3,w4⟩:=u2 hk2;obtain⟨y1,y2,y3,y4⟩:=t2 ae;refine aZ ?_;refine ie l[i]!.a.toNat ?_;refine pV (q:=D.int .i64) (xs:=(S.set i (i:Int))) (v:=(.int .i64 (S.set i (i:Int))[l[i]!.a.toNat]!)) (hi:=fun _=>ae) (hv:=fun _=>by rw[bQ];rfl) ?_;refine ie i ?_;refine r5 (((S.set i (i:Int)).set i (S.set i (i:Int))[l[i]!.a.toNat]!).map (D.int .i64)) (hi:=cY) (he:=yV ae _) ?_;refine gu ?_;refine wp_cond (fun hc9=>?_) (fun hc9=>?_)
   .have hb:kN l[i]! =false:=by simp only[cM,bd,bc]at hc9;simp only[kN,dy,bc];exact hc9
    refine aD ?_;refine bU ?_;rw[hd15];symm;refine kB ?_;rw[hr];refine gJ ae ?_;rw[nT hch hq34,ak];rintro⟨⟨g1,g2,g3,g4⟩,g5⟩;rw[hb]at g5;cases g5
   have hb:kN l[i]! =true:=by simp only[dd,bK,aK]at hc9;simp only[kN,hc9.1,hc9.2,decide_true,Bool.and_self]
   refine aZ ?_;have hs:js l[i]! i o=some (o.take (o.length-2)++[(i:Int)]):=by rw[nT hch hq34,aw ⟨⟨ae,ae,ae,ae⟩,hb⟩]
   have hp:FI ((S.set i (i:Int)).set i (S.set i (i:Int))[l[i]!.a.toNat]!) ((i+1:Nat):Int) ((o.take (o.length-2)++[(i:Int)])).reverse:=by
    rw[List.reverse_append,List.reverse_singleton,List.singleton_append];rw[show l[i]!.a=(S.set i (i:Int))[i-1]! -1 by omega];exact uU ae w2 ae w4
   exact⟨(i+1,((S.set i (i:Int)).set i (S.set i (i:Int))[l[i]!.a.toNat]!),(o.take (o.length-2)++[(i:Int)])),⟨dE,by simp[hS],hp,by rw[hr];exact jn ae hs⟩,dE,(a7.to [(0,0)] ah ah eh (by refine eM ?_;exact bo.nil))⟩
  refine aZ ?_;refine bU ?_;rw[hd15];symm;refine kB ?_;rw[hr];refine gJ ae ?_;exact HV hq1 hq2 ae ae
 refine ay ?_;obtain rfl:i=l.length:=ae;obtain⟨t1,t2⟩:=uV hc;obtain⟨u1,u2⟩:=Eh hc;refine ax ?_;intro u3;refine aB ?_;refine ik ?_;refine aA ?_;refine ie (l.length-1) (hj:=fun h=>by have hz:¬l.length=0:=(fun hz=>by simp[hz]at h);omega) (hb:=fun h=>by have hz:¬l.length=0:=(fun hz=>by simp[hz]at h);omega) ?_;refine pV (q:=D.int .i64) (xs:=S) (v:=(.int .i64 S[l.length-1]!)) (hi:=fun h=>by have hz:¬l.length=0:=(fun hz=>by simp[hz]at h);omega) (hv:=fun _=>by rw[bQ];rfl) ?_;refine aE ?_;refine bU ?_;rw[hd15];simp only[oW,hr,Dk (aL l.length),gz];exact(Tz t1 t2 u1).symm
def Nq (T:List D->D->Prop):Prop:=∀(l:List Nd),T [.sl 5 (l.map Nd.D)] (.bool (decide (l.length<=15)&&oW l))
def C810 (Y:Ctx):Prop:=Nq (bx Y 810)
noncomputable def Jt:aC:=cP 181
def w662 {Y:Ctx}(hm:(Y.at 0).b7)(h811:C811 Y)(l:List Nd)  (hp0:jL l/\l.length<=15):dh Y Jt (.str (qE l)) [.sl 5 (l.map Nd.D)]:=by
 show bJ _ _ _ [⟨_,_⟩,_,_] _;refine ar ?_;refine aD ?_;intro u0;refine ax ?_;refine cF (fun hc0=>?_) fun hc0=>?_
 .refine aE ?_;refine c9 ?_;simp only[qE];rw[aw ae]
 refine aE ?_;intro u1;refine aA ?_;refine aq (hc:=h811 l ((l.length:Int) -1) ⟨hp0.1,hp0.2,ae,ae⟩) ?_;refine ay ?_;refine c9 ?_;simp only[qE];rw[ak ae]
def zE (T:List D->D->Prop):Prop:=∀(l:List Nd),(jL l/\l.length<=15)->T [.sl 5 (l.map Nd.D)] (.str (qE l))
def Xy (Y:Ctx):Prop:=zE (bx Y 662)
noncomputable def Hq:aC:=cP 248
def w954 {Y:Ctx}(hm:(Y.at 0).b7)(h1036:Wa Y)(l:List Nd)  (hp0:jL l/\l.length<=15):dh Y Hq (.str (qE l)) [.sl 5 (l.map Nd.D)]:=by
 show bJ _ _ _ [⟨_,_⟩,_,_] _;refine ar ?_;refine aD ?_;intro u0;refine ax ?_;refine cF (fun hc0=>?_) fun hc0=>?_
 .refine aE ?_;refine c9 ?_;simp only[qE];rw[aw ae]
 refine aE ?_;intro u1;refine aA ?_;refine aq (hc:=h1036 l ((l.length:Int) -1) ⟨hp0.1,hp0.2,ae,ae⟩) ?_;refine ay ?_;refine c9 ?_;simp only[qE];rw[ak ae]
def XP (Y:Ctx):Prop:=zE (bx Y 954)
noncomputable def RV:aC:=cP 180
def w661 {Y:Ctx}(hm:(Y.at 0).b7)(h662:Xy Y)(h810:C810 Y)(m:Wq)   :dh Y RV (.bool (AL m)) [lE m]:=by
 show bJ _ _ _ [⟨_,_⟩,_,_] _;refine ar ?_;refine aD ?_;refine aq (hc:=h810 m) ?_;refine ay ?_;refine c8 (hc:=fun hf=>h662 m (by simp only[bB,beq_iff_eq,aK,cr]at hf;exact⟨qC hf.2,ae⟩)) ?_;refine ik ?_;refine aE ?_;refine bU ?_;simp only[AL];congr 1;exact gO.2 ae
def zD (T:List D->D->Prop):Prop:=∀(m:Wq),T [lE m] (.bool (AL m))
def Xx (Y:Ctx):Prop:=zD (bx Y 661)
noncomputable def Ph:aC:=cP 247
def w953 {Y:Ctx}(hm:(Y.at 0).b7)(h954:XP Y)(h1035:V9 Y)(m:Wq)   :dh Y Ph (.bool (AL m)) [lE m]:=by
 show bJ _ _ _ [⟨_,_⟩,_,_] _;refine ar ?_;refine aZ ?_;intro u0;refine aB ?_;refine c8 (hc:=fun hf=>h1035 m (by simp at hf;omega)) ?_;refine aB ?_;refine c8 (hc:=fun hf=>h954 m (by simp only[bB,beq_iff_eq,aK,cr]at hf;exact⟨qC hf.2,ae⟩)) ?_;refine ik ?_;refine aE ?_;refine bU ?_;simp only[AL];rw[gO.2 (show((m.length:Nat):Int)<=15↔m.length<=15 by omega)];congr 1;exact gO.2 ae
def XO (Y:Ctx):Prop:=zD (bx Y 953)
noncomputable def Js:aC:=cP 140
def w446 {Y:Ctx}(hm:(Y.at 0).b7)(h661:Xx Y)(h662:Xy Y)(m:Wq)   :dh Y Js (.str (WL m)) [lE m]:=by
 show bJ _ _ _ [⟨_,_⟩,_,_,_] _;refine ar ?_;refine aD ?_;refine aq (hc:=h661 m) ?_;refine ax ?_;refine av (fun hc0=>?_) (fun hc0=>?_)
 .simp only[bd]at hc0;refine aE ?_;refine c9 ?_;simp[WL,hc0]
 simp only[bK]at hc0;have hfw:(decide (m.length<=15)&&oW m)=true:=by simp only[AL,bB]at hc0;simp only[bB];exact hc0.1
 simp only[bB,aK]at hfw;refine aB ?_;refine aq (hc:=h662 m ⟨qC hfw.2,hfw.1⟩) ?_;refine ay ?_;refine c9 ?_;simp[WL,hc0]
def zn (T:List D->D->Prop):Prop:=∀(m:Wq),T [lE m] (.str (WL m))
def C446 (Y:Ctx):Prop:=zn (bx Y 446)
noncomputable def Hp:aC:=cP 218
def w814 {Y:Ctx}(hm:(Y.at 0).b7)(h953:XO Y)(h954:XP Y)(m:Wq)   :dh Y Hp (.str (WL m)) [lE m]:=by
 show bJ _ _ _ [⟨_,_⟩,_,_,_] _;refine ar ?_;refine aD ?_;refine aq (hc:=h953 m) ?_;refine ax ?_;refine av (fun hc0=>?_) (fun hc0=>?_)
 .simp only[bd]at hc0;refine aE ?_;refine c9 ?_;simp[WL,hc0]
 simp only[bK]at hc0;have hfw:(decide (m.length<=15)&&oW m)=true:=by simp only[AL,bB]at hc0;simp only[bB];exact hc0.1
 simp only[bB,aK]at hfw;refine aB ?_;refine aq (hc:=h954 m ⟨qC hfw.2,hfw.1⟩) ?_;refine ay ?_;refine c9 ?_;simp[WL,hc0]
def C814 (Y:Ctx):Prop:=zn (bx Y 814)
noncomputable def yp:aC:=cP 239
def w946 {Y:Ctx}(hm:(Y.at 0).b7)  (w:List au)(es:List D)(b:Bool)   :dh Y yp (.str (bz w)) [.ref 3 [iO w (.sl 5 es) b] 0 0]:=by
 show bJ _ _ _ [⟨_,_⟩,_,_] _;refine ar ?_;refine aZ ?_;refine e7 (v:=.sl 1 (w.map D.str)) ?_;refine aA ?_;intro u0;refine ax ?_;refine cF (fun hc0=>?_) fun hc0=>?_
 .refine aE ?_;refine c9 ?_;have:w=[]:=qH.1 ae;subst this;rfl
 refine aE ?_;refine e7 (v:=.sl 1 (w.map D.str)) ?_;refine bH 0 ?_;refine aB ?_;refine c9 ?_
 match w,hc0 with
 |[],h=>exact absurd rfl h
 |x::r,_=>rfl
def Nz (T:List D->D->Prop):Prop:=∀(w:List au) (es:List D) (b:Bool),T [.ref 3 [iO w (.sl 5 es) b] 0 0] (.str (bz w))
def XL (Y:Ctx):Prop:=Nz (bx Y 946)
noncomputable def lY:aC:=cP 240
def w947 {Y:Ctx}(hm:(Y.at 2).b7)(w:List au)(nd:List Nd)(b:Bool)(h946:XL (Y.at 2))  :bJ (Y.at 2) lY.body (jQ lY (KE 3 iO nd (fun o=>o=⟨0,bX w,nd,dQ w b⟩) (fun _=>.str (bz w))):Ex->List cg->St->Prop) (fD lY [.ptr 0 3 0 0]) ⟨2,[(0,.buf 3 [iO w (.own 1 5 0 nd.length) b]),(1,.buf 5 (nd.map Nd.D))]⟩:=by
 show bJ _ _ _ [⟨true,.ptr 0 3 0 0⟩,.un,.un,.un] ⟨2,[(0,.buf 3 [iO w (.own 1 5 0 nd.length) b]),(1,.buf 5 (nd.map Nd.D))]⟩;refine ar ?_;refine aB ?_;refine aq (hc:=h946 w _ b) (hp:=fun _=>R6 ah ah) ?_;refine aZ ?_;refine cF (fun hc0=>?_) fun hc0=>?_
 .refine aE ?_;refine aI (iO w (.own 1 5 0 nd.length) true) (he:=aQ) ?_;refine aD ?_;refine bO trivial eg (bR ah (aj D.str ?_)) ah ⟨⟨0,bX w,nd,dQ w b⟩,rfl,rfl,by simp only[bX,dQ,hc0,aW];rfl,rfl⟩;exact hc0.symm
 refine aD ?_;refine aT (v:=.sl 1 (w.map D.str)) ?_;refine rZ 1 (hb:=fun _=>by have:=Tv hc0;omega) ?_;refine ax ?_;refine aI (iO (w.drop 1) (.own 1 5 0 nd.length) b) (he:=aQ) ?_;refine aD ?_;refine bO trivial eg (bR ah (aj D.str ?_)) ah ⟨⟨0,bX w,nd,dQ w b⟩,rfl,rfl,by simp only[bX,dQ,hc0,aX];rfl,rfl⟩;rfl
def NI (Y:Ctx):Prop:=∀(w:List au) (nd:List Nd) (b:Bool),Um Y 3 iO 947 [] w nd b (fun o=>o=⟨0,bX w,nd,dQ w b⟩) (fun _=>.str (bz w))
noncomputable def m6:aC:=cP 241
def w948 {Y:Ctx}(hm:(Y.at 2).b7)(x:Nd)(w:List au)(nd:List Nd)(b:Bool)  (hp0:nd.length<=2000):bJ (Y.at 2) m6.body (jQ m6 (yf 3 iO (fun o=>o=⟨(nd.length:Nat),w,nd++[x],b⟩) Va):Ex->List cg->St->Prop) (fD m6 [.ptr 0 3 0 0,Nd.D x]) ⟨2,[(0,.buf 3 [iO w (.own 1 5 0 nd.length) b]),(1,.buf 5 (nd.map Nd.D))]⟩:=by
 show bJ _ _ _ [⟨true,.ptr 0 3 0 0⟩,⟨true,Nd.D x⟩,.un,.un] ⟨2,[(0,.buf 3 [iO w (.own 1 5 0 nd.length) b]),(1,.buf 5 (nd.map Nd.D))]⟩;refine ar ?_;refine bL ?_;refine aT (v:=.own 1 5 0 nd.length) ?_;refine cz (d:=Nd.D x) ?_;refine df [Nd.D x] ?_;refine gL (q:=Nd.D) (xs:=nd) (e:=x) ?_;refine ax ?_;refine aI (iO w (.own 11 5 0 (nd++[x]).length) b) (he:=aQ) ?_;refine aE ?_;refine aT (v:=.own 11 5 0 (nd++[x]).length) ?_;refine aA ?_;intro u0;refine aB ?_;refine bO trivial eg (bR ah (aj (D.int .i64) ?_)) ah ⟨⟨(nd.length:Nat),w,nd++[x],b⟩,11,aF,rfl,rfl,rfl,rfl⟩;simp
def Qq (Y:Ctx):Prop:=∀(x:Nd) (w:List au) (nd:List Nd) (b:Bool),nd.length<=2000->pc Y 3 iO 948 [Nd.D x] w nd b (fun o=>o=⟨(nd.length:Nat),w,nd++[x],b⟩) Va
noncomputable def oc:aC:=cP 261
def w1031 {Y:Ctx}(hm:(Y.at 2).b7)(k:au)(w:List au)(nd:List Nd)(b:Bool)(h349:II (Y.at 2))(h947:NI (Y.at 2))(h948:Qq (Y.at 2))(h950:XM (Y.at 2))(hp0:nd.length+2*w.length<=1000):bJ (Y.at 2) oc.body (jQ oc (yf 3 iO (eB (nY b k w nd) w nd) Va):Ex->List cg->St->Prop) (fD oc [.ptr 0 3 0 0,.str k]) ⟨2,[(0,.buf 3 [iO w (.own 1 5 0 nd.length) b]),(1,.buf 5 (nd.map Nd.D))]⟩:=by
 show bJ _ _ _ [⟨true,.ptr 0 3 0 0⟩,⟨true,.str k⟩,.un,.un,.un,.un,.un,.un,.un,.un,.un,.un,.un,.un] ⟨2,[(0,.buf 3 [iO w (.own 1 5 0 nd.length) b]),(1,.buf 5 (nd.map Nd.D))]⟩;refine ar ?_;refine aB ?_;refine cx (nx':=3) (v:=.str (bz w)) (m':=[(0,.buf 3 [iO (bX w) (.own 1 5 0 nd.length) (dQ w b)]),(1,.buf 5 (nd.map Nd.D))]) (hc:=fun K' hK=>h947 w nd b _ 0 1 _ K' ah ah cb cb (fun o ho=>by subst ho;exact hK)) (hn:=aF) ?_;refine aA ?_;refine cx (nx':=3) (v:=.str (bz (bX w))) (m':=[(0,.buf 3 [iO (bX (bX w)) (.own 1 5 0 nd.length) (dQ (bX w) (dQ w b))]),(1,.buf 5 (nd.map Nd.D))]) (hc:=fun K' hK=>h947 (bX w) nd (dQ w b) _ 0 1 _ K' ah ah cb cb (fun o ho=>by subst ho;exact hK)) (hn:=aF) ?_;refine aE ?_;refine aq (hc:=h950) ?_;refine aA ?_;intro u0;refine ax ?_;refine ba hm (ι:=Nat) (fun i=>[⟨true,.ptr 0 3 0 0⟩,⟨true,.str k⟩,.un,⟨true,.int .i64 (i:Nat)⟩,⟨true,.int .i64 3⟩,.un,⟨true,.sl 1 (rK.map D.str)⟩,.un,⟨true,.str (bz w)⟩,⟨true,.str (bz (bX w))⟩,.un,.un,.un,.un]) (fun i=>[(0,.buf 3 [iO (bX (bX w)) (.own 1 5 0 nd.length) (dQ (bX w) (dQ w b))]),(1,.buf 5 (nd.map Nd.D))]) 12 (fun i=>i<=3/\∀j,j<i->Jc j k (bz w) (bz (bX w)) (dQ (bX w) (dQ w b))=false) (fun i=>3-i) 0 ⟨ae,fun j hj=>ae⟩ (a7.to [] ah ah eh (by refine eM ?_;refine eM ?_;exact bo.nil)) ?_;rintro i ⟨hi,hr⟩;refine ay ?_;refine cF (fun hc0=>?_) fun hc0=>?_
 .refine aB ?_;refine bH i (hb:=fun _=>by show _<3;omega) ?_;refine bD (q:=D.str) (xs:=rK) (i:=i) (k:=1) (o:=0) (hi:=fun _=>by show i<3;omega) (v:=(.str rK[i]!)) ?_;refine zzz24 ?_;refine aq (hc:=h349 _) ?_;refine ay ?_;refine av (fun hc1=>?_) (fun hc1=>?_)
  .have hno:Jc i k (bz w) (bz (bX w)) (dQ (bX w) (dQ w b))=false:=aj (!·) hc1;refine aZ ?_;exact⟨i+1,⟨ae,fun j hj=>by rcases hY j i with h|h;exact hr j h;obtain rfl:j=i:=ae;exact hno⟩,ae,(a7.to [] ah ah eh (by refine eM ?_;refine eM ?_;exact bo.nil))⟩
  have hyes:Jc i k (bz w) (bz (bX w)) (dQ (bX w) (dQ w b))=true:=aj (!·) hc1;obtain⟨ha,hk,B3⟩:=Rv (nd:=nd) (w:=w) (b:=b) (show i<3 by omega) hyes;have hap:=KI w nd;have hl1:=hap.1;refine aE ?_;refine bg (Nd.D ⟨1,0,0,(i:Nat),(bz (bX w))⟩) ?_;refine cx (nx':=41) (v:=.int .i64 (nd.length:Nat)) (m':=[(44,.buf 5 ((nd++[(⟨1,0,0,(i:Nat),(bz (bX w))⟩:Nd)]).map Nd.D)),(0,.buf 3 [iO (bX (bX w)) (.own 44 5 0 (nd++[(⟨1,0,0,(i:Nat),(bz (bX w))⟩:Nd)]).length) (dQ (bX w) (dQ w b))])]) (hc:=fun K' hK=>h948 ⟨1,0,0,(i:Nat),(bz (bX w))⟩ (bX (bX w)) nd (dQ (bX w) (dQ w b)) ae _ 0 1 _ K' ah ah cb cb (fun o ho=>by subst ho;exact hK)) (hn:=aF) ?_;refine aZ ?_;refine av (fun hc2=>?_) (fun hc2=>?_)
  .simp only[aK]at hc2;have hat:nY b k w nd=some ((((nd++[(⟨1,0,0,(i:Nat),(bz (bX w))⟩:Nd)]).length:Nat):Int),(bX (bX w)),((nd++[(⟨1,0,0,(i:Nat),(bz (bX w))⟩:Nd)])++[(⟨2,(nd.length:Nat),0,0,[]⟩:Nd)])):=by rw[ha];simp only[xr,hk,aw hc2]
   refine ay ?_;refine bg (Nd.D ⟨2,(nd.length:Nat),0,0,[]⟩) ?_;refine cx (nx':=50) (v:=.int .i64 ((nd++[(⟨1,0,0,(i:Nat),(bz (bX w))⟩:Nd)]).length:Nat)) (m':=[(52,.buf 5 (((nd++[(⟨1,0,0,(i:Nat),(bz (bX w))⟩:Nd)])++[(⟨2,(nd.length:Nat),0,0,[]⟩:Nd)]).map Nd.D)),(0,.buf 3 [iO (bX (bX w)) (.own 52 5 0 ((nd++[(⟨1,0,0,(i:Nat),(bz (bX w))⟩:Nd)])++[(⟨2,(nd.length:Nat),0,0,[]⟩:Nd)]).length) (dQ (bX w) (dQ w b))])]) (hc:=fun K' hK=>h948 ⟨2,(nd.length:Nat),0,0,[]⟩ (bX (bX w)) (nd++[(⟨1,0,0,(i:Nat),(bz (bX w))⟩:Nd)]) (dQ (bX w) (dQ w b)) cY _ 0 44 _ K' ah ah cb cb (fun o ho=>by subst ho;exact hK)) (hn:=aF) ?_;refine cZ ?_;refine bO trivial eg (bR ah (aj (D.int .i64) ?_)) ah ⟨⟨((nd++[(⟨1,0,0,(i:Nat),(bz (bX w))⟩:Nd)]).length:Nat),(bX (bX w)),((nd++[(⟨1,0,0,(i:Nat),(bz (bX w))⟩:Nd)])++[(⟨2,(nd.length:Nat),0,0,[]⟩:Nd)]),(dQ (bX w) (dQ w b))⟩,52,aF,⟨.inl ⟨hat,B3⟩,zX hat⟩,rfl,rfl,rfl⟩;rfl
  simp only[bc]at hc2;have hat:nY b k w nd=some (((nd.length:Nat):Int),(bX (bX w)),(nd++[(⟨1,0,0,(i:Nat),(bz (bX w))⟩:Nd)])):=by rw[ha];simp only[xr,hk,ak hc2]
  refine bL ?_;refine bO trivial eg (bR ah (aj (D.int .i64) ?_)) ah ⟨⟨(nd.length:Nat),(bX (bX w)),(nd++[(⟨1,0,0,(i:Nat),(bz (bX w))⟩:Nd)]),(dQ (bX w) (dQ w b))⟩,44,aF,⟨.inl ⟨hat,B3⟩,zX hat⟩,rfl,rfl,rfl⟩;rfl
 refine ax ?_;have hn:nY b k w nd=none:=U2 (fun j hj=>hr j ae);refine hE (a7.to (env':=[⟨true,.ptr 0 3 0 0⟩,.un,.un,.un,.un,.un,.un,.un,.un,.un,.un,.un,.un,.un]) (c:=90) (nx':=90) (m':=[(0,.buf 3 [iO (bX (bX w)) (.own 2 5 0 nd.length) (dQ (bX w) (dQ w b))]),(2,.buf 5 (nd.map Nd.D))]) [(1,2)] rfl ah eh (by refine bo.FJ ah ah ah ?_;refine bo.nl 1 ah ah rfl (by exact br (fun _=>rfl) _) ?_;exact bo.nil)) ?_;refine aB ?_;refine aI (iO (bX (bX w)) (.own 2 5 0 nd.length) true) (he:=aQ) ?_;refine aE ?_;refine bO trivial eg (bR ah (aj (D.int .i64) ?_)) ah ⟨⟨0,(bX (bX w)),nd,true⟩,2,aF,⟨.inr ⟨hn,rfl⟩,KI w nd⟩,rfl,rfl,rfl⟩;rfl
def Qf (Y:Ctx):Prop:=∀(k:au) (w:List au) (nd:List Nd) (b:Bool),nd.length+2*w.length<=1000->pc Y 3 iO 1031 [.str k] w nd b (eB (nY b k w nd) w nd) Va
def C808 (Y:Ctx):Prop:=(∀(w:List au) (nd:List Nd),nd.length+2*w.length<=1000->pc Y 3 iO 808 [.str qZ,.int .i64 4,.fn 809 []] w nd false (eB (iX w nd) w nd) Va)/\(∀(w:List au) (nd:List Nd),nd.length+2*w.length<=1000->pc Y 3 iO 808 [.str lM,.int .i64 3,.fn 949 []] w nd false (eB (kP w nd) w nd) Va)
def Qo (Y:Ctx)(u:Nat):Prop:=(∀(w:List au) (nd:List Nd),nd.length+2*w.length<=1000->6*w.length+3<u->pc Y 3 iO 808 [.str qZ,.int .i64 4,.fn 809 []] w nd false (eB (iX w nd) w nd) Va)/\(∀(w:List au) (nd:List Nd),nd.length+2*w.length<=1000->6*w.length+1<u->pc Y 3 iO 808 [.str lM,.int .i64 3,.fn 949 []] w nd false (eB (kP w nd) w nd) Va)
def Xw (Y:Ctx):Prop:=∀(w:List au) (nd:List Nd),nd.length+2*w.length<=1000->pc Y 3 iO 660 [] w nd false (eB (iX w nd) w nd) Va
def Wg (Y:Ctx)(u:Nat):Prop:=∀(w:List au) (nd:List Nd),nd.length+2*w.length<=1000->6*w.length+4<u->pc Y 3 iO 660 [] w nd false (eB (iX w nd) w nd) Va
def C809 (Y:Ctx):Prop:=∀(w:List au) (nd:List Nd),nd.length+2*w.length<=1000->pc Y 3 iO 809 [] w nd false (eB (kP w nd) w nd) Va
def C809u (Y:Ctx)(u:Nat):Prop:=∀(w:List au) (nd:List Nd),nd.length+2*w.length<=1000->6*w.length+2<u->pc Y 3 iO 809 [] w nd false (eB (kP w nd) w nd) Va
def C949 (Y:Ctx):Prop:=∀(w:List au) (nd:List Nd),nd.length+2*w.length<=1000->pc Y 3 iO 949 [] w nd false (eB (j6 w nd) w nd) Va
def Wj (Y:Ctx)(u:Nat):Prop:=∀(w:List au) (nd:List Nd),nd.length+2*w.length<=1000->6*w.length+0<u->pc Y 3 iO 949 [] w nd false (eB (j6 w nd) w nd) Va
noncomputable def kW:aC:=cP 211
def take_cons {Y:Ctx}(h:NI Y){x:au}(hx:x≠[])(r:List au)(nd:List Nd)(b:Bool):Um Y 3 iO 947 [] (x::r) nd b (fun o=>o=⟨0,r,nd,b⟩) (fun _=>.str x):=by
 have:=h (x::r) nd b;rw[kj hx,ki hx]at this;exact this
def NY {bad:Bool}{w:List au}{wd:au}(h:(!bad&&decide (bz w=wd))=false):bad=true\/w.head? ≠some wd:=by
 cases bad with
 |true=>exact .inl rfl
 |false=>
  right;simp only[Bool.not_false,gz,bc]at h
  match w,h with
  |[],_=>simp
  |x::r,h=>intro e;exact h (show x=wd by simpa using e)
def w808 {Y:Ctx}(hm:(Y.at 2).b7)(part:List au->List Nd->PR)(pn:Nat)(wd:au)(op:Int)(w:List au)(nd:List Nd)(h946:XL (Y.at 2))(h947:NI (Y.at 2))(h948:Qq (Y.at 2))(hp0:nd.length+2*w.length<=1000)(hp1:uK part)(hp2:pn<1000000)(hp3:wd≠[])(hp4:∀(w2:List au)(nd2:List Nd),w2.length<=w.length->nd2.length+2*w2.length<=1000->pc (Y.at 2) 3 iO pn [] w2 nd2 false (eB (part w2 nd2) w2 nd2) Va):bJ (Y.at 2) kW.body (jQ kW (yf 3 iO (eB (iR part wd op w nd) w nd) Va):Ex->List cg->St->Prop) (fD kW [.ptr 0 3 0 0,.str wd,.int .i64 op,.fn pn []]) ⟨2,[(0,.buf 3 [iO w (.own 1 5 0 nd.length) false]),(1,.buf 5 (nd.map Nd.D))]⟩:=by
 show bJ _ _ _ [⟨true,.ptr 0 3 0 0⟩,⟨true,.str wd⟩,⟨true,.int .i64 op⟩,⟨true,.fn pn []⟩,.un,.un,.un,.un] ⟨2,[(0,.buf 3 [iO w (.own 1 5 0 nd.length) false]),(1,.buf 5 (nd.map Nd.D))]⟩;have hpn:Ed pn=pn:=aw hp2;have hpa:∀aoF:List D,B7 pn aoF []=aoF:=fun aoF=>by rw[B7,aw hp2,gN]
 refine ar ?_;refine aE ?_;refine nP (aoF:=[.ptr 0 3 0 0]) (eB (part w nd) w nd) Va 4 (fun o=>[(5,.buf 5 (o.nd.map Nd.D)),(0,.buf 3 [iO o.w (.own 5 5 0 o.nd.length) o.bad])]) (fun o0 ho0=>?_) (hc:=fun K' hK=>by rw[hpn];exact hp4 w nd (aL _) ae _ 0 1 _ K' ah ah cb cb (fun o ho=>hK o ho)) (hn:=aF) (hn2:=ae) (ha:=hpa _);refine ax ?_;refine ba hm (ι:=PO) (fun o=>[⟨true,.ptr 0 3 0 0⟩,⟨true,.str wd⟩,⟨true,.int .i64 op⟩,⟨true,.fn pn []⟩,.un,.un,⟨true,.int .i64 o.a⟩,.un]) (fun o=>[(0,.buf 3 [iO o.w (.own 2 5 0 o.nd.length) o.bad]),(2,.buf 5 (o.nd.map Nd.D))]) 8 (fun o=>Iy part wd op (iR part wd op w nd) w nd o) (fun o=>o.w.length) o0 (Iy.first ho0) (a7.to [(5,2)] ah ah eh (by refine eM ?_;refine bo.nl 5 ah ah ah eK ?_;exact bo.nil)) ?_;rintro⟨a,w1,nd1,bad⟩ hI;dsimp only;have hpb:=hI.2;have hl1:=hpb.1;have hl2:=hpb.2.1;dsimp only at hl1 hl2;refine cZ ?_;refine c8 (hc:=fun _=>h946 w1 _ bad) (hp:=fun _=>R6 ah ah) ?_;refine aB ?_;refine av (fun hc0=>?_) (fun hc0=>?_)
 .simp only[bB,bd,aK]at hc0;obtain⟨rfl,hts⟩:=hc0;obtain⟨r,rfl⟩:=s6 hp3 hts;simp only[aP]at hl1 hl2;refine aB ?_;refine cx (nx':=19) (v:=.str wd) (m':=[(0,.buf 3 [iO r (.own 2 5 0 nd1.length) false]),(2,.buf 5 (nd1.map Nd.D))]) (hc:=fun K' hK=>take_cons h947 hp3 r nd1 false _ 0 2 _ K' ah ah cb cb (fun o ho=>by subst ho;exact hK)) (hn:=aF) ?_;refine aB ?_;refine nP (aoF:=[.ptr 0 3 0 0]) (eB (part r nd1) r nd1) Va 22 (fun o=>[(23,.buf 5 (o.nd.map Nd.D)),(0,.buf 3 [iO o.w (.own 23 5 0 o.nd.length) o.bad])]) (fun o2 ho2=>?_) (hc:=fun K' hK=>by rw[hpn];exact hp4 r nd1 ae ae _ 0 2 _ K' ah ah cb cb (fun o ho=>hK o ho)) (hn:=aF) (hn2:=ae) (ha:=hpa _);have hl3:=ho2.2.2.1;have hl4:=ho2.2.1;refine aZ ?_;refine bg (Nd.D (⟨op,a,o2.a,0,[]⟩:Nd)) ?_;refine cx (nx':=27) (v:=.int .i64 (o2.nd.length:Nat)) (m':=[(31,.buf 5 ((o2.nd++[(⟨op,a,o2.a,0,[]⟩:Nd)]).map Nd.D)),(0,.buf 3 [iO o2.w (.own 31 5 0 (o2.nd++[(⟨op,a,o2.a,0,[]⟩:Nd)]).length) o2.bad])]) (hc:=fun K' hK=>h948 (⟨op,a,o2.a,0,[]⟩:Nd) o2.w o2.nd o2.bad ae _ 0 23 _ K' ah ah cb cb (fun o ho=>by subst ho;exact hK)) (hn:=aF) ?_;refine aB ?_;exact⟨⟨(o2.nd.length:Nat),o2.w,o2.nd++[(⟨op,a,o2.a,0,[]⟩:Nd)],o2.bad⟩,Iy.next hp1 hI ho2,by dsimp only;simp only[aP];omega,(a7.to [(31,2)] ah ah eh (by refine eM ?_;refine bo.nl 31 ah ah ah eK ?_;exact bo.nil))⟩
 have hx:=NY hc0;refine aZ ?_;refine bO trivial eg (bR ah (aj (D.int .i64) ?_)) ah ⟨⟨a,w1,nd1,bad⟩,2,aF,hI.last hx,rfl,rfl,rfl⟩;rfl
noncomputable def m5:aC:=cP 179
def w660 {Y:Ctx}(hm:(Y.at 2).b7)(w:List au)(nd:List Nd)(h808:Qo (Y.at 2) (6*w.length+4))(hp0:nd.length+2*w.length<=1000):bJ (Y.at 2) m5.body (jQ m5 (yf 3 iO (eB (iX w nd) w nd) Va):Ex->List cg->St->Prop) (fD m5 [.ptr 0 3 0 0]) ⟨2,[(0,.buf 3 [iO w (.own 1 5 0 nd.length) false]),(1,.buf 5 (nd.map Nd.D))]⟩:=by
 show bJ _ _ _ [⟨true,.ptr 0 3 0 0⟩,.un] ⟨2,[(0,.buf 3 [iO w (.own 1 5 0 nd.length) false]),(1,.buf 5 (nd.map Nd.D))]⟩;refine ar ?_;refine aB ?_;refine gH (eB (iX w nd) w nd) Va 4 (fun o=>[(4,.buf 5 (o.nd.map Nd.D)),(0,.buf 3 [iO o.w (.own 4 5 0 o.nd.length) o.bad])]) (fun o1 ho1=>?_) (hc:=fun K' hK=>h808.1 w nd hp0 ae _ 0 1 _ K' ah ah cb cb (fun o ho=>hK o ho)) (hn:=aF);refine ay ?_;refine bO trivial eg (bR ah (aj (D.int .i64) ?_)) ah ⟨o1,4,aF,ho1,rfl,rfl,rfl⟩;rfl
noncomputable def lX:aC:=cP 212
def w809 {Y:Ctx}(hm:(Y.at 2).b7)(w:List au)(nd:List Nd)(h808:Qo (Y.at 2) (6*w.length+2))(hp0:nd.length+2*w.length<=1000):bJ (Y.at 2) lX.body (jQ lX (yf 3 iO (eB (kP w nd) w nd) Va):Ex->List cg->St->Prop) (fD lX [.ptr 0 3 0 0]) ⟨2,[(0,.buf 3 [iO w (.own 1 5 0 nd.length) false]),(1,.buf 5 (nd.map Nd.D))]⟩:=by
 show bJ _ _ _ [⟨true,.ptr 0 3 0 0⟩,.un] ⟨2,[(0,.buf 3 [iO w (.own 1 5 0 nd.length) false]),(1,.buf 5 (nd.map Nd.D))]⟩;refine ar ?_;refine aB ?_;refine gH (eB (kP w nd) w nd) Va 4 (fun o=>[(4,.buf 5 (o.nd.map Nd.D)),(0,.buf 3 [iO o.w (.own 4 5 0 o.nd.length) o.bad])]) (fun o1 ho1=>?_) (hc:=fun K' hK=>h808.2 w nd hp0 ae _ 0 1 _ K' ah ah cb cb (fun o ho=>hK o ho)) (hn:=aF);refine ay ?_;refine bO trivial eg (bR ah (aj (D.int .i64) ?_)) ah ⟨o1,4,aF,ho1,rfl,rfl,rfl⟩;rfl
noncomputable def mZ:aC:=cP 242
def w949 {Y:Ctx}(hm:(Y.at 2).b7)(w:List au)(nd:List Nd)(h660:Wg (Y.at 2) (6*w.length))(h947:NI (Y.at 2))(h948:Qq (Y.at 2))(h949:Wj (Y.at 2) (6*w.length))(h1031:Qf (Y.at 2))(hp0:nd.length+2*w.length<=1000):bJ (Y.at 2) mZ.body (jQ mZ (yf 3 iO (eB (j6 w nd) w nd) Va):Ex->List cg->St->Prop) (fD mZ [.ptr 0 3 0 0]) ⟨2,[(0,.buf 3 [iO w (.own 1 5 0 nd.length) false]),(1,.buf 5 (nd.map Nd.D))]⟩:=by
 show bJ _ _ _ [⟨true,.ptr 0 3 0 0⟩,.un,.un,.un,.un,.un,.un,.un,.un,.un] ⟨2,[(0,.buf 3 [iO w (.own 1 5 0 nd.length) false]),(1,.buf 5 (nd.map Nd.D))]⟩;refine ar ?_;refine cZ ?_;refine av (fun hc0=>?_) (fun hc0=>?_)
 .skip
  exact absurd hc0 aF
 skip
 refine ay ?_;refine cx (nx':=7) (v:=.str (bz w)) (m':=[(0,.buf 3 [iO (bX w) (.own 1 5 0 nd.length) (dQ w false)]),(1,.buf 5 (nd.map Nd.D))]) (hc:=fun K' hK=>h947 w nd false _ 0 1 _ K' ah ah cb cb (fun o ho=>by subst ho;exact hK)) (hn:=aF) ?_;refine fS ?_;refine wp_cond (fun hc1=>?_) (fun hc1=>?_)
 .simp only[aK]at hc1;obtain⟨r,rfl⟩:=s6 aF hc1;rw[kj aF,ki aF];simp only[aP]at hp0;refine ax ?_;refine gH (eB (j6 r nd) r nd) Va 14 (fun o=>[(14,.buf 5 (o.nd.map Nd.D)),(0,.buf 3 [iO o.w (.own 14 5 0 o.nd.length) o.bad])]) (fun o1 ho1=>?_) (hc:=fun K' hK=>h949 r nd ae (by simp only[aP];omega) _ 0 1 _ K' ah ah cb cb (fun o ho=>hK o ho)) (hn:=aF);have hl3:=ho1.2.2.1;have hl4:=ho1.2.1;refine aE ?_;refine bg (Nd.D (⟨2,o1.a,0,0,[]⟩:Nd)) ?_;refine cx (nx':=18) (v:=.int .i64 (o1.nd.length:Nat)) (m':=[(20,.buf 5 ((o1.nd++[(⟨2,o1.a,0,0,[]⟩:Nd)]).map Nd.D)),(0,.buf 3 [iO o1.w (.own 20 5 0 (o1.nd++[(⟨2,o1.a,0,0,[]⟩:Nd)]).length) o1.bad])]) (hc:=fun K' hK=>h948 (⟨2,o1.a,0,0,[]⟩:Nd) o1.w o1.nd o1.bad ae _ 0 14 _ K' ah ah cb cb (fun o ho=>by subst ho;exact hK)) (hn:=aF) ?_;refine aB ?_;refine bO trivial eg (bR ah (aj (D.int .i64) ?_)) ah ⟨⟨(o1.nd.length:Nat),o1.w,o1.nd++[(⟨2,o1.a,0,0,[]⟩:Nd)],o1.bad⟩,20,aF,Lz ho1,rfl,rfl,rfl⟩;rfl
 simp only[bc]at hc1;refine aB ?_;refine wp_cond (fun hc2=>?_) (fun hc2=>?_)
 .simp only[aK]at hc2;obtain⟨r,rfl⟩:=s6 aF hc2;rw[kj aF,ki aF];simp only[aP]at hp0;refine ax ?_;refine gH (eB (iX r nd) r nd) Va 16 (fun o=>[(16,.buf 5 (o.nd.map Nd.D)),(0,.buf 3 [iO o.w (.own 16 5 0 o.nd.length) o.bad])]) (fun o1 ho1=>?_) (hc:=fun K' hK=>h660 r nd ae (by simp only[aP];omega) _ 0 1 _ K' ah ah cb cb (fun o ho=>hK o ho)) (hn:=aF);refine aE ?_;refine cx (nx':=19) (v:=.str (bz o1.w)) (m':=[(16,.buf 5 (o1.nd.map Nd.D)),(0,.buf 3 [iO (bX o1.w) (.own 16 5 0 o1.nd.length) (dQ o1.w o1.bad)])]) (hc:=fun K' hK=>h947 o1.w o1.nd o1.bad _ 0 16 _ K' ah ah cb cb (fun o ho=>by subst ho;exact hK)) (hn:=aF) ?_;refine ax ?_;refine av (fun hc3=>?_) (fun hc3=>?_)
  .simp only[bd,bc]at hc3;refine aB ?_;refine aI (iO (bX o1.w) (.own 16 5 0 o1.nd.length) true) (he:=aQ) ?_;refine aZ ?_;refine bO trivial eg (bR ah (aj (D.int .i64) ?_)) ah ⟨⟨o1.a,bX o1.w,o1.nd,true⟩,16,aF,G7 ho1 hc3,rfl,rfl,rfl⟩;rfl
  simp only[bK,aK]at hc3;refine aZ ?_;refine bO trivial eg (bR ah (aj (D.int .i64) ?_)) ah ⟨⟨o1.a,bX o1.w,o1.nd,dQ o1.w o1.bad⟩,16,aF,Sr ho1 hc3,rfl,rfl,rfl⟩;rfl
 simp only[bc]at hc2;have hfa:=Rb (nd:=nd) hc1 hc2;have htl:=(p7 w nd).1;refine ay ?_;refine gH (eB (nY (dQ w false) (bz w) (bX w) nd) (bX w) nd) Va 16 (fun o=>[(17,.buf 5 (o.nd.map Nd.D)),(0,.buf 3 [iO o.w (.own 17 5 0 o.nd.length) o.bad])]) (fun o1 ho1=>?_) (hc:=fun K' hK=>h1031 (bz w) (bX w) nd (dQ w false) ae _ 0 1 _ K' ah ah cb cb (fun o ho=>hK o ho)) (hn:=aF);refine aB ?_;refine bO trivial eg (bR ah (aj (D.int .i64) ?_)) ah ⟨o1,17,aF,Sq hfa ho1,rfl,rfl,rfl⟩;rfl
noncomputable def Jr:aC:=cP 139
def w445 {Y:Ctx}(hm:(Y.at 0).b7)(h124:NC Y)(h660:Xw Y)(h661:Xx Y)(s:au)   :dh Y Jr (.tup [lE (mL s).1,.int .i64 (mL s).2]) [.str s]:=by
 show bJ _ _ _ [⟨_,_⟩,_,_,_,_,_,_,_] _;refine ar ?_;refine aD ?_;refine ik ?_;refine ax ?_;refine cF (fun hc0=>?_) fun hc0=>?_
 .refine ax ?_;refine de [.bq] ?_;refine aI (.agg [.bq]) (he:=aQ) ?_;refine ay ?_;refine bF (aH ?_ (aj (D.int .i64) ?_));all_goals (have hq:mL s=([],3):=(by simp only[mL];rw[aw ae]);rw[hq];first|done|rfl)
 refine aD ?_;refine av (fun hc1=>?_) (fun hc1=>?_)
 .try simp only[dn]at hc1
  refine ax ?_;refine de [.bq] ?_;refine aI (.agg [.bq]) (he:=aQ) ?_;refine ay ?_;refine bF (aH ?_ (aj (D.int .i64) ?_));all_goals (have hq:mL s=([],0):=(by simp only[mL];rw[ak ae,aw hc1]);rw[hq];first|done|rfl)
 simp only[bc]at hc1;have hnl:¬96<s.length:=ae;have hsl:=dk s 32;refine ay ?_;refine aq (hc:=h124 s 32 ae) ?_;refine bg (iO (ai s 32) .bq false) ?_;refine ay ?_;refine hE (a7.to (env':=[⟨true,.str s⟩,⟨true,.ptr 0 1 0 0⟩,.un,.un,.un,⟨true,.ptr 1 3 0 0⟩,.un,.un]) (c:=20) (nx':=20) (m':=[(0,.buf 1 [.agg [.bq]]),(1,.buf 3 [iO (ai s 32) (.own 2 5 0 ([]:List Nd).length) false]),(2,.buf 5 (([]:List Nd).map Nd.D))]) [(0,0),(10,1)] rfl ah eh (by refine bo.fW ah ah ah ?_;refine bo.ni 10 ah ah (by exact⟨_,_,rfl,⟨_,rfl,⟨_,_,rfl,⟨rfl,rfl⟩,⟨_,_,rfl,Or.inr ⟨_,_,_,rfl⟩,⟨_,_,rfl,⟨rfl,rfl⟩,rfl⟩⟩⟩⟩,rfl⟩) ?_;refine bo.mt ah ah ah ah ?_;exact bo.nil)) ?_;refine ax ?_;refine gH (eB (iX (ai s 32) []) (ai s 32) []) Va 21 (fun o=>[(21,.buf 5 (o.nd.map Nd.D)),(0,.buf 1 [.agg [.bq]]),(1,.buf 3 [iO o.w (.own 21 5 0 o.nd.length) o.bad])]) (fun o1 ho1=>?_) (hc:=fun K' hK=>h660 (ai s 32) [] (by simp only[a8];omega) _ 1 2 _ K' ah ah cb cb (fun o ho=>hK o ho)) (hn:=aF);refine aA ?_;refine eH 21 ?_ (he:=by simp only[kS,iD,iN,lG,mU,cH,Nat.reduceEqDiff,aW,aX,cN,cr,ct,cS,cW,bQ,bN,aL,bY,aN,reduceCtorEq,aP,a8,Nat.reduceAdd,Nat.reduceLeDiff,iO];exact rfl) (hm:=by simp only[kS,iD,iN,lG,mU,cH,Nat.reduceEqDiff,aW,aX,cN,cr,ct,cS,cW,bQ,bN,aL,bY,aN,reduceCtorEq,aP,a8,Nat.reduceAdd,Nat.reduceLeDiff,iO];exact rfl);refine aB ?_;refine aT (v:=.sl 5 (o1.nd.map Nd.D)) ?_;refine bg (lE o1.nd) ?_;refine aA ?_;refine aI (lE o1.nd) (he:=aQ) ?_;refine aD ?_;refine aT (v:=.bool o1.bad) ?_;refine aB ?_;refine aT (v:=.sl 1 (o1.w.map D.str)) ?_;refine ik ?_;refine ay ?_;refine cz (d:=lE o1.nd) ?_;refine aq (hc:=h661 o1.nd) ?_;refine ay ?_;refine av (fun hc2=>?_) (fun hc2=>?_)
 .have hmx:=RX ho1 hc2;refine ax ?_;refine de [.bq] ?_;refine aI (.agg [.bq]) (he:=aQ) ?_;refine ay ?_;refine bF (aH ?_ (aj (D.int .i64) ?_));all_goals (have hq:=Ln hnl hc1 hmx;rw[hq];first|done|rfl)
 have hmx:=Lp ho1 hc2;refine ax ?_;refine cz (d:=lE o1.nd) ?_;refine aI (lE o1.nd) (he:=aQ) ?_;refine ay ?_;refine bF (aH ?_ (aj (D.int .i64) ?_));all_goals (have hq:=Lo hnl hc1 hmx;rw[hq];first|done|rfl)
def zm (T:List D->D->Prop):Prop:=∀(s:au),T [.str s] (.tup [lE (mL s).1,.int .i64 (mL s).2])
def C445 (Y:Ctx):Prop:=zm (bx Y 445)
noncomputable def Cm:aC:=cP 97
def w212 {Y:Ctx}(hm:(Y.at 0).b7)(h445:C445 Y)(h446:C446 Y)(s:au)   :dh Y Cm (.bool (qt s)) [.str s]:=by
 show bJ _ _ _ [⟨_,_⟩,_,_,_] _;refine ar ?_;refine aB ?_;refine aq (hc:=h445 s) ?_;refine aA ?_;refine eX (lE _) ?_;refine ax ?_;refine aI (lE (mL s).1) (he:=aQ) ?_;refine aD ?_;refine cz (d:=lE (mL s).1) ?_;refine aq (hc:=h446 (mL s).1) ?_;refine aD ?_;exact bU rfl
def zd (T:List D->D->Prop):Prop:=∀(s:au),T [.str s] (.bool (qt s))
def W0 (Y:Ctx):Prop:=zd (bx Y 212)
noncomputable def lf:aC:=cP 267
def w1033 {Y:Ctx}(hm:(Y.at 2).b7)(s:au)(W:List au)(w:List au)(nd:List Nd)(b:Bool)  (hp0:w<:+W/\W.length<=1000):bJ (Y.at 2) lf.body (jQ lf (KE 4 (jf W) nd (fun o=>o=⟨0,oR w s,nd,b⟩) (fun _=>.bool (gP w s))):Ex->List cg->St->Prop) (fD lf [.ptr 0 4 0 0,.str s]) ⟨2,[(0,.buf 4 [jf W w (.own 1 5 0 nd.length) b]),(1,.buf 5 (nd.map Nd.D))]⟩:=by
 show bJ _ _ _ [⟨true,.ptr 0 4 0 0⟩,⟨true,.str s⟩,.un,.un] ⟨2,[(0,.buf 4 [jf W w (.own 1 5 0 nd.length) b]),(1,.buf 5 (nd.map Nd.D))]⟩;refine ar ?_;refine gu ?_;refine ik ?_;refine fS ?_;refine bH (W.length-w.length) (hb:=fun h=>by simp only[gz,beq_iff_eq,aK]at h;omega) ?_;refine aE ?_;refine av (fun hc0=>?_) (fun hc0=>?_)
 .have hh:gP w s=true:=(Lt hp0.1 s).symm.trans hc0;obtain⟨r,rfl⟩:=nO hh;refine cZ ?_;refine aI (jf W r (.own 1 5 0 nd.length) b) (he:=LK hp0.1.length_le) ?_;refine aD ?_;refine bO trivial eg (bR ah (aj D.bool ?_)) ah ⟨⟨0,oR (s::r) s,nd,b⟩,rfl,rfl,by rw[l5];rfl,rfl⟩;exact(ug s r).symm
 have hh:gP w s=false:=(Lt hp0.1 s).symm.trans hc0;refine aE ?_;refine bO trivial eg (bR ah (aj D.bool ?_)) ah ⟨⟨0,oR w s,nd,b⟩,rfl,rfl,by rw[pP hh];rfl,rfl⟩;exact hh.symm
def FM (Y:Ctx):Prop:=∀(s:au) (W w:List au) (nd:List Nd) (b:Bool),w<:+W/\W.length<=1000->Um Y 4 (jf W) 1033 [.str s] w nd b (fun o=>o=⟨0,oR w s,nd,b⟩) (fun _=>.bool (gP w s))
noncomputable def lg:aC:=cP 291
def w1141 {Y:Ctx}(hm:(Y.at 2).b7)(W:List au)(w:List au)(nd:List Nd)(b:Bool)  (hp0:w<:+W/\W.length<=1000):bJ (Y.at 2) lg.body (jQ lg (KE 4 (jf W) nd (fun o=>o=⟨0,w.drop 1,nd,rB w b⟩) (fun _=>.str (bz w))):Ex->List cg->St->Prop) (fD lg [.ptr 0 4 0 0]) ⟨2,[(0,.buf 4 [jf W w (.own 1 5 0 nd.length) b]),(1,.buf 5 (nd.map Nd.D))]⟩:=by
 show bJ _ _ _ [⟨true,.ptr 0 4 0 0⟩,.un,.un] ⟨2,[(0,.buf 4 [jf W w (.own 1 5 0 nd.length) b]),(1,.buf 5 (nd.map Nd.D))]⟩;refine ar ?_;refine gu ?_;refine ik ?_;refine ax ?_;refine av (fun hc0=>?_) (fun hc0=>?_)
 .simp only[aK]at hc0;have hle:=hp0.1.length_le;obtain rfl:w=[]:=qH.1 ae;refine aE ?_;refine aI (jf W [] (.own 1 5 0 nd.length) true) (he:=aQ) ?_;refine aD ?_;refine bO trivial eg (bR ah (aj D.str ?_)) ah ⟨⟨0,([]:List au).drop 1,nd,rB [] b⟩,rfl,rfl,rfl,rfl⟩;rfl
 simp only[bc]at hc0;have hle:=hp0.1.length_le;obtain⟨x,r,rfl⟩:∃x r,w=x::r:=by
  cases w with
  |nil=>exact absurd aJ hc0
  |cons x r=>exact⟨x,r,rfl⟩
 refine cZ ?_;refine aI (jf W r (.own 1 5 0 nd.length) b) (he:=LK hle) ?_;refine fH ?_;refine bH (W.length-(x::r).length) (hj:=fun _=>by simp only[aP]at hle⊢;omega) (hb:=fun _=>by simp only[aP]at hle⊢;omega) ?_;refine aB ?_;refine bO trivial eg (bR ah (aj D.str ?_)) ah ⟨⟨0,(x::r).drop 1,nd,rB (x::r) b⟩,rfl,rfl,rfl,rfl⟩;exact(LW hp0.1 aJ).2
def Qk (Y:Ctx):Prop:=∀(W w:List au) (nd:List Nd) (b:Bool),w<:+W/\W.length<=1000->Um Y 4 (jf W) 1141 [] w nd b (fun o=>o=⟨0,w.drop 1,nd,rB w b⟩) (fun _=>.str (bz w))
noncomputable def mb:aC:=cP 268
def w1034 {Y:Ctx}(hm:(Y.at 2).b7)(x:Nd)(W:List au)(w:List au)(nd:List Nd)(b:Bool)  (hp0:nd.length<=2000):bJ (Y.at 2) mb.body (jQ mb (yf 4 (jf W) (fun o=>o=⟨(nd.length:Nat),w,nd++[x],b⟩) Va):Ex->List cg->St->Prop) (fD mb [.ptr 0 4 0 0,Nd.D x]) ⟨2,[(0,.buf 4 [jf W w (.own 1 5 0 nd.length) b]),(1,.buf 5 (nd.map Nd.D))]⟩:=by
 show bJ _ _ _ [⟨true,.ptr 0 4 0 0⟩,⟨true,Nd.D x⟩,.un,.un] ⟨2,[(0,.buf 4 [jf W w (.own 1 5 0 nd.length) b]),(1,.buf 5 (nd.map Nd.D))]⟩;refine ar ?_;refine bL ?_;refine aT (v:=.own 1 5 0 nd.length) ?_;refine cz (d:=Nd.D x) ?_;refine df [Nd.D x] ?_;refine gL (q:=Nd.D) (xs:=nd) (e:=x) ?_;refine ax ?_;refine aI (jf W w (.own 11 5 0 (nd++[x]).length) b) (he:=aQ) ?_;refine aE ?_;refine aT (v:=.own 11 5 0 (nd++[x]).length) ?_;refine aA ?_;intro u0;refine aB ?_;refine bO trivial eg (bR ah (aj (D.int .i64) ?_)) ah ⟨⟨(nd.length:Nat),w,nd++[x],b⟩,11,aF,rfl,rfl,rfl,rfl⟩;simp
def Cu (Y:Ctx):Prop:=∀(x:Nd) (W w:List au) (nd:List Nd) (b:Bool),nd.length<=2000->pc Y 4 (jf W) 1034 [Nd.D x] w nd b (fun o=>o=⟨(nd.length:Nat),w,nd++[x],b⟩) Va
noncomputable def k8:aC:=cP 290
def rB3 {w:List au}{a b c:au}{r:List au}(h:w=a::b::c::r):rB ((w.drop 1).drop 1) (rB (w.drop 1) (rB w false))=false/\((w.drop 1).drop 1).drop 1=r:=by subst h;exact⟨rfl,rfl⟩
def w1126 {Y:Ctx}(hm:(Y.at 2).b7)(W:List au)(w:List au)(nd:List Nd)(h357:IJ (Y.at 2))(h1034:Cu (Y.at 2))(h1099:Qi (Y.at 2))(h1141:Qk (Y.at 2))(hp0:w<:+W/\W.length<=1000)(hp1:nd.length+2*w.length<=1000):bJ (Y.at 2) k8.body (jQ k8 (yf 4 (jf W) (eB (Aj w nd) w nd) Va):Ex->List cg->St->Prop) (fD k8 [.ptr 0 4 0 0]) ⟨2,[(0,.buf 4 [jf W w (.own 1 5 0 nd.length) false]),(1,.buf 5 (nd.map Nd.D))]⟩:=by
 show bJ _ _ _ [⟨true,.ptr 0 4 0 0⟩,.un,.un,.un,.un,.un,.un,.un,.un,.un,.un,.un] ⟨2,[(0,.buf 4 [jf W w (.own 1 5 0 nd.length) false]),(1,.buf 5 (nd.map Nd.D))]⟩;have hs1:(w.drop 1)<:+W/\W.length<=1000:=⟨(List.drop_suffix 1 w).trans hp0.1,hp0.2⟩;have hs2:((w.drop 1).drop 1)<:+W/\W.length<=1000:=⟨(List.drop_suffix 1 _).trans hs1.1,hp0.2⟩;have hpb:PB w nd (((w.drop 1).drop 1).drop 1) nd:=((El w nd).trans (El _ nd)).trans (El _ nd);refine ar ?_;refine aB ?_;refine cx (nx':=3) (v:=.str (bz w)) (m':=[(0,.buf 4 [jf W (w.drop 1) (.own 1 5 0 nd.length) (rB w false)]),(1,.buf 5 (nd.map Nd.D))]) (hc:=fun K' hK=>h1141 W w nd false hp0 _ 0 1 _ K' ah ah cb cb (fun o ho=>by subst ho;exact hK)) (hn:=aF) ?_;refine aA ?_;refine cx (nx':=3) (v:=.str (bz (w.drop 1))) (m':=[(0,.buf 4 [jf W ((w.drop 1).drop 1) (.own 1 5 0 nd.length) (rB (w.drop 1) (rB w false))]),(1,.buf 5 (nd.map Nd.D))]) (hc:=fun K' hK=>h1141 W (w.drop 1) nd (rB w false) hs1 _ 0 1 _ K' ah ah cb cb (fun o ho=>by subst ho;exact hK)) (hn:=aF) ?_;refine aA ?_;refine cx (nx':=3) (v:=.str (bz ((w.drop 1).drop 1))) (m':=[(0,.buf 4 [jf W (((w.drop 1).drop 1).drop 1) (.own 1 5 0 nd.length) (rB ((w.drop 1).drop 1) (rB (w.drop 1) (rB w false)))]),(1,.buf 5 (nd.map Nd.D))]) (hc:=fun K' hK=>h1141 W ((w.drop 1).drop 1) nd (rB (w.drop 1) (rB w false)) hs2 _ 0 1 _ K' ah ah cb cb (fun o ho=>by subst ho;exact hK)) (hn:=aF) ?_;refine aD ?_;refine bg (Nd.D ⟨1,0,0,-1,(bz ((w.drop 1).drop 1))⟩) ?_;refine aA ?_;refine aI (Nd.D ⟨1,0,0,-1,(bz ((w.drop 1).drop 1))⟩) (he:=aQ) ?_;refine aE ?_;rw[show(⟨1,0,0,-1,(bz ((w.drop 1).drop 1))⟩:Nd)=⟨1,0,0,K9 (bz w) 0,(bz ((w.drop 1).drop 1))⟩by rw[kAt_0]];refine ba hm (ι:=Nat) (fun i=>[⟨true,.ptr 0 4 0 0⟩,.un,⟨true,.str (bz ((w.drop 1).drop 1))⟩,⟨true,.int .i64 (i:Nat)⟩,.un,⟨true,.str (bz w)⟩,.un,⟨true,.ptr 14 5 0 0⟩,⟨true,.str (bz (w.drop 1))⟩,.un,.un,.un]) (fun i=>[(0,.buf 4 [jf W (((w.drop 1).drop 1).drop 1) (.own 1 5 0 nd.length) (rB ((w.drop 1).drop 1) (rB (w.drop 1) (rB w false)))]),(1,.buf 5 (nd.map Nd.D)),(14,.buf 5 [Nd.D ⟨1,0,0,K9 (bz w) i,(bz ((w.drop 1).drop 1))⟩])]) 17 (fun i=>i<=3) (fun i=>3-i) 0 ae (a7.to [(14,14)] ah ah eh (by refine eM ?_;refine eM ?_;refine bo.nl 14 ah ah ah eK ?_;exact bo.nil)) ?_;intro i hi;refine aE ?_;refine cF (fun hc0=>?_) fun hc0=>?_
 .refine aB ?_;refine aq (hc:=h1099 (i:Int) ⟨ae,ae⟩) ?_;refine ay ?_;refine fM (fun hc1=>?_) fun hc1=>?_
  .refine ay ?_;refine aI (Nd.D ⟨1,0,0,((i:Nat):Int),(bz ((w.drop 1).drop 1))⟩) (he:=aQ) ?_;refine bL ?_;rw[show(⟨1,0,0,((i:Nat):Int),(bz ((w.drop 1).drop 1))⟩:Nd)=⟨1,0,0,K9 (bz w) (i+1),(bz ((w.drop 1).drop 1))⟩by rw[Ve ae hc1]];exact⟨i+1,ae,ae,(a7.to [(14,14)] ah ah eh (by refine eM ?_;refine eM ?_;refine bo.nl 14 ah ah ah eK ?_;exact bo.nil))⟩
  refine bL ?_;rw[show(⟨1,0,0,K9 (bz w) i,(bz ((w.drop 1).drop 1))⟩:Nd)=⟨1,0,0,K9 (bz w) (i+1),(bz ((w.drop 1).drop 1))⟩by rw[YF ae hc1]];exact⟨i+1,ae,ae,(a7.to [(14,14)] ah ah eh (by refine eM ?_;refine eM ?_;refine bo.nl 14 ah ah ah eK ?_;exact bo.nil))⟩
 refine aB ?_;obtain rfl:i=3:=ae;rw[kAt_3];refine aE ?_;refine aq (hc:=h357 _) ?_;refine fH ?_;refine av (fun hc2=>?_) (fun hc2=>?_)
 .have hno:mX (bz w) (bz (w.drop 1)) (bz ((w.drop 1).drop 1))=false:=by rw[<-bd,<-Cz];exact hc2
  have hn:=QI (nd:=nd) hno;refine aA ?_;refine hE (a7.to (env':=[⟨true,.ptr 0 4 0 0⟩,.un,.un,.un,.un,.un,.un,.un,.un,.un,.un,.un]) (c:=90) (nx':=90) (m':=[(0,.buf 4 [jf W (((w.drop 1).drop 1).drop 1) (.own 2 5 0 nd.length) (rB ((w.drop 1).drop 1) (rB (w.drop 1) (rB w false)))]),(2,.buf 5 (nd.map Nd.D))]) [(1,2)] rfl ah eh (by refine bo.FJ ah ah ah ?_;refine bo.nl 1 ah ah rfl (by exact br (fun _=>rfl) _) ?_;exact bo.nil)) ?_;refine aB ?_;refine aI (jf W (((w.drop 1).drop 1).drop 1) (.own 2 5 0 nd.length) true) (he:=aQ) ?_;refine aD ?_;refine bO trivial eg (bR ah (aj (D.int .i64) ?_)) ah ⟨⟨0,(((w.drop 1).drop 1).drop 1),nd,true⟩,2,aF,⟨.inr ⟨hn,rfl⟩,hpb⟩,rfl,rfl,rfl⟩;rfl
 have hyes:mX (bz w) (bz (w.drop 1)) (bz ((w.drop 1).drop 1))=true:=by rw[<-bK,<-Cz];exact hc2
 obtain⟨r,hw,ha⟩:=NV (nd:=nd) hyes;obtain⟨hb3,hr3⟩:=rB3 hw;rw[<-hr3]at ha;refine ay ?_;refine cz (d:=Nd.D (⟨1,0,0,jd (bz w),(bz ((w.drop 1).drop 1))⟩:Nd)) ?_;refine cx (nx':=36) (v:=.int .i64 (nd.length:Nat)) (m':=[(37,.buf 5 ((nd++[(⟨1,0,0,jd (bz w),(bz ((w.drop 1).drop 1))⟩:Nd)]).map Nd.D)),(0,.buf 4 [jf W (((w.drop 1).drop 1).drop 1) (.own 37 5 0 (nd++[(⟨1,0,0,jd (bz w),(bz ((w.drop 1).drop 1))⟩:Nd)]).length) (rB ((w.drop 1).drop 1) (rB (w.drop 1) (rB w false)))]),(14,.buf 5 [Nd.D (⟨1,0,0,jd (bz w),(bz ((w.drop 1).drop 1))⟩:Nd)])]) (hc:=fun K' hK=>h1034 (⟨1,0,0,jd (bz w),(bz ((w.drop 1).drop 1))⟩:Nd) W (((w.drop 1).drop 1).drop 1) nd (rB ((w.drop 1).drop 1) (rB (w.drop 1) (rB w false))) ae _ 0 1 _ K' ah ah cb cb (fun o ho=>by subst ho;exact hK)) (hn:=aF) ?_;refine aZ ?_;refine av (fun hc3=>?_) (fun hc3=>?_)
 .simp only[aK]at hc3;have hat:Aj w nd=some ((((nd++[(⟨1,0,0,jd (bz w),(bz ((w.drop 1).drop 1))⟩:Nd)]).length:Nat):Int),(((w.drop 1).drop 1).drop 1),((nd++[(⟨1,0,0,jd (bz w),(bz ((w.drop 1).drop 1))⟩:Nd)])++[(⟨2,(nd.length:Nat),0,0,[]⟩:Nd)])):=by rw[ha];simp only[xr,aw hc3]
  refine ay ?_;refine bg (Nd.D (⟨2,(nd.length:Nat),0,0,[]⟩:Nd)) ?_;refine cx (nx':=43) (v:=.int .i64 ((nd++[(⟨1,0,0,jd (bz w),(bz ((w.drop 1).drop 1))⟩:Nd)]).length:Nat)) (m':=[(45,.buf 5 (((nd++[(⟨1,0,0,jd (bz w),(bz ((w.drop 1).drop 1))⟩:Nd)])++[(⟨2,(nd.length:Nat),0,0,[]⟩:Nd)]).map Nd.D)),(0,.buf 4 [jf W (((w.drop 1).drop 1).drop 1) (.own 45 5 0 ((nd++[(⟨1,0,0,jd (bz w),(bz ((w.drop 1).drop 1))⟩:Nd)])++[(⟨2,(nd.length:Nat),0,0,[]⟩:Nd)]).length) (rB ((w.drop 1).drop 1) (rB (w.drop 1) (rB w false)))]),(14,.buf 5 [Nd.D (⟨1,0,0,jd (bz w),(bz ((w.drop 1).drop 1))⟩:Nd)])]) (hc:=fun K' hK=>h1034 (⟨2,(nd.length:Nat),0,0,[]⟩:Nd) W (((w.drop 1).drop 1).drop 1) (nd++[(⟨1,0,0,jd (bz w),(bz ((w.drop 1).drop 1))⟩:Nd)]) (rB ((w.drop 1).drop 1) (rB (w.drop 1) (rB w false))) cY _ 0 37 _ K' ah ah cb cb (fun o ho=>by subst ho;exact hK)) (hn:=aF) ?_;refine aZ ?_;refine bO trivial eg (bR ah (aj (D.int .i64) ?_)) ah ⟨⟨((nd++[(⟨1,0,0,jd (bz w),(bz ((w.drop 1).drop 1))⟩:Nd)]).length:Nat),(((w.drop 1).drop 1).drop 1),((nd++[(⟨1,0,0,jd (bz w),(bz ((w.drop 1).drop 1))⟩:Nd)])++[(⟨2,(nd.length:Nat),0,0,[]⟩:Nd)]),(rB ((w.drop 1).drop 1) (rB (w.drop 1) (rB w false)))⟩,45,aF,⟨.inl ⟨hat,hb3⟩,CP hat⟩,rfl,rfl,rfl⟩;rfl
 simp only[bc]at hc3;have hat:Aj w nd=some (((nd.length:Nat):Int),(((w.drop 1).drop 1).drop 1),(nd++[(⟨1,0,0,jd (bz w),(bz ((w.drop 1).drop 1))⟩:Nd)])):=by rw[ha];simp only[xr,ak hc3]
 refine aD ?_;refine bO trivial eg (bR ah (aj (D.int .i64) ?_)) ah ⟨⟨(nd.length:Nat),(((w.drop 1).drop 1).drop 1),(nd++[(⟨1,0,0,jd (bz w),(bz ((w.drop 1).drop 1))⟩:Nd)]),(rB ((w.drop 1).drop 1) (rB (w.drop 1) (rB w false)))⟩,37,aF,⟨.inl ⟨hat,hb3⟩,CP hat⟩,rfl,rfl,rfl⟩;rfl
def Qj (Y:Ctx):Prop:=∀(W w:List au) (nd:List Nd),w<:+W/\W.length<=1000->nd.length+2*w.length<=1000->pc Y 4 (jf W) 1126 [] w nd false (eB (Aj w nd) w nd) Va
def ZL (Y:Ctx):Prop:=∀(W w:List au) (nd:List Nd),w<:+W/\W.length<=1000->nd.length+2*w.length<=1000->pc Y 4 (jf W) 1097 [] w nd false (eB (j6 w nd) w nd) Va
def ID (Y:Ctx)(u:Nat):Prop:=∀(W w:List au) (nd:List Nd),w<:+W/\W.length<=1000->nd.length+2*w.length<=1000->6*w.length+0<u->pc Y 4 (jf W) 1097 [] w nd false (eB (j6 w nd) w nd) Va
def ZK (Y:Ctx):Prop:=∀(W w:List au) (nd:List Nd),w<:+W/\W.length<=1000->nd.length+2*w.length<=1000->pc Y 4 (jf W) 1032 [] w nd false (eB (kP w nd) w nd) Va
def Qg (Y:Ctx)(u:Nat):Prop:=∀(W w:List au) (nd:List Nd),w<:+W/\W.length<=1000->nd.length+2*w.length<=1000->6*w.length+1<u->pc Y 4 (jf W) 1032 [] w nd false (eB (kP w nd) w nd) Va
def XN (Y:Ctx):Prop:=∀(W w:List au) (nd:List Nd),w<:+W/\W.length<=1000->nd.length+2*w.length<=1000->pc Y 4 (jf W) 952 [] w nd false (eB (iX w nd) w nd) Va
def Wl (Y:Ctx)(u:Nat):Prop:=∀(W w:List au) (nd:List Nd),w<:+W/\W.length<=1000->nd.length+2*w.length<=1000->6*w.length+2<u->pc Y 4 (jf W) 952 [] w nd false (eB (iX w nd) w nd) Va
noncomputable def ma:aC:=cP 281
def w1097 {Y:Ctx}(hm:(Y.at 2).b7)(W:List au)(w:List au)(nd:List Nd)(h952:Wl (Y.at 2) (6*w.length))(h1033:FM (Y.at 2))(h1034:Cu (Y.at 2))(h1097:ID (Y.at 2) (6*w.length))(h1126:Qj (Y.at 2))(hp0:w<:+W/\W.length<=1000)(hp1:nd.length+2*w.length<=1000):bJ (Y.at 2) ma.body (jQ ma (yf 4 (jf W) (eB (j6 w nd) w nd) Va):Ex->List cg->St->Prop) (fD ma [.ptr 0 4 0 0]) ⟨2,[(0,.buf 4 [jf W w (.own 1 5 0 nd.length) false]),(1,.buf 5 (nd.map Nd.D))]⟩:=by
 show bJ _ _ _ [⟨true,.ptr 0 4 0 0⟩,.un,.un,.un,.un,.un,.un,.un] ⟨2,[(0,.buf 4 [jf W w (.own 1 5 0 nd.length) false]),(1,.buf 5 (nd.map Nd.D))]⟩;refine ar ?_;refine cZ ?_;refine av (fun hc0=>?_) (fun hc0=>?_)
 .skip
  exact absurd hc0 aF
 skip
 refine aB ?_;refine cx (nx':=7) (v:=.bool (gP w qN)) (m':=[(0,.buf 4 [jf W (oR w qN) (.own 1 5 0 nd.length) false]),(1,.buf 5 (nd.map Nd.D))]) (hc:=fun K' hK=>h1033 qN W w nd false hp0 _ 0 1 _ K' ah ah cb cb (fun o ho=>by subst ho;exact hK)) (hn:=aF) ?_;refine aA ?_;refine av (fun hc1=>?_) (fun hc1=>?_)
 .obtain⟨r,rfl⟩:=nO hc1;rw[l5];have hsr:r<:+W/\W.length<=1000:=⟨(List.suffix_cons _ r).trans hp0.1,hp0.2⟩;simp only[aP]at hp1;refine ay ?_;refine gH (eB (j6 r nd) r nd) Va 10 (fun o=>[(10,.buf 5 (o.nd.map Nd.D)),(0,.buf 4 [jf W o.w (.own 10 5 0 o.nd.length) o.bad])]) (fun o1 ho1=>?_) (hc:=fun K' hK=>h1097 W r nd hsr ae (by simp only[aP];omega) _ 0 1 _ K' ah ah cb cb (fun o ho=>hK o ho)) (hn:=aF);have hl3:=ho1.2.2.1;have hl4:=ho1.2.1;refine aD ?_;refine bg (Nd.D (⟨2,o1.a,0,0,[]⟩:Nd)) ?_;refine cx (nx':=14) (v:=.int .i64 (o1.nd.length:Nat)) (m':=[(16,.buf 5 ((o1.nd++[(⟨2,o1.a,0,0,[]⟩:Nd)]).map Nd.D)),(0,.buf 4 [jf W o1.w (.own 16 5 0 (o1.nd++[(⟨2,o1.a,0,0,[]⟩:Nd)]).length) o1.bad])]) (hc:=fun K' hK=>h1034 (⟨2,o1.a,0,0,[]⟩:Nd) W o1.w o1.nd o1.bad ae _ 0 10 _ K' ah ah cb cb (fun o ho=>by subst ho;exact hK)) (hn:=aF) ?_;refine ay ?_;refine bO trivial eg (bR ah (aj (D.int .i64) ?_)) ah ⟨⟨(o1.nd.length:Nat),o1.w,o1.nd++[(⟨2,o1.a,0,0,[]⟩:Nd)],o1.bad⟩,16,aF,Lz ho1,rfl,rfl,rfl⟩;rfl
 have hn1:gP w qN=false:=hc1;rw[pP hn1];refine aB ?_;refine cx (nx':=9) (v:=.bool (gP w gZ)) (m':=[(0,.buf 4 [jf W (oR w gZ) (.own 1 5 0 nd.length) false]),(1,.buf 5 (nd.map Nd.D))]) (hc:=fun K' hK=>h1033 gZ W w nd false hp0 _ 0 1 _ K' ah ah cb cb (fun o ho=>by subst ho;exact hK)) (hn:=aF) ?_;refine aA ?_;refine av (fun hc2=>?_) (fun hc2=>?_)
 .obtain⟨r,rfl⟩:=nO hc2;rw[l5];have hsr:r<:+W/\W.length<=1000:=⟨(List.suffix_cons _ r).trans hp0.1,hp0.2⟩;simp only[aP]at hp1;refine ay ?_;refine gH (eB (iX r nd) r nd) Va 12 (fun o=>[(12,.buf 5 (o.nd.map Nd.D)),(0,.buf 4 [jf W o.w (.own 12 5 0 o.nd.length) o.bad])]) (fun o1 ho1=>?_) (hc:=fun K' hK=>h952 W r nd hsr ae (by simp only[aP];omega) _ 0 1 _ K' ah ah cb cb (fun o ho=>hK o ho)) (hn:=aF);refine aD ?_;refine cx (nx':=15) (v:=.bool (gP o1.w lz)) (m':=[(12,.buf 5 (o1.nd.map Nd.D)),(0,.buf 4 [jf W (oR o1.w lz) (.own 12 5 0 o1.nd.length) o1.bad])]) (hc:=fun K' hK=>h1033 lz W o1.w o1.nd o1.bad ⟨ho1.2.vM hsr.1,hp0.2⟩ _ 0 12 _ K' ah ah cb cb (fun o ho=>by subst ho;exact hK)) (hn:=aF) ?_;refine ax ?_;refine av (fun hc3=>?_) (fun hc3=>?_)
  .simp only[bd]at hc3;rw[pP hc3];refine aB ?_;refine aI (jf W o1.w (.own 12 5 0 o1.nd.length) true) (he:=aQ) ?_;refine aZ ?_;refine bO trivial eg (bR ah (aj (D.int .i64) ?_)) ah ⟨⟨o1.a,o1.w,o1.nd,true⟩,12,aF,EU ho1 hc3,rfl,rfl,rfl⟩;rfl
  simp only[bK]at hc3;obtain⟨q,hq⟩:=nO hc3;rw[show oR o1.w lz=q by rw[hq,l5]];refine aZ ?_;refine bO trivial eg (bR ah (aj (D.int .i64) ?_)) ah ⟨⟨o1.a,q,o1.nd,o1.bad⟩,12,aF,O6 ho1 hq,rfl,rfl,rfl⟩;rfl
 have hn2:gP w gZ=false:=hc2;rw[pP hn2];refine ay ?_;refine gH (eB (Aj w nd) w nd) Va 12 (fun o=>[(12,.buf 5 (o.nd.map Nd.D)),(0,.buf 4 [jf W o.w (.own 12 5 0 o.nd.length) o.bad])]) (fun o1 ho1=>?_) (hc:=fun K' hK=>h1126 W w nd hp0 hp1 _ 0 1 _ K' ah ah cb cb (fun o ho=>hK o ho)) (hn:=aF);rw[<-Ys hn1 hn2]at ho1;refine ay ?_;refine bO trivial eg (bR ah (aj (D.int .i64) ?_)) ah ⟨o1,12,aF,ho1,rfl,rfl,rfl⟩;rfl
noncomputable def k9:aC:=cP 266
def w1032 {Y:Ctx}(hm:(Y.at 2).b7)(W:List au)(w:List au)(nd:List Nd)(h1033:FM (Y.at 2))(h1034:Cu (Y.at 2))(h1097:ID (Y.at 2) (6*w.length+1))(hp0:w<:+W/\W.length<=1000)(hp1:nd.length+2*w.length<=1000):bJ (Y.at 2) k9.body (jQ k9 (yf 4 (jf W) (eB (kP w nd) w nd) Va):Ex->List cg->St->Prop) (fD k9 [.ptr 0 4 0 0]) ⟨2,[(0,.buf 4 [jf W w (.own 1 5 0 nd.length) false]),(1,.buf 5 (nd.map Nd.D))]⟩:=by
 show bJ _ _ _ [⟨true,.ptr 0 4 0 0⟩,.un,.un,.un,.un] ⟨2,[(0,.buf 4 [jf W w (.own 1 5 0 nd.length) false]),(1,.buf 5 (nd.map Nd.D))]⟩;have hgo:uK j6:=wi;have hun:kP w nd=iR j6 lM 3 w nd:=rfl;refine ar ?_;refine aB ?_;refine gH (eB (j6 w nd) w nd) Va 4 (fun o=>[(4,.buf 5 (o.nd.map Nd.D)),(0,.buf 4 [jf W o.w (.own 4 5 0 o.nd.length) o.bad])]) (fun o0 ho0=>?_) (hc:=fun K' hK=>h1097 W w nd hp0 hp1 ae _ 0 1 _ K' ah ah cb cb (fun o ho=>hK o ho)) (hn:=aF);refine ax ?_;refine ba hm (ι:=PO) (fun o=>[⟨true,.ptr 0 4 0 0⟩,.un,.un,⟨true,.int .i64 o.a⟩,.un]) (fun o=>[(0,.buf 4 [jf W o.w (.own 2 5 0 o.nd.length) o.bad]),(2,.buf 5 (o.nd.map Nd.D))]) 7 (fun o=>Iy j6 lM 3 (kP w nd) w nd o) (fun o=>o.w.length) o0 (Iy.first ho0) (a7.to [(4,2)] ah ah eh (by refine eM ?_;refine bo.nl 4 ah ah ah eK ?_;exact bo.nil)) ?_;rintro⟨a,w1,nd1,bad⟩ hI;dsimp only;have hpb:=hI.2;have hl1:=hpb.1;have hl2:=hpb.2.1;dsimp only at hl1 hl2;have hsw:w1<:+W/\W.length<=1000:=⟨hpb.vM hp0.1,hp0.2⟩;refine ax ?_;cases bad
 .refine aZ ?_;refine wY (ι:=PO) (aoF:=[.ptr 0 4 0 0,.str lM]) (fun o=>o=⟨0,oR w1 lM,nd1,false⟩) (fun _=>.bool (gP w1 lM)) 7 (fun o=>[(0,.buf 4 [jf W o.w (.own 2 5 0 nd1.length) o.bad]),(2,.buf 5 (nd1.map Nd.D))]) (fun o2 ho2=>?_) (hc:=fun K' hK=>h1033 lM W w1 nd1 false hsw _ 0 2 _ K' ah ah cb cb (fun o ho=>hK o ho)) (hn:=aF);subst ho2;dsimp only;refine ax ?_;refine av (fun hc0=>?_) (fun hc0=>?_)
  .obtain⟨r,rfl⟩:=nO (s:=lM) hc0;rw[l5];have hsr:r<:+W/\W.length<=1000:=⟨(List.suffix_cons _ r).trans hsw.1,hp0.2⟩;simp only[aP]at hl1 hl2;refine aB ?_;refine gH (eB (j6 r nd1) r nd1) Va 17 (fun o=>[(17,.buf 5 (o.nd.map Nd.D)),(0,.buf 4 [jf W o.w (.own 17 5 0 o.nd.length) o.bad])]) (fun o2 ho2=>?_) (hc:=fun K' hK=>h1097 W r nd1 hsr ae ae _ 0 2 _ K' ah ah cb cb (fun o ho=>hK o ho)) (hn:=aF);have hl3:=ho2.2.2.1;have hl4:=ho2.2.1;refine aD ?_;refine bg (Nd.D (⟨3,a,o2.a,0,[]⟩:Nd)) ?_;refine cx (nx':=21) (v:=.int .i64 (o2.nd.length:Nat)) (m':=[(24,.buf 5 ((o2.nd++[(⟨3,a,o2.a,0,[]⟩:Nd)]).map Nd.D)),(0,.buf 4 [jf W o2.w (.own 24 5 0 (o2.nd++[(⟨3,a,o2.a,0,[]⟩:Nd)]).length) o2.bad])]) (hc:=fun K' hK=>h1034 (⟨3,a,o2.a,0,[]⟩:Nd) W o2.w o2.nd o2.bad ae _ 0 17 _ K' ah ah cb cb (fun o ho=>by subst ho;exact hK)) (hn:=aF) ?_;refine aB ?_;exact⟨⟨(o2.nd.length:Nat),o2.w,o2.nd++[(⟨3,a,o2.a,0,[]⟩:Nd)],o2.bad⟩,Iy.next hgo hI ho2,by dsimp only;simp only[aP];omega,(a7.to [(24,2)] ah ah eh (by refine eM ?_;refine bo.nl 24 ah ah ah eK ?_;exact bo.nil))⟩
  have hnb:gP w1 lM=false:=hc0;rw[pP hnb];have hx:false=true\/w1.head? ≠some lM:=.inr (AP hnb);refine aZ ?_;refine bO trivial eg (bR ah (aj (D.int .i64) ?_)) ah ⟨⟨a,w1,nd1,false⟩,2,aF,hI.last hx,rfl,rfl,rfl⟩;rfl
 .refine aZ ?_;refine EZ ?_;refine SN (t:=false) ?_;refine aA ?_;refine av (fun hc0=>?_) (fun hc0=>?_)
  .skip
   exact absurd hc0 aF
  have hx:true=true\/w1.head? ≠some lM:=.inl rfl;refine aZ ?_;refine bO trivial eg (bR ah (aj (D.int .i64) ?_)) ah ⟨⟨a,w1,nd1,true⟩,2,aF,hI.last hx,rfl,rfl,rfl⟩;rfl
noncomputable def jM:aC:=cP 246
def w952 {Y:Ctx}(hm:(Y.at 2).b7)(W:List au)(w:List au)(nd:List Nd)(h1032:Qg (Y.at 2) (6*w.length+2))(h1033:FM (Y.at 2))(h1034:Cu (Y.at 2))(hp0:w<:+W/\W.length<=1000)(hp1:nd.length+2*w.length<=1000):bJ (Y.at 2) jM.body (jQ jM (yf 4 (jf W) (eB (iX w nd) w nd) Va):Ex->List cg->St->Prop) (fD jM [.ptr 0 4 0 0]) ⟨2,[(0,.buf 4 [jf W w (.own 1 5 0 nd.length) false]),(1,.buf 5 (nd.map Nd.D))]⟩:=by
 show bJ _ _ _ [⟨true,.ptr 0 4 0 0⟩,.un,.un,.un,.un] ⟨2,[(0,.buf 4 [jf W w (.own 1 5 0 nd.length) false]),(1,.buf 5 (nd.map Nd.D))]⟩;have hgo:uK kP:=Ab;have hun:iX w nd=iR kP qZ 4 w nd:=rfl;refine ar ?_;refine aB ?_;refine gH (eB (kP w nd) w nd) Va 4 (fun o=>[(4,.buf 5 (o.nd.map Nd.D)),(0,.buf 4 [jf W o.w (.own 4 5 0 o.nd.length) o.bad])]) (fun o0 ho0=>?_) (hc:=fun K' hK=>h1032 W w nd hp0 hp1 ae _ 0 1 _ K' ah ah cb cb (fun o ho=>hK o ho)) (hn:=aF);refine ax ?_;refine ba hm (ι:=PO) (fun o=>[⟨true,.ptr 0 4 0 0⟩,.un,.un,⟨true,.int .i64 o.a⟩,.un]) (fun o=>[(0,.buf 4 [jf W o.w (.own 2 5 0 o.nd.length) o.bad]),(2,.buf 5 (o.nd.map Nd.D))]) 7 (fun o=>Iy kP qZ 4 (iX w nd) w nd o) (fun o=>o.w.length) o0 (Iy.first ho0) (a7.to [(4,2)] ah ah eh (by refine eM ?_;refine bo.nl 4 ah ah ah eK ?_;exact bo.nil)) ?_;rintro⟨a,w1,nd1,bad⟩ hI;dsimp only;have hpb:=hI.2;have hl1:=hpb.1;have hl2:=hpb.2.1;dsimp only at hl1 hl2;have hsw:w1<:+W/\W.length<=1000:=⟨hpb.vM hp0.1,hp0.2⟩;refine ax ?_;cases bad
 .refine aZ ?_;refine wY (ι:=PO) (aoF:=[.ptr 0 4 0 0,.str qZ]) (fun o=>o=⟨0,oR w1 qZ,nd1,false⟩) (fun _=>.bool (gP w1 qZ)) 7 (fun o=>[(0,.buf 4 [jf W o.w (.own 2 5 0 nd1.length) o.bad]),(2,.buf 5 (nd1.map Nd.D))]) (fun o2 ho2=>?_) (hc:=fun K' hK=>h1033 qZ W w1 nd1 false hsw _ 0 2 _ K' ah ah cb cb (fun o ho=>hK o ho)) (hn:=aF);subst ho2;dsimp only;refine ax ?_;refine av (fun hc0=>?_) (fun hc0=>?_)
  .obtain⟨r,rfl⟩:=nO (s:=qZ) hc0;rw[l5];have hsr:r<:+W/\W.length<=1000:=⟨(List.suffix_cons _ r).trans hsw.1,hp0.2⟩;simp only[aP]at hl1 hl2;refine aB ?_;refine gH (eB (kP r nd1) r nd1) Va 17 (fun o=>[(17,.buf 5 (o.nd.map Nd.D)),(0,.buf 4 [jf W o.w (.own 17 5 0 o.nd.length) o.bad])]) (fun o2 ho2=>?_) (hc:=fun K' hK=>h1032 W r nd1 hsr ae ae _ 0 2 _ K' ah ah cb cb (fun o ho=>hK o ho)) (hn:=aF);have hl3:=ho2.2.2.1;have hl4:=ho2.2.1;refine aD ?_;refine bg (Nd.D (⟨4,a,o2.a,0,[]⟩:Nd)) ?_;refine cx (nx':=21) (v:=.int .i64 (o2.nd.length:Nat)) (m':=[(24,.buf 5 ((o2.nd++[(⟨4,a,o2.a,0,[]⟩:Nd)]).map Nd.D)),(0,.buf 4 [jf W o2.w (.own 24 5 0 (o2.nd++[(⟨4,a,o2.a,0,[]⟩:Nd)]).length) o2.bad])]) (hc:=fun K' hK=>h1034 (⟨4,a,o2.a,0,[]⟩:Nd) W o2.w o2.nd o2.bad ae _ 0 17 _ K' ah ah cb cb (fun o ho=>by subst ho;exact hK)) (hn:=aF) ?_;refine aB ?_;exact⟨⟨(o2.nd.length:Nat),o2.w,o2.nd++[(⟨4,a,o2.a,0,[]⟩:Nd)],o2.bad⟩,Iy.next hgo hI ho2,by dsimp only;simp only[aP];omega,(a7.to [(24,2)] ah ah eh (by refine eM ?_;refine bo.nl 24 ah ah ah eK ?_;exact bo.nil))⟩
  have hnb:gP w1 qZ=false:=hc0;rw[pP hnb];have hx:false=true\/w1.head? ≠some qZ:=.inr (AP hnb);refine aZ ?_;refine bO trivial eg (bR ah (aj (D.int .i64) ?_)) ah ⟨⟨a,w1,nd1,false⟩,2,aF,hI.last hx,rfl,rfl,rfl⟩;rfl
 .refine aZ ?_;refine EZ ?_;refine SN (t:=false) ?_;refine aA ?_;refine av (fun hc0=>?_) (fun hc0=>?_)
  .skip
   exact absurd hc0 aF
  have hx:true=true\/w1.head? ≠some qZ:=.inl rfl;refine aZ ?_;refine bO trivial eg (bR ah (aj (D.int .i64) ?_)) ah ⟨⟨a,w1,nd1,true⟩,2,aF,hI.last hx,rfl,rfl,rfl⟩;rfl
noncomputable def Hn:aC:=cP 217
def w813 {Y:Ctx}(hm:(Y.at 0).b7)(h470:tz Y)(h952:XN Y)(h953:XO Y)(s:au)   :dh Y Hn (.tup [lE (mL s).1,.int .i64 (mL s).2]) [.str s]:=by
 show bJ _ _ _ [⟨_,_⟩,_,_,_,_,_,_,_] _;refine ar ?_;refine aD ?_;refine ik ?_;refine ax ?_;refine cF (fun hc0=>?_) fun hc0=>?_
 .refine ax ?_;refine de [.bq] ?_;refine aI (.agg [.bq]) (he:=aQ) ?_;refine ay ?_;refine bF (aH ?_ (aj (D.int .i64) ?_));all_goals (have hq:mL s=([],3):=(by simp only[mL];rw[aw ae]);rw[hq];first|done|rfl)
 refine aD ?_;refine av (fun hc1=>?_) (fun hc1=>?_)
 .try simp only[dn]at hc1
  refine ax ?_;refine de [.bq] ?_;refine aI (.agg [.bq]) (he:=aQ) ?_;refine ay ?_;refine bF (aH ?_ (aj (D.int .i64) ?_));all_goals (have hq:mL s=([],0):=(by simp only[mL];rw[ak ae,aw hc1]);rw[hq];first|done|rfl)
 simp only[bc]at hc1;have hnl:¬96<s.length:=ae;have hsl:=dk s 32;refine ay ?_;refine aq (hc:=h470 s 32 ae) ?_;refine bg (jf (ai s 32) (ai s 32) .bq false) (hv:=fun _=>by show D.agg _=D.agg _;rw[Nat.sub_self];rfl) ?_;refine ay ?_;refine hE (a7.to (env':=[⟨true,.str s⟩,⟨true,.ptr 0 1 0 0⟩,.un,.un,.un,⟨true,.ptr 1 4 0 0⟩,.un,.un]) (c:=20) (nx':=20) (m':=[(0,.buf 1 [.agg [.bq]]),(1,.buf 4 [jf (ai s 32)  (ai s 32) (.own 2 5 0 ([]:List Nd).length) false]),(2,.buf 5 (([]:List Nd).map Nd.D))]) [(0,0),(10,1)] rfl ah eh (by refine bo.fW ah ah ah ?_;refine bo.ni 10 ah ah (by exact⟨_,_,rfl,⟨_,rfl,⟨_,_,rfl,⟨rfl,rfl⟩,⟨_,_,rfl,⟨rfl,rfl⟩,⟨_,_,rfl,Or.inr ⟨_,_,_,rfl⟩,⟨_,_,rfl,⟨rfl,rfl⟩,rfl⟩⟩⟩⟩⟩,rfl⟩) ?_;refine bo.mt ah ah ah ah ?_;exact bo.nil)) ?_;refine ax ?_;refine gH (eB (iX (ai s 32) []) (ai s 32) []) Va 21 (fun o=>[(21,.buf 5 (o.nd.map Nd.D)),(0,.buf 1 [.agg [.bq]]),(1,.buf 4 [jf (ai s 32) o.w (.own 21 5 0 o.nd.length) o.bad])]) (fun o1 ho1=>?_) (hc:=fun K' hK=>h952 (ai s 32) (ai s 32) [] ⟨mi _,ae⟩ (by simp only[a8];omega) _ 1 2 _ K' ah ah cb cb (fun o ho=>hK o ho)) (hn:=aF);refine aA ?_;refine eH 21 ?_ (he:=by simp only[kS,iD,iN,lG,mU,cH,Nat.reduceEqDiff,aW,aX,cN,cr,ct,cS,cW,bQ,bN,aL,bY,aN,reduceCtorEq,aP,a8,Nat.reduceAdd,Nat.reduceLeDiff,jf];exact rfl) (hm:=by simp only[kS,iD,iN,lG,mU,cH,Nat.reduceEqDiff,aW,aX,cN,cr,ct,cS,cW,bQ,bN,aL,bY,aN,reduceCtorEq,aP,a8,Nat.reduceAdd,Nat.reduceLeDiff,jf];exact rfl);refine aB ?_;refine aT (v:=.sl 5 (o1.nd.map Nd.D)) ?_;refine bg (lE o1.nd) ?_;refine aA ?_;refine aI (lE o1.nd) (he:=aQ) ?_;refine aD ?_;refine aT (v:=.bool o1.bad) ?_;refine aB ?_;refine aT (v:=.int .i64 (((ai s 32).length-o1.w.length:Nat):Int)) ?_;refine ay ?_;refine aT (v:=.sl 1 ((ai s 32).map D.str)) ?_;refine ik ?_;refine ay ?_;refine cz (d:=lE o1.nd) ?_;refine aq (hc:=h953 o1.nd) ?_;refine ay ?_;refine av (fun hc2=>?_) (fun hc2=>?_)
 .have hwl:=ho1.2.1;have hlt:decide ((((ai s 32).length-o1.w.length:Nat):Int)<((ai s 32).length:Nat))=decide ((0:Int)<(o1.w.length:Nat)):=gO.2 ae;rw[hlt]at hc2;have hmx:=RX ho1 hc2;refine ax ?_;refine de [.bq] ?_;refine aI (.agg [.bq]) (he:=aQ) ?_;refine ay ?_;refine bF (aH ?_ (aj (D.int .i64) ?_));all_goals (have hq:=Ln hnl hc1 hmx;rw[hq];first|done|rfl)
 have hwl:=ho1.2.1;have hlt:decide ((((ai s 32).length-o1.w.length:Nat):Int)<((ai s 32).length:Nat))=decide ((0:Int)<(o1.w.length:Nat)):=gO.2 ae;rw[hlt]at hc2;have hmx:=Lp ho1 hc2;refine ax ?_;refine cz (d:=lE o1.nd) ?_;refine aI (lE o1.nd) (he:=aQ) ?_;refine ay ?_;refine bF (aH ?_ (aj (D.int .i64) ?_));all_goals (have hq:=Lo hnl hc1 hmx;rw[hq];first|done|rfl)
def C813 (Y:Ctx):Prop:=zm (bx Y 813)
noncomputable def Ho:aC:=cP 188
def w670 {Y:Ctx}(hm:(Y.at 0).b7)(h813:C813 Y)(h814:C814 Y)(s:au)   :dh Y Ho (.bool (qt s)) [.str s]:=by
 show bJ _ _ _ [⟨_,_⟩,_,_,_] _;refine ar ?_;refine aB ?_;refine aq (hc:=h813 s) ?_;refine aA ?_;refine eX (lE _) ?_;refine ax ?_;refine aI (lE (mL s).1) (he:=aQ) ?_;refine aD ?_;refine cz (d:=lE (mL s).1) ?_;refine aq (hc:=h814 (mL s).1) ?_;refine aD ?_;exact bU rfl
def XC (Y:Ctx):Prop:=zd (bx Y 670)
noncomputable def J3:aC:=cP 226
def w741  (s:au)(b:Int)   :dh Y J3 (.int .i64 ((aG s b).2.length:Nat)) [.str s,.int .u8 b]:=by
 show bJ _ _ _ [⟨_,_⟩,⟨_,_⟩,_,_,_,_] _;refine ar ?_;refine aD ?_;refine ba hm (ι:=Nat) (fun i=>[⟨true,.str s⟩,⟨true,.int .u8 b⟩,.un,⟨true,.int .i64 (i:Nat)⟩,.un,.un]) (fun i=>[]) 2 (fun i=>i<=s.length/\aG s b=il s b i) (fun i=>s.length-i) 0 ⟨ae,rfl⟩ (dr []) ?_;rintro i ⟨hi,hr⟩;refine aE ?_;intro u0;refine ax ?_;refine cF (fun hc0=>?_) fun hc0=>?_
 .refine cZ ?_;refine fM (fun hc1=>?_) fun hc1=>?_
  .refine aZ ?_;refine cX ?_;rw[hr,z8 ae hc1];simp only[er];omega
  refine bL ?_;exact⟨i+1,⟨ae,by rw[hr,Aa ae hc1]⟩,ae,(dr [])⟩
 refine aE ?_;intro u1;refine ay ?_;refine cX ?_;rw[hr,xu ae]
def Nn (T:List D->D->Prop):Prop:=∀(s:au) (b:Int),T [.str s,.int .u8 b] (.int .i64 ((aG s b).2.length:Nat))
def C741 (Y:Ctx):Prop:=Nn (bx Y 741)
noncomputable def J4:aC:=cP 227
def w742 {Y:Ctx}(hm:(Y.at 0).b7)(h667:Qn Y)(l:List au)   :dh Y J4 (.tup [cn.D (ea l).1,.bool (ea l).2]) [.sl 1 (l.map D.str)]:=by
 show bJ _ _ _ [⟨_,_⟩,_,_,_,_,_,_,_,_,_,_] _;refine ar ?_;refine fS ?_;intro u0;refine ax ?_;refine cF (fun hc0=>?_) fun hc0=>?_
 .refine ax ?_;refine aT (v:=cn.D gm) ?_;refine aI (cn.D gm) (he:=aQ) ?_;refine ay ?_;refine bF (aH ?_ (aj D.bool ?_));all_goals (rw[ea,ak ae];first|done|rfl)
 refine ay ?_;refine bH 0 (hb:=fun _=>ae) ?_;refine bD (v:=.str l[0]!) (hi:=fun _=>ae) ?_;refine aq (hc:=h667 l[0]!) ?_;refine bL ?_;refine bH 1 (hb:=fun _=>ae) ?_;refine bD (v:=.str l[1]!) (hi:=fun _=>ae) ?_;refine aq (hc:=h667 l[1]!) ?_;refine bL ?_;refine bH 2 (hb:=fun _=>ae) ?_;refine bD (v:=.str l[2]!) (hi:=fun _=>ae) ?_;refine aq (hc:=h667 l[2]!) ?_;refine fS ?_;refine bg (cn.D ⟨ef l[0]!,ef l[1]!,ef l[2]!,[],[]⟩) ?_;refine aZ ?_;refine aI (cn.D ⟨ef l[0]!,ef l[1]!,ef l[2]!,[],[]⟩) (he:=aQ) ?_;refine ay ?_;refine bF (aH ?_ (aj D.bool ?_));all_goals (rw[ea,aw ae];first|done|rfl)
def Np (T:List D->D->Prop):Prop:=∀(l:List au),T [.sl 1 (l.map D.str)] (.tup [cn.D (ea l).1,.bool (ea l).2])
def C742 (Y:Ctx):Prop:=Np (bx Y 742)
noncomputable def J0:aC:=cP 204
def w568 {Y:Ctx}(hm:(Y.at 0).b7)(h217:IG Y)(h470:tz Y)(h741:C741 Y)(h742:C742 Y)(s:au)  (hp0:s.length<=1048576):dh Y J0 (.tup [cn.D ((gf s).getD gm),.int .i64 (oK s)]) [.str s]:=by
 show bJ _ _ _ [⟨_,_⟩,_,_,_,_,_,_,_,_,_,_,_,_] _;have hb1:=kn s 43;have B3:=kn (aG s 43).2 45;have t1:=qx s 43;have t2:=qx (aG s 43).2 45;have hq:=TH s;have p1:=l8 s 43;have p2:=l8 (aG s 43).2 45;refine ar ?_;refine cZ ?_;refine aq (hc:=h741 s 43) ?_;refine aE ?_;refine fu (aG s 43).2.length ?_;refine aE ?_;refine kX (aG s 43).2.length ?_;rw[t1];refine aB ?_;refine aq (hc:=h741 (aG s 43).2 45) ?_;refine aE ?_;refine fu (aG (aG s 43).2 45).2.length ?_;refine aE ?_;refine kX (aG (aG s 43).2 45).2.length ?_;rw[t2];refine aq (hc:=h470 (aG (aG s 43).2 45).2 46 ae) ?_;refine aq (hc:=h742 (ai (aG (aG s 43).2 45).2 46)) ?_;rw[Ku];refine aA ?_;refine eX (cn.D _) ?_;refine ax ?_;refine aI (cn.D ⟨(ea (ai (aG (aG s 43).2 45).2 46)).1.major,(ea (ai (aG (aG s 43).2 45).2 46)).1.minor,(ea (ai (aG (aG s 43).2 45).2 46)).1.patch,[],[]⟩) (he:=aQ) ?_;refine bL ?_;refine ik ?_;refine aB ?_;refine ik ?_;refine ay ?_;refine cF (fun hc0=>?_) fun hc0=>?_
 .refine ax ?_;refine bg (cn.D gm) ?_;refine aI (cn.D gm) (he:=aQ) ?_;refine ay ?_;refine bF (aH ?_ (aj (D.int .i64) ?_));all_goals
   have hn:gf s=none:=by
    rw[hq,ak];rintro⟨⟨⟨a,b⟩,c⟩,d⟩;rcases hc0 with(h|h)|h
    .rw[a]at h;cases h
    .omega
    .omega
   simp only[oK,hn];first|done|rfl
 refine aD ?_;refine av (fun hc1=>?_) (fun hc1=>?_)
 .simp only[bd,bc]at hc1;have hd6:=Kr (s:=(aG s 43).2) (b:=45) hc1;refine ax ?_;refine fu 1 (hb:=fun _=>hd6.1) ?_;rw[hd6.2];refine aA ?_;refine aI (cn.D ⟨(ea (ai (aG (aG s 43).2 45).2 46)).1.major,(ea (ai (aG (aG s 43).2 45).2 46)).1.minor,(ea (ai (aG (aG s 43).2 45).2 46)).1.patch,(aG (aG s 43).2 45).1,[]⟩) (he:=aQ) ?_;refine aD ?_;refine av (fun hc2=>?_) (fun hc2=>?_)
  .simp only[bd,bc]at hc2;have hd7:=Kr (s:=s) (b:=43) hc2;refine ax ?_;refine fu 1 (hb:=fun _=>hd7.1) ?_;rw[hd7.2];refine aA ?_;first|refine aI (cn.D ⟨(ea (ai (aG (aG s 43).2 45).2 46)).1.major,(ea (ai (aG (aG s 43).2 45).2 46)).1.minor,(ea (ai (aG (aG s 43).2 45).2 46)).1.patch,(aG (aG s 43).2 45).1,(aG s 43).1⟩) (he:=aQ) ?_|refine aI (cn.D ⟨(ea (ai (aG (aG s 43).2 45).2 46)).1.major,(ea (ai (aG (aG s 43).2 45).2 46)).1.minor,(ea (ai (aG (aG s 43).2 45).2 46)).1.patch,[],(aG s 43).1⟩) (he:=aQ) ?_
   refine ay ?_;first|refine aT (v:=cn.D (dD s)) (hv:=fun _=>rfl) ?_|refine aT (v:=cn.D (dD s)) (hv:=fun _=>by rw[dD,hz6];rfl) ?_|refine aT (v:=cn.D (dD s)) (hv:=fun _=>by rw[dD,hz7];rfl) ?_|refine aT (v:=cn.D (dD s)) (hv:=fun _=>by rw[dD,hz6,hz7];rfl) ?_
   refine aq (hc:=h217 (dD s) ⟨by simp only[dD];omega,by simp only[dD];omega⟩) ?_;refine ax ?_;refine av (fun hc3=>?_) (fun hc3=>?_)
   .simp only[bd]at hc3;refine ax ?_;refine bg (cn.D gm) ?_;refine aI (cn.D gm) (he:=aQ) ?_;refine ay ?_;refine bF (aH ?_ (aj (D.int .i64) ?_));all_goals
     have hn:gf s=none:=by
      rw[hq,ak];rintro⟨_,d⟩;rw[hc3]at d;cases d
     simp only[oK,hn];first|done|rfl
   simp only[bK]at hc3;refine ax ?_;first|refine aT (v:=cn.D (dD s)) (hv:=fun _=>rfl) ?_|refine aT (v:=cn.D (dD s)) (hv:=fun _=>by rw[dD,hz6];rfl) ?_|refine aT (v:=cn.D (dD s)) (hv:=fun _=>by rw[dD,hz7];rfl) ?_|refine aT (v:=cn.D (dD s)) (hv:=fun _=>by rw[dD,hz6,hz7];rfl) ?_
   refine aI (cn.D (dD s)) (he:=aQ) ?_;refine ay ?_;refine bF (aH ?_ (aj (D.int .i64) ?_));all_goals
    have hn:gf s=some (dD s):=by
     rw[hq,aw ⟨⟨⟨by first|exact hc0.1.1|simpa using hc0.1.1,ae⟩,ae⟩,hc3⟩]
    simp only[oK,hn];first|done|rfl
  simp only[bK,aK]at hc2;have hz7:=Kq (s:=s) (b:=43) hc2;refine ay ?_;first|refine aT (v:=cn.D (dD s)) (hv:=fun _=>rfl) ?_|refine aT (v:=cn.D (dD s)) (hv:=fun _=>by rw[dD,hz6];rfl) ?_|refine aT (v:=cn.D (dD s)) (hv:=fun _=>by rw[dD,hz7];rfl) ?_|refine aT (v:=cn.D (dD s)) (hv:=fun _=>by rw[dD,hz6,hz7];rfl) ?_
  refine aq (hc:=h217 (dD s) ⟨by simp only[dD];omega,by simp only[dD];omega⟩) ?_;refine ax ?_;refine av (fun hc3=>?_) (fun hc3=>?_)
  .simp only[bd]at hc3;refine ax ?_;refine bg (cn.D gm) ?_;refine aI (cn.D gm) (he:=aQ) ?_;refine ay ?_;refine bF (aH ?_ (aj (D.int .i64) ?_));all_goals
    have hn:gf s=none:=by
     rw[hq,ak];rintro⟨_,d⟩;rw[hc3]at d;cases d
    simp only[oK,hn];first|done|rfl
  simp only[bK]at hc3;refine ax ?_;first|refine aT (v:=cn.D (dD s)) (hv:=fun _=>rfl) ?_|refine aT (v:=cn.D (dD s)) (hv:=fun _=>by rw[dD,hz6];rfl) ?_|refine aT (v:=cn.D (dD s)) (hv:=fun _=>by rw[dD,hz7];rfl) ?_|refine aT (v:=cn.D (dD s)) (hv:=fun _=>by rw[dD,hz6,hz7];rfl) ?_
  refine aI (cn.D (dD s)) (he:=aQ) ?_;refine ay ?_;refine bF (aH ?_ (aj (D.int .i64) ?_));all_goals
   have hn:gf s=some (dD s):=by
    rw[hq,aw ⟨⟨⟨by first|exact hc0.1.1|simpa using hc0.1.1,ae⟩,ae⟩,hc3⟩]
   simp only[oK,hn];first|done|rfl
 simp only[bK,aK]at hc1;have hz6:=Kq (s:=(aG s 43).2) (b:=45) hc1;refine aD ?_;refine av (fun hc2=>?_) (fun hc2=>?_)
 .simp only[bd,bc]at hc2;have hd7:=Kr (s:=s) (b:=43) hc2;refine ax ?_;refine fu 1 (hb:=fun _=>hd7.1) ?_;rw[hd7.2];refine aA ?_;first|refine aI (cn.D ⟨(ea (ai (aG (aG s 43).2 45).2 46)).1.major,(ea (ai (aG (aG s 43).2 45).2 46)).1.minor,(ea (ai (aG (aG s 43).2 45).2 46)).1.patch,(aG (aG s 43).2 45).1,(aG s 43).1⟩) (he:=aQ) ?_|refine aI (cn.D ⟨(ea (ai (aG (aG s 43).2 45).2 46)).1.major,(ea (ai (aG (aG s 43).2 45).2 46)).1.minor,(ea (ai (aG (aG s 43).2 45).2 46)).1.patch,[],(aG s 43).1⟩) (he:=aQ) ?_
  refine ay ?_;first|refine aT (v:=cn.D (dD s)) (hv:=fun _=>rfl) ?_|refine aT (v:=cn.D (dD s)) (hv:=fun _=>by rw[dD,hz6];rfl) ?_|refine aT (v:=cn.D (dD s)) (hv:=fun _=>by rw[dD,hz7];rfl) ?_|refine aT (v:=cn.D (dD s)) (hv:=fun _=>by rw[dD,hz6,hz7];rfl) ?_
  refine aq (hc:=h217 (dD s) ⟨by simp only[dD];omega,by simp only[dD];omega⟩) ?_;refine ax ?_;refine av (fun hc3=>?_) (fun hc3=>?_)
  .simp only[bd]at hc3;refine ax ?_;refine bg (cn.D gm) ?_;refine aI (cn.D gm) (he:=aQ) ?_;refine ay ?_;refine bF (aH ?_ (aj (D.int .i64) ?_));all_goals
    have hn:gf s=none:=by
     rw[hq,ak];rintro⟨_,d⟩;rw[hc3]at d;cases d
    simp only[oK,hn];first|done|rfl
  simp only[bK]at hc3;refine ax ?_;first|refine aT (v:=cn.D (dD s)) (hv:=fun _=>rfl) ?_|refine aT (v:=cn.D (dD s)) (hv:=fun _=>by rw[dD,hz6];rfl) ?_|refine aT (v:=cn.D (dD s)) (hv:=fun _=>by rw[dD,hz7];rfl) ?_|refine aT (v:=cn.D (dD s)) (hv:=fun _=>by rw[dD,hz6,hz7];rfl) ?_
  refine aI (cn.D (dD s)) (he:=aQ) ?_;refine ay ?_;refine bF (aH ?_ (aj (D.int .i64) ?_));all_goals
   have hn:gf s=some (dD s):=by
    rw[hq,aw ⟨⟨⟨by first|exact hc0.1.1|simpa using hc0.1.1,ae⟩,ae⟩,hc3⟩]
   simp only[oK,hn];first|done|rfl
 simp only[bK,aK]at hc2;have hz7:=Kq (s:=s) (b:=43) hc2;refine ay ?_;first|refine aT (v:=cn.D (dD s)) (hv:=fun _=>rfl) ?_|refine aT (v:=cn.D (dD s)) (hv:=fun _=>by rw[dD,hz6];rfl) ?_|refine aT (v:=cn.D (dD s)) (hv:=fun _=>by rw[dD,hz7];rfl) ?_|refine aT (v:=cn.D (dD s)) (hv:=fun _=>by rw[dD,hz6,hz7];rfl) ?_
 refine aq (hc:=h217 (dD s) ⟨by simp only[dD];omega,by simp only[dD];omega⟩) ?_;refine ax ?_;refine av (fun hc3=>?_) (fun hc3=>?_)
 .simp only[bd]at hc3;refine ax ?_;refine bg (cn.D gm) ?_;refine aI (cn.D gm) (he:=aQ) ?_;refine ay ?_;refine bF (aH ?_ (aj (D.int .i64) ?_));all_goals
   have hn:gf s=none:=by
    rw[hq,ak];rintro⟨_,d⟩;rw[hc3]at d;cases d
   simp only[oK,hn];first|done|rfl
 simp only[bK]at hc3;refine ax ?_;first|refine aT (v:=cn.D (dD s)) (hv:=fun _=>rfl) ?_|refine aT (v:=cn.D (dD s)) (hv:=fun _=>by rw[dD,hz6];rfl) ?_|refine aT (v:=cn.D (dD s)) (hv:=fun _=>by rw[dD,hz7];rfl) ?_|refine aT (v:=cn.D (dD s)) (hv:=fun _=>by rw[dD,hz6,hz7];rfl) ?_
 refine aI (cn.D (dD s)) (he:=aQ) ?_;refine ay ?_;refine bF (aH ?_ (aj (D.int .i64) ?_));all_goals
  have hn:gf s=some (dD s):=by
   rw[hq,aw ⟨⟨⟨by first|exact hc0.1.1|simpa using hc0.1.1,ae⟩,ae⟩,hc3⟩]
  simp only[oK,hn];first|done|rfl
def C568 (Y:Ctx):Prop:=zq (bx Y 568)
noncomputable def Fk:aC:=cP 202
def w494  (l:List au)(x:au)   :dh Y Fk (.int .i64 (wz l x 0)) [.sl 1 (l.map D.str),.str x]:=by
 show bJ _ _ _ [⟨_,_⟩,⟨_,_⟩,_,_,_,_,_,_] _;refine ar ?_;refine aD ?_;intro u0;refine ax ?_;refine ba hm (ι:=Nat) (fun i=>[⟨true,.sl 1 (l.map D.str)⟩,⟨true,.str x⟩,.un,⟨true,.int .i64 (i:Nat)⟩,⟨true,.int .i64 (l.length:Nat)⟩,.un,.un,.un]) (fun i=>[]) 4 (fun i=>i<=l.length/\wz l x 0=wz l x i) (fun i=>l.length-i) 0 ⟨ae,rfl⟩ (dr []) ?_;rintro i ⟨hi,hr⟩;refine ay ?_;refine cF (fun hc0=>?_) fun hc0=>?_
 .refine sy ?_;refine fM (fun hc1=>?_) fun hc1=>?_
  .refine aZ ?_;refine cX ?_;rw[hr,U5 ae hc1]
  refine aZ ?_;exact⟨i+1,⟨ae,by rw[hr,U6 ae hc1]⟩,ae,(dr [])⟩
 refine aD ?_;refine cX ?_;rw[hr,Ry ae]
def M0 (T:List D->D->Prop):Prop:=∀(l:List au) (x:au),T [.sl 1 (l.map D.str),.str x] (.int .i64 (wz l x 0))
def C494 (Y:Ctx):Prop:=M0 (bx Y 494)
noncomputable def yu:aC:=cP 160
def w246 {Y:Ctx}(hm:(Y.at 0).b7)(h494:C494 Y)(l:List au)(x:au)   :dh Y yu (.bool (decide (x∈l))) [.sl 1 (l.map D.str),.str x]:=by
 show bJ _ _ _ [⟨_,_⟩,⟨_,_⟩,_] _;refine ar ?_;refine aE ?_;refine aq (hc:=h494 l x) ?_;refine aB ?_;refine bU ?_;exact Rz l x
def Mr (T:List D->D->Prop):Prop:=∀(l:List au) (x:au),T [.sl 1 (l.map D.str),.str x] (.bool (decide (x∈l)))
def ZZ (Y:Ctx):Prop:=Mr (bx Y 246)
def Mq (T:List D->D->Prop):Prop:=∀(s:au) (n:Int),(s.length<=1048576)->(n=-1\/(1<=n/\n<=1000))->T [.str s,.str [32],.int .i64 n] (.sl 1 ((mg n s).map D.str))
def ZY (Y:Ctx):Prop:=Mq (bx Y 245)
def MQ (T:List D->D->Prop):Prop:=∀(l:List au),(l.length<=1048600)->T [.sl 1 (l.map D.str)] (.sl 1 (l.map D.str))
def C469 (Y:Ctx):Prop:=MQ (bx Y 469)
noncomputable def ke:aC:=cP 114
def w465 {Y:Ctx}(hm:(Y.at 1).b7)(h245:ZY (Y.at 1))(h246:ZZ (Y.at 1))(r:Ld)(w:au)(n:Nat)(op:Bool)(hp0:r.sm)(hp1:n<=1000)(hp2:op=true->1<=n):bJ (Y.at 1) ke.body (NQ ke 2 (.tup [Cj (ch w n op r.rest),.bool (ch w n op r.rest).isSome]) (Ld.D (r.after (ch w n op r.rest))):Ex->List cg->St->Prop) (fD ke (.ptr 0 2 0 0::[.str w,.int .i64 (n:Nat),.bool op])) ⟨1,[(0,.buf 2 [(Ld.D r)])]⟩:=by
 show bJ _ _ _ [⟨true,.ptr 0 2 0 0⟩,⟨true,.str w⟩,⟨true,.int .i64 (n:Nat)⟩,⟨true,.bool op⟩,.un,.un,.un,.un,.un,.un,.un] ⟨1,[(0,.buf 2 [(Ld.D r)])]⟩;refine ar ?_;refine lN ?_;refine ik ?_;refine ax ?_;refine cF (fun hc0=>?_) fun hc0=>?_
 .refine ax ?_;have hv:ch w n op r.rest=none:=by rw[Ld.Tk ae];rfl
  rw[hv];refine aB ?_;refine iA trivial eg (bR ah (aH ?_ (aj D.bool ?_))) ah ah ah;all_goals (first|done|rfl)
 refine aD ?_;have hll:=hp0.1;have hlt:r.at'<r.ls.length:=ae;have hwl:=P7 n op r.ls[r.at']! hp2;have hw1:op=true->mg n r.ls[r.at']! =ec n op r.ls[r.at']! :=fun h=>by rw[<-D0,aw h]
 have hw2:op=false->mg (-1) r.ls[r.at']! =ec n op r.ls[r.at']! :=fun h=>by rw[<-D0,ak (by rw[h];simp)]
 refine ax ?_;refine cF (fun hc1=>?_) fun hc1=>?_
 .refine sy ?_;refine bD (v:=.str r.ls[r.at']!) (hi:=fun _=>ae) ?_;refine aA ?_;first|(refine aq (hc:=h245 r.ls[r.at']! (n:Int) (hp0.2 _ (bE ae)) (.inr ⟨by have:=hp2 hc1;omega,ae⟩)) ?_;rw[hw1 hc1])|(refine aq (hc:=h245 r.ls[r.at']! (-1) (hp0.2 _ (bE ae)) (.inl rfl)) ?_;rw[hw2 hc1])
  refine aE ?_;refine bH 0 ?_;refine aE ?_;refine ik ?_;refine aB ?_;first|refine JC ?_|refine JD ?_
  refine ax ?_;refine ik ?_;refine aD ?_;refine aq (hc:=h246 _ _) ?_;refine ax ?_;refine cF (fun hc2=>?_) fun hc2=>?_
  .refine ax ?_;have hv:ch w n op r.rest=none:=by rw[Ld.sX hlt,ch,GY hc2 hwl]
   rw[hv];refine aB ?_;refine iA trivial eg (bR ah (aH ?_ (aj D.bool ?_))) ah ah ah;all_goals (first|done|rfl)
  refine cZ ?_;refine aI (Ld.D ⟨r.ls,r.at'+1⟩) (he:=aQ) ?_;refine ax ?_;have hv:ch w n op r.rest=some (ec n op r.ls[r.at']!,r.ls.drop (r.at'+1)):=by rw[Ld.sX hlt,ch,Df hc2]
  rw[hv];refine aE ?_;refine iA trivial eg (bR ah (aH ?_ (aj D.bool ?_))) ah ah ah;all_goals (first|done|rfl)
 refine fH ?_;refine bD (v:=.str r.ls[r.at']!) (hi:=fun _=>ae) ?_;refine aA ?_;first|(refine aq (hc:=h245 r.ls[r.at']! (n:Int) (hp0.2 _ (bE ae)) (.inr ⟨by have:=hp2 hc1;omega,ae⟩)) ?_;rw[hw1 hc1])|(refine aq (hc:=h245 r.ls[r.at']! (-1) (hp0.2 _ (bE ae)) (.inl rfl)) ?_;rw[hw2 hc1])
 refine aE ?_;refine bH 0 ?_;refine aE ?_;refine ik ?_;refine aB ?_;first|refine JC ?_|refine JD ?_
 refine ax ?_;refine ik ?_;refine aD ?_;refine aq (hc:=h246 _ _) ?_;refine ax ?_;refine cF (fun hc2=>?_) fun hc2=>?_
 .refine ax ?_;have hv:ch w n op r.rest=none:=by rw[Ld.sX hlt,ch,GY hc2 hwl]
  rw[hv];refine aB ?_;refine iA trivial eg (bR ah (aH ?_ (aj D.bool ?_))) ah ah ah;all_goals (first|done|rfl)
 refine cZ ?_;refine aI (Ld.D ⟨r.ls,r.at'+1⟩) (he:=aQ) ?_;refine ax ?_;have hv:ch w n op r.rest=some (ec n op r.ls[r.at']!,r.ls.drop (r.at'+1)):=by rw[Ld.sX hlt,ch,Df hc2]
 rw[hv];refine aE ?_;refine iA trivial eg (bR ah (aH ?_ (aj D.bool ?_))) ah ah ah;all_goals (first|done|rfl)
def T7 (Y:Ctx):Prop:=∀(r:Ld) (w:au) (n:Nat) (op:Bool),(r.sm)->(n<=1000)->(op=true->1<=n)->Y.fp 465 (Ld.D r) [.str w,.int .i64 (n:Nat),.bool op]/\Y.fv 465 (Ld.D r) [.str w,.int .i64 (n:Nat),.bool op]=.tup [Cj (ch w n op r.rest),.bool (ch w n op r.rest).isSome]/\Y.fs 465 (Ld.D r) [.str w,.int .i64 (n:Nat),.bool op]=Ld.D (r.after (ch w n op r.rest))
noncomputable def r8:aC:=cP 100
def w450 {Y:Ctx}(hm:(Y.at 3).b7)(ws:List au)(t:au)(m0:List (Nat×bW))(h242:Ql (Y.at 3))(h489:Uc (Y.at 3))(h664:Xz (Y.at 3))(hp0:tl m0 0 t)(hp1:look m0 1=some (.buf 1 (ws.map D.str)))(hp2:D7 ws t):bJ (Y.at 3) r8.body (jQ r8 (fun d m=>d=.tup []/\look m 0=some (.bld (some 9) (t++cv ws).length true)/\look m 9=some (.row (t++cv ws))):Ex->List cg->St->Prop) (fD r8 [.ptr 0 2 0 0,.own 1 1 0 ws.length]) ⟨3,m0⟩:=by
 show bJ _ _ _ [⟨true,.ptr 0 2 0 0⟩,⟨true,.own 1 1 0 ws.length⟩] ⟨3,m0⟩;obtain⟨⟨q1,q2⟩,q3,q4⟩:=hp2;have hlt:t++cv ws=t++aS [32] ws++[10]:=by unfold cv;simp
 refine ar ?_;refine ax ?_;refine aq (hc:=h242 ws [32] q2 aF q3) (ha:=fun _=>aj (fun d=>[d,D.str [32]]) (oZ (q:=D.str) (fun _=>rfl) hp1)) (hp:=fun _=>⟨mT (q:=D.str) (fun _=>rfl) hp1,rfl,trivial⟩) ?_;refine cx (nx':=4) (v:=.any) (m':=ri m0 0 6 (t++aS [32] ws)) (hc:=fun K' hK=>h489 _ _ K' ⟨_,0,t,rfl,hp0,fm (by decide:0<3) (Nat.le_add_right _ _),q1,ae,hK⟩) (hn:=aF) ?_;refine ay ?_;refine cx (nx':=9) (v:=.any) (m':=ri (ri m0 0 6 (t++aS [32] ws)) 0 9 (t++aS [32] ws++[10])) (hc:=fun K' hK=>h664 _ _ K' ⟨10,0,t++aS [32] ws,rfl,Us aF,fm (by decide:0<8) (Nat.le_add_right _ _),aJ,by rw[bP];exact q4,hK⟩) (hn:=aF) ?_;refine aA ?_

 refine bO trivial eg (bR ah (?_)) ah ⟨rfl,by rw[hlt];exact(wF aF).1,by rw[hlt];exact(wF aF).2⟩;rfl
noncomputable def Hk:aC:=cP 57
def w215 (h242:Ql Y)(h450:Xf Y)(h451:Xg Y)(h452:T5 Y)(r:Rec)  (hp0:xG r/\fA r):dh Y Hk (.str (gr r)) [Rec.D r]:=by
 show bJ _ _ _ [⟨_,_⟩,_,_,_,_,_,_,_,_,_,_,_,_,_,_,_,_,_,_,_,_,_,_,_,_,_,_,_,_,_,_] _;have hft:=CZ hp0;have q0:=hft.nm;have q00:=BM r.v hft.v;have hs:=hp0.2;refine ar ?_;refine fS ?_;refine aT (v:=cn.D r.v) ?_;refine aq (hc:=h451 r.v hft.v) ?_;refine df [(.str _),(.str _),(.str _)] ?_;refine cx (nx':=4) (v:=.tup []) (m':=[(9,.row (qL r)),(0,.buf 9 [Rec.D r]),(2,.bld (some 9) (qL r).length true)]) (hc:=fun K' hK=>h450 [dM,r.name,jW r.v] ([]) 2 8 _ _ K' (.inl ⟨false,aQ,rfl⟩) ah cb cb (.mk aF (by simp only[aP,a8,fB,fe];omega) (dT.2 ⟨aF,dT.2 ⟨ae,dT.2 ⟨ae,fun _ h=>nomatch h⟩⟩⟩) (by first|omega|(simp only[bP,a8];omega))) (by rw[show([])++cv [dM,r.name,jW r.v]=qL r from rfl];exact hK)) (hn:=aF) ?_;refine aD ?_;intro u0;refine ax ?_;refine ba hm (ι:=Nat) (fun i=>[.un,.un,⟨true,.ptr 0 9 0 0⟩,⟨true,.ptr 2 2 0 0⟩,⟨true,.int .i64 (i:Nat)⟩,⟨true,.int .i64 (r.needs.length:Nat)⟩,.un,⟨true,.sl 3 (r.needs.map bp.D)⟩,.un,.un,.un,.un,.un,.un,.un,.un,.un,.un,.un,.un,.un,.un,.un,.un,.un,.un,.un,.un,.un,.un,.un]) (fun i=>[(0,.buf 9 [Rec.D r]),(2,.bld (some 3) (kJ r i).length true),(3,.row (kJ r i))]) 10 (fun i=>i<=r.needs.length) (fun i=>r.needs.length-i) 0 ae (a7.to [(0,0),(2,2),(9,3)] ah ah eh (by refine bo.fW ah ah ah ?_;refine bo.bl 2 ah ah ah (aj List.length (by rw[TB])) rfl ?_;refine bo.rw 9 ah ah (by rw[TB]) ?_;exact bo.nil)) ?_;intro i hi;have q1:=Fq hft i hi;refine ay ?_;refine cF (fun hc0=>?_) fun hc0=>?_
 .refine ay ?_;have hnf:=hft.n _ (bE (show i<r.needs.length by omega));have hn3:=hnf.1.1;refine aA ?_;refine bD (v:=bp.D r.needs[i]!) (hi:=fun _=>ae) ?_;refine aA ?_;refine aI (bp.D r.needs[i]!) (he:=aQ) ?_;refine ax ?_;refine df [(.str _)] ?_;refine cx (nx':=16) (v:=.tup []) (m':=[(16,.row (kJ r i++ee r.needs[i]! 0)),(0,.buf 9 [Rec.D r]),(2,.bld (some 16) (kJ r i++ee r.needs[i]! 0).length true),(13,.buf 3 [bp.D r.needs[i]!])]) (hc:=fun K' hK=>h450 [ei] (kJ r i) 2 15 _ _ K' (.inr ⟨3,true,aQ,aQ⟩) ah cb cb (.mk aF (by simp only[aP,a8,fB,fe];omega) (dT.2 ⟨aF,fun _ h=>nomatch h⟩) (by first|omega|(simp only[bP,a8];omega))) (by rw[show(kJ r i)++cv [ei]=kJ r i++ee r.needs[i]! 0 from rfl];exact hK)) (hn:=aF) ?_;refine aD ?_;intro u1;refine ax ?_;refine ba hm (ι:=Nat) (fun j=>[.un,.un,⟨true,.ptr 0 9 0 0⟩,⟨true,.ptr 2 2 0 0⟩,⟨true,.int .i64 (i:Nat)⟩,⟨true,.int .i64 (r.needs.length:Nat)⟩,.un,⟨true,.sl 3 (r.needs.map bp.D)⟩,⟨true,.ptr 4 3 0 0⟩,⟨true,.int .i64 (j:Nat)⟩,⟨true,.int .i64 (r.needs[i]!.any.length:Nat)⟩,.un,⟨true,.sl 4 (r.needs[i]!.any.map bS.D)⟩,.un,.un,.un,.un,.un,.un,.un,.un,.un,.un,.un,.un,.un,.un,.un,.un,.un,.un]) (fun j=>[(0,.buf 9 [Rec.D r]),(4,.buf 3 [bp.D r.needs[i]!]),(2,.bld (some 3) (kJ r i++ee r.needs[i]! j).length true),(3,.row (kJ r i++ee r.needs[i]! j))]) 20 (fun j=>j<=r.needs[i]!.any.length) (fun j=>r.needs[i]!.any.length-j) 0 ae (a7.to [(0,0),(13,4),(2,2),(16,3)] ah ah eh (by refine bo.fW ah ah ah ?_;refine bo.nl 13 ah ah rfl ah ?_;refine bo.bl 2 ah ah ah (aj List.length (rfl)) rfl ?_;refine bo.rw 16 ah ah (rfl) ?_;exact bo.nil)) ?_;intro j hj;have q2:=Da hnf j ae;refine ay ?_;refine cF (fun hc1=>?_) fun hc1=>?_
  .refine ay ?_;have hwf:=hnf.1.2 _ (bE (show j<r.needs[i]!.any.length by omega));have q3:=Fz hwf;have q4:=hwf.1.1.1;have q5:=hwf.1.1.2;refine aA ?_;refine bD (v:=bS.D r.needs[i]!.any[j]!) (hi:=fun _=>ae) ?_;refine aA ?_;refine aI (bS.D r.needs[i]!.any[j]!) (he:=aQ) ?_;refine fS ?_;intro u2;refine ax ?_;refine cF (fun hc2=>?_) fun hc2=>?_
   .refine ay ?_;refine aq (hc:=h242 r.needs[i]!.any[j]!.feats [44] (by have:=hwf.2.1;omega) aF (fun t ht=>by have:=hwf.2.2 t ht;omega)) ?_;refine aZ ?_;refine cF (fun hc3=>?_) fun hc3=>?_
    .refine aB ?_;have hwl:cv [gn,r.needs[i]!.any[j]!.name,(aS [44] r.needs[i]!.any[j]!.feats),dF,r.needs[i]!.any[j]!.range]=jG r.needs[i]!.any[j]! :=by
      unfold jG jc;first|rw[aw (show r.needs[i]!.any[j]!.feats.length=0 by omega)]|rw[ak (show ¬r.needs[i]!.any[j]!.feats.length=0 by omega)]
      rw[hc3];rfl
     have hwj:=og (n:=r.needs[i]!) (j:=j) ae;refine aD ?_;refine df [(.str _),(.str _),(.str _),(.str _),(.str _)] ?_;refine cx (nx':=39) (v:=.tup []) (m':=[(45,.row (kJ r i++ee r.needs[i]! (j+1))),(0,.buf 9 [Rec.D r]),(4,.buf 3 [bp.D r.needs[i]!]),(2,.bld (some 45) (kJ r i++ee r.needs[i]! (j+1)).length true),(23,.buf 4 [bS.D r.needs[i]!.any[j]!])]) (hc:=fun K' hK=>h450 [gn,r.needs[i]!.any[j]!.name,(aS [44] r.needs[i]!.any[j]!.feats),dF,r.needs[i]!.any[j]!.range] (kJ r i++ee r.needs[i]! j) 2 44 _ _ K' (.inr ⟨3,true,aQ,aQ⟩) ah cb cb (.mk aF (by simp only[aP,a8,fB,fe];omega) (dT.2 ⟨aF,dT.2 ⟨ae,dT.2 ⟨by first|omega|decide,dT.2 ⟨aF,dT.2 ⟨ae,fun _ h=>nomatch h⟩⟩⟩⟩⟩) (by first|omega|(simp only[bP,a8];omega))) (by rw[show(kJ r i++ee r.needs[i]! j)++cv [gn,r.needs[i]!.any[j]!.name,(aS [44] r.needs[i]!.any[j]!.feats),dF,r.needs[i]!.any[j]!.range]=kJ r i++ee r.needs[i]! (j+1)from by rw[hwl,hwj,eu]];exact hK)) (hn:=aF) ?_;refine aZ ?_;exact⟨j+1,ae,ae,(a7.to [(0,0),(4,4),(2,2),(45,3)] ah ah eh (by refine bo.fW ah ah ah ?_;refine bo.nl 4 ah ah rfl ah ?_;refine bo.bl 2 ah ah ah (aj List.length (rfl)) rfl ?_;refine bo.rw 45 ah ah (rfl) ?_;exact bo.nil))⟩
    refine ax ?_;have hwl:cv [gn,r.needs[i]!.any[j]!.name,(aS [44] r.needs[i]!.any[j]!.feats),jb,r.needs[i]!.any[j]!.range]=jG r.needs[i]!.any[j]! :=by
     unfold jG jc;first|rw[aw (show r.needs[i]!.any[j]!.feats.length=0 by omega)]|rw[ak (show ¬r.needs[i]!.any[j]!.feats.length=0 by omega)]
     rw[hc3];rfl
    have hwj:=og (n:=r.needs[i]!) (j:=j) ae;refine aD ?_;refine df [(.str _),(.str _),(.str _),(.str _),(.str _)] ?_;refine cx (nx':=38) (v:=.tup []) (m':=[(44,.row (kJ r i++ee r.needs[i]! (j+1))),(0,.buf 9 [Rec.D r]),(4,.buf 3 [bp.D r.needs[i]!]),(2,.bld (some 44) (kJ r i++ee r.needs[i]! (j+1)).length true),(23,.buf 4 [bS.D r.needs[i]!.any[j]!])]) (hc:=fun K' hK=>h450 [gn,r.needs[i]!.any[j]!.name,(aS [44] r.needs[i]!.any[j]!.feats),jb,r.needs[i]!.any[j]!.range] (kJ r i++ee r.needs[i]! j) 2 43 _ _ K' (.inr ⟨3,true,aQ,aQ⟩) ah cb cb (.mk aF (by simp only[aP,a8,fB,fe];omega) (dT.2 ⟨aF,dT.2 ⟨ae,dT.2 ⟨by first|omega|decide,dT.2 ⟨aF,dT.2 ⟨ae,fun _ h=>nomatch h⟩⟩⟩⟩⟩) (by first|omega|(simp only[bP,a8];omega))) (by rw[show(kJ r i++ee r.needs[i]! j)++cv [gn,r.needs[i]!.any[j]!.name,(aS [44] r.needs[i]!.any[j]!.feats),jb,r.needs[i]!.any[j]!.range]=kJ r i++ee r.needs[i]! (j+1)from by rw[hwl,hwj,eu]];exact hK)) (hn:=aF) ?_;refine aZ ?_;exact⟨j+1,ae,ae,(a7.to [(0,0),(4,4),(2,2),(44,3)] ah ah eh (by refine bo.fW ah ah ah ?_;refine bo.nl 4 ah ah rfl ah ?_;refine bo.bl 2 ah ah ah (aj List.length (rfl)) rfl ?_;refine bo.rw 44 ah ah (rfl) ?_;exact bo.nil))⟩
   refine aD ?_;refine cF (fun hc3=>?_) fun hc3=>?_
   .refine aB ?_;have hwl:cv [gn,r.needs[i]!.any[j]!.name,[45],dF,r.needs[i]!.any[j]!.range]=jG r.needs[i]!.any[j]! :=by
     unfold jG jc;first|rw[aw (show r.needs[i]!.any[j]!.feats.length=0 by omega)]|rw[ak (show ¬r.needs[i]!.any[j]!.feats.length=0 by omega)]
     rw[hc3];rfl
    have hwj:=og (n:=r.needs[i]!) (j:=j) ae;refine aD ?_;refine df [(.str _),(.str _),(.str _),(.str _),(.str _)] ?_;refine cx (nx':=35) (v:=.tup []) (m':=[(41,.row (kJ r i++ee r.needs[i]! (j+1))),(0,.buf 9 [Rec.D r]),(4,.buf 3 [bp.D r.needs[i]!]),(2,.bld (some 41) (kJ r i++ee r.needs[i]! (j+1)).length true),(23,.buf 4 [bS.D r.needs[i]!.any[j]!])]) (hc:=fun K' hK=>h450 [gn,r.needs[i]!.any[j]!.name,[45],dF,r.needs[i]!.any[j]!.range] (kJ r i++ee r.needs[i]! j) 2 40 _ _ K' (.inr ⟨3,true,aQ,aQ⟩) ah cb cb (.mk aF (by simp only[aP,a8,fB,fe];omega) (dT.2 ⟨aF,dT.2 ⟨ae,dT.2 ⟨by first|omega|decide,dT.2 ⟨aF,dT.2 ⟨ae,fun _ h=>nomatch h⟩⟩⟩⟩⟩) (by first|omega|(simp only[bP,a8];omega))) (by rw[show(kJ r i++ee r.needs[i]! j)++cv [gn,r.needs[i]!.any[j]!.name,[45],dF,r.needs[i]!.any[j]!.range]=kJ r i++ee r.needs[i]! (j+1)from by rw[hwl,hwj,eu]];exact hK)) (hn:=aF) ?_;refine aZ ?_;exact⟨j+1,ae,ae,(a7.to [(0,0),(4,4),(2,2),(41,3)] ah ah eh (by refine bo.fW ah ah ah ?_;refine bo.nl 4 ah ah rfl ah ?_;refine bo.bl 2 ah ah ah (aj List.length (rfl)) rfl ?_;refine bo.rw 41 ah ah (rfl) ?_;exact bo.nil))⟩
   refine ax ?_;have hwl:cv [gn,r.needs[i]!.any[j]!.name,[45],jb,r.needs[i]!.any[j]!.range]=jG r.needs[i]!.any[j]! :=by
    unfold jG jc;first|rw[aw (show r.needs[i]!.any[j]!.feats.length=0 by omega)]|rw[ak (show ¬r.needs[i]!.any[j]!.feats.length=0 by omega)]
    rw[hc3];rfl
   have hwj:=og (n:=r.needs[i]!) (j:=j) ae;refine aD ?_;refine df [(.str _),(.str _),(.str _),(.str _),(.str _)] ?_;refine cx (nx':=34) (v:=.tup []) (m':=[(40,.row (kJ r i++ee r.needs[i]! (j+1))),(0,.buf 9 [Rec.D r]),(4,.buf 3 [bp.D r.needs[i]!]),(2,.bld (some 40) (kJ r i++ee r.needs[i]! (j+1)).length true),(23,.buf 4 [bS.D r.needs[i]!.any[j]!])]) (hc:=fun K' hK=>h450 [gn,r.needs[i]!.any[j]!.name,[45],jb,r.needs[i]!.any[j]!.range] (kJ r i++ee r.needs[i]! j) 2 39 _ _ K' (.inr ⟨3,true,aQ,aQ⟩) ah cb cb (.mk aF (by simp only[aP,a8,fB,fe];omega) (dT.2 ⟨aF,dT.2 ⟨ae,dT.2 ⟨by first|omega|decide,dT.2 ⟨aF,dT.2 ⟨ae,fun _ h=>nomatch h⟩⟩⟩⟩⟩) (by first|omega|(simp only[bP,a8];omega))) (by rw[show(kJ r i++ee r.needs[i]! j)++cv [gn,r.needs[i]!.any[j]!.name,[45],jb,r.needs[i]!.any[j]!.range]=kJ r i++ee r.needs[i]! (j+1)from by rw[hwl,hwj,eu]];exact hK)) (hn:=aF) ?_;refine aZ ?_;exact⟨j+1,ae,ae,(a7.to [(0,0),(4,4),(2,2),(40,3)] ah ah eh (by refine bo.fW ah ah ah ?_;refine bo.nl 4 ah ah rfl ah ?_;refine bo.bl 2 ah ah ah (aj List.length (rfl)) rfl ?_;refine bo.rw 40 ah ah (rfl) ?_;exact bo.nil))⟩
  refine aB ?_;have hnA:=wH (n:=r.needs[i]!) (j:=j) ae;have w4:=nU hnf.2.1;have w5:=hnf.2.2;have w6:=hnf.2.1;refine aB ?_;refine cF (fun hc4=>?_) fun hc4=>?_
  .refine aA ?_;have hwt:ij r.needs[i]!.when'=cv [eF,r.needs[i]!.when']:=ak hc4;refine ax ?_;refine df [(.str _),(.str _)] ?_;refine cx (nx':=25) (v:=.tup []) (m':=[(27,.row (kJ r i++(ee r.needs[i]! j++ij r.needs[i]!.when'))),(0,.buf 9 [Rec.D r]),(4,.buf 3 [bp.D r.needs[i]!]),(2,.bld (some 27) (kJ r i++(ee r.needs[i]! j++ij r.needs[i]!.when')).length true)]) (hc:=fun K' hK=>h450 [eF,r.needs[i]!.when'] (kJ r i++ee r.needs[i]! j) 2 26 _ _ K' (.inr ⟨3,true,aQ,aQ⟩) ah cb cb (.mk aF (by simp only[aP,a8,fB,fe];omega) (dT.2 ⟨aF,dT.2 ⟨ae,fun _ h=>nomatch h⟩⟩) (by first|omega|(simp only[bP,a8];omega))) (by rw[show(kJ r i++ee r.needs[i]! j)++cv [eF,r.needs[i]!.when']=kJ r i++(ee r.needs[i]! j++ij r.needs[i]!.when')from by rw[hwt,eu]];exact hK)) (hn:=aF) ?_;refine aD ?_;refine fM (fun hc5=>?_) fun hc5=>?_
   .refine aA ?_;have hot:qV r.needs[i]!.option=cv [cT,r.needs[i]!.option]:=ak hc5;refine ax ?_;refine df [(.str _),(.str _)] ?_;refine cx (nx':=33) (v:=.tup []) (m':=[(35,.row (kJ r (i+1))),(0,.buf 9 [Rec.D r]),(4,.buf 3 [bp.D r.needs[i]!]),(2,.bld (some 35) (kJ r (i+1)).length true)]) (hc:=fun K' hK=>h450 [cT,r.needs[i]!.option] (kJ r i++(ee r.needs[i]! j++ij r.needs[i]!.when')) 2 34 _ _ K' (.inr ⟨27,true,aQ,aQ⟩) ah cb cb (.mk aF (by simp only[aP,a8,fB,fe];omega) (dT.2 ⟨aF,dT.2 ⟨ae,fun _ h=>nomatch h⟩⟩) (by first|omega|(simp only[bP,a8];omega))) (by rw[show(kJ r i++(ee r.needs[i]! j++ij r.needs[i]!.when'))++cv [cT,r.needs[i]!.option]=kJ r (i+1)from by rw[mR ae,hnA,hot];simp only[eu,gN]];exact hK)) (hn:=aF) ?_;refine aZ ?_;exact⟨i+1,ae,ae,(a7.to [(0,0),(2,2),(35,3)] ah ah eh (by refine bo.fW ah ah ah ?_;refine bo.bl 2 ah ah ah (aj List.length (rfl)) rfl ?_;refine bo.rw 35 ah ah (rfl) ?_;exact bo.nil))⟩
   refine ay ?_;have hno:qV r.needs[i]!.option=[]:=aw (by simpa using hc5);refine aB ?_;exact⟨i+1,ae,ae,(a7.to [(0,0),(2,2),(27,3)] ah ah eh (by refine bo.fW ah ah ah ?_;refine bo.bl 2 ah ah ah (aj List.length (by rw[mR ae,hnA,hno];simp only[eu,gN])) rfl ?_;refine bo.rw 27 ah ah (by rw[mR ae,hnA,hno];simp only[eu,gN]) ?_;exact bo.nil))⟩
  refine ax ?_;have hnw:ij r.needs[i]!.when'=[]:=aw (by simpa using hc4);refine aB ?_;refine fM (fun hc5=>?_) fun hc5=>?_
  .refine aA ?_;have hot:qV r.needs[i]!.option=cv [cT,r.needs[i]!.option]:=ak hc5;refine ax ?_;refine df [(.str _),(.str _)] ?_;refine cx (nx':=28) (v:=.tup []) (m':=[(30,.row (kJ r (i+1))),(0,.buf 9 [Rec.D r]),(4,.buf 3 [bp.D r.needs[i]!]),(2,.bld (some 30) (kJ r (i+1)).length true)]) (hc:=fun K' hK=>h450 [cT,r.needs[i]!.option] (kJ r i++ee r.needs[i]! j) 2 29 _ _ K' (.inr ⟨3,true,aQ,aQ⟩) ah cb cb (.mk aF (by simp only[aP,a8,fB,fe];omega) (dT.2 ⟨aF,dT.2 ⟨ae,fun _ h=>nomatch h⟩⟩) (by first|omega|(simp only[bP,a8];omega))) (by rw[show(kJ r i++ee r.needs[i]! j)++cv [cT,r.needs[i]!.option]=kJ r (i+1)from by rw[mR ae,hnA,hot,hnw];simp only[eu,gN]];exact hK)) (hn:=aF) ?_;refine aZ ?_;exact⟨i+1,ae,ae,(a7.to [(0,0),(2,2),(30,3)] ah ah eh (by refine bo.fW ah ah ah ?_;refine bo.bl 2 ah ah ah (aj List.length (rfl)) rfl ?_;refine bo.rw 30 ah ah (rfl) ?_;exact bo.nil))⟩
  refine ay ?_;have hno:qV r.needs[i]!.option=[]:=aw (by simpa using hc5);refine aB ?_;exact⟨i+1,ae,ae,(a7.to [(0,0),(2,2),(3,3)] ah ah eh (by refine bo.fW ah ah ah ?_;refine bo.bl 2 ah ah ah (aj List.length (by rw[mR ae,hnA,hno,hnw];simp only[eu,gN])) rfl ?_;refine bo.rw 3 ah ah (by rw[mR ae,hnA,hno,hnw];simp only[eu,gN]) ?_;exact bo.nil))⟩
 refine aB ?_;have h33:i=r.needs.length:=ae;subst h33;refine ay ?_;intro u3;refine ax ?_;refine ba hm (ι:=Nat) (fun i=>[.un,.un,⟨true,.ptr 0 9 0 0⟩,⟨true,.ptr 2 2 0 0⟩,.un,.un,.un,.un,.un,.un,.un,.un,.un,.un,.un,.un,.un,.un,.un,.un,⟨true,.int .i64 (i:Nat)⟩,⟨true,.int .i64 (r.bars.length:Nat)⟩,.un,⟨true,.sl 3 (r.bars.map fq.D)⟩,.un,.un,.un,.un,.un,.un,.un]) (fun i=>[(0,.buf 9 [Rec.D r]),(2,.bld (some 3) (BI r i).length true),(3,.row (BI r i))]) 10 (fun i=>i<=r.bars.length) (fun i=>r.bars.length-i) 0 ae (a7.to [(0,0),(2,2),(3,3)] ah ah eh (by refine bo.fW ah ah ah ?_;refine bo.bl 2 ah ah ah (aj List.length (by rw[TC])) rfl ?_;refine bo.rw 3 ah ah (by rw[TC]) ?_;exact bo.nil)) ?_;intro i hi;have q1:=Fs hft i hi;refine ay ?_;refine cF (fun hc6=>?_) fun hc6=>?_
 .refine ay ?_;have q4:=hft.b _ (bE (show i<r.bars.length by omega));have q5:=q4.1;have q6:=q4.2.1;have q7:=q4.2.2;have hbt:uR r.bars[i]! =cv [fE,r.bars[i]!.name,r.bars[i]!.range]++ij r.bars[i]!.when':=rfl;have hxb:=H6 (r:=r) (i:=i) ae;have w7:=nU q7;refine aA ?_;refine bD (v:=fq.D r.bars[i]!) (hi:=fun _=>ae) ?_;refine aA ?_;refine aI (fq.D r.bars[i]!) (he:=aQ) ?_;refine aD ?_;refine df [(.str _),(.str _),(.str _)] ?_;refine cx (nx':=16) (v:=.tup []) (m':=[(20,.row (BI r i++cv [fE,r.bars[i]!.name,r.bars[i]!.range])),(0,.buf 9 [Rec.D r]),(2,.bld (some 20) (BI r i++cv [fE,r.bars[i]!.name,r.bars[i]!.range]).length true),(13,.buf 3 [fq.D r.bars[i]!])]) (hc:=fun K' hK=>h450 [fE,r.bars[i]!.name,r.bars[i]!.range] (BI r i) 2 19 _ _ K' (.inr ⟨3,true,aQ,aQ⟩) ah cb cb (.mk aF (by simp only[aP,a8,fB,fe];omega) (dT.2 ⟨aF,dT.2 ⟨ae,dT.2 ⟨ae,fun _ h=>nomatch h⟩⟩⟩) (by first|omega|(simp only[bP,a8];omega))) (by rw[show(BI r i)++cv [fE,r.bars[i]!.name,r.bars[i]!.range]=BI r i++cv [fE,r.bars[i]!.name,r.bars[i]!.range]from rfl];exact hK)) (hn:=aF) ?_;refine ax ?_;have w8:(cv [fE,r.bars[i]!.name,r.bars[i]!.range]).length<=2200000:=by unfold cv;simp only[aS,fE,bP,aP,a8];omega
  refine aB ?_;refine fM (fun hc7=>?_) fun hc7=>?_
  .refine aA ?_;have hwt:ij r.bars[i]!.when'=cv [eF,r.bars[i]!.when']:=ak hc7;refine ax ?_;refine df [(.str _),(.str _)] ?_;refine cx (nx':=26) (v:=.tup []) (m':=[(28,.row (BI r (i+1))),(0,.buf 9 [Rec.D r]),(2,.bld (some 28) (BI r (i+1)).length true),(13,.buf 3 [fq.D r.bars[i]!])]) (hc:=fun K' hK=>h450 [eF,r.bars[i]!.when'] (BI r i++cv [fE,r.bars[i]!.name,r.bars[i]!.range]) 2 27 _ _ K' (.inr ⟨20,true,aQ,aQ⟩) ah cb cb (.mk aF (by simp only[aP,a8,fB,fe];omega) (dT.2 ⟨aF,dT.2 ⟨ae,fun _ h=>nomatch h⟩⟩) (by first|omega|(simp only[bP,a8];omega))) (by rw[show(BI r i++cv [fE,r.bars[i]!.name,r.bars[i]!.range])++cv [eF,r.bars[i]!.when']=BI r (i+1)from by rw[hxb,hbt,hwt,eu]];exact hK)) (hn:=aF) ?_;refine aZ ?_;exact⟨i+1,ae,ae,(a7.to [(0,0),(2,2),(28,3)] ah ah eh (by refine bo.fW ah ah ah ?_;refine bo.bl 2 ah ah ah (aj List.length (rfl)) rfl ?_;refine bo.rw 28 ah ah (rfl) ?_;exact bo.nil))⟩
  refine ay ?_;have hno:ij r.bars[i]!.when'=[]:=aw (by simpa using hc7);refine aB ?_;exact⟨i+1,ae,ae,(a7.to [(0,0),(2,2),(20,3)] ah ah eh (by refine bo.fW ah ah ah ?_;refine bo.bl 2 ah ah ah (aj List.length (by rw[hxb,hbt,hno,gN])) rfl ?_;refine bo.rw 20 ah ah (by rw[hxb,hbt,hno,gN]) ?_;exact bo.nil))⟩
 refine aB ?_;have h33:i=r.bars.length:=ae;subst h33;refine ay ?_;intro u4;refine ax ?_;refine ba hm (ι:=Nat) (fun i=>[.un,.un,⟨true,.ptr 0 9 0 0⟩,⟨true,.ptr 2 2 0 0⟩,.un,.un,.un,.un,.un,.un,.un,.un,.un,.un,.un,.un,.un,.un,.un,.un,.un,.un,.un,.un,.un,.un,⟨true,.int .i64 (i:Nat)⟩,⟨true,.int .i64 (r.feats.length:Nat)⟩,.un,⟨true,.sl 2 (r.feats.map bZ.D)⟩,.un]) (fun i=>[(0,.buf 9 [Rec.D r]),(2,.bld (some 3) (DU r i).length true),(3,.row (DU r i))]) 10 (fun i=>i<=r.feats.length) (fun i=>r.feats.length-i) 0 ae (a7.to [(0,0),(2,2),(3,3)] ah ah eh (by refine bo.fW ah ah ah ?_;refine bo.bl 2 ah ah ah (aj List.length (by rw[TE])) rfl ?_;refine bo.rw 3 ah ah (by rw[TE]) ?_;exact bo.nil)) ?_;intro i hi;have q1:=L2 hft i hi;refine ay ?_;refine cF (fun hc8=>?_) fun hc8=>?_
 .refine ay ?_;have q4:=hft.f _ (bE (show i<r.feats.length by omega));have q5:=q4.1.1;have q6:=q4.2;have q8:∀t∈r.feats[i]!.of,t.length<=2097200:=fun t ht=>dm (q4.1.2.2 t ht) aF
  have hxf:=H7 (r:=r) (i:=i) ae;refine aA ?_;refine bD (v:=bZ.D r.feats[i]!) (hi:=fun _=>ae) ?_;refine aA ?_;refine aI (bZ.D r.feats[i]!) (he:=aQ) ?_;refine aB ?_;refine df [(.str _),(.str _)] ?_;refine ax ?_;refine xS (zs:=([b8,r.feats[i]!.name]++r.feats[i]!.of).map D.str) (n:=([b8,r.feats[i]!.name]++r.feats[i]!.of).length) (ha:=aJ) (he:=sA.sl) (hz:=by rw[bY];rfl) (hn:=by simp<;>omega) (hb:=by simp only[aP,a8,fB,fe];omega) ?_;refine cx (nx':=16) (v:=.tup []) (m':=[(21,.row (DU r (i+1))),(0,.buf 9 [Rec.D r]),(2,.bld (some 21) (DU r (i+1)).length true),(13,.buf 2 [bZ.D r.feats[i]!])]) (hc:=fun K' hK=>h450 ([b8,r.feats[i]!.name]++r.feats[i]!.of) (DU r i) 2 20 _ _ K' (.inr ⟨3,true,aQ,aQ⟩) ah cb cb (.mk (l:=r.feats[i]!.name::r.feats[i]!.of) aF (by simp only[aP,a8,fB,fe];omega) (dT.2 ⟨aF,dT.2 ⟨ae,q8⟩⟩) (by first|omega|(simp only[bP,a8];omega))) (by rw[show(DU r i)++cv ([b8,r.feats[i]!.name]++r.feats[i]!.of)=DU r (i+1)from by rw[hxf];rfl];exact hK)) (hn:=aF) ?_;refine aZ ?_;exact⟨i+1,ae,ae,(a7.to [(0,0),(2,2),(21,3)] ah ah eh (by refine bo.fW ah ah ah ?_;refine bo.bl 2 ah ah ah (aj List.length (rfl)) rfl ?_;refine bo.rw 21 ah ah (rfl) ?_;exact bo.nil))⟩
 refine ay ?_;have h33:i=r.feats.length:=ae;subst h33;have hne:DU r r.feats.length≠[]:=by
  rw[Fu];unfold gr qL cv;simp[aS,dM]
 refine cx (nx':=11) (v:=.str (DU r r.feats.length)) (m':=[(0,.buf 9 [Rec.D r])]) (hc:=fun K' hK=>h452 _ _ K' ⟨2,DU r r.feats.length,rfl,.inr ⟨3,true,aQ,aQ⟩,hne,hK⟩) (hn:=aF) ?_;refine ay ?_;refine c9 ?_;exact Fu r
def Ld.Fp {r:Ld}(h:r.sm):r.to r.rest=r:=by
 obtain⟨ls,n⟩:=r;have h1:n<=ls.length:=h.1.1
 grind [Ld.to,Ld.rest]
def Ld.yX {r:Ld}{q:List au}(h:q<:+r.ls):(r.to q).rest=q:=by
 obtain⟨ls,n⟩:=r;obtain⟨a,e⟩:=h;simp only at e;subst e;simp[Ld.rest,Ld.to]
theorem Ld.sm.to {r:Ld}(h:r.sm)(q:List au):(r.to q).sm:=⟨⟨Nat.sub_le _ _,h.1.2⟩,h.2⟩
def Ld.Bu (r:Ld):r.rest<:+r.ls:=List.drop_suffix _ _
def eR (w:au)(n:Nat)(op:Bool)(p:List au):List au:=match ch w n op p with
 |some (_,q)=>q
 |none=>p
theorem pO {w:au}{n:Nat}{op:Bool}{p l q:List au}(h:ch w n op p=some (l,q)):q<:+p:=by
 grind [dX]
def Ld.F1 {r:Ld}{p:List au}(hp:p<:+r.ls){w:au}{n:Nat}{op:Bool}:(r.to p).after (ch w n op p)=r.to (eR w n op p):=by
 grind [eR,ch,jB,Ld.after,Ld.to]
def yO {Y:Ctx}(h:T7 Y){r:Ld}(hr:r.sm){p:List au}(hp:p<:+r.ls){w:au}{n:Nat}{op:Bool}(hn:n<=1000)(ho:op=true->1<=n):
  Y.fp 465 (Ld.D (r.to p)) [.str w,.int .i64 (n:Nat),.bool op]/\Y.fv 465 (Ld.D (r.to p)) [.str w,.int .i64 (n:Nat),.bool op]=.tup [Cj (ch w n op p),.bool (ch w n op p).isSome]/\Y.fs 465 (Ld.D (r.to p)) [.str w,.int .i64 (n:Nat),.bool op]=Ld.D (r.to (eR w n op p)):=by
 have:=h (r.to p) w n op (hr.to p) hn ho;rw[Ld.yX hp,Ld.F1 hp]at this;exact this
def wM {w:au}{n:Nat}{op:Bool}{t:au}{l:List au}(h:dU w n op t=some l):(n=0\/l.length=n)/\[]∉l/\l=ec n op t:=by
 grind [dU]
theorem n9 (x:UInt8):∀(l:List au) (n:Nat),(aS [x] (l.drop n)).length<=(aS [x] l).length
 |[],n=>aJ
 |a::r,0=>aL _
 |[a],n+1=>by simp[aS]
 |a::b::r,n+1=>by
  have:=n9 x (b::r) n
  grind [ga]
def Ig {n:Nat}{op:Bool}{t w:au}(h:w∈ec n op t):w.length<=t.length:=by
 unfold ec at h;split at h
 .unfold qQ at h;split at h
  .exact dS t 32 h
  .rw[List.mem_append]at h;rcases h with h|h
   .exact dS t 32 (kl h)
   grind [n9,ai,jl]
 .exact dS t 32 h
def oS {r:Ld}(hr:r.sm){p:List au}(hp:p<:+r.ls){w:au}{n:Nat}{op:Bool}{l q:List au}(h:ch w n op p=some (l,q)):
  (n=0\/l.length=n)/\(∀u∈l,u.length<=1048576)/\q<:+r.ls/\q.length+1=p.length:=by
 obtain⟨t,rfl,ht⟩:=dX h;obtain⟨h1,_,h3⟩:=wM ht;refine⟨h1,fun u hu=>?_,(List.suffix_cons _ _).trans hp,rfl⟩;rw[h3]at hu;have:=Ig hu;have:=hr.2 t (hp.subset (.head _));omega
def Ld.back {r:Ld}{t:au}{q:List au}(h:(t::q)<:+r.ls):vD (Ld.D (r.to q)) 2 1 1 (.int .i64 (((r.to q).at':Nat) -1:Int))=Ld.D (r.to (t::q)):=by
 have:=h.length_le;show D.agg [.sl 1 (r.ls.map D.str),.int .i64 (((r.ls.length-q.length:Nat):Int) -1)]=D.agg [.sl 1 (r.ls.map D.str),.int .i64 ((r.ls.length-(q.length+1):Nat):Int)]
 grind
def jT {α:Type}{o:Option α}(h:o.isSome=true):∃a,o=some a:=Option.isSome_iff_exists.1 h
theorem jS {α:Type}{o:Option α}(h:o.isSome=false):o=none:=by cases o with
 |none=>rfl
 |some a=>cases h
def bS.N (x:bS):Go.Abs.D:=.agg [.str x.name,.str x.range,Vp x.feats,.bool x.bare]
def YM:∀l:List au,yz (Vp l) (.sl 1 (l.map D.str))
 |[]=>.nil 1
 |_::_=>.refl _
def bS.wk (x:bS):yz x.N x.D:=.ag (.cons (.refl _) (.cons (.refl _) (.cons (YM _) (.cons (.refl _) .nil))))
def bS.oM (x:bS):x.N.bI=true:=by
 simp only[bS.N,D.bI,bG,Dg,nb]
def vI {p:List au}(h:ch gn 5 true p=none):cE p=([],p):=by
 match p,h with
 |[],_=>rfl
 |t::r,h=>
  grind [ch,cE]
def Kw {p l q:List au}(h:ch gn 5 true p=some (l,q))(ho:kT l=false):cE p=([],p):=by
 grind [dX,cE]
theorem yd {p l q:List au}(h:ch gn 5 true p=some (l,q))(ho:kT l=true):cE p=(gM l::(cE q).1,(cE q).2):=by
 grind [dX,cE]
def nS (s:au)(b:Int):ai s b≠[]:=by
 grind [ep,ai]
def R3 {l:List au}(h:l≠[]):Vp l=.sl 1 (l.map D.str):=by
 match l,h with
 |_::_,_=>rfl
def kE (p:List au):(cy p).2<:+p:=by
 grind [cy,pO]
def Sk (p:List au):(oo p).2<:+p:=by
 grind [oo,pO]
noncomputable def kf:aC:=cP 117
def w468 {Y:Ctx}(hm:(Y.at 1).b7)(h465:T7 (Y.at 1))(r:Ld)  (hp0:r.sm):bJ (Y.at 1) kf.body (NQ kf 2 (.str (cy r.rest).1) (Ld.D (r.to (cy r.rest).2)):Ex->List cg->St->Prop) (fD kf (.ptr 0 2 0 0::[])) ⟨1,[(0,.buf 2 [(Ld.D r)])]⟩:=by
 show bJ _ _ _ [⟨true,.ptr 0 2 0 0⟩,.un,.un,.un,.un] ⟨1,[(0,.buf 2 [(Ld.D r)])]⟩;have hself:=Ld.Fp hp0;have hq1:=r.Bu;refine ar ?_;refine aB ?_;rw[show Ld.D r=Ld.D (r.to r.rest)by rw[hself]];refine aA ?_;refine nF (hc:=yO h465 hp0 (p:=r.rest) hq1 (w:=eF) (n:=2) (op:=true) aF aF) ?_;refine aA ?_;refine eX _ ?_;refine bL ?_;refine cF (fun hc0=>?_) fun hc0=>?_
 .refine ax ?_;obtain⟨⟨l,q2⟩,hq⟩:=jT hc0;have hnr:eR eF 2 true r.rest=q2:=by simp only[eR,hq]
  obtain⟨hl,hlm,hq2,hqp⟩:=oS hp0 hq1 hq;rw[hnr,hq];have hwp:cy r.rest=(l[1]!,q2):=by simp only[cy,hq]
  rw[hwp];refine aA ?_;refine bH 1 (hb:=fun _=>ae) ?_;refine bD (v:=.str l[1]!) (hi:=fun _=>ae) ?_;refine ay ?_;refine iA trivial eg (bR ah (aj D.str ?_)) ah ah ah;rfl
 refine ax ?_;have hq:=jS hc0;have hnr:eR eF 2 true r.rest=r.rest:=by simp only[eR,hq]
 rw[hnr];have hwp:cy r.rest=([],r.rest):=by simp only[cy,hq]
 rw[hwp];refine ay ?_;refine iA trivial eg (bR ah (aj D.str ?_)) ah ah ah;rfl
def T8 (Y:Ctx):Prop:=∀(r:Ld),(r.sm)->Y.fp 468 (Ld.D r) []/\Y.fv 468 (Ld.D r) []=.str (cy r.rest).1/\Y.fs 468 (Ld.D r) []=Ld.D (r.to (cy r.rest).2)
end Go.Abs
