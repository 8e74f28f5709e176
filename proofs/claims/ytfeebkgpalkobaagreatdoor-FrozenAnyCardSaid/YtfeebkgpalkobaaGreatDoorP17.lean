/- A part of the proofs. -/
import Derived.Test.YtfeebkgpalkobaaGreatDoorP08
set_option linter.all false
set_option maxRecDepth 60000
set_option maxHeartbeats 2000000
namespace Go.Abs
variable {Y:Ctx}(hm:(Y.at 0).cj)
noncomputable def ph:ax:=b8 40
def w110 {Y:Ctx}(hm:(Y.at 1).cj)(h109:rr (Y.at 1))(h135:RR (Y.at 1))(h296:Ww (Y.at 1))(h297:R9 (Y.at 1))(h298:Wx (Y.at 1))(g:Gs)(nm:aU)(v:aQ)(most:Int)(hp0:0<=g.i/\g.i<=970000)(hp1:0<=most/\most<=100):bO (Y.at 1) ph.body (AI ph 2 (Rec.D (ra g nm v most).1) (Gs.D (ra g nm v most).2):Ex->List bI->St->Prop) (fC ph (.ptr 0 2 0 0::[.str nm,aQ.D v,.int .i64 most])) ⟨1,[(0,.buf 2 [(Gs.D g)])]⟩:=by
 show bO _ _ _ [⟨true,.ptr 0 2 0 0⟩,⟨true,.str nm⟩,⟨true,aQ.D v⟩,⟨true,.int .i64 most⟩,.un,.un,.un,.un,.un,.un,.un] ⟨1,[(0,.buf 2 [(Gs.D g)])]⟩;refine ai ?_;refine aH ?_;refine cJ [.str nm,.int .i64 v.major,.int .i64 v.minor,.int .i64 v.patch,.str v.pre,.str v.build,.bM,.bM,.bM] ?_;refine aw ?_;refine bD (.agg [.str nm,.int .i64 v.major,.int .i64 v.minor,.int .i64 v.patch,.str v.pre,.str v.build,.bM,.bM,.bM]) (he:=bm) ?_;refine ar ?_;have rn:=(g.Ew (most+1)).1 ah;refine av ?_;refine ba (hb:=ah) ?_;refine ch (hc:=h109 g (most+1) ah (by first|omega|(simp only[Gs.au];omega)|(simp only[jT,Gs.au]at*;omega))) ?_;refine av ?_;refine a7 hm (ι:=Nat) (fun i=>[⟨true,.ptr 0 2 0 0⟩,⟨true,.str nm⟩,.un,.un,⟨true,.ptr 2 9 0 0⟩,.un,⟨true,.int .i64 ((g.val (most+1)) -((i:Nat):Int))⟩,.un,⟨true,.ptr 3 9 0 0⟩,.un,.un]) (fun i=>[(0,.buf 2 [Gs.D (nS nm g.au i).2]),(1,.buf 5 [aQ.D v]),(2,.buf 9 [.agg [.str [],.int .i64 0,.int .i64 0,.int .i64 0,.str [],.str [],.bM,.bM,.bM]]),(3,.buf 9 [.agg [.str nm,.int .i64 v.major,.int .i64 v.minor,.int .i64 v.patch,.str v.pre,.str v.build,.own 4 3 0 (nS nm g.au i).1.length,.bM,.bM]]),(4,.buf 3 ((nS nm g.au i).1.map cG.D))]) 13 (fun i=>i<=(g.val (most+1)).toNat) (fun i=>(g.val (most+1)).toNat-i) 0 ah (aO.to [(2,2),(6,3),(1,1)] ae ae (by repeat(first|exact aL.nil|refine aL.un ?_|refine aL.eq ae ?_|refine aL.nl ae ae ?_|refine aL.ni (Or.inr ⟨_,_,_,rfl⟩) ?_|refine aL.nl (aC (D.int .i64) (by push_cast;omega)) ae ?_)) (by refine aB.nl 0 ae ae ae cK ?_;refine aB.nl 1 ae ae ae cK ?_;refine aB.nl 2 ae ae ae cK ?_;refine aB.ni 6 ae ae (by exact⟨_,_,rfl,⟨_,rfl,⟨_,_,rfl,⟨rfl,rfl⟩,⟨_,_,rfl,⟨rfl,rfl⟩,⟨_,_,rfl,⟨rfl,rfl⟩,⟨_,_,rfl,⟨rfl,rfl⟩,⟨_,_,rfl,⟨rfl,rfl⟩,⟨_,_,rfl,⟨rfl,rfl⟩,⟨_,_,rfl,Or.inr ⟨_,_,_,rfl⟩,⟨_,_,rfl,Or.inl rfl,⟨_,_,rfl,Or.inl rfl,rfl⟩⟩⟩⟩⟩⟩⟩⟩⟩⟩,rfl⟩) ?_;refine aB.mt ae ae ae ae ?_;exact aB.nil)) ?_;intro i hi;have hns:=xE nm g.au i;have hnt:=HA (nS nm g.au i).2 nm;have hlen:=hns.2;obtain⟨hn1,hn2⟩:=hns.1;obtain⟨hn3,hn4⟩:=hnt;rw[Gs.dC]at hn1 hn2;refine aD ?_;refine cd (fun hc0=>?_) fun hc0=>?_
 .refine aF ?_;refine NK (v:=.own 4 3 0 (nS nm g.au i).1.length) ?_;refine av ?_;refine ch (hc:=h296 (nS nm g.au i).2 nm ah) ?_;refine bY [cG.D (kC (nS nm g.au i).2 nm).1] ?_;refine iU (q:=cG.D) (xs:=(nS nm g.au i).1) (e:=(kC (nS nm g.au i).2 nm).1) (hb:=ah) ?_;refine aw ?_;refine bD (.agg [.str nm,.int .i64 v.major,.int .i64 v.minor,.int .i64 v.patch,.str v.pre,.str v.build,.own 21 3 0 (nS nm g.au (i+1)).1.length,.bM,.bM]) (he:=bm) ?_;refine aF ?_;refine iN (hb:=ah) ?_;refine ar ?_;exact⟨i+1,ah,ah,(aO.to [(1,1),(2,2),(3,3),(21,4)] ae ae (by repeat(first|exact aL.nil|refine aL.un ?_|refine aL.eq ae ?_|refine aL.nl ae ae ?_|refine aL.ni (Or.inr ⟨_,_,_,rfl⟩) ?_|refine aL.nl (aC (D.int .i64) (by push_cast;omega)) ae ?_)) (by refine aB.nl 0 ae ae ae cK ?_;refine aB.nl 1 ae ae ae cK ?_;refine aB.nl 2 ae ae ae cK ?_;refine aB.eq 3 ae ae ae ?_;refine aB.nl 21 ae ae ae cK ?_;exact aB.nil))⟩
 refine ar ?_;obtain rfl:i=(g.val (most+1)).toNat:=ah;have hbs:=G1 (nS nm g.au (g.val (most+1)).toNat).2 nm;have hos:=sf (nS nm g.au (g.val (most+1)).toNat).2.au nm;have r8:=(dc (nS nm g.au (g.val (most+1)).toNat).2.au nm).2.eh 8 ah;refine dd 4 (hn:=bH (fun _=>rfl) _) (he:=by simp only[iS,eS,fL,jf,jx,cA,Nat.reduceEqDiff,aY,aS,cx,b9,bW,cv,cw,bq,bc,aM,bP,aE,reduceCtorEq,aT,aX,Nat.reduceAdd,Nat.reduceLeDiff,eo];exact rfl) (hm:=by simp only[iS,eS,fL,jf,jx,cA,Nat.reduceEqDiff,aY,aS,cx,b9,bW,cv,cw,bq,bc,aM,bP,aE,reduceCtorEq,aT,aX,Nat.reduceAdd,Nat.reduceLeDiff,eo];exact rfl) ?_;refine sA [(0,.buf 2 [Gs.D (nS nm g.au (g.val (most+1)).toNat).2]),(1,.buf 5 [aQ.D v]),(2,.buf 9 [.agg [.str [],.int .i64 0,.int .i64 0,.int .i64 0,.str [],.str [],.bM,.bM,.bM]]),(3,.buf 9 [.agg [.str nm,.int .i64 v.major,.int .i64 v.minor,.int .i64 v.patch,.str v.pre,.str v.build,.sl 3 ((nS nm g.au (g.val (most+1)).toNat).1.map cG.D),.sl 3 [],.sl 2 []]])] (.id ae (.id ae (.id ae (.bf ae (.cons (.ag (.cons (.refl _) (.cons (.refl _) (.cons (.refl _) (.cons (.refl _) (.cons (.refl _) (.cons (.refl _) (.cons (.refl _) (.cons (.nil 3) (.cons (.nil 2) .nil)))))))))) .nil) .nil)))) ?_;refine av ?_;refine ch (hc:=h109 (nS nm g.au (g.val (most+1)).toNat).2 5 ah (by first|omega|(simp only[Gs.au];omega)|(simp only[jT,Gs.au]at*;omega))) ?_;refine av ?_;refine Cd hm (ι:=Unit) (fun _=>[⟨true,.ptr 0 2 0 0⟩,⟨true,.str nm⟩,.un,.un,⟨true,.ptr 2 9 0 0⟩,.un,.un,.un,⟨true,.ptr 3 9 0 0⟩,.un,.un]) (fun _=>[(0,.buf 2 [Gs.D (eA (nS nm g.au (g.val (most+1)).toNat).2 nm).2]),(1,.buf 5 [aQ.D v]),(2,.buf 9 [.agg [.str [],.int .i64 0,.int .i64 0,.int .i64 0,.str [],.str [],.bM,.bM,.bM]]),(3,.buf 9 [.agg [.str nm,.int .i64 v.major,.int .i64 v.minor,.int .i64 v.patch,.str v.pre,.str v.build,.sl 3 ((nS nm g.au (g.val (most+1)).toNat).1.map cG.D),.sl 3 ((eA (nS nm g.au (g.val (most+1)).toNat).2 nm).1.map ma.D),.sl 2 []]])]) 100 (fun _=>True) ?_ ?_
 .refine ed (fun hc1=>?_) fun hc1=>?_
  .refine ar ?_;refine ch (hc:=h297 (nS nm g.au (g.val (most+1)).toNat).2.au nm (by first|assumption|(simp only[jT,Gs.au]at*;omega))) ?_;refine ak (hc:=h135) ?_;refine aw ?_;refine ak (hc:=h135) ?_;refine aw ?_;intro u0;refine ch (hc:=h109 (dc (nS nm g.au (g.val (most+1)).toNat).2.au nm).2 8 ah (by first|omega|(simp only[Gs.au];omega)|(simp only[jT,Gs.au]at*;omega))) ?_;refine aV ((dc (nS nm g.au (g.val (most+1)).toNat).2.au nm).2.val 8).toNat (hj:=fun _=>ah) (hb:=fun _=>by simp[lU];omega) ?_;refine aW (v:=.str lU[((dc (nS nm g.au (g.val (most+1)).toNat).2.au nm).2.val 8).toNat]!) (hi:=fun _=>by simp[lU];omega) ?_;refine cJ [.str (dc (nS nm g.au (g.val (most+1)).toNat).2.au nm).1,.str lU[((dc (nS nm g.au (g.val (most+1)).toNat).2.au nm).2.val 8).toNat]!,.str []] ?_;refine bY [ma.D ⟨(dc (nS nm g.au (g.val (most+1)).toNat).2.au nm).1,lU[((dc (nS nm g.au (g.val (most+1)).toNat).2.au nm).2.val 8).toNat]!,[]⟩] ?_;refine aw ?_;refine bD (.agg [.str nm,.int .i64 v.major,.int .i64 v.minor,.int .i64 v.patch,.str v.pre,.str v.build,.sl 3 ((nS nm g.au (g.val (most+1)).toNat).1.map cG.D),.own 29 3 0 1,.sl 2 []]) (he:=bm) ?_;refine av ?_;have hB:(eA (nS nm g.au (g.val (most+1)).toNat).2 nm)=([⟨(dc (nS nm g.au (g.val (most+1)).toNat).2.au nm).1,lU[((dc (nS nm g.au (g.val (most+1)).toNat).2.au nm).2.val 8).toNat]!,[]⟩],(dc (nS nm g.au (g.val (most+1)).toNat).2.au nm).2.au):=ay hc1;rw[hB];exact⟨(),trivial,(aO.fz 29 ae cK QE QE (aO.to [(1,1),(2,2),(3,3)] ae ae (by repeat(first|exact aL.nil|refine aL.un ?_|refine aL.eq ae ?_|refine aL.nl ae ae ?_|refine aL.ni (Or.inr ⟨_,_,_,rfl⟩) ?_)) (by refine aB.nl 0 ae ae ae cK ?_;refine aB.nl 1 ae ae ae cK ?_;refine aB.nl 2 ae ae ae cK ?_;refine aB.nl 3 ae ae ae cK ?_;exact aB.nil)))⟩
  refine av ?_;have hB:(eA (nS nm g.au (g.val (most+1)).toNat).2 nm)=([],(nS nm g.au (g.val (most+1)).toNat).2.au):=aj hc1;rw[hB];exact⟨(),trivial,(aO.to [(1,1),(2,2),(3,3)] ae ae (by repeat(first|exact aL.nil|refine aL.un ?_|refine aL.eq ae ?_|refine aL.nl ae ae ?_|refine aL.ni (Or.inr ⟨_,_,_,rfl⟩) ?_)) (by refine aB.nl 0 ae ae ae cK ?_;refine aB.nl 1 ae ae ae cK ?_;refine aB.nl 2 ae ae ae cK ?_;refine aB.nl 3 ae ae ae cK ?_;exact aB.nil))⟩
 .rintro _-
  have hfs:=Hj (eA (nS nm g.au (g.val (most+1)).toNat).2 nm).2 (nS nm g.au (g.val (most+1)).toNat).1;refine ar ?_;refine ch (hc:=h109 (eA (nS nm g.au (g.val (most+1)).toNat).2 nm).2 2 ah (by first|omega|(simp only[Gs.au];omega)|(simp only[jT,Gs.au]at*;omega))) ?_;refine av ?_;refine cd (fun hc2=>?_) fun hc2=>?_
  .refine aw ?_;have hF:(kq (eA (nS nm g.au (g.val (most+1)).toNat).2 nm).2 (nS nm g.au (g.val (most+1)).toNat).1)=([(kT (eA (nS nm g.au (g.val (most+1)).toNat).2 nm).2.au (nS nm g.au (g.val (most+1)).toNat).1).1],(kT (eA (nS nm g.au (g.val (most+1)).toNat).2 nm).2.au (nS nm g.au (g.val (most+1)).toNat).1).2):=ay hc2;refine av ?_;refine az (v:=.sl 3 ((nS nm g.au (g.val (most+1)).toNat).1.map cG.D)) ?_;refine ch (hc:=h298 (eA (nS nm g.au (g.val (most+1)).toNat).2 nm).2.au (nS nm g.au (g.val (most+1)).toNat).1 (by first|assumption|(simp only[jT,Gs.au]at*;omega)) ⟨M1 nm g.au _,ah⟩) ?_;refine bY [cZ.D (kT (eA (nS nm g.au (g.val (most+1)).toNat).2 nm).2.au (nS nm g.au (g.val (most+1)).toNat).1).1] ?_;refine aw ?_;refine bD (.agg [.str nm,.int .i64 v.major,.int .i64 v.minor,.int .i64 v.patch,.str v.pre,.str v.build,.sl 3 ((nS nm g.au (g.val (most+1)).toNat).1.map cG.D),.sl 3 ((eA (nS nm g.au (g.val (most+1)).toNat).2 nm).1.map ma.D),.own 107 2 0 1]) (he:=bm) ?_;refine av ?_;refine az (v:=.agg [.str nm,.int .i64 v.major,.int .i64 v.minor,.int .i64 v.patch,.str v.pre,.str v.build,.sl 3 ((nS nm g.au (g.val (most+1)).toNat).1.map cG.D),.sl 3 ((eA (nS nm g.au (g.val (most+1)).toNat).2 nm).1.map ma.D),.own 107 2 0 1]) ?_;refine bD (.agg [.str nm,.int .i64 v.major,.int .i64 v.minor,.int .i64 v.patch,.str v.pre,.str v.build,.sl 3 ((nS nm g.au (g.val (most+1)).toNat).1.map cG.D),.sl 3 ((eA (nS nm g.au (g.val (most+1)).toNat).2 nm).1.map ma.D),.own 107 2 0 1]) (he:=bm) ?_;refine aw ?_;refine dd 107 ?_;refine aw ?_;refine hZ trivial pz (dG ae (?_)) (by rw[show ra g nm v most=(⟨nm,v,(nS nm g.au (g.val (most+1)).toNat).1,(eA (nS nm g.au (g.val (most+1)).toNat).2 nm).1,(kq (eA (nS nm g.au (g.val (most+1)).toNat).2 nm).2 (nS nm g.au (g.val (most+1)).toNat).1).1⟩,(kq (eA (nS nm g.au (g.val (most+1)).toNat).2 nm).2 (nS nm g.au (g.val (most+1)).toNat).1).2)from rfl,hF];exact rfl) ae ae;rw[show ra g nm v most=(⟨nm,v,(nS nm g.au (g.val (most+1)).toNat).1,(eA (nS nm g.au (g.val (most+1)).toNat).2 nm).1,(kq (eA (nS nm g.au (g.val (most+1)).toNat).2 nm).2 (nS nm g.au (g.val (most+1)).toNat).1).1⟩,(kq (eA (nS nm g.au (g.val (most+1)).toNat).2 nm).2 (nS nm g.au (g.val (most+1)).toNat).1).2)from rfl,hF];rfl
  refine aw ?_;have hF:(kq (eA (nS nm g.au (g.val (most+1)).toNat).2 nm).2 (nS nm g.au (g.val (most+1)).toNat).1)=([],(eA (nS nm g.au (g.val (most+1)).toNat).2 nm).2.au):=aj hc2;refine aw ?_;refine az (v:=.agg [.str nm,.int .i64 v.major,.int .i64 v.minor,.int .i64 v.patch,.str v.pre,.str v.build,.sl 3 ((nS nm g.au (g.val (most+1)).toNat).1.map cG.D),.sl 3 ((eA (nS nm g.au (g.val (most+1)).toNat).2 nm).1.map ma.D),.sl 2 []]) ?_;refine bD (.agg [.str nm,.int .i64 v.major,.int .i64 v.minor,.int .i64 v.patch,.str v.pre,.str v.build,.sl 3 ((nS nm g.au (g.val (most+1)).toNat).1.map cG.D),.sl 3 ((eA (nS nm g.au (g.val (most+1)).toNat).2 nm).1.map ma.D),.sl 2 []]) (he:=bm) ?_;refine av ?_;refine hZ trivial pz (dG ae (?_)) (by rw[show ra g nm v most=(⟨nm,v,(nS nm g.au (g.val (most+1)).toNat).1,(eA (nS nm g.au (g.val (most+1)).toNat).2 nm).1,(kq (eA (nS nm g.au (g.val (most+1)).toNat).2 nm).2 (nS nm g.au (g.val (most+1)).toNat).1).1⟩,(kq (eA (nS nm g.au (g.val (most+1)).toNat).2 nm).2 (nS nm g.au (g.val (most+1)).toNat).1).2)from rfl,hF];exact rfl) ae ae;rw[show ra g nm v most=(⟨nm,v,(nS nm g.au (g.val (most+1)).toNat).1,(eA (nS nm g.au (g.val (most+1)).toNat).2 nm).1,(kq (eA (nS nm g.au (g.val (most+1)).toNat).2 nm).2 (nS nm g.au (g.val (most+1)).toNat).1).1⟩,(kq (eA (nS nm g.au (g.val (most+1)).toNat).2 nm).2 (nS nm g.au (g.val (most+1)).toNat).1).2)from rfl,hF];rfl
noncomputable def ya:ax:=b8 223
def w812 (h357:JC Y)(h815:SB Y)(l:List aU)(al:Bool)   :dh Y ya (.bool (kg l al)) [.sl 1 (l.map D.str),.bool al]:=by
 show bO _ _ _ [⟨_,_⟩,⟨_,_⟩,_,_,_,_] _;refine ai ?_;refine aH ?_;refine a7 hm (ι:=Nat) (fun i=>[⟨true,.sl 1 (l.map D.str)⟩,⟨true,.bool al⟩,.un,⟨true,.int .i64 (i:Nat)⟩,.un,.un]) (fun i=>[]) 2 (fun i=>i<=l.length/\kg l al=(cF (fun i=>fj l[i]!) i l.length&&((decide (l.length<=6)&&rising l)&&(al ||decide (l.length=0))))) (fun i=>l.length-i) 0 ⟨ah,(wf_2 l al).symm⟩ (du []) ?_;rintro i ⟨hi,hr⟩;refine aD ?_;intro u0;refine av ?_;refine cd (fun hc0=>?_) fun hc0=>?_
 .refine bF ?_;refine ak (hc:=h357 _) ?_;refine av ?_;refine wp_cond (fun hc1=>?_) (fun hc1=>?_)
  .simp only[cW]at hc1;refine aH ?_;refine bG ?_;rw[hr,aN ah,hc1];rfl
  simp only[dS]at hc1;refine dj ?_;exact⟨i+1,⟨ah,by rw[hr,aN ah,hc1];rfl⟩,ah,(du [])⟩
 refine aD ?_;intro u1;refine ar ?_;refine ak (hc:=h815 _) ?_;refine aD ?_;refine j6 ?_;refine aH ?_;refine bG ?_;rw[hr,b7 ah,eJ,mQ.2 (show((l.length:Nat):Int)<=6↔l.length<=6 by omega),mQ.2 (show((l.length:Nat):Int)=0↔l.length=0 by omega)]
noncomputable def F2:ax:=b8 202
def w669 {Y:Ctx}(hm:(Y.at 0).cj)(h216:EW Y)(h572:Sn Y)(h812:XS Y)(r:Rec)(w:dY)(al:Bool)  (hp0:w.sm):dh Y F2 (.int .i64 (jK r w al)) [Rec.D r,dY.D w,.bool al]:=by
 show bO _ _ _ [⟨_,_⟩,⟨_,_⟩,⟨_,_⟩,_,_,_,_,_,_,_] _;refine ai ?_;refine dj ?_;refine ak (hc:=h216 _) ?_;refine ar ?_;refine ed (fun hc0=>?_) fun hc0=>?_
 .refine aD ?_;refine cq ?_;have hw:fT r w.name w.range=4:=by rw[fT,ay hc0]
  rw[jK,ay (by rw[hw];decide),hw]
 refine dj ?_;refine ed (fun hc1=>?_) fun hc1=>?_
 .refine aD ?_;refine cq ?_;have hw:fT r w.name w.range=8:=by rw[fT,aj (by simp[hc0]),ay hc1]
  rw[jK,ay (by rw[hw];decide),hw]
 refine ar ?_;refine ak (hc:=h572 w.range hp0.1.2) ?_;refine ar ?_;refine wp_cond (fun hc2=>?_) (fun hc2=>?_)
 .try simp only[jU]at hc2
  refine aD ?_;refine cq ?_;have hw:fT r w.name w.range=6:=by rw[fT,aj (by simp[hc0]),aj hc1,ay hc2]
  rw[jK,ay (by rw[hw];decide),hw]
 simp only[dS]at hc2;have hw0:fT r w.name w.range=0:=by rw[fT,aj (by simp[hc0]),aj hc1,aj (by simp[hc2])]
 refine aF ?_;refine ak (hc:=h812 w.feats al) ?_;refine ar ?_;refine ed (fun hc3=>?_) fun hc3=>?_
 .refine aD ?_;refine cq ?_;rw[jK,aj (by simp[hw0]),ay hc3]
 refine aH ?_;refine cq ?_;rw[jK,aj (by simp[hw0]),aj (by simp[hc3])]
noncomputable def FZ:ax:=b8 183
def w457 (h357:JC Y)(h669:Xu Y)(h670:Sx Y)(r:Rec)(n:cG)  (hp0:n.sm):dh Y FZ (.int .i64 (iP r n)) [Rec.D r,cG.D n]:=by
 show bO _ _ _ [⟨_,_⟩,⟨_,_⟩,_,_,_,_,_,_,_,_,_,_,_] _;refine ai ?_;refine eW ?_;intro u0;refine av ?_;refine cd (fun hc0=>?_) fun hc0=>?_
 .refine aD ?_;refine cq ?_;rw[iP,ay ah]
 refine aH ?_;intro u1;refine av ?_;refine cd (fun hc1=>?_) fun hc1=>?_
 .refine aD ?_;refine cq ?_;rw[iP,aj ah,ay ah]
 refine aD ?_;refine a7 hm (ι:=Nat) (fun i=>[.un,.un,.un,⟨true,.ptr 1 3 0 0⟩,.un,.un,⟨true,.int .i64 (i:Nat)⟩,.un,⟨true,.ptr 0 9 0 0⟩,.un,.un,.un,.un]) (fun i=>[(0,.buf 9 [Rec.D r]),(1,.buf 3 [cG.D n])]) 12 (fun i=>i<=n.any.length/\mD r n.any=e8 (fun i=>jK r n.any[i]! (decide ((n.any.length:Int)=1))) i n.any.length) (fun i=>n.any.length-i) 0 ⟨ah,rfl⟩ (du [(0,0),(1,1)]) ?_;rintro i ⟨hi,hr⟩;refine aH ?_;intro u2;refine av ?_;refine cd (fun hc2=>?_) fun hc2=>?_
 .refine bF ?_;refine aV i ?_;first|refine aW (v:=(dY.D _)) ?_|refine fw (v:=(dY.D _)) ?_
  refine av ?_;refine j6 ?_;refine aw ?_;refine ak (hc:=h669 r n.any[i]! _ (hp0.1 _ (aq ah))) ?_;refine aH ?_;refine ed (fun hc3=>?_) fun hc3=>?_
  .refine bF ?_;refine cq ?_;have hw:mD r n.any=jK r n.any[i]! (decide ((n.any.length:Int)=1)):=by rw[hr,jW ah hc3]
   rw[iP,aj ah,aj ah,ay (by rw[hw];exact hc3),hw]
  refine dj ?_;exact⟨i+1,⟨ah,by rw[hr,mX ah hc3]⟩,ah,(du [(0,0),(1,1)])⟩
 refine aF ?_;have hw0:mD r n.any=0:=by rw[hr,mW ah]
 refine av ?_;refine ak (hc:=h670 n.when' hp0.2.1) ?_;refine av ?_;refine bC (fun hc4=>?_) (fun hc4=>?_)
 .try simp only[jU]at hc4
  refine aD ?_;refine cq ?_;rw[iP,aj ah,aj ah,aj (by simp[hw0]),ay hc4]
 simp only[dS]at hc4;refine eW ?_;refine ak (hc:=h357 _) ?_;refine ar ?_;refine bC (fun hc5=>?_) (fun hc5=>?_)
 .try simp only[jU]at hc5
  refine aD ?_;refine cq ?_;rw[iP,aj ah,aj ah,aj (by simp[hw0]),aj (by simp[hc4]),ay hc5]
 simp only[ey,dS,bU]at hc5;refine aD ?_;refine cq ?_;rw[iP,aj ah,aj ah,aj (by simp[hw0]),aj (by simp[hc4]),aj (by rintro⟨g1,g2⟩;rcases hc5 with h|h;exact g1 h;rw[g2]at h;cases h)]
noncomputable def Kv:ax:=b8 184
def w458 {Y:Ctx}(hm:(Y.at 0).cj)(h216:EW Y)(h572:Sn Y)(h670:Sx Y)(r:Rec)(b:ma)  (hp0:b.sm):dh Y Kv (.int .i64 (oQ r b)) [Rec.D r,ma.D b]:=by
 show bO _ _ _ [⟨_,_⟩,⟨_,_⟩,_,_,_,_,_,_,_] _;refine ai ?_;refine dj ?_;refine ak (hc:=h216 _) ?_;refine ar ?_;refine ed (fun hc0=>?_) fun hc0=>?_
 .refine aD ?_;refine cq ?_;have hw:fT r b.name b.range=4:=by rw[fT,ay hc0]
  rw[oQ,ay (by rw[hw];decide),hw]
 refine dj ?_;refine ed (fun hc1=>?_) fun hc1=>?_
 .refine aD ?_;refine cq ?_;have hw:fT r b.name b.range=8:=by rw[fT,aj (by simp[hc0]),ay hc1]
  rw[oQ,ay (by rw[hw];decide),hw]
 refine ar ?_;refine ak (hc:=h572 b.range hp0.2.1) ?_;refine ar ?_;refine wp_cond (fun hc2=>?_) (fun hc2=>?_)
 .try simp only[jU]at hc2
  refine aD ?_;refine cq ?_;have hw:fT r b.name b.range=6:=by rw[fT,aj (by simp[hc0]),aj hc1,ay hc2]
  rw[oQ,ay (by rw[hw];decide),hw]
 simp only[dS]at hc2;have hw0:fT r b.name b.range=0:=by rw[fT,aj (by simp[hc0]),aj hc1,aj (by simp[hc2])]
 refine ar ?_;refine ak (hc:=h670 b.when' hp0.2.2) ?_;refine ar ?_;refine ed (fun hc3=>?_) fun hc3=>?_
 .refine aD ?_;refine cq ?_;rw[oQ,aj (by simp[hw0]),ay hc3]
 refine aH ?_;refine cq ?_;rw[oQ,aj (by simp[hw0]),aj (by simp[hc3])]
noncomputable def BO:ax:=b8 207
def w673  (r:Rec)(x:aU)   :dh Y BO (.bool (Ko r.needs x)) [Rec.D r,.str x]:=by
 show bO _ _ _ [⟨_,_⟩,⟨_,_⟩,_,_,_,_,_] _;refine ai ?_;refine bF ?_;refine a7 hm (ι:=Nat) (fun i=>[.un,⟨true,.str x⟩,.un,⟨true,.int .i64 (i:Nat)⟩,⟨true,.ptr 0 9 0 0⟩,.un,.un]) (fun i=>[(0,.buf 9 [Rec.D r])]) 3 (fun i=>i<=r.needs.length/\Ko r.needs x=(r.needs.drop i).any (fun n=>decide (n.option=x))) (fun i=>r.needs.length-i) 0 ⟨ah,rfl⟩ (du [(0,0)]) ?_;rintro i ⟨hi,hr⟩;refine aH ?_;intro u0;refine av ?_;refine cd (fun hc0=>?_) fun hc0=>?_
 .refine aH ?_;refine aV i ?_;refine aD ?_;refine ed (fun hc1=>?_) fun hc1=>?_
  .refine aH ?_;refine bG ?_;rw[hr,AL (c:=fun n:cG=>decide (n.option=x)) ah (cX hc1)]
  refine dj ?_;exact⟨i+1,⟨ah,by rw[hr,E1 (c:=fun n:cG=>decide (n.option=x)) ah (dx hc1)]⟩,ah,(du [(0,0)])⟩
 refine aH ?_;refine bG ?_;rw[hr,AK ah]
noncomputable def BP:ax:=b8 208
def w674  (r:Rec)(x:aU)   :dh Y BP (.bool (zP r.needs x)) [Rec.D r,.str x]:=by
 show bO _ _ _ [⟨_,_⟩,⟨_,_⟩,_,_,_,_,_] _;refine ai ?_;refine bF ?_;refine a7 hm (ι:=Nat) (fun i=>[.un,⟨true,.str x⟩,.un,⟨true,.int .i64 (i:Nat)⟩,⟨true,.ptr 0 9 0 0⟩,.un,.un]) (fun i=>[(0,.buf 9 [Rec.D r])]) 3 (fun i=>i<=r.needs.length/\zP r.needs x=(r.needs.drop i).any (fun n=>decide (n.any.length=1)&&decide (n.any[0]!.name=x))) (fun i=>r.needs.length-i) 0 ⟨ah,rfl⟩ (du [(0,0)]) ?_;rintro i ⟨hi,hr⟩;refine aH ?_;intro u0;refine av ?_;refine cd (fun hc0=>?_) fun hc0=>?_
 .refine aH ?_;refine aV i ?_;refine ar ?_;intro u1;refine aD ?_;refine aV i (hb:=fun _=>ah) ?_;refine aw ?_;refine aW (q:=cG.D) (xs:=r.needs) (i:=i) (hi:=fun _=>ah) (v:=(.sl 4 (r.needs[i]!.any.map dY.D))) ?_;refine aV 0 (hb:=fun h=>by simp only[eJ,beq_iff_eq,br,bU]at h;omega) ?_;refine aw ?_;refine aW (q:=dY.D) (xs:=r.needs[i]!.any) (i:=0) (hi:=fun h=>by simp only[eJ,beq_iff_eq,br,bU]at h;omega) (v:=(.str r.needs[i]!.any[0]!.name)) ?_;refine aF ?_;refine wp_cond (fun hc1=>?_) (fun hc1=>?_)
  .rw[mQ.2 (show((r.needs[i]!.any.length:Nat):Int)=1↔r.needs[i]!.any.length=1 by omega)]at hc1;have hz:=hc1;refine aH ?_;refine bG ?_;rw[hr,AL ah hz]
  rw[mQ.2 (show((r.needs[i]!.any.length:Nat):Int)=1↔r.needs[i]!.any.length=1 by omega)]at hc1;have hz:=hc1;refine dj ?_;exact⟨i+1,⟨ah,by rw[hr,E1 ah hz]⟩,ah,(du [(0,0)])⟩
 refine aH ?_;refine bG ?_;rw[hr,AK ah]
noncomputable def DO:ax:=b8 186
def w460 (h672:Xv Y)(h673:Xw Y)(h674:Xx Y)(r:Rec)(of:List aU)  (hp0:∀t∈of,oo t):dh Y DO (.int .i64 (jZ r of)) [Rec.D r,.sl 1 (of.map D.str)]:=by
 show bO _ _ _ [⟨_,_⟩,⟨_,_⟩,_,_,_,_,_,_,_,_] _;refine ai ?_;refine bF ?_;refine a7 hm (ι:=Nat) (fun i=>[.un,⟨true,.sl 1 (of.map D.str)⟩,.un,⟨true,.int .i64 (i:Nat)⟩,.un,.un,⟨true,.ptr 0 9 0 0⟩,.un,.un,.un]) (fun i=>[(0,.buf 9 [Rec.D r])]) 3 (fun i=>i<=of.length/\jZ r of=e8 (fun i=>kU r of[i]!) i of.length) (fun i=>of.length-i) 0 ⟨ah,rfl⟩ (du [(0,0)]) ?_;rintro i ⟨hi,hr⟩;refine aD ?_;intro u0;refine av ?_;refine cd (fun hc0=>?_) fun hc0=>?_
 .refine bF ?_;refine ak (hc:=h672 of[i]! (hp0 _ (aq ah))) ?_;refine Jx ?_;refine ak (hc:=h673 r (dR of[i]!).2.1) ?_;refine ar ?_;refine bC (fun hc1=>?_) (fun hc1=>?_)
  .try simp only[jU]at hc1
   refine bF ?_;refine cq ?_;have he:kU r of[i]! =14:=by rw[kU,ay hc1]
   rw[hr,jW ah (by rw[he];decide),he]
  have hn1:¬((dR of[i]!).1=2/\Ko r.needs (dR of[i]!).2.1=false):=by rintro⟨g1,g2⟩;rw[g1,g2]at hc1;cases hc1
  refine bF ?_;refine ak (hc:=h674 r (dR of[i]!).2.1) ?_;refine ar ?_;refine wp_cond (fun hc2=>?_) (fun hc2=>?_)
  .try simp only[jU]at hc2
   refine aH ?_;refine cq ?_;have he:kU r of[i]! =16:=by rw[kU,aj hn1,ay hc2]
   rw[hr,jW ah (by rw[he];decide),he]
  have hn2:¬((dR of[i]!).1=3/\zP r.needs (dR of[i]!).2.1=false):=by rintro⟨g1,g2⟩;rw[g1,g2]at hc2;cases hc2
  refine dj ?_;exact⟨i+1,⟨ah,by rw[hr,mX ah (by rw[kU,aj hn1,aj hn2])]⟩,ah,(du [(0,0)])⟩
 refine aH ?_;refine cq ?_;rw[hr,mW ah]
noncomputable def DJ:ax:=b8 173
def w211 {Y:Ctx}(hm:(Y.at 0).cj)(h208:Jz Y)(h444:WT Y)(r:Rec)(name:aU)(rng:aU)  (hp0:oy rng):dh Y DJ (.int .i64 (fT r name rng)) [Rec.D r,.str name,.str rng]:=by
 show bO _ _ _ [⟨_,_⟩,⟨_,_⟩,⟨_,_⟩,_,_,_,_,_] _;refine ai ?_;refine aH ?_;refine ak (hc:=h208 _) ?_;refine ar ?_;refine ed (fun hc0=>?_) fun hc0=>?_
 .refine aD ?_;refine cq ?_;rw[fT,ay hc0]
 refine bF ?_;refine ed (fun hc1=>?_) fun hc1=>?_
 .refine aD ?_;refine cq ?_;rw[fT,aj (by simp[hc0]),ay hc1]
 refine av ?_;refine ak (hc:=h444 rng hp0) ?_;refine ar ?_;refine ed (fun hc2=>?_) fun hc2=>?_
 .refine aD ?_;refine cq ?_;rw[fT,aj (by simp[hc0]),aj hc1,ay hc2]
 refine aH ?_;refine cq ?_;rw[fT,aj (by simp[hc0]),aj hc1,aj (by simp[hc2])]
noncomputable def DK:ax:=b8 191
def w443 (h211:R3 Y)(h349:JB Y)(r:Rec)(w:dY)(al:Bool)  (hp0:w.sm):dh Y DK (.int .i64 (jK r w al)) [Rec.D r,dY.D w,.bool al]:=by
 show bO _ _ _ [⟨_,_⟩,⟨_,_⟩,⟨_,_⟩,_,_,_,_,_,_,_,_,_,_,_,_,_] _;refine ai ?_;refine kK ?_;refine ak (hc:=h211 r w.name w.range hp0.1.2) ?_;refine bF ?_;refine cd (fun hc0=>?_) fun hc0=>?_
 .refine aH ?_;refine cq ?_;rw[jK,ay hc0]
 refine aH ?_;intro u0;refine aF ?_;refine j6 ?_;refine bF ?_;refine bC (fun hc1=>?_) (fun hc1=>?_)
 .have hq:(decide (w.feats.length<=6)&&(al ||decide (w.feats.length=0)))=false:=by rw[<-cW,<-OH];exact hc1
  refine aD ?_;refine cq ?_;rw[jK,aj (by simp[hc0]),ay (by unfold kg;rw[hq];rfl)]
 have hq:(decide (w.feats.length<=6)&&(al ||decide (w.feats.length=0)))=true:=by rw[<-dS,<-OH];exact hc1
 refine aH ?_;intro u1;refine av ?_;refine a7 hm (ι:=Nat) (fun i=>[.un,.un,⟨true,.bool al⟩,.un,⟨true,.ptr 0 9 0 0⟩,⟨true,.ptr 1 4 0 0⟩,.un,.un,.un,⟨true,.int .i64 (i:Nat)⟩,⟨true,.int .i64 (w.feats.length:Nat)⟩,.un,⟨true,.sl 1 (w.feats.map D.str)⟩,.un,.un,.un]) (fun i=>[(0,.buf 9 [Rec.D r]),(1,.buf 4 [dY.D w])]) 30 (fun i=>i<=w.feats.length/\kg w.feats al=cF (RP w.feats) i w.feats.length) (fun i=>w.feats.length-i) 0 ⟨ah,by unfold kg;rw[hq,eJ]⟩ (du [(0,0),(1,1)]) ?_;rintro i ⟨hi,hr⟩;refine ar ?_;refine cd (fun hc2=>?_) fun hc2=>?_
 .refine kK ?_;refine ak (hc:=h349 _) ?_;refine eW ?_;refine aV (i-1) ?_;refine aH ?_;refine wp_cond (fun hc3=>?_) (fun hc3=>?_)
  .have hz:RP w.feats i=false:=by rw[<-cW,<-wf_c];exact hc3
   refine aH ?_;refine cq ?_;rw[jK,aj (by simp[hc0]),ay (by rw[hr,aN ah,hz];rfl)]
  have hz:RP w.feats i=true:=by rw[<-dS,<-wf_c];exact hc3
  refine bF ?_;exact⟨i+1,⟨ah,by rw[hr,aN ah,hz];rfl⟩,ah,(du [(0,0),(1,1)])⟩
 refine aH ?_;refine cq ?_;rw[jK,aj (by simp[hc0]),aj (by rw[hr,b7 ah];simp)]
noncomputable def DH:ax:=b8 172
def w210 (h212:R4 Y)(h349:JB Y)(h443:WS Y)(r:Rec)(n:cG)  (hp0:n.sm):dh Y DH (.int .i64 (iP r n)) [Rec.D r,cG.D n]:=by
 show bO _ _ _ [⟨_,_⟩,⟨_,_⟩,_,_,_,_,_,_,_,_,_,_,_,_,_,_] _;refine ai ?_;refine eW ?_;intro u0;refine av ?_;refine cd (fun hc0=>?_) fun hc0=>?_
 .refine aD ?_;refine cq ?_;rw[iP,ay ah]
 refine aH ?_;intro u1;refine av ?_;refine cd (fun hc1=>?_) fun hc1=>?_
 .refine aD ?_;refine cq ?_;rw[iP,aj ah,ay ah]
 refine aH ?_;intro u2;refine av ?_;refine a7 hm (ι:=Nat) (fun i=>[.un,.un,.un,⟨true,.ptr 1 3 0 0⟩,.un,.un,⟨true,.int .i64 (i:Nat)⟩,⟨true,.int .i64 (n.any.length:Nat)⟩,.un,⟨true,.sl 4 (n.any.map dY.D)⟩,⟨true,.ptr 0 9 0 0⟩,.un,.un,.un,.un,.un]) (fun i=>[(0,.buf 9 [Rec.D r]),(1,.buf 3 [cG.D n])]) 15 (fun i=>i<=n.any.length/\mD r n.any=e8 (fun i=>jK r n.any[i]! (decide ((n.any.length:Int)=1))) i n.any.length) (fun i=>n.any.length-i) 0 ⟨ah,rfl⟩ (du [(0,0),(1,1)]) ?_;rintro i ⟨hi,hr⟩;refine ar ?_;refine cd (fun hc2=>?_) fun hc2=>?_
 .refine aF ?_;first|refine aW (v:=(dY.D _)) ?_|refine fw (v:=(dY.D _)) ?_
  refine aw ?_;refine bD (dY.D n.any[i]!) (he:=bm) ?_;refine bF ?_;intro u3;refine aw ?_;refine ak (hc:=h443 r n.any[i]! _ (hp0.1 _ (aq ah))) ?_;refine aH ?_;refine ed (fun hc3=>?_) fun hc3=>?_
  .refine bF ?_;refine cq ?_;have hw:mD r n.any=jK r n.any[i]! (decide ((n.any.length:Int)=1)):=by rw[hr,jW ah hc3]
   rw[iP,aj ah,aj ah,ay (by rw[hw];exact hc3),hw]
  refine bF ?_;exact⟨i+1,⟨ah,by rw[hr,mX ah hc3]⟩,ah,(du [(0,0),(1,1)])⟩
 refine aF ?_;have hw0:mD r n.any=0:=by rw[hr,mW ah]
 refine av ?_;refine ak (hc:=h212 n.when' hp0.2.1) ?_;refine av ?_;refine bC (fun hc4=>?_) (fun hc4=>?_)
 .try simp only[jU]at hc4
  refine aD ?_;refine cq ?_;rw[iP,aj ah,aj ah,aj (by simp[hw0]),ay hc4]
 simp only[dS]at hc4;refine eW ?_;refine ak (hc:=h349 _) ?_;refine ar ?_;refine bC (fun hc5=>?_) (fun hc5=>?_)
 .try simp only[jU]at hc5
  refine aD ?_;refine cq ?_;rw[iP,aj ah,aj ah,aj (by simp[hw0]),aj (by simp[hc4]),ay hc5]
 simp only[ey,dS,bU]at hc5;refine aD ?_;refine cq ?_;rw[iP,aj ah,aj ah,aj (by simp[hw0]),aj (by simp[hc4]),aj (by rintro⟨g1,g2⟩;rcases hc5 with h|h;exact g1 h;rw[g2]at h;cases h)]
noncomputable def DG:ax:=b8 176
def w214 (h448:WU Y)(r:Rec)(s:aU)  (hp0:oo s):dh Y DG (.int .i64 (kU r s)) [Rec.D r,.str s]:=by
 show bO _ _ _ [⟨_,_⟩,⟨_,_⟩,_,_,_,_,_,_,_,_,_,_,_,_,_] _;refine ai ?_;refine aD ?_;refine ak (hc:=h448 s hp0) ?_;refine EN ?_;intro u0;refine av ?_;refine a7 hm (ι:=Nat) (fun i=>[.un,.un,.un,⟨true,.ptr 0 9 0 0⟩,⟨true,.int .i64 (i:Nat)⟩,⟨true,.int .i64 (r.needs.length:Nat)⟩,.un,⟨true,.sl 3 (r.needs.map cG.D)⟩,⟨true,.int .i64 (dR s).1⟩,.un,⟨true,.str (dR s).2.1⟩,.un,.un,.un,.un]) (fun i=>[(0,.buf 9 [Rec.D r])]) 15 (fun i=>i<=r.needs.length/\kU r s=(if(r.needs.drop i).any (ZT (dR s).1 (dR s).2.1)=true then 0 else Ur (dR s).1)) (fun i=>r.needs.length-i) 0 ⟨ah,MJ r s⟩ (du [(0,0)]) ?_;rintro i ⟨hi,hr⟩;refine ar ?_;refine cd (fun hc0=>?_) fun hc0=>?_
 .refine aF ?_;first|refine aW (v:=(cG.D _)) ?_|refine fw (v:=(cG.D _)) ?_
  refine aw ?_;refine bD (cG.D r.needs[i]!) (he:=bm) ?_;refine OX ?_;refine j6 ?_;refine aD ?_;refine aV 0 (hb:=fun h=>by simp only[eJ,beq_iff_eq,br,bU]at h;omega) ?_;refine aw ?_;refine aW (q:=dY.D) (xs:=r.needs[i]!.any) (i:=0) (hi:=fun h=>by simp only[eJ,beq_iff_eq,br,bU]at h;omega) (v:=(.str r.needs[i]!.any[0]!.name)) ?_;refine aD ?_;refine wp_cond (fun hc1=>?_) (fun hc1=>?_)
  .have hz:ZT (dR s).1 (dR s).2.1 r.needs[i]! =true:=hc1;refine aH ?_;refine cq ?_;rw[hr,AL ah hz];rfl
  have hz:ZT (dR s).1 (dR s).2.1 r.needs[i]! =false:=hc1;refine bF ?_;exact⟨i+1,⟨ah,by rw[hr,E1 ah hz]⟩,ah,(du [(0,0)])⟩
 refine aF ?_;have he:kU r s=Ur (dR s).1:=by rw[hr,AK ah];rfl
 refine bF ?_;refine ed (fun hc2=>?_) fun hc2=>?_
 .refine aD ?_;refine cq ?_;rw[he,Ur,ay hc2]
 refine aF ?_;refine ed (fun hc3=>?_) fun hc3=>?_
 .refine aD ?_;refine cq ?_;rw[he,Ur,aj hc2,ay hc3]
 refine aH ?_;refine cq ?_;rw[he,Ur,aj hc2,aj hc3]
noncomputable def DP:ax:=b8 163
def w218 (h457:WY Y)(h458:WZ Y)(h459:W0 Y)(h460:W1 Y)(r:Rec)  (hp0:eC r):dh Y DP (.tup [.int .i64 (eB r).1,.int .i64 (eB r).2]) [Rec.D r]:=by
 show bO _ _ _ [⟨_,_⟩,_,_,_,_,_,_,_,_,_,_,_,_,_,_,_,_] _;refine ai ?_;refine dj ?_;refine a7 hm (ι:=Nat) (fun i=>[.un,.un,.un,⟨true,.int .i64 (i:Nat)⟩,⟨true,.ptr 0 9 0 0⟩,.un,.un,.un,.un,.un,.un,.un,.un,.un,.un,.un,.un]) (fun i=>[(0,.buf 9 [Rec.D r])]) 4 (fun i=>i<=r.needs.length/\lQ r=iy (fun i=>iP r r.needs[i]!) i r.needs.length) (fun i=>r.needs.length-i) 0 ⟨ah,rfl⟩ (du [(0,0)]) ?_;rintro i ⟨hi,hr⟩;refine aH ?_;intro u0;refine av ?_;refine cd (fun hc0=>?_) fun hc0=>?_
 .refine bF ?_;refine aV i ?_;first|refine aW (v:=(cG.D _)) ?_|refine fw (v:=(cG.D _)) ?_
  refine ak (hc:=h457 r r.needs[i]! (hp0.2.1 _ (aq ah))) ?_;refine aH ?_;refine ed (fun hc1=>?_) fun hc1=>?_
  .refine eW ?_;refine cy (ct (aC (D.int .i64) ?_) (aC (D.int .i64) ?_));all_goals
    have hq:eB r=(iP r r.needs[i]!,((i:Nat):Int)):=by
     exact Dx (by rw[hr,ji ah hc1]) hc1
    rw[hq];first|done|rfl
  refine dj ?_;exact⟨i+1,⟨ah,by rw[hr,lA ah hc1]⟩,ah,(du [(0,0)])⟩
 refine aF ?_;have hn0:lQ r=(0,0):=by rw[hr,lz ah]
 refine av ?_;refine a7 hm (ι:=Nat) (fun i=>[.un,.un,.un,.un,⟨true,.ptr 0 9 0 0⟩,.un,.un,.un,⟨true,.int .i64 (i:Nat)⟩,.un,.un,.un,.un,.un,.un,.un,.un]) (fun i=>[(0,.buf 9 [Rec.D r])]) 10 (fun i=>i<=r.bars.length/\rC r=iy (fun i=>oQ r r.bars[i]!) i r.bars.length) (fun i=>r.bars.length-i) 0 ⟨ah,rfl⟩ (du [(0,0)]) ?_;rintro i ⟨hi,hr⟩;refine aH ?_;intro u1;refine av ?_;refine cd (fun hc2=>?_) fun hc2=>?_
 .refine bF ?_;refine aV i ?_;first|refine aW (v:=(ma.D _)) ?_|refine fw (v:=(ma.D _)) ?_
  refine ak (hc:=h458 r r.bars[i]! (hp0.2.2.1 _ (aq ah))) ?_;refine aH ?_;refine ed (fun hc3=>?_) fun hc3=>?_
  .refine eW ?_;refine cy (ct (aC (D.int .i64) ?_) (aC (D.int .i64) ?_));all_goals
    have hq:eB r=(oQ r r.bars[i]!,((i:Nat):Int)):=by
     exact xQ hn0 (by rw[hr,ji ah hc3]) hc3
    rw[hq];first|done|rfl
  refine dj ?_;exact⟨i+1,⟨ah,by rw[hr,lA ah hc3]⟩,ah,(du [(0,0)])⟩
 refine aF ?_;have hb0:rC r=(0,0):=by rw[hr,lz ah]
 refine av ?_;refine ak (hc:=h459 r.feats hp0.2.2.2) ?_;refine av ?_;refine bC (fun hc4=>?_) (fun hc4=>?_)
 .try simp only[jU]at hc4
  refine aH ?_;refine cy (ct (aC (D.int .i64) ?_) (aC (D.int .i64) ?_));all_goals
   have hq:eB r=(11,0):=by
    exact Dy hn0 hb0 hc4
   rw[hq];first|done|rfl
 simp only[dS]at hc4;refine aD ?_;refine a7 hm (ι:=Nat) (fun i=>[.un,.un,.un,.un,⟨true,.ptr 0 9 0 0⟩,.un,.un,.un,.un,.un,.un,.un,.un,⟨true,.int .i64 (i:Nat)⟩,.un,.un,.un]) (fun i=>[(0,.buf 9 [Rec.D r])]) 20 (fun i=>i<=r.feats.length/\AV r=iy (fun i=>jZ r r.feats[i]!.of) i r.feats.length) (fun i=>r.feats.length-i) 0 ⟨ah,rfl⟩ (du [(0,0)]) ?_;rintro i ⟨hi,hr⟩;refine aH ?_;intro u2;refine av ?_;refine cd (fun hc5=>?_) fun hc5=>?_
 .refine bF ?_;refine aV i ?_;refine av ?_;refine ak (hc:=h460 r r.feats[i]!.of (je.it hp0.2.2.2 _ (aq ah))) ?_;refine aH ?_;refine ed (fun hc6=>?_) fun hc6=>?_
  .refine eW ?_;refine cy (ct (aC (D.int .i64) ?_) (aC (D.int .i64) ?_));all_goals
    have hq:eB r=(jZ r r.feats[i]!.of,((i:Nat):Int)):=by
     exact sg hn0 hb0 hc4 (by rw[hr,ji (f:=(fun i=>jZ r r.feats[i]!.of)) ah hc6])
    rw[hq];first|done|rfl
  refine dj ?_;exact⟨i+1,⟨ah,by rw[hr,lA (f:=(fun i=>jZ r r.feats[i]!.of)) ah hc6]⟩,ah,(du [(0,0)])⟩
 refine bF ?_;refine cy (ct (aC (D.int .i64) ?_) (aC (D.int .i64) ?_));all_goals
  have hq:eB r=(0,0):=by
   exact sg hn0 hb0 hc4 (by rw[hr,lz ah])
  rw[hq];first|done|rfl
noncomputable def DM:ax:=b8 145
def w71 {Y:Ctx}(hm:(Y.at 0).cj)(h216:EW Y)(h217:qB Y)(h218:Wo Y)(h219:R6 Y)(r:Rec)  (hp0:eC r):dh Y DM (.tup [.int .i64 (dD r).1,.int .i64 (dD r).2]) [Rec.D r]:=by
 show bO _ _ _ [⟨_,_⟩,_,_,_,_,_,_,_,_,_,_] _;refine ai ?_;refine dj ?_;refine ak (hc:=h216 _) ?_;refine ar ?_;refine wp_cond (fun hc0=>?_) (fun hc0=>?_)
 .try simp only[jU]at hc0
  refine aH ?_;refine cy (ct (aC (D.int .i64) ?_) (aC (D.int .i64) ?_));all_goals (have hq:dD r=(4,0):=(by rw[dD,ay hc0]);rw[hq];first|done|rfl)
 simp only[dS]at hc0;refine av ?_;refine az (v:=aQ.D r.v) ?_;refine ak (hc:=h217 r.v hp0.1.2) ?_;refine ar ?_;refine wp_cond (fun hc1=>?_) (fun hc1=>?_)
 .try simp only[jU]at hc1
  refine aH ?_;refine cy (ct (aC (D.int .i64) ?_) (aC (D.int .i64) ?_));all_goals (have hq:dD r=(5,0):=(by rw[dD,aj (by simp[hc0]),ay hc1]);rw[hq];first|done|rfl)
 simp only[dS]at hc1;refine aF ?_;intro u0;refine aF ?_;refine j6 ?_;refine aF ?_;refine ed (fun hc2=>?_) fun hc2=>?_
 .refine aH ?_;refine cy (ct (aC (D.int .i64) ?_) (aC (D.int .i64) ?_));all_goals (have hq:dD r=(3,0):=(by rw[dD,aj (by simp[hc0]),aj (by simp[hc1]),ay ah]);rw[hq];first|done|rfl)
 refine aD ?_;refine ak (hc:=h218 r hp0) ?_;refine kK ?_;refine bC (fun hc3=>?_) (fun hc3=>?_)
 .try simp only[jU]at hc3
  refine dj ?_;refine cy (ct (aC (D.int .i64) ?_) (aC (D.int .i64) ?_));all_goals
   have hq:dD r=eB r:=by
    exact mT hc0 hc1 ah ah rfl hc3
   rw[hq];first|done|rfl
 simp only[dS,bU]at hc3;have hpz:eB r=(0,0):=Dz hc3;have hgd:xa r:=⟨⟨hc0,hc1⟩,⟨ah,ah⟩,hpz⟩;refine aF ?_;refine ak (hc:=h219 r ⟨hgd,hp0⟩) ?_;refine aw ?_;intro u1;refine av ?_;refine cd (fun hc4=>?_) fun hc4=>?_
 .refine aH ?_;refine cy (ct (aC (D.int .i64) ?_) (aC (D.int .i64) ?_));all_goals
   have hq:dD r=(3,0):=by
    rw[rN hc0 hc1 ah ah hpz,ay ah]
   rw[hq];first|done|rfl
 refine aH ?_;refine cy (ct (aC (D.int .i64) ?_) (aC (D.int .i64) ?_));all_goals
  have hq:dD r=(0,0):=by
   rw[rN hc0 hc1 ah ah hpz,aj ah]
  rw[hq];first|done|rfl
noncomputable def Gb:ax:=b8 230
def w882  (n:Nat)  (hp0:n<=9999):dh Y Gb (.str (jC n)) [.int .u64 (n:Nat)]:=by
 show bO _ _ _ [⟨_,_⟩,_,_,_] _;refine ai ?_;refine aF ?_;refine DC ((n%10:Nat):Int) (hn:=by intro _;omega) (hb:=fun _=>rfl) ?_;refine pA ((n%10:Nat):Int) (hb:=fun _=>IntWalk.u8_in _ ah) ?_;refine ND (((dg (n%10)).toNat:Nat):Int) (hb:=fun _=>by rw[Rk ah];exact IntWalk.u8_in _ ah) ?_;refine bY [.int .u8 _] ?_;refine NG [dg (n%10)] (he:=fun _=>pK.all ae rfl) (hs:=fun _=>rfl) ?_;refine av ?_;have h0:jC n=(if n<10 then []else jC (n/10))++[dg (n%10)]:=by
  split
  .rename_i h;rw[vo h,Nat.mod_eq_of_lt h];rfl
  .rw[vl ah]
 refine a7 hm (ι:=(Nat×aU)) (fun p=>[⟨true,.int .u64 (p.1:Nat)⟩,.un,.un,⟨true,.str p.2⟩]) (fun p=>[]) 8 (fun p=>p.1<=9999/\p.2.length<=9999-p.1+1/\jC n=(if p.1<10 then []else jC (p.1/10))++p.2) (fun p=>p.1) (n,[dg (n%10)]) ⟨hp0,bg,h0⟩ (du []) ?_;rintro⟨k,s⟩ ⟨hk,hs,hr⟩;dsimp only at hk hs hr⊢;refine aD ?_;refine cd (fun hc0=>?_) fun hc0=>?_
 .refine aF ?_;refine r_quo ((k/10:Nat):Int) (hn:=by intro _;omega) (hb:=fun _=>by rw[show((k:Int).tdiv 10)=((k/10:Nat):Int)from rfl,IntKind.wrap_u64];omega) ?_;refine aF ?_;refine DC (((k/10)%10:Nat):Int) (hn:=by intro _;omega) (hb:=fun _=>rfl) ?_;refine pA (((k/10)%10:Nat):Int) (hb:=fun _=>IntWalk.u8_in _ ah) ?_;refine ND (((dg ((k/10)%10)).toNat:Nat):Int) (hb:=fun _=>by rw[Rk ah];exact IntWalk.u8_in _ ah) ?_;refine bY [.int .u8 _] ?_;refine NG [dg ((k/10)%10)] (he:=fun _=>pK.all ae rfl) (hs:=fun _=>rfl) ?_;refine aw ?_;refine eF (hb:=fun _=>dH) ?_;refine aF ?_;have h1:jC n=(if k/10<10 then []else jC (k/10/10))++([dg (k/10%10)]++s):=by
   rw[hr,aj ah];split
   .rename_i h;rw[vo h,Nat.mod_eq_of_lt h];rfl
   .rw[vl ah,eV]
  exact⟨(k/10,[dg (k/10%10)]++s),⟨ec,dH,h1⟩,ec,(du [])⟩
 refine bF ?_;refine lW ?_;rw[hr,ay ah];rfl
noncomputable def DW:ax:=b8 209
def w734 {Y:Ctx}(hm:(Y.at 0).cj)(h882:XU Y)(n:Int)  (hp0:0<=n/\n<=9999):dh Y DW (.str (jC n.toNat)) [.int .i64 n]:=by
 show bO _ _ _ [⟨_,_⟩,_,_] _;refine ai ?_;refine bF ?_;refine cd (fun hc0=>?_) fun hc0=>?_
 .omega
 refine av ?_;obtain⟨k,rfl⟩:∃k:Nat,n=k:=⟨n.toNat,ah⟩
 refine aw ?_;refine pA (k:Int) (hb:=fun _=>by rw[IntKind.wrap_u64];omega) ?_;refine ak (hc:=h882 _ ?_) ?_;rotate_left;first|assumption|omega
 refine ar ?_;exact lW rfl
noncomputable def F9:ax:=b8 105
def w470  (s:aU)(b:Int)  (hp0:s.length<=1048576):dh Y F9 (.sl 1 ((bE s b).map D.str)) [.str s,.int .u8 b]:=by
 show bO _ _ _ [⟨_,_⟩,⟨_,_⟩,_,_,_,_,_,_] _;refine ai ?_;refine mF ?_;refine a7 hm (ι:=(Nat×Nat×List aU)) (fun p:Nat×Nat×List aU=>[⟨true,.str s⟩,⟨true,.int .u8 b⟩,.un,⟨true,.int .i64 (p.1:Nat)⟩,.un,.un,⟨true,.own 0 1 0 p.2.2.length⟩,⟨true,.int .i64 (p.2.1:Nat)⟩]) (fun p=>[(0,.buf 1 (p.2.2.map D.str))]) 4 (fun p=>p.1<=s.length/\p.2.1<=p.1/\p.2.2.length<=p.1/\bE s b=p.2.2++eU b (s.drop p.1) ((s.take p.1).drop p.2.1)) (fun p=>s.length-p.1) (0,0,[]) ⟨bg,bg,bg,rfl⟩ (aO.to [] ae ae (by repeat(first|exact aL.nil|refine aL.un ?_|refine aL.eq ae ?_|refine aL.nl ae ae ?_|refine aL.ni (Or.inr ⟨0,1,0,rfl⟩) ?_)) (by repeat(first|exact aB.nil|refine aB.mt ae ae ae ae ?_))) ?_;rintro⟨i,fr,acc⟩ ⟨hi,hf,ha,hr⟩;dsimp only at hi hf ha hr⊢;refine aD ?_;intro u0;refine av ?_;refine cd (fun hc0=>?_) fun hc0=>?_
 .refine eW ?_;refine wp_cond (fun hc1=>?_) (fun hc1=>?_)
  .try simp only[jU]at hc1
   refine aD ?_;refine DE _ _ ?_;refine bY [(.str _)] ?_;refine Jx ?_;exact⟨(i+1,i+1,acc++[(s.take i).drop fr]),⟨ec,ec,dH,by rw[hr,Aj ah hc1];simp⟩,ec,(aO.to [(19,0)] ae ae mM (by refine aB.nl 19 ae ae ae cK ?_;exact aB.nil))⟩
  simp only[dn]at hc1;refine dj ?_;exact⟨(i+1,fr,acc),⟨ec,ec,ec,by rw[hr,Ak ah ah hc1]⟩,ec,(aO.to [(0,0)] ae ae mM (by refine aB.nl 0 ae ae ae cK ?_;exact aB.nil))⟩
 refine aH ?_;refine DF _ ?_;refine bY [(.str _)] ?_;refine ar ?_;refine dd 13 ?_;refine aw ?_;refine cy (?_);have hs:bE s b=acc++[s.drop fr]:=by rw[hr,yt ah]
 rw[hs];exact rfl
def qL:ax:={np:=2,ns:=4,res:=[⟨2,none⟩],rsh:=[[.a]],body:=(.seq (.reg false [⟨.box 8 (.s 0),none⟩,⟨.mv (.c (.bool false)),none⟩] [(3,0),(2,1)]) (.seq (.reg false [⟨.fa 0 (.s 3),none⟩,⟨.ld 5 true (.l 0),none⟩,⟨.fa 1 (.s 1),none⟩,⟨.ld 5 true (.l 2),none⟩,⟨.eqA false true [.i .i64,.i .i64,.i .i64,.s,.s] (.l 1) (.l 3),none⟩,⟨.mv (.l 4),none⟩] [(2,5)]) .ret))}
def w690 {Y:Ctx}(hm:(Y.at 0).cj)  (c:dA)(x:cU)  (hp0:c.v.sm/\x.v.sm):dh Y qL (.bool (EU x.v true c)) [dA.D c,.ref 9 [cU.D x] 0 0]:=by
 show bO _ _ _ [⟨_,_⟩,⟨_,_⟩,_,_] _;refine ai ?_;refine aD ?_;refine az (v:=aQ.D c.v) ?_;refine aw ?_;refine fw (v:=aQ.D x.v) ?_;refine xX (hb:=aQ.eq _ _) ?_;refine ar ?_;exact bG rfl
noncomputable def qM:ax:=b8 60
def w691 {Y:Ctx}(hm:(Y.at 0).cj)(h295:JA Y)(c:dA)(x:cU)  (hp0:c.v.sm/\x.v.sm):dh Y qM (.bool (EU x.v false c)) [dA.D c,.ref 9 [cU.D x] 0 0]:=by
 show bO _ _ _ [⟨_,_⟩,⟨_,_⟩,_,_] _;refine ai ?_;refine aD ?_;refine az (v:=aQ.D c.v) ?_;refine aw ?_;refine fw (v:=aQ.D x.v) ?_;refine ak (hc:=h295 (c.v) (x.v) ?_) ?_;rotate_left;first|assumption
 refine aF ?_;exact bG rfl
noncomputable def tH:ax:=b8 57
def w689 (h690:XA Y)(h691:XB Y)(l:List dA)(b:Bool)(x:cU)  (hp0:(∀c∈l,c.v.sm)/\x.v.sm):dh Y tH (.int .i64 (ju (EU x.v b) l 0)) [.sl 8 (l.map dA.D),.fn (bif b then 690 else 691) [.ref 9 [cU.D x] 0 0]]:=by
 show bO _ _ _ [⟨_,_⟩,⟨_,_⟩,_,_,_,_,_,_] _;refine ai ?_;refine aH ?_;intro u0;refine av ?_;refine a7 hm (ι:=Nat) (fun i=>[⟨true,.sl 8 ((l).map dA.D)⟩,⟨true,.fn (bif b then 690 else 691) [.ref 9 [cU.D x] 0 0]⟩,.un,⟨true,.int .i64 (i:Nat)⟩,⟨true,.int .i64 (l.length:Nat)⟩,.un,.un,.un]) (fun i=>[]) 4 (fun i=>i<=l.length/\ju (EU x.v b) l 0=ju (EU x.v b) (l.drop i) i) (fun i=>l.length-i) 0 ⟨ah,rfl⟩ (du []) ?_;rintro i ⟨hi,hr⟩;refine ar ?_;refine cd (fun hc0=>?_) fun hc0=>?_
 .refine bF ?_;cases b
  .refine ar ?_;refine aV (i) (hj:=fun hf=>by first|omega|(simp at hf;omega)) (hb:=fun hf=>by first|omega|(simp at hf;omega)) ?_;refine aW (v:=dA.D ((l)[i]!)) (hi:=fun hf=>by first|omega|(simp at hf;omega)) ?_;refine vA (hc:=fun _=>h691 l[i]! x ⟨hp0.1 _ (aq ah),hp0.2⟩) ?_;refine aw ?_;refine ed (fun hc1=>?_) fun hc1=>?_
   .refine bF ?_;refine cq ?_;rw[hr,lJ ah hc1]
   refine ar ?_;refine ba (hb:=fun hf=>by first|omega|(simp at hf;omega)) ?_;refine ar ?_;exact⟨i+1,⟨ah,by rw[hr,jY ah hc1]⟩,ah,(du [])⟩
  .refine ar ?_;refine aV (i) (hj:=fun hf=>by first|omega|(simp at hf;omega)) (hb:=fun hf=>by first|omega|(simp at hf;omega)) ?_;refine aW (v:=dA.D ((l)[i]!)) (hi:=fun hf=>by first|omega|(simp at hf;omega)) ?_;refine vA (hc:=fun _=>h690 l[i]! x ⟨hp0.1 _ (aq ah),hp0.2⟩) ?_;refine aw ?_;refine ed (fun hc1=>?_) fun hc1=>?_
   .refine bF ?_;refine cq ?_;rw[hr,lJ ah hc1]
   refine ar ?_;refine ba (hb:=fun hf=>by first|omega|(simp at hf;omega)) ?_;refine ar ?_;exact⟨i+1,⟨ah,by rw[hr,jY ah hc1]⟩,ah,(du [])⟩
 refine aH ?_;refine cq ?_;rw[hr,mZ ah]
noncomputable def C4:ax:=b8 8
def w94 {Y:Ctx}(hm:(Y.at 0).cj)(h153:Wh Y)(h264:Pc Y)(h265:R7 Y)(h271:R8 Y)(h272:Wt Y)(shop:List cC)(e:Env)(w:bZ)(l:gT)  (hp0:wB shop w l):dh Y C4 (.bool true) [.sl 2 (shop.map cC.D),Env.D e,bZ.D w,gT.D l]:=by
 show bO _ _ _ [⟨_,_⟩,⟨_,_⟩,⟨_,_⟩,⟨_,_⟩,_,_,_,_,_,_,_,_,_,_,_,_,_,_] _;refine ai ?_;refine bF ?_;refine bo (d:=Env.D e) ?_;refine bo (d:=bZ.D w) ?_;refine bo (d:=gT.D l) ?_;refine ak (hc:=h264 shop e w l hp0) ?_;refine aw ?_;refine mw (.sl _ _) ?_;refine dj ?_;refine bo (d:=Env.D e) ?_;refine bo (d:=bZ.D w) ?_;refine bo (d:=gT.D l) ?_;refine ak (hc:=h271 shop e w l hp0) ?_;refine aw ?_;refine mw (.sl _ _) ?_;refine dj ?_;refine bo (d:=Env.D e) ?_;refine bo (d:=bZ.D w) ?_;refine bo (d:=gT.D l) ?_;refine ak (hc:=h265 shop e w l hp0) ?_;refine dj ?_;refine bo (d:=Env.D e) ?_;refine bo (d:=bZ.D w) ?_;refine bo (d:=gT.D l) ?_;refine ak (hc:=h272 shop e w l hp0) ?_;refine OY ?_;refine bK (hc:=fun hf=>h153 (eR shop e w l).1 (eR shop e w l).1) ?_;refine OW ?_;refine bG ?_;simp
end Go.Abs
