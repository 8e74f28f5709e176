/- A part of the proofs. -/
import Derived.Test.YtkmlboofmolbaaaGreatDoorP09
set_option linter.all false
set_option maxRecDepth 60000
set_option maxHeartbeats 2000000
noncomputable section
namespace Go.Abs
variable {Y:Ctx}(hm:(Y.at 0).bV)
def rU:aj:=ba 21
def w110 {Y:Ctx}(hm:(Y.at 1).bV)(hA:Gi (Y.at 1))(hC:C135 (Y.at 1))(hD:C296 (Y.at 1))(hE:C297 (Y.at 1))(hG:C298 (Y.at 1))(g:Gs)(nm:av)(v:bX)(most:Int)(hp0:0<=g.i/\g.i<=970000)(hp1:0<=most/\most<=100):dn (Y.at 1) rU.body (Gl rU 2 (Rec.D (oV g nm v most).1) (Gs.D (oV g nm v most).2):Ex->List aX->St->Prop) (fI rU (.ptr 0 2 0 0::[.str nm,bX.D v,.int .i64 most])) ⟨1,[(0,.buf 2 [(Gs.D g)])]⟩:=by
 show dn _ _ _ [⟨true,.ptr 0 2 0 0⟩,⟨true,.str nm⟩,⟨true,bX.D v⟩,⟨true,.int .i64 most⟩,.un,.un,.un,.un,.un,.un,.un] ⟨1,[(0,.buf 2 [(Gs.D g)])]⟩;refine aP ?_;refine kn ?_;refine bP [.str nm,.int .i64 v.major,.int .i64 v.minor,.int .i64 v.patch,.str v.pre,.str v.build,.aK,.aK,.aK] ?_;refine kV ?_;have rn:=(g.R6 (most+1)).1 ae;refine dD ?_;refine c8 (hc:=hA g (most+1) ae kR) ?_;refine zg ?_;refine fX hm (ι:=Nat) (fun i=>[⟨true,.ptr 0 2 0 0⟩,⟨true,.str nm⟩,.un,.un,⟨true,.ptr 2 9 0 0⟩,.un,⟨true,.int .i64 ((g.val (most+1)) -((i:Nat):Int))⟩,.un,⟨true,.ptr 3 9 0 0⟩,.un,.un]) (fun i=>[(0,.buf 2 [Gs.D (nS nm g.aR i).2]),(1,.buf 5 [bX.D v]),(2,.buf 9 [.agg [.str [],.int .i64 0,.int .i64 0,.int .i64 0,.str [],.str [],.aK,.aK,.aK]]),(3,.buf 9 [.agg [.str nm,.int .i64 v.major,.int .i64 v.minor,.int .i64 v.patch,.str v.pre,.str v.build,.own 4 3 0 (nS nm g.aR i).1.length,.aK,.aK]]),(4,.buf 3 ((nS nm g.aR i).1.map bj.D))]) 13 (fun i=>i<=(g.val (most+1)).toNat) (fun i=>(g.val (most+1)).toNat-i) 0 ae (aY.to [(2,2),(6,3),(1,1)] ai ai J3 (by refine bm.nl 0 ai ai ai dS ?_;refine bm.nl 1 ai ai ai dS ?_;refine bm.nl 2 ai ai ai dS ?_;refine bm.ni 6 ai ai (by exact⟨_,_,rfl,⟨_,rfl,⟨_,_,rfl,⟨rfl,rfl⟩,⟨_,_,rfl,⟨rfl,rfl⟩,⟨_,_,rfl,⟨rfl,rfl⟩,⟨_,_,rfl,⟨rfl,rfl⟩,⟨_,_,rfl,⟨rfl,rfl⟩,⟨_,_,rfl,⟨rfl,rfl⟩,⟨_,_,rfl,Or.inr ⟨_,_,_,rfl⟩,⟨_,_,rfl,Or.inl rfl,⟨_,_,rfl,Or.inl rfl,rfl⟩⟩⟩⟩⟩⟩⟩⟩⟩⟩,rfl⟩) ?_;refine bm.mt ai ai ai ai ?_;exact bm.nil)) ?_;intro i hi;have hns:=wU nm g.aR i;have hnt:=Re (nS nm g.aR i).2 nm;have hlen:=hns.2;obtain⟨hn1,hn2⟩:=hns.1;obtain⟨hn3,hn4⟩:=hnt;rw[Gs.XD]at hn1 hn2;refine zc ?_ ?_<;>intro hc0
 .refine fk ?_;refine yN (v:=.own 4 3 0 (nS nm g.aR i).1.length) ?_;refine cU ?_;refine c8 (hc:=hD (nS nm g.aR i).2 nm ae) ?_;refine bc [bj.D (mc (nS nm g.aR i).2 nm).1] ?_;refine cI (q:=bj.D) (xs:=(nS nm g.aR i).1) (e:=(mc (nS nm g.aR i).2 nm).1) (hb:=ae) ?_;refine cV ?_;refine cy (.agg [.str nm,.int .i64 v.major,.int .i64 v.minor,.int .i64 v.patch,.str v.pre,.str v.build,.own 21 3 0 (nS nm g.aR (i+1)).1.length,.aK,.aK]) (he:=cY) ?_;refine zg ?_;exact⟨i+1,ae,ae,(aY.to [(1,1),(2,2),(3,3),(21,4)] ai ai J3 (by refine bm.nl 0 ai ai ai dS ?_;refine bm.nl 1 ai ai ai dS ?_;refine bm.nl 2 ai ai ai dS ?_;refine bm.eq 3 ai ai ai ?_;refine bm.nl 21 ai ai ai dS ?_;exact bm.nil))⟩
 refine dD ?_;obtain rfl:i=(g.val (most+1)).toNat:=ae;have hbs:=Gu (nS nm g.aR (g.val (most+1)).toNat).2 nm;have hos:=xd (nS nm g.aR (g.val (most+1)).toNat).2.aR nm;have r8:=(cN (nS nm g.aR (g.val (most+1)).toNat).2.aR nm).2.eI 8 ae;refine bB 4 (hn:=b7 (fun _=>rfl) _) (he:=J2) (hm:=J2) ?_;refine Ak [(0,.buf 2 [Gs.D (nS nm g.aR (g.val (most+1)).toNat).2]),(1,.buf 5 [bX.D v]),(2,.buf 9 [.agg [.str [],.int .i64 0,.int .i64 0,.int .i64 0,.str [],.str [],.aK,.aK,.aK]]),(3,.buf 9 [.agg [.str nm,.int .i64 v.major,.int .i64 v.minor,.int .i64 v.patch,.str v.pre,.str v.build,.sl 3 ((nS nm g.aR (g.val (most+1)).toNat).1.map bj.D),.sl 3 [],.sl 2 []]])] (.id ai (.id ai (.id ai (.bf ai (.cons (.ag (.cons (.refl _) (.cons (.refl _) (.cons (.refl _) (.cons (.refl _) (.cons (.refl _) (.cons (.refl _) (.cons (.refl _) (.cons (.nil 3) (.cons (.nil 2) .nil)))))))))) .nil) .nil)))) ?_;refine cU ?_;refine c8 (hc:=hA (nS nm g.aR (g.val (most+1)).toNat).2 5 ae kR) ?_;refine zg ?_;refine qK hm (ι:=Unit) (fun _=>[⟨true,.ptr 0 2 0 0⟩,⟨true,.str nm⟩,.un,.un,⟨true,.ptr 2 9 0 0⟩,.un,.un,.un,⟨true,.ptr 3 9 0 0⟩,.un,.un]) (fun _=>[(0,.buf 2 [Gs.D (ez (nS nm g.aR (g.val (most+1)).toNat).2 nm).2]),(1,.buf 5 [bX.D v]),(2,.buf 9 [.agg [.str [],.int .i64 0,.int .i64 0,.int .i64 0,.str [],.str [],.aK,.aK,.aK]]),(3,.buf 9 [.agg [.str nm,.int .i64 v.major,.int .i64 v.minor,.int .i64 v.patch,.str v.pre,.str v.build,.sl 3 ((nS nm g.aR (g.val (most+1)).toNat).1.map bj.D),.sl 3 ((ez (nS nm g.aR (g.val (most+1)).toNat).2 nm).1.map mA.D),.sl 2 []]])]) 100 (fun _=>True) ?_ ?_
 .refine A3 ?_ ?_<;>intro hc1
  .refine dD ?_;refine c8 (hc:=hE (nS nm g.aR (g.val (most+1)).toNat).2.aR nm J8) ?_;refine fk ?_;intro u0;refine c8 (hc:=hA (cN (nS nm g.aR (g.val (most+1)).toNat).2.aR nm).2 8 ae kR) ?_;refine cF ((cN (nS nm g.aR (g.val (most+1)).toNat).2.aR nm).2.val 8).toNat (hj:=fun _=>ae) (hb:=fun _=>ua) ?_;refine c7 (v:=.str j0[((cN (nS nm g.aR (g.val (most+1)).toNat).2.aR nm).2.val 8).toNat]!) (hi:=fun _=>ua) ?_;refine bP [.str (cN (nS nm g.aR (g.val (most+1)).toNat).2.aR nm).1,.str j0[((cN (nS nm g.aR (g.val (most+1)).toNat).2.aR nm).2.val 8).toNat]!,.str []] ?_;refine bc [mA.D ⟨(cN (nS nm g.aR (g.val (most+1)).toNat).2.aR nm).1,j0[((cN (nS nm g.aR (g.val (most+1)).toNat).2.aR nm).2.val 8).toNat]!,[]⟩] ?_;refine cV ?_;refine cy (.agg [.str nm,.int .i64 v.major,.int .i64 v.minor,.int .i64 v.patch,.str v.pre,.str v.build,.sl 3 ((nS nm g.aR (g.val (most+1)).toNat).1.map bj.D),.own 29 3 0 1,.sl 2 []]) (he:=cY) ?_;refine zg ?_;have hB:(ez (nS nm g.aR (g.val (most+1)).toNat).2 nm)=([⟨(cN (nS nm g.aR (g.val (most+1)).toNat).2.aR nm).1,j0[((cN (nS nm g.aR (g.val (most+1)).toNat).2.aR nm).2.val 8).toNat]!,[]⟩],(cN (nS nm g.aR (g.val (most+1)).toNat).2.aR nm).2.aR):=ak hc1;rw[hB];exact⟨(),trivial,(aY.fz 29 ai dS LV LV (aY.to [(1,1),(2,2),(3,3)] ai ai eD aac))⟩
  refine zg ?_;have hB:(ez (nS nm g.aR (g.val (most+1)).toNat).2 nm)=([],(nS nm g.aR (g.val (most+1)).toNat).2.aR):=ah hc1;rw[hB];exact⟨(),trivial,(aY.to [(1,1),(2,2),(3,3)] ai ai eD aac)⟩
 .rintro _-
  have hfs:=GH (ez (nS nm g.aR (g.val (most+1)).toNat).2 nm).2 (nS nm g.aR (g.val (most+1)).toNat).1;refine dD ?_;refine c8 (hc:=hA (ez (nS nm g.aR (g.val (most+1)).toNat).2 nm).2 2 ae kR) ?_;refine zc ?_ ?_<;>intro hc2
  .refine cV ?_;have hF:(kZ (ez (nS nm g.aR (g.val (most+1)).toNat).2 nm).2 (nS nm g.aR (g.val (most+1)).toNat).1)=([(mQ (ez (nS nm g.aR (g.val (most+1)).toNat).2 nm).2.aR (nS nm g.aR (g.val (most+1)).toNat).1).1],(mQ (ez (nS nm g.aR (g.val (most+1)).toNat).2 nm).2.aR (nS nm g.aR (g.val (most+1)).toNat).1).2):=ak hc2;refine dD ?_;refine c8 (hc:=hG (ez (nS nm g.aR (g.val (most+1)).toNat).2 nm).2.aR (nS nm g.aR (g.val (most+1)).toNat).1 J8 ⟨Ra nm g.aR _,ae⟩) ?_;refine bc [b6.D (mQ (ez (nS nm g.aR (g.val (most+1)).toNat).2 nm).2.aR (nS nm g.aR (g.val (most+1)).toNat).1).1] ?_;refine cV ?_;refine cy (.agg [.str nm,.int .i64 v.major,.int .i64 v.minor,.int .i64 v.patch,.str v.pre,.str v.build,.sl 3 ((nS nm g.aR (g.val (most+1)).toNat).1.map bj.D),.sl 3 ((ez (nS nm g.aR (g.val (most+1)).toNat).2 nm).1.map mA.D),.own 107 2 0 1]) (he:=cY) ?_;refine kV ?_;refine bB 107 ?_;refine zg ?_;refine iP trivial CP (dc ai (?_)) Z2 ai ai;rw[show oV g nm v most=(⟨nm,v,(nS nm g.aR (g.val (most+1)).toNat).1,(ez (nS nm g.aR (g.val (most+1)).toNat).2 nm).1,(kZ (ez (nS nm g.aR (g.val (most+1)).toNat).2 nm).2 (nS nm g.aR (g.val (most+1)).toNat).1).1⟩,(kZ (ez (nS nm g.aR (g.val (most+1)).toNat).2 nm).2 (nS nm g.aR (g.val (most+1)).toNat).1).2)from rfl,hF];rfl
  refine cV ?_;have hF:(kZ (ez (nS nm g.aR (g.val (most+1)).toNat).2 nm).2 (nS nm g.aR (g.val (most+1)).toNat).1)=([],(ez (nS nm g.aR (g.val (most+1)).toNat).2 nm).2.aR):=ah hc2;refine zg ?_;refine iP trivial CP (dc ai (?_)) Z2 ai ai;rw[show oV g nm v most=(⟨nm,v,(nS nm g.aR (g.val (most+1)).toNat).1,(ez (nS nm g.aR (g.val (most+1)).toNat).2 nm).1,(kZ (ez (nS nm g.aR (g.val (most+1)).toNat).2 nm).2 (nS nm g.aR (g.val (most+1)).toNat).1).1⟩,(kZ (ez (nS nm g.aR (g.val (most+1)).toNat).2 nm).2 (nS nm g.aR (g.val (most+1)).toNat).1).2)from rfl,hF];rfl
def si:aj:=ba 101
def w582 {Y:Ctx}(hm:(Y.at 3).bV)(y:cx)(ns:List av)(hA:C748 (Y.at 3))(hB:C749 (Y.at 3))(hp0:qa y/\kX y.e)(hp1:ns.length<=900):dn (Y.at 3) si.body (uc si (Kj y (sb y 49 nq ns) (qA y)):Ex->List aX->St->Prop) (fI si [cx.D y (.ptr 0 2 0 0)]) ⟨3,[(0,.buf 2 [eG 1 2 ns.length]),(1,.buf 1 (ns.map D.str)),(2,.buf 1 (de y ns))]⟩:=by
 show dn _ _ _ [⟨true,cx.D y (.ptr 0 2 0 0)⟩,.un,.un,.un,.un,.un,.un,.un,.un,.un,.un,.un,.un,.un,.un,.un,.un,.un,.un,.un,.un] ⟨3,[(0,.buf 2 [eG 1 2 ns.length]),(1,.buf 1 (ns.map D.str)),(2,.buf 1 (de y ns))]⟩;refine aP ?_;refine kV ?_;refine a8 (Key.D fD) ?_;refine bc [Key.D fD] ?_;refine cU ?_;refine bB 7 ?_ (he:=Gf) (hm:=Gf);refine cV ?_;refine a8 (Key.D fD) ?_;refine bc [Key.D fD] ?_;refine zg ?_;refine zfx hm (⟨0,nq,[fD],0,1,ns⟩:RcS) (fun p=>[.u 3,.e (.own 10 2 p.o p.c),.u 1,.p 3 8,.u 10,.m 2 p.s.all Key.D,.u 4]) (fun p=>[(0,.buf 2 [eG 5 6 p.nn.length]),(5,.buf 1 (p.nn.map D.str)),(6,.buf 1 (de y p.nn)),(3,.buf 8 [cx.D y (.ptr 0 2 0 0)]),(10,.buf 2 (p.b.map Key.D))]) 20 (SK y ns) (fun p=>49-p.n) (ajX y ns) [(1,5),(2,6),(3,3),(10,10)] ?_;rintro⟨n,s,b,o,c,nn⟩ hP;have hbf:=hP.2.2;have hnn:=hP.2.1.1;have hn48:=hP.1.1;have hI:=hP.1.2.1;dsimp only at hbf hnn hn48 hI⊢;obtain⟨hb1,qm,hb3⟩:=hbf;have hlen:=hI.len;refine zg ?_;intro _;refine dG ?_ ?_<;>intro hc0
 .refine fk ?_;refine FA 0 (hj:=fun _=>rfl) (hb:=fun _=>ae) ?_;refine xk (q:=Key.D) (xs:=b) (v:=Key.D s.todo[0]!) (hi:=fun _=>ae) (hv:=fun _=>by rw[agD qm ae];rfl) ?_;refine kV ?_;refine LX 1 (hb:=fun _=>ae) ?_;refine kn ?_;refine dA (nx':=33) (v:=.sl 1 ((cT y s.todo[0]!).map dL)) (m':=[(33,.buf 1 ((jk nn s.todo[0]!).map D.str)),(34,.buf 1 (de y (jk nn s.todo[0]!))),(0,.buf 2 [eG 33 34 (jk nn s.todo[0]!).length]),(3,.buf 8 [cx.D y (.ptr 0 2 0 0)]),(10,.buf 2 (b.map Key.D)),(26,.buf 2 [Key.D s.todo[0]!])]) (hc:=fun K' hK=>hA y nn s.todo[0]! hp0 ae _ 0 5 6 _ K' eo eo eo aU ⟨rfl,rfl,rfl⟩ hK) (hn:=aU) ?_;refine zg ?_;intro u0;refine zfx hm (⟨0,⟨s.all,s.todo.drop 1⟩,b,o+1,c-1⟩:RcT) (fun p=>[.u 3,.e (.own 10 2 p.o p.c),.u 1,.p 3 8,.u 1,.i p.i,.i ((cT y s.todo[0]!).length:Nat),.u 1,.m 1 (cT y s.todo[0]!) dL,.u 5,.m 2 p.t.all Key.D,.u 4]) (fun p=>[(0,.buf 2 [eG 5 6 (jk nn s.todo[0]!).length]),(5,.buf 1 ((jk nn s.todo[0]!).map D.str)),(6,.buf 1 (de y (jk nn s.todo[0]!))),(3,.buf 8 [cx.D y (.ptr 0 2 0 0)]),(10,.buf 2 (p.b.map Key.D))]) 40 (SM y s) (fun p=>(cT y s.todo[0]!).length-p.i) (akh y hb1 qm hb3 ae hlen.2 hlen.1) [(33,5),(34,6),(3,3),(10,10)] ?_;rintro⟨i,t,b1,o1,c1⟩ hT;have hT2:=hT;obtain⟨hi,ht,⟨hb4,hb5,hb6⟩,hta⟩:=hT2;dsimp only at hi ht hb4 hb5 hb6 hta⊢;refine zc ?_ ?_<;>intro hc1
  .refine dD ?_;have hro:=Y9 hp0.1.p s.todo[0]!;have hrl:=hro.2 _ (aq (show i<(cT y s.todo[0]!).length by omega));refine cV ?_;refine c7 (v:=.sl 4 ((cT y s.todo[0]!)[i]!.map je.D)) (hi:=fun _=>ae) ?_;refine zg ?_;intro u1;refine zfxL hm (⟨0,t,b1,o1,c1⟩:RcU) (fun p=>[.u 3,.e (.own 10 2 p.o p.c),.u 1,.p 3 8,.u 1,.i i,.i ((cT y s.todo[0]!).length:Nat),.u 1,.m 1 (cT y s.todo[0]!) dL,.u 1,.i p.j,.i ((cT y s.todo[0]!)[i]!.length:Nat),.u 1,.m 4 (cT y s.todo[0]!)[i]! je.D,.m 2 p.u.all Key.D,.u 4]) (fun p=>[(0,.buf 2 [eG 5 6 (jk nn s.todo[0]!).length]),(5,.buf 1 ((jk nn s.todo[0]!).map D.str)),(6,.buf 1 (de y (jk nn s.todo[0]!))),(3,.buf 8 [cx.D y (.ptr 0 2 0 0)]),(10,.buf 2 (p.b.map Key.D))]) 60 (Nv (cT y s.todo[0]!)[i]! t i) (fun p=>(cT y s.todo[0]!)[i]!.length-p.j) (akm _ hb4 hb5 hb6 hta) [(3,3),(5,5),(6,6),(10,10)] ?_;rintro⟨j,u,b2,o2,c2⟩ hU;have hU2:=hU;obtain⟨hj,hu,⟨hb7,hb8,hb9⟩,hua⟩:=hU2;dsimp only at hj hu hb7 hb8 hb9 hua⊢;refine zc ?_ ?_<;>intro hc2
   .refine kn ?_;refine cy _ ?_;refine zg ?_;intro u2 u3;refine A3 ?_ ?_<;>intro hc3
    .refine Ih ?_;refine bc [Key.D (cT y s.todo[0]!)[i]![j]!.k] ?_;refine xg ((u.todo++[(cT y s.todo[0]!)[i]![j]!.k]).map Key.D) (n:=c2+1) (ha:=lL) (he:=nF.all rfl rfl) (hz:=agC hb7 hb8 _) (hn:=rfl) (hb:=ae) ?_;refine zg ?_;exact⟨⟨j+1,_,(u.todo++[(cT y s.todo[0]!)[i]![j]!.k]),0,c2+1⟩,(ako hU ae ae),mz,(aY.to [(3,3),(5,5),(6,6),(84,10)] ai ai eD (by repeat(first|exact bm.nil|refine bm.AA ai ai dS ?_|refine bm.Nj ai ai ai ?_|refine bm.Nk ai ai ai ai ?_|refine bm.AA ai ai (by exact iZ _ _) ?_|refine bm.nl 3 ai ai ai qN ?_|refine bm.eq 3 ai ai ai ?_|refine bm.nl 5 ai ai ai qN ?_|refine bm.eq 5 ai ai ai ?_|refine bm.nl 6 ai ai ai qN ?_|refine bm.eq 6 ai ai ai ?_|refine bm.nl 84 ai ai ai qN ?_|refine bm.eq 84 ai ai ai ?_)))⟩
    refine zg ?_;exact⟨⟨j+1,u,b2,o2,c2⟩,(akn hU ae ae),mz,(aY.to [(3,3),(5,5),(6,6),(10,10)] ai ai eD aaf)⟩
   refine zg ?_;exact⟨⟨i+1,u,b2,o2,c2⟩,(aki hT hU ae ae hrl.2),mz,(aY.to [(3,3),(5,5),(6,6),(10,10)] ai ai eD aaf)⟩
  refine zg ?_;intro u4;refine A3 ?_ ?_<;>intro hc4
  .refine fk ?_;refine hR (aY.nz _ [_,⟨true,.sl 2 []⟩,_,_,_,_,_,_,_,_,_,_,_,_,_,_,_,_,_,_,_] _ _ [(0,.buf 2 [eG 5 6 ((jk nn s.todo[0]!)).length]),(5,.buf 1 (((jk nn s.todo[0]!)).map D.str)),(6,.buf 1 (de y ((jk nn s.todo[0]!))))] ⟨⟨rfl,.refl _⟩,⟨rfl,.nil 2⟩,⟨rfl,.refl _⟩,⟨rfl,.refl _⟩,⟨rfl,.refl _⟩,⟨rfl,.refl _⟩,⟨rfl,.refl _⟩,⟨rfl,.refl _⟩,⟨rfl,.refl _⟩,⟨rfl,.refl _⟩,⟨rfl,.refl _⟩,⟨rfl,.refl _⟩,⟨rfl,.refl _⟩,⟨rfl,.refl _⟩,⟨rfl,.refl _⟩,⟨rfl,.refl _⟩,⟨rfl,.refl _⟩,⟨rfl,.refl _⟩,⟨rfl,.refl _⟩,⟨rfl,.refl _⟩,⟨rfl,.refl _⟩,trivial⟩ (.id ai (.id ai (.id ai .nil)))) ?_;refine zg ?_;refine dY trivial jo (dc ai (?_)) ai ⟨by first|(rw[(CV hP hT ae ae ae).1];done)|(rw[(CV hP hT ae ae ae).1];exact rfl),5,6,⟨ae,ae,ae⟩,by rw[(CV hP hT ae ae ae).2];exact sF⟩;rfl
  refine zg ?_;exact⟨⟨n+1,t,b1,o1,c1,(jk nn s.todo[0]!)⟩,(ajY hP hT ae ae ae),mz,(aY.to [(3,3),(5,5),(6,6),(10,10)] ai ai eD aaf)⟩
 refine zg ?_;refine dY trivial jo (dc ai (?_)) ai ⟨by first|(rw[(yQ hP ae).1];done)|(rw[(yQ hP ae).1];exact rfl),5,6,⟨ae,ae,ae⟩,by rw[(yQ hP ae).2];exact sF⟩;rfl
def GB:aj:=ba 39
def w410 (hA:C273 Y)(hB:C623 Y)(hC:C624 Y):tD (cq Y GB):=fun w c hp0=>by
 refine p9 ?_;refine aE (hc:=hA (w) (c) (by first|assumption|omega|exact hp0.1|exact hmn _ (aq ae)|exact hmb _ (aq ae))) ?_;refine zg ?_;refine aQ (fun hc0=>?_) (fun hc0=>?_)
 .try simp only[gF]at hc0
  refine zr ?_;rw[show jN w c=[]from ak hc0];rfl
 simp only[df]at hc0;have hml:=Om hc0;have hwl:=DS hp0.1 hc0;refine qL ?_;refine cF (0) (hj:=fun hf=>cg) (hb:=fun hf=>cg) ?_;refine zc ?_ ?_<;>intro hc1
 .exact absurd hc1 (by have:=hp0.2;omega)
 refine zg ?_;intro u0;refine zf hm (fun u=>[.u 1,.m 1 c (D.int .i64),.u 1,.p 1 1,.u 2,.o 0 3 (fY w c u).length,.i u,.i c.length,.u 1,.m 1 c (D.int .i64),.u 18]) (fun u=>[(0,.buf 3 ((fY w c u).map vT.D)),(1,.buf 1 [bT.D w])]) 14 (fun u=>u<=c.length) (fun u=>c.length-u) ae [(0,1)] ?_;intro u hu;have hlu:=hwl u hu;refine zc ?_ ?_<;>intro hc2
 .refine zc ?_ ?_<;>intro hc3
  .refine zg ?_;rw[show fY w c u=fY w c (u+1)from(PL hc3).symm];exact ij (u+1) [(0,0),(1,1)]
  refine cU ?_;have hone:=Q7 (u:=u) hp0 hc0 ae ae;obtain⟨⟨hk,hkc⟩,⟨hl1,hl2⟩,hmn,hmb⟩:=Bj hone;have hul:u<w.us.length:=by have:=(m8 hone.2.1).1;omega
  refine p9 ?_;refine c7 (v:=en.D (aT w c u)) (hi:=fun _=>ae) ?_;refine zg ?_;intro u1;rw[show fY w c u=(fY w c u++fG w c u (aT w c u).needs 0)from(fZ _).symm];refine zf hm (fun k=>[.u 1,.m 1 c (D.int .i64),.u 1,.p 1 1,.u 2,.o 0 3 (fY w c u++fG w c u (aT w c u).needs k).length,.i u,.i c.length,.u 1,.m 1 c (D.int .i64),.u 2,.i u,.p 2 8,.i k,.i ((aT w c u).needs.length:Nat),.u 1,.m 1 (aT w c u).needs jv,.u 10]) (fun k=>[(0,.buf 3 ((fY w c u++fG w c u (aT w c u).needs k).map vT.D)),(1,.buf 1 [bT.D w]),(2,.buf 8 [en.D (aT w c u)])]) 37 (fun k=>k<=(aT w c u).needs.length) (fun k=>(aT w c u).needs.length-k) ae [(0,0),(1,1),(31,2)] ?_;intro k hk1;have hlk:=pG (w:=w) (c:=c) (u:=u) (l:=(aT w c u).needs) k;have hlt:(fY w c u++fG w c u (aT w c u).needs k).length<=2400:=by rw[cn];omega
  refine zc ?_ ?_<;>intro hc4
  .refine kV ?_;refine c7 (v:=.sl 3 ((((aT w c u).needs)[k]!).map Want.D)) (hi:=fun hf=>cg) ?_;refine zg ?_;refine wp_cond (fun hc5=>?_) (fun hc5=>?_)
   .simp only[cz]at hc5;have hst:(fY w c u++fG w c u (aT w c u).needs k)++[⟨2,((u:Nat):Int),((k:Nat):Int)⟩]=(fY w c u++fG w c u (aT w c u).needs (k+1)):=by rw[Oq hc5,fm]
    refine fk ?_;refine a8 (vT.D ⟨2,((u:Nat):Int),((k:Nat):Int)⟩) ?_;refine bc [vT.D ⟨2,((u:Nat):Int),((k:Nat):Int)⟩] ?_;refine cI (q:=vT.D) (xs:=(fY w c u++fG w c u (aT w c u).needs k)) (e:=⟨2,((u:Nat):Int),((k:Nat):Int)⟩) (hb:=ae) ?_;refine zg ?_;rw[hst];exact ij (k+1) [(53,0),(1,1),(2,2)]
   simp only[df]at hc5;have hst:(fY w c u++fG w c u (aT w c u).needs k)=(fY w c u++fG w c u (aT w c u).needs (k+1)):=by rw[Ot hc5]
   refine zg ?_;rw[hst];exact ij (k+1) [(0,0),(1,1),(2,2)]
  refine cU ?_;obtain rfl:k=(aT w c u).needs.length:=ae;refine zg ?_;intro u2;rw[show(fY w c u++fG w c u (aT w c u).needs (aT w c u).needs.length)=((fY w c u++fG w c u (aT w c u).needs (aT w c u).needs.length)++jT w c u (aT w c u).bars 0)from(fZ _).symm];refine ZT hm (fun q=>[.u 1,.m 1 c (D.int .i64),.u 1,.p 1 1,.u 2,.o 0 3 ((fY w c u++fG w c u (aT w c u).needs (aT w c u).needs.length)++jT w c u (aT w c u).bars q).length,.i u,.i c.length,.u 1,.m 1 c (D.int .i64),.u 2,.i u,.p 2 8,.u 7,.i q,.i ((aT w c u).bars.length:Nat),.u 1,.m 3 (aT w c u).bars Want.D,.u 3]) (fun q=>[(0,.buf 3 (((fY w c u++fG w c u (aT w c u).needs (aT w c u).needs.length)++jT w c u (aT w c u).bars q).map vT.D)),(1,.buf 1 [bT.D w]),(2,.buf 8 [en.D (aT w c u)])]) 42 (fun q=>q<=(aT w c u).bars.length) (fun q=>(aT w c u).bars.length-q) ae [(0,0),(1,1),(2,2)] ?_;intro q hq;have hlq:=wc (w:=w) (c:=c) (u:=u) (b:=(aT w c u).bars) q;have hlk:=pG (w:=w) (c:=c) (u:=u) (l:=(aT w c u).needs) (aT w c u).needs.length;have hlt:((fY w c u++fG w c u (aT w c u).needs (aT w c u).needs.length)++jT w c u (aT w c u).bars q).length<=2400:=by rw[cn,cn];omega
  refine zc ?_ ?_<;>intro hc6
  .refine zg ?_;refine wp_cond (fun hc7=>?_) (fun hc7=>?_)
   .have hst:((fY w c u++fG w c u (aT w c u).needs (aT w c u).needs.length)++jT w c u (aT w c u).bars q)++[⟨3,((u:Nat):Int),((q:Nat):Int)⟩]=((fY w c u++fG w c u (aT w c u).needs (aT w c u).needs.length)++jT w c u (aT w c u).bars (q+1)):=by rw[Nz hc7,<-fm]
    refine fk ?_;refine a8 (vT.D ⟨3,((u:Nat):Int),((q:Nat):Int)⟩) ?_;refine bc [vT.D ⟨3,((u:Nat):Int),((q:Nat):Int)⟩] ?_;refine cI (q:=vT.D) (xs:=((fY w c u++fG w c u (aT w c u).needs (aT w c u).needs.length)++jT w c u (aT w c u).bars q)) (e:=⟨3,((u:Nat):Int),((q:Nat):Int)⟩) (hb:=ae) ?_;refine zg ?_;rw[hst];exact ij (q+1) [(58,0),(1,1),(2,2)]
   have hst:((fY w c u++fG w c u (aT w c u).needs (aT w c u).needs.length)++jT w c u (aT w c u).bars q)=((fY w c u++fG w c u (aT w c u).needs (aT w c u).needs.length)++jT w c u (aT w c u).bars (q+1)):=by rw[Ny hc7]
   refine zg ?_;rw[hst];exact ij (q+1) [(0,0),(1,1),(2,2)]
  refine zg ?_;obtain rfl:q=(aT w c u).bars.length:=ae;rw[ZL ae];exact ij (u+1) [(0,0),(1,1)]
 refine cU ?_;obtain rfl:u=c.length:=ae;rw[show fY w c c.length=jN w c from(ah (by rw[hc0];simp)).symm];refine bB 0 ?_;exact my
def yy:aj:=ba 46
def w296 {Y:Ctx}(hm:(Y.at 1).bV)(hB:Gi (Y.at 1))(hC:C535 (Y.at 1))(g:Gs)(own:av)(hp0:0<=g.i/\g.i<=980000):dn (Y.at 1) yy.body (Gl yy 2 (bj.D (mc g own).1) (Gs.D (mc g own).2):Ex->List aX->St->Prop) (fI yy (.ptr 0 2 0 0::[.str own])) ⟨1,[(0,.buf 2 [(Gs.D g)])]⟩:=by
 show dn _ _ _ [⟨true,.ptr 0 2 0 0⟩,⟨true,.str own⟩,.un,.un,.un,.un,.un,.un,.un,.un,.un] ⟨1,[(0,.buf 2 [(Gs.D g)])]⟩;refine aP ?_;refine dD ?_;have hw1:=Br g own;have hw2:=Br (dw g own).2.aR own;have ha:=Vv g own;refine cU ?_;refine c8 (hc:=hC g own ae) ?_;refine bc [cZ.D (dw g own).1] ?_;refine bP [.own 5 4 0 1,.str [],.str []] ?_;refine kn ?_;refine c8 (hc:=hB (dw g own).2 6 ae kR) ?_;refine cV ?_;refine qK hm (ι:=Unit) (fun _=>[⟨true,.ptr 0 2 0 0⟩,⟨true,.str own⟩,⟨true,.ptr 1 3 0 0⟩,.un,.un,⟨true,.ptr 2 3 0 0⟩,.un,.un,.un,.un,.un]) (fun _=>[(0,.buf 2 [Gs.D (gP g own).2]),(1,.buf 3 [.agg [.aK,.str [],.str []]]),(2,.buf 3 [.agg [.own 3 4 0 (gP g own).1.length,.str [],.str []]]),(3,.buf 4 ((gP g own).1.map cZ.D))]) 60 (fun _=>True) ?_ ?_
 .refine zc ?_ ?_<;>intro hc0
  .refine cU ?_;refine yN (v:=.own 5 4 0 1) ?_;refine cU ?_;refine c8 (hc:=hC (dw g own).2.aR own J8) ?_;refine bc [cZ.D (dw (dw g own).2.aR own).1] ?_;refine cI (q:=cZ.D) (xs:=[(dw g own).1]) (e:=(dw (dw g own).2.aR own).1) (hb:=aF) ?_;refine cV ?_;refine cy (.agg [.own 19 4 0 2,.str [],.str []]) (he:=cY) ?_;refine zg ?_;have hA:(gP g own)=([(dw g own).1,(dw (dw g own).2.aR own).1],(dw (dw g own).2.aR own).2):=ak hc0;rw[hA];exact⟨(),trivial,(aY.to [(1,1),(7,2),(19,3)] ai ai eD (by refine bm.nl 0 ai ai ai dS ?_;refine bm.nl 1 ai ai ai dS ?_;refine bm.eq 7 ai ai ai ?_;refine bm.nl 19 ai ai ai dS ?_;exact bm.nil))⟩
  refine zc ?_ ?_<;>intro hc1
  .refine dD ?_;refine bc [.str fW] ?_;refine FA 0 (hj:=fun _=>rfl) (hb:=fun _=>aU) ?_;refine cV ?_;refine sa [.agg [.str (dw g own).1.name,.str (dw g own).1.range,.own 17 1 0 1,.bool (dw g own).1.bare]] (hi:=aF) (he:=cY) ?_;refine zg ?_;have hA:(gP g own)=([{(dw g own).1 with feats:=[fW]}],(dw g own).2.aR):=by rw[gP,ah hc0,ak hc1]
   rw[hA];exact⟨(),trivial,(aY.fz 17 ai dS LV LV (aY.to [(1,1),(7,2),(5,3)] ai ai eD aae))⟩
  refine zg ?_;have hA:(gP g own)=([(dw g own).1],(dw g own).2.aR):=by rw[gP,ah hc0,ah hc1]
  rw[hA];exact⟨(),trivial,(aY.to [(1,1),(7,2),(5,3)] ai ai eD aae)⟩
 .rintro _-
  refine dD ?_;refine c8 (hc:=hB (gP g own).2 8 ae kR) ?_;refine cV ?_;refine qK hm (ι:=Unit) (fun _=>[⟨true,.ptr 0 2 0 0⟩,⟨true,.str own⟩,⟨true,.ptr 1 3 0 0⟩,.un,.un,⟨true,.ptr 2 3 0 0⟩,.un,.un,.un,.un,.un]) (fun _=>[(0,.buf 2 [Gs.D (ju (gP g own).2).2]),(1,.buf 3 [.agg [.aK,.str [],.str []]]),(2,.buf 3 [.agg [.own 3 4 0 (gP g own).1.length,.str (ju (gP g own).2).1,.str []]]),(3,.buf 4 ((gP g own).1.map cZ.D))]) 80 (fun _=>True) ?_ ?_
  .refine zc ?_ ?_<;>intro hc2
   .refine cU ?_;refine cy (.agg [.own 3 4 0 (gP g own).1.length,.str osY,.str []]) (he:=cY) ?_;refine zg ?_;have hH:(ju (gP g own).2)=(osY,(gP g own).2.aR):=by rw[ju,ak hc2]
    rw[hH];exact⟨(),trivial,(aY.to [(1,1),(2,2),(3,3)] ai ai eD P0)⟩
   refine zc ?_ ?_<;>intro hc3
   .refine cU ?_;refine cy (.agg [.own 3 4 0 (gP g own).1.length,.str osN,.str []]) (he:=cY) ?_;refine zg ?_;have hH:(ju (gP g own).2)=(osN,(gP g own).2.aR):=by rw[ju,ah hc2,ak hc3]
    rw[hH];exact⟨(),trivial,(aY.to [(1,1),(2,2),(3,3)] ai ai eD P0)⟩
   refine zg ?_;have hH:(ju (gP g own).2)=([],(gP g own).2.aR):=by rw[ju,ah hc2,ah hc3]
   rw[hH];exact⟨(),trivial,(aY.to [(1,1),(2,2),(3,3)] ai ai eD P0)⟩
  .rintro _-
   refine dD ?_;refine c8 (hc:=hB (ju (gP g own).2).2 5 ae (by first|omega|(simp only[Gs.aR];omega)|(simp only[oM,ju,Gs.aR]at*;omega))) ?_;refine zc ?_ ?_<;>intro hc4
   .refine cV ?_;have hO:(Hj (ju (gP g own).2).2)=([111],(ju (gP g own).2).2.aR):=by rw[Hj,ak hc4]
    refine cV ?_;refine cy (.agg [.own 3 4 0 (gP g own).1.length,.str (ju (gP g own).2).1,.str [111]]) (he:=cY) ?_;refine kV ?_;refine bB 3 ?_;refine zg ?_;refine iP trivial CP (dc ai (?_)) (by rw[mc,hO];exact rfl) ai ai;rw[mc,hO];rfl
   refine cV ?_;have hO:(Hj (ju (gP g own).2).2)=([],(ju (gP g own).2).2.aR):=by rw[Hj,ah hc4]
   refine fk ?_;refine bB 3 ?_;refine zg ?_;refine iP trivial CP (dc ai (?_)) (by rw[mc,hO];exact rfl) ai ai;rw[mc,hO];rfl
def AS:aj:=⟨2,16,[⟨2,none⟩],UI,(sq (rg [gb 5 s0,gb 5 s1,gm x8] [(3,0),(4,1),(2,2)]) (sq (sq (r2 [gk 5 true s3,gx 209 [l0] ha5,gno l1,gm l2,A8 3 (.ld 5 true s4),A8 3 (.call 209 [l4] ha5),A8 3 (.un .not l5),go1 l3 l6,gm l7,A8 8 (.ld 5 true s3),A8 8 (.call 530 [l9] ha5),A8 8 (.ld 5 true s4),A8 8 (.call 530 [l11] ha5),A8 8 (.eqA false true [.i .i64,.i .i64,.i .i64,.s,.s] l10 l12),go1 l8 l13] 5 14) (.cond s5 (sq (r1 [gm x8] 2 0) .ret) .skip)) (sq (sq (r2 [gf 0 s3,gd l0,gf 0 s4,gd l2,gx 532 [l1,l3] qm,gf 1 s3,gd l5,gf 1 s4,gd l7,gx 532 [l6,l8] qm,gf 2 s3,gd l10,gf 2 s4,gd l12,gx 532 [l11,l13] qm,gn (.bsl 1 (.int .i64 0) 3 [(0,l4),(1,l9),(2,l14)]),gx 531 [l15] [[.sl 1 [.a]]],gm l16] 6 17) (sq (r1 [gm s6,rW l0 x8] 7 1) (.cond s7 (sq (r1 [gm s6,gm l0] 2 1) .ret) .skip))) (sq (sq (r1 [gf 3 s3,gd l0,G7 l1 cse] 8 2) (.cond s8 (sq (r1 [gm Tk] 2 0) .ret) .skip)) (sq (sq (r1 [gf 3 s4,gd l0,G7 l1 cse] 9 2) (.cond s9 (sq (r1 [gn (.mv (.c (.int .i64 (-1))))] 2 0) .ret) .skip)) (sq (rt [gf 3 s3,gd l0,gx 533 [l1,(i8 46)] qm,gf 3 s4,gd l3,gx 533 [l4,(i8 46)] qm,gm l2,gm l5] [(11,6),(12,7)]) (sq (sq (r1 [gm x8] 10 0) (.block 0 (.loop (sq (sq (r1 [gm Un,gm s11,gl l1,nX l0 l2,gm l3,gmt 4 Un,gmt 4 Zb,Ay 4 (.len l6),Ay 4 (aet l5 l7),ga1 l4 l8] 13 9) (gce s13 0)) (sq (.block 1 (sq (r2 [gm s11,gm Un,ga 1 l0 l1,gd l2,gm Zb,gm Un,ga 1 l4 l5,gd l6,gx 534 [l3,l7] qm,gm l8] 14 9) (sq (r1 [gm s14,rW l0 x8] 15 1) (.cond s15 (sq (r1 [gm s14,gm l0] 2 1) .ret) .skip)))) (r1 [gm Un,qu l0 Tk,gm l1] 10 2)))))) (sq (r1 [gm s11,gl l0,gm Zb,gl l2,gx 532 [l1,l3] qm,gm l4] 2 5) .ret))))))))⟩
def w295 (hA:An Y)(hB:C530 Y)(hC:C531 Y)(hD:C532 Y)(hE:UW Y)(hF:C534 Y):tx (cq Y AS):=fun a b hp0=>by
 refine zg ?_;refine aQ (fun hc0=>?_) (fun hc0=>?_)
 .simp only[dC,cz,aW]at hc0;refine zr ?_;rcases hc0 with hc0|hc0
  .unfold iz;rw[ak hc0]
  .exact(E0 hc0).symm
 simp only[eW,df,cv]at hc0;have hv:¬(gA a=false\/gA b=false):=by simp only[not_or,Bool.not_eq_false];first|exact hc0|exact hc0.1
 refine ib ?_;refine fk ?_;refine bc ([dh a.major b.major,dh a.minor b.minor,dh a.patch b.patch].map (D.int .i64)) ?_;refine aE (hc:=hC [dh a.major b.major,dh a.minor b.minor,dh a.patch b.patch]) (ha:=fun _=>aw (fun d=>[d]) (th (q:=D.int .i64) (xs:=[dh a.major b.major,dh a.minor b.minor,dh a.patch b.patch]) (fun _=>rfl) ai)) (hp:=fun _=>⟨pT (q:=D.int .i64) (xs:=[dh a.major b.major,dh a.minor b.minor,dh a.patch b.patch]) (fun _=>rfl) ai,trivial⟩) ?_;refine zg ?_;refine aQ (fun hc1=>?_) (fun hc1=>?_)
 .simp only[cz,cv]at hc1;refine zr ?_;exact Wq hv hc1
 simp only[df,aW]at hc1;obtain⟨z1,z2,z3⟩:=Wr hc1;refine dD ?_;have hcp:=VQ hv z1 z2 z3;have hpn:¬a.pre=b.pre:=fun e=>hc0.2 (abD z1 z2 z3 e)
 refine zc ?_ ?_<;>intro hc2
 .refine zr ?_;rw[hcp];unfold AJ;rw[ah hpn,ak hc2]
 refine zc ?_ ?_<;>intro hc3
 .refine zr ?_;rw[hcp];unfold AJ;rw[ah hpn,ah hc2,ak hc3]
 refine fk ?_;refine aE (hc:=hE a.pre 46 hp0.1.1) ?_;refine cU ?_;refine aE (hc:=hE b.pre 46 hp0.2.1) ?_;refine zg ?_;refine zf hm (fun i=>[.u 3,.p 0 5,.p 1 5,.u 5,.i i,.m 1 (a7 a.pre 46) D.str,.m 1 (a7 b.pre 46) D.str,.u 3]) (fun i=>[(0,.buf 5 [bX.D a]),(1,.buf 5 [bX.D b])]) 53 (fun i=>(i<=(a7 a.pre 46).length/\i<=(a7 b.pre 46).length)/\iz a b=uS (a7 a.pre 46) (a7 b.pre 46) i) (fun i=>(a7 a.pre 46).length-i) ⟨⟨ae,ae⟩,by rw[hcp];unfold AJ;rw[ah hpn,ah hc2,ah hc3]⟩ [(0,0),(1,1)] ?_;rintro i ⟨hi,hr⟩;refine zg ?_;intro u0;refine dG ?_ ?_<;>intro hc4
 .refine zc ?_ ?_<;>intro hc5
  .refine zr ?_;rw[hr,FY ae hc5]
  refine zl (i+1) [(0,0),(1,1)] ?_;exact⟨⟨ae,ae⟩,by rw[hr,MR ae hc5]⟩
 refine zg ?_;intro u1 u2;refine zr ?_;rw[hr,FX ae]
def Ms:aj:=ba 104
def w693 (hA:C184 Y)(hB:C829 Y):Jt (cq Y Ms):=fun m al c hp0=>by
 refine cV ?_;obtain⟨⟨hmp,hcp⟩,rfl⟩:=hp0;have hfp:=KN hmp hcp;have hml:=hmp.1;have hcl:=hcp.1;refine qL ?_;refine cF 0 (hj:=fun _=>ae) (hb:=fun _=>ae) ?_;refine zc ?_ ?_<;>intro hc0
 .refine zr ?_;unfold dV;rw[ak hc0];rfl
 refine zg ?_;refine zf hm (fun u=>[.u 1,.m 1 ([]:List Int) (D.int .i64),.m 1 c (D.int .i64),.u 3,.i u,.u 5,.p 0 3,.u 4]) (fun u=>[(0,.buf 3 [j3.D m])]) 8 (fun u=>u<=c.length) (fun u=>c.length-u) ae [(0,0)] ?_;intro u hu;refine zg ?_;intro u0;refine dG ?_ ?_<;>intro hc1
 .refine zg ?_;refine wp_cond (fun hc2=>?_) (fun hc2=>?_)
  ·

   exfalso;revert hc2;cases decide (c[u]! <0)<;>decide
  try simp only[gF]at hc2
  exact ij (u+1) [(0,0)]
 refine zg ?_;refine zf hm (fun u=>[.u 1,.m 1 ([]:List Int) (D.int .i64),.m 1 c (D.int .i64),.u 6,.i u,.u 2,.p 0 3,.u 4]) (fun u=>[(0,.buf 3 [j3.D m])]) 13 (fun u=>u<=c.length/\mT m c=mD (w9 m c) (c.length-u) u) (fun u=>c.length-u) ⟨ae,rfl⟩ [(0,0)] ?_;rintro u ⟨hu,hr⟩;refine zg ?_;intro u1;refine dG ?_ ?_<;>intro hc3
 .refine zg ?_;refine aQ (fun hc4=>?_) (fun hc4=>?_)
  .try simp only[gF]at hc4
   refine gD (u+1) [(0,0)] ?_;rw[hr,Gr ae (by unfold w9;rw[bo hc4];rfl)]
  simp only[cv]at hc4;obtain⟨v,hv⟩:∃v:Nat,c[u]! =(v:Int):=⟨c[u]!.toNat,ae⟩
  have hfu:=hfp.2 u ae ae;rw[hv,Int.toNat_natCast]at hfu;have hro:HU m c u=mD (fun k=>j6 c m.needs[u]![v]![k]!) m.needs[u]![v]!.length 0:=by unfold HU;rw[hv,Int.toNat_natCast]
  have hou:w9 m c u=decide (HU m c u=m.needs[u]![v]!.length):=by unfold w9;rw[hv,Int.toNat_natCast,bG (show ¬((v:Nat):Int)<0 by omega),Bool.false_or]
  refine kn ?_;refine c7 (v:=.sl 1 (((m.needs)[u]!).map ox)) (hi:=fun hf=>cg) ?_;refine kV ?_;refine c7 (v:=.sl 1 (m.needs[u]![v]!.map H2)) (hi:=fun _=>ae) ?_;refine zg ?_;refine ZT hm (fun k=>[.u 1,.m 1 ([]:List Int) (D.int .i64),.m 1 c (D.int .i64),.u 6,.i u,.u 2,.p 0 3,.i k,.m 1 (m.needs[u]![v]!) H2,.u 2]) (fun k=>[(0,.buf 3 [j3.D m])]) 35 (fun k=>k<=m.needs[u]![v]!.length/\HU m c u=mD (fun k=>j6 c m.needs[u]![v]![k]!) (m.needs[u]![v]!.length-k) k) (fun k=>m.needs[u]![v]!.length-k) ⟨ae,by rw[hro];rfl⟩ [(0,0)] ?_;rintro k ⟨hk,hr2⟩;refine zg ?_;intro u2;refine dG ?_ ?_<;>intro hc5
  .refine qL ?_;refine c7 (v:=.sl 2 (((m.needs[u]![v]!)[k]!).map dR.D)) (hi:=fun hf=>cg) ?_;refine zg ?_;refine wp_cond (fun hc6=>?_) (fun hc6=>?_)
   .have hk6:HU m c u=k:=hr2.trans (Qm (f:=fun k=>j6 c m.needs[u]![v]![k]!) ae (by simpa using hc6));refine zr ?_;have h5:mT m c=u:=by rw[hr,Qm ae (by rw[hou,hk6];exact bG ae)]
    unfold dV;rw[ah hc0,ak ae,h5,hk6];rfl
   try simp only[gF]at hc6
   refine gD (k+1) [(0,0)] ?_;exact hr2.trans (Gr (f:=fun k=>j6 c m.needs[u]![v]![k]!) ae hc6)
  refine gD (u+1) [(0,0)] ?_;rw[hr,Gr ae (by rw[hou,hr2,Kz ae];exact bo ae)]
 refine zr ?_;have h5:mT m c=u:=by rw[hr,Kz ae]
 unfold dV;rw[ah hc0,ah ae];rfl
def HO:aj:=ba 172
def w554 {Y:Ctx}(hm:(Y.at 0).bV)(hA:C734 Y):Jf (cq Y HO):=fun v hp0=>by
 show dn _ _ _ [⟨_,_⟩,_,_,_] _;obtain⟨hq1,hq2,hq3⟩:=hp0;simp only[B2,aD,aW]at hq1 hq2 hq3;have hl1:=gU 4 v.major.toNat ae ae;have hl2:=gU 4 v.minor.toNat ae ae;have hl3:=gU 4 v.patch.toNat ae ae;refine aP ?_;exact my
def Pl:aj:=ba 127
def w316 {Y:Ctx}(hm:(Y.at 0).bV)(hA:Bv Y)(hB:C554 Y):tG (cq Y Pl):=fun v hp0=>by
 show dn _ _ _ [⟨_,_⟩,_,_,_,_,_,_] _;obtain⟨hs1,hs2⟩:=hp0;have hp0:v.sm:=⟨hs1,hs2⟩;refine aP ?_;refine zg ?_;refine aQ (fun hc0=>?_) (fun hc0=>?_)
 .simp only[cz]at hc0;refine zr ?_;simp[um,hc0]
 simp only[df]at hc0;refine cU ?_;have hv:=hc0;simp only[gA,aD]at hv;obtain⟨⟨⟨⟨hv1,hv2⟩,hv3⟩,_⟩,_⟩:=hv;have hq1:=hv1;have hq2:=hv2;have hq3:=hv3;simp only[B2,aD,aW]at hq1 hq2 hq3;have hl1:=gU 4 v.major.toNat ae ae;have hl2:=gU 4 v.minor.toNat ae ae;have hl3:=gU 4 v.patch.toNat ae ae;refine zc ?_ ?_<;>intro hc1
 .refine zc ?_ ?_<;>intro hc2
  .refine zr ?_;simp[um,EK,hc0,hc1,hc2]
  refine zr ?_;simp[um,EK,hc0,hc1,hc2]
 refine zc ?_ ?_<;>intro hc2
 .refine zr ?_;simp[um,EK,hc0,hc1,hc2]
 refine zr ?_;simp[um,EK,hc0,hc1,hc2]
def Uh:aj:=ba 85
def w464 {Y:Ctx}(hm:(Y.at 0).bV):I4 (cq Y Uh):=fun h n hp0=>by
 refine kn ?_;refine FB (Zi h n) (hb:=fun _=>by rw[show min (Int.toNat (n:Int)) (IntKind.bits .u64)=n by simp[IntKind.bits];omega];rfl) ?_;refine cU ?_;refine Hw ((64-n:Nat):Int) (hb:=fun _=>by rw[IntKind.wrap_u64];omega) ?_;refine RB (FM h (64-n)) (hb:=fun _=>by rw[show min (Int.toNat ((64-n:Nat):Int)) (IntKind.bits .u64)=64-n by simp[IntKind.bits]];rfl) ?_;refine aeV (rot h n) (hb:=fun _=>rfl) ?_;refine zg ?_;refine fE (aw (D.int .u64) ?_);rfl
def Y2:aj:=ba 43
def w221 (hA:C464 Y):tu (cq Y Y2):=fun s=>by
 refine zg ?_;refine zf hm (fun i=>[.e (.sl 1 (s.map fun b=>D.int .u8 b.toNat)),.u 1,.i i,.u 1,.e (.int .u64 (yY (s.take i)))]) (fun i=>[]) 3 (fun i=>i<=s.length) (fun i=>s.length-i) ae [] ?_;intro i hi;refine zg ?_;intro u0;refine dG ?_ ?_<;>intro hc0
 .refine qL ?_;refine c7 (v:=.int .u8 (at8 s i)) (hv:=fun _=>ld8 s i) ?_;refine qY (at8 s i) (hb:=fun _=>by have:=Gq s i;rw[IntKind.wrap_u64];omega) ?_;refine Hq (Se (yY (s.take i)) (at8 s i)) (hb:=fun _=>rfl) ?_;refine cV ?_;refine Yz (yY (s.take (i+1))) (hb:=fun _=>by rw[FW s i ae];rfl) ?_;exact ij (i+1) []
 refine dD ?_;have ht:s.take i=s:=gK ae;rw[ht];refine cU ?_;refine RB (FM (yY s) 29) (hb:=fun _=>rfl) ?_;refine Hq (sumL s) (hb:=fun _=>rfl) ?_;refine zg ?_;refine fE (aw (D.int .u64) ?_);rfl
def CY:aj:=ba 148
def w752 {Y:Ctx}(hm:(Y.at 3).bV)(y:cx)(ns:List av)(k:Key)(hA:C755 (Y.at 3))(hB:C816 (Y.at 3))(hp0:pe y)(hp1:ns.length<=999):dn (Y.at 3) CY.body (uc CY (Kj y (eL ns k.n) (uj (eF y k))):Ex->List aX->St->Prop) (fI CY [cx.D y (.ptr 0 2 0 0),Key.D k]) ⟨3,[(0,.buf 2 [eG 1 2 ns.length]),(1,.buf 1 (ns.map D.str)),(2,.buf 1 (de y ns))]⟩:=by
 show dn _ _ _ [⟨true,cx.D y (.ptr 0 2 0 0)⟩,⟨true,Key.D k⟩,.un,.un,.un,.un,.un,.un,.un,.un] ⟨3,[(0,.buf 2 [eG 1 2 ns.length]),(1,.buf 1 (ns.map D.str)),(2,.buf 1 (de y ns))]⟩;refine aP ?_;refine Ih ?_;refine dA (nx':=9) (v:=uj (dE y k.n)) (m':=[(10,.buf 1 ((eL ns k.n).map D.str)),(11,.buf 1 (de y (eL ns k.n))),(0,.buf 2 [eG 10 11 (eL ns k.n).length]),(3,.buf 8 [cx.D y (.ptr 0 2 0 0)]),(4,.buf 2 [Key.D k])]) (hc:=fun K' hK=>hA y ns k.n hp0 ae _ 0 1 2 _ K' eo eo eo aU ⟨rfl,rfl,rfl⟩ hK) (hn:=aU) ?_;refine cV ?_;refine bp (env':=[_,_,_,_,_,_,⟨_,(.sl _ _)⟩,_,_,_]) ?_;refine zg ?_;refine zf hm (fun i=>[.u 4,.p 4 2,.i i,.m 10 (dE y k.n) ub.D,.u 2,.o 7 10 (((dE y k.n).take i).filter (XE k.f)).length]) (fun i=>[(0,.buf 2 [eG 5 6 (eL ns k.n).length]),(5,.buf 1 ((eL ns k.n).map D.str)),(6,.buf 1 (de y (eL ns k.n))),(4,.buf 2 [Key.D k]),(7,.buf 10 ((((dE y k.n).take i).filter (XE k.f)).map ub.D))]) 20 (fun i=>i<=(dE y k.n).length) (fun i=>(dE y k.n).length-i) ae [(10,5),(11,6),(4,4)] ?_;intro i hi;have hfl:=List.length_filter_le (XE k.f) ((dE y k.n).take i);have hl64:=(look_ok hp0 k.n).1;rw[ek]at hfl;refine zg ?_;intro u0;refine dG ?_ ?_<;>intro hc0
 .refine zc ?_ ?_<;>intro hc1
  .refine kn ?_;refine bc [ub.D (dE y k.n)[i]!] ?_;refine cI (q:=ub.D) (xs:=((dE y k.n).take i).filter (XE k.f)) (e:=(dE y k.n)[i]!) (hb:=ae) ?_;refine zg ?_;rw[ofT_y ae hc1];exact ij (i+1) [(4,4),(5,5),(6,6),(44,7)]
  refine zg ?_;rw[ofT_n ae hc1];exact ij (i+1) [(4,4),(5,5),(6,6),(7,7)]
 refine cU ?_;obtain rfl:i=(dE y k.n).length:=ae;rw[List.take_length];refine bB 7 ?_;refine zg ?_;refine dY trivial jo (dc ai (?_)) ai ⟨cY,5,6,⟨ae,ae,ae⟩,sF⟩;rfl
def vE:aj:=ba 147
def w751 {Y:Ctx}(hm:(Y.at 3).bV)(y:cx)(ns:List av)(hA:U0 (Y.at 3))(hp0:∀m∈y.l,m.r.v∈bN)(hp1:y.l.length<=1000):dn (Y.at 3) vE.body (uc vE (Kj y ns (.sl 1 ((eC y.l).map dL))):Ex->List aX->St->Prop) (fI vE [cx.D y (.ptr 0 2 0 0)]) ⟨3,[(0,.buf 2 [eG 1 2 ns.length]),(1,.buf 1 (ns.map D.str)),(2,.buf 1 (de y ns))]⟩:=by
 show dn _ _ _ [⟨true,cx.D y (.ptr 0 2 0 0)⟩,.un,.un,.un,.un,.un,.un] ⟨3,[(0,.buf 2 [eG 1 2 ns.length]),(1,.buf 1 (ns.map D.str)),(2,.buf 1 (de y ns))]⟩;refine aP ?_;refine zg ?_;refine zf hm (fun i=>[.u 2,.i i,.p 3 8,.u 1,.o 5 1 (eC (y.l.take i)).length,.u 1]) (fun i=>[(0,.buf 2 [eG 1 2 ns.length]),(1,.buf 1 (ns.map D.str)),(2,.buf 1 (de y ns)),(3,.buf 8 [cx.D y (.ptr 0 2 0 0)]),(5,.buf 1 ((eC (y.l.take i)).map dL))]) 20 (fun i=>i<=y.l.length) (fun i=>y.l.length-i) ae [(3,3)] ?_;intro i hi;have hrl:=Y7 y.l i;refine zg ?_;intro u0;refine dG ?_ ?_<;>intro hc0
 .refine uq ?_;refine cy _ ?_;refine kV ?_;refine bP _ ?_;refine dD ?_;refine a8 (je.D (⟨⟨y.l[i]!.r.name,kW⟩,dz y.l[i]!.r.v⟩:je)) ?_;refine bc [je.D (⟨⟨y.l[i]!.r.name,kW⟩,dz y.l[i]!.r.v⟩:je)] ?_;refine bc [.own 41 4 0 1] ?_;refine xg ((eC (y.l.take i)).map dL++[.own 41 4 0 1]) (n:=((eC (y.l.take i))++[[(⟨⟨y.l[i]!.r.name,kW⟩,dz y.l[i]!.r.v⟩:je)]]).length) (ha:=lL) (he:=nF.own rfl (by first|rfl|simp)) (hz:=xY) (hn:=D8) (hb:=Ea) ?_;refine dD ?_;refine bB 41 ?_ (he:=Gf) (hm:=Gf);refine zg ?_;rw[pg,ajZ ae];exact ij (i+1) [(43,5),(3,3)]
 refine cU ?_;obtain rfl:i=y.l.length:=ae;rw[List.take_length];refine bB 5 ?_ (he:=Gf) (hm:=Gf);refine zg ?_;refine dY trivial jo (dc ai (?_)) ai ⟨cY,1,2,⟨ae,ae,ae⟩,sF⟩;rfl
def Mc:aj:=ba 52
def w345 (hA:Gj Y)(hB:C572 Y):IF (cq Y Mc):=fun l hp0=>by
 refine zg ?_;refine zf hm (fun i=>[.m 2 l ko.D,.u 2,.i i,.u 3]) (fun i=>[]) 3 (fun i=>i<=l.length/\B9 l=gI (B7 l) i l.length) (fun i=>l.length-i) ⟨ae,rfl⟩ [] ?_;rintro i ⟨hi,hr⟩;refine zg ?_;intro u0;refine dG ?_ ?_<;>intro hc0
 .refine ib ?_;refine fk ?_;refine cF (i-1) (hj:=fun hf=>Bu) (hb:=fun hf=>Bu) ?_;refine zg ?_;refine aQ (fun hc1=>?_) (fun hc1=>?_)
  .simp only[gF]at hc1;simp only[gt_iff_lt,Int.natCast_pos]at hc1;have hz:=acp hc1;refine zg ?_;refine fE (bS (aw (D.int .i64) ?_) (aw (D.int .i64) ?_));all_goals rw[hr,gJ ae (by rw[hz];decide),hz]
  simp only[gF]at hc1;simp only[gt_iff_lt,Int.natCast_pos]at hc1;have hq:¬(dd l[i]!.name=false\/(0<i/\Op.bytesLess l[i-1]!.name l[i]!.name=false)):=by rintro(h|⟨h,h2⟩)<;>simp_all
  refine zg ?_;refine wp_cond (fun hc2=>?_) (fun hc2=>?_)
  .simp only[gF]at hc2;have hz:=acq hq hc2;refine zg ?_;refine fE (bS (aw (D.int .i64) ?_) (aw (D.int .i64) ?_));all_goals rw[hr,gJ ae (by rw[hz];decide),hz]
  simp only[gF]at hc2;have hz:=WD hq hc2;refine gD (i+1) [] ?_;rw[hr,j5 ae hz]
 refine zg ?_;refine fE (bS (aw (D.int .i64) ?_) (aw (D.int .i64) ?_));all_goals rw[hr,j4 ae]
def ve:aj:=⟨2,4,[⟨2,none⟩],UI,(sq (rg [gb 8 s0,gm cbF] [(3,0),(2,1)]) (sq (r1 [gf 0 s3,gk 5 true l0,gf 1 s1,gk 5 true l2,gn (.eqA false true [.i .i64,.i .i64,.i .i64,.s,.s] l1 l3),gm l4] 2 5) .ret))⟩
def w690 {Y:Ctx}(hm:(Y.at 0).bV):Jq (cq Y ve):=fun c x hp0=>by
 exact my
def vg:aj:=ba 79
def w691 {Y:Ctx}(hm:(Y.at 0).bV)(hA:SA Y):Jr (cq Y vg):=fun c x hp0=>by
 exact my
def yW:aj:=ba 76
def w689 (hA:C690 Y)(hB:C691 Y):Jp (cq Y yW):=fun l b x hp0=>by
 refine zg ?_;intro u0;refine zf hm (fun i=>[.m 8 l en.D,.e (.fn (bif b then 690 else 691) [.ref 9 [eg.D x] 0 0]),.u 1,.i i,.i l.length,.u 3]) (fun i=>[]) 4 (fun i=>i<=l.length/\gu (UJ x.v b) l 0=gu (UJ x.v b) (l.drop i) i) (fun i=>l.length-i) ⟨ae,rfl⟩ [] ?_;rintro i ⟨hi,hr⟩;refine zc ?_ ?_<;>intro hc0
 .refine qL ?_;cases b
  .refine kV ?_;refine Bm (hc:=fun _=>hB l[i]! x ⟨hp0.1 _ (aq ae),hp0.2⟩) ?_;refine zc ?_ ?_<;>intro hc1
   .refine zr ?_;rw[hr,kD ae hc1]
   refine gD (i+1) [] ?_;rw[hr,jj ae hc1]
  .refine kV ?_;refine Bm (hc:=fun _=>hA l[i]! x ⟨hp0.1 _ (aq ae),hp0.2⟩) ?_;refine zc ?_ ?_<;>intro hc1
   .refine zr ?_;rw[hr,kD ae hc1]
   refine gD (i+1) [] ?_;rw[hr,jj ae hc1]
 refine zr ?_;rw[hr,lX ae]
def Md:aj:=ba 55
def w143 (hA:C136 Y)(hB:C356 Y):Il (cq Y Md):=fun l hp0=>by
 refine cV ?_;have hya:=xW hp0;refine zg ?_;intro u0;refine dG ?_ ?_<;>intro hc0
 .exfalso;have:=hya.1;omega
 refine zg ?_;intro u1;refine dG ?_ ?_<;>intro hc1
 .exfalso;have:=hya.1;omega
 refine zg ?_;refine zf hm (fun i=>[.m 11 l gO.D,.u 4,.i i,.u 4]) (fun i=>[]) 9 (fun i=>i<=l.length) (fun i=>l.length-i) ae [] ?_;intro i hi;refine zg ?_;intro u2;refine dG ?_ ?_<;>intro hc2
 .refine fk ?_;have hmi:=hya.2 i ae;have hck:=aiM hmi;refine fk ?_;refine aE (hc:=hA l[i]! hmi.1.2) ?_;refine zc ?_ ?_<;>intro hc3
  .exfalso;rw[hck]at hc3;exact absurd rfl hc3
  refine zc ?_ ?_<;>intro hc4
  .exfalso;rw[PN hp0 ae]at hc4;exact absurd rfl hc4
  exact ij (i+1) []
 exact my
def O0:aj:=ba 288
def w1120 (hA:Gj Y):D3 (cq Y O0):=fun l=>by
 refine zg ?_;refine zf hm (fun i=>[.m 2 l iC.D,.u 1,.i i,.u 2]) (fun i=>[]) 2 (fun i=>i<=l.length/\zJ l=bU (fun i=>decide (LM l i=0)) i l.length) (fun i=>l.length-i) ⟨ae,rfl⟩ [] ?_;rintro i ⟨hi,hr⟩;refine zg ?_;intro u0;refine dG ?_ ?_<;>intro hc0
 .refine ib ?_;refine Ii ?_;refine cF ((i-1)) (hj:=fun hf=>cg) (hb:=fun hf=>cg) ?_;refine zc ?_ ?_<;>intro hc1
  .refine zr ?_;rw[hr,az ae,XZ (by rcases hc1 with(h|h)|⟨h,h2⟩<;>simp_all)];rfl
  refine gD (i+1) [] ?_;rw[hr,az ae,TO (by rintro((h|h)|⟨h,h2⟩)<;>simp_all)];rfl
 refine zr ?_;rw[hr,bA ae]
def Ey:aj:=ba 22
def w112 {Y:Ctx}(hm:(Y.at 0).bV)     :wkk Y Ey (.sl 5 (bN.map bX.D)) []:=by
 refine fk ?_;refine bP _ ?_;refine bP _ ?_;refine bP _ ?_;refine bP _ ?_;refine bc (bN.map bX.D) ?_;refine cU ?_;refine bB 5 ?_;exact my
def O7:aj:=ba 186
def w902 {Y:Ctx}(hm:(Y.at 0).bV):JM (cq Y O7):=fun a b=>by
 refine zr ?_;unfold eP;simp
end Go.Abs
end
