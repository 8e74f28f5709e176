/- A part of the proofs. -/
import Derived.Test.YtgdpmljblomcfaaGreatDoorP04
set_option linter.all false
set_option maxRecDepth 60000
set_option maxHeartbeats 2000000
noncomputable section
namespace Go.Abs
variable {Y:Ctx}(hm:(Y.at 0).bR)
def sx:aj:=bc 14
def w110 {Y:Ctx}(hm:(Y.at 1).bR)(hA:GB (Y.at 1))(hC:C135 (Y.at 1))(hD:C296 (Y.at 1))(hE:C297 (Y.at 1))(hG:C298 (Y.at 1))(g:Gs)(nm:av)(v:bZ)(most:Int)(hp0:0<=g.i/\g.i<=970000)(hp1:0<=most/\most<=100):dp (Y.at 1) sx.body (GG sx 2 (Rec.D (pj g nm v most).1) (Gs.D (pj g nm v most).2):Ex->List aX->St->Prop) (fq sx (.ptr 0 2 0 0::[.str nm,bZ.D v,.int .i64 most])) ⟨1,[(0,.buf 2 [(Gs.D g)])]⟩:=by
 show dp _ _ _ [⟨true,.ptr 0 2 0 0⟩,⟨true,.str nm⟩,⟨true,bZ.D v⟩,⟨true,.int .i64 most⟩,.un,.un,.un,.un,.un,.un,.un] ⟨1,[(0,.buf 2 [(Gs.D g)])]⟩;refine aO ?_;refine jS ?_;refine bM [.str nm,.int .i64 v.major,.int .i64 v.minor,.int .i64 v.patch,.str v.pre,.str v.build,.aJ,.aJ,.aJ] ?_;refine ko ?_;have rn:=(g.Sk (most+1)).1 ae;refine dx ?_;refine dh (hc:=hA g (most+1) ae iE) ?_;refine zg ?_;refine fP hm (ι:=Nat) (fun i=>[⟨true,.ptr 0 2 0 0⟩,⟨true,.str nm⟩,.un,.un,⟨true,.ptr 2 9 0 0⟩,.un,⟨true,.int .i64 ((g.val (most+1)) -((i:Nat):Int))⟩,.un,⟨true,.ptr 3 9 0 0⟩,.un,.un]) (fun i=>[(0,.buf 2 [Gs.D (nS nm g.aS i).2]),(1,.buf 5 [bZ.D v]),(2,.buf 9 [.agg [.str [],.int .i64 0,.int .i64 0,.int .i64 0,.str [],.str [],.aJ,.aJ,.aJ]]),(3,.buf 9 [.agg [.str nm,.int .i64 v.major,.int .i64 v.minor,.int .i64 v.patch,.str v.pre,.str v.build,.own 4 3 0 (nS nm g.aS i).1.length,.aJ,.aJ]]),(4,.buf 3 ((nS nm g.aS i).1.map br.D))]) 13 (fun i=>i<=(g.val (most+1)).toNat) (fun i=>(g.val (most+1)).toNat-i) 0 ae (aV.to [(2,2),(6,3),(1,1)] ah ah Kb (by refine bo.nl 0 ah ah ah dV ?_;refine bo.nl 1 ah ah ah dV ?_;refine bo.nl 2 ah ah ah dV ?_;refine bo.ni 6 ah ah (by exact⟨_,_,rfl,⟨_,rfl,⟨_,_,rfl,⟨rfl,rfl⟩,⟨_,_,rfl,⟨rfl,rfl⟩,⟨_,_,rfl,⟨rfl,rfl⟩,⟨_,_,rfl,⟨rfl,rfl⟩,⟨_,_,rfl,⟨rfl,rfl⟩,⟨_,_,rfl,⟨rfl,rfl⟩,⟨_,_,rfl,Or.inr ⟨_,_,_,rfl⟩,⟨_,_,rfl,Or.inl rfl,⟨_,_,rfl,Or.inl rfl,rfl⟩⟩⟩⟩⟩⟩⟩⟩⟩⟩,rfl⟩) ?_;refine bo.mt ah ah ah ah ?_;exact bo.nil)) ?_;intro i hi;have hns:=xB nm g.aS i;have hnt:=Rq (nS nm g.aS i).2 nm;have hlen:=hns.2;obtain⟨hn1,hn2⟩:=hns.1;obtain⟨hn3,hn4⟩:=hnt;rw[Gs.XL]at hn1 hn2;refine zc ?_ ?_<;>intro hc0
 .refine ez ?_;refine zh (v:=.own 4 3 0 (nS nm g.aS i).1.length) ?_;refine cx ?_;refine dh (hc:=hD (nS nm g.aS i).2 nm ae) ?_;refine ba [br.D (mb (nS nm g.aS i).2 nm).1] ?_;refine cJ (q:=br.D) (xs:=(nS nm g.aS i).1) (e:=(mb (nS nm g.aS i).2 nm).1) (hb:=ae) ?_;refine cH ?_;refine bS (.agg [.str nm,.int .i64 v.major,.int .i64 v.minor,.int .i64 v.patch,.str v.pre,.str v.build,.own 21 3 0 (nS nm g.aS (i+1)).1.length,.aJ,.aJ]) (he:=cW) ?_;refine zg ?_;exact⟨i+1,ae,ae,(aV.to [(1,1),(2,2),(3,3),(21,4)] ah ah Kb (by refine bo.nl 0 ah ah ah dV ?_;refine bo.nl 1 ah ah ah dV ?_;refine bo.nl 2 ah ah ah dV ?_;refine bo.eq 3 ah ah ah ?_;refine bo.nl 21 ah ah ah dV ?_;exact bo.nil))⟩
 refine dx ?_;obtain rfl:i=(g.val (most+1)).toNat:=ae;have hbs:=GN (nS nm g.aS (g.val (most+1)).toNat).2 nm;have hos:=xP (nS nm g.aS (g.val (most+1)).toNat).2.aS nm;have r8:=(cS (nS nm g.aS (g.val (most+1)).toNat).2.aS nm).2.eI 8 ae;refine bh 4 (hn:=bH (fun _=>rfl) _) (he:=Ka) (hm:=Ka) ?_;refine AO [(0,.buf 2 [Gs.D (nS nm g.aS (g.val (most+1)).toNat).2]),(1,.buf 5 [bZ.D v]),(2,.buf 9 [.agg [.str [],.int .i64 0,.int .i64 0,.int .i64 0,.str [],.str [],.aJ,.aJ,.aJ]]),(3,.buf 9 [.agg [.str nm,.int .i64 v.major,.int .i64 v.minor,.int .i64 v.patch,.str v.pre,.str v.build,.sl 3 ((nS nm g.aS (g.val (most+1)).toNat).1.map br.D),.sl 3 [],.sl 2 []]])] (.id ah (.id ah (.id ah (.bf ah (.cons (.ag (.cons (.refl _) (.cons (.refl _) (.cons (.refl _) (.cons (.refl _) (.cons (.refl _) (.cons (.refl _) (.cons (.refl _) (.cons (.nil 3) (.cons (.nil 2) .nil)))))))))) .nil) .nil)))) ?_;refine cx ?_;refine dh (hc:=hA (nS nm g.aS (g.val (most+1)).toNat).2 5 ae iE) ?_;refine zg ?_;refine qY hm (ι:=Unit) (fun _=>[⟨true,.ptr 0 2 0 0⟩,⟨true,.str nm⟩,.un,.un,⟨true,.ptr 2 9 0 0⟩,.un,.un,.un,⟨true,.ptr 3 9 0 0⟩,.un,.un]) (fun _=>[(0,.buf 2 [Gs.D (eA (nS nm g.aS (g.val (most+1)).toNat).2 nm).2]),(1,.buf 5 [bZ.D v]),(2,.buf 9 [.agg [.str [],.int .i64 0,.int .i64 0,.int .i64 0,.str [],.str [],.aJ,.aJ,.aJ]]),(3,.buf 9 [.agg [.str nm,.int .i64 v.major,.int .i64 v.minor,.int .i64 v.patch,.str v.pre,.str v.build,.sl 3 ((nS nm g.aS (g.val (most+1)).toNat).1.map br.D),.sl 3 ((eA (nS nm g.aS (g.val (most+1)).toNat).2 nm).1.map my.D),.sl 2 []]])]) 100 (fun _=>True) ?_ ?_
 .refine Bw ?_ ?_<;>intro hc1
  .refine dx ?_;refine dh (hc:=hE (nS nm g.aS (g.val (most+1)).toNat).2.aS nm Kh) ?_;refine ez ?_;intro u0;refine dh (hc:=hA (cS (nS nm g.aS (g.val (most+1)).toNat).2.aS nm).2 8 ae iE) ?_;refine cz ((cS (nS nm g.aS (g.val (most+1)).toNat).2.aS nm).2.val 8).toNat (hj:=fun _=>ae) (hb:=fun _=>uz) ?_;refine c8 (v:=.str j2[((cS (nS nm g.aS (g.val (most+1)).toNat).2.aS nm).2.val 8).toNat]!) (hi:=fun _=>uz) ?_;refine bM [.str (cS (nS nm g.aS (g.val (most+1)).toNat).2.aS nm).1,.str j2[((cS (nS nm g.aS (g.val (most+1)).toNat).2.aS nm).2.val 8).toNat]!,.str []] ?_;refine ba [my.D ⟨(cS (nS nm g.aS (g.val (most+1)).toNat).2.aS nm).1,j2[((cS (nS nm g.aS (g.val (most+1)).toNat).2.aS nm).2.val 8).toNat]!,[]⟩] ?_;refine cH ?_;refine bS (.agg [.str nm,.int .i64 v.major,.int .i64 v.minor,.int .i64 v.patch,.str v.pre,.str v.build,.sl 3 ((nS nm g.aS (g.val (most+1)).toNat).1.map br.D),.own 29 3 0 1,.sl 2 []]) (he:=cW) ?_;refine zg ?_;have hB:(eA (nS nm g.aS (g.val (most+1)).toNat).2 nm)=([⟨(cS (nS nm g.aS (g.val (most+1)).toNat).2.aS nm).1,j2[((cS (nS nm g.aS (g.val (most+1)).toNat).2.aS nm).2.val 8).toNat]!,[]⟩],(cS (nS nm g.aS (g.val (most+1)).toNat).2.aS nm).2.aS):=ak hc1;rw[hB];exact⟨(),trivial,(aV.fz 29 ah dV LX LX (aV.to [(1,1),(2,2),(3,3)] ah ah eD aak))⟩
  refine zg ?_;have hB:(eA (nS nm g.aS (g.val (most+1)).toNat).2 nm)=([],(nS nm g.aS (g.val (most+1)).toNat).2.aS):=ai hc1;rw[hB];exact⟨(),trivial,(aV.to [(1,1),(2,2),(3,3)] ah ah eD aak)⟩
 .rintro _-
  have hfs:=GY (eA (nS nm g.aS (g.val (most+1)).toNat).2 nm).2 (nS nm g.aS (g.val (most+1)).toNat).1;refine dx ?_;refine dh (hc:=hA (eA (nS nm g.aS (g.val (most+1)).toNat).2 nm).2 2 ae iE) ?_;refine zc ?_ ?_<;>intro hc2
  .refine cH ?_;have hF:(kZ (eA (nS nm g.aS (g.val (most+1)).toNat).2 nm).2 (nS nm g.aS (g.val (most+1)).toNat).1)=([(mN (eA (nS nm g.aS (g.val (most+1)).toNat).2 nm).2.aS (nS nm g.aS (g.val (most+1)).toNat).1).1],(mN (eA (nS nm g.aS (g.val (most+1)).toNat).2 nm).2.aS (nS nm g.aS (g.val (most+1)).toNat).1).2):=ak hc2;refine dx ?_;refine dh (hc:=hG (eA (nS nm g.aS (g.val (most+1)).toNat).2 nm).2.aS (nS nm g.aS (g.val (most+1)).toNat).1 Kh ⟨Rk nm g.aS _,ae⟩) ?_;refine ba [ch.D (mN (eA (nS nm g.aS (g.val (most+1)).toNat).2 nm).2.aS (nS nm g.aS (g.val (most+1)).toNat).1).1] ?_;refine cH ?_;refine bS (.agg [.str nm,.int .i64 v.major,.int .i64 v.minor,.int .i64 v.patch,.str v.pre,.str v.build,.sl 3 ((nS nm g.aS (g.val (most+1)).toNat).1.map br.D),.sl 3 ((eA (nS nm g.aS (g.val (most+1)).toNat).2 nm).1.map my.D),.own 107 2 0 1]) (he:=cW) ?_;refine ko ?_;refine bh 107 ?_;refine zg ?_;refine iV trivial Di (cU ah (?_)) Z9 ah ah;rw[show pj g nm v most=(⟨nm,v,(nS nm g.aS (g.val (most+1)).toNat).1,(eA (nS nm g.aS (g.val (most+1)).toNat).2 nm).1,(kZ (eA (nS nm g.aS (g.val (most+1)).toNat).2 nm).2 (nS nm g.aS (g.val (most+1)).toNat).1).1⟩,(kZ (eA (nS nm g.aS (g.val (most+1)).toNat).2 nm).2 (nS nm g.aS (g.val (most+1)).toNat).1).2)from rfl,hF];rfl
  refine cH ?_;have hF:(kZ (eA (nS nm g.aS (g.val (most+1)).toNat).2 nm).2 (nS nm g.aS (g.val (most+1)).toNat).1)=([],(eA (nS nm g.aS (g.val (most+1)).toNat).2 nm).2.aS):=ai hc2;refine zg ?_;refine iV trivial Di (cU ah (?_)) Z9 ah ah;rw[show pj g nm v most=(⟨nm,v,(nS nm g.aS (g.val (most+1)).toNat).1,(eA (nS nm g.aS (g.val (most+1)).toNat).2 nm).1,(kZ (eA (nS nm g.aS (g.val (most+1)).toNat).2 nm).2 (nS nm g.aS (g.val (most+1)).toNat).1).1⟩,(kZ (eA (nS nm g.aS (g.val (most+1)).toNat).2 nm).2 (nS nm g.aS (g.val (most+1)).toNat).1).2)from rfl,hF];rfl
def sK:aj:=bc 93
def w582 {Y:Ctx}(hm:(Y.at 3).bR)(y:cD)(ns:List av)(hA:C748 (Y.at 3))(hB:C749 (Y.at 3))(hp0:qp y/\kX y.e)(hp1:ns.length<=900):dp (Y.at 3) sK.body (rI sK (Ku y (sG y 49 oE ns) (qO y)):Ex->List aX->St->Prop) (fq sK [cD.D y (.ptr 0 2 0 0)]) ⟨3,[(0,.buf 2 [eF 1 2 ns.length]),(1,.buf 1 (ns.map D.str)),(2,.buf 1 (dk y ns))]⟩:=by
 show dp _ _ _ [⟨true,cD.D y (.ptr 0 2 0 0)⟩,.un,.un,.un,.un,.un,.un,.un,.un,.un,.un,.un,.un,.un,.un,.un,.un,.un,.un,.un,.un] ⟨3,[(0,.buf 2 [eF 1 2 ns.length]),(1,.buf 1 (ns.map D.str)),(2,.buf 1 (dk y ns))]⟩;refine aO ?_;refine ko ?_;refine bg (Key.D fZ) ?_;refine ba [Key.D fZ] ?_;refine cx ?_;refine bh 7 ?_ (he:=Gz) (hm:=Gz);refine cH ?_;refine bg (Key.D fZ) ?_;refine ba [Key.D fZ] ?_;refine zg ?_;refine zfx hm (⟨0,oE,[fZ],0,1,ns⟩:RcS) (fun p=>[.u 3,.e (.own 10 2 p.o p.c),.u 1,.p 3 8,.u 10,.m 2 p.s.all Key.D,.u 4]) (fun p=>[(0,.buf 2 [eF 5 6 p.nn.length]),(5,.buf 1 (p.nn.map D.str)),(6,.buf 1 (dk y p.nn)),(3,.buf 8 [cD.D y (.ptr 0 2 0 0)]),(10,.buf 2 (p.b.map Key.D))]) 20 (SV y ns) (fun p=>49-p.n) (aki y ns) [(1,5),(2,6),(3,3),(10,10)] ?_;rintro⟨n,s,b,o,c,nn⟩ hP;have hbf:=hP.2.2;have hnn:=hP.2.1.1;have hn48:=hP.1.1;have hI:=hP.1.2.1;dsimp only at hbf hnn hn48 hI⊢;obtain⟨hb1,si,hb3⟩:=hbf;have hlen:=hI.len;refine zg ?_;intro _;refine dE ?_ ?_<;>intro hc0
 .refine ez ?_;refine sF 0 (hj:=fun _=>rfl) (hb:=fun _=>ae) ?_;refine oS (q:=Key.D) (xs:=b) (v:=Key.D s.todo[0]!) (hi:=fun _=>ae) (hv:=fun _=>by rw[agT si ae];rfl) ?_;refine ko ?_;refine Dp 1 (hb:=fun _=>ae) ?_;refine jS ?_;refine dC (nx':=33) (v:=.sl 1 ((df y s.todo[0]!).map dR)) (m':=[(33,.buf 1 ((jo nn s.todo[0]!).map D.str)),(34,.buf 1 (dk y (jo nn s.todo[0]!))),(0,.buf 2 [eF 33 34 (jo nn s.todo[0]!).length]),(3,.buf 8 [cD.D y (.ptr 0 2 0 0)]),(10,.buf 2 (b.map Key.D)),(26,.buf 2 [Key.D s.todo[0]!])]) (hc:=fun K' hK=>hA y nn s.todo[0]! hp0 ae _ 0 5 6 _ K' ep ep ep aT ⟨rfl,rfl,rfl⟩ hK) (hn:=aT) ?_;refine zg ?_;intro u0;refine zfx hm (⟨0,⟨s.all,s.todo.drop 1⟩,b,o+1,c-1⟩:RcT) (fun p=>[.u 3,.e (.own 10 2 p.o p.c),.u 1,.p 3 8,.u 1,.i p.i,.i ((df y s.todo[0]!).length:Nat),.u 1,.m 1 (df y s.todo[0]!) dR,.u 5,.m 2 p.t.all Key.D,.u 4]) (fun p=>[(0,.buf 2 [eF 5 6 (jo nn s.todo[0]!).length]),(5,.buf 1 ((jo nn s.todo[0]!).map D.str)),(6,.buf 1 (dk y (jo nn s.todo[0]!))),(3,.buf 8 [cD.D y (.ptr 0 2 0 0)]),(10,.buf 2 (p.b.map Key.D))]) 40 (SX y s) (fun p=>(df y s.todo[0]!).length-p.i) (akB y hb1 si hb3 ae hlen.2 hlen.1) [(33,5),(34,6),(3,3),(10,10)] ?_;rintro⟨i,t,b1,o1,c1⟩ hT;have hT2:=hT;obtain⟨hi,ht,⟨hb4,hb5,hb6⟩,hta⟩:=hT2;dsimp only at hi ht hb4 hb5 hb6 hta⊢;refine zc ?_ ?_<;>intro hc1
  .refine dx ?_;have hro:=Zh hp0.1.p s.todo[0]!;have hrl:=hro.2 _ (aq (show i<(df y s.todo[0]!).length by omega));refine cH ?_;refine c8 (v:=.sl 4 ((df y s.todo[0]!)[i]!.map jv.D)) (hi:=fun _=>ae) ?_;refine zg ?_;intro u1;refine zfxL hm (⟨0,t,b1,o1,c1⟩:RcU) (fun p=>[.u 3,.e (.own 10 2 p.o p.c),.u 1,.p 3 8,.u 1,.i i,.i ((df y s.todo[0]!).length:Nat),.u 1,.m 1 (df y s.todo[0]!) dR,.u 1,.i p.j,.i ((df y s.todo[0]!)[i]!.length:Nat),.u 1,.m 4 (df y s.todo[0]!)[i]! jv.D,.m 2 p.u.all Key.D,.u 4]) (fun p=>[(0,.buf 2 [eF 5 6 (jo nn s.todo[0]!).length]),(5,.buf 1 ((jo nn s.todo[0]!).map D.str)),(6,.buf 1 (dk y (jo nn s.todo[0]!))),(3,.buf 8 [cD.D y (.ptr 0 2 0 0)]),(10,.buf 2 (p.b.map Key.D))]) 60 (NG (df y s.todo[0]!)[i]! t i) (fun p=>(df y s.todo[0]!)[i]!.length-p.j) (akG _ hb4 hb5 hb6 hta) [(3,3),(5,5),(6,6),(10,10)] ?_;rintro⟨j,u,b2,o2,c2⟩ hU;have hU2:=hU;obtain⟨hj,hu,⟨hb7,hb8,hb9⟩,hua⟩:=hU2;dsimp only at hj hu hb7 hb8 hb9 hua⊢;refine zc ?_ ?_<;>intro hc2
   .refine jS ?_;refine bS _ ?_;refine zg ?_;intro u2 u3;refine Bw ?_ ?_<;>intro hc3
    .refine Bo ?_;refine ba [Key.D (df y s.todo[0]!)[i]![j]!.k] ?_;refine rv ((u.todo++[(df y s.todo[0]!)[i]![j]!.k]).map Key.D) (n:=c2+1) (ha:=j6) (he:=lT.all rfl rfl) (hz:=agS hb7 hb8 _) (hn:=rfl) (hb:=ae) ?_;refine zg ?_;exact⟨⟨j+1,_,(u.todo++[(df y s.todo[0]!)[i]![j]!.k]),0,c2+1⟩,(akI hU ae ae),mw,(aV.to [(3,3),(5,5),(6,6),(84,10)] ah ah eD (by repeat(first|exact bo.nil|refine bo.vI ah ah dV ?_|refine bo.Kr ah ah ah ?_|refine bo.Nr ah ah ah ah ?_|refine bo.vI ah ah (by exact jg _ _) ?_|refine bo.nl 3 ah ah ah q9 ?_|refine bo.eq 3 ah ah ah ?_|refine bo.nl 5 ah ah ah q9 ?_|refine bo.eq 5 ah ah ah ?_|refine bo.nl 6 ah ah ah q9 ?_|refine bo.eq 6 ah ah ah ?_|refine bo.nl 84 ah ah ah q9 ?_|refine bo.eq 84 ah ah ah ?_)))⟩
    refine zg ?_;exact⟨⟨j+1,u,b2,o2,c2⟩,(akH hU ae ae),mw,(aV.to [(3,3),(5,5),(6,6),(10,10)] ah ah eD aaq)⟩
   refine zg ?_;exact⟨⟨i+1,u,b2,o2,c2⟩,(akC hT hU ae ae hrl.2),mw,(aV.to [(3,3),(5,5),(6,6),(10,10)] ah ah eD aaq)⟩
  refine zg ?_;intro u4;refine Bw ?_ ?_<;>intro hc4
  .refine ez ?_;refine ig (aV.nz _ [_,⟨true,.sl 2 []⟩,_,_,_,_,_,_,_,_,_,_,_,_,_,_,_,_,_,_,_] _ _ [(0,.buf 2 [eF 5 6 ((jo nn s.todo[0]!)).length]),(5,.buf 1 (((jo nn s.todo[0]!)).map D.str)),(6,.buf 1 (dk y ((jo nn s.todo[0]!))))] ⟨⟨rfl,.refl _⟩,⟨rfl,.nil 2⟩,⟨rfl,.refl _⟩,⟨rfl,.refl _⟩,⟨rfl,.refl _⟩,⟨rfl,.refl _⟩,⟨rfl,.refl _⟩,⟨rfl,.refl _⟩,⟨rfl,.refl _⟩,⟨rfl,.refl _⟩,⟨rfl,.refl _⟩,⟨rfl,.refl _⟩,⟨rfl,.refl _⟩,⟨rfl,.refl _⟩,⟨rfl,.refl _⟩,⟨rfl,.refl _⟩,⟨rfl,.refl _⟩,⟨rfl,.refl _⟩,⟨rfl,.refl _⟩,⟨rfl,.refl _⟩,⟨rfl,.refl _⟩,trivial⟩ (.id ah (.id ah (.id ah .nil)))) ?_;refine zg ?_;refine dD trivial iF (cU ah (?_)) ah ⟨by first|(rw[(Dr hP hT ae ae ae).1];done)|(rw[(Dr hP hT ae ae ae).1];exact rfl),5,6,⟨ae,ae,ae⟩,by rw[(Dr hP hT ae ae ae).2];exact sZ⟩;rfl
  refine zg ?_;exact⟨⟨n+1,t,b1,o1,c1,(jo nn s.todo[0]!)⟩,(akj hP hT ae ae ae),mw,(aV.to [(3,3),(5,5),(6,6),(10,10)] ah ah eD aaq)⟩
 refine zg ?_;refine dD trivial iF (cU ah (?_)) ah ⟨by first|(rw[(zk hP ae).1];done)|(rw[(zk hP ae).1];exact rfl),5,6,⟨ae,ae,ae⟩,by rw[(zk hP ae).2];exact sZ⟩;rfl
def Y3:aj:=bc 27
def w270 (hA:C52 Y)(hB:Nu Y)(hC:U4 Y)(hD:C169 Y)(hE:U5 Y)(hF:C507 Y)(hG:C508 Y):IH (cu Y Y3):=fun shop e w c hp0=>by
 refine wA ?_;refine aB (hc:=hD (w) Ke) ?_;refine dx ?_;refine bQ (hc:=fun hf=>hC (shop) Ke) ?_;refine uK ?_;refine bQ (hc:=fun hf=>hE (w) (c) Ke) ?_;refine zc ?_ ?_<;>intro hc0
 .refine cx ?_;refine bM _ ?_;refine bS _ ?_;refine zr ?_;rw[of_a hc0];rfl
 refine ko ?_;refine aB (hc:=hA (w) (c) Ke) ?_;refine zc ?_ ?_<;>intro hc1
 .refine cx ?_;refine bM _ ?_;refine bS _ ?_;refine zr ?_;rw[of_b hc0 hc1];rfl
 refine dx ?_;refine bg (.agg [.str e.e0,.str e.e1,.str e.e2,.aJ]) ?_;refine ko ?_;obtain⟨hcl,⟨hc1a,hc48⟩,hcw⟩:=CY hc0.2;refine zg ?_;refine fP hm (ι:=Nat) (fun u=>[⟨true,.sl 2 ((shop).map bN.D)⟩,.un,.un,⟨true,.sl 1 ((c).map (D.int .i64))⟩,⟨true,.ptr 2 4 0 0⟩,.un,⟨true,.ptr 1 1 0 0⟩,.un,.un,.un,⟨true,.int .i64 (u:Nat)⟩,.un,.un,.un,.un,.un,.un,.un,.un,.un,⟨true,.ptr 3 4 0 0⟩]) (fun u=>[(0,.buf 9 ((ek shop w.us c u).1.map dm.D)),(1,.buf 1 [b6.D w]),(2,.buf 4 [.agg [.str [],.str [],.str [],.aJ]]),(3,.buf 4 [.agg [.str e.e0,.str e.e1,.str e.e2,.own 0 9 0 (ek shop w.us c u).1.length]])]) 20 (fun u=>(1<=u/\u<=w.us.length)/\(ek shop w.us c u).2=0) (fun u=>w.us.length-u) 1 ⟨⟨ae,ae⟩,by rw[Rb]⟩ (aV.to [(1,1),(2,2),(29,3)] ah ah eD (by rw[Rb];repeat(first|exact bo.nil|refine bo.vI ah ah dV ?_|refine bo.Kr ah ah ah ?_|refine bo.Nr ah ah ah ah ?_|refine bo.nl 1 ah ah ah dV ?_|refine bo.nl 2 ah ah ah dV ?_|refine bo.ni 29 ah ah (by exact⟨_,_,rfl,⟨_,rfl,⟨_,_,rfl,⟨rfl,rfl⟩,⟨_,_,rfl,⟨rfl,rfl⟩,⟨_,_,rfl,⟨rfl,rfl⟩,⟨_,_,rfl,.inr ⟨_,_,_,rfl⟩,rfl⟩⟩⟩⟩⟩,rfl⟩) ?_|refine bo.mt ah ah ah ah ?_))) ?_;rintro u ⟨⟨hu1,hu⟩,hz⟩;have hll:=yY (shop:=shop) (us:=w.us) (c:=c) u;refine zg ?_;intro u0;refine dE ?_ ?_<;>intro hc2
 .refine zc ?_ ?_<;>intro hc3
  .refine zg ?_;have hsk:vo w.us c u=true:=by
    unfold vo;rcases hc3 with h|h
    .rw[bI h];simp
    .rw[bz h];simp
   have hls:=On hz hsk;rw[<-hls];refine zl (u+1) [(0,0),(1,1),(2,2),(3,3)] ?_;exact⟨⟨ae,ae⟩,by rw[hls];exact hz⟩
  refine cx ?_;have hsk:vo w.us c u=false:=by
   unfold vo;rw[bI (show ¬u=0 by omega),bI hc3.2,bz hc3.1];rfl
  have hcu:=hcw u ae;have hxm:=aq (show c[u]!.toNat<w.us[u]!.cands.length by omega);have hun:=((hp0.2.1 _ (aq (show u<w.us.length by omega))).2 _ hxm).1;refine Bo ?_;refine c8 (v:=ei.D (kD w.us c u)) (hi:=fun _=>ae) ?_;refine fG ?_;refine qo ?_;refine bg (dm.D (⟨w.us[u]!.name,(kD w.us c u).v,[],0,(sa w.us c u)⟩:dm)) ?_;refine zc ?_ ?_<;>intro hc4
  .refine zc ?_ ?_<;>intro hc5
   .refine cx ?_;refine bM _ ?_;refine bS _ (he:=cW) ?_;refine zr ?_;rw[of_c hc0 hc1 hz hsk ae 12 aT (aiW hc4 hc5)];rfl
   refine dx ?_;have hs0:0<=(kD w.us c u).sh/\(kD w.us c u).sh<(shop.length:Int):=ae;have hss:=hp0.1 _ (aq (show(kD w.us c u).sh.toNat<shop.length by omega));refine wA ?_;refine aB (hc:=hG shop[(kD w.us c u).sh.toNat]! w.us[u]!.name (kD w.us c u).v ⟨hss,hun⟩) ?_;refine wA ?_;refine bh 99 ?_ (he:=J7) (hm:=J7);refine zc ?_ ?_<;>intro hc6
   .refine cx ?_;refine bM _ ?_;refine bS _ (he:=cW) ?_;refine zr ?_;rw[of_c hc0 hc1 hz hsk ae 9 aT (aiX hc4 hc5 hc6)];rfl
   refine wA ?_;refine YD (v:=.int .u64 (oC shop[(kD w.us c u).sh.toNat]! w.us[u]!.name (kD w.us c u).v).1.sum) ?_;refine cH ?_;refine bS (dm.D (⟨w.us[u]!.name,(kD w.us c u).v,shop[(kD w.us c u).sh.toNat]!.name,0,(sa w.us c u)⟩:dm)) (he:=cW) ?_;refine cH ?_;refine bS (dm.D (⟨w.us[u]!.name,(kD w.us c u).v,shop[(kD w.us c u).sh.toNat]!.name,(oC shop[(kD w.us c u).sh.toNat]! w.us[u]!.name (kD w.us c u).v).1.sum,(sa w.us c u)⟩:dm)) (he:=cW) ?_;refine cH ?_;have hln:=aiY (w:=w) (c:=c) (u:=u) hc4 hc5 hc6;obtain⟨X,hX⟩:∃X,(⟨w.us[u]!.name,(kD w.us c u).v,shop[(kD w.us c u).sh.toNat]!.name,(oC shop[(kD w.us c u).sh.toNat]! w.us[u]!.name (kD w.us c u).v).1.sum,(sa w.us c u)⟩:dm)=X:=⟨_,rfl⟩
   rw[hX]at hln⊢;have hla:=Fz hz hsk hln;refine ez ?_;refine ba [dm.D X] ?_;refine cJ (q:=dm.D) (xs:=(ek shop w.us c u).1) (e:=X) (hb:=ae) ?_;refine cH ?_;refine bS (.agg [.str e.e0,.str e.e1,.str e.e2,.own 120 9 0 ((ek shop w.us c u).1++[X]).length]) (he:=cW) ?_;refine zg ?_;rw[show(ek shop w.us c u).1++[X]=(ek shop w.us c (u+1)).1 by rw[hla]];refine zl (u+1) [(120,0),(1,1),(2,2),(3,3)] ?_;exact⟨⟨ae,ae⟩,by rw[hla]⟩
  refine cH ?_;have hln:=aiV (shop:=shop) (w:=w) (c:=c) (u:=u) hc4;obtain⟨X,hX⟩:∃X,(⟨w.us[u]!.name,(kD w.us c u).v,[],0,(sa w.us c u)⟩:dm)=X:=⟨_,rfl⟩
  rw[hX]at hln⊢;have hla:=Fz hz hsk hln;refine ez ?_;refine ba [dm.D X] ?_;refine cJ (q:=dm.D) (xs:=(ek shop w.us c u).1) (e:=X) (hb:=ae) ?_;refine cH ?_;refine bS (.agg [.str e.e0,.str e.e1,.str e.e2,.own 80 9 0 ((ek shop w.us c u).1++[X]).length]) (he:=cW) ?_;refine zg ?_;rw[show(ek shop w.us c u).1++[X]=(ek shop w.us c (u+1)).1 by rw[hla]];refine zl (u+1) [(80,0),(1,1),(2,2),(3,3)] ?_;exact⟨⟨ae,ae⟩,by rw[hla]⟩
 refine cx ?_;obtain rfl:u=w.us.length:=ae;rw[show ek shop w.us c w.us.length=sr shop w c from rfl]at hz⊢;refine bh 0 ?_ (he:=J7) (hm:=J7);refine cH ?_;refine mc (d:=jT.D ⟨e,(sr shop w c).1⟩) ?_;refine zr ?_;rw[of_d hc0 hc1 hz];rfl
def KO:aj:=bc 121
def w510:Je (cu Y KO):=fun w c hp0=>by
 refine zg ?_;intro u0 u1;refine dE ?_ ?_<;>intro hc0
 .refine zr ?_;unfold xb;rw[bI ae,Bool.false_and]
 refine zg ?_;intro u2;refine zf hm (fun i=>[.u 1,.m 1 c (D.int .i64),.u 1,.p 0 1,.u 1,.i i,.i c.length,.u 1,.m 1 c (D.int .i64),.u 3]) (fun i=>[(0,.buf 1 [b6.D w])]) 11 (fun i=>i<=c.length/\xb w c=bO (EI w c) i c.length) (fun i=>c.length-i) ⟨ae,by unfold xb;rw[bz ae,fT]⟩ [(0,0)] ?_;rintro i ⟨hi,hr⟩;refine zc ?_ ?_<;>intro hc1
 .refine zc ?_ ?_<;>intro hc2
  .refine zr ?_;rw[hr,ay ae,QV hc2];rfl
  refine gh (i+1) [(0,0)] ?_;rw[hr,ay ae,KZ hc2];rfl
 refine zr ?_;rw[hr,bB ae]
def NR:aj:=bc 76
def w273 {Y:Ctx}(hm:(Y.at 0).bR)(hA:C175 Y)(hB:C510 Y):tP (cu Y NR):=fun w c hp0=>by
 exact mr
def NS:aj:=bc 78
def w624 {Y:Ctx}(hm:(Y.at 0).bR)(hA:C712 Y):ui (cu Y NS):=fun w c x hp0=>by
 refine jS ?_;obtain⟨hsm,⟨hx0,hx1⟩,hft⟩:=hp0;have hfc:=qC hft;obtain⟨j,hj⟩:∃j:Nat,x.u=(j:Int):=⟨x.u.toNat,ae⟩
 have hjt:x.u.toNat=j:=ae;have hjl:j<w.us.length:=ae;have hcj:=hfc.2 j ae;have hun:=hsm.1 _ (aq hjl);have hvs:0<=c[j]! ->w.us[j]!.cands[c[j]!.toNat]!.v.sm:=fun h=>(hun.2 _ (aq ae)).1
 refine fG ?_;refine qo ?_;refine cz c[j]!.toNat (hj:=fun hf=>wx) (hb:=fun hf=>wx) ?_;refine cH ?_;refine c8 (v:=bZ.D w.us[j]!.cands[c[j]!.toNat]!.v) (hi:=fun hf=>wx) ?_;refine bQ (hc:=fun hf=>hA x.s w.us[j]!.cands[c[j]!.toNat]!.v ⟨hsm.2,hvs (by have hf:0<=c[j]! :=Kd;exact hf)⟩) ?_;refine zr ?_;unfold qH;rw[hjt]
def NT:aj:=bc 77
def w623 (hA:C624 Y):uh (cu Y NT):=fun w c l hp0=>by
 refine zg ?_;intro u0;refine zf hm (fun i=>[.u 1,.m 1 c (D.int .i64),.m 3 l Want.D,.u 1,.i i,.i l.length,.u 1,.m 3 l Want.D,.p 0 1,.u 2]) (fun i=>[(0,.buf 1 [b6.D w])]) 5 (fun i=>i<=l.length/\E6 w c l=oA (fun i=>qH w c l[i]!) i l.length) (fun i=>l.length-i) ⟨ae,MW⟩ [(0,0)] ?_;rintro i ⟨hi,hr⟩;refine zc ?_ ?_<;>intro hc0
 .refine zc ?_ ?_<;>intro hc1
  .refine zr ?_;rw[hr,jU ae,hc1];rfl
  refine gh (i+1) [(0,0)] ?_;rw[hr,jU ae];simp only[hc1,Bool.false_or]
 refine zr ?_;rw[hr,td ae]
def Ug:aj:=bc 56
def w170 (hA:C169 Y):tP (cu Y Ug):=fun w c hp0=>by
 refine zg ?_;intro u0 u1;refine dE ?_ ?_<;>intro hc0
 .refine zr ?_;rw[acS hc0]
 refine zg ?_;refine zf hm (fun i=>[.u 1,.m 1 c (D.int .i64),.u 1,.p 0 1,.u 1,.i i,.u 2]) (fun i=>[(0,.buf 1 [b6.D w])]) 14 (fun i=>i<=c.length/\ik w c=bO (EI w c) i c.length) (fun i=>c.length-i) ⟨ae,by unfold ik;unfold xb;rw[bz ae,fT,hc0.2,fT]⟩ [(0,0)] ?_;rintro i ⟨hi,hr⟩;refine zg ?_;intro u2;refine dE ?_ ?_<;>intro hc1
 .refine zc ?_ ?_<;>intro hc2
  .refine zr ?_;rw[hr,ay ae,QV hc2];rfl
  refine gh (i+1) [(0,0)] ?_;rw[hr,ay ae,KZ hc2];rfl
 refine zr ?_;rw[hr,bB ae]
def Uh:aj:=bc 100
def w629 {Y:Ctx}(hm:(Y.at 0).bR)(hA:C627 Y):ui (cu Y Uh):=fun w c x hp0=>by
 refine jS ?_;obtain⟨hsm,⟨hx0,hx1⟩,hft⟩:=hp0;have hfc:=qC hft;obtain⟨j,hj⟩:∃j:Nat,x.u=(j:Int):=⟨x.u.toNat,ae⟩
 have hjt:x.u.toNat=j:=ae;have hjl:j<w.us.length:=ae;have hcj:=hfc.2 j ae;have hun:=hsm.1 _ (aq hjl);have hvs:0<=c[j]! ->w.us[j]!.cands[c[j]!.toNat]!.v.sm:=fun h=>(hun.2 _ (aq ae)).1
 refine fG ?_;refine qo ?_;refine cz c[j]!.toNat (hj:=fun hf=>wx) (hb:=fun hf=>wx) ?_;refine cH ?_;refine c8 (v:=bZ.D w.us[j]!.cands[c[j]!.toNat]!.v) (hi:=fun hf=>wx) ?_;refine bQ (hc:=fun hf=>hA x.s w.us[j]!.cands[c[j]!.toNat]!.v ⟨hsm.2,hvs (by have hf:0<=c[j]! :=Kd;exact hf)⟩) ?_;refine zr ?_;unfold qH;rw[hjt]
def Pp:aj:=bc 158
def w628 (hA:C629 Y):uh (cu Y Pp):=fun w c l hp0=>by
 refine zg ?_;refine zf hm (fun i=>[.u 1,.m 1 c (D.int .i64),.m 3 l Want.D,.u 1,.i i,.u 1,.p 0 1,.u 1]) (fun i=>[(0,.buf 1 [b6.D w])]) 3 (fun i=>i<=l.length/\E6 w c l=oA (fun i=>qH w c l[i]!) i l.length) (fun i=>l.length-i) ⟨ae,MW⟩ [(0,0)] ?_;rintro i ⟨hi,hr⟩;refine zg ?_;intro u0;refine dE ?_ ?_<;>intro hc0
 .refine zc ?_ ?_<;>intro hc1
  .refine zr ?_;rw[hr,jU ae,hc1];rfl
  refine gh (i+1) [(0,0)] ?_;rw[hr,jU ae];simp only[hc1,Bool.false_or]
 refine zr ?_;rw[hr,td ae]
def PF:aj:=bc 69
def w355 {Y:Ctx}(hm:(Y.at 0).bR):IL (cu Y PF):=fun x s=>by
 exact mr
def PG:aj:=bc 68
def w354 (hA:C355 Y):IK (cu Y PG):=fun l s=>by
 refine zg ?_;intro u0;refine zf hm (fun i=>[.m 2 l bN.D,.e (.fn 355 [.ref 2 [bN.D s] 0 0]),.u 1,.i i,.i l.length,.u 1,.m 2 l bN.D,.u 3]) (fun i=>[]) 4 (fun i=>i<=l.length/\mg l s.name=fY (Fx s.name) (l.drop i) i) (fun i=>l.length-i) ⟨ae,rfl⟩ [] ?_;rintro i ⟨hi,hr⟩;refine zc ?_ ?_<;>intro hc0
 .refine pA ?_;refine bS _ ?_;refine ez ?_;refine BM (hc:=fun _=>hA l[i]! s) ?_;refine zc ?_ ?_<;>intro hc1
  .refine zr ?_;rw[hr,jc ae hc1]
  refine gh (i+1) [] ?_;rw[hr,hY ae hc1]
 refine zr ?_;rw[hr,jJ ae]
def Zq:aj:=bc 32
def w142 (hA:C353 Y)(hB:C354 Y):tG (cu Y Zq):=fun l hp0=>by
 refine zg ?_;intro u0;refine dE ?_ ?_<;>intro hc0
 .refine zr ?_;unfold fJ;rw[bI ae,Bool.false_and]
 refine zg ?_;intro u1;refine zf hm (fun i=>[.m 2 l bN.D,.u 2,.i i,.i l.length,.u 1,.m 2 l bN.D,.u 3]) (fun i=>[]) 7 (fun i=>i<=l.length/\fJ l=bO (DW l) i l.length) (fun i=>l.length-i) ⟨ae,by unfold fJ;rw[bz ae,fT]⟩ [] ?_;rintro i ⟨hi,hr⟩;refine zc ?_ ?_<;>intro hc1
 .refine uK ?_;refine bh 11 ?_ (he:=aad) (hm:=aad);refine cx ?_;refine aB (hc:=hA (l[i]!) (by first|assumption|omega|exact hp0 _ (aq ae)|exact hp0.1|exact hp0.2)) ?_;refine dx ?_;refine RL [.ref 2 [bN.D l[i]!] 0 0] ?_;refine zc ?_ ?_<;>intro hc2
  .refine zr ?_;rw[hr,ay ae,Zs hc2];rfl
  refine gh (i+1) [] ?_;rw[hr,ay ae,UA ae hc2];rfl
 refine zr ?_;rw[hr,bB ae]
def Mb:aj:=bc 90
def w359:tW (cu Y Mb):=fun l nm=>by
 refine zg ?_;refine zf hm (fun i=>[.m 2 l bN.D,.e (.str nm),.u 1,.i i,.u 2]) (fun i=>[]) 2 (fun i=>i<=l.length/\mg l nm=fY (Fx nm) (l.drop i) i) (fun i=>l.length-i) ⟨ae,rfl⟩ [] ?_;rintro i ⟨hi,hr⟩;refine zg ?_;intro u0;refine dE ?_ ?_<;>intro hc0
 .refine zc ?_ ?_<;>intro hc1
  .refine zr ?_;rw[hr,jc ae (by simpa[Fx]using hc1)]
  refine gh (i+1) [] ?_;rw[hr,hY ae (by simpa[Fx]using hc1)]
 refine zr ?_;rw[hr,jJ ae]
def Ub:aj:=bc 47
def w145 (hA:SO Y)(hB:C359 Y):tG (cu Y Ub):=fun l hp0=>by
 refine zg ?_;intro u0;refine dE ?_ ?_<;>intro hc0
 .refine zr ?_;unfold fJ;rw[bI ae,Bool.false_and]
 refine zg ?_;refine zf hm (fun i=>[.m 2 l bN.D,.u 2,.i i,.u 2]) (fun i=>[]) 5 (fun i=>i<=l.length/\fJ l=bO (DW l) i l.length) (fun i=>l.length-i) ⟨ae,by unfold fJ;rw[bz ae,fT]⟩ [] ?_;rintro i ⟨hi,hr⟩;refine zg ?_;intro u1;refine dE ?_ ?_<;>intro hc1
 .refine qo ?_;refine aB (hc:=hA ((l)[i]!) (by first|assumption|omega|exact hp0 _ (aq ae)|exact hp0.1|exact hp0.2)) ?_;refine zc ?_ ?_<;>intro hc2
  .refine zr ?_;rw[hr,ay ae,adN hc2];rfl
  refine gh (i+1) [] ?_;rw[hr,ay ae,MS hc2];rfl
 refine zr ?_;rw[hr,bB ae]
def PE:aj:=bc 74
def w274 {Y:Ctx}(hm:(Y.at 0).bR)(hA:C353 Y)(hB:C511 Y):tQ (cu Y PE):=fun s nm v hp0=>by
 refine zc ?_ ?_<;>intro hc0
 .refine zr ?_;unfold jI;rw[ak hc0]
 refine jS ?_;refine aB (hc:=hB (s.es) (nm) (v) (by first|assumption|omega|exact hp0.1|exact⟨fun x hx=>(hp0.1 x hx).1.2,hp0.2⟩)) ?_;refine zr ?_;unfold jI;rw[ai (by rw[hc0];simp)]
def O5:aj:=bc 102
def w695 {Y:Ctx}(hm:(Y.at 0).bR)(hA:SO Y)(hB:U7 Y):tQ (cu Y O5):=fun s nm v hp0=>by
 refine zc ?_ ?_<;>intro hc0
 .refine zr ?_;unfold jI;rw[ak hc0]
 refine jS ?_;refine aB (hc:=hB (s.es) (nm) (v) (by first|assumption|omega|exact hp0.1|exact⟨fun x hx=>(hp0.1 x hx).1.2,hp0.2⟩)) ?_;refine zr ?_;unfold jI;rw[ai (by rw[hc0];simp)]
def Px:aj:=bc 104
def w696:Jy (cu Y Px):=fun w a b=>by
 refine zg ?_;refine zfx hm (1:Nat) (fun i=>[.u 1,.e (.str a),.e (.str b),.u 1,.i i,.p 0 1,.u 2]) (fun i=>[(0,.buf 1 [b6.D w])]) 3 (fun i=>1<=i/\il w.us a b=fY (nt a b) (w.us.drop i) i) (fun i=>w.us.length-i) ⟨ae,rfl⟩ [(0,0)] ?_;rintro i ⟨hi,hr⟩;refine zg ?_;intro u0;refine dE ?_ ?_<;>intro hc0
 .refine zc ?_ ?_<;>intro hc1
  .refine zr ?_;rw[hr,jc ae (isU_y hc1)]
  refine gh (i+1) [(0,0)] ?_;rw[hr,hY ae (isU_n hc1)]
 refine zr ?_;rw[hr,jJ ae]
def My:aj:=⟨4,11,[⟨4,none⟩],ha1,(sq (rg [gb 1 s0,gb 5 s2,gm rM] [(6,0),(9,1),(4,2)]) (sq (sq (r1 [gm rM] 5 0) (.block 0 (.loop (sq (sq (r1 [gm s1,ai8 l0 rM,gm l1,gmt 2 s5,Nq 2 0 s6,WJ 2 l4,gmt 2 s1,sg 2 (.ia 3 l5 l6),Nq 2 2 l7,WJ 2 l8,sg 2 (.len l9),sg 2 (VF l3 l10),UR l2 Xg] 7 12) (US s7 0)) (sq (.block 1 (sq (r1 [gf 0 s6,gd l0,gm s1,ga 3 l1 l2,gf 2 l3,gd l4,gm s5,ga 8 l5 l6,gf 0 l7,gk 5 true l8,gb 5 (.c (.agg [.int .i64 0,.int .i64 0,.int .i64 0,.str [],.str []])),gt 5 l10 l9] 8 10) (sq (r1 [gm s3,gm l0,sg 1 (.ld 5 true s8),sg 1 (.ld 5 true s9),sg 1 (.eqA false true [.i .i64,.i .i64,.i .i64,.s,.s] l2 l3),UR l1 l4,gm l5,gmf 6 s3,uD 6 (.un .not l7),gmf 6 l8,sg 9 (.ld 5 true s8),sg 9 (.ld 5 true s9),sg 9 (.call 424 [l10,Xg] [[.a,.a,.a,.a,.a],[.a,.a,.a,.a,.a]]),sg 9 (wL l12 rM),gaf 6 l9 l13,Q3 l6 l14] 10 15) (.cond H5 (sq (r1 [gm s5,gm l0] 4 1) .ret) .skip)))) (r1 [gm s5,mE l0 Kq,gm l1] 5 2)))))) (sq (r1 [gn (.mv (.c (.int .i64 (-1))))] 4 0) .ret)))⟩
def w697 (hA:Nv Y):Jz (cu Y My):=fun w u v whole hp0=>by
 refine zg ?_;refine zf hm (fun i=>[.u 1,.i u,.u 1,.e (.bool whole),.u 1,.i i,.p 0 1,.u 2,.p 1 5,.u 1]) (fun i=>[(0,.buf 1 [b6.D w]),(1,.buf 5 [bZ.D v])]) 4 (fun i=>(0<=u->i<=w.us[u.toNat]!.cands.length)/\mF w.us u v whole=if u<0 then-1 else fY (Tx v whole) (w.us[u.toNat]!.cands.drop i) i) (fun i=>w.us[u.toNat]!.cands.length-i) ⟨fun _=>Nat.zero_le _,rfl⟩ [(0,0),(1,1)] ?_;rintro i ⟨hi,hr⟩;refine zc ?_ ?_<;>intro hc0
 .refine dx ?_;have hun:=hp0.1.1 _ (aq (show u.toNat<w.us.length by omega));have h16:w.us[u.toNat]!.cands.length<=16:=hun.1;have hvi:=(hun.2 _ (aq (show i<w.us[u.toNat]!.cands.length by omega))).1;refine zc ?_ ?_<;>intro hc1
  .refine zr ?_;rw[hr,ai ae,jc ae (isV_y hc1)]
  refine zl (i+1) [(0,0),(1,1)] ?_;exact⟨fun _=>ae,by rw[hr,ai ae,ai ae,hY ae (isV_n hc1)]⟩
 refine zr ?_;rw[hr];split
 .rfl
 .rw[jJ ae]
def Mx:aj:=bc 59
def w508 {Y:Ctx}(hm:(Y.at 0).bR)(hA:C695 Y):Jd (cu Y Mx):=fun s nm v hp0=>by
 refine Bq ?_;have hlm:=yR (s:=s) (nm:=nm) (v:=v);refine zc ?_ ?_<;>intro hc0
 .refine cx ?_;refine bM _ ?_;refine bS _ ?_;refine zr ?_;rw[show oC s nm v=(default,false)from ak ae];rfl
 refine cx ?_;obtain⟨j,hj,hjl⟩:=hlm.resolve_left ae;refine zr ?_;rw[show oC s nm v=(s.es[j]!,true)from by rw[oC,ai ae,hj];rfl];rfl
def HW:aj:=bc 180
def w554 {Y:Ctx}(hm:(Y.at 0).bR)(hA:C734 Y):Ji (cu Y HW):=fun v hp0=>by
 show dp _ _ _ [⟨_,_⟩,_,_,_] _;obtain⟨hq1,hq2,hq3⟩:=hp0;simp only[Cq,aN,bn]at hq1 hq2 hq3;have hl1:=hJ 4 v.major.toNat ae ae;have hl2:=hJ 4 v.minor.toNat ae ae;have hl3:=hJ 4 v.patch.toNat ae ae;refine aO ?_;exact mr
def Pv:aj:=bc 131
def w316 {Y:Ctx}(hm:(Y.at 0).bR)(hA:AS Y)(hB:C554 Y):ua (cu Y Pv):=fun v hp0=>by
 show dp _ _ _ [⟨_,_⟩,_,_,_,_,_,_] _;obtain⟨hs1,hs2⟩:=hp0;have hp0:v.sm:=⟨hs1,hs2⟩;refine aO ?_;refine zg ?_;refine aQ (fun hc0=>?_) (fun hc0=>?_)
 .simp only[cG]at hc0;refine zr ?_;simp[uI,hc0]
 simp only[dH]at hc0;refine cx ?_;have hv:=hc0;simp only[gy,aN]at hv;obtain⟨⟨⟨⟨hv1,hv2⟩,hv3⟩,_⟩,_⟩:=hv;have hq1:=hv1;have hq2:=hv2;have hq3:=hv3;simp only[Cq,aN,bn]at hq1 hq2 hq3;have hl1:=hJ 4 v.major.toNat ae ae;have hl2:=hJ 4 v.minor.toNat ae ae;have hl3:=hJ 4 v.patch.toNat ae ae;refine zc ?_ ?_<;>intro hc1
 .refine zc ?_ ?_<;>intro hc2
  .refine zr ?_;simp[uI,E8,hc0,hc1,hc2]
  refine zr ?_;simp[uI,E8,hc0,hc1,hc2]
 refine zc ?_ ?_<;>intro hc2
 .refine zr ?_;simp[uI,E8,hc0,hc1,hc2]
 refine zr ?_;simp[uI,E8,hc0,hc1,hc2]
def Ut:aj:=bc 187
def w464 {Y:Ctx}(hm:(Y.at 0).bR):I8 (cu Y Ut):=fun h n hp0=>by
 refine jS ?_;refine FR (Zo h n) (hb:=fun _=>by rw[show min (Int.toNat (n:Int)) (IntKind.bits .u64)=n by simp[IntKind.bits];omega];rfl) ?_;refine cx ?_;refine HG ((64-n:Nat):Int) (hb:=fun _=>yA) ?_;refine RO (F5 h (64-n)) (hb:=fun _=>by rw[show min (Int.toNat ((64-n:Nat):Int)) (IntKind.bits .u64)=64-n by simp[IntKind.bits]];rfl) ?_;refine ae3 (rot h n) (hb:=fun _=>rfl) ?_;refine zg ?_;refine fw (aw (D.int .u64) ?_);rfl
def Y9:aj:=bc 139
def w221 (hA:C464 Y):tM (cu Y Y9):=fun s=>by
 refine zg ?_;refine zf hm (fun i=>[.e (.sl 1 (s.map fun b=>D.int .u8 b.toNat)),.u 1,.i i,.u 1,.e (.int .u64 (zx (s.take i)))]) (fun i=>[]) 3 (fun i=>i<=s.length) (fun i=>s.length-i) ae [] ?_;intro i hi;refine zg ?_;intro u0;refine dE ?_ ?_<;>intro hc0
 .refine qo ?_;refine c8 (v:=.int .u8 (at8 s i)) (hv:=fun _=>ld8 s i) ?_;refine pY (at8 s i) (hb:=fun _=>by have:=GK s i;rw[IntKind.wrap_u64];omega) ?_;refine HB (Sq (zx (s.take i)) (at8 s i)) (hb:=fun _=>rfl) ?_;refine cH ?_;refine YG (zx (s.take (i+1))) (hb:=fun _=>by rw[Gd s i ae];rfl) ?_;exact iq (i+1) []
 refine dx ?_;have ht:s.take i=s:=eU ae;rw[ht];refine cx ?_;refine RO (F5 (zx s) 29) (hb:=fun _=>rfl) ?_;refine HB (sumL s) (hb:=fun _=>rfl) ?_;refine zg ?_;refine fw (aw (D.int .u64) ?_);rfl
def T9:aj:=bc 137
def w501 {Y:Ctx}(hm:(Y.at 0).bR)(hA:AS Y)(hB:Nv Y):uo (cu Y T9):=fun a b hp0=>by
 exact mr
def L9:aj:=bc 87
def w580 (hA:C501 Y):ub (cu Y L9):=fun l nm v hp0=>by
 refine zg ?_;refine zf hm (fun i=>[.m 11 l kr.D,.e (.str nm),.u 2,.i i,.u 1,.p 0 5,.u 1]) (fun i=>[(0,.buf 5 [bZ.D v])]) 3 (fun i=>i<=l.length/\sC l nm v 0=sC l nm v i) (fun i=>l.length-i) ⟨ae,rfl⟩ [(0,0)] ?_;rintro i ⟨hi,hr⟩;refine zg ?_;intro u0;refine dE ?_ ?_<;>intro hc0
 .refine zc ?_ ?_<;>intro hc1
  .refine zr ?_;rw[hr,Ya ae (acF hc1)]
  refine gh (i+1) [(0,0)] ?_;rw[hr,Yc ae (aiI hc1)]
 refine zr ?_;rw[hr,RF ae]
def T8:aj:=bc 86
def w358 (hA:C75 Y)(hB:EA Y)(hC:U7 Y):tV (cu Y T8):=fun s hp0=>by
 refine zg ?_;refine aQ (fun hc0=>?_) (fun hc0=>?_)
 .simp only[dI,cG,bn]at hc0;have hf:ie s=false:=by
   unfold ie;rcases hc0 with h|h
   .rw[h];rfl
   .rw[show decide (s.es.length<=64)=false from bI ae];simp
  refine zr ?_;exact hf.symm
 simp only[gC,dH,cK]at hc0;have hq:ie s=bO (rZ s.es) 0 s.es.length:=by unfold ie;rw[hc0.1,bz (show s.es.length<=64 by omega)];simp
 refine zg ?_;refine zf hm (fun i=>[.u 2,.p 0 2,.u 1,.i i,.u 5]) (fun i=>[(0,.buf 2 [bN.D s])]) 13 (fun i=>i<=s.es.length/\ie s=bO (rZ s.es) i s.es.length) (fun i=>s.es.length-i) ⟨ae,hq⟩ [(0,0)] ?_;rintro i ⟨hi,hr⟩;refine zg ?_;intro u0;refine dE ?_ ?_<;>intro hc1
 .refine dx ?_;have hsm:=hp0 _ (aq (show i<s.es.length by omega));refine fG ?_;refine fG ?_;refine pA ?_;refine bQ (hc:=fun hf=>hC s.es s.es[i]!.r.name s.es[i]!.r.v ⟨fun x hx=>(hp0 x hx).1.2,hsm.1.2⟩) ?_;refine zg ?_;refine wp_cond (fun hc2=>?_) (fun hc2=>?_)
  .have hen:rZ s.es i=false:=by
    simp only[dI,cG,bn,cK]at hc2;exact aca ae hc2
   refine zr ?_;rw[hr,ay ae,hen];rfl
  have hen:rZ s.es i=true:=by
   simp only[gC,dH,bn,cK]at hc2;exact Wd ae hc2.1.1 hc2.1.2 hc2.2
  refine gh (i+1) [(0,0)] ?_;rw[hr,ay ae,hen];rfl
 refine zr ?_;rw[hr,bB ae]
def Dw:aj:=bc 192
def w904 (hA:C907 Y)(hB:UZ Y):JU (cu Y Dw):=fun r e o hp0=>by
 refine cH ?_;have hns:=gE hp0.1;refine zg ?_;refine zf hm (fun i=>[.u 2,.e (.str o),.u 1,.i i,.p 1 9,.u 2,.p 2 3,.u 1,.o 0 1 ((qL (r.needs.take i) e o)).length]) (fun i=>[(0,.buf 1 (((qL (r.needs.take i) e o)).map dR)),(1,.buf 9 [Rec.D r]),(2,.buf 3 [Env.D e])]) 5 (fun i=>i<=r.needs.length) (fun i=>r.needs.length-i) ae [(0,1),(1,2)] ?_;intro i hi;have hol:=(xM (ns:=r.needs.take i) (e:=e) (o:=o) fun n hn=>hns.2 n (D3 hn)).1;rw[eg]at hol;refine zg ?_;intro u0;refine dE ?_ ?_<;>intro hc0
 .refine wA ?_;refine bS _ ?_;refine uK ?_;refine bQ (hc:=fun hf=>hA _ (e) ?_) ?_;rotate_left;first|assumption|omega|exact⟨hns.2 _ (aq ae),hp0.1.2.2.1 _ (aq ae)⟩|exact⟨(hp0.1.2.2.1 _ (aq ae)).2.1,hp0.2⟩
  refine zc ?_ ?_<;>intro hc1
  .refine cH ?_;have hrl:=(tx (hns.2 _ (aq (show i<r.needs.length by omega)))).1;refine cx ?_;refine aB (hc:=hB _ ?_) ?_;rotate_left;first|assumption|omega|exact⟨hns.2 _ (aq ae),hp0.1.2.2.1 _ (aq ae)⟩|exact⟨(hp0.1.2.2.1 _ (aq ae)).2.1,hp0.2⟩
   refine pf (q:=dR) (xs:=(qL (r.needs.take i) e o)) (ys:=iG r.needs[i]!) (he:=lT.sl) (hb:=ae) ?_;refine zg ?_;rw[<-ajA hc1,X2 ae];exact iq (i+1) [(30,0),(1,1),(2,2)]
  refine zg ?_;rw[show(qL (r.needs.take i) e o)=qL (r.needs.take (i+1)) e o from by rw[<-X2 ae,ajz hc1,gD]];exact iq (i+1) [(0,0),(1,1),(2,2)]
 refine cx ?_;obtain rfl:i=r.needs.length:=ae;rw[List.take_length];refine bh 0 ?_;exact mr
def GZ:aj:=bc 13
def w265 {Y:Ctx}(hm:(Y.at 0).bR)(hA:C264 Y)(hB:C410 Y):tN (cu Y GZ):=fun shop e w l hp0=>by
 refine zc ?_ ?_<;>intro hc0
 .refine zr ?_;rw[aex hc0];rfl
 refine dx ?_;have hcw:=QL (l:=l) (e:=e) (shop:=shop) hp0.2.1 hc0;refine zg ?_;intro u0;refine dE ?_ ?_<;>intro hc1
 .refine cx ?_;have hun:=hcw.2.2 ae;refine dx ?_;refine cz 0 (hj:=fun _=>ae) (hb:=fun _=>ae) ?_;refine zr ?_;rw[aez hc0 ae];rfl
 refine zr ?_;rw[aey hc0 ae];rfl
def Mw:aj:=bc 29
def w272 {Y:Ctx}(hm:(Y.at 0).bR)(hA:C52 Y)(hB:C186 Y)(hC:C271 Y):tN (cu Y Mw):=fun shop e w l hp0=>by
 refine zc ?_ ?_<;>intro hc0
 .refine zr ?_;rw[aex hc0];rfl
 refine dx ?_;have hcw:=QL (l:=l) (e:=e) (shop:=shop) hp0.2.1 hc0;refine zg ?_;refine aQ (fun hc1=>?_) (fun hc1=>?_)
 .have hz:(mq w (ja shop e w l).1).length=0:=by simpa[hcw.2.1]using hc1
  refine zr ?_;rw[aey hc0 hz];rfl
 have hz:(mq w (ja shop e w l).1).length≠0:=by simpa[hcw.2.1]using hc1
 have hun:=hcw.2.2 ae;refine fG ?_;refine cz 0 (hj:=fun _=>ae) (hb:=fun _=>ae) ?_;refine jS ?_;refine cz 0 (hj:=fun _=>ae) (hb:=fun _=>ae) ?_;refine zc ?_ ?_<;>intro hc2
 .exact absurd hc2 ae
 refine ko ?_;refine cz 0 (hj:=fun _=>ae) (hb:=fun _=>ae) ?_;refine zr ?_;rw[aez hc0 hz];rfl
def E3:aj:=⟨2,7,[⟨2,none⟩],ha1,(sq (rg [gb 2 s1,gm cbF] [(5,0),(2,1)]) (sq (sq (r1 [gm rM] 3 0) (.block 0 (.loop (sq (sq (r1 [gm s3,gm s0,gl l1,lz l0 l2] 4 3) (US s4 0)) (sq (.block 1 (sq (r2 [gm s0,gm s3,ga 2 l0 l1,gk 2 true l2,gk 2 true s5,gn (.eqA false true [.i .i64,.i .i64] l3 l4)] 6 5) (.cond s6 (sq (r1 [gm cbT] 2 0) .ret) .skip))) (r1 [gm s3,mE l0 Kq,gm l1] 3 2)))))) (sq (r1 [gm cbF] 2 0) .ret)))⟩
def w831:JQ (cu Y E3):=fun l o=>by
 refine zg ?_;refine zf hm (fun i=>[.m 2 l dU.D,.u 2,.i i,.u 1,.p 0 2,.u 1]) (fun i=>[(0,.buf 2 [dU.D o])]) 3 (fun i=>i<=l.length/\offB l o=oA (fun i=>decide (l[i]! =o)) i l.length) (fun i=>l.length-i) ⟨ae,rfl⟩ [(0,0)] ?_;rintro i ⟨hi,hr⟩;refine zg ?_;intro u0;refine dE ?_ ?_<;>intro hc0
 .refine zc ?_ ?_<;>intro hc1
  .refine zr ?_;rw[hr,jU ae,bz hc1,Bool.true_or]
  refine gh (i+1) [(0,0)] ?_;rw[hr,jU ae,bI hc1,Bool.false_or]
 refine zr ?_;rw[hr,td ae]
def Me:aj:=bc 46
def w143 (hA:C136 Y)(hB:C356 Y):It (cu Y Me):=fun l hp0=>by
 refine cH ?_;have hya:=yy hp0;refine zg ?_;intro u0;refine dE ?_ ?_<;>intro hc0
 .exfalso;have:=hya.1;omega
 refine zg ?_;intro u1;refine dE ?_ ?_<;>intro hc1
 .exfalso;have:=hya.1;omega
 refine zg ?_;refine zf hm (fun i=>[.m 11 l gV.D,.u 4,.i i,.u 4]) (fun i=>[]) 9 (fun i=>i<=l.length) (fun i=>l.length-i) ae [] ?_;intro i hi;refine zg ?_;intro u2;refine dE ?_ ?_<;>intro hc2
 .refine ez ?_;have hmi:=hya.2 i ae;have hck:=ai6 hmi;refine ez ?_;refine aB (hc:=hA l[i]! hmi.1.2) ?_;refine zc ?_ ?_<;>intro hc3
  .exfalso;rw[hck]at hc3;exact absurd rfl hc3
  refine zc ?_ ?_<;>intro hc4
  .exfalso;rw[PZ hp0 ae]at hc4;exact absurd rfl hc4
  exact iq (i+1) []
 exact mr
def Ll:aj:=bc 11
def w94 {Y:Ctx}(hm:(Y.at 0).bR)(hA:C153 Y)(hB:C264 Y)(hC:C265 Y)(hD:C271 Y)(hE:C272 Y):Qa (cu Y Ll):=fun shop e w l hp0=>by
 refine Bq ?_;refine fG ?_;refine fG ?_;refine fG ?_;refine fG ?_;refine Fa ?_;refine bp (env':=[_,_,_,_,⟨_,(.bool _)⟩,_,_,_,_,_,_,_,_,_,_,_,_,_]) ?_;refine zr ?_;simp
def YW:aj:=bc 191
def w816 {Y:Ctx}(hm:(Y.at 0).bR)(hA:C955 Y):JN (cu Y YW):=fun l nm=>by
 exact mr
end Go.Abs
end
