/- A part of the proofs. -/
import Derived.Test.YtgnjlompgjhaaaaGreatDoorP08
set_option linter.all false
set_option maxRecDepth 60000
set_option maxHeartbeats 2000000
namespace Go.Abs
variable {Y:Ctx}(hm:(Y.at 0).b8)
noncomputable def CH:aC:=cR 54
def w232 (h478:N7 Y)(h479:UC Y)(h483:C483 Y)(l:List Int)(i:Int)(r:Rec)  (hp0:0<=i/\i<=2000000)(hp1:∀j:Nat,j<r.needs.length->r.needs[j]!.option.length<=100/\(r.needs[j]!.any.length=1->r.needs[j]!.any[0]!.name.length<=100)):di Y CH (.sl 2 ((kp l i r).map b7.D)) [.sl 1 (l.map (D.int .i64)),.int .i64 i,Rec.D r]:=by
 show bK _ _ _ [⟨_,_⟩,⟨_,_⟩,⟨_,_⟩,_,_,_,_,_,_,_,_,_,_,_,_,_,_,_] _;refine ar ?_;refine aZ ?_;refine df (nU.map D.str) ?_;refine aA ?_;refine aI (.agg (nU.map D.str)) (he:=aQ) ?_;refine aE ?_;refine ba hm (ι:=(Nat×List b7)) (fun p=>[⟨true,.sl 1 (l.map (D.int .i64))⟩,⟨true,.int .i64 i⟩,.un,.un,⟨true,.int .i64 (p.1:Nat)⟩,.un,.un,.un,⟨true,.ptr 4 4 0 0⟩,.un,⟨true,.ptr 0 9 0 0⟩,.un,.un,.un,.un,.un,.un,⟨true,.own 1 2 0 p.2.length⟩]) (fun p=>[(0,.buf 9 [Rec.D r]),(4,.buf 4 [.agg (nU.map D.str)]),(1,.buf 2 (p.2.map b7.D))]) 30 (fun p=>p.1<=4/\p.2=RO l i r p.1) (fun p=>4-p.1) (0,[]) ⟨dF,rfl⟩ (a7.to [(0,0),(4,4)] ah ah (by repeat(first|exact dr.nil|refine dr.un ?_|refine dr.eq ah ?_|refine dr.ni (Or.inr ⟨_,_,_,rfl⟩) ?_)) (by refine bo.fY ah ah eL ?_;refine bo.fY ah ah eL ?_;refine bo.mt ah ah ah ah ?_;exact bo.nil)) ?_;rintro⟨k,fs⟩ ⟨hk,hf⟩;dsimp only at hk hf⊢;have hfl:fs.length<=k:=by
  rw[hf];unfold RO;exact dp (List.length_filterMap_le _ _) aJ
 refine aE ?_;refine av (fun hc0=>?_) (fun hc0=>?_)
 .try simp only[dq]at hc0
  refine aZ ?_;refine aq (hc:=h479 l (i+(k:Nat))) ?_;refine aE ?_;refine aq (hc:=h478 _ 3 aF) ?_;refine ax ?_;refine cG (fun hc1=>?_) fun hc1=>?_
  .refine bN ?_;exact⟨(k+1,fs),⟨dF,by dsimp only;rw[hf,Y2 hc1]⟩,dF,(a7.to [(0,0),(4,4),(1,1)] ah ah lP (by refine bo.fY ah ah eL ?_;refine bo.fY ah ah eL ?_;refine bo.fY ah ah eL ?_;exact bo.nil))⟩
  refine ay ?_;refine sk k (hb:=fun _=>ae) ?_;refine aT (v:=.str nU[k]!) (hv:=fun _=>JM nU (by show _<4;omega) rfl) (ho:=ae) ?_;refine bg (.agg [.str nU[k]!,.bq]) ?_;refine aA ?_;refine aI (.agg [.str nU[k]!,.bq]) (he:=aQ) ?_;refine aA ?_;refine kP [(0,.buf 9 [Rec.D r]),(4,.buf 4 [.agg (nU.map D.str)]),(1,.buf 2 (fs.map b7.D)),(45,.buf 2 [(.agg [.str nU[k]!,.sl 1 ((([]:List au)).map D.str)])])] (.id ah (.id ah (.id ah (.bf ah (.cons (.ag (.cons (.refl _) (.cons (.nil 1) .nil))) .nil) .nil)))) ?_;refine aB ?_;refine ba hm (ι:=(Nat×List au)) (fun p=>[⟨true,.sl 1 (l.map (D.int .i64))⟩,⟨true,.int .i64 i⟩,.un,.un,⟨true,.int .i64 (k:Nat)⟩,.un,⟨true,.int .i64 (kS l (i+(k:Nat)))⟩,.un,⟨true,.ptr 4 4 0 0⟩,⟨true,.int .i64 (p.1:Nat)⟩,⟨true,.ptr 0 9 0 0⟩,.un,.un,.un,⟨true,.ptr 2 2 0 0⟩,.un,.un,⟨true,.own 1 2 0 fs.length⟩]) (fun p=>[(0,.buf 9 [Rec.D r]),(4,.buf 4 [.agg (nU.map D.str)]),(1,.buf 2 (fs.map b7.D)),(2,.buf 2 [.agg [.str nU[k]!,.sl 1 (p.2.map D.str)]])]) 60 (fun p=>p.1<=min r.needs.length 2/\p.2=rm r (kS l (i+(k:Nat))) p.1) (fun p=>2-p.1) (0,[]) ⟨dF,rfl⟩ (a7.to [(0,0),(4,4),(1,1),(45,2)] ah ah lP (by refine bo.fY ah ah eL ?_;refine bo.fY ah ah eL ?_;refine bo.fY ah ah eL ?_;refine bo.nl 45 ah ah rfl ah ?_;exact bo.nil)) ?_;rintro⟨j,of⟩ ⟨hj,ho⟩;dsimp only at hj ho⊢;have hol:of.length<=4:=by
   have:=EU r (kS l (i+(k:Nat))) j;rw[ho];omega
  refine aB ?_;refine aT (v:=.sl 3 (r.needs.map bp.D)) ?_;refine aA ?_;intro u0;refine aD ?_;refine av (fun hc2=>?_) (fun hc2=>?_)
  .simp only[bC,aK]at hc2;obtain⟨hpo,hpn⟩:=hp1 j ae;refine aB ?_;refine aT (v:=.sl 3 (r.needs.map bp.D)) ?_;refine aA ?_;refine bI j (hb:=fun _=>ae) ?_;refine bE (v:=bp.D r.needs[j]!) (hi:=fun _=>ae) ?_;refine aA ?_;refine aI (bp.D r.needs[j]!) (he:=aQ) ?_;refine fU ?_;refine lT (3+(j:Nat)) (hb:=fun _=>by rw[IntKind.wrap_u64];omega) ?_;refine tV _ (hb:=fun _=>rfl) ?_;refine uO (Jk (kS l (i+(k:Nat))) (3+(j:Nat))) (hb:=fun _=>rfl) ?_;refine ay ?_;refine cG (fun hc3=>?_) fun hc3=>?_
   .refine ax ?_;refine aT (v:=.sl 1 (of.map D.str)) ?_;refine aA ?_;refine aT (v:=.str r.needs[j]!.option) ?_;refine dk (hb:=fun _=>cd) ?_;refine aq (hc:=h483 of ([63]++r.needs[j]!.option) ae) ?_;refine aA ?_;refine aI (.agg [.str nU[k]!,.sl 1 ((ic of ([63]++r.needs[j]!.option)).map D.str)]) (he:=aQ) ?_;refine aE ?_;intro u1;refine aE ?_;refine lT (5+(j:Nat)) (hb:=fun _=>by rw[IntKind.wrap_u64];omega) ?_;refine tV _ (hb:=fun _=>rfl) ?_;refine uO (Jk (kS l (i+(k:Nat))) (5+(j:Nat))) (hb:=fun _=>rfl) ?_;refine ay ?_;refine fO (fun hc4=>?_) fun hc4=>?_
    .refine aA ?_;have hpl:=sg of ([63]++r.needs[j]!.option);refine aA ?_;refine aT (v:=.sl 1 (((ic of ([63]++r.needs[j]!.option))).map D.str)) ?_;refine aA ?_;refine aT (v:=.sl 4 (r.needs[j]!.any.map bT.D)) ?_;refine bI 0 (hb:=fun _=>ae) ?_;refine aA ?_;refine bE (v:=.str r.needs[j]!.any[0]!.name) (hi:=fun _=>ae) ?_;refine dk (hb:=fun _=>by have:=hpn ae;simp only[aP,a8];omega) ?_;refine dk (hb:=fun _=>by have:=hpn ae;simp only[bQ,aP,a8];omega) ?_;refine aq (hc:=h483 (ic of ([63]++r.needs[j]!.option)) (r.needs[j]!.any[0]!.name++[47]++[120]) ae) ?_;refine aA ?_;refine aI (.agg [.str nU[k]!,.sl 1 ((ic (ic of ([63]++r.needs[j]!.option)) (r.needs[j]!.any[0]!.name++[47]++[120])).map D.str)]) (he:=aQ) ?_;refine bN ?_;have hA:RN r (kS l (i+(k:Nat))) of j=ic of ([63]++r.needs[j]!.option):=aw hc3;have hB:W5 r (kS l (i+(k:Nat))) (ic of ([63]++r.needs[j]!.option)) j=ic (ic of ([63]++r.needs[j]!.option)) (r.needs[j]!.any[0]!.name++[47]++[120]):=aw ⟨ae,hc4.2⟩;have hJ:rm r (kS l (i+(k:Nat))) (j+1)=(ic (ic of ([63]++r.needs[j]!.option)) (r.needs[j]!.any[0]!.name++[47]++[120])):=by rw[pU,W6,<-ho,hA,hB]
     exact⟨(j+1,(ic (ic of ([63]++r.needs[j]!.option)) (r.needs[j]!.any[0]!.name++[47]++[120]))),⟨dF,hJ.symm⟩,dF,(a7.to [(0,0),(4,4),(1,1),(2,2)] ah ah lP (by refine bo.fY ah ah eL ?_;refine bo.fY ah ah eL ?_;refine bo.fY ah ah eL ?_;refine bo.fY ah ah eL ?_;exact bo.nil))⟩
    refine bN ?_;have hA:RN r (kS l (i+(k:Nat))) of j=ic of ([63]++r.needs[j]!.option):=aw hc3;have hB:W5 r (kS l (i+(k:Nat))) (ic of ([63]++r.needs[j]!.option)) j=(ic of ([63]++r.needs[j]!.option)):=ak (by rintro⟨h1,h2⟩;rcases hc4 with h|h;omega;exact h h2);have hJ:rm r (kS l (i+(k:Nat))) (j+1)=(ic of ([63]++r.needs[j]!.option)):=by rw[pU,W6,<-ho,hA,hB]
    exact⟨(j+1,(ic of ([63]++r.needs[j]!.option))),⟨dF,hJ.symm⟩,dF,(a7.to [(0,0),(4,4),(1,1),(2,2)] ah ah lP (by refine bo.fY ah ah eL ?_;refine bo.fY ah ah eL ?_;refine bo.fY ah ah eL ?_;refine bo.fY ah ah eL ?_;exact bo.nil))⟩
   refine aE ?_;intro u1;refine aE ?_;refine lT (5+(j:Nat)) (hb:=fun _=>by rw[IntKind.wrap_u64];omega) ?_;refine tV _ (hb:=fun _=>rfl) ?_;refine uO (Jk (kS l (i+(k:Nat))) (5+(j:Nat))) (hb:=fun _=>rfl) ?_;refine ay ?_;refine fO (fun hc4=>?_) fun hc4=>?_
   .refine aA ?_;have hpl:=sg of ([63]++r.needs[j]!.option);refine aA ?_;refine aT (v:=.sl 1 ((of).map D.str)) ?_;refine aA ?_;refine aT (v:=.sl 4 (r.needs[j]!.any.map bT.D)) ?_;refine bI 0 (hb:=fun _=>ae) ?_;refine aA ?_;refine bE (v:=.str r.needs[j]!.any[0]!.name) (hi:=fun _=>ae) ?_;refine dk (hb:=fun _=>by have:=hpn ae;simp only[aP,a8];omega) ?_;refine dk (hb:=fun _=>by have:=hpn ae;simp only[bQ,aP,a8];omega) ?_;refine aq (hc:=h483 of (r.needs[j]!.any[0]!.name++[47]++[120]) ae) ?_;refine aA ?_;refine aI (.agg [.str nU[k]!,.sl 1 ((ic of (r.needs[j]!.any[0]!.name++[47]++[120])).map D.str)]) (he:=aQ) ?_;refine bN ?_;have hA:RN r (kS l (i+(k:Nat))) of j=of:=ak (by rintro⟨h1,h2⟩;rcases hc3 with h|h;exact h1 h;exact h h2);have hB:W5 r (kS l (i+(k:Nat))) of j=ic of (r.needs[j]!.any[0]!.name++[47]++[120]):=aw ⟨ae,hc4.2⟩;have hJ:rm r (kS l (i+(k:Nat))) (j+1)=(ic of (r.needs[j]!.any[0]!.name++[47]++[120])):=by rw[pU,W6,<-ho,hA,hB]
    exact⟨(j+1,(ic of (r.needs[j]!.any[0]!.name++[47]++[120]))),⟨dF,hJ.symm⟩,dF,(a7.to [(0,0),(4,4),(1,1),(2,2)] ah ah lP (by refine bo.fY ah ah eL ?_;refine bo.fY ah ah eL ?_;refine bo.fY ah ah eL ?_;refine bo.fY ah ah eL ?_;exact bo.nil))⟩
   refine bN ?_;have hA:RN r (kS l (i+(k:Nat))) of j=of:=ak (by rintro⟨h1,h2⟩;rcases hc3 with h|h;exact h1 h;exact h h2);have hB:W5 r (kS l (i+(k:Nat))) of j=of:=ak (by rintro⟨h1,h2⟩;rcases hc4 with h|h;omega;exact h h2);have hJ:rm r (kS l (i+(k:Nat))) (j+1)=of:=by rw[pU,W6,<-ho,hA,hB]
   exact⟨(j+1,of),⟨dF,hJ.symm⟩,dF,(a7.to [(0,0),(4,4),(1,1),(2,2)] ah ah lP (by refine bo.fY ah ah eL ?_;refine bo.fY ah ah eL ?_;refine bo.fY ah ah eL ?_;refine bo.fY ah ah eL ?_;exact bo.nil))⟩
  simp only[dz,bc]at hc2;obtain rfl:j=min r.needs.length 2:=ae;subst ho;refine bN ?_;refine tV _ (hb:=fun _=>rfl) ?_;refine uO (Jk (kS l (i+(k:Nat))) 7) (hb:=fun _=>rfl) ?_;refine bN ?_;refine c9 (hc:=fun hf=>h479 l (i+(k:Nat)+1)) ?_;refine c9 (hc:=fun hf=>h478 _ 3 aF) ?_;refine ay ?_;refine cG (fun hc5=>?_) fun hc5=>?_
  .refine ax ?_;refine aT (v:=.sl 1 ((rm r (kS l (i+(k:Nat))) (min r.needs.length 2)).map D.str)) ?_;refine ax ?_;refine sk (k+1) (hb:=fun _=>ae) ?_;refine aT (v:=.str nU[k+1]!) (hv:=fun _=>JM nU (by show _<4;omega) rfl) (ho:=ae) ?_;refine aq (hc:=h483 (rm r (kS l (i+(k:Nat))) (min r.needs.length 2)) nU[k+1]! ae) ?_;refine aA ?_;refine aI (.agg [.str nU[k]!,.sl 1 ((ic (rm r (kS l (i+(k:Nat))) (min r.needs.length 2)) nU[k+1]!).map D.str)]) (he:=aQ) ?_;refine ay ?_;refine cA (d:=b7.D ⟨nU[k]!,ic (rm r (kS l (i+(k:Nat))) (min r.needs.length 2)) nU[k+1]!⟩) ?_;refine dh [b7.D ⟨nU[k]!,ic (rm r (kS l (i+(k:Nat))) (min r.needs.length 2)) nU[k+1]!⟩] ?_;refine gV (q:=b7.D) (xs:=fs) (e:=⟨nU[k]!,ic (rm r (kS l (i+(k:Nat))) (min r.needs.length 2)) nU[k+1]!⟩) ?_;refine c7 ?_;have hC:Vh l i (kS l (i+(k:Nat))) k (rm r (kS l (i+(k:Nat))) (min r.needs.length 2))=ic (rm r (kS l (i+(k:Nat))) (min r.needs.length 2)) nU[k+1]! :=aw ⟨⟨ae,hc5.1.2⟩,by rw[show i+(k:Nat)+1=i+(k:Int)+1 by omega];exact hc5.2⟩;exact⟨(k+1,fs++[⟨nU[k]!,ic (rm r (kS l (i+(k:Nat))) (min r.needs.length 2)) nU[k+1]!⟩]),⟨dF,by dsimp only;rw[hf];exact(Ln hc1 hC).symm⟩,dF,(a7.to [(0,0),(4,4),(99,1)] ah ah (by repeat(first|exact dr.nil|refine dr.un ?_|refine dr.eq ah ?_|refine dr.ni (Or.inr ⟨_,_,_,rfl⟩) ?_)) (by refine bo.fY ah ah eL ?_;refine bo.fY ah ah eL ?_;refine bo.nl 99 ah ah rfl (br (fun _=>rfl) _) ?_;exact bo.nil))⟩
  refine ay ?_;refine cA (d:=b7.D ⟨nU[k]!,(rm r (kS l (i+(k:Nat))) (min r.needs.length 2))⟩) ?_;refine dh [b7.D ⟨nU[k]!,(rm r (kS l (i+(k:Nat))) (min r.needs.length 2))⟩] ?_;refine gV (q:=b7.D) (xs:=fs) (e:=⟨nU[k]!,(rm r (kS l (i+(k:Nat))) (min r.needs.length 2))⟩) ?_;refine c7 ?_;have hC:Vh l i (kS l (i+(k:Nat))) k (rm r (kS l (i+(k:Nat))) (min r.needs.length 2))=(rm r (kS l (i+(k:Nat))) (min r.needs.length 2)):=ak (by rintro⟨⟨h1,h2⟩,h3⟩;rcases hc5 with(h|h)|h;omega;exact h h2;exact h3 h);exact⟨(k+1,fs++[⟨nU[k]!,(rm r (kS l (i+(k:Nat))) (min r.needs.length 2))⟩]),⟨dF,by dsimp only;rw[hf];exact(Ln hc1 hC).symm⟩,dF,(a7.to [(0,0),(4,4),(90,1)] ah ah (by repeat(first|exact dr.nil|refine dr.un ?_|refine dr.eq ah ?_|refine dr.ni (Or.inr ⟨_,_,_,rfl⟩) ?_)) (by refine bo.fY ah ah eL ?_;refine bo.fY ah ah eL ?_;refine bo.nl 90 ah ah rfl (br (fun _=>rfl) _) ?_;exact bo.nil))⟩
 simp only[bc]at hc0;obtain rfl:k=4:=ae;refine aD ?_;refine eI 1 ?_;refine aA ?_;refine bG (?_);rw[hf];rfl
noncomputable def Hf:aC:=cR 19
def w79 (h227:XE Y)(h228:Jb Y)(h229:C229 Y)(h230:XF Y)(h231:XG Y)(h232:C232 Y)(l:List Int)(i:Int)(own:Int)  (hp0:0<=i/\i<=1000000)(hp1:0<=own/\own<=100000):di Y Hf (Rec.D (CF l i own)) [.sl 1 (l.map (D.int .i64)),.int .i64 i,.int .i64 own]:=by
 show bK _ _ _ [⟨_,_⟩,⟨_,_⟩,⟨_,_⟩,_,_,_,_,_,_,_] _;refine ar ?_;refine aB ?_;refine aq (hc:=h227 own) ?_;refine ax ?_;refine aq (hc:=h228 l (i) 3 aF) ?_;refine ay ?_;refine aq (hc:=h228 l (i+1) 2 aF) ?_;refine bg (cq.D ⟨fX l i 3,fX l (i+1) 2,0,[],[]⟩) ?_;refine bg (.agg [.str (fh own),.int .i64 (fX l i 3),.int .i64 (fX l (i+1) 2),.int .i64 0,.str [],.str [],.bq,.bq,.bq]) ?_;refine aA ?_;refine aI (.agg [.str (fh own),.int .i64 (fX l i 3),.int .i64 (fX l (i+1) 2),.int .i64 0,.str [],.str [],.bq,.bq,.bq]) (he:=aQ) ?_;refine aD ?_;refine aq (hc:=h228 l (i+2) 9 aF) ?_;refine ax ?_;refine sO hm (ι:=Unit) (fun _=>[⟨true,.sl 1 (l.map (D.int .i64))⟩,⟨true,.int .i64 i⟩,⟨true,.int .i64 own⟩,⟨true,.ptr 0 9 0 0⟩,.un,⟨true,.ptr 12 9 0 0⟩,.un,.un,.un,.un]) (fun _=>[(0,.buf 9 [dy]),(12,.buf 9 [(.agg [.str (fh own),.int .i64 (fX l i 3),.int .i64 (fX l (i+1) 2),.int .i64 0,.str (uA l i),.str [],.bq,.bq,.bq])])]) 30 (fun _=>True) ?_ ?_
 .refine fO (fun hc0=>?_) fun hc0=>?_
  .refine ay ?_;refine aI (.agg [.str (fh own),.int .i64 (fX l i 3),.int .i64 (fX l (i+1) 2),.int .i64 0,.str Tu,.str [],.bq,.bq,.bq]) (he:=aQ) ?_;refine ax ?_;have hp:uA l i=Tu:=aw hc0;rw[hp];exact⟨(),trivial,(a7.to [(0,0),(12,12)] ah ah lP (by repeat(first|exact bo.nil|refine bo.fY ah ah eL ?_|refine bo.Gc ah ah ah ?_)))⟩
  refine ax ?_;have hp:uA l i=[]:=ak hc0;rw[hp];exact⟨(),trivial,(a7.to [(0,0),(12,12)] ah ah lP (by repeat(first|exact bo.nil|refine bo.fY ah ah eL ?_|refine bo.Gc ah ah ah ?_)))⟩
 .rintro _-
  refine aE ?_;refine aq (hc:=h228 l (i+2) 9 aF) ?_;refine ax ?_;refine sO hm (ι:=Unit) (fun _=>[⟨true,.sl 1 (l.map (D.int .i64))⟩,⟨true,.int .i64 i⟩,⟨true,.int .i64 own⟩,⟨true,.ptr 0 9 0 0⟩,.un,⟨true,.ptr 12 9 0 0⟩,.un,.un,.un,.un]) (fun _=>[(0,.buf 9 [dy]),(12,.buf 9 [(.agg [.str (fh own),.int .i64 (fX l i 3),.int .i64 (fX l (i+1) 2),.int .i64 0,.str (uA l i),.str (AS l i),.bq,.bq,.bq])])]) 40 (fun _=>True) ?_ ?_
  .refine fO (fun hc1=>?_) fun hc1=>?_
   .refine ay ?_;refine aI (.agg [.str (fh own),.int .i64 (fX l i 3),.int .i64 (fX l (i+1) 2),.int .i64 0,.str (uA l i),.str [55],.bq,.bq,.bq]) (he:=aQ) ?_;refine ax ?_;have hp:AS l i=[55]:=aw hc1;rw[hp];exact⟨(),trivial,(a7.to [(0,0),(12,12)] ah ah lP (by repeat(first|exact bo.nil|refine bo.fY ah ah eL ?_|refine bo.Gc ah ah ah ?_)))⟩
   refine ax ?_;have hp:AS l i=[]:=ak hc1;rw[hp];exact⟨(),trivial,(a7.to [(0,0),(12,12)] ah ah lP (by repeat(first|exact bo.nil|refine bo.fY ah ah eL ?_|refine bo.Gc ah ah ah ?_)))⟩
  .rintro _-
   have hK:=W7 l i;refine aE ?_;refine aq (hc:=h228 l (i+3) 4 aF) ?_;refine Mc ((gK l i:Nat):Int) (hn:=by intro _;omega) (hb:=fun _=>gK_eq l i) ?_;refine ax ?_;refine ba hm (ι:=(Nat×List bp)) (fun p=>[⟨true,.sl 1 (l.map (D.int .i64))⟩,⟨true,.int .i64 i⟩,⟨true,.int .i64 own⟩,⟨true,.ptr 0 9 0 0⟩,.un,⟨true,.ptr 12 9 0 0⟩,.un,⟨true,.int .i64 (p.1:Nat)⟩,.un,.un]) (fun p=>[(0,.buf 9 [dy]),(12,.buf 9 [(.agg [.str (fh own),.int .i64 (fX l i 3),.int .i64 (fX l (i+1) 2),.int .i64 0,.str (uA l i),.str (AS l i),.own 1 3 0 p.2.length,.bq,.bq])]),(1,.buf 3 (p.2.map bp.D))]) 60 (fun p=>p.1<=gK l i/\p.2=GX l i own (gK l i-p.1)) (fun p=>p.1) (gK l i,[]) ⟨aL _,by dsimp only;rw[Nat.sub_self];rfl⟩ (a7.to [(0,0),(12,12)] ah ah lP (by refine bo.fY ah ah eL ?_;refine bo.ni 12 ah ah (by exact⟨_,_,rfl,⟨_,rfl,⟨_,_,rfl,⟨rfl,rfl⟩,⟨_,_,rfl,⟨rfl,rfl⟩,⟨_,_,rfl,⟨rfl,rfl⟩,⟨_,_,rfl,⟨rfl,rfl⟩,⟨_,_,rfl,⟨rfl,rfl⟩,⟨_,_,rfl,⟨rfl,rfl⟩,⟨_,_,rfl,Or.inr ⟨_,_,_,rfl⟩,⟨_,_,rfl,Or.inl rfl,⟨_,_,rfl,Or.inl rfl,rfl⟩⟩⟩⟩⟩⟩⟩⟩⟩⟩,rfl⟩) ?_;refine bo.mt ah ah ah ah ?_;exact bo.nil)) ?_;rintro⟨k,ns⟩ ⟨hk,hn⟩;dsimp only at hk hn⊢;have hnl:ns.length<=3:=by rw[hn];simp[GX];omega
   refine aE ?_;refine av (fun hc2=>?_) (fun hc2=>?_)
   .try simp only[dq]at hc2
    refine c7 ?_;refine nW ?_;refine ay ?_;refine aq (hc:=h229 l (i+4+20*(k:Int) -20) own ae ae) ?_;refine dh [bp.D (iu l (i+4+20*(k:Int) -20) own)] ?_;refine gV (q:=bp.D) (xs:=ns) (e:=iu l (i+4+20*(k:Int) -20) own) ?_;refine aA ?_;refine aI (.agg [.str (fh own),.int .i64 (fX l i 3),.int .i64 (fX l (i+1) 2),.int .i64 0,.str (uA l i),.str (AS l i),.own 74 3 0 (ns++[iu l (i+4+20*(k:Int) -20) own]).length,.bq,.bq]) (he:=aQ) ?_;refine bN ?_;exact⟨(k-1,ns++[iu l (i+4+20*(k:Int) -20) own]),⟨dF,by dsimp only;rw[RS hk ae,hn]⟩,dF,(a7.to [(0,0),(12,12),(74,1)] ah ah (by repeat(first|exact dr.nil|refine dr.un ?_|refine dr.eq ah ?_|refine dr.nl (aj (D.int .i64) (show((k-1:Nat):Int)=(k:Int) -1 by omega)) ah ?_)) (by refine bo.fY ah ah eL ?_;refine bo.Gc ah ah ah ?_;refine bo.nl 74 ah ah rfl (br (fun _=>rfl) _) ?_;exact bo.nil))⟩
   simp only[bc]at hc2;obtain rfl:k=0:=ae;obtain rfl:ns=rU l i own:=by rw[hn];rfl
   refine ay ?_;refine eI 1 ?_;refine aB ?_;refine aq (hc:=h228 l (i+45) 5 aF) ?_;refine ax ?_;refine sO hm (ι:=Unit) (fun _=>[⟨true,.sl 1 (l.map (D.int .i64))⟩,⟨true,.int .i64 i⟩,⟨true,.int .i64 own⟩,⟨true,.ptr 0 9 0 0⟩,.un,⟨true,.ptr 12 9 0 0⟩,.un,.un,.un,.un]) (fun _=>[(0,.buf 9 [dy]),(12,.buf 9 [(.agg [.str (fh own),.int .i64 (fX l i 3),.int .i64 (fX l (i+1) 2),.int .i64 0,.str (uA l i),.str (AS l i),(.sl 3 ((rU l i own).map bp.D)),(.own 2 3 0 (rS l i own).length),.bq])]),(2,.buf 3 ((rS l i own).map fA.D))]) 100 (fun _=>True) ?_ ?_
   .refine fO (fun hc3=>?_) fun hc3=>?_
    .refine aA ?_;have hr46:=dP l (i+46) 4 aF;refine aA ?_;refine aT (v:=.bq) ?_;refine aE ?_;refine aq (hc:=h228 l (i+46) 4 aF) ?_;refine aA ?_;refine aq (hc:=h227 (own+1+fX l (i+46) 4)) ?_;refine ay ?_;refine aq (hc:=h230 l (i+47) ae) ?_;refine ay ?_;refine aq (hc:=h231 l (i+50) ae) ?_;refine bg (fA.D (AR l i own)) ?_;refine dh [fA.D (AR l i own)] ?_;refine Tg (n:=1) (ys:=[fA.D (AR l i own)]) (he:=sR.all ah rfl) (hn:=rfl) ?_;refine aA ?_;refine aI (.agg [.str (fh own),.int .i64 (fX l i 3),.int .i64 (fX l (i+1) 2),.int .i64 0,.str (uA l i),.str (AS l i),(.sl 3 ((rU l i own).map bp.D)),(.own 87 3 0 1),.bq]) (he:=aQ) ?_;refine ax ?_;have hb:rS l i own=[AR l i own]:=aw hc3;rw[hb];exact⟨(),trivial,(a7.to [(0,0),(12,12),(87,2)] ah ah lP (by refine bo.fY ah ah eL ?_;refine bo.Gc ah ah ah ?_;refine bo.nl 87 ah ah ah ah ?_;exact bo.nil))⟩
    refine ax ?_;have hb:rS l i own=[]:=ak hc3;rw[hb];exact⟨(),trivial,(a7.to [(0,0),(12,12)] ah ah lP (by refine bo.fY ah ah eL ?_;refine bo.ni 12 ah ah (by exact⟨_,_,rfl,⟨_,rfl,⟨_,_,rfl,⟨rfl,rfl⟩,⟨_,_,rfl,⟨rfl,rfl⟩,⟨_,_,rfl,⟨rfl,rfl⟩,⟨_,_,rfl,⟨rfl,rfl⟩,⟨_,_,rfl,⟨rfl,rfl⟩,⟨_,_,rfl,⟨rfl,rfl⟩,⟨_,_,rfl,⟨rfl,rfl⟩,⟨_,_,rfl,Or.inr ⟨_,_,_,rfl⟩,⟨_,_,rfl,Or.inl rfl,rfl⟩⟩⟩⟩⟩⟩⟩⟩⟩⟩,rfl⟩) ?_;refine bo.mt ah ah ah ah ?_;exact bo.nil))⟩
   .rintro _-
    refine eI 2 ?_;refine kP [(0,.buf 9 [dy]),(12,.buf 9 [Rec.D (pY l i own)])] (.id ah (.bf ah (.cons (.ag (.cons (.refl _) (.cons (.refl _) (.cons (.refl _) (.cons (.refl _) (.cons (.refl _) (.cons (.refl _) (.cons (.refl _) (.cons (.refl _) (.cons (.nil 2) .nil)))))))))) .nil) .nil)) ?_;refine aB ?_;refine cA (d:=Rec.D (pY l i own)) ?_;refine aq (hc:=h232 l (i+52) (pY l i own) ae (OY l i own)) ?_;refine aA ?_;refine aI (Rec.D (CF l i own)) (he:=aQ) ?_;refine ax ?_;refine cA (d:=Rec.D (CF l i own)) ?_;refine aI (Rec.D (CF l i own)) (he:=aQ) ?_;refine ax ?_;refine bG (?_);rfl
noncomputable def HX:aC:=cR 106
def w218 (h457:C457 Y)(h458:C458 Y)(h459:C459 Y)(h460:C460 Y)(r:Rec)  (hp0:fC r):di Y HX (.tup [.int .i64 (eY r).1,.int .i64 (eY r).2]) [Rec.D r]:=by
 show bK _ _ _ [⟨_,_⟩,_,_,_,_,_,_,_,_,_,_,_,_,_,_,_,_] _;refine ar ?_;refine bN ?_;refine ba hm (ι:=Nat) (fun i=>[.un,.un,.un,⟨true,.int .i64 (i:Nat)⟩,⟨true,.ptr 0 9 0 0⟩,.un,.un,.un,.un,.un,.un,.un,.un,.un,.un,.un,.un]) (fun i=>[(0,.buf 9 [Rec.D r])]) 4 (fun i=>i<=r.needs.length/\ml r=iF (fun i=>jh r r.needs[i]!) i r.needs.length) (fun i=>r.needs.length-i) 0 ⟨ae,rfl⟩ (du [(0,0)]) ?_;rintro i ⟨hi,hr⟩;refine aD ?_;intro u0;refine ax ?_;refine cG (fun hc0=>?_) fun hc0=>?_
 .refine aZ ?_;refine bI i ?_;first|refine bE (v:=(bp.D _)) ?_|refine ff (v:=(bp.D _)) ?_
  refine aq (hc:=h457 r r.needs[i]! (hp0.2.1 _ (bF ae))) ?_;refine aD ?_;refine fO (fun hc1=>?_) fun hc1=>?_
  .refine c7 ?_;refine bG (aH (aj (D.int .i64) ?_) (aj (D.int .i64) ?_));all_goals
    have hq:eY r=(jh r r.needs[i]!,((i:Nat):Int)):=by
     exact Hy (by rw[hr,ko ae hc1]) hc1
    rw[hq];first|done|rfl
  refine bN ?_;exact⟨i+1,⟨ae,by rw[hr,mb ae hc1]⟩,ae,(du [(0,0)])⟩
 refine aB ?_;have hn0:ml r=(0,0):=by rw[hr,ma ae]
 refine ax ?_;refine ba hm (ι:=Nat) (fun i=>[.un,.un,.un,.un,⟨true,.ptr 0 9 0 0⟩,.un,.un,.un,⟨true,.int .i64 (i:Nat)⟩,.un,.un,.un,.un,.un,.un,.un,.un]) (fun i=>[(0,.buf 9 [Rec.D r])]) 10 (fun i=>i<=r.bars.length/\tQ r=iF (fun i=>pL r r.bars[i]!) i r.bars.length) (fun i=>r.bars.length-i) 0 ⟨ae,rfl⟩ (du [(0,0)]) ?_;rintro i ⟨hi,hr⟩;refine aD ?_;intro u1;refine ax ?_;refine cG (fun hc2=>?_) fun hc2=>?_
 .refine aZ ?_;refine bI i ?_;first|refine bE (v:=(fA.D _)) ?_|refine ff (v:=(fA.D _)) ?_
  refine aq (hc:=h458 r r.bars[i]! (hp0.2.2.1 _ (bF ae))) ?_;refine aD ?_;refine fO (fun hc3=>?_) fun hc3=>?_
  .refine c7 ?_;refine bG (aH (aj (D.int .i64) ?_) (aj (D.int .i64) ?_));all_goals
    have hq:eY r=(pL r r.bars[i]!,((i:Nat):Int)):=by
     exact Bu hn0 (by rw[hr,ko ae hc3]) hc3
    rw[hq];first|done|rfl
  refine bN ?_;exact⟨i+1,⟨ae,by rw[hr,mb ae hc3]⟩,ae,(du [(0,0)])⟩
 refine aB ?_;have hb0:tQ r=(0,0):=by rw[hr,ma ae]
 refine ax ?_;refine aq (hc:=h459 r.feats hp0.2.2.2) ?_;refine ax ?_;refine av (fun hc4=>?_) (fun hc4=>?_)
 .try simp only[dq]at hc4
  refine aD ?_;refine bG (aH (aj (D.int .i64) ?_) (aj (D.int .i64) ?_));all_goals
   have hq:eY r=(11,0):=by
    exact Hz hn0 hb0 hc4
   rw[hq];first|done|rfl
 simp only[bM]at hc4;refine aE ?_;refine ba hm (ι:=Nat) (fun i=>[.un,.un,.un,.un,⟨true,.ptr 0 9 0 0⟩,.un,.un,.un,.un,.un,.un,.un,.un,⟨true,.int .i64 (i:Nat)⟩,.un,.un,.un]) (fun i=>[(0,.buf 9 [Rec.D r])]) 20 (fun i=>i<=r.feats.length/\um r=iF (fun i=>lj r r.feats[i]!.of) i r.feats.length) (fun i=>r.feats.length-i) 0 ⟨ae,rfl⟩ (du [(0,0)]) ?_;rintro i ⟨hi,hr⟩;refine aD ?_;intro u2;refine ax ?_;refine cG (fun hc5=>?_) fun hc5=>?_
 .refine aZ ?_;refine bI i ?_;refine ax ?_;refine aq (hc:=h460 r r.feats[i]!.of (hp0.2.2.2 _ (bF ae)).2.2) ?_;refine aD ?_;refine fO (fun hc6=>?_) fun hc6=>?_
  .refine c7 ?_;refine bG (aH (aj (D.int .i64) ?_) (aj (D.int .i64) ?_));all_goals
    have hq:eY r=(lj r r.feats[i]!.of,((i:Nat):Int)):=by
     exact sc hn0 hb0 hc4 (by rw[hr,ko (f:=(fun i=>lj r r.feats[i]!.of)) ae hc6])
    rw[hq];first|done|rfl
  refine bN ?_;exact⟨i+1,⟨ae,by rw[hr,mb (f:=(fun i=>lj r r.feats[i]!.of)) ae hc6]⟩,ae,(du [(0,0)])⟩
 refine aZ ?_;refine bG (aH (aj (D.int .i64) ?_) (aj (D.int .i64) ?_));all_goals
  have hq:eY r=(0,0):=by
   exact sc hn0 hb0 hc4 (by rw[hr,ma ae])
  rw[hq];first|done|rfl
noncomputable def HS:aC:=cR 62
def w71 {Y:Ctx}(hm:(Y.at 0).b8)(h216:I9 Y)(h217:Ja Y)(h218:C218 Y)(h219:XA Y)(r:Rec)  (hp0:fC r):di Y HS (.tup [.int .i64 (cM r).1,.int .i64 (cM r).2]) [Rec.D r]:=by
 show bK _ _ _ [⟨_,_⟩,_,_,_,_,_,_,_,_,_,_] _;refine ar ?_;refine bN ?_;refine aq (hc:=h216 _) ?_;refine ay ?_;refine wp_cond (fun hc0=>?_) (fun hc0=>?_)
 .try simp only[dq]at hc0
  refine aD ?_;refine bG (aH (aj (D.int .i64) ?_) (aj (D.int .i64) ?_));all_goals (have hq:cM r=(4,0):=(by rw[cM,aw hc0]);rw[hq];first|done|rfl)
 simp only[bM]at hc0;refine ax ?_;refine aT (v:=cq.D r.v) ?_;refine aq (hc:=h217 r.v hp0.1.2) ?_;refine ay ?_;refine wp_cond (fun hc1=>?_) (fun hc1=>?_)
 .try simp only[dq]at hc1
  refine aD ?_;refine bG (aH (aj (D.int .i64) ?_) (aj (D.int .i64) ?_));all_goals (have hq:cM r=(5,0):=(by rw[cM,ak (by simp[hc0]),aw hc1]);rw[hq];first|done|rfl)
 simp only[bM]at hc1;refine aB ?_;intro u0;refine aB ?_;refine iy ?_;refine aB ?_;refine fO (fun hc2=>?_) fun hc2=>?_
 .refine aD ?_;refine bG (aH (aj (D.int .i64) ?_) (aj (D.int .i64) ?_));all_goals (have hq:cM r=(3,0):=(by rw[cM,ak (by simp[hc0]),ak (by simp[hc1]),aw ae]);rw[hq];first|done|rfl)
 refine aE ?_;refine aq (hc:=h218 r hp0) ?_;refine fK ?_;refine av (fun hc3=>?_) (fun hc3=>?_)
 .try simp only[dq]at hc3
  refine bN ?_;refine bG (aH (aj (D.int .i64) ?_) (aj (D.int .i64) ?_));all_goals
   have hq:cM r=eY r:=by
    exact pP hc0 hc1 ae ae rfl hc3
   rw[hq];first|done|rfl
 simp only[bM,aK]at hc3;have hpz:eY r=(0,0):=HA hc3;have hgd:yi r:=⟨⟨hc0,hc1⟩,⟨ae,ae⟩,hpz⟩;refine aB ?_;refine aq (hc:=h219 r ⟨hgd,hp0⟩) ?_;refine aA ?_;intro u1;refine ax ?_;refine cG (fun hc4=>?_) fun hc4=>?_
 .refine aD ?_;refine bG (aH (aj (D.int .i64) ?_) (aj (D.int .i64) ?_));all_goals
   have hq:cM r=(3,0):=by
    rw[rH hc0 hc1 ae ae hpz,aw ae]
   rw[hq];first|done|rfl
 refine aD ?_;refine bG (aH (aj (D.int .i64) ?_) (aj (D.int .i64) ?_));all_goals
  have hq:cM r=(0,0):=by
   rw[rH hc0 hc1 ae ae hpz,ak ae]
  rw[hq];first|done|rfl
noncomputable def oD:aC:=cR 261
def w1031 {Y:Ctx}(hm:(Y.at 2).b8)(k:au)(w:List au)(nd:List Nd)(b:Bool)(h349:Jc (Y.at 2))(h947:N9 (Y.at 2))(h948:QS (Y.at 2))(h950:Yk (Y.at 2))(hp0:nd.length+2*w.length<=1000):bK (Y.at 2) oD.body (j5 oD (yE 3 iW (eC (ow b k w nd) w nd) Va):Ex->List ch->St->Prop) (fF oD [.ptr 0 3 0 0,.str k]) ⟨2,[(0,.buf 3 [iW w (.own 1 5 0 nd.length) b]),(1,.buf 5 (nd.map Nd.D))]⟩:=by
 show bK _ _ _ [⟨true,.ptr 0 3 0 0⟩,⟨true,.str k⟩,.un,.un,.un,.un,.un,.un,.un,.un,.un,.un,.un,.un] ⟨2,[(0,.buf 3 [iW w (.own 1 5 0 nd.length) b]),(1,.buf 5 (nd.map Nd.D))]⟩;refine ar ?_;refine aB ?_;refine cy (nx':=3) (v:=.str (bA w)) (m':=[(0,.buf 3 [iW (bY w) (.own 1 5 0 nd.length) (dR w b)]),(1,.buf 5 (nd.map Nd.D))]) (hc:=fun K' hK=>h947 w nd b _ 0 1 _ K' ah ah cd cd (fun o ho=>by subst ho;exact hK)) (hn:=aF) ?_;refine aA ?_;refine cy (nx':=3) (v:=.str (bA (bY w))) (m':=[(0,.buf 3 [iW (bY (bY w)) (.own 1 5 0 nd.length) (dR (bY w) (dR w b))]),(1,.buf 5 (nd.map Nd.D))]) (hc:=fun K' hK=>h947 (bY w) nd (dR w b) _ 0 1 _ K' ah ah cd cd (fun o ho=>by subst ho;exact hK)) (hn:=aF) ?_;refine aE ?_;refine aq (hc:=h950) ?_;refine aA ?_;intro u0;refine ax ?_;refine ba hm (ι:=Nat) (fun i=>[⟨true,.ptr 0 3 0 0⟩,⟨true,.str k⟩,.un,⟨true,.int .i64 (i:Nat)⟩,⟨true,.int .i64 3⟩,.un,⟨true,.sl 1 (r5.map D.str)⟩,.un,⟨true,.str (bA w)⟩,⟨true,.str (bA (bY w))⟩,.un,.un,.un,.un]) (fun i=>[(0,.buf 3 [iW (bY (bY w)) (.own 1 5 0 nd.length) (dR (bY w) (dR w b))]),(1,.buf 5 (nd.map Nd.D))]) 12 (fun i=>i<=3/\∀j,j<i->JB j k (bA w) (bA (bY w)) (dR (bY w) (dR w b))=false) (fun i=>3-i) 0 ⟨ae,fun j hj=>ae⟩ (a7.to [] ah ah ei (by refine eN ?_;refine eN ?_;exact bo.nil)) ?_;rintro i ⟨hi,hr⟩;refine ay ?_;refine cG (fun hc0=>?_) fun hc0=>?_
 .refine aB ?_;refine bI i (hb:=fun _=>by show _<3;omega) ?_;refine bE (q:=D.str) (xs:=r5) (i:=i) (k:=1) (o:=0) (hi:=fun _=>by show i<3;omega) (v:=(.str r5[i]!)) ?_;refine zzz24 ?_;refine aq (hc:=h349 _) ?_;refine ay ?_;refine av (fun hc1=>?_) (fun hc1=>?_)
  .have hno:JB i k (bA w) (bA (bY w)) (dR (bY w) (dR w b))=false:=aj (!·) hc1;refine aZ ?_;exact⟨i+1,⟨ae,fun j hj=>by rcases iq j i with h|h;exact hr j h;obtain rfl:j=i:=ae;exact hno⟩,ae,(a7.to [] ah ah ei (by refine eN ?_;refine eN ?_;exact bo.nil))⟩
  have hyes:JB i k (bA w) (bA (bY w)) (dR (bY w) (dR w b))=true:=aj (!·) hc1;obtain⟨ha,hk,tJ⟩:=RY (nd:=nd) (w:=w) (b:=b) (show i<3 by omega) hyes;have hap:=K7 w nd;have hl1:=hap.1;refine aE ?_;refine bg (Nd.D ⟨1,0,0,(i:Nat),(bA (bY w))⟩) ?_;refine cy (nx':=41) (v:=.int .i64 (nd.length:Nat)) (m':=[(44,.buf 5 ((nd++[(⟨1,0,0,(i:Nat),(bA (bY w))⟩:Nd)]).map Nd.D)),(0,.buf 3 [iW (bY (bY w)) (.own 44 5 0 (nd++[(⟨1,0,0,(i:Nat),(bA (bY w))⟩:Nd)]).length) (dR (bY w) (dR w b))])]) (hc:=fun K' hK=>h948 ⟨1,0,0,(i:Nat),(bA (bY w))⟩ (bY (bY w)) nd (dR (bY w) (dR w b)) ae _ 0 1 _ K' ah ah cd cd (fun o ho=>by subst ho;exact hK)) (hn:=aF) ?_;refine aZ ?_;refine av (fun hc2=>?_) (fun hc2=>?_)
  .simp only[aK]at hc2;have hat:ow b k w nd=some ((((nd++[(⟨1,0,0,(i:Nat),(bA (bY w))⟩:Nd)]).length:Nat):Int),(bY (bY w)),((nd++[(⟨1,0,0,(i:Nat),(bA (bY w))⟩:Nd)])++[(⟨2,(nd.length:Nat),0,0,[]⟩:Nd)])):=by rw[ha];simp only[xW,hk,aw hc2]
   refine ay ?_;refine bg (Nd.D ⟨2,(nd.length:Nat),0,0,[]⟩) ?_;refine cy (nx':=50) (v:=.int .i64 ((nd++[(⟨1,0,0,(i:Nat),(bA (bY w))⟩:Nd)]).length:Nat)) (m':=[(52,.buf 5 (((nd++[(⟨1,0,0,(i:Nat),(bA (bY w))⟩:Nd)])++[(⟨2,(nd.length:Nat),0,0,[]⟩:Nd)]).map Nd.D)),(0,.buf 3 [iW (bY (bY w)) (.own 52 5 0 ((nd++[(⟨1,0,0,(i:Nat),(bA (bY w))⟩:Nd)])++[(⟨2,(nd.length:Nat),0,0,[]⟩:Nd)]).length) (dR (bY w) (dR w b))])]) (hc:=fun K' hK=>h948 ⟨2,(nd.length:Nat),0,0,[]⟩ (bY (bY w)) (nd++[(⟨1,0,0,(i:Nat),(bA (bY w))⟩:Nd)]) (dR (bY w) (dR w b)) cZ _ 0 44 _ K' ah ah cd cd (fun o ho=>by subst ho;exact hK)) (hn:=aF) ?_;refine c7 ?_;refine bP trivial eh (bS ah (aj (D.int .i64) ?_)) ah ⟨⟨((nd++[(⟨1,0,0,(i:Nat),(bA (bY w))⟩:Nd)]).length:Nat),(bY (bY w)),((nd++[(⟨1,0,0,(i:Nat),(bA (bY w))⟩:Nd)])++[(⟨2,(nd.length:Nat),0,0,[]⟩:Nd)]),(dR (bY w) (dR w b))⟩,52,aF,⟨.inl ⟨hat,tJ⟩,Ar hat⟩,rfl,rfl,rfl⟩;rfl
  simp only[bc]at hc2;have hat:ow b k w nd=some (((nd.length:Nat):Int),(bY (bY w)),(nd++[(⟨1,0,0,(i:Nat),(bA (bY w))⟩:Nd)])):=by rw[ha];simp only[xW,hk,ak hc2]
  refine bN ?_;refine bP trivial eh (bS ah (aj (D.int .i64) ?_)) ah ⟨⟨(nd.length:Nat),(bY (bY w)),(nd++[(⟨1,0,0,(i:Nat),(bA (bY w))⟩:Nd)]),(dR (bY w) (dR w b))⟩,44,aF,⟨.inl ⟨hat,tJ⟩,Ar hat⟩,rfl,rfl,rfl⟩;rfl
 refine ax ?_;have hn:ow b k w nd=none:=Vv (fun j hj=>hr j ae);refine ik (a7.to (env':=[⟨true,.ptr 0 3 0 0⟩,.un,.un,.un,.un,.un,.un,.un,.un,.un,.un,.un,.un,.un]) (c:=90) (nx':=90) (m':=[(0,.buf 3 [iW (bY (bY w)) (.own 2 5 0 nd.length) (dR (bY w) (dR w b))]),(2,.buf 5 (nd.map Nd.D))]) [(1,2)] rfl ah ei (by refine bo.Gc ah ah ah ?_;refine bo.nl 1 ah ah rfl (by exact br (fun _=>rfl) _) ?_;exact bo.nil)) ?_;refine aB ?_;refine aI (iW (bY (bY w)) (.own 2 5 0 nd.length) true) (he:=aQ) ?_;refine aE ?_;refine bP trivial eh (bS ah (aj (D.int .i64) ?_)) ah ⟨⟨0,(bY (bY w)),nd,true⟩,2,aF,⟨.inr ⟨hn,rfl⟩,K7 w nd⟩,rfl,rfl,rfl⟩;rfl
noncomputable def TD:aC:=cR 130
def w676 {Y:Ctx}(hm:(Y.at 0).b8)(h217:Ja Y)(c:dI)  (hp0:c.v.sm):di Y TD (.bool (nN c)) [dI.D c]:=by
 show bK _ _ _ [⟨_,_⟩,_,_,_,_,_,_,_] _;refine ar ?_;refine Cn ?_;refine aT (v:=cq.D c.v) ?_;refine c9 (hc:=fun hf=>h217 c.v hp0) ?_;refine c7 ?_;refine av (fun hc0=>?_) (fun hc0=>?_)
 .have hq:=Gz hc0;refine aE ?_;refine bV ?_;rw[hq]
 have hy:=Da hc0;refine fK ?_;refine av (fun hc1=>?_) (fun hc1=>?_)
 .simp only[aK]at hc1;have hz:=sY hy (lo:=0) (hi:=2) (aw hc1) (aw hc1);refine Ur ?_;refine av (fun hc2=>?_) (fun hc2=>?_)
  .rw[hc2]at hz;refine aE ?_;refine bV ?_;rw[hz];rfl
  rw[hc2]at hz;refine Xw ?_;refine bV ?_;rw[hz];rfl
 simp only[bc]at hc1;have hz:=sY hy (lo:=1) (hi:=3) (ak hc1) (ak hc1);refine Xv ?_;refine av (fun hc2=>?_) (fun hc2=>?_)
 .rw[hc2]at hz;refine aE ?_;refine bV ?_;rw[hz];rfl
 rw[hc2]at hz;refine Xw ?_;refine bV ?_;rw[hz];rfl
noncomputable def Rq:aC:=cR 237
def w827 {Y:Ctx}(hm:(Y.at 0).b8)(h209:I8 Y)(c:dI)  (hp0:c.v.sm):di Y Rq (.bool (nN c)) [dI.D c]:=by
 show bK _ _ _ [⟨_,_⟩,_,_,_,_,_,_,_,_,_,_,_,_,_] _;refine ar ?_;refine Cn ?_;refine aT (v:=cq.D c.v) ?_;refine c9 (hc:=fun hf=>h209 c.v hp0) ?_;refine c7 ?_;refine av (fun hc0=>?_) (fun hc0=>?_)
 .have hq:=Gz hc0;refine aE ?_;refine bV ?_;rw[hq]
 have hy:=Da hc0;refine fK ?_;refine av (fun hc1=>?_) (fun hc1=>?_)
 .simp only[aK]at hc1;have hz:=sY hy (lo:=0) (hi:=2) (aw hc1) (aw hc1);refine Ur ?_;refine av (fun hc2=>?_) (fun hc2=>?_)
  .rw[Bool.and_comm (!decide (c.v.pre=[]))]at hc2;rw[hc2]at hz;refine aE ?_;refine bV ?_;rw[hz];simp[ri]<;>simp_all<;>omega
  rw[Bool.and_comm (!decide (c.v.pre=[]))]at hc2;rw[hc2]at hz;refine Co ?_;refine cG (fun hc3=>?_) fun hc3=>?_
  .refine bN ?_;refine fO (fun hc6=>?_) fun hc6=>?_
   .refine aZ ?_;refine bV ?_;rw[hz];simp[ri]<;>simp_all<;>omega
   refine bN ?_;refine fO (fun hc7=>?_) fun hc7=>?_
   .refine aD ?_;refine bV ?_;rw[hz];simp[ri]<;>simp_all<;>omega
   refine gD ?_;refine bV ?_;rw[hz];simp[ri]<;>simp_all<;>omega
  refine aZ ?_;refine cG (fun hc4=>?_) fun hc4=>?_
  .refine c7 ?_;refine fO (fun hc7=>?_) fun hc7=>?_
   .refine aD ?_;refine bV ?_;rw[hz];simp[ri]<;>simp_all<;>omega
   refine gD ?_;refine bV ?_;rw[hz];simp[ri]<;>simp_all<;>omega
  refine aD ?_;refine cG (fun hc5=>?_) fun hc5=>?_
  .refine sQ ?_;refine bV ?_;rw[hz];simp[ri]<;>simp_all<;>omega
  refine fU ?_;refine bV ?_;rw[hz];simp[ri]<;>simp_all<;>omega
 simp only[bc]at hc1;have hz:=sY hy (lo:=1) (hi:=3) (ak hc1) (ak hc1);refine Xv ?_;refine av (fun hc2=>?_) (fun hc2=>?_)
 .rw[Bool.and_comm (!decide (c.v.pre=[]))]at hc2;rw[hc2]at hz;refine aE ?_;refine bV ?_;rw[hz];simp[ri]<;>simp_all<;>omega
 rw[Bool.and_comm (!decide (c.v.pre=[]))]at hc2;rw[hc2]at hz;refine Co ?_;refine cG (fun hc3=>?_) fun hc3=>?_
 .refine bN ?_;refine fO (fun hc6=>?_) fun hc6=>?_
  .refine aZ ?_;refine bV ?_;rw[hz];simp[ri]<;>simp_all<;>omega
  refine bN ?_;refine fO (fun hc7=>?_) fun hc7=>?_
  .refine aD ?_;refine bV ?_;rw[hz];simp[ri]<;>simp_all<;>omega
  refine gD ?_;refine bV ?_;rw[hz];simp[ri]<;>simp_all<;>omega
 refine aZ ?_;refine cG (fun hc4=>?_) fun hc4=>?_
 .refine c7 ?_;refine fO (fun hc7=>?_) fun hc7=>?_
  .refine aD ?_;refine bV ?_;rw[hz];simp[ri]<;>simp_all<;>omega
  refine gD ?_;refine bV ?_;rw[hz];simp[ri]<;>simp_all<;>omega
 refine aD ?_;refine cG (fun hc5=>?_) fun hc5=>?_
 .refine sQ ?_;refine bV ?_;rw[hz];simp[ri]<;>simp_all<;>omega
 refine fU ?_;refine bV ?_;rw[hz];simp[ri]<;>simp_all<;>omega
noncomputable def Jp:aC:=cR 238
def w828 (h665:X8 Y)(h827:UH Y)(h957:Yo Y)(c:dI)  (hp0:c.v.sm):di Y Jp (.str (ep c)) [dI.D c]:=by
 show bK _ _ _ [⟨_,_⟩,_,_,_,_,_,_,_,_,_,_,_,_,_,_,_] _;refine ar ?_;refine aD ?_;refine aq (hc:=h827 _ ?_) ?_;rotate_left;first|assumption|omega
 refine ax ?_;refine av (fun hc0=>?_) (fun hc0=>?_)
 .simp only[bd]at hc0;refine aE ?_;refine dc ?_;simp[ep,hc0]
 simp only[bM]at hc0;obtain⟨hv,hp1,hp2,hp3,hp4⟩:=pQ hc0;have hsl:=xF c.op;have hnl:=tq hv;refine aB ?_;refine aq (hc:=h957 _) ?_;refine lX ?_;refine dh [(.int _ _),(.int _ _),(.int _ _)] ?_;refine aA ?_;intro u0;refine ax ?_;refine eI 18 ?_;refine ba hm (ι:=Nat) (fun i=>[.un,.un,⟨true,.ptr 0 7 0 0⟩,.un,⟨true,.int .i64 (i:Nat)⟩,⟨true,.int .i64 3⟩,.un,⟨true,.sl 1 (c.nB.map (D.int .i64))⟩,.un,.un,.un,⟨true,.str (dQ c.op++gQ c i)⟩,.un,.un,.un,.un]) (fun i=>[(0,.buf 7 [dI.D c])]) 21 (fun i=>i<=3/\i<=c.parts.toNat) (fun i=>3-i) 0 ⟨ae,ae⟩ (a7.to [(0,0)] ah ah (by repeat(first|exact dr.nil|refine dr.un ?_|refine dr.eq ah ?_|refine dr.nl (aj D.str (by first|(simp only[gQ,aw hpos,ey];done)|(simp only[gQ,ak hpos,ey,fg];done)|simp[gQ])) ah ?_|refine dr.nl ah ah ?_)) qd) ?_;rintro i ⟨hi,hip⟩;have hni:=hnl i;have hfit:=sa hv i;have hn3:c.nB.length=3:=rfl;refine ay ?_;refine cG (fun hc1=>?_) fun hc1=>?_
 .refine Co ?_;refine cG (fun hc2=>?_) fun hc2=>?_
  .refine aE ?_;obtain rfl:i=c.parts.toNat:=ae;refine aB ?_;refine cG (fun hc4=>?_) fun hc4=>?_
   .refine aZ ?_;refine cG (fun hc5=>?_) fun hc5=>?_
    .refine ax ?_;refine fH ?_;refine aE ?_;refine fH ?_;refine ay ?_;refine dc ?_;simp[ep,mR,lV,hc0, *]
    refine aB ?_;refine fH ?_;refine ay ?_;refine dc ?_;simp[ep,mR,lV,hc0, *]
   refine bN ?_;refine cG (fun hc6=>?_) fun hc6=>?_
   .refine aA ?_;have hpl:=hp0.1;refine aB ?_;refine fH ?_;refine fH ?_;refine aZ ?_;refine dc ?_;simp[ep,mR,lV,hc0, *]
   refine aD ?_;refine dc ?_;simp[ep,mR,lV,hc0, *]
  refine aD ?_;refine av (fun hc3=>?_) (fun hc3=>?_)
  .simp only[aK]at hc3;have hpos:0<i:=ae;refine ax ?_;refine fH ?_;refine aE ?_;refine aq (hc:=h665 (c.nB[i]!) ⟨hfit.1,hfit.2⟩) ?_;have hdl:=eK 4 (c.nB[i]!).toNat ae ae;refine fH ?_;refine bN ?_;exact⟨i+1,⟨ae,ae⟩,ae,(a7.to [(0,0)] ah ah (by repeat(first|exact dr.nil|refine dr.un ?_|refine dr.eq ah ?_|refine dr.nl (aj D.str (by first|(simp only[gQ,aw hpos,ey];done)|(simp only[gQ,ak hpos,ey,fg];done)|simp[gQ])) ah ?_|refine dr.nl ah ah ?_)) qd)⟩
  simp only[bc]at hc3;have hpos:¬0<i:=ae;refine aB ?_;refine aq (hc:=h665 (c.nB[i]!) ⟨hfit.1,hfit.2⟩) ?_;have hdl:=eK 4 (c.nB[i]!).toNat ae ae;refine fH ?_;refine bN ?_;exact⟨i+1,⟨ae,ae⟩,ae,(a7.to [(0,0)] ah ah (by repeat(first|exact dr.nil|refine dr.un ?_|refine dr.eq ah ?_|refine dr.nl (aj D.str (by first|(simp only[gQ,aw hpos,ey];done)|(simp only[gQ,ak hpos,ey,fg];done)|simp[gQ])) ah ?_|refine dr.nl ah ah ?_)) qd)⟩
 refine aB ?_;obtain rfl:i=c.parts.toNat:=ae;refine aB ?_;refine cG (fun hc4=>?_) fun hc4=>?_
 .refine aZ ?_;refine cG (fun hc5=>?_) fun hc5=>?_
  .refine ax ?_;refine fH ?_;refine aE ?_;refine fH ?_;refine ay ?_;refine dc ?_;simp[ep,mR,lV,hc0, *]
  refine aB ?_;refine fH ?_;refine ay ?_;refine dc ?_;simp[ep,mR,lV,hc0, *]
 refine bN ?_;refine cG (fun hc6=>?_) fun hc6=>?_
 .refine aA ?_;have hpl:=hp0.1;refine aB ?_;refine fH ?_;refine fH ?_;refine aZ ?_;refine dc ?_;simp[ep,mR,lV,hc0, *]
 refine aD ?_;refine dc ?_;simp[ep,mR,lV,hc0, *]
noncomputable def Fx:aC:=cR 22
def w72 {Y:Ctx}(hm:(Y.at 0).b8)(h70:C70 Y)(h215:Xz Y)(r:Rec)  (hp0:fC r):di Y Fx (.tup [.str (dw r).1,.int .i64 (dw r).2]) [Rec.D r]:=by
 show bK _ _ _ [⟨_,_⟩,_,_,_,_,_] _;refine ar ?_;refine aZ ?_;refine aq (hc:=h70 r hp0) ?_;refine fK ?_;refine cG (fun hc0=>?_) fun hc0=>?_
 .refine aZ ?_;refine bG (aH (aj D.str ?_) (aj (D.int .i64) ?_));all_goals
   simp[dw,hc0]
 refine ax ?_;have hgd:=pe hc0;refine aA ?_;refine aq (hc:=h215 r ⟨hgd,hp0⟩) ?_;refine aB ?_;refine bG (aH (aj D.str ?_) (aj (D.int .i64) ?_));all_goals
  simp[dw,hc0]
noncomputable def J6:aC:=cR 46
def w74 {Y:Ctx}(hm:(Y.at 0).b8)(h72:C72 Y)(h220:C220 Y)(r:Rec)  (hp0:fC r):di Y J6 (.tup [.int .u64 (m9 r),.int .i64 (dw r).2]) [Rec.D r]:=by
 show bK _ _ _ [⟨_,_⟩,_,_,_,_,_,_] _;refine ar ?_;refine aD ?_;refine aq (hc:=h72 r hp0) ?_;refine fK ?_;refine cG (fun hc0=>?_) fun hc0=>?_
 .refine aZ ?_;refine bG (aH (aj (D.int .u64) ?_) (aj (D.int .i64) ?_));all_goals
   simp[m9,hc0]
 refine aB ?_;refine aq (hc:=h220 (dw r).1) (ha:=fun _=>aj (fun d=>[d]) (pB (q:=fun b:UInt8=>D.int .u8 b.toNat) (fun _=>rfl) ah)) (hp:=fun _=>⟨nj (q:=fun b:UInt8=>D.int .u8 b.toNat) (fun _=>rfl) ah,trivial⟩) ?_;refine aB ?_;refine bG (aH (aj (D.int .u64) ?_) (aj (D.int .i64) ?_));all_goals
  simp[m9,hc0]
noncomputable def xA:aC:=cR 131
def w677 {Y:Ctx}(hm:(Y.at 0).b8)(c:dI)(h734:Yf Y)(hp0:e8 c.v=true/\0<=c.parts/\c.parts<=3):bK (Y.at 0) xA.body (j5 xA (One (.own 14 1 0 c.parts.toNat) [(0,.buf 7 [dI.D c]),(14,.buf 1 [.str (dJ c.v.major.toNat),.str (dJ c.v.minor.toNat),.str (dJ c.v.patch.toNat)])]):Ex->List ch->St->Prop) (fF xA [dI.D c]) ⟨0,[]⟩:=by
 show bK _ _ _ [⟨_,_⟩,_,_,_] _;refine ar ?_;refine aZ ?_;refine aq (hc:=h734 c.v.major (sa hp0.1 0)) ?_;refine ay ?_;refine aq (hc:=h734 c.v.minor (sa hp0.1 1)) ?_;refine ay ?_;refine aq (hc:=h734 c.v.patch (sa hp0.1 2)) ?_;refine dh [.str _,.str _,.str _] ?_;refine aD ?_;refine vX c.parts.toNat (hj:=fun _=>ae) (hb:=fun _=>ae) ?_;refine ay ?_;refine bP trivial eh (bS ah (?_)) ah (oneq _ _);rfl
end Go.Abs
