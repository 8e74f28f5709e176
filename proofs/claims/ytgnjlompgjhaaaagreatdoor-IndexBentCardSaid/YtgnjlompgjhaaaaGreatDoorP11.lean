/- A part of the proofs. -/
import Derived.Test.YtgnjlompgjhaaaaGreatDoorP10
set_option linter.all false
set_option maxRecDepth 60000
namespace Go.Abs
variable {Y:Ctx}(hm:(Y.at 0).b7)
noncomputable def OI:aC:=cP 51
def w229 (h228:IH Y)(h231:W8 Y)(h479:Ua Y)(h480:C480 Y)(h481:Xo Y)(l:List Int)(i:Int)(own:Int)  (hp0:0<=i/\i<=2000000)(hp1:0<=own/\own<=1000000):dh Y OI (bp.D (ic l i own)) [.sl 1 (l.map (D.int .i64)),.int .i64 i,.int .i64 own]:=by
 show bJ _ _ _ [⟨_,_⟩,⟨_,_⟩,⟨_,_⟩,_,_,_,_,_,_,_] _;refine ar ?_;refine gu ?_;refine aq (hc:=h228 l (i) 5 aF) ?_;refine ax ?_;refine sw hm (ι:=Unit) (fun _=>[⟨true,.sl 1 (l.map (D.int .i64))⟩,⟨true,.int .i64 i⟩,⟨true,.int .i64 own⟩,⟨true,.ptr 0 3 0 0⟩,.un,.un,⟨true,.int .i64 (fZ l i:Nat)⟩,.un,⟨true,.ptr 1 3 0 0⟩,.un]) (fun _=>[(0,.buf 3 [.agg [.bq,.str [],.str []]]),(1,.buf 3 [.agg [.bq,.str [],.str []]])]) 20 (fun _=>True) ?_ ?_
 .refine fM (fun hc0=>?_) fun hc0=>?_
  .refine aB ?_;have hmn:((fZ l i:Nat):Int)=2:=by simp[fZ,hc0]
   exact⟨(),trivial,(a7.to [(0,0),(1,1)] ah ah (by repeat(first|exact dp.nil|refine dp.un ?_|refine dp.eq ah ?_|refine dp.nl (aj (D.int .i64) hmn) ah ?_)) pT)⟩
  refine ax ?_;have hmn:((fZ l i:Nat):Int)=1:=by simp[fZ,hc0]
  exact⟨(),trivial,(a7.to [(0,0),(1,1)] ah ah (by repeat(first|exact dp.nil|refine dp.un ?_|refine dp.eq ah ?_|refine dp.nl (aj (D.int .i64) hmn) ah ?_)) pT)⟩
 .rintro _-
  have hml:=Av l i;refine aB ?_;refine ba hm (ι:=(Nat×List bS)) (fun p=>[⟨true,.sl 1 (l.map (D.int .i64))⟩,⟨true,.int .i64 i⟩,⟨true,.int .i64 own⟩,⟨true,.ptr 0 3 0 0⟩,.un,⟨true,.int .i64 (p.1:Nat)⟩,⟨true,.int .i64 (fZ l i:Nat)⟩,.un,⟨true,.ptr 1 3 0 0⟩,.un]) (fun p=>[(0,.buf 3 [.agg [.bq,.str [],.str []]]),(1,.buf 3 [(.agg [.own 2 4 0 p.2.length,.str [],.str []])]),(2,.buf 4 (p.2.map bS.D))]) 40 (fun p=>p.1<=fZ l i/\p.2=tV l i own p.1) (fun p=>fZ l i-p.1) (0,[]) ⟨dE,rfl⟩ (a7.to [(0,0),(1,1)] ah ah lF (by refine eM ?_;refine bo.ni 1 ah ah (by exact⟨_,_,rfl,⟨_,rfl,⟨_,_,rfl,Or.inr ⟨_,_,_,rfl⟩,⟨_,_,rfl,⟨rfl,rfl⟩,⟨_,_,rfl,⟨rfl,rfl⟩,rfl⟩⟩⟩⟩,rfl⟩) ?_;refine bo.mt ah ah ah ah ?_;exact bo.nil)) ?_;rintro⟨k,ws⟩ ⟨hk,hw⟩;dsimp only at hk hw⊢;have hwl:ws.length=k:=by rw[hw];simp[tV]
  refine aD ?_;refine av (fun hc1=>?_) (fun hc1=>?_)
  .try simp only[dn]at hc1
   refine cZ ?_;refine nG ?_;refine aB ?_;refine aq (hc:=h480 l (i+1+6*(k:Nat)) own (decide ((fZ l i:Int)=1)) ae hp1) ?_;refine df [bS.D (mG l (i+1+6*(k:Nat)) own (decide ((fZ l i:Int)=1)))] ?_;refine gL (q:=bS.D) (xs:=ws) (e:=mG l (i+1+6*(k:Nat)) own (decide ((fZ l i:Int)=1))) ?_;refine aA ?_;refine aI (.agg [.own 56 4 0 (ws++[mG l (i+1+6*(k:Nat)) own (decide ((fZ l i:Int)=1))]).length,.str [],.str []]) (he:=aQ) ?_;refine bL ?_;exact⟨(k+1,ws++[mG l (i+1+6*(k:Nat)) own (decide ((fZ l i:Int)=1))]),⟨dE,by dsimp only;rw[Oo,hw]⟩,dE,(a7.to [(0,0),(1,1),(56,2)] ah ah lF (by refine eM ?_;refine bo.FJ ah ah ah ?_;refine bo.nl 56 ah ah rfl (br (fun _=>rfl) _) ?_;exact bo.nil))⟩
  simp only[bc]at hc1;obtain rfl:k=fZ l i:=ae;refine aD ?_;refine aq (hc:=h231 l (i+14) ae) ?_;refine aA ?_;refine aI (.agg [.own 2 4 0 ws.length,.str (mF l (i+14)),.str []]) (he:=aQ) ?_;refine aD ?_;refine aq (hc:=h228 l (i+16) 4 aF) ?_;refine ax ?_;refine cF (fun hc2=>?_) fun hc2=>?_
  .refine aB ?_;refine aq (hc:=h479 l (i+17)) ?_;refine aq (hc:=h481 _) ?_;refine aA ?_;refine aI (.agg [.own 2 4 0 ws.length,.str (mF l (i+14)),.str (mH (kI l (i+17)))]) (he:=aQ) ?_;refine aA ?_;refine eH 2 ?_;refine aA ?_;refine cz (d:=(.agg [.sl 4 (ws.map bS.D),.str (mF l (i+14)),.str (mH (kI l (i+17)))])) ?_;refine aI (.agg [.sl 4 (ws.map bS.D),.str (mF l (i+14)),.str (mH (kI l (i+17)))]) (he:=aQ) ?_;refine ax ?_;refine bF (?_);simp only[bp.D,ic];rw[aw hc2,<-hw];rfl
  refine aA ?_;refine eH 2 ?_;refine aA ?_;refine cz (d:=(.agg [.sl 4 (ws.map bS.D),.str (mF l (i+14)),.str []])) ?_;refine aI (.agg [.sl 4 (ws.map bS.D),.str (mF l (i+14)),.str []]) (he:=aQ) ?_;refine ax ?_;refine bF (?_);simp only[bp.D,ic];rw[ak hc2,<-hw];rfl
def Mj (T:List D->D->Prop):Prop:=∀(l:List Int) (i:Int) (own:Int),(0<=i/\i<=2000000)->(0<=own/\own<=1000000)->T [.sl 1 (l.map (D.int .i64)),.int .i64 i,.int .i64 own] (bp.D (ic l i own))
def ZU (Y:Ctx):Prop:=Mj (bx Y 229)
noncomputable def RM:aC:=cP 92
def w483  (l:List au)(s:au)  (hp0:l.length<=1000):dh Y RM (.sl 1 ((gW l s).map D.str)) [.sl 1 (l.map D.str),.str s]:=by
 show bJ _ _ _ [⟨_,_⟩,⟨_,_⟩,_,_,_,_] _;refine ar ?_;refine aE ?_;refine ba hm (ι:=Nat) (fun i=>[⟨true,.sl 1 (l.map D.str)⟩,⟨true,.str s⟩,.un,⟨true,.int .i64 (i:Nat)⟩,.un,.un]) (fun i=>[]) 2 (fun i=>i<=l9 s l) (fun i=>l.length-i) 0 (Nat.zero_le _) (dr []) ?_;rintro i hi;have hpl:=EW s l;refine aE ?_;intro u0;refine aB ?_;refine bH i ?_;refine bD (v:=.str l[i]!) ?_;refine aB ?_;refine av (fun hc0=>?_) (fun hc0=>?_)
 .simp only[bB,aK]at hc0;have hip:i+1<=l9 s l:=by
   by_cases he:i=l9 s l
   .have h1:=wX s l ae;rw[<-he,hc0.2]at h1;cases h1
   .omega
  refine cZ ?_;exact⟨i+1,ae,ae,(dr [])⟩
 simp only[dy,bc]at hc0;obtain rfl:i=l9 s l:=by
  by_cases he:i<l9 s l
  .have h1:=EX s l i he;rcases hc0 with h|h
   .omega
   .rw[h1]at h;cases h
  .omega
 refine aZ ?_;intro u1;refine aB ?_;refine bH (l9 s l) ?_;refine bD (v:=.str l[l9 s l]!) ?_;refine aB ?_;refine cF (fun hc1=>?_) fun hc1=>?_
 .refine aD ?_;refine bF (?_);rw[gW,aw ⟨ae,hc1.2⟩];rfl
 refine aB ?_;refine oq (l9 s l) ?_;refine LF (he:=sA.sl) (n:=(l.take (l9 s l)).length) (hn:=aJ) (hb:=by simp only[er];omega) ?_;refine aA ?_;refine df [.str s] ?_;refine gL (q:=D.str) (xs:=l.take (l9 s l)) (e:=s) (hb:=by simp only[er];omega) ?_;refine ax ?_;refine rZ (l9 s l) ?_;refine SP (xs:=l.take (l9 s l)++[s]) (ys:=l.drop (l9 s l)) (he:=sA.sl) (hb:=by simp only[bP,er,jO,aP,a8];omega) ?_;refine ax ?_;refine eH 36 ?_;refine aA ?_;refine bF (?_);rw[gW,ak (by rintro⟨h1,h2⟩;rcases hc1 with h|h;omega;exact h h2)];rfl
def MY (T:List D->D->Prop):Prop:=∀(l:List au) (s:au),(l.length<=1000)->T [.sl 1 (l.map D.str),.str s] (.sl 1 ((gW l s).map D.str))
def C483 (Y:Ctx):Prop:=MY (bx Y 483)
noncomputable def Cg:aC:=cP 54
def w232 (h478:NG Y)(h479:Ua Y)(h483:C483 Y)(l:List Int)(i:Int)(r:Rec)  (hp0:0<=i/\i<=2000000)(hp1:∀j:Nat,j<r.needs.length->r.needs[j]!.option.length<=100/\(r.needs[j]!.any.length=1->r.needs[j]!.any[0]!.name.length<=100)):dh Y Cg (.sl 2 ((j8 l i r).map bZ.D)) [.sl 1 (l.map (D.int .i64)),.int .i64 i,Rec.D r]:=by
 show bJ _ _ _ [⟨_,_⟩,⟨_,_⟩,⟨_,_⟩,_,_,_,_,_,_,_,_,_,_,_,_,_,_,_] _;refine ar ?_;refine aZ ?_;refine de (nE.map D.str) ?_;refine aA ?_;refine aI (.agg (nE.map D.str)) (he:=aQ) ?_;refine aE ?_;refine ba hm (ι:=(Nat×List bZ)) (fun p=>[⟨true,.sl 1 (l.map (D.int .i64))⟩,⟨true,.int .i64 i⟩,.un,.un,⟨true,.int .i64 (p.1:Nat)⟩,.un,.un,.un,⟨true,.ptr 4 4 0 0⟩,.un,⟨true,.ptr 0 9 0 0⟩,.un,.un,.un,.un,.un,.un,⟨true,.own 1 2 0 p.2.length⟩]) (fun p=>[(0,.buf 9 [Rec.D r]),(4,.buf 4 [.agg (nE.map D.str)]),(1,.buf 2 (p.2.map bZ.D))]) 30 (fun p=>p.1<=4/\p.2=Rk l i r p.1) (fun p=>4-p.1) (0,[]) ⟨dE,rfl⟩ (a7.to [(0,0),(4,4)] ah ah (by repeat(first|exact dp.nil|refine dp.un ?_|refine dp.eq ah ?_|refine dp.ni (Or.inr ⟨_,_,_,rfl⟩) ?_)) (by refine bo.fW ah ah eK ?_;refine bo.fW ah ah eK ?_;refine bo.mt ah ah ah ah ?_;exact bo.nil)) ?_;rintro⟨k,fs⟩ ⟨hk,hf⟩;dsimp only at hk hf⊢;have hfl:fs.length<=k:=by
  rw[hf];unfold Rk;exact dm (List.length_filterMap_le _ _) aJ
 refine aE ?_;refine av (fun hc0=>?_) (fun hc0=>?_)
 .try simp only[dn]at hc0
  refine aZ ?_;refine aq (hc:=h479 l (i+(k:Nat))) ?_;refine aE ?_;refine aq (hc:=h478 _ 3 aF) ?_;refine ax ?_;refine cF (fun hc1=>?_) fun hc1=>?_
  .refine bL ?_;exact⟨(k+1,fs),⟨dE,by dsimp only;rw[hf,Yu hc1]⟩,dE,(a7.to [(0,0),(4,4),(1,1)] ah ah lF (by refine bo.fW ah ah eK ?_;refine bo.fW ah ah eK ?_;refine bo.fW ah ah eK ?_;exact bo.nil))⟩
  refine ay ?_;refine rX k (hb:=fun _=>ae) ?_;refine aT (v:=.str nE[k]!) (hv:=fun _=>Jn nE (by show _<4;omega) rfl) (ho:=ae) ?_;refine bg (.agg [.str nE[k]!,.bq]) ?_;refine aA ?_;refine aI (.agg [.str nE[k]!,.bq]) (he:=aQ) ?_;refine aA ?_;refine kF [(0,.buf 9 [Rec.D r]),(4,.buf 4 [.agg (nE.map D.str)]),(1,.buf 2 (fs.map bZ.D)),(45,.buf 2 [(.agg [.str nE[k]!,.sl 1 ((([]:List au)).map D.str)])])] (.id ah (.id ah (.id ah (.bf ah (.cons (.ag (.cons (.refl _) (.cons (.nil 1) .nil))) .nil) .nil)))) ?_;refine aB ?_;refine ba hm (ι:=(Nat×List au)) (fun p=>[⟨true,.sl 1 (l.map (D.int .i64))⟩,⟨true,.int .i64 i⟩,.un,.un,⟨true,.int .i64 (k:Nat)⟩,.un,⟨true,.int .i64 (kI l (i+(k:Nat)))⟩,.un,⟨true,.ptr 4 4 0 0⟩,⟨true,.int .i64 (p.1:Nat)⟩,⟨true,.ptr 0 9 0 0⟩,.un,.un,.un,⟨true,.ptr 2 2 0 0⟩,.un,.un,⟨true,.own 1 2 0 fs.length⟩]) (fun p=>[(0,.buf 9 [Rec.D r]),(4,.buf 4 [.agg (nE.map D.str)]),(1,.buf 2 (fs.map bZ.D)),(2,.buf 2 [.agg [.str nE[k]!,.sl 1 (p.2.map D.str)]])]) 60 (fun p=>p.1<=min r.needs.length 2/\p.2=qT r (kI l (i+(k:Nat))) p.1) (fun p=>2-p.1) (0,[]) ⟨dE,rfl⟩ (a7.to [(0,0),(4,4),(1,1),(45,2)] ah ah lF (by refine bo.fW ah ah eK ?_;refine bo.fW ah ah eK ?_;refine bo.fW ah ah eK ?_;refine bo.nl 45 ah ah rfl ah ?_;exact bo.nil)) ?_;rintro⟨j,of⟩ ⟨hj,ho⟩;dsimp only at hj ho⊢;have hol:of.length<=4:=by
   have:=Et r (kI l (i+(k:Nat))) j;rw[ho];omega
  refine aB ?_;refine aT (v:=.sl 3 (r.needs.map bp.D)) ?_;refine aA ?_;intro u0;refine aD ?_;refine av (fun hc2=>?_) (fun hc2=>?_)
  .simp only[bB,aK]at hc2;obtain⟨hpo,hpn⟩:=hp1 j ae;refine aB ?_;refine aT (v:=.sl 3 (r.needs.map bp.D)) ?_;refine aA ?_;refine bH j (hb:=fun _=>ae) ?_;refine bD (v:=bp.D r.needs[j]!) (hi:=fun _=>ae) ?_;refine aA ?_;refine aI (bp.D r.needs[j]!) (he:=aQ) ?_;refine fS ?_;refine lJ (3+(j:Nat)) (hb:=fun _=>by rw[IntKind.wrap_u64];omega) ?_;refine tu _ (hb:=fun _=>rfl) ?_;refine um (IV (kI l (i+(k:Nat))) (3+(j:Nat))) (hb:=fun _=>rfl) ?_;refine ay ?_;refine cF (fun hc3=>?_) fun hc3=>?_
   .refine ax ?_;refine aT (v:=.sl 1 (of.map D.str)) ?_;refine aA ?_;refine aT (v:=.str r.needs[j]!.option) ?_;refine dj (hb:=fun _=>cb) ?_;refine aq (hc:=h483 of ([63]++r.needs[j]!.option) ae) ?_;refine aA ?_;refine aI (.agg [.str nE[k]!,.sl 1 ((gW of ([63]++r.needs[j]!.option)).map D.str)]) (he:=aQ) ?_;refine aE ?_;intro u1;refine aE ?_;refine lJ (5+(j:Nat)) (hb:=fun _=>by rw[IntKind.wrap_u64];omega) ?_;refine tu _ (hb:=fun _=>rfl) ?_;refine um (IV (kI l (i+(k:Nat))) (5+(j:Nat))) (hb:=fun _=>rfl) ?_;refine ay ?_;refine fM (fun hc4=>?_) fun hc4=>?_
    .refine aA ?_;have hpl:=rU of ([63]++r.needs[j]!.option);refine aA ?_;refine aT (v:=.sl 1 (((gW of ([63]++r.needs[j]!.option))).map D.str)) ?_;refine aA ?_;refine aT (v:=.sl 4 (r.needs[j]!.any.map bS.D)) ?_;refine bH 0 (hb:=fun _=>ae) ?_;refine aA ?_;refine bD (v:=.str r.needs[j]!.any[0]!.name) (hi:=fun _=>ae) ?_;refine dj (hb:=fun _=>by have:=hpn ae;simp only[aP,a8];omega) ?_;refine dj (hb:=fun _=>by have:=hpn ae;simp only[bP,aP,a8];omega) ?_;refine aq (hc:=h483 (gW of ([63]++r.needs[j]!.option)) (r.needs[j]!.any[0]!.name++[47]++[120]) ae) ?_;refine aA ?_;refine aI (.agg [.str nE[k]!,.sl 1 ((gW (gW of ([63]++r.needs[j]!.option)) (r.needs[j]!.any[0]!.name++[47]++[120])).map D.str)]) (he:=aQ) ?_;refine bL ?_;have hA:Rj r (kI l (i+(k:Nat))) of j=gW of ([63]++r.needs[j]!.option):=aw hc3;have hB:Wy r (kI l (i+(k:Nat))) (gW of ([63]++r.needs[j]!.option)) j=gW (gW of ([63]++r.needs[j]!.option)) (r.needs[j]!.any[0]!.name++[47]++[120]):=aw ⟨ae,hc4.2⟩;have hJ:qT r (kI l (i+(k:Nat))) (j+1)=(gW (gW of ([63]++r.needs[j]!.option)) (r.needs[j]!.any[0]!.name++[47]++[120])):=by rw[pG,Wz,<-ho,hA,hB]
     exact⟨(j+1,(gW (gW of ([63]++r.needs[j]!.option)) (r.needs[j]!.any[0]!.name++[47]++[120]))),⟨dE,hJ.symm⟩,dE,(a7.to [(0,0),(4,4),(1,1),(2,2)] ah ah lF (by refine bo.fW ah ah eK ?_;refine bo.fW ah ah eK ?_;refine bo.fW ah ah eK ?_;refine bo.fW ah ah eK ?_;exact bo.nil))⟩
    refine bL ?_;have hA:Rj r (kI l (i+(k:Nat))) of j=gW of ([63]++r.needs[j]!.option):=aw hc3;have hB:Wy r (kI l (i+(k:Nat))) (gW of ([63]++r.needs[j]!.option)) j=(gW of ([63]++r.needs[j]!.option)):=ak (by rintro⟨h1,h2⟩;rcases hc4 with h|h;omega;exact h h2);have hJ:qT r (kI l (i+(k:Nat))) (j+1)=(gW of ([63]++r.needs[j]!.option)):=by rw[pG,Wz,<-ho,hA,hB]
    exact⟨(j+1,(gW of ([63]++r.needs[j]!.option))),⟨dE,hJ.symm⟩,dE,(a7.to [(0,0),(4,4),(1,1),(2,2)] ah ah lF (by refine bo.fW ah ah eK ?_;refine bo.fW ah ah eK ?_;refine bo.fW ah ah eK ?_;refine bo.fW ah ah eK ?_;exact bo.nil))⟩
   refine aE ?_;intro u1;refine aE ?_;refine lJ (5+(j:Nat)) (hb:=fun _=>by rw[IntKind.wrap_u64];omega) ?_;refine tu _ (hb:=fun _=>rfl) ?_;refine um (IV (kI l (i+(k:Nat))) (5+(j:Nat))) (hb:=fun _=>rfl) ?_;refine ay ?_;refine fM (fun hc4=>?_) fun hc4=>?_
   .refine aA ?_;have hpl:=rU of ([63]++r.needs[j]!.option);refine aA ?_;refine aT (v:=.sl 1 ((of).map D.str)) ?_;refine aA ?_;refine aT (v:=.sl 4 (r.needs[j]!.any.map bS.D)) ?_;refine bH 0 (hb:=fun _=>ae) ?_;refine aA ?_;refine bD (v:=.str r.needs[j]!.any[0]!.name) (hi:=fun _=>ae) ?_;refine dj (hb:=fun _=>by have:=hpn ae;simp only[aP,a8];omega) ?_;refine dj (hb:=fun _=>by have:=hpn ae;simp only[bP,aP,a8];omega) ?_;refine aq (hc:=h483 of (r.needs[j]!.any[0]!.name++[47]++[120]) ae) ?_;refine aA ?_;refine aI (.agg [.str nE[k]!,.sl 1 ((gW of (r.needs[j]!.any[0]!.name++[47]++[120])).map D.str)]) (he:=aQ) ?_;refine bL ?_;have hA:Rj r (kI l (i+(k:Nat))) of j=of:=ak (by rintro⟨h1,h2⟩;rcases hc3 with h|h;exact h1 h;exact h h2);have hB:Wy r (kI l (i+(k:Nat))) of j=gW of (r.needs[j]!.any[0]!.name++[47]++[120]):=aw ⟨ae,hc4.2⟩;have hJ:qT r (kI l (i+(k:Nat))) (j+1)=(gW of (r.needs[j]!.any[0]!.name++[47]++[120])):=by rw[pG,Wz,<-ho,hA,hB]
    exact⟨(j+1,(gW of (r.needs[j]!.any[0]!.name++[47]++[120]))),⟨dE,hJ.symm⟩,dE,(a7.to [(0,0),(4,4),(1,1),(2,2)] ah ah lF (by refine bo.fW ah ah eK ?_;refine bo.fW ah ah eK ?_;refine bo.fW ah ah eK ?_;refine bo.fW ah ah eK ?_;exact bo.nil))⟩
   refine bL ?_;have hA:Rj r (kI l (i+(k:Nat))) of j=of:=ak (by rintro⟨h1,h2⟩;rcases hc3 with h|h;exact h1 h;exact h h2);have hB:Wy r (kI l (i+(k:Nat))) of j=of:=ak (by rintro⟨h1,h2⟩;rcases hc4 with h|h;omega;exact h h2);have hJ:qT r (kI l (i+(k:Nat))) (j+1)=of:=by rw[pG,Wz,<-ho,hA,hB]
   exact⟨(j+1,of),⟨dE,hJ.symm⟩,dE,(a7.to [(0,0),(4,4),(1,1),(2,2)] ah ah lF (by refine bo.fW ah ah eK ?_;refine bo.fW ah ah eK ?_;refine bo.fW ah ah eK ?_;refine bo.fW ah ah eK ?_;exact bo.nil))⟩
  simp only[dy,bc]at hc2;obtain rfl:j=min r.needs.length 2:=ae;subst ho;refine bL ?_;refine tu _ (hb:=fun _=>rfl) ?_;refine um (IV (kI l (i+(k:Nat))) 7) (hb:=fun _=>rfl) ?_;refine bL ?_;refine c8 (hc:=fun hf=>h479 l (i+(k:Nat)+1)) ?_;refine c8 (hc:=fun hf=>h478 _ 3 aF) ?_;refine ay ?_;refine cF (fun hc5=>?_) fun hc5=>?_
  .refine ax ?_;refine aT (v:=.sl 1 ((qT r (kI l (i+(k:Nat))) (min r.needs.length 2)).map D.str)) ?_;refine ax ?_;refine rX (k+1) (hb:=fun _=>ae) ?_;refine aT (v:=.str nE[k+1]!) (hv:=fun _=>Jn nE (by show _<4;omega) rfl) (ho:=ae) ?_;refine aq (hc:=h483 (qT r (kI l (i+(k:Nat))) (min r.needs.length 2)) nE[k+1]! ae) ?_;refine aA ?_;refine aI (.agg [.str nE[k]!,.sl 1 ((gW (qT r (kI l (i+(k:Nat))) (min r.needs.length 2)) nE[k+1]!).map D.str)]) (he:=aQ) ?_;refine ay ?_;refine cz (d:=bZ.D ⟨nE[k]!,gW (qT r (kI l (i+(k:Nat))) (min r.needs.length 2)) nE[k+1]!⟩) ?_;refine df [bZ.D ⟨nE[k]!,gW (qT r (kI l (i+(k:Nat))) (min r.needs.length 2)) nE[k+1]!⟩] ?_;refine gL (q:=bZ.D) (xs:=fs) (e:=⟨nE[k]!,gW (qT r (kI l (i+(k:Nat))) (min r.needs.length 2)) nE[k+1]!⟩) ?_;refine cZ ?_;have hC:UN l i (kI l (i+(k:Nat))) k (qT r (kI l (i+(k:Nat))) (min r.needs.length 2))=gW (qT r (kI l (i+(k:Nat))) (min r.needs.length 2)) nE[k+1]! :=aw ⟨⟨ae,hc5.1.2⟩,by rw[show i+(k:Nat)+1=i+(k:Int)+1 by omega];exact hc5.2⟩;exact⟨(k+1,fs++[⟨nE[k]!,gW (qT r (kI l (i+(k:Nat))) (min r.needs.length 2)) nE[k+1]!⟩]),⟨dE,by dsimp only;rw[hf];exact(KU hc1 hC).symm⟩,dE,(a7.to [(0,0),(4,4),(99,1)] ah ah (by repeat(first|exact dp.nil|refine dp.un ?_|refine dp.eq ah ?_|refine dp.ni (Or.inr ⟨_,_,_,rfl⟩) ?_)) (by refine bo.fW ah ah eK ?_;refine bo.fW ah ah eK ?_;refine bo.nl 99 ah ah rfl (br (fun _=>rfl) _) ?_;exact bo.nil))⟩
  refine ay ?_;refine cz (d:=bZ.D ⟨nE[k]!,(qT r (kI l (i+(k:Nat))) (min r.needs.length 2))⟩) ?_;refine df [bZ.D ⟨nE[k]!,(qT r (kI l (i+(k:Nat))) (min r.needs.length 2))⟩] ?_;refine gL (q:=bZ.D) (xs:=fs) (e:=⟨nE[k]!,(qT r (kI l (i+(k:Nat))) (min r.needs.length 2))⟩) ?_;refine cZ ?_;have hC:UN l i (kI l (i+(k:Nat))) k (qT r (kI l (i+(k:Nat))) (min r.needs.length 2))=(qT r (kI l (i+(k:Nat))) (min r.needs.length 2)):=ak (by rintro⟨⟨h1,h2⟩,h3⟩;rcases hc5 with(h|h)|h;omega;exact h h2;exact h3 h);exact⟨(k+1,fs++[⟨nE[k]!,(qT r (kI l (i+(k:Nat))) (min r.needs.length 2))⟩]),⟨dE,by dsimp only;rw[hf];exact(KU hc1 hC).symm⟩,dE,(a7.to [(0,0),(4,4),(90,1)] ah ah (by repeat(first|exact dp.nil|refine dp.un ?_|refine dp.eq ah ?_|refine dp.ni (Or.inr ⟨_,_,_,rfl⟩) ?_)) (by refine bo.fW ah ah eK ?_;refine bo.fW ah ah eK ?_;refine bo.nl 90 ah ah rfl (br (fun _=>rfl) _) ?_;exact bo.nil))⟩
 simp only[bc]at hc0;obtain rfl:k=4:=ae;refine aD ?_;refine eH 1 ?_;refine aA ?_;refine bF (?_);rw[hf];rfl
def Mm (T:List D->D->Prop):Prop:=∀(l:List Int) (i:Int) (r:Rec),(0<=i/\i<=2000000)->(∀j:Nat,j<r.needs.length->r.needs[j]!.option.length<=100/\(r.needs[j]!.any.length=1->r.needs[j]!.any[0]!.name.length<=100))->T [.sl 1 (l.map (D.int .i64)),.int .i64 i,Rec.D r] (.sl 2 ((j8 l i r).map bZ.D))
def ZV (Y:Ctx):Prop:=Mm (bx Y 232)
noncomputable def GO:aC:=cP 19
def w79 (h227:W6 Y)(h228:IH Y)(h229:ZU Y)(h230:W7 Y)(h231:W8 Y)(h232:ZV Y)(l:List Int)(i:Int)(own:Int)  (hp0:0<=i/\i<=1000000)(hp1:0<=own/\own<=100000):dh Y GO (Rec.D (Cd l i own)) [.sl 1 (l.map (D.int .i64)),.int .i64 i,.int .i64 own]:=by
 show bJ _ _ _ [⟨_,_⟩,⟨_,_⟩,⟨_,_⟩,_,_,_,_,_,_,_] _;refine ar ?_;refine aB ?_;refine aq (hc:=h227 own) ?_;refine ax ?_;refine aq (hc:=h228 l (i) 3 aF) ?_;refine ay ?_;refine aq (hc:=h228 l (i+1) 2 aF) ?_;refine bg (cn.D ⟨fV l i 3,fV l (i+1) 2,0,[],[]⟩) ?_;refine bg (.agg [.str (ff own),.int .i64 (fV l i 3),.int .i64 (fV l (i+1) 2),.int .i64 0,.str [],.str [],.bq,.bq,.bq]) ?_;refine aA ?_;refine aI (.agg [.str (ff own),.int .i64 (fV l i 3),.int .i64 (fV l (i+1) 2),.int .i64 0,.str [],.str [],.bq,.bq,.bq]) (he:=aQ) ?_;refine aD ?_;refine aq (hc:=h228 l (i+2) 9 aF) ?_;refine ax ?_;refine sw hm (ι:=Unit) (fun _=>[⟨true,.sl 1 (l.map (D.int .i64))⟩,⟨true,.int .i64 i⟩,⟨true,.int .i64 own⟩,⟨true,.ptr 0 9 0 0⟩,.un,⟨true,.ptr 12 9 0 0⟩,.un,.un,.un,.un]) (fun _=>[(0,.buf 9 [dx]),(12,.buf 9 [(.agg [.str (ff own),.int .i64 (fV l i 3),.int .i64 (fV l (i+1) 2),.int .i64 0,.str (tX l i),.str [],.bq,.bq,.bq])])]) 30 (fun _=>True) ?_ ?_
 .refine fM (fun hc0=>?_) fun hc0=>?_
  .refine ay ?_;refine aI (.agg [.str (ff own),.int .i64 (fV l i 3),.int .i64 (fV l (i+1) 2),.int .i64 0,.str S3,.str [],.bq,.bq,.bq]) (he:=aQ) ?_;refine ax ?_;have hp:tX l i=S3:=aw hc0;rw[hp];exact⟨(),trivial,(a7.to [(0,0),(12,12)] ah ah lF (by repeat(first|exact bo.nil|refine bo.fW ah ah eK ?_|refine bo.FJ ah ah ah ?_)))⟩
  refine ax ?_;have hp:tX l i=[]:=ak hc0;rw[hp];exact⟨(),trivial,(a7.to [(0,0),(12,12)] ah ah lF (by repeat(first|exact bo.nil|refine bo.fW ah ah eK ?_|refine bo.FJ ah ah ah ?_)))⟩
 .rintro _-
  refine aE ?_;refine aq (hc:=h228 l (i+2) 9 aF) ?_;refine ax ?_;refine sw hm (ι:=Unit) (fun _=>[⟨true,.sl 1 (l.map (D.int .i64))⟩,⟨true,.int .i64 i⟩,⟨true,.int .i64 own⟩,⟨true,.ptr 0 9 0 0⟩,.un,⟨true,.ptr 12 9 0 0⟩,.un,.un,.un,.un]) (fun _=>[(0,.buf 9 [dx]),(12,.buf 9 [(.agg [.str (ff own),.int .i64 (fV l i 3),.int .i64 (fV l (i+1) 2),.int .i64 0,.str (tX l i),.str (At l i),.bq,.bq,.bq])])]) 40 (fun _=>True) ?_ ?_
  .refine fM (fun hc1=>?_) fun hc1=>?_
   .refine ay ?_;refine aI (.agg [.str (ff own),.int .i64 (fV l i 3),.int .i64 (fV l (i+1) 2),.int .i64 0,.str (tX l i),.str [55],.bq,.bq,.bq]) (he:=aQ) ?_;refine ax ?_;have hp:At l i=[55]:=aw hc1;rw[hp];exact⟨(),trivial,(a7.to [(0,0),(12,12)] ah ah lF (by repeat(first|exact bo.nil|refine bo.fW ah ah eK ?_|refine bo.FJ ah ah ah ?_)))⟩
   refine ax ?_;have hp:At l i=[]:=ak hc1;rw[hp];exact⟨(),trivial,(a7.to [(0,0),(12,12)] ah ah lF (by repeat(first|exact bo.nil|refine bo.fW ah ah eK ?_|refine bo.FJ ah ah ah ?_)))⟩
  .rintro _-
   have hK:=WA l i;refine aE ?_;refine aq (hc:=h228 l (i+3) 4 aF) ?_;refine LI ((gK l i:Nat):Int) (hn:=by intro _;omega) (hb:=fun _=>gK_eq l i) ?_;refine ax ?_;refine ba hm (ι:=(Nat×List bp)) (fun p=>[⟨true,.sl 1 (l.map (D.int .i64))⟩,⟨true,.int .i64 i⟩,⟨true,.int .i64 own⟩,⟨true,.ptr 0 9 0 0⟩,.un,⟨true,.ptr 12 9 0 0⟩,.un,⟨true,.int .i64 (p.1:Nat)⟩,.un,.un]) (fun p=>[(0,.buf 9 [dx]),(12,.buf 9 [(.agg [.str (ff own),.int .i64 (fV l i 3),.int .i64 (fV l (i+1) 2),.int .i64 0,.str (tX l i),.str (At l i),.own 1 3 0 p.2.length,.bq,.bq])]),(1,.buf 3 (p.2.map bp.D))]) 60 (fun p=>p.1<=gK l i/\p.2=Gt l i own (gK l i-p.1)) (fun p=>p.1) (gK l i,[]) ⟨aL _,by dsimp only;rw[Nat.sub_self];rfl⟩ (a7.to [(0,0),(12,12)] ah ah lF (by refine bo.fW ah ah eK ?_;refine bo.ni 12 ah ah (by exact⟨_,_,rfl,⟨_,rfl,⟨_,_,rfl,⟨rfl,rfl⟩,⟨_,_,rfl,⟨rfl,rfl⟩,⟨_,_,rfl,⟨rfl,rfl⟩,⟨_,_,rfl,⟨rfl,rfl⟩,⟨_,_,rfl,⟨rfl,rfl⟩,⟨_,_,rfl,⟨rfl,rfl⟩,⟨_,_,rfl,Or.inr ⟨_,_,_,rfl⟩,⟨_,_,rfl,Or.inl rfl,⟨_,_,rfl,Or.inl rfl,rfl⟩⟩⟩⟩⟩⟩⟩⟩⟩⟩,rfl⟩) ?_;refine bo.mt ah ah ah ah ?_;exact bo.nil)) ?_;rintro⟨k,ns⟩ ⟨hk,hn⟩;dsimp only at hk hn⊢;have hnl:ns.length<=3:=by rw[hn];simp[Gt];omega
   refine aE ?_;refine av (fun hc2=>?_) (fun hc2=>?_)
   .try simp only[dn]at hc2
    refine cZ ?_;refine nG ?_;refine ay ?_;refine aq (hc:=h229 l (i+4+20*(k:Int) -20) own ae ae) ?_;refine df [bp.D (ic l (i+4+20*(k:Int) -20) own)] ?_;refine gL (q:=bp.D) (xs:=ns) (e:=ic l (i+4+20*(k:Int) -20) own) ?_;refine aA ?_;refine aI (.agg [.str (ff own),.int .i64 (fV l i 3),.int .i64 (fV l (i+1) 2),.int .i64 0,.str (tX l i),.str (At l i),.own 74 3 0 (ns++[ic l (i+4+20*(k:Int) -20) own]).length,.bq,.bq]) (he:=aQ) ?_;refine bL ?_;exact⟨(k-1,ns++[ic l (i+4+20*(k:Int) -20) own]),⟨dE,by dsimp only;rw[Ro hk ae,hn]⟩,dE,(a7.to [(0,0),(12,12),(74,1)] ah ah (by repeat(first|exact dp.nil|refine dp.un ?_|refine dp.eq ah ?_|refine dp.nl (aj (D.int .i64) (show((k-1:Nat):Int)=(k:Int) -1 by omega)) ah ?_)) (by refine bo.fW ah ah eK ?_;refine bo.FJ ah ah ah ?_;refine bo.nl 74 ah ah rfl (br (fun _=>rfl) _) ?_;exact bo.nil))⟩
   simp only[bc]at hc2;obtain rfl:k=0:=ae;obtain rfl:ns=rC l i own:=by rw[hn];rfl
   refine ay ?_;refine eH 1 ?_;refine aB ?_;refine aq (hc:=h228 l (i+45) 5 aF) ?_;refine ax ?_;refine sw hm (ι:=Unit) (fun _=>[⟨true,.sl 1 (l.map (D.int .i64))⟩,⟨true,.int .i64 i⟩,⟨true,.int .i64 own⟩,⟨true,.ptr 0 9 0 0⟩,.un,⟨true,.ptr 12 9 0 0⟩,.un,.un,.un,.un]) (fun _=>[(0,.buf 9 [dx]),(12,.buf 9 [(.agg [.str (ff own),.int .i64 (fV l i 3),.int .i64 (fV l (i+1) 2),.int .i64 0,.str (tX l i),.str (At l i),(.sl 3 ((rC l i own).map bp.D)),(.own 2 3 0 (rz l i own).length),.bq])]),(2,.buf 3 ((rz l i own).map fq.D))]) 100 (fun _=>True) ?_ ?_
   .refine fM (fun hc3=>?_) fun hc3=>?_
    .refine aA ?_;have hr46:=dN l (i+46) 4 aF;refine aA ?_;refine aT (v:=.bq) ?_;refine aE ?_;refine aq (hc:=h228 l (i+46) 4 aF) ?_;refine aA ?_;refine aq (hc:=h227 (own+1+fV l (i+46) 4)) ?_;refine ay ?_;refine aq (hc:=h230 l (i+47) ae) ?_;refine ay ?_;refine aq (hc:=h231 l (i+50) ae) ?_;refine bg (fq.D (As l i own)) ?_;refine df [fq.D (As l i own)] ?_;refine SO (n:=1) (ys:=[fq.D (As l i own)]) (he:=sA.all ah rfl) (hn:=rfl) ?_;refine aA ?_;refine aI (.agg [.str (ff own),.int .i64 (fV l i 3),.int .i64 (fV l (i+1) 2),.int .i64 0,.str (tX l i),.str (At l i),(.sl 3 ((rC l i own).map bp.D)),(.own 87 3 0 1),.bq]) (he:=aQ) ?_;refine ax ?_;have hb:rz l i own=[As l i own]:=aw hc3;rw[hb];exact⟨(),trivial,(a7.to [(0,0),(12,12),(87,2)] ah ah lF (by refine bo.fW ah ah eK ?_;refine bo.FJ ah ah ah ?_;refine bo.nl 87 ah ah ah ah ?_;exact bo.nil))⟩
    refine ax ?_;have hb:rz l i own=[]:=ak hc3;rw[hb];exact⟨(),trivial,(a7.to [(0,0),(12,12)] ah ah lF (by refine bo.fW ah ah eK ?_;refine bo.ni 12 ah ah (by exact⟨_,_,rfl,⟨_,rfl,⟨_,_,rfl,⟨rfl,rfl⟩,⟨_,_,rfl,⟨rfl,rfl⟩,⟨_,_,rfl,⟨rfl,rfl⟩,⟨_,_,rfl,⟨rfl,rfl⟩,⟨_,_,rfl,⟨rfl,rfl⟩,⟨_,_,rfl,⟨rfl,rfl⟩,⟨_,_,rfl,⟨rfl,rfl⟩,⟨_,_,rfl,Or.inr ⟨_,_,_,rfl⟩,⟨_,_,rfl,Or.inl rfl,rfl⟩⟩⟩⟩⟩⟩⟩⟩⟩⟩,rfl⟩) ?_;refine bo.mt ah ah ah ah ?_;exact bo.nil))⟩
   .rintro _-
    refine eH 2 ?_;refine kF [(0,.buf 9 [dx]),(12,.buf 9 [Rec.D (pK l i own)])] (.id ah (.bf ah (.cons (.ag (.cons (.refl _) (.cons (.refl _) (.cons (.refl _) (.cons (.refl _) (.cons (.refl _) (.cons (.refl _) (.cons (.refl _) (.cons (.refl _) (.cons (.nil 2) .nil)))))))))) .nil) .nil)) ?_;refine aB ?_;refine cz (d:=Rec.D (pK l i own)) ?_;refine aq (hc:=h232 l (i+52) (pK l i own) ae (Ov l i own)) ?_;refine aA ?_;refine aI (Rec.D (Cd l i own)) (he:=aQ) ?_;refine ax ?_;refine cz (d:=Rec.D (Cd l i own)) ?_;refine aI (Rec.D (Cd l i own)) (he:=aQ) ?_;refine ax ?_;refine bF (?_);rfl
def TV (T:List D->D->Prop):Prop:=∀(l:List Int) (i:Int) (own:Int),(0<=i/\i<=1000000)->(0<=own/\own<=100000)->T [.sl 1 (l.map (D.int .i64)),.int .i64 i,.int .i64 own] (Rec.D (Cd l i own))
def C79 (Y:Ctx):Prop:=TV (bx Y 79)
noncomputable def cmp_isNaN_int:aC:=cP 164
def w714 {Y:Ctx}(hm:(Y.at 0).b7)  (x:Int)   :dh Y cmp_isNaN_int (.bool false) [.int .i64 x]:=by
 show bJ _ _ _ [⟨_,_⟩,_] _;refine ar ?_;refine cZ ?_;refine bU ?_;simp
def Nl (T:List D->D->Prop):Prop:=∀(x:Int),T [.int .i64 x] (.bool false)
def C714 (Y:Ctx):Prop:=Nl (bx Y 714)
noncomputable def B9:aC:=cP 203
def w704 {Y:Ctx}(hm:(Y.at 0).b7)  (x:au)   :dh Y B9 (.bool false) [.str x]:=by
 show bJ _ _ _ [⟨_,_⟩,_] _;refine ar ?_;refine cZ ?_;refine bU ?_;simp
def Nk (T:List D->D->Prop):Prop:=∀(x:au),T [.str x] (.bool false)
def C704 (Y:Ctx):Prop:=Nk (bx Y 704)
noncomputable def cmp_Compare_int:aC:=cP 121
def w532 {Y:Ctx}(hm:(Y.at 0).b7)(h714:C714 Y)(a:Int)(b:Int)   :dh Y cmp_Compare_int (.int .i64 (fC a b)) [.int .i64 a,.int .i64 b]:=by
 show bJ _ _ _ [⟨_,_⟩,⟨_,_⟩,_,_,_,_,_,_,_,_] _;refine ar ?_;refine aB ?_;refine aq (hc:=h714 _) ?_;refine aB ?_;refine aq (hc:=h714 _) ?_;refine aD ?_;refine av (t:=false) (fun h=>by cases h) (fun _=>?_);refine aE ?_;refine av (t:=false) (fun h=>by cases h) (fun _=>?_);refine aZ ?_;refine cF (fun hc3=>?_) fun hc3=>?_
 .refine aE ?_;refine cX ?_;simp[fC,hc3]
 refine aZ ?_;refine cF (fun hc4=>?_) fun hc4=>?_
 .refine aE ?_;refine cX ?_;unfold fC;rw[ak hc3,aw hc4]
 refine aE ?_;refine cX ?_;unfold fC;rw[ak hc3,ak hc4]
def zx (T:List D->D->Prop):Prop:=∀(a:Int) (b:Int),T [.int .i64 a,.int .i64 b] (.int .i64 (fC a b))
def Xs (Y:Ctx):Prop:=zx (bx Y 532)
noncomputable def yi:aC:=cP 166
def w516 {Y:Ctx}(hm:(Y.at 0).b7)(h704:C704 Y)(a:au)(b:au)   :dh Y yi (.int .i64 (B8 a b)) [.str a,.str b]:=by
 show bJ _ _ _ [⟨_,_⟩,⟨_,_⟩,_,_,_,_,_,_,_,_] _;refine ar ?_;refine aB ?_;refine aq (hc:=h704 _) ?_;refine aB ?_;refine aq (hc:=h704 _) ?_;refine aD ?_;refine av (t:=false) (fun h=>by cases h) (fun _=>?_);refine aE ?_;refine av (t:=false) (fun h=>by cases h) (fun _=>?_);refine aZ ?_;refine cF (fun hc3=>?_) fun hc3=>?_
 .refine aE ?_;refine cX ?_;simp[B8,hc3]
 refine aZ ?_;refine cF (fun hc4=>?_) fun hc4=>?_
 .refine aE ?_;refine cX ?_;simp_all[B8]
 refine aE ?_;refine cX ?_;simp_all[B8]
def zw (T:List D->D->Prop):Prop:=∀(a:au) (b:au),T [.str a,.str b] (.int .i64 (B8 a b))
def C516 (Y:Ctx):Prop:=zw (bx Y 516)
noncomputable def Yj:aC:=cP 120
def w531  (l:List Int)   :dh Y Yj (.int .i64 (fJ (fun i=>l[i]!) 0 l.length)) [.sl 1 (l.map (D.int .i64))]:=by
 show bJ _ _ _ [⟨_,_⟩,_,_,_,_,_,_,_,_] _;refine ar ?_;refine cZ ?_;intro u0;refine ax ?_;refine ba hm (ι:=Nat) (fun i=>[.un,.un,⟨true,.int .i64 (i:Nat)⟩,⟨true,.int .i64 (l.length:Nat)⟩,.un,⟨true,.sl 1 (l.map (D.int .i64))⟩,.un,⟨true,.int .i64 0⟩,.un]) (fun i=>[]) 5 (fun i=>i<=l.length/\fJ (fun i=>l[i]!) 0 l.length=fJ (fun i=>l[i]!) i l.length) (fun i=>l.length-i) 0 ⟨ae,rfl⟩ (dr []) ?_;rintro i ⟨hi,hr⟩;refine ay ?_;refine cF (fun hc0=>?_) fun hc0=>?_
 .refine ay ?_;refine bH i ?_;refine bD (v:=.int .i64 l[i]!) ?_;refine aZ ?_;refine fM (fun hc1=>?_) fun hc1=>?_
  .refine aZ ?_;refine cX ?_;rw[hr,lS ae hc1]
  refine aZ ?_;exact⟨i+1,⟨ae,by rw[hr,nK ae hc1]⟩,ae,(dr [])⟩
 refine aZ ?_;refine cX ?_;rw[hr,nJ ae]
def M3 (T:List D->D->Prop):Prop:=∀(l:List Int),T [.sl 1 (l.map (D.int .i64))] (.int .i64 (fJ (fun i=>l[i]!) 0 l.length))
def C531 (Y:Ctx):Prop:=M3 (bx Y 531)
noncomputable def Fw:aC:=cP 119
def w530 {Y:Ctx}(hm:(Y.at 0).b7)  (v:cn)   :dh Y Fw (cn.D (xw v)) [cn.D v]:=by
 show bJ _ _ _ [⟨_,_⟩,_,_] _;refine ar ?_;refine aE ?_;refine aI _ (he:=aQ) ?_;refine aD ?_;refine bF (?_);rfl
def M1 (T:List D->D->Prop):Prop:=∀(v:cn),T [cn.D v] (cn.D (xw v))
def C530 (Y:Ctx):Prop:=M1 (bx Y 530)
noncomputable def Ia:aC:=cP 123
def w534 {Y:Ctx}(hm:(Y.at 0).b7)(h516:C516 Y)(h532:Xs Y)(h658:Qm Y)(h659:Xv Y)(a:au)(b:au)   :dh Y Ia (.int .i64 (tk a b)) [.str a,.str b]:=by
 show bJ _ _ _ [⟨_,_⟩,⟨_,_⟩,_,_,_,_,_,_,_,_] _;refine ar ?_;refine aB ?_;refine aq (hc:=h659 _) ?_;refine aA ?_;refine aq (hc:=h659 _) ?_;refine fS ?_;refine cF (fun hc0=>?_) fun hc0=>?_
 .refine ay ?_;refine aq (hc:=h658 _) ?_;refine cZ ?_;refine aq (hc:=h658 _) ?_;refine fS ?_;refine aq (hc:=h532 _ _) ?_;refine ay ?_;refine cX ?_;unfold tk;rw[aw hc0]
 refine aE ?_;refine LG (hb:=Yp _ _) ?_;refine aA ?_;refine av (fun hc1=>?_) (fun hc1=>?_)
 .simp only[bd,bc]at hc1;refine aE ?_;refine cF (fun hc2=>?_) fun hc2=>?_
  .refine aE ?_;refine cX ?_;have hn:¬(dc a=true/\dc b=true):=by rintro⟨h1,h2⟩;simp[h1,h2]at hc0
   unfold tk;rw[ak hn];rw[aw hc2]
  refine aD ?_;refine cX ?_;have hn:¬(dc a=true/\dc b=true):=by rintro⟨h1,h2⟩;simp[h1,h2]at hc0
  unfold tk;rw[ak hn];rw[ak (by simp[hc2]),aw (by cases h:dc b with|true=>rfl|false=>exact absurd (hc2.trans h.symm) hc1)]
 simp only[bK,aK]at hc1;refine aB ?_;refine aq (hc:=h516 _ _) ?_;refine ay ?_;refine cX ?_;have hn:¬(dc a=true/\dc b=true):=by rintro⟨h1,h2⟩;simp[h1,h2]at hc0
 unfold tk;rw[ak hn];have h1:dc a=false:=by cases h:dc a with|false=>rfl|true=>exact absurd ⟨h,hc1▸h⟩ hn
 rw[ak (by simp[h1]),ak (by rw[<-hc1];simp[h1])]
def zz (T:List D->D->Prop):Prop:=∀(a:au) (b:au),T [.str a,.str b] (.int .i64 (tk a b))
def C534 (Y:Ctx):Prop:=zz (bx Y 534)
noncomputable def yv:aC:=cP 72
def w295 (h209:IE Y)(h530:C530 Y)(h531:C531 Y)(h532:Xs Y)(h533:NH Y)(h534:C534 Y)(a:cn)(b:cn)  (hp0:a.sm/\b.sm):dh Y yv (.int .i64 (pD a b)) [cn.D a,cn.D b]:=by
 show bJ _ _ _ [⟨_,_⟩,⟨_,_⟩,_,_,_,_,_,_,_,_,_,_,_,_,_,_] _;refine ar ?_;refine aZ ?_;refine aq (hc:=h209 a hp0.1) ?_;refine ay ?_;refine c8 (hc:=fun hf=>h209 b hp0.2) ?_;refine aB ?_;refine c8 (hc:=fun hf=>h530 a) ?_;refine aA ?_;refine c8 (hc:=fun hf=>h530 b) ?_;refine WN (hb:=cn.eq _ _) ?_;refine ax ?_;refine av (fun hc0=>?_) (fun hc0=>?_)
 .simp only[cM,bd,aK]at hc0;refine aE ?_;refine cX ?_;rcases hc0 with hc0|hc0
  .unfold pD;rw[aw hc0]
  .exact(CL hc0).symm
 simp only[dd,bK,bc]at hc0;have hv:¬(eZ a=false\/eZ b=false):=by simp only[not_or,Bool.not_eq_false];first|exact hc0|exact hc0.1
 refine aZ ?_;refine aq (hc:=h532 _ _) ?_;refine aB ?_;refine aq (hc:=h532 _ _) ?_;refine aB ?_;refine aq (hc:=h532 _ _) ?_;refine df ([fC a.major b.major,fC a.minor b.minor,fC a.patch b.patch].map (D.int .i64)) ?_;refine aq (hc:=h531 [fC a.major b.major,fC a.minor b.minor,fC a.patch b.patch]) (ha:=fun _=>aj (fun d=>[d]) (oZ (q:=D.int .i64) (xs:=[fC a.major b.major,fC a.minor b.minor,fC a.patch b.patch]) (fun _=>rfl) ah)) (hp:=fun _=>⟨mT (q:=D.int .i64) (xs:=[fC a.major b.major,fC a.minor b.minor,fC a.patch b.patch]) (fun _=>rfl) ah,trivial⟩) ?_;refine aZ ?_;refine av (fun hc1=>?_) (fun hc1=>?_)
 .simp only[bd,bc]at hc1;refine aD ?_;refine cX ?_;exact Re hv hc1
 simp only[bK,aK]at hc1;obtain⟨z1,z2,z3⟩:=Rf hc1;refine ay ?_;have hcp:=QU hv z1 z2 z3;have hpn:¬a.pre=b.pre:=fun e=>hc0.2 (Uv z1 z2 z3 e)
 refine aB ?_;refine cF (fun hc2=>?_) fun hc2=>?_
 .refine aE ?_;refine cX ?_;rw[hcp];unfold wU;rw[ak hpn,aw hc2]
 refine aZ ?_;refine cF (fun hc3=>?_) fun hc3=>?_
 .refine aE ?_;refine cX ?_;rw[hcp];unfold wU;rw[ak hpn,ak hc2,aw hc3]
 refine aB ?_;refine aq (hc:=h533 a.pre 46 hp0.1.1) ?_;refine ax ?_;refine aq (hc:=h533 b.pre 46 hp0.2.1) ?_;refine aZ ?_;refine ba hm (ι:=Nat) (fun i=>[.un,.un,.un,⟨true,.ptr 0 5 0 0⟩,⟨true,.ptr 1 5 0 0⟩,.un,.un,.un,.un,.un,⟨true,.int .i64 (i:Nat)⟩,⟨true,.sl 1 ((ai a.pre 46).map D.str)⟩,⟨true,.sl 1 ((ai b.pre 46).map D.str)⟩,.un,.un,.un]) (fun i=>[(0,.buf 5 [cn.D a]),(1,.buf 5 [cn.D b])]) 53 (fun i=>(i<=(ai a.pre 46).length/\i<=(ai b.pre 46).length)/\pD a b=tw (ai a.pre 46) (ai b.pre 46) i) (fun i=>(ai a.pre 46).length-i) 0 ⟨⟨ae,ae⟩,by rw[hcp];unfold wU;rw[ak hpn,ak hc2,ak hc3]⟩ (dr [(0,0),(1,1)]) ?_;rintro i ⟨hi,hr⟩;refine aE ?_;intro u0;refine aB ?_;refine ik ?_;refine ay ?_;refine cF (fun hc4=>?_) fun hc4=>?_
 .refine aE ?_;refine bH i (hb:=fun _=>ae) ?_;refine bD (v:=.str (ai a.pre 46)[i]!) (hi:=fun _=>ae) ?_;refine ax ?_;refine bH i (hb:=fun _=>ae) ?_;refine bD (v:=.str (ai b.pre 46)[i]!) (hi:=fun _=>ae) ?_;refine aq (hc:=h534 _ _) ?_;refine aD ?_;refine fM (fun hc5=>?_) fun hc5=>?_
  .refine aZ ?_;refine cX ?_;rw[hr,DP ae hc5]
  refine bL ?_;exact⟨i+1,⟨⟨ae,ae⟩,by rw[hr,HY ae hc5]⟩,ae,(dr [(0,0),(1,1)])⟩
 refine aE ?_;intro u1;refine ax ?_;intro u2;refine aq (hc:=h532 _ _) ?_;refine ay ?_;refine cX ?_;rw[hr,DO ae]
def zh (T:List D->D->Prop):Prop:=∀(a:cn) (b:cn),(a.sm/\b.sm)->T [cn.D a,cn.D b] (.int .i64 (pD a b))
def Xb (Y:Ctx):Prop:=zh (bx Y 295)
noncomputable def E5:aC:=cP 22
def w72 {Y:Ctx}(hm:(Y.at 0).b7)(h70:C70 Y)(h215:W1 Y)(r:Rec)  (hp0:fA r):dh Y E5 (.tup [.str (dt r).1,.int .i64 (dt r).2]) [Rec.D r]:=by
 show bJ _ _ _ [⟨_,_⟩,_,_,_,_,_] _;refine ar ?_;refine aZ ?_;refine aq (hc:=h70 r hp0) ?_;refine fH ?_;refine cF (fun hc0=>?_) fun hc0=>?_
 .refine aZ ?_;refine bF (aH (aj D.str ?_) (aj (D.int .i64) ?_));all_goals
   simp[dt,hc0]
 refine ax ?_;have hgd:=oN hc0;refine aA ?_;refine aq (hc:=h215 r ⟨hgd,hp0⟩) ?_;refine aB ?_;refine bF (aH (aj D.str ?_) (aj (D.int .i64) ?_));all_goals
  simp[dt,hc0]
def FC (T:List D->D->Prop):Prop:=∀(r:Rec),(fA r)->T [Rec.D r] (.tup [.str (dt r).1,.int .i64 (dt r).2])
def C72 (Y:Ctx):Prop:=FC (bx Y 72)
noncomputable def JH:aC:=cP 46
def w74 {Y:Ctx}(hm:(Y.at 0).b7)(h72:C72 Y)(h220:ZQ Y)(r:Rec)  (hp0:fA r):dh Y JH (.tup [.int .u64 (mP r),.int .i64 (dt r).2]) [Rec.D r]:=by
 show bJ _ _ _ [⟨_,_⟩,_,_,_,_,_,_] _;refine ar ?_;refine aD ?_;refine aq (hc:=h72 r hp0) ?_;refine fH ?_;refine cF (fun hc0=>?_) fun hc0=>?_
 .refine aZ ?_;refine bF (aH (aj (D.int .u64) ?_) (aj (D.int .i64) ?_));all_goals
   simp[mP,hc0]
 refine aB ?_;refine aq (hc:=h220 (dt r).1) (ha:=fun _=>aj (fun d=>[d]) (oZ (q:=fun b:UInt8=>D.int .u8 b.toNat) (fun _=>rfl) ah)) (hp:=fun _=>⟨mT (q:=fun b:UInt8=>D.int .u8 b.toNat) (fun _=>rfl) ah,trivial⟩) ?_;refine aB ?_;refine bF (aH (aj (D.int .u64) ?_) (aj (D.int .i64) ?_));all_goals
  simp[mP,hc0]
def FD (T:List D->D->Prop):Prop:=∀(r:Rec),(fA r)->T [Rec.D r] (.tup [.int .u64 (mP r),.int .i64 (dt r).2])
def C74 (Y:Ctx):Prop:=FD (bx Y 74)
noncomputable def PK:aC:=cP 83
def w701 {Y:Ctx}(hm:(Y.at 0).b7)(h209:IE Y)(h295:Xb Y)(a:cn)(b:cn)  (hp0:a.sm/\b.sm):dh Y PK (.bool (AX a b)) [cn.D a,cn.D b]:=by
 show bJ _ _ _ [⟨_,_⟩,⟨_,_⟩,_,_,_] _;refine ar ?_;refine aD ?_;refine aq (hc:=h209 a hp0.1) ?_;refine ax ?_;refine c8 (hc:=fun hf=>h209 b hp0.2) ?_;refine aB ?_;refine c8 (hc:=fun hf=>h295 a b hp0) ?_;refine aE ?_;exact bU rfl
def zI (T:List D->D->Prop):Prop:=∀(a:cn) (b:cn),(a.sm/\b.sm)->T [cn.D a,cn.D b] (.bool (AX a b))
def C701 (Y:Ctx):Prop:=zI (bx Y 701)
noncomputable def Cq:aC:=cP 82
def w700 {Y:Ctx}(hm:(Y.at 0).b7)(h701:C701 Y)(x:cw)(nm:au)(v:cn)  (hp0:x.r.v.sm/\v.sm):dh Y Cq (.bool (GJ nm v x)) [cw.D x,.ref 1 [.str nm] 0 0,.ref 5 [cn.D v] 0 0]:=by
 show bJ _ _ _ [⟨_,_⟩,⟨_,_⟩,⟨_,_⟩,_,_] _;refine ar ?_;refine aD ?_;refine aT (v:=.str x.r.name) ?_;refine e7 (v:=.str nm) ?_;refine aB ?_;refine aT (v:=cn.D x.r.v) ?_;refine e7 (v:=cn.D v) ?_;refine c8 (hc:=fun hf=>h701 x.r.v v hp0) ?_;refine aB ?_;exact bU rfl
def Nj (T:List D->D->Prop):Prop:=∀(x:cw) (nm:au) (v:cn),(x.r.v.sm/\v.sm)->T [cw.D x,.ref 1 [.str nm] 0 0,.ref 5 [cn.D v] 0 0] (.bool (GJ nm v x))
def C700 (Y:Ctx):Prop:=Nj (bx Y 700)
noncomputable def qz:aC:=cP 81
def w699 (h700:C700 Y)(l:List cw)(nm:au)(v:cn)  (hp0:(∀x∈l,x.r.v.sm)/\v.sm):dh Y qz (.int .i64 (tj l nm v 0)) [.sl 11 (l.map cw.D),.fn 700 [.ref 1 [.str nm] 0 0,.ref 5 [cn.D v] 0 0]]:=by
 show bJ _ _ _ [⟨_,_⟩,⟨_,_⟩,_,_,_,_,_,_] _;refine ar ?_;refine aD ?_;intro u0;refine ax ?_;refine ba hm (ι:=Nat) (fun i=>[⟨true,.sl 11 (l.map cw.D)⟩,⟨true,.fn 700 [.ref 1 [.str nm] 0 0,.ref 5 [cn.D v] 0 0]⟩,.un,⟨true,.int .i64 (i:Nat)⟩,⟨true,.int .i64 (l.length:Nat)⟩,.un,.un,.un]) (fun i=>[]) 4 (fun i=>i<=l.length/\tj l nm v 0=tj l nm v i) (fun i=>l.length-i) 0 ⟨ae,rfl⟩ (dr []) ?_;rintro i ⟨hi,hr⟩;refine ay ?_;refine cF (fun hc0=>?_) fun hc0=>?_
 .refine fH ?_;first|refine bD (v:=(cw.D _)) ?_|refine e7 (v:=(cw.D _)) ?_
  refine VF (hc:=fun _=>h700 l[i]! nm v ⟨hp0.1 _ (bE ae),hp0.2⟩) ?_;refine aA ?_;refine fM (fun hc1=>?_) fun hc1=>?_
  .refine aZ ?_;refine cX ?_;rw[hr,SA ae hc1]
  refine aZ ?_;exact⟨i+1,⟨ae,by rw[hr,SC ae hc1]⟩,ae,(dr [])⟩
 refine aD ?_;refine cX ?_;rw[hr,LB ae]
def Ni (T:List D->D->Prop):Prop:=∀(l:List cw) (nm:au) (v:cn),((∀x∈l,x.r.v.sm)/\v.sm)->T [.sl 11 (l.map cw.D),.fn 700 [.ref 1 [.str nm] 0 0,.ref 5 [cn.D v] 0 0]] (.int .i64 (tj l nm v 0))
def C699 (Y:Ctx):Prop:=Ni (bx Y 699)
noncomputable def HR:aC:=cP 47
def w511 {Y:Ctx}(hm:(Y.at 0).b7)(h699:C699 Y)(l:List cw)(nm:au)(v:cn)  (hp0:(∀x∈l,x.r.v.sm)/\v.sm):dh Y HR (.int .i64 (tj l nm v 0)) [.sl 11 (l.map cw.D),.str nm,cn.D v]:=by
 show bJ _ _ _ [⟨_,_⟩,⟨_,_⟩,⟨_,_⟩,_,_,_] _;refine ar ?_;refine aB ?_;refine eH 0 ?_;refine eH 1 ?_;refine ax ?_;refine WO [.ref 1 [.str nm] 0 0,.ref 5 [cn.D v] 0 0] ?_;refine aq (hc:=h699 l nm v hp0) ?_;refine ay ?_;exact cX rfl
def zu (T:List D->D->Prop):Prop:=∀(l:List cw) (nm:au) (v:cn),((∀x∈l,x.r.v.sm)/\v.sm)->T [.sl 11 (l.map cw.D),.str nm,cn.D v] (.int .i64 (tj l nm v 0))
def C511 (Y:Ctx):Prop:=zu (bx Y 511)
noncomputable def PJ:aC:=cP 20
def w353 (h74:C74 Y)(h208:ND Y)(h511:C511 Y)(s:fP)  (hp0:∀x∈s.es,fA x.r):dh Y PJ (.bool (kg s)) [fP.D s]:=by
 show bJ _ _ _ [⟨_,_⟩,_,_,_,_,_,_,_,_,_,_,_,_] _;refine ar ?_;refine aD ?_;refine aT (v:=.str s.name) ?_;refine aq (hc:=h208 _) ?_;refine ay ?_;refine aT (v:=.sl 11 (s.es.map cw.D)) ?_;refine ik ?_;refine ay ?_;refine av (fun hc0=>?_) (fun hc0=>?_)
 .simp only[cM,bd,aK]at hc0;have hf:kg s=false:=by
   unfold kg;rcases hc0 with h|h
   .rw[h];rfl
   .rw[show decide (s.es.length<=64)=false from cG ae];simp
  refine aE ?_;refine bU ?_;exact hf.symm
 simp only[dd,bK,bc]at hc0;have hq:kg s=cQ (pe s.es) 0 s.es.length:=by unfold kg;rw[hc0.1,b9 (show s.es.length<=64 by omega)];simp
 refine aB ?_;refine aT (v:=.sl 11 (s.es.map cw.D)) ?_;refine aA ?_;intro u0;refine ax ?_;refine ba hm (ι:=Nat) (fun i=>[.un,.un,⟨true,.ptr 0 2 0 0⟩,.un,⟨true,.int .i64 (i:Nat)⟩,⟨true,.int .i64 (s.es.length:Nat)⟩,.un,⟨true,.sl 11 (s.es.map cw.D)⟩,.un,.un,.un,.un,.un]) (fun i=>[(0,.buf 2 [fP.D s])]) 16 (fun i=>i<=s.es.length/\kg s=cQ (pe s.es) i s.es.length) (fun i=>s.es.length-i) 0 ⟨ae,hq⟩ (dr [(0,0)]) ?_;rintro i ⟨hi,hr⟩;refine ay ?_;refine cF (fun hc1=>?_) fun hc1=>?_
 .refine ay ?_;have hsm:=hp0 _ (bE (show i<s.es.length by omega));refine aA ?_;refine bH i ?_;refine bD (v:=cw.D s.es[i]!) ?_;refine ax ?_;refine aI (cw.D s.es[i]!) (he:=aQ) ?_;refine ay ?_;refine aT (v:=Rec.D s.es[i]!.r) ?_;refine aq (hc:=h74 s.es[i]!.r hsm) ?_;refine gu ?_;refine aT (v:=.int .u64 s.es[i]!.sum) ?_;refine aB ?_;refine aT (v:=.sl 11 (s.es.map cw.D)) ?_;refine ax ?_;refine Zc (q:=cw.D) i (hj:=fun _=>rfl) (hb:=fun _=>ae) ?_;refine ax ?_;refine aT (v:=.str s.es[i]!.r.name) ?_;refine ax ?_;refine aT (v:=cn.D s.es[i]!.r.v) ?_;refine c8 (hc:=fun hf=>h511 (s.es.take i) s.es[i]!.r.name s.es[i]!.r.v ⟨fun x hx=>(hp0 x (kl hx)).1.2,hsm.1.2⟩) ?_;refine ay ?_;refine wp_cond (fun hc2=>?_) (fun hc2=>?_)
  .have hen:pe s.es i=false:=by
    unfold pe;simp only[cM,bd,aK,bc]at hc2;simp only[dy,bc];rcases hc2 with(h|h)|h
    .exact .inl (.inl h)
    .exact .inl (.inr h)
    .exact .inr ae
   refine aD ?_;refine bU ?_;rw[hr,aU ae,hen];rfl
  have hen:pe s.es i=true:=by
   unfold pe;simp only[dd,bK,aK,bc]at hc2;simp only[bB,aK];exact⟨hc2.1,ae⟩
  refine aZ ?_;exact⟨i+1,⟨ae,by rw[hr,aU ae,hen];rfl⟩,ae,(dr [(0,0)])⟩
 refine aD ?_;refine bU ?_;rw[hr,cj ae]
def zj (T:List D->D->Prop):Prop:=∀(s:fP),(∀x∈s.es,fA x.r)->T [fP.D s] (.bool (kg s))
def C353 (Y:Ctx):Prop:=zj (bx Y 353)
noncomputable def uB:aC:=cP 64
def w239 {Y:Ctx}(hm:(Y.at 0).b7)(h331:C331 Y)(s:au)  (hp0:s.length<=1048576):dh Y uB (.sl 1 ((jC s).map D.str)) [.str s,.str [10]]:=by
 show bJ _ _ _ [⟨_,_⟩,⟨_,_⟩,_] _;refine ar ?_;refine aZ ?_;intro u0;refine aq (hc:=h331 s hp0) ?_;refine ay ?_;refine bF (?_);rfl
def Mn (T:List D->D->Prop):Prop:=∀(s:au),(s.length<=1048576)->T [.str s,.str [10]] (.sl 1 ((jC s).map D.str))
def ZW (Y:Ctx):Prop:=Mn (bx Y 239)
noncomputable def GG:aC:=cP 28
def w252 {Y:Ctx}(hm:(Y.at 0).b7)(h239:ZW Y)(s:au)  (hp0:s.length<=1048576):dh Y GG (.sl 1 ((cC s).map D.str)) [.str s]:=by
 show bJ _ _ _ [⟨_,_⟩,_,_,_] _;have hpl:=Sx s;have hpz:cC s=if(jC s)[(jC s).length-1]! =[]then(jC s).take ((jC s).length-1)else jC s:=Sy s
 refine ar ?_;refine aB ?_;refine aq (hc:=h239 s hp0) ?_;refine aZ ?_;intro u0;refine aA ?_;refine bH ((jC s).length-1) ?_;refine bD (v:=.str (jC s)[(jC s).length-1]!) ?_;refine ax ?_;refine cF (fun hc0=>?_) fun hc0=>?_
 .refine aB ?_;intro u1;refine aA ?_;refine oq ((jC s).length-1) ?_;refine aZ ?_;refine bF (?_);rw[hpz,aw hc0];rfl
 refine aD ?_;refine bF (?_);rw[hpz,ak hc0];rfl
def Mt (T:List D->D->Prop):Prop:=∀(s:au),(s.length<=1048576)->T [.str s] (.sl 1 ((cC s).map D.str))
def Z1 (Y:Ctx):Prop:=Mt (bx Y 252)
noncomputable def GH:aC:=cP 29
def w253 {Y:Ctx}(hm:(Y.at 0).b7)(h244:ZX Y)(s:au)  (hp0:s.length<=1048576):dh Y GH (.tup [.str (bV s).1,.bool (bV s).2]) [.str s]:=by
 show bJ _ _ _ [⟨_,_⟩,_,_] _;refine ar ?_;refine aE ?_;refine aq (hc:=h244 s hp0) ?_;refine aD ?_;refine bF (aH (aj D.str ?_) (aj D.bool ?_));all_goals rfl
def Mu (T:List D->D->Prop):Prop:=∀(s:au),(s.length<=1048576)->T [.str s] (.tup [.str (bV s).1,.bool (bV s).2])
def T4 (Y:Ctx):Prop:=Mu (bx Y 253)
noncomputable def index_first:aC:=cP 33
def w256 {Y:Ctx}(hm:(Y.at 0).b7)(h253:T4 Y)(h487:Xp Y)(s:au)  (hp0:s.length<=1048576):dh Y index_first (.bool (wj s)) [.str s]:=by
 show bJ _ _ _ [⟨_,_⟩,_,_] _;refine ar ?_;refine aB ?_;refine aq (hc:=h253 s hp0) ?_;refine aZ ?_;have hwl:=qF s;refine aA ?_;refine aq (hc:=h487 (bV s).1 32 ae) ?_;refine gu ?_;exact bU rfl
def Mx (T:List D->D->Prop):Prop:=∀(s:au),(s.length<=1048576)->T [.str s] (.bool (wj s))
def Z3 (Y:Ctx):Prop:=Mx (bx Y 256)
noncomputable def GD:aC:=cP 32
def w255 {Y:Ctx}(hm:(Y.at 0).b7)(h124:NC Y)(h253:T4 Y)(h499:C499 Y)(s:au)  (hp0:s.length<=1048576):dh Y GD (.tup [.int .u64 (iF s).1,.bool (iF s).2.1,.bool (iF s).2.2]) [.str s]:=by
 show bJ _ _ _ [⟨_,_⟩,_,_,_,_,_,_,_,_] _;refine ar ?_;refine aD ?_;refine aq (hc:=h253 s hp0) ?_;refine aZ ?_;have hwl:=qF s;refine aA ?_;refine aq (v:=.sl 1 ((ai (bV s).1 32).map D.str)) (hc:=h124 (bV s).1 32 ae) ?_;refine bL ?_;refine ik ?_;refine aB ?_;refine bH 0 (hb:=fun hf=>by simp at hf;omega) ?_;refine bD (v:=.str (ai (bV s).1 32)[0]!) (hi:=fun hf=>by simp at hf;omega) ?_;refine aB ?_;refine bH 2 (hb:=fun hf=>by simp at hf;omega) ?_;refine bD (v:=.str (ai (bV s).1 32)[2]!) (hi:=fun hf=>by simp at hf;omega) ?_;refine ay ?_;refine bH 2 (hb:=fun hf=>by simp at hf;omega) ?_;refine bD (v:=.str (ai (bV s).1 32)[2]!) (hi:=fun hf=>by simp at hf;omega) ?_;refine aB ?_;refine av (fun hc0=>?_) (fun hc0=>?_)
 .simp only[dn]at hc0;have hz:=Yo hc0;refine aZ ?_;refine bF (di (aj (D.int .u64) ?_) (aj D.bool ?_) (aj D.bool ?_));all_goals
   rw[iF,ak hz];first|done|rfl
 simp only[dn]at hc0;obtain⟨hz,hl3⟩:=UD hc0;refine ay ?_;refine bH 1 (hb:=fun _=>ae) ?_;refine bD (v:=.str (ai (bV s).1 32)[1]!) (hi:=fun _=>ae) ?_;refine aq (hc:=h499 (ai (bV s).1 32)[1]!) ?_;refine cZ ?_;refine bH 2 (hb:=fun _=>ae) ?_;refine bD (v:=.str (ai (bV s).1 32)[2]!) (hi:=fun _=>ae) ?_;refine aZ ?_;refine bF (di (aj (D.int .u64) ?_) (aj D.bool ?_) (aj D.bool ?_));all_goals
  rw[iF,aw hz];first|done|rfl
def Mw (T:List D->D->Prop):Prop:=∀(s:au),(s.length<=1048576)->T [.str s] (.tup [.int .u64 (iF s).1,.bool (iF s).2.1,.bool (iF s).2.2])
def Z2 (Y:Ctx):Prop:=Mw (bx Y 255)
noncomputable def Jh:aC:=cP 36
def w257 (h74:C74 Y)(h295:Xb Y)(s:fP)(r:Rec)(n:Int)  (hp0:fA r/\∀x∈s.es,x.r.v.sm):dh Y Jh (.int .i64 (iY s.es r n)) [fP.D s,Rec.D r,.int .u64 n]:=by
 show bJ _ _ _ [⟨_,_⟩,⟨_,_⟩,⟨_,_⟩,_,_,_,_,_,_,_,_,_,_,_,_] _;refine ar ?_;refine aD ?_;refine cz (d:=Rec.D r) ?_;refine aq (hc:=h74 r hp0.1) ?_;refine gu ?_;refine av (fun hc0=>?_) (fun hc0=>?_)
 .simp only[bd,bc]at hc0;refine aE ?_;refine cX ?_;unfold iY;rw[aw hc0]
 simp only[bK,aK]at hc0;refine aB ?_;refine aT (v:=.sl 11 (s.es.map cw.D)) ?_;refine aA ?_;intro u0;refine ax ?_;refine ba hm (ι:=Nat) (fun i=>[.un,.un,.un,.un,⟨true,.ptr 1 9 0 0⟩,.un,.un,⟨true,.ptr 0 2 0 0⟩,⟨true,.int .i64 (i:Nat)⟩,⟨true,.int .i64 (s.es.length:Nat)⟩,.un,⟨true,.sl 11 (s.es.map cw.D)⟩,.un,.un,.un]) (fun i=>[(0,.buf 2 [fP.D s]),(1,.buf 9 [Rec.D r])]) 17 (fun i=>i<=s.es.length/\qD s.es r=(s.es.drop i).any (T2 r)) (fun i=>s.es.length-i) 0 ⟨ae,rfl⟩ (dr [(0,0),(1,1)]) ?_;rintro i ⟨hi,hr⟩;refine ay ?_;refine cF (fun hc1=>?_) fun hc1=>?_
 .refine ay ?_;refine bH i ?_;refine bD (v:=cw.D s.es[i]!) ?_;refine aA ?_;refine aI (cw.D s.es[i]!) (he:=aQ) ?_;refine aB ?_;refine aT (v:=.str s.es[i]!.r.name) ?_;refine aA ?_;refine aT (v:=.str r.name) ?_;refine aB ?_;refine aT (v:=cn.D s.es[i]!.r.v) ?_;refine aA ?_;refine aT (v:=cn.D r.v) ?_;refine c8 (hc:=fun hf=>h295 s.es[i]!.r.v r.v ⟨hp0.2 _ (bE ae),hp0.1.1.2⟩) ?_;refine ay ?_;refine wp_cond (fun hc2=>?_) (fun hc2=>?_)
  .have htw:T2 r s.es[i]! =true:=by unfold T2;simpa using hc2
   refine aD ?_;refine cX ?_;have htz:qD s.es r=true:=by rw[hr,uP ae htw]
   unfold iY;rw[ak (fun h=>h hc0),aw htz]
  have htw:T2 r s.es[i]! =false:=by unfold T2;simpa using hc2
  refine aZ ?_;exact⟨i+1,⟨ae,by rw[hr,zV ae htw]⟩,ae,(dr [(0,0),(1,1)])⟩
 refine aB ?_;have htz:qD s.es r=false:=by rw[hr,uO ae]
 refine aA ?_;refine aT (v:=.sl 11 (s.es.map cw.D)) ?_;refine aA ?_;intro u1;refine ax ?_;refine cF (fun hc3=>?_) fun hc3=>?_
 .refine aE ?_;refine cX ?_;unfold iY;rw[ak (fun h=>h hc0),ak (by simp[htz]),aw ae]
 refine aE ?_;refine cX ?_;unfold iY;rw[ak (fun h=>h hc0),ak (by simp[htz]),ak ae]
def My (T:List D->D->Prop):Prop:=∀(s:fP) (r:Rec) (n:Int),(fA r/\∀x∈s.es,x.r.v.sm)->T [fP.D s,Rec.D r,.int .u64 n] (.int .i64 (iY s.es r n))
def Z4 (Y:Ctx):Prop:=My (bx Y 257)
noncomputable def GC:aC:=cP 11
def w251 (h72:C72 Y)(h353:C353 Y)(h452:T5 Y)(h489:Uc Y)(h497:C497 Y)(s:fP)  (hp0:∀x∈s.es,fA x.r):dh Y GC (.tup [.str (iV s).1,.int .i64 (iV s).2]) [fP.D s]:=by
 show bJ _ _ _ [⟨_,_⟩,_,_,_,_,_,_,_,_,_,_,_,_,_] _;refine ar ?_;refine aD ?_;refine cz (d:=fP.D s) ?_;refine aq (hc:=h353 s hp0) ?_;refine ax ?_;refine av (fun hc0=>?_) (fun hc0=>?_)
 .simp only[bd]at hc0;refine aD ?_;refine bF (aH (aj D.str ?_) (aj (D.int .i64) ?_));all_goals
   have hps:iV s=([],1):=by unfold iV;rw[aw hc0]
   rw[hps];first|done|rfl
 simp only[bK]at hc0;obtain⟨q1,q2⟩:=Fj hc0;refine aD ?_;refine aT (v:=.str s.name) ?_;refine dj (hb:=fun _=>cb) ?_;refine fF ?_;refine cx (nx':=8) (v:=.any) (m':=[(11,.row (uI s 0)),(0,.buf 2 [fP.D s]),(6,.bld (some 11) (uI s 0).length true)]) (hc:=fun K' hK=>h489 _ _ K' ⟨([115,104,101,108,102,32]++s.name)++[10],6,[],rfl,.inl ⟨false,aQ,rfl⟩,cb,aJ,by simp only[bP,aP,a8];omega,by rw[show []++(([115,104,101,108,102,32]++s.name)++[10])=uI s 0 from by rw[TD];rfl];exact hK⟩) (hn:=aF) ?_;refine aB ?_;refine aT (v:=.sl 11 (s.es.map cw.D)) ?_;refine aA ?_;intro u0;refine ax ?_;refine ba hm (ι:=Nat) (fun i=>[.un,.un,.un,⟨true,.ptr 0 2 0 0⟩,.un,⟨true,.ptr 6 2 0 0⟩,⟨true,.int .i64 (i:Nat)⟩,⟨true,.int .i64 (s.es.length:Nat)⟩,.un,⟨true,.sl 11 (s.es.map cw.D)⟩,.un,.un,.un,.un]) (fun i=>[(0,.buf 2 [fP.D s]),(6,.bld (some 7) (uI s i).length true),(7,.row (uI s i))]) 20 (fun i=>i<=s.es.length) (fun i=>s.es.length-i) 0 ae (a7.to [(0,0),(6,6),(11,7)] ah ah eh (by refine bo.fW ah ah ah ?_;refine bo.bl 6 ah ah ah (aj List.length (rfl)) rfl ?_;refine bo.rw 11 ah ah (rfl) ?_;exact bo.nil)) ?_;intro i hi;have q3:=yZ (s:=s) ae hi;refine ay ?_;refine cF (fun hc1=>?_) fun hc1=>?_
 .refine ay ?_;have hsm:=hp0 _ (bE (show i<s.es.length by omega));have q4:=uh s.es[i]!.r;have q5:=gY s.es[i]!.sum;have hxt:=BJ (show i<s.es.length by omega);have hee:=Ep s.es[i]!;refine bH i ?_;refine bD (v:=cw.D s.es[i]!) ?_;refine aA ?_;refine aI (cw.D s.es[i]!) (he:=aQ) ?_;refine aZ ?_;refine aT (v:=.bool s.es[i]!.off) ?_;refine aA ?_;refine cF (fun hc2=>?_) fun hc2=>?_
  .refine aE ?_;refine aT (v:=Rec.D s.es[i]!.r) ?_;refine aq (hc:=h72 s.es[i]!.r hsm) ?_;refine bL ?_;refine aT (v:=.int .u64 s.es[i]!.sum) ?_;refine aq (hc:=h497 _) ?_;refine fF ?_;refine aA ?_;refine fF ?_;refine aA ?_;refine fF ?_;refine cx (nx':=38) (v:=.any) (m':=[(45,.row (uI s (i+1))),(0,.buf 2 [fP.D s]),(6,.bld (some 45) (uI s (i+1)).length true),(23,.buf 11 [cw.D s.es[i]!])]) (hc:=fun K' hK=>h489 _ _ K' ⟨(([101,110,116,114,121,32]++fO s.es[i]!.sum)++[32,111,102,102,10])++(dt s.es[i]!.r).1,6,uI s i,rfl,.inr ⟨7,true,aQ,aQ⟩,cb,aJ,by simp only[bP,aP,a8];omega,by rw[show uI s i++((([101,110,116,114,121,32]++fO s.es[i]!.sum)++[32,111,102,102,10])++(dt s.es[i]!.r).1)=uI s (i+1)from by rw[hxt,hee,hc2];rfl];exact hK⟩) (hn:=aF) ?_;refine aZ ?_;exact⟨i+1,ae,ae,(a7.to [(0,0),(6,6),(45,7)] ah ah eh (by refine bo.fW ah ah ah ?_;refine bo.bl 6 ah ah ah (aj List.length (rfl)) rfl ?_;refine bo.rw 45 ah ah (rfl) ?_;exact bo.nil))⟩
  refine ay ?_;refine aT (v:=Rec.D s.es[i]!.r) ?_;refine aq (hc:=h72 s.es[i]!.r hsm) ?_;refine bL ?_;refine aT (v:=.int .u64 s.es[i]!.sum) ?_;refine aq (hc:=h497 _) ?_;refine fF ?_;refine aA ?_;refine fF ?_;refine aA ?_;refine fF ?_;refine cx (nx':=37) (v:=.any) (m':=[(44,.row (uI s (i+1))),(0,.buf 2 [fP.D s]),(6,.bld (some 44) (uI s (i+1)).length true),(23,.buf 11 [cw.D s.es[i]!])]) (hc:=fun K' hK=>h489 _ _ K' ⟨(([101,110,116,114,121,32]++fO s.es[i]!.sum)++[32,111,110,10])++(dt s.es[i]!.r).1,6,uI s i,rfl,.inr ⟨7,true,aQ,aQ⟩,cb,aJ,by simp only[bP,aP,a8];omega,by rw[show uI s i++((([101,110,116,114,121,32]++fO s.es[i]!.sum)++[32,111,110,10])++(dt s.es[i]!.r).1)=uI s (i+1)from by rw[hxt,hee,hc2];rfl];exact hK⟩) (hn:=aF) ?_;refine aZ ?_;exact⟨i+1,ae,ae,(a7.to [(0,0),(6,6),(44,7)] ah ah eh (by refine bo.fW ah ah ah ?_;refine bo.bl 6 ah ah ah (aj List.length (rfl)) rfl ?_;refine bo.rw 44 ah ah (rfl) ?_;exact bo.nil))⟩
 refine ay ?_;have h33:i=s.es.length:=ae;subst h33;have hne:uI s s.es.length≠[]:=by unfold uI cv;simp[aS,fL]
 have hps:iV s=(uI s s.es.length,0):=by unfold iV;rw[ak (by simp[hc0]),Ft]
 refine cx (nx':=21) (v:=.str (uI s s.es.length)) (m':=[(0,.buf 2 [fP.D s])]) (hc:=fun K' hK=>h452 _ _ K' ⟨6,uI s s.es.length,rfl,.inr ⟨7,true,aQ,aQ⟩,hne,hK⟩) (hn:=aF) ?_;refine aB ?_;refine bF (aH (aj D.str ?_) (aj (D.int .i64) ?_));all_goals
  rw[hps];first|done|rfl
def zg (T:List D->D->Prop):Prop:=∀(s:fP),(∀x∈s.es,fA x.r)->T [fP.D s] (.tup [.str (iV s).1,.int .i64 (iV s).2])
def Z0 (Y:Ctx):Prop:=zg (bx Y 251)
noncomputable def GP:aC:=cP 10
def w85 {Y:Ctx}(hm:(Y.at 0).b7)(h251:Z0 Y)(h9086:Wh Y)    :dh Y GP (.bool true) []:=by
 show bJ _ _ _ [_,_,_,_,_,_,_,_] _;refine ar ?_;refine ay ?_;refine bg (.agg [.str m9,.bq]) ?_;refine aq (v:=.tup [.str NW,.int .i64 0]) (hc:=by have:=h251 ⟨m9,[]⟩ aJ;rw[aws_p]at this;exact this) ?_;refine aZ ?_;refine aq (v:=.tup [fP.D ⟨m9,[]⟩,.int .i64 0,.int .i64 0]) (hc:=by have:=h9086 NW aF Ye;rw[aws_1]at this;exact this) ?_;refine aA ?_;refine eX (fP.D _) ?_;refine ay ?_;refine aI (fP.D ⟨m9,[]⟩) (he:=aQ) ?_;refine aB ?_;refine aq (v:=.tup [fP.D (gS IP).1,.int .i64 2,.int .i64 2]) (hc:=by have:=h9086 IP aF Yf;rw[aj Prod.fst Wv,aj Prod.snd Wv]at this;exact this) ?_;refine aA ?_;refine eX (fP.D _) ?_;refine ay ?_;refine aI (fP.D (gS IP).1) (he:=aQ) ?_;refine WW ?_;refine aT (v:=.str m9) ?_;refine lN ?_;refine bU ?_;decide
def TW (T:List D->D->Prop):Prop:=T [] (.bool true)
def C85 (Y:Ctx):Prop:=TW (bx Y 85)
noncomputable def Pu:aC:=cP 173
def w630 {Y:Ctx}(hm:(Y.at 0).b7)  (a:Int)(b:Int)   :dh Y Pu (.int .i64 (fC a b)) [.int .i64 a,.int .i64 b]:=by
 show bJ _ _ _ [⟨_,_⟩,⟨_,_⟩,_,_,_] _;refine ar ?_;refine cZ ?_;refine fM (fun hc0=>?_) fun hc0=>?_
 .refine aE ?_;refine cX ?_;unfold fC;rw[aw hc0]
 refine aD ?_;refine fM (fun hc1=>?_) fun hc1=>?_
 .refine aE ?_;refine cX ?_;unfold fC;rw[ak hc0,aw hc1]
 refine aD ?_;refine cX ?_;unfold fC;rw[ak hc0,ak hc1]
def Ud (Y:Ctx):Prop:=zx (bx Y 630)
noncomputable def J2:aC:=cP 228
def w927 {Y:Ctx}(hm:(Y.at 0).b7)  (a:au)(b:au)   :dh Y J2 (.int .i64 (B8 a b)) [.str a,.str b]:=by
 show bJ _ _ _ [⟨_,_⟩,⟨_,_⟩,_,_,_] _;refine ar ?_;refine cZ ?_;refine fM (fun hc0=>?_) fun hc0=>?_
 .refine aE ?_;refine cX ?_;simp[B8,hc0]
 refine aD ?_;refine fM (fun hc1=>?_) fun hc1=>?_
 .refine aE ?_;refine cX ?_;simp_all[B8]
 refine aD ?_;refine cX ?_;simp_all[B8]
def C927 (Y:Ctx):Prop:=zw (bx Y 927)
noncomputable def Ta:aC:=cP 205
def w783 {Y:Ctx}(hm:(Y.at 0).b7)(h630:Ud Y)(h667:Qn Y)(h668:XB Y)(h927:C927 Y)(a:au)(b:au)   :dh Y Ta (.int .i64 (tk a b)) [.str a,.str b]:=by
 show bJ _ _ _ [⟨_,_⟩,⟨_,_⟩,_,_,_,_,_,_,_,_] _;refine ar ?_;refine aB ?_;refine aq (hc:=h668 _) ?_;refine aA ?_;refine aq (hc:=h668 _) ?_;refine fH ?_;refine fM (fun hc0=>?_) fun hc0=>?_
 .refine ax ?_;refine aq (hc:=h667 _) ?_;refine bL ?_;refine aq (hc:=h667 _) ?_;refine cZ ?_;refine aq (hc:=h630 _ _) ?_;refine aB ?_;refine cX ?_;unfold tk;rw[aw hc0]
 refine aB ?_;refine fM (fun hc1=>?_) fun hc1=>?_
 .refine aE ?_;refine cX ?_;have hn:¬(dc a=true/\dc b=true):=by rintro⟨h1,h2⟩;simp[h1,h2]at hc0
  unfold tk;rw[ak hn];rw[aw hc1]
 refine aB ?_;refine fM (fun hc2=>?_) fun hc2=>?_
 .refine aE ?_;refine cX ?_;have hn:¬(dc a=true/\dc b=true):=by rintro⟨h1,h2⟩;simp[h1,h2]at hc0
  unfold tk;rw[ak hn];rw[ak (by simp[hc1]),aw hc2]
 refine aE ?_;refine aq (hc:=h927 _ _) ?_;refine ay ?_;refine cX ?_;have hn:¬(dc a=true/\dc b=true):=by rintro⟨h1,h2⟩;simp[h1,h2]at hc0
 unfold tk;rw[ak hn];rw[ak (by simp[hc1]),ak (by simp[hc2])]
def C783 (Y:Ctx):Prop:=zz (bx Y 783)
noncomputable def Pv:aC:=cP 174
def w631 (h470:tz Y)(h630:Ud Y)(h783:C783 Y)(a:au)(b:au)  (hp0:a.length<=1048576/\b.length<=1048576):dh Y Pv (.int .i64 (wU a b)) [.str a,.str b]:=by
 show bJ _ _ _ [⟨_,_⟩,⟨_,_⟩,_,_,_,_,_,_,_,_,_,_] _;refine ar ?_;refine cZ ?_;refine fM (fun hc0=>?_) fun hc0=>?_
 .refine aE ?_;refine cX ?_;unfold wU;rw[aw hc0]
 refine aE ?_;refine fM (fun hc1=>?_) fun hc1=>?_
 .refine aE ?_;refine cX ?_;unfold wU;rw[ak hc0,aw hc1]
 refine aE ?_;refine fM (fun hc2=>?_) fun hc2=>?_
 .refine aE ?_;refine cX ?_;unfold wU;rw[ak hc0,ak hc1,aw hc2]
 refine aB ?_;refine aq (hc:=h470 a 46 hp0.1) ?_;refine aA ?_;refine aq (hc:=h470 b 46 hp0.2) ?_;refine aZ ?_;refine ba hm (ι:=Nat) (fun i=>[.un,.un,.un,.un,.un,.un,⟨true,.int .i64 (i:Nat)⟩,⟨true,.sl 1 ((ai a 46).map D.str)⟩,⟨true,.sl 1 ((ai b 46).map D.str)⟩,.un,.un,.un]) (fun i=>[]) 18 (fun i=>(i<=(ai a 46).length/\i<=(ai b 46).length)/\wU a b=tw (ai a 46) (ai b 46) i) (fun i=>(ai a 46).length-i) 0 ⟨⟨ae,ae⟩,by unfold wU;rw[ak hc0,ak hc1,ak hc2]⟩ (dr []) ?_;rintro i ⟨hi,hr⟩;refine aE ?_;intro u0;refine aB ?_;refine ik ?_;refine ay ?_;refine cF (fun hc3=>?_) fun hc3=>?_
 .refine aE ?_;refine bH i (hb:=fun _=>ae) ?_;refine bD (v:=.str (ai a 46)[i]!) (hi:=fun _=>ae) ?_;refine ax ?_;refine bH i (hb:=fun _=>ae) ?_;refine bD (v:=.str (ai b 46)[i]!) (hi:=fun _=>ae) ?_;refine aq (hc:=h783 _ _) ?_;refine aD ?_;refine fM (fun hc4=>?_) fun hc4=>?_
  .refine aZ ?_;refine cX ?_;rw[hr,DP ae hc4]
  refine bL ?_;exact⟨i+1,⟨⟨ae,ae⟩,by rw[hr,HY ae hc4]⟩,ae,(dr [])⟩
 refine aE ?_;intro u1;refine ax ?_;intro u2;refine aq (hc:=h630 _ _) ?_;refine ay ?_;refine cX ?_;rw[hr,DO ae]
def M5 (T:List D->D->Prop):Prop:=∀(a:au) (b:au),(a.length<=1048576/\b.length<=1048576)->T [.str a,.str b] (.int .i64 (wU a b))
def C631 (Y:Ctx):Prop:=M5 (bx Y 631)
noncomputable def E9:aC:=cP 126
def w424 {Y:Ctx}(hm:(Y.at 0).b7)(h217:IG Y)(h630:Ud Y)(h631:C631 Y)(a:cn)(b:cn)  (hp0:a.sm/\b.sm):dh Y E9 (.int .i64 (pD a b)) [cn.D a,cn.D b]:=by
 show bJ _ _ _ [⟨_,_⟩,⟨_,_⟩,_,_,_,_,_,_,_,_,_,_] _;refine ar ?_;refine aZ ?_;refine aq (hc:=h217 a hp0.1) ?_;refine ay ?_;refine c8 (hc:=fun hf=>h217 b hp0.2) ?_;refine ay ?_;refine av (fun hc0=>?_) (fun hc0=>?_)
 .simp only[cM,bd]at hc0;refine aE ?_;refine cX ?_;unfold pD;rw[aw hc0]
 simp only[dd,bK]at hc0;have hv:¬(eZ a=false\/eZ b=false):=by simp only[not_or,Bool.not_eq_false];first|exact hc0|exact hc0.1
 refine aZ ?_;refine aq (hc:=h630 _ _) ?_;refine aZ ?_;refine cF (fun hc1=>?_) fun hc1=>?_
 .refine aD ?_;refine cX ?_;unfold pD;rw[ak hv,aw hc1]
 refine aZ ?_;refine aq (hc:=h630 _ _) ?_;refine aZ ?_;refine cF (fun hc2=>?_) fun hc2=>?_
 .refine aD ?_;refine cX ?_;unfold pD;rw[ak hv,ak (by simpa using hc1),aw hc2]
 refine aZ ?_;refine aq (hc:=h630 _ _) ?_;refine aZ ?_;refine cF (fun hc3=>?_) fun hc3=>?_
 .refine aD ?_;refine cX ?_;unfold pD;rw[ak hv,ak (by simpa using hc1),ak (by simpa using hc2),aw hc3]
 refine aD ?_;refine aq (hc:=h631 a.pre b.pre ⟨hp0.1.1,hp0.2.1⟩) ?_;refine ay ?_;refine cX ?_;unfold pD;rw[ak hv,ak (by simpa using hc1),ak (by simpa using hc2),ak (by simpa using hc3)]
def C424 (Y:Ctx):Prop:=zh (bx Y 424)
noncomputable def E8:aC:=cP 108
def w461 {Y:Ctx}(hm:(Y.at 0).b7)(h249:NF Y)(w:bS)  (hp0:w.fit):dh Y E8 (.str (jG w)) [bS.D w]:=by
 show bJ _ _ _ [⟨_,_⟩,_,_,_,_,_,_] _;have q1:=BP hp0;have q2:=hp0.1.1.1;have q3:=hp0.1.1.2;refine ar ?_;refine gu ?_;intro u0;refine ax ?_;refine cF (fun hc0=>?_) fun hc0=>?_
 .refine ay ?_;refine aq (hc:=h249 w.feats 44 ae) ?_;refine aZ ?_;refine cF (fun hc1=>?_) fun hc1=>?_
  .refine aD ?_;refine fF ?_;refine fF ?_;refine aA ?_;refine fF ?_;refine fF ?_;refine aA ?_;refine fF ?_;refine fF ?_;refine ax ?_;refine fF ?_;refine fF ?_;refine ay ?_;refine c9 ?_;all_goals
    simp only[jG,cv,jc,aS,gn,jb,dF];first|rw[aw (show w.feats.length=0 by omega)]|rw[ak (show ¬w.feats.length=0 by omega)]
    simp[hc1]
  refine aB ?_;refine fF ?_;refine fF ?_;refine aA ?_;refine fF ?_;refine fF ?_;refine aA ?_;refine fF ?_;refine fF ?_;refine ax ?_;refine fF ?_;refine fF ?_;refine ay ?_;refine c9 ?_;all_goals
   simp only[jG,cv,jc,aS,gn,jb,dF];first|rw[aw (show w.feats.length=0 by omega)]|rw[ak (show ¬w.feats.length=0 by omega)]
   simp[hc1]
 refine aD ?_;refine cF (fun hc1=>?_) fun hc1=>?_
 .refine aD ?_;refine fF ?_;refine fF ?_;refine aA ?_;refine fF ?_;refine fF ?_;refine aA ?_;refine fF ?_;refine fF ?_;refine ax ?_;refine fF ?_;refine fF ?_;refine ay ?_;refine c9 ?_;all_goals
   simp only[jG,cv,jc,aS,gn,jb,dF];first|rw[aw (show w.feats.length=0 by omega)]|rw[ak (show ¬w.feats.length=0 by omega)]
   simp[hc1]
 refine aB ?_;refine fF ?_;refine fF ?_;refine aA ?_;refine fF ?_;refine fF ?_;refine aA ?_;refine fF ?_;refine fF ?_;refine ax ?_;refine fF ?_;refine fF ?_;refine ay ?_;refine c9 ?_;all_goals
  simp only[jG,cv,jc,aS,gn,jb,dF];first|rw[aw (show w.feats.length=0 by omega)]|rw[ak (show ¬w.feats.length=0 by omega)]
  simp[hc1]
def MM (T:List D->D->Prop):Prop:=∀(w:bS),(w.fit)->T [bS.D w] (.str (jG w))
def C461 (Y:Ctx):Prop:=MM (bx Y 461)
noncomputable def JS:aC:=cP 109
def w462 {Y:Ctx}(hm:(Y.at 0).b7)  (s:au)  (hp0:s.length<=1048576):dh Y JS (.str (ij s)) [.str s]:=by
 show bJ _ _ _ [⟨_,_⟩,_,_] _;refine ar ?_;refine aZ ?_;refine cF (fun hc0=>?_) fun hc0=>?_
 .refine aE ?_;refine c9 ?_;rw[ij,aw hc0]
 refine ay ?_;refine fF ?_;refine fF ?_;refine ay ?_;refine c9 ?_;rw[ij,ak hc0];simp[cv,aS,eF]
def MN (T:List D->D->Prop):Prop:=∀(s:au),(s.length<=1048576)->T [.str s] (.str (ij s))
def C462 (Y:Ctx):Prop:=MN (bx Y 462)
noncomputable def JR:aC:=cP 63
def w219 (h249:NF Y)(h316:C316 Y)(h461:C461 Y)(h462:C462 Y)(r:Rec)  (hp0:xG r/\fA r):dh Y JR (.str (gr r)) [Rec.D r]:=by
 show bJ _ _ _ [⟨_,_⟩,_,_,_,_,_,_,_,_,_,_,_,_] _;have hft:=CZ hp0;have q0:=hft.nm;have q00:=BM r.v hft.v;refine ar ?_;refine aD ?_;refine fF ?_;refine fF ?_;refine aA ?_;refine aT (v:=cn.D r.v) ?_;refine aq (hc:=h316 r.v hft.v) ?_;refine fF ?_;refine fF ?_;refine aD ?_;refine ba hm (ι:=Nat) (fun i=>[.un,.un,⟨true,.ptr 0 9 0 0⟩,⟨true,.int .i64 (i:Nat)⟩,.un,⟨true,.str (kJ r i)⟩,.un,.un,.un,.un,.un,.un,.un]) (fun i=>[(0,.buf 9 [Rec.D r])]) 13 (fun i=>i<=r.needs.length) (fun i=>r.needs.length-i) 0 ae (a7.to [(0,0)] ah ah (by repeat(first|exact dp.nil|refine dp.un ?_|refine dp.eq ah ?_|refine dp.nl (aj D.str (by rw[TB];simp[qL,cv,aS,dM])) ah ?_)) pT) ?_;intro i hi;have q1:=Fq hft i hi;refine aD ?_;intro u0;refine ax ?_;refine cF (fun hc0=>?_) fun hc0=>?_
 .refine ay ?_;have hnf:=hft.n _ (bE (show i<r.needs.length by omega));have hn3:=hnf.1.1;refine aA ?_;refine fF ?_;refine aD ?_;refine ba hm (ι:=Nat) (fun j=>[.un,.un,⟨true,.ptr 0 9 0 0⟩,⟨true,.int .i64 (i:Nat)⟩,.un,⟨true,.str (kJ r i++ee r.needs[i]! j)⟩,⟨true,.int .i64 (j:Nat)⟩,.un,.un,.un,.un,.un,.un]) (fun j=>[(0,.buf 9 [Rec.D r])]) 22 (fun j=>j<=r.needs[i]!.any.length) (fun j=>r.needs[i]!.any.length-j) 0 ae (a7.to [(0,0)] ah ah (by repeat(first|exact dp.nil|refine dp.un ?_|refine dp.eq ah ?_|refine dp.nl (aj D.str (by rw[Vk])) ah ?_)) pT) ?_;intro j hj;have q2:=Da hnf j ae;refine fS ?_;intro u1;refine ax ?_;refine cF (fun hc1=>?_) fun hc1=>?_
  .refine ay ?_;have hwf:=hnf.1.2 _ (bE (show j<r.needs[i]!.any.length by omega));have q3:=xn hwf;refine cZ ?_;first|refine bD (v:=(bS.D _)) ?_|refine e7 (v:=(bS.D _)) ?_
   refine aq (hc:=h461 r.needs[i]!.any[j]! hwf) ?_;refine fF ?_;refine cZ ?_;exact⟨j+1,ae,ae,(a7.to [(0,0)] ah ah (by repeat(first|exact dp.nil|refine dp.un ?_|refine dp.eq ah ?_|refine dp.nl (aj D.str (by rw[og ae,eu])) ah ?_)) pT)⟩
  refine ay ?_;have q4:=nU hnf.2.1;have q5:=hnf.2.2;refine aZ ?_;refine aq (hc:=h462 r.needs[i]!.when' hnf.2.1) ?_;refine fF ?_;refine fH ?_;refine fM (fun hc2=>?_) fun hc2=>?_
  .refine ax ?_;refine fF ?_;refine aD ?_;refine fF ?_;refine fF ?_;refine cZ ?_;have hq:kJ r (i+1)=kJ r i++(ee r.needs[i]! j++ij r.needs[i]!.when'++qV r.needs[i]!.option):=by rw[mR ae,wH (j:=j) ae]
   have ho:qV r.needs[i]!.option=[111,112,116,105,111,110,32]++r.needs[i]!.option++[10]:=by rw[qV,ak hc2];simp[cv,aS,cT]
   exact⟨i+1,ae,ae,(a7.to [(0,0)] ah ah (by repeat(first|exact dp.nil|refine dp.un ?_|refine dp.eq ah ?_|refine dp.nl (aj D.str (by rw[hq,ho];simp only[eu])) ah ?_)) pT)⟩
  refine bL ?_;have hq:kJ r (i+1)=kJ r i++(ee r.needs[i]! j++ij r.needs[i]!.when'++qV r.needs[i]!.option):=by rw[mR ae,wH (j:=j) ae]
  have ho:qV r.needs[i]!.option=[]:=by rw[qV,aw hc2]
  exact⟨i+1,ae,ae,(a7.to [(0,0)] ah ah (by repeat(first|exact dp.nil|refine dp.un ?_|refine dp.eq ah ?_|refine dp.nl (aj D.str (by rw[hq,ho];simp only[eu,gN])) ah ?_)) pT)⟩
 refine aB ?_;have h33:i=r.needs.length:=ae;subst h33;refine ax ?_;refine ba hm (ι:=Nat) (fun i=>[.un,.un,⟨true,.ptr 0 9 0 0⟩,.un,.un,⟨true,.str (BI r i)⟩,.un,.un,.un,⟨true,.int .i64 (i:Nat)⟩,.un,.un,.un]) (fun i=>[(0,.buf 9 [Rec.D r])]) 19 (fun i=>i<=r.bars.length) (fun i=>r.bars.length-i) 0 ae (a7.to [(0,0)] ah ah (by repeat(first|exact dp.nil|refine dp.un ?_|refine dp.eq ah ?_|refine dp.nl (aj D.str (by rw[TC])) ah ?_)) pT) ?_;intro i hi;have q1:=Fs hft i hi;refine aD ?_;intro u2;refine ax ?_;refine cF (fun hc3=>?_) fun hc3=>?_
 .refine ay ?_;have q4:=hft.b _ (bE (show i<r.bars.length by omega));have q5:=q4.1;have q6:=q4.2.1;have q7:=nU q4.2.2;refine aA ?_;refine fF ?_;refine aD ?_;refine fF ?_;refine fF ?_;refine aD ?_;refine fF ?_;refine fF ?_;refine aD ?_;refine aq (hc:=h462 r.bars[i]!.when' q4.2.2) ?_;refine fF ?_;refine cZ ?_;have hq:=H6 (r:=r) (i:=i) ae;exact⟨i+1,ae,ae,(a7.to [(0,0)] ah ah (by repeat(first|exact dp.nil|refine dp.un ?_|refine dp.eq ah ?_|refine dp.nl (aj D.str (by rw[hq];simp[uR,cv,aS,fE])) ah ?_)) pT)⟩
 refine aB ?_;have h33:i=r.bars.length:=ae;subst h33;refine ax ?_;refine ba hm (ι:=Nat) (fun i=>[.un,.un,⟨true,.ptr 0 9 0 0⟩,.un,.un,⟨true,.str (DU r i)⟩,.un,.un,.un,.un,.un,⟨true,.int .i64 (i:Nat)⟩,.un]) (fun i=>[(0,.buf 9 [Rec.D r])]) 25 (fun i=>i<=r.feats.length) (fun i=>r.feats.length-i) 0 ae (a7.to [(0,0)] ah ah (by repeat(first|exact dp.nil|refine dp.un ?_|refine dp.eq ah ?_|refine dp.nl (aj D.str (by rw[TE])) ah ?_)) pT) ?_;intro i hi;have q1:=L2 hft i hi;refine aD ?_;intro u3;refine ax ?_;refine cF (fun hc4=>?_) fun hc4=>?_
 .refine ay ?_;have q4:=hft.f _ (bE (show i<r.feats.length by omega));have q5:=CR q4;have q6:=q4.2;simp only[qK,cv,bP,aP,a8]at q5;refine aZ ?_;refine df [(.str _),(.str _)] ?_;refine aD ?_;refine SP (xs:=[b8,r.feats[i]!.name]) (ys:=r.feats[i]!.of) (he:=sA.sl) (hb:=cb) ?_;refine aq (hc:=h249 ([b8,r.feats[i]!.name]++r.feats[i]!.of) 32 ae) (ha:=fun _=>aj (fun d=>[d,D.int .u8 32]) (oZ (q:=D.str) (fun _=>rfl) ah)) (hp:=fun _=>⟨mT (q:=D.str) (fun _=>rfl) ah,rfl,trivial⟩) ?_;refine dj (hb:=fun _=>by first|omega|(simp only[bP,aP,a8];omega)) ?_;refine dj (hb:=fun _=>by first|omega|(simp only[bP,aP,a8];omega)) ?_;refine cZ ?_;have hq:=H7 (r:=r) (i:=i) ae;exact⟨i+1,ae,ae,(a7.to [(0,0)] ah ah (by repeat(first|exact dp.nil|refine dp.un ?_|refine dp.eq ah ?_|refine dp.nl (aj D.str (by rw[hq];simp[qK,cv])) ah ?_)) pT)⟩
 refine ay ?_;have h33:i=r.feats.length:=ae;subst h33;refine aB ?_;refine c9 ?_;exact Fu r
noncomputable def Hv:aC:=cP 26
def w73 {Y:Ctx}(hm:(Y.at 0).b7)(h71:C71 Y)(h219:W2 Y)(r:Rec)  (hp0:fA r):dh Y Hv (.tup [.str (dt r).1,.int .i64 (dt r).2]) [Rec.D r]:=by
 show bJ _ _ _ [⟨_,_⟩,_,_,_,_,_] _;refine ar ?_;refine aZ ?_;refine aq (hc:=h71 r hp0) ?_;refine fH ?_;refine cF (fun hc0=>?_) fun hc0=>?_
 .refine aZ ?_;refine bF (aH (aj D.str ?_) (aj (D.int .i64) ?_));all_goals
   simp[dt,hc0]
 refine ax ?_;have hgd:=oN hc0;refine aA ?_;refine aq (hc:=h219 r ⟨hgd,hp0⟩) ?_;refine aB ?_;refine bF (aH (aj D.str ?_) (aj (D.int .i64) ?_));all_goals
  simp[dt,hc0]
def C73 (Y:Ctx):Prop:=FC (bx Y 73)
noncomputable def Pl:aC:=cP 60
def w75 {Y:Ctx}(hm:(Y.at 0).b7)(h73:C73 Y)(h221:ZR Y)(r:Rec)  (hp0:fA r):dh Y Pl (.tup [.int .u64 (mP r),.int .i64 (dt r).2]) [Rec.D r]:=by
 show bJ _ _ _ [⟨_,_⟩,_,_,_,_,_,_] _;refine ar ?_;refine aD ?_;refine aq (hc:=h73 r hp0) ?_;refine fH ?_;refine cF (fun hc0=>?_) fun hc0=>?_
 .refine aZ ?_;refine bF (aH (aj (D.int .u64) ?_) (aj (D.int .i64) ?_));all_goals
   simp[mP,hc0]
 refine aB ?_;refine aq (hc:=h221 (dt r).1) (ha:=fun _=>aj (fun d=>[d]) (oZ (q:=fun b:UInt8=>D.int .u8 b.toNat) (fun _=>rfl) ah)) (hp:=fun _=>⟨mT (q:=fun b:UInt8=>D.int .u8 b.toNat) (fun _=>rfl) ah,trivial⟩) ?_;refine aB ?_;refine bF (aH (aj (D.int .u64) ?_) (aj (D.int .i64) ?_));all_goals
  simp[mP,hc0]
def C75 (Y:Ctx):Prop:=FD (bx Y 75)
noncomputable def Pq:aC:=cP 76
def w501 {Y:Ctx}(hm:(Y.at 0).b7)(h217:IG Y)(h424:C424 Y)(a:cn)(b:cn)  (hp0:a.sm/\b.sm):dh Y Pq (.bool (AX a b)) [cn.D a,cn.D b]:=by
 show bJ _ _ _ [⟨_,_⟩,⟨_,_⟩,_,_,_] _;refine ar ?_;refine aD ?_;refine aq (hc:=h217 a hp0.1) ?_;refine ax ?_;refine c8 (hc:=fun hf=>h217 b hp0.2) ?_;refine aB ?_;refine c8 (hc:=fun hf=>h424 a b hp0) ?_;refine aE ?_;exact bU rfl
def Xq (Y:Ctx):Prop:=zI (bx Y 501)
noncomputable def Hy:aC:=cP 61
def w580 (h501:Xq Y)(l:List cw)(nm:au)(v:cn)  (hp0:(∀x∈l,x.r.v.sm)/\v.sm):dh Y Hy (.int .i64 (tj l nm v 0)) [.sl 11 (l.map cw.D),.str nm,cn.D v]:=by
 show bJ _ _ _ [⟨_,_⟩,⟨_,_⟩,⟨_,_⟩,_,_,_,_,_] _;refine ar ?_;refine aZ ?_;refine ba hm (ι:=Nat) (fun i=>[⟨true,.sl 11 (l.map cw.D)⟩,⟨true,.str nm⟩,.un,.un,⟨true,.int .i64 (i:Nat)⟩,.un,⟨true,.ptr 0 5 0 0⟩,.un]) (fun i=>[(0,.buf 5 [cn.D v])]) 3 (fun i=>i<=l.length/\tj l nm v 0=tj l nm v i) (fun i=>l.length-i) 0 ⟨ae,rfl⟩ (dr [(0,0)]) ?_;rintro i ⟨hi,hr⟩;refine aE ?_;intro u0;refine ax ?_;refine cF (fun hc0=>?_) fun hc0=>?_
 .refine aE ?_;refine bH i ?_;refine ax ?_;refine bD (v:=.str l[i]!.r.name) ?_;refine aE ?_;refine bH i ?_;refine ax ?_;refine bD (v:=cn.D l[i]!.r.v) ?_;refine aA ?_;refine c8 (hc:=fun hf=>h501 l[i]!.r.v v ⟨hp0.1 _ (bE ae),hp0.2⟩) ?_;refine ax ?_;refine fM (fun hc1=>?_) fun hc1=>?_
  .refine aZ ?_;refine cX ?_;rw[hr,SA ae (U7 hc1)]
  refine bL ?_;exact⟨i+1,⟨ae,by rw[hr,SC ae (YC hc1)]⟩,ae,(dr [(0,0)])⟩
 refine aD ?_;refine cX ?_;rw[hr,LB ae]
def Xu (Y:Ctx):Prop:=zu (bx Y 580)
noncomputable def Po:aC:=cP 25
def w358 (h75:C75 Y)(h216:IF Y)(h580:Xu Y)(s:fP)  (hp0:∀x∈s.es,fA x.r):dh Y Po (.bool (kg s)) [fP.D s]:=by
 show bJ _ _ _ [⟨_,_⟩,_,_,_,_,_,_,_,_,_] _;refine ar ?_;refine aD ?_;refine aT (v:=.str s.name) ?_;refine aq (hc:=h216 _) ?_;refine ay ?_;refine aT (v:=.sl 11 (s.es.map cw.D)) ?_;refine ik ?_;refine ay ?_;refine av (fun hc0=>?_) (fun hc0=>?_)
 .simp only[cM,bd,aK]at hc0;have hf:kg s=false:=by
   unfold kg;rcases hc0 with h|h
   .rw[h];rfl
   .rw[show decide (s.es.length<=64)=false from cG ae];simp
  refine aE ?_;refine bU ?_;exact hf.symm
 simp only[dd,bK,bc]at hc0;have hq:kg s=cQ (pe s.es) 0 s.es.length:=by unfold kg;rw[hc0.1,b9 (show s.es.length<=64 by omega)];simp
 refine aE ?_;refine ba hm (ι:=Nat) (fun i=>[.un,.un,⟨true,.ptr 0 2 0 0⟩,.un,⟨true,.int .i64 (i:Nat)⟩,.un,.un,.un,.un,.un]) (fun i=>[(0,.buf 2 [fP.D s])]) 13 (fun i=>i<=s.es.length/\kg s=cQ (pe s.es) i s.es.length) (fun i=>s.es.length-i) 0 ⟨ae,hq⟩ (dr [(0,0)]) ?_;rintro i ⟨hi,hr⟩;refine aB ?_;refine aT (v:=.sl 11 (s.es.map cw.D)) ?_;refine aA ?_;intro u0;refine ax ?_;refine cF (fun hc1=>?_) fun hc1=>?_
 .refine ay ?_;have hsm:=hp0 _ (bE (show i<s.es.length by omega));refine aA ?_;refine aT (v:=.sl 11 (s.es.map cw.D)) ?_;refine aA ?_;refine bH i ?_;refine bD (v:=cw.D s.es[i]!) ?_;refine aA ?_;refine aI (cw.D s.es[i]!) (he:=aQ) ?_;refine ay ?_;refine aT (v:=Rec.D s.es[i]!.r) ?_;refine aq (hc:=h75 s.es[i]!.r hsm) ?_;refine gu ?_;refine aT (v:=.int .u64 s.es[i]!.sum) ?_;refine aB ?_;refine aT (v:=.sl 11 (s.es.map cw.D)) ?_;refine ax ?_;refine aT (v:=.str s.es[i]!.r.name) ?_;refine ax ?_;refine aT (v:=cn.D s.es[i]!.r.v) ?_;refine c8 (hc:=fun hf=>h580 s.es s.es[i]!.r.name s.es[i]!.r.v ⟨fun x hx=>(hp0 x hx).1.2,hsm.1.2⟩) ?_;refine aB ?_;refine wp_cond (fun hc2=>?_) (fun hc2=>?_)
  .have hen:pe s.es i=false:=by
    simp only[cM,bd,aK,bc]at hc2;exact UB ae hc2
   refine aD ?_;refine bU ?_;rw[hr,aU ae,hen];rfl
  have hen:pe s.es i=true:=by
   simp only[dd,bK,aK,bc]at hc2;exact Q4 ae hc2.1.1 hc2.1.2 hc2.2
  refine bL ?_;exact⟨i+1,⟨ae,by rw[hr,aU ae,hen];rfl⟩,ae,(dr [(0,0)])⟩
 refine aD ?_;refine bU ?_;rw[hr,cj ae]
def Xc (Y:Ctx):Prop:=zj (bx Y 358)
noncomputable def Bo:aC:=cP 175
def w477 {Y:Ctx}(hm:(Y.at 0).b7)(h226:W5 Y)(a:bS)(b:bS)   :dh Y Bo (.bool (decide (a=b))) [bS.D a,bS.D b]:=by
 show bJ _ _ _ [⟨_,_⟩,⟨_,_⟩,_,_,_] _;refine ar ?_;refine TZ ?_;refine WN (hb:=Yp _ _) ?_;refine aD ?_;refine aq (hc:=h226 _ _) ?_;refine aB ?_;refine bU ?_;rw[bS.xY a b]
def MT (T:List D->D->Prop):Prop:=∀(a:bS) (b:bS),T [bS.D a,bS.D b] (.bool (decide (a=b)))
def C477 (Y:Ctx):Prop:=MT (bx Y 477)
noncomputable def Bn:aC:=cP 127
def w225 (h477:C477 Y)(a:bp)(b:bp)   :dh Y Bn (.bool (decide (a=b))) [bp.D a,bp.D b]:=by
 show bJ _ _ _ [⟨_,_⟩,⟨_,_⟩,_,_,_,_,_,_,_] _;refine ar ?_;refine zzz21 ?_;refine ik ?_;refine ax ?_;refine ik ?_;refine ay ?_;refine av (fun hc0=>?_) (fun hc0=>?_)
 .simp only[cM,bd,bc]at hc0;refine aE ?_;refine bU ?_;symm;rw[bc];rintro rfl;simp at hc0
 simp only[dd,bK,aK]at hc0;refine aE ?_;have hb:=bp.same3 hc0.1.1 hc0.1.2 ae;refine ba hm (ι:=Nat) (fun i=>[.un,.un,.un,⟨true,.ptr 0 3 0 0⟩,⟨true,.ptr 1 3 0 0⟩,.un,⟨true,.int .i64 (i:Nat)⟩,.un,.un]) (fun i=>[(0,.buf 3 [bp.D a]),(1,.buf 3 [bp.D b])]) 25 (fun i=>i<=a.any.length/\decide (a=b)=cQ (fun i=>decide (a.any[i]! =b.any[i]!)) i a.any.length) (fun i=>a.any.length-i) 0 ⟨ae,hb⟩ (dr [(0,0),(1,1)]) ?_;rintro i ⟨hi,hr⟩;refine aD ?_;intro u0;refine ax ?_;refine cF (fun hc1=>?_) fun hc1=>?_
 .refine aZ ?_;first|refine bD (v:=(bS.D _)) ?_|refine e7 (v:=(bS.D _)) ?_
  refine aB ?_;first|refine bD (v:=(bS.D _)) ?_|refine e7 (v:=(bS.D _)) ?_
  refine aq (hc:=h477 _ _) ?_;refine ax ?_;refine wp_cond (fun hc2=>?_) (fun hc2=>?_)
  .simp only[bd,bc]at hc2;refine aD ?_;refine bU ?_;rw[hr,aU ae,cG hc2];rfl
  simp only[bK,aK]at hc2;refine bL ?_;exact⟨i+1,⟨ae,by rw[hr,aU ae,b9 hc2];rfl⟩,ae,(dr [(0,0),(1,1)])⟩
 refine aD ?_;refine bU ?_;rw[hr,cj ae]
def Mf (T:List D->D->Prop):Prop:=∀(a:bp) (b:bp),T [bp.D a,bp.D b] (.bool (decide (a=b)))
def ZT (Y:Ctx):Prop:=Mf (bx Y 225)
noncomputable def JO:aC:=cP 78
def w78 (h225:ZT Y)(h226:W5 Y)(a:Rec)(b:Rec)   :dh Y JO (.bool (decide (a=b))) [Rec.D a,Rec.D b]:=by
 show bJ _ _ _ [⟨_,_⟩,⟨_,_⟩,_,_,_,_,_,_,_,_,_,_,_,_,_] _;refine ar ?_;refine lN ?_;refine aT (v:=(cn.D _)) ?_;refine aA ?_;refine aT (v:=(cn.D _)) ?_;refine LG (hb:=cn.eq _ _) ?_;refine aB ?_;refine ik ?_;refine ax ?_;refine ik ?_;refine aE ?_;refine ik ?_;refine ax ?_;refine ik ?_;refine aE ?_;refine ik ?_;refine ax ?_;refine ik ?_;refine ay ?_;refine av (fun hc0=>?_) (fun hc0=>?_)
 .simp only[cM,bd,bc]at hc0;refine aE ?_;refine bU ?_;symm;rw[bc];rintro rfl;simp at hc0
 simp only[dd,bK,aK]at hc0;refine aE ?_;have hb:=pX (show a.needs.length=b.needs.length by omega);refine ba hm (ι:=Nat) (fun i=>[.un,.un,.un,⟨true,.ptr 0 9 0 0⟩,⟨true,.ptr 1 9 0 0⟩,.un,⟨true,.int .i64 (i:Nat)⟩,.un,.un,.un,.un,.un,.un,.un,.un]) (fun i=>[(0,.buf 9 [Rec.D a]),(1,.buf 9 [Rec.D b])]) 43 (fun i=>i<=a.needs.length/\decide (a.needs=b.needs)=cQ (fun i=>decide (a.needs[i]! =b.needs[i]!)) i a.needs.length) (fun i=>a.needs.length-i) 0 ⟨ae,hb⟩ (dr [(0,0),(1,1)]) ?_;rintro i ⟨hi,hr⟩;refine aD ?_;intro u0;refine ax ?_;refine cF (fun hc1=>?_) fun hc1=>?_
 .refine aZ ?_;first|refine bD (v:=(bp.D _)) ?_|refine e7 (v:=(bp.D _)) ?_
  refine aB ?_;first|refine bD (v:=(bp.D _)) ?_|refine e7 (v:=(bp.D _)) ?_
  refine aq (hc:=h225 _ _) ?_;refine ax ?_;refine wp_cond (fun hc2=>?_) (fun hc2=>?_)
  .simp only[bd,bc]at hc2;refine aD ?_;refine bU ?_;have hd:decide (a.needs=b.needs)=false:=by rw[hr,aU ae,cG hc2];rfl
   rw[Rec.xY a b,hd];simp
  simp only[bK,aK]at hc2;refine bL ?_;exact⟨i+1,⟨ae,by rw[hr,aU ae,b9 hc2];rfl⟩,ae,(dr [(0,0),(1,1)])⟩
 refine aB ?_;have hn:decide (a.needs=b.needs)=true:=by rw[hr,cj ae]
 refine ax ?_;have hb:=pX (show a.bars.length=b.bars.length by omega);refine ba hm (ι:=Nat) (fun i=>[.un,.un,.un,⟨true,.ptr 0 9 0 0⟩,⟨true,.ptr 1 9 0 0⟩,.un,.un,.un,.un,⟨true,.int .i64 (i:Nat)⟩,.un,.un,.un,.un,.un]) (fun i=>[(0,.buf 9 [Rec.D a]),(1,.buf 9 [Rec.D b])]) 49 (fun i=>i<=a.bars.length/\decide (a.bars=b.bars)=cQ (fun i=>decide (a.bars[i]! =b.bars[i]!)) i a.bars.length) (fun i=>a.bars.length-i) 0 ⟨ae,hb⟩ (dr [(0,0),(1,1)]) ?_;rintro i ⟨hi,hr⟩;refine aD ?_;intro u1;refine ax ?_;refine cF (fun hc3=>?_) fun hc3=>?_
 .refine aZ ?_;first|refine bD (v:=(fq.D _)) ?_|refine e7 (v:=(fq.D _)) ?_
  refine aB ?_;first|refine bD (v:=(fq.D _)) ?_|refine e7 (v:=(fq.D _)) ?_
  refine LG (hb:=fq.eq _ _) ?_;refine aA ?_;refine wp_cond (fun hc4=>?_) (fun hc4=>?_)
  .simp only[bd,bc]at hc4;refine aD ?_;refine bU ?_;have hd:decide (a.bars=b.bars)=false:=by rw[hr,aU ae,cG hc4];rfl
   rw[Rec.xY a b,hd];simp
  simp only[bK,aK]at hc4;refine bL ?_;exact⟨i+1,⟨ae,by rw[hr,aU ae,b9 hc4];rfl⟩,ae,(dr [(0,0),(1,1)])⟩
 refine aB ?_;have hbr:decide (a.bars=b.bars)=true:=by rw[hr,cj ae]
 refine ax ?_;have hb:=pX (show a.feats.length=b.feats.length by omega);refine ba hm (ι:=Nat) (fun i=>[.un,.un,.un,⟨true,.ptr 0 9 0 0⟩,⟨true,.ptr 1 9 0 0⟩,.un,.un,.un,.un,.un,.un,.un,⟨true,.int .i64 (i:Nat)⟩,.un,.un]) (fun i=>[(0,.buf 9 [Rec.D a]),(1,.buf 9 [Rec.D b])]) 55 (fun i=>i<=a.feats.length/\decide (a.feats=b.feats)=cQ (fun i=>decide (a.feats[i]! =b.feats[i]!)) i a.feats.length) (fun i=>a.feats.length-i) 0 ⟨ae,hb⟩ (dr [(0,0),(1,1)]) ?_;rintro i ⟨hi,hr⟩;refine aD ?_;intro u2;refine ax ?_;refine cF (fun hc5=>?_) fun hc5=>?_
 .refine zzz29 ?_;refine aq (hc:=h226 _ _) ?_;refine ay ?_;refine wp_cond (fun hc6=>?_) (fun hc6=>?_)
  .simp only[cM,bd,bc]at hc6;replace hc6:¬a.feats[i]! =b.feats[i]! :=fun e=>by rw[e]at hc6;simp at hc6
   refine aD ?_;refine bU ?_;have hd:decide (a.feats=b.feats)=false:=by rw[hr,aU ae,cG hc6];rfl
   rw[Rec.xY a b,hd];simp
  simp only[dd,bK,aK]at hc6;replace hc6:a.feats[i]! =b.feats[i]! :=bZ.eq2 hc6.1 hc6.2;refine bL ?_;exact⟨i+1,⟨ae,by rw[hr,aU ae,b9 hc6];rfl⟩,ae,(dr [(0,0),(1,1)])⟩
 refine aD ?_;refine bU ?_;have hf:decide (a.feats=b.feats)=true:=by rw[hr,cj ae]
 rw[Rec.xY a b,hn,hbr,hf,b9 hc0.1.1.1.1,b9 hc0.1.1.1.2];rfl
def TU (T:List D->D->Prop):Prop:=∀(a:Rec) (b:Rec),T [Rec.D a,Rec.D b] (.bool (decide (a=b)))
def C78 (Y:Ctx):Prop:=TU (bx Y 78)
noncomputable def yt:aC:=cP 43
def w263 {Y:Ctx}(hm:(Y.at 0).b7)(h78:C78 Y)(a:cw)(b:cw)   :dh Y yt (.bool (decide (a.sum=b.sum)&&decide (a.r=b.r))) [cw.D a,cw.D b]:=by
 show bJ _ _ _ [⟨_,_⟩,⟨_,_⟩,_,_,_] _;refine ar ?_;refine aD ?_;refine aT (v:=.int .u64 a.sum) ?_;refine aA ?_;refine aT (v:=.int .u64 b.sum) ?_;refine ay ?_;refine aT (v:=Rec.D a.r) ?_;refine aA ?_;refine aT (v:=Rec.D b.r) ?_;refine c8 (hc:=fun hf=>h78 a.r b.r) ?_;refine aB ?_;exact bU rfl
def MD (T:List D->D->Prop):Prop:=∀(a:cw) (b:cw),T [cw.D a,cw.D b] (.bool (decide (a.sum=b.sum)&&decide (a.r=b.r)))
def Z9 (Y:Ctx):Prop:=MD (bx Y 263)
noncomputable def JU:aC:=cP 15
def w88 (h263:Z9 Y)(a:fP)(b:fP)   :dh Y JU (.bool (decide (a=b))) [fP.D a,fP.D b]:=by
 show bJ _ _ _ [⟨_,_⟩,⟨_,_⟩,_,_,_,_,_,_,_] _;refine ar ?_;refine aZ ?_;refine aT (v:=.str a.name) ?_;refine aA ?_;refine aT (v:=.str b.name) ?_;refine ay ?_;refine aT (v:=.sl 11 (a.es.map cw.D)) ?_;refine ik ?_;refine aA ?_;refine aT (v:=.sl 11 (b.es.map cw.D)) ?_;refine ik ?_;refine ay ?_;refine av (fun hc0=>?_) (fun hc0=>?_)
 .simp only[cM,bd,aK,bc]at hc0;refine aE ?_;refine bU ?_;symm;apply cG;rintro rfl;rcases hc0 with h|h
  .exact h rfl
  .exact h rfl
 simp only[dd,bK,aK,bc,Classical.not_not]at hc0;obtain⟨hnm,hln⟩:=hc0;replace hln:a.es.length=b.es.length:=ae;refine aE ?_;refine ba hm (ι:=Nat) (fun i=>[.un,.un,.un,⟨true,.ptr 0 2 0 0⟩,⟨true,.ptr 1 2 0 0⟩,.un,⟨true,.int .i64 (i:Nat)⟩,.un,.un]) (fun i=>[(0,.buf 2 [fP.D a]),(1,.buf 2 [fP.D b])]) 18 (fun i=>i<=a.es.length/\∀j,j<i->a.es[j]! =b.es[j]!) (fun i=>a.es.length-i) 0 ⟨ae,fun j h=>ae⟩ (dr [(0,0),(1,1)]) ?_;rintro i ⟨hi,hr⟩;refine aB ?_;refine aT (v:=.sl 11 (a.es.map cw.D)) ?_;refine aA ?_;intro u0;refine ax ?_;refine cF (fun hc1=>?_) fun hc1=>?_
 .refine aB ?_;refine aT (v:=.sl 11 (a.es.map cw.D)) ?_;refine aA ?_;refine bH i (hb:=fun _=>ae) ?_;refine bD (v:=cw.D a.es[i]!) (hi:=fun _=>ae) ?_;refine aA ?_;refine aT (v:=.sl 11 (b.es.map cw.D)) ?_;refine aA ?_;refine bH i (hb:=fun _=>ae) ?_;refine bD (v:=cw.D b.es[i]!) (hi:=fun _=>ae) ?_;refine aq (hc:=h263 a.es[i]! b.es[i]!) ?_;refine sy ?_;refine LG (hb:=Yp _ _) ?_;refine ax ?_;refine wp_cond (fun hc2=>?_) (fun hc2=>?_)
  .simp only[dn]at hc2;refine aD ?_;refine bU ?_;symm;apply cG;rintro rfl;simp at hc2
  simp only[dn]at hc2;refine bL ?_;exact⟨i+1,⟨ae,fun j h=>(Nat.lt_or_eq_of_le (Nat.le_of_lt_succ h)).elim (hr j) fun e=>e▸Yr hc2⟩,ae,(dr [(0,0),(1,1)])⟩
 refine aD ?_;refine bU ?_;symm;exact b9 (Zi hnm hln fun j h=>hr j ae)
def TX (T:List D->D->Prop):Prop:=∀(a:fP) (b:fP),T [fP.D a,fP.D b] (.bool (decide (a=b)))
def C88 (Y:Ctx):Prop:=TX (bx Y 88)
noncomputable def wZ:aC:=cP 45
def w504 {Y:Ctx}(hm:(Y.at 0).b7)(s:fP)(r:Rec)(h75:C75 Y)(h358:Xc Y)(h580:Xu Y)(hp0:(∀x∈s.es,fA x.r)/\fA r):bJ (Y.at 0) wZ.body (jQ wZ (PutQ s r):Ex->List cg->St->Prop) (fD wZ [fP.D s,Rec.D r]) ⟨0,[]⟩:=by
 show bJ _ _ _ [⟨_,_⟩,⟨_,_⟩,_,_,_,_,_,_,_,_,_,_] _;refine ar ?_;refine aZ ?_;refine cz (d:=fP.D s) ?_;refine aq (hc:=h358 s hp0.1) ?_;refine ax ?_;refine av (fun hc0=>?_) (fun hc0=>?_)
 .simp only[bd]at hc0;have hz:na s r=(oI,1):=by unfold na;rw[aw hc0]
  refine ax ?_;refine de _ ?_;refine aB ?_;refine bO trivial rW (bR ah (aH ?_ (aj (D.int .i64) ?_))) ah (.inl ⟨by rw[hz];decide,rfl⟩);all_goals first|rfl|(rw[hz];done)|(rw[hz];rfl)
 simp only[bK]at hc0;have hq0:¬kg s=false:=by simp[hc0]
 refine ax ?_;refine cz (d:=Rec.D r) ?_;refine aq (hc:=h75 r hp0.2) ?_;refine gu ?_;refine wp_cond (fun hc1=>?_) (fun hc1=>?_)
 .simp only[bd,bc]at hc1;have hz:na s r=(oI,(dt r).2):=by unfold na;rw[ak hq0,aw hc1]
  refine aA ?_;refine de _ ?_;refine aD ?_;refine bO trivial rW (bR ah (aH ?_ (aj (D.int .i64) ?_))) ah (.inl ⟨by rw[hz];exact hc1,rfl⟩);all_goals first|rfl|(rw[hz];done)|(rw[hz];rfl)
 simp only[bK,aK]at hc1;have hq1:¬¬(dt r).2=0:=fun h=>h hc1
 refine ax ?_;refine aT (v:=.sl 11 (s.es.map cw.D)) ?_;refine aA ?_;refine aT (v:=.str r.name) ?_;refine aA ?_;refine aT (v:=cn.D r.v) ?_;refine aq (hc:=h580 s.es r.name r.v ⟨fun x hx=>(hp0.1 x hx).1.2,hp0.2.1.2⟩) ?_;refine ay ?_;refine wp_cond (fun hc2=>?_) (fun hc2=>?_)
 .simp only[aK]at hc2;have hz:na s r=(oI,8):=by unfold na;rw[ak hq0,ak hq1,aw hc2]
  refine aA ?_;refine de _ ?_;refine aE ?_;refine bO trivial rW (bR ah (aH ?_ (aj (D.int .i64) ?_))) ah (.inl ⟨by rw[hz];decide,rfl⟩);all_goals first|rfl|(rw[hz];done)|(rw[hz];rfl)
 simp only[bc]at hc2;refine ax ?_;refine aT (v:=.sl 11 (s.es.map cw.D)) ?_;refine aA ?_;intro u0;refine ay ?_;refine wp_cond (fun hc3=>?_) (fun hc3=>?_)
 .simp only[aK]at hc3;have hz:na s r=(oI,10):=by unfold na;rw[ak hq0,ak hq1,ak hc2,aw ae]
  refine aA ?_;refine de _ ?_;refine aE ?_;refine bO trivial rW (bR ah (aH ?_ (aj (D.int .i64) ?_))) ah (.inl ⟨by rw[hz];decide,rfl⟩);all_goals first|rfl|(rw[hz];done)|(rw[hz];rfl)
 simp only[bc]at hc3;have hz:na s r=(⟨s.name,oG s r⟩,0):=by unfold na;rw[ak hq0,ak hq1,ak hc2,ak ae];rfl
 refine ax ?_;refine eH 0 ?_;refine ax ?_;refine Bf (v:=.str s.name) ?_;refine aA ?_;refine e7 (v:=.sl 11 (s.es.map cw.D)) ?_;refine LF (he:=sA.sl) (n:=s.es.length) (hn:=aJ) (hb:=ae) ?_;refine cz (d:=Rec.D r) ?_;refine aA ?_;refine bg (cw.D (⟨r,mP r,false⟩:cw)) ?_;refine df [cw.D (⟨r,mP r,false⟩:cw)] ?_;refine gL (q:=cw.D) (xs:=s.es) (e:=(⟨r,mP r,false⟩:cw)) (hb:=ae) ?_;refine bg (.agg [.str s.name,.own 40 11 0 (oG s r).length]) ?_;refine aI (.agg [.str s.name,.own 40 11 0 (oG s r).length]) (he:=aQ) ?_;refine ay ?_;refine bO trivial rW (bR ah (aH ?_ (aj (D.int .i64) ?_))) ah (.inr ⟨by rw[hz],40,rfl,aQ⟩);all_goals rfl
def Xr (Y:Ctx):Prop:=∀(s:fP) (r:Rec),((∀x∈s.es,fA x.r)/\fA r)->∀(nx:Nat) (m:List (Nat×bW)) (K:D->St->Prop),(¬(na s r).2=0->K (.tup [.agg [.str [],.bq],.int .i64 (na s r).2]) ⟨nx,m⟩)->((na s r).2=0->K (.tup [.agg [.str s.name,.own nx 11 0 (oG s r).length],.int .i64 0]) ⟨nx+1,(nx,.buf 11 ((oG s r).map cw.D))::m⟩)->Y.tr 504 [fP.D s,Rec.D r] ⟨nx,m⟩ K
noncomputable def Jl:aC:=cP 16
def w1203 (h79:C79 Y)(h228:IH Y)(h504:Xr Y)(l:List Int)(i:Int)(nm:au)(most:Nat)  (hp0:(0<=i/\i<=100000)/\most<=60/\dK nm=true):dh Y Jl (fP.D (B2 l i nm most)) [.sl 1 (l.map (D.int .i64)),.int .i64 i,.str nm,.int .i64 (most:Nat)]:=by
 show bJ _ _ _ [⟨_,_⟩,⟨_,_⟩,⟨_,_⟩,⟨_,_⟩,_,_,_,_,_,_,_,_] _;refine ar ?_;refine aB ?_;refine bg (.agg [.str nm,.bq]) ?_;refine aA ?_;refine aI (.agg [.str nm,.bq]) (he:=aQ) ?_;refine aA ?_;refine kF [(0,.buf 2 [.agg [.str [],.bq]]),(3,.buf 2 [.agg [.str nm,.sl 11 []]])] (.id ah (.bf ah (.cons (.ag (.cons (.refl _) (.cons (.nil 11) .nil))) .nil) .nil)) ?_;refine aB ?_;refine ba hm (ι:=(Nat×List cw)) (fun p=>[⟨true,.sl 1 (l.map (D.int .i64))⟩,⟨true,.int .i64 i⟩,⟨true,.str nm⟩,⟨true,.int .i64 (most:Nat)⟩,⟨true,.ptr 0 2 0 0⟩,⟨true,.int .i64 (p.1:Nat)⟩,.un,⟨true,.ptr 1 2 0 0⟩,.un,.un,.un,.un]) (fun p=>[(0,.buf 2 [.agg [.str [],.bq]]),(1,.buf 2 [fP.D ⟨nm,p.2⟩])]) 20 (fun p=>p.1<=(fV l i ((most:Int)+1)).toNat/\p.2=yk l i p.1) (fun p=>(fV l i ((most:Int)+1)).toNat-p.1) (0,[]) ⟨Nat.zero_le _,rfl⟩ (a7.to [(0,0),(3,1)] ah ah eh (by refine bo.fW ah ah ah ?_;refine bo.nl 3 ah ah rfl ah ?_;exact bo.nil)) ?_;rintro⟨k,es⟩ ⟨hk,he⟩;dsimp only at hk he⊢;have hfr:=dN l i ((most:Int)+1) ae;have hk60:k<=60:=ae;have hel:es.length<=k:=by rw[he];exact vl l i k
 have heg:∀x∈es,B4 x:=by rw[he];exact yH l i k
 refine fH ?_;refine c8 (hc:=fun hf=>h228 l i ((most:Nat)+1) ae) ?_;refine ay ?_;refine av (fun hc0=>?_) (fun hc0=>?_)
 .simp only[bB,aK]at hc0;refine ay ?_;have ho:=dN l (i+1+82*(k:Nat)+80) 4 aF;have hgr:=Ev l i k;refine aB ?_;refine nG ?_;refine aE ?_;refine nG ?_;refine ax ?_;refine aq (hc:=h228 l (i+1+82*(k:Nat)+80) 4 aF) ?_;refine aA ?_;refine aq (hc:=h79 l (i+1+82*(k:Nat)) (1+fV l (i+1+82*(k:Nat)+80) 4) ae ae) ?_;refine aA ?_;refine aI (Rec.D (pI l i k)) (he:=aQ) ?_;refine ax ?_;by_cases hput:(na ⟨nm,es⟩ (pI l i k)).2=0
  .refine cz (d:=fP.D ⟨nm,es⟩) ?_;refine cz (d:=Rec.D (pI l i k)) ?_;refine cx (nx':=51) (v:=.tup [.agg [.str nm,.own 52 11 0 (oG ⟨nm,es⟩ (pI l i k)).length],.int .i64 0]) (m':=[(52,.buf 11 ((oG ⟨nm,es⟩ (pI l i k)).map cw.D)),(0,.buf 2 [.agg [.str [],.bq]]),(1,.buf 2 [fP.D ⟨nm,es⟩]),(48,.buf 9 [Rec.D (pI l i k)])]) (hc:=fun K' hK=>h504 ⟨nm,es⟩ (pI l i k) ⟨fun x hx=>(heg x hx).m,hgr.2.2.2.2⟩ _ _ K' (fun h=>absurd hput h) (fun _=>hK)) (hn:=aF) ?_;refine aA ?_;refine eX _ ?_;refine ax ?_;refine aI (.agg [.str nm,.own 52 11 0 (oG ⟨nm,es⟩ (pI l i k)).length]) (he:=aQ) ?_;refine aD ?_;refine wp_cond (fun hc1=>?_) (fun hc1=>?_)
   .try simp only[dn]at hc1
    refine aA ?_;refine cz (d:=.agg [.str nm,.own 52 11 0 (oG ⟨nm,es⟩ (pI l i k)).length]) ?_;refine aI (.agg [.str nm,.own 52 11 0 (oG ⟨nm,es⟩ (pI l i k)).length]) (he:=aQ) ?_;refine ay ?_;refine aT (v:=.own 52 11 0 (oG ⟨nm,es⟩ (pI l i k)).length) ?_;refine aA ?_;refine aT (v:=.own 52 11 0 (oG ⟨nm,es⟩ (pI l i k)).length) ?_;refine ik ?_;refine LJ (hb:=fun _=>by simp only[oG,bP,aP,a8];omega) ?_;refine aB ?_;refine nG ?_;refine ax ?_;refine aq (hc:=h228 l (i+1+82*(k:Nat)+81) 9 aF) ?_;refine aA ?_;refine ie es.length (hj:=fun _=>by simp[oG]) (hb:=fun _=>by simp[oG]) ?_;refine aA ?_;refine r5 ((es++[(⟨(pI l i k),mP (pI l i k),gEY l i k⟩:cw)]).map cw.D) (hi:=by simp[oG]) (he:=by rw[bQ];exact stY es _ _) ?_;refine bL ?_;rw[show(oG ⟨nm,es⟩ (pI l i k)).length=(es++[(⟨(pI l i k),mP (pI l i k),gEY l i k⟩:cw)]).length by simp[oG]];exact⟨(k+1,es++[⟨(pI l i k),mP (pI l i k),gEY l i k⟩]),⟨dE,by dsimp only;rw[he]at hput⊢;exact(UO hp0.2.2 ae hput).symm⟩,dE,(a7.fz 52 ah eK qqq8 qqq8 (a7.to [(0,0),(1,1)] ah ah eh (by refine bo.fW ah ah ah ?_;refine bo.fW ah ah ah ?_;exact bo.nil)))⟩
   exact absurd hc1 aF
  .refine cz (d:=fP.D ⟨nm,es⟩) ?_;refine cz (d:=Rec.D (pI l i k)) ?_;refine cx (nx':=50) (v:=.tup [.agg [.str [],.bq],.int .i64 (na ⟨nm,es⟩ (pI l i k)).2]) (m':=[(0,.buf 2 [.agg [.str [],.bq]]),(1,.buf 2 [fP.D ⟨nm,es⟩]),(48,.buf 9 [Rec.D (pI l i k)])]) (hc:=fun K' hK=>h504 ⟨nm,es⟩ (pI l i k) ⟨fun x hx=>(heg x hx).m,hgr.2.2.2.2⟩ _ _ K' (fun _=>hK) (fun h=>absurd h hput)) (hn:=aF) ?_;refine aA ?_;refine eX _ ?_;refine ax ?_;refine aI (.agg [.str [],.bq]) (he:=aQ) ?_;refine aD ?_;refine wp_cond (fun hc1=>?_) (fun hc1=>?_)
   .exact absurd (of_decide_eq_true hc1) hput
   try simp only[dn]at hc1
   refine bL ?_;exact⟨(k+1,es),⟨dE,by dsimp only;rw[he]at hput⊢;exact(Yx hp0.2.2 ae hput).symm⟩,dE,(a7.to [(0,0),(1,1)] ah ah eh (by refine bo.fW ah ah ah ?_;refine bo.fW ah ah ah ?_;exact bo.nil))⟩
 simp only[dy,bc]at hc0;have hkf:k=(fV l i ((most:Int)+1)).toNat:=ae;refine ay ?_;refine cz (d:=fP.D ⟨nm,es⟩) ?_;refine aI (fP.D ⟨nm,es⟩) (he:=aQ) ?_;refine ax ?_;refine bF (?_);rw[he,hkf];rfl
def Iv (T:List D->D->Prop):Prop:=∀(l:List Int) (i:Int) (nm:au) (most:Nat),((0<=i/\i<=100000)/\most<=60/\dK nm=true)->T [.sl 1 (l.map (D.int .i64)),.int .i64 i,.str nm,.int .i64 (most:Nat)] (fP.D (B2 l i nm most))
def Wf (Y:Ctx):Prop:=Iv (bx Y 1203)
noncomputable def Kb:aC:=cP 124
def w688 {Y:Ctx}(hm:(Y.at 0).b7)  (c:Int)  (hp0:0<=c/\c<256):dh Y Kb (.int .i64 (if jz c=true then qU c else-1)) [.int .u8 c]:=by
 show bJ _ _ _ [⟨_,_⟩,_,_,_] _;refine ar ?_;refine fH ?_;refine av (fun hc0=>?_) (fun hc0=>?_)
 .simp only[dn]at hc0;refine ay ?_;refine qy (c-48) (hb:=fun _=>IntWalk.u8_in _ ae) ?_;refine lJ (c-48) (hb:=fun _=>wrap_i64 ae ae) ?_;refine ay ?_;refine cX ?_;have h1:bn c=true:=by unfold bn;simp[hc0.1,hc0.2]
  unfold jz qU;rw[h1];rfl
 simp only[dn]at hc0;refine fS ?_;refine av (fun hc1=>?_) (fun hc1=>?_)
 .simp only[dn]at hc1;refine ay ?_;refine qy (c-97) (hb:=fun _=>IntWalk.u8_in _ ae) ?_;refine lJ (c-97) (hb:=fun _=>wrap_i64 ae ae) ?_;refine aB ?_;refine cX ?_;have h1:bn c=false:=by unfold bn;simp only[dy,bc];omega
  unfold jz qU;rw[h1,b9 hc1.1,b9 hc1.2];simp;omega
 simp only[dn]at hc1;refine aE ?_;refine cX ?_;have h1:bn c=false:=by unfold bn;simp only[dy,bc];omega
 unfold jz qU;rw[h1,show(decide (97<=c)&&decide (c<=102))=false by simp only[dy,bc];omega];rfl
def Nh (T:List D->D->Prop):Prop:=∀(c:Int),(0<=c/\c<256)->T [.int .u8 c] (.int .i64 (if jz c=true then qU c else-1))
def C688 (Y:Ctx):Prop:=Nh (bx Y 688)
noncomputable def PC:aC:=cP 74
def w500 (h688:C688 Y)(s:au)   :dh Y PC (.tup [.int .u64 (oT s),.bool (iI s)]) [.str s]:=by
 show bJ _ _ _ [⟨_,_⟩,_,_,_,_,_,_,_,_] _;refine ar ?_;refine aZ ?_;intro u0;refine ax ?_;refine cF (fun hc0=>?_) fun hc0=>?_
 .refine aD ?_;refine bF (aH (aj (D.int .u64) ?_) (aj D.bool ?_));all_goals
   have:iI s=false:=by simp only[iI];rw[cG (by omega:¬s.length=16)];rfl
   simp[oT,this]
 refine bL ?_;have h16:s.length=16:=ae;have hP:iI s=cQ (fun i=>jz (at8 s i)) 0 s.length:=by simp only[iI];rw[b9 h16];rfl
 refine ba hm (ι:=Nat) (fun i=>[⟨true,.str s⟩,.un,.un,.un,⟨true,.int .i64 (i:Nat)⟩,.un,.un,.un,⟨true,.int .u64 (ou (s.take i))⟩]) (fun i=>[]) 7 (fun i=>i<=16/\s.length=16/\iI s=cQ (fun i=>jz (at8 s i)) i s.length) (fun i=>16-i) 0 ⟨ae,h16,hP⟩ (dr []) ?_;rintro i ⟨hi,h16,hr⟩;refine aE ?_;refine cF (fun hc1=>?_) fun hc1=>?_
 .refine ay ?_;have h256:=Up s i;refine ay ?_;refine aq (hc:=h688 (at8 s i) ae) ?_;refine aZ ?_;refine av (fun hc2=>?_) (fun hc2=>?_)
  .simp only[dn]at hc2;have hz:jz (at8 s i)=false:=by
    cases hq:jz (at8 s i)with
    |false=>rfl
    |true=>rw[hq,aw rfl]at hc2;have:=Gz hq;omega
   refine bL ?_;refine bF (aH (aj (D.int .u64) ?_) (aj D.bool ?_));all_goals
    have:iI s=false:=by rw[hr,aU ae,hz];rfl
    simp[oT,this]
  simp only[dn]at hc2;have hz:jz (at8 s i)=true:=by
   cases hq:jz (at8 s i)with
   |true=>rfl
   |false=>rw[hq]at hc2;simp at hc2
  have hvv:(if jz (at8 s i)=true then qU (at8 s i)else-1)=qU (at8 s i):=aw hz;have hvb:=Gz hz;refine ay ?_;refine Hf (tv (ou (s.take i)) 4) (hb:=fun _=>by rw[show min (Int.toNat (4:Int)) (IntKind.bits .u64)=4 by simp[IntKind.bits]];rfl) ?_;refine aA ?_;refine lJ (qU (at8 s i)) (hb:=fun _=>by rw[hvv,IntKind.wrap_u64];omega) ?_;refine He (ou (s.take (i+1))) (hb:=fun _=>by rw[ur s i ae];rfl) ?_;refine cZ ?_;exact⟨i+1,⟨ae,h16,by rw[hr,aU ae,hz];rfl⟩,ae,(dr [])⟩
 refine bL ?_;refine bF (aH (aj (D.int .u64) ?_) (aj D.bool ?_));all_goals
  have:iI s=true:=by rw[hr,cj ae]
  have ht:s.take i=s:=ed ae;simp[oT,this,ht]
def C500 (Y:Ctx):Prop:=zt (bx Y 500)
noncomputable def GB:aC:=cP 13
def w86 (h76:C76 Y)(h208:ND Y)(h242:Ql Y)(h252:Z1 Y)(h253:T4 Y)(h254:W9 Y)(h255:Z2 Y)(h256:Z3 Y)(h257:Z4 Y)(s:au)  (hp0:s.length<=1048576):dh Y GB (.tup [fP.D (gS s).1,.int .i64 (gS s).2.1,.int .i64 (gS s).2.2]) [.str s]:=by
 show bJ _ _ _ [⟨_,_⟩,_,_,_,_,_,_,_,_,_,_,_,_,_,_,_,_,_,_,_,_,_,_,_,_] _;refine ar ?_;refine bL ?_;intro u0;refine ax ?_;refine av (fun hc0=>?_) (fun hc0=>?_)
 .simp only[dn]at hc0;have hz:=Dy (s:=s) ae;refine ax ?_;refine de _ ?_;refine aE ?_;refine bF (di ?_ (aj (D.int .i64) ?_) (aj (D.int .i64) ?_));all_goals
   rw[hz];first|done|rfl
 simp only[dn]at hc0;have g0:¬524288<s.length:=ae;refine ay ?_;refine aq (hc:=h252 s hp0) ?_;refine aD ?_;intro u1;refine ax ?_;refine av (fun hc1=>?_) (fun hc1=>?_)
 .simp only[dn]at hc1;have hz:=Dz g0 ae;refine ax ?_;refine de _ ?_;refine aE ?_;refine bF (di ?_ (aj (D.int .i64) ?_) (aj (D.int .i64) ?_));all_goals
   rw[hz];first|done|rfl
 simp only[dn]at hc1;have g1:¬(cC s).length=0:=ae;have g2:=yS (s:=s) (i:=0) ae;have g3:=qF (cC s)[0]!;refine ay ?_;refine bH 0 (hb:=fun _=>ae) ?_;refine bD (v:=.str (cC s)[0]!) (hi:=fun _=>ae) ?_;refine aq (hc:=h253 (cC s)[0]! ae) ?_;refine bL ?_;refine aq (hc:=h254 (bV (cC s)[0]!).1 [115,104,101,108,102,32] ae aF) ?_;refine BX ?_;refine c8 (hc:=fun hf=>h208 (cU (bV (cC s)[0]!).1 [115,104,101,108,102,32]).1) ?_;refine ay ?_;refine av (fun hc2=>?_) (fun hc2=>?_)
 .simp only[dn]at hc2;have hz:=PN g0 g1 (by rintro⟨⟨h1,h2⟩,h3⟩;rcases hc2 with(h|h)|h<;>simp_all);refine ax ?_;refine de _ ?_;refine aE ?_;refine bF (di ?_ (aj (D.int .i64) ?_) (aj (D.int .i64) ?_));all_goals
   rw[hz];first|done|rfl
 simp only[dn]at hc2;have hz:=PM g0 g1 hc2;rw[Dt]at hz;refine ay ?_;refine bg (.agg [.str (cU (bV (cC s)[0]!).1 [115,104,101,108,102,32]).1,.bq]) ?_;refine aA ?_;refine aI (.agg [.str (cU (bV (cC s)[0]!).1 [115,104,101,108,102,32]).1,.bq]) (he:=aQ) ?_;refine aE ?_;refine ba hm (ι:=(List cw×Nat)) (fun p=>[⟨true,.str s⟩,⟨true,.ptr 0 2 0 0⟩,.un,.un,.un,⟨true,.sl 1 ((cC s).map D.str)⟩,.un,.un,.un,.un,.un,.un,⟨true,.int .i64 (p.2:Nat)⟩,.un,.un,.un,.un,.un,.un,.un,⟨true,.ptr 1 2 0 0⟩,.un,.un,.un,.un]) (fun p=>[(0,.buf 2 [.agg [.str [],.bq]]),(1,.buf 2 [.agg [.str (cU (bV (cC s)[0]!).1 [115,104,101,108,102,32]).1,.own 2 11 0 (p.1).length]]),(2,.buf 11 ((p.1).map cw.D))]) 60 (fun p=>(1<=p.2/\p.2<=(cC s).length)/\(∀x∈p.1,x.r.v.sm)/\p.1.length<=64/\gS s=Ao (cU (bV (cC s)[0]!).1 [115,104,101,108,102,32]).1 (ow (cC s) p.1 p.2)) (fun p=>(cC s).length-p.2) ([],1) ⟨dE,aJ,aJ,hz⟩ (a7.to [(0,0),(41,1)] ah ah lF (by refine bo.fW ah ah ah ?_;refine bo.ni 41 ah ah (by exact⟨_,_,rfl,⟨_,rfl,⟨_,_,rfl,⟨rfl,rfl⟩,⟨_,_,rfl,Or.inr ⟨_,_,_,rfl⟩,rfl⟩⟩⟩,rfl⟩) ?_;refine bo.mt ah ah ah ah ?_;exact bo.nil)) ?_;rintro⟨es,k⟩ ⟨hk,hes,he64,hr⟩;dsimp only at hk hes he64 hr⊢;refine aE ?_;intro u2;refine ax ?_;refine cF (fun hc3=>?_) fun hc3=>?_
 .refine ay ?_;have g4:=yS (s:=s) (i:=k) ae;refine ax ?_;refine bH k (hb:=fun _=>ae) ?_;refine bD (v:=.str (cC s)[k]!) (hi:=fun _=>ae) ?_;refine aq (hc:=h255 (cC s)[k]! ae) ?_;refine lN ?_;refine av (fun hc4=>?_) (fun hc4=>?_)
  .simp only[dn]at hc4;have hz2:=Bt (es:=es) (show k<(cC s).length by omega) hc4;refine ax ?_;refine de _ ?_;refine cZ ?_;refine bF (di ?_ (aj (D.int .i64) ?_) (aj (D.int .i64) ?_));all_goals
    rw[hr,hz2,ru aF];first|done|rfl
  simp only[dn]at hc4;have hz2:=Ds (es:=es) (show k<(cC s).length by omega) hc4;refine aD ?_;refine ba hm (ι:=Nat) (fun j=>[⟨true,.str s⟩,⟨true,.ptr 0 2 0 0⟩,.un,.un,.un,⟨true,.sl 1 ((cC s).map D.str)⟩,.un,.un,.un,.un,.un,.un,⟨true,.int .i64 (k:Nat)⟩,.un,.un,.un,⟨true,.int .i64 (j:Nat)⟩,.un,.un,.un,⟨true,.ptr 1 2 0 0⟩,.un,⟨true,.int .u64 (iF (cC s)[k]!).1⟩,.un,⟨true,.bool (iF (cC s)[k]!).2.1⟩]) (fun _=>[(0,.buf 2 [.agg [.str [],.bq]]),(1,.buf 2 [.agg [.str (cU (bV (cC s)[0]!).1 [115,104,101,108,102,32]).1,.own 2 11 0 (es).length]]),(2,.buf 11 ((es).map cw.D))]) 100 (fun j=>(k+1<=j/\j<=(cC s).length)/\wR (cC s) (k+1)=sc (fun j=>wj (cC s)[j]!) j (cC s).length) (fun j=>(cC s).length-j) (k+1) ⟨ae,rfl⟩ (a7.to [(0,0),(1,1),(2,2)] ah ah lF (by refine eM ?_;refine eM ?_;refine eM ?_;exact bo.nil)) ?_;rintro j ⟨hj,hn⟩;refine aE ?_;intro u3;refine aB ?_;refine bH j (hb:=fun hf=>by simp at hf;omega) ?_;refine bD (v:=.str (cC s)[j]!) (hi:=fun hf=>by simp at hf;omega) ?_;refine c8 (hc:=fun hf=>h256 (cC s)[j]! (by have:=yS (s:=s) (i:=j) (by simp at hf;omega);omega)) ?_;refine ay ?_;refine av (fun hc5=>?_) (fun hc5=>?_)
  .simp only[dn]at hc5;refine cZ ?_;exact⟨(j+1),⟨ae,by rw[hn,Fi ae hc5.2]⟩,ae,(a7.to [(0,0),(1,1),(2,2)] ah ah lF (by refine eM ?_;refine eM ?_;refine eM ?_;exact bo.nil))⟩
  simp only[dn]at hc5;have hnj:wR (cC s) (k+1)=j:=by
   rw[hn];rcases hc5 with h|h
   .exact sf ae
   .by_cases hjl:j<(cC s).length
    .exact BA hjl h
    .exact sf ae
  rw[hnj]at hz2;have hsm:=Bl (aS [] (slice (cC s) (k+1) j));refine aZ ?_;refine Bg (k+1) j ?_;refine aq (v:=.str (aS [] (slice (cC s) (k+1) j))) (hc:=h242 (slice (cC s) (k+1) j) [] (by simp only[slice,jO,er];have:=Hb s;omega) aF (fun t ht=>by have:=LA (DB ht);omega)) ?_;refine aq (hc:=h76 (aS [] (slice (cC s) (k+1) j))) ?_;refine aA ?_;refine eX (Rec.D _) ?_;refine ay ?_;refine aI (Rec.D (cA (aS [] (slice (cC s) (k+1) j))).1) (he:=aQ) ?_;refine bL ?_;refine av (fun hc6=>?_) (fun hc6=>?_)
  .simp only[dn]at hc6;refine aA ?_;refine cz (d:=.agg [.str (cU (bV (cC s)[0]!).1 [115,104,101,108,102,32]).1,.own 2 11 0 es.length]) ?_;refine cz (d:=Rec.D (cA (aS [] (slice (cC s) (k+1) j))).1) ?_;refine aA ?_;refine aq (hc:=h257 ⟨(cU (bV (cC s)[0]!).1 [115,104,101,108,102,32]).1,es⟩ (cA (aS [] (slice (cC s) (k+1) j))).1 (iF (cC s)[k]!).1 ⟨hsm,hes⟩) (ha:=fun _=>aj (fun d=>[d,Rec.D (cA (aS [] (slice (cC s) (k+1) j))).1,D.int .u64 (iF (cC s)[k]!).1]) (Zv (nm:=(cU (bV (cC s)[0]!).1 [115,104,101,108,102,32]).1) (es:=es) (fun _=>rfl) ah)) (hp:=fun _=>⟨V4 (nm:=(cU (bV (cC s)[0]!).1 [115,104,101,108,102,32]).1) (es:=es) (fun _=>⟨rfl,rfl,rfl,rfl,rfl,rfl,rfl,rfl,rfl,rfl,rfl,rfl⟩) ah,⟨rfl,rfl,rfl,rfl,rfl,rfl,rfl,rfl,rfl,rfl⟩,rfl,trivial⟩) ?_;refine aZ ?_;refine av (fun hc7=>?_) (fun hc7=>?_)
   .simp only[dn]at hc7;rw[nX hc6 hc7]at hz2;refine ax ?_;refine de _ ?_;refine fS ?_;refine bF (di ?_ (aj (D.int .i64) ?_) (aj (D.int .i64) ?_));all_goals
     rw[hr,hz2,aw (by assumption),ru (by assumption)];first|done|rfl
   simp only[dn]at hc7;rw[KF hc6 hc7]at hz2;have hlt:=CV hc7;refine ay ?_;refine aT (v:=.own 2 11 0 es.length) ?_;refine cz (d:=Rec.D (cA (aS [] (slice (cC s) (k+1) j))).1) ?_;refine ax ?_;refine bg (cw.D (⟨(cA (aS [] (slice (cC s) (k+1) j))).1,(iF (cC s)[k]!).1,(iF (cC s)[k]!).2.1⟩:cw)) ?_;refine df [cw.D (⟨(cA (aS [] (slice (cC s) (k+1) j))).1,(iF (cC s)[k]!).1,(iF (cC s)[k]!).2.1⟩:cw)] ?_;refine gL (q:=cw.D) (xs:=es) (e:=(⟨(cA (aS [] (slice (cC s) (k+1) j))).1,(iF (cC s)[k]!).1,(iF (cC s)[k]!).2.1⟩:cw)) (hb:=ae) ?_;refine aA ?_;refine aI (.agg [.str (cU (bV (cC s)[0]!).1 [115,104,101,108,102,32]).1,.own 143 11 0 (es++[(⟨(cA (aS [] (slice (cC s) (k+1) j))).1,(iF (cC s)[k]!).1,(iF (cC s)[k]!).2.1⟩:cw)]).length]) (he:=aQ) ?_;refine bL ?_;exact⟨(es++[(⟨(cA (aS [] (slice (cC s) (k+1) j))).1,(iF (cC s)[k]!).1,(iF (cC s)[k]!).2.1⟩:cw)],j),⟨dE,(fun x hx=>(List.mem_append.1 hx).elim (hes x) (fun hx=>by rw[cI.1 hx];exact hsm.1.2)),by simp only[bP,aP,a8];omega,by rw[hr,hz2,ak (fun h=>h rfl)]⟩,dE,(a7.to [(0,0),(1,1),(143,2)] ah ah lF (by refine eM ?_;refine bo.FJ ah ah ah ?_;refine bo.nl 143 ah ah rfl (br (fun _=>rfl) _) ?_;exact bo.nil))⟩
  simp only[dn]at hc6;rw[F0 hc6]at hz2;refine aD ?_;refine av (fun hc7=>?_) (fun hc7=>?_)
  .simp only[dn]at hc7;refine ax ?_;refine de _ ?_;refine fS ?_;refine bF (di ?_ (aj (D.int .i64) ?_) (aj (D.int .i64) ?_));all_goals
    rw[hr,hz2,aw (by assumption),ru (by assumption)];first|done|rfl
  simp only[dn]at hc7;exact absurd (by simpa using hc7) hc6
 refine ax ?_;refine eH 2 ?_;refine aA ?_;refine cz (d:=fP.D ⟨(cU (bV (cC s)[0]!).1 [115,104,101,108,102,32]).1,es⟩) ?_;refine aI (fP.D ⟨(cU (bV (cC s)[0]!).1 [115,104,101,108,102,32]).1,es⟩) (he:=aQ) ?_;refine aB ?_;refine bF (di ?_ (aj (D.int .i64) ?_) (aj (D.int .i64) ?_));all_goals
  rw[hr,Du ae];first|done|rfl
def FF (T:List D->D->Prop):Prop:=∀(s:au),(s.length<=1048576)->T [.str s] (.tup [fP.D (gS s).1,.int .i64 (gS s).2.1,.int .i64 (gS s).2.2])
def C86 (Y:Ctx):Prop:=FF (bx Y 86)
noncomputable def HC:aC:=cP 40
def w260 {Y:Ctx}(hm:(Y.at 0).b7)(h470:tz Y)(t:au)  (hp0:t.length<=1048576):dh Y HC (.str (fw t)) [.str t]:=by
 show bJ _ _ _ [⟨_,_⟩,_] _;have hsl:=uw t 32;refine ar ?_;refine aB ?_;refine aq (hc:=h470 t 32 hp0) ?_;refine bH 0 (hb:=fun _=>ae) ?_;refine bD (v:=.str (ai t 32)[0]!) (hi:=fun _=>ae) ?_;refine ay ?_;exact c9 rfl
def MB (T:List D->D->Prop):Prop:=∀(t:au),(t.length<=1048576)->T [.str t] (.str (fw t))
def Z7 (Y:Ctx):Prop:=MB (bx Y 260)
noncomputable def JW:aC:=cP 38
def w258 {Y:Ctx}(hm:(Y.at 0).b7)(h216:IF Y)(h470:tz Y)(t:au)  (hp0:t.length<=1048576):dh Y JW (.tup [.str ((gV t).getD []),.bool (gV t).isSome]) [.str t]:=by
 show bJ _ _ _ [⟨_,_⟩,_,_,_,_] _;have hsl:=uw t 32;refine ar ?_;refine aE ?_;refine aq (hc:=h470 t 32 hp0) ?_;refine aD ?_;intro u0;refine ay ?_;refine bH 0 (hb:=fun hf=>by simp at hf;omega) ?_;refine bD (v:=.str (ai t 32)[0]!) (hi:=fun hf=>by simp at hf;omega) ?_;refine aB ?_;refine bH 1 (hb:=fun hf=>by simp at hf;omega) ?_;refine bD (v:=.str (ai t 32)[1]!) (hi:=fun hf=>by simp at hf;omega) ?_;refine c8 (hc:=fun hf=>h216 (ai t 32)[1]!) ?_;refine ay ?_;refine av (fun hc0=>?_) (fun hc0=>?_)
 .simp only[dn]at hc0;have hz:=UZ hc0;refine aD ?_;refine bF (aH (aj D.str ?_) (aj D.bool ?_));all_goals (rw[hz];first|done|rfl)
 simp only[dn]at hc0;obtain⟨hz,hl2⟩:=Ru hc0;refine ay ?_;refine bH 1 (hb:=fun _=>ae) ?_;refine bD (v:=.str (ai t 32)[1]!) (hi:=fun _=>ae) ?_;refine aB ?_;refine bF (aH (aj D.str ?_) (aj D.bool ?_));all_goals (rw[hz];first|done|rfl)
def Mz (T:List D->D->Prop):Prop:=∀(t:au),(t.length<=1048576)->T [.str t] (.tup [.str ((gV t).getD []),.bool (gV t).isSome])
def Z5 (Y:Ctx):Prop:=Mz (bx Y 258)
noncomputable def HB:aC:=cP 39
def w259 {Y:Ctx}(hm:(Y.at 0).b7)(h470:tz Y)(h500:C500 Y)(t:au)  (hp0:t.length<=1048576):dh Y HB (.tup [cw.D (⟨gR,(fN t).1,(fN t).2.1⟩:cw),.bool (fN t).2.2]) [.str t]:=by
 show bJ _ _ _ [⟨_,_⟩,_,_,_,_,_,_] _;have hsl:=uw t 32;refine ar ?_;refine aE ?_;refine aq (hc:=h470 t 32 hp0) ?_;refine aD ?_;intro u0;refine ay ?_;refine bH 0 (hb:=fun hf=>by simp at hf;omega) ?_;refine bD (v:=.str (ai t 32)[0]!) (hi:=fun hf=>by simp at hf;omega) ?_;refine aB ?_;refine bH 2 (hb:=fun hf=>by simp at hf;omega) ?_;refine bD (v:=.str (ai t 32)[2]!) (hi:=fun hf=>by simp at hf;omega) ?_;refine ay ?_;refine bH 2 (hb:=fun hf=>by simp at hf;omega) ?_;refine bD (v:=.str (ai t 32)[2]!) (hi:=fun hf=>by simp at hf;omega) ?_;refine aB ?_;refine av (fun hc0=>?_) (fun hc0=>?_)
 .simp only[dn]at hc0;have hz:=UC hc0;refine ax ?_;refine de _ ?_;refine aB ?_;refine bF (aH ?_ (aj D.bool ?_));all_goals (rw[hz];first|done|rfl)
 simp only[dn]at hc0;obtain⟨hz,hl3⟩:=Q5 hc0;refine ay ?_;refine bH 1 (hb:=fun _=>ae) ?_;refine bD (v:=.str (ai t 32)[1]!) (hi:=fun _=>ae) ?_;refine aq (hc:=h500 (ai t 32)[1]!) ?_;refine cZ ?_;refine bH 2 (hb:=fun _=>ae) ?_;refine bD (v:=.str (ai t 32)[2]!) (hi:=fun _=>ae) ?_;refine aA ?_;refine de _ ?_;refine aE ?_;refine bF (aH ?_ (aj D.bool ?_));all_goals (rw[hz];first|done|rfl)
def MA (T:List D->D->Prop):Prop:=∀(t:au),(t.length<=1048576)->T [.str t] (.tup [cw.D (⟨gR,(fN t).1,(fN t).2.1⟩:cw),.bool (fN t).2.2])
def Z6 (Y:Ctx):Prop:=MA (bx Y 259)
noncomputable def JV:aC:=cP 42
def w262 {Y:Ctx}(hm:(Y.at 0).b7)(h249:NF Y)(l:List au)(en:Bool)  (hp0:(aS [10] l).length<=1099511627770):dh Y JV (.str (jE l en)) [.sl 1 (l.map D.str),.bool en]:=by
 show bJ _ _ _ [⟨_,_⟩,⟨_,_⟩,_,_,_] _;refine ar ?_;refine aB ?_;refine aq (hc:=h249 l 10 ae) ?_;refine aZ ?_;refine ik ?_;refine ay ?_;refine av (fun hc0=>?_) (fun hc0=>?_)
 .simp only[dn]at hc0;have hne:l≠[]:=fun h=>by rw[h]at hc0;simp at hc0
  refine ax ?_;refine dj (hb:=fun _=>cb) ?_;refine aZ ?_;refine c9 ?_;unfold jE;rw[aw hc0.1];exact join_one hne
 simp only[dn]at hc0;refine aD ?_;refine c9 ?_;unfold jE;split
 .rename_i he;rcases hc0 with h|h
  .rw[he]at h;cases h
  .rw[mh (show l.length=0 by omega)];rfl
 .rfl
def MC (T:List D->D->Prop):Prop:=∀(l:List au) (en:Bool),((aS [10] l).length<=1099511627770)->T [.sl 1 (l.map D.str),.bool en] (.str (jE l en))
def Z8 (Y:Ctx):Prop:=MC (bx Y 262)
noncomputable def w9:aC:=cP 41
def w261 {Y:Ctx}(hm:(Y.at 2).b7)(nm:au)(es:List cw)(x:cw)(t:au)(h75:C75 (Y.at 2))(h77:C77 (Y.at 2))(h501:Xq (Y.at 2))(hp0:TI es):bJ (Y.at 2) w9.body (jQ w9 (ZJ nm es x t):Ex->List cg->St->Prop) (fD w9 [.ptr 0 2 0 0,cw.D x,.str t]) ⟨2,[(0,.buf 2 [.agg [.str nm,.own 1 11 0 es.length]]),(1,.buf 11 (es.map cw.D))]⟩:=by
 show bJ _ _ _ [⟨true,.ptr 0 2 0 0⟩,⟨true,cw.D x⟩,⟨true,.str t⟩,.un,.un,.un,.un,.un,.un,.un,.un,.un,.un,.un] ⟨2,[(0,.buf 2 [.agg [.str nm,.own 1 11 0 es.length]]),(1,.buf 11 (es.map cw.D))]⟩;refine ar ?_;refine aE ?_;refine aq (hc:=h77 t) ?_;refine aA ?_;refine eX (Rec.D _) ?_;refine ay ?_;refine aI (Rec.D (cA t).1) (he:=aQ) ?_;refine bL ?_;refine av (fun hc0=>?_) (fun hc0=>?_)
 .simp only[bd,bc]at hc0;have hz:=F0 (es:=es) (n:=x.sum) (off:=x.off) hc0;refine aD ?_;refine bO trivial eg (bR ah (aj (D.int .i64) ?_)) ah (.inl ⟨by rw[hz];exact hc0,rfl,aQ,aQ⟩);rw[hz]
 simp only[bK,aK]at hc0;have hrv:=Dn hc0;have hrs:=Bl t;refine ax ?_;refine cz (d:=Rec.D (cA t).1) ?_;refine aq (hc:=h75 (cA t).1 hrs) ?_;refine fS ?_;refine aT (v:=.int .u64 x.sum) ?_;refine ax ?_;refine av (fun hc1=>?_) (fun hc1=>?_)
 .simp only[bd,bc]at hc1;have hf:iY es (cA t).1 x.sum=13:=aw hc1;refine aE ?_;refine bO trivial eg (bR ah (aj (D.int .i64) ?_)) ah (.inl ⟨by rw[nX hc0 (by rw[hf];decide),hf];decide,rfl,aQ,aQ⟩);rw[nX hc0 (by rw[hf];decide),hf]
 simp only[bK,aK]at hc1;refine aE ?_;refine ba hm (ι:=Nat) (fun i=>[⟨true,.ptr 0 2 0 0⟩,⟨true,cw.D x⟩,⟨true,.str t⟩,.un,.un,.un,⟨true,.ptr 3 9 0 0⟩,.un,⟨true,.ptr 2 11 0 0⟩,.un,⟨true,.int .i64 (i:Nat)⟩,.un,.un,.un]) (fun i=>[(0,.buf 2 [.agg [.str nm,.own 1 11 0 es.length]]),(1,.buf 11 (es.map cw.D)),(2,.buf 11 [cw.D x]),(3,.buf 9 [Rec.D (cA t).1])]) 60 (fun i=>i<=es.length/\qD es (cA t).1=(es.drop i).any (T2 (cA t).1)) (fun i=>es.length-i) 0 ⟨ae,rfl⟩ (a7.to [(2,2),(10,3)] ah ah eh (by first|(refine bo.FJ ah ah ah ?_;refine bo.fW ah ah (br (fun _=>rfl) _) ?_;refine bo.nl 2 ah ah rfl ah ?_;refine bo.nl 10 ah ah rfl ah ?_;exact bo.nil)|(refine bo.FJ ah ah ah ?_;refine bo.fW ah ah (br (fun _=>rfl) _) ?_;refine bo.fW ah ah ah ?_;refine bo.fW ah ah ah ?_;exact bo.nil))) ?_;rintro i ⟨hi,hr⟩;refine aD ?_;refine aT (v:=.own 1 11 0 es.length) ?_;refine aA ?_;intro u0;refine ax ?_;refine cF (fun hc2=>?_) fun hc2=>?_
 .refine aD ?_;refine aT (v:=.own 1 11 0 es.length) ?_;refine aA ?_;refine ie i (hb:=fun _=>ae) ?_;refine ax ?_;refine pV (q:=cw.D) (xs:=es) (v:=.str es[i]!.r.name) (hi:=fun _=>ae) (hv:=fun _=>by rw[bQ];rfl) ?_;refine aA ?_;refine aT (v:=.str (cA t).1.name) ?_;refine aE ?_;refine aT (v:=.own 1 11 0 es.length) ?_;refine aA ?_;refine ie i (hb:=fun _=>ae) ?_;refine ax ?_;refine pV (q:=cw.D) (xs:=es) (v:=cn.D es[i]!.r.v) (hi:=fun _=>ae) (hv:=fun _=>by rw[bQ];rfl) ?_;refine aA ?_;refine aT (v:=cn.D (cA t).1.v) ?_;refine c8 (hc:=fun hf=>h501 es[i]!.r.v (cA t).1.v ⟨(hp0 _ (bE ae)).1,hrs.1.2⟩) ?_;refine ax ?_;refine wp_cond (fun hc3=>?_) (fun hc3=>?_)
  .simp only[dn]at hc3;have htw:T2 (cA t).1 es[i]! =true:=by rw[L1 (hp0 _ (bE ae)).2 hrv];simpa using hc3
   have htz:qD es (cA t).1=true:=by rw[hr,uP ae htw]
   have hf:iY es (cA t).1 x.sum=8:=by unfold iY;rw[ak (fun h=>h hc1),aw htz]
   refine aD ?_;refine bO trivial eg (bR ah (aj (D.int .i64) ?_)) ah (.inl ⟨by rw[nX hc0 (by rw[hf];decide),hf];decide,rfl,aQ,aQ⟩);rw[nX hc0 (by rw[hf];decide),hf]
  simp only[dn]at hc3;have htw:T2 (cA t).1 es[i]! =false:=by rw[L1 (hp0 _ (bE ae)).2 hrv];exact hc3.elim (fun h=>by rw[cG h];rfl) (fun h=>by rw[h,Bool.and_false])
  refine bL ?_;exact⟨i+1,⟨ae,by rw[hr,zV ae htw]⟩,ae,(a7.to [(2,2),(3,3)] ah ah eh (by first|(refine bo.FJ ah ah ah ?_;refine bo.fW ah ah (br (fun _=>rfl) _) ?_;refine bo.nl 2 ah ah rfl ah ?_;refine bo.nl 10 ah ah rfl ah ?_;exact bo.nil)|(refine bo.FJ ah ah ah ?_;refine bo.fW ah ah (br (fun _=>rfl) _) ?_;refine bo.fW ah ah ah ?_;refine bo.fW ah ah ah ?_;exact bo.nil)))⟩
 refine aB ?_;have htz:qD es (cA t).1=false:=by rw[hr,uO ae]
 refine ay ?_;refine aT (v:=.own 1 11 0 es.length) ?_;refine aA ?_;intro u1;refine ax ?_;refine av (fun hc4=>?_) (fun hc4=>?_)
 .simp only[dn]at hc4;have hf:iY es (cA t).1 x.sum=10:=by unfold iY;rw[ak (fun h=>h hc1),ak (by simp[htz]),aw ae]
  refine aE ?_;refine bO trivial eg (bR ah (aj (D.int .i64) ?_)) ah (.inl ⟨by rw[nX hc0 (by rw[hf];decide),hf];decide,rfl,aQ,aQ⟩);rw[nX hc0 (by rw[hf];decide),hf]
 simp only[dn]at hc4;have hf:iY es (cA t).1 x.sum=0:=by unfold iY;rw[ak (fun h=>h hc1),ak (by simp[htz]),ak ae]
 have hz:=KF (off:=x.off) hc0 hf;refine ax ?_;refine cz (d:=Rec.D (cA t).1) ?_;refine aA ?_;refine aI (cw.D (⟨(cA t).1,x.sum,x.off⟩:cw)) (he:=aQ) ?_;refine aD ?_;refine aT (v:=.own 1 11 0 es.length) ?_;refine cz (d:=cw.D (⟨(cA t).1,x.sum,x.off⟩:cw)) ?_;refine df [cw.D (⟨(cA t).1,x.sum,x.off⟩:cw)] ?_;refine gL (q:=cw.D) (xs:=es) (e:=(⟨(cA t).1,x.sum,x.off⟩:cw)) (hb:=ae) ?_;refine ax ?_;refine aI (.agg [.str nm,.own 83 11 0 (es++[(⟨(cA t).1,x.sum,x.off⟩:cw)]).length]) (he:=aQ) ?_;refine aE ?_;refine bO trivial eg (bR ah (aj (D.int .i64) ?_)) ah (.inr ⟨by rw[hz],rfl,83,aF,by rw[hz];exact rfl,by rw[hz];exact rfl⟩);rfl
def Xa (Y:Ctx):Prop:=∀(nm:au) (es:List cw) (x:cw) (t:au),TI es->∀(nx lp ln:Nat) (m:List (Nat×bW)) (K:D->St->Prop),look m lp=some (.buf 2 [.agg [.str nm,.own ln 11 0 es.length]])->look m ln=some (.buf 11 (es.map cw.D))->lp<nx->ln<nx->(¬(gB es t x.sum x.off).1=0->K (.int .i64 (gB es t x.sum x.off).1) ⟨nx,m⟩)->((gB es t x.sum x.off).1=0->K (.int .i64 0) ⟨nx+1,(nx,.buf 11 ((gB es t x.sum x.off).2.map cw.D))::dG (cH m ln) lp (.buf 2 [.agg [.str nm,.own nx 11 0 (gB es t x.sum x.off).2.length]])⟩)->Y.tr 261 [.ptr lp 2 0 0,cw.D x,.str t] ⟨nx,m⟩ K
noncomputable def Hz:aC:=cP 14
def w87 (h223:W3 Y)(h258:Z5 Y)(h259:Z6 Y)(h260:Z7 Y)(h261:Xa Y)(h262:Z8 Y)(s:au)  (hp0:s.length<=1048576):dh Y Hz (.tup [fP.D (gS s).1,.int .i64 (gS s).2.1,.int .i64 (gS s).2.2]) [.str s]:=by
 show bJ _ _ _ [⟨_,_⟩,_,_,_,_,_,_,_,_,_,_,_,_,_,_,_,_,_,_,_,_] _;refine ar ?_;refine bL ?_;intro u0;refine ax ?_;refine av (fun hc0=>?_) (fun hc0=>?_)
 .simp only[dn]at hc0;have hz:=Dy (s:=s) ae;refine ax ?_;refine de _ ?_;refine aE ?_;refine bF (di ?_ (aj (D.int .i64) ?_) (aj (D.int .i64) ?_));all_goals
   rw[hz];first|done|rfl
 simp only[dn]at hc0;have g0:¬524288<s.length:=ae;refine ay ?_;refine aq (hc:=h223 s hp0) ?_;refine aA ?_;refine eX (.sl _ _) ?_;refine bL ?_;intro u1;refine ay ?_;refine ik ?_;refine aZ ?_;refine av (fun hc1=>?_) (fun hc1=>?_)
 .simp only[dn]at hc1;have hz:=Sv g0 (by rcases hc1 with h|⟨h,h2⟩;exact .inl ae;exact .inr ⟨ae,h2⟩);refine ax ?_;refine de _ ?_;refine aE ?_;refine bF (di ?_ (aj (D.int .i64) ?_) (aj (D.int .i64) ?_));all_goals
   rw[hz];first|done|rfl
 simp only[dn]at hc1;have g1:¬((az s).1.length=0\/((az s).1.length=1/\(az s).2=false)):=by
  rintro(h|⟨h,h2⟩)
  .exact hc1.1 ae
  .rcases hc1.2 with h3|h3
   .exact h3 ae
   .rw[h2]at h3;cases h3
 have hph:=Su g0 g1;have gl:0<(az s).1.length:=by
  by_cases h:(az s).1.length=0
  .exact absurd (.inl h) g1
  .omega
 refine ay ?_;refine bH 0 (hb:=fun _=>ae) ?_;refine bD (v:=.str (az s).1[0]!) (hi:=fun _=>ae) ?_;refine aq (hc:=h258 (az s).1[0]! (by have:=vw gl;omega)) ?_;refine fH ?_;refine av (fun hc2=>?_) (fun hc2=>?_)
 .simp only[dn]at hc2;have hz:gS s=(oI,2,1):=by rw[hph,ak (by rw[hc2];simp)]
  refine ax ?_;refine de _ ?_;refine aE ?_;refine bF (di ?_ (aj (D.int .i64) ?_) (aj (D.int .i64) ?_));all_goals
   rw[hz];first|done|rfl
 simp only[dn]at hc2;have hz:gS s=Ao ((gV (az s).1[0]!).getD []) (ow (cC s) [] 1):=by rw[hph,aw hc2]
 refine ay ?_;refine bg (.agg [.str ((gV (az s).1[0]!).getD []),.bq]) ?_;refine aA ?_;refine aI (.agg [.str ((gV (az s).1[0]!).getD []),.bq]) (he:=aQ) ?_;refine aE ?_;refine ba hm (ι:=(List cw×Nat)) (fun p=>[⟨true,.str s⟩,⟨true,.ptr 0 2 0 0⟩,.un,.un,.un,⟨true,.sl 1 ((az s).1.map D.str)⟩,⟨true,.bool (az s).2⟩,.un,.un,.un,.un,⟨true,.int .i64 (p.2:Nat)⟩,.un,.un,.un,.un,.un,.un,⟨true,.ptr 1 2 0 0⟩,.un,.un]) (fun p=>[(0,.buf 2 [.agg [.str [],.bq]]),(1,.buf 2 [.agg [.str ((gV (az s).1[0]!).getD []),.own 2 11 0 (p.1).length]]),(2,.buf 11 ((p.1).map cw.D))]) 60 (fun p=>(1<=p.2/\p.2<=(az s).1.length)/\TI p.1/\p.1.length<=64/\gS s=Ao ((gV (az s).1[0]!).getD []) (ow (cC s) p.1 p.2)) (fun p=>(az s).1.length-p.2) ([],1) ⟨dE,(fun _ h=>by cases h),aJ,hz⟩ (a7.to [(0,0),(38,1)] ah ah lF (by refine bo.fW ah ah ah ?_;refine bo.ni 38 ah ah (by exact⟨_,_,rfl,⟨_,rfl,⟨_,_,rfl,⟨rfl,rfl⟩,⟨_,_,rfl,Or.inr ⟨_,_,_,rfl⟩,rfl⟩⟩⟩,rfl⟩) ?_;refine bo.mt ah ah ah ah ?_;exact bo.nil)) ?_;rintro⟨es,k⟩ ⟨hk,hes,he64,hr⟩;dsimp only at hk hes he64 hr⊢;refine aE ?_;intro u2;refine ax ?_;refine cF (fun hc3=>?_) fun hc3=>?_
 .refine ay ?_;have g4:=vw (s:=s) (i:=k) ae;refine ax ?_;refine bH k (hb:=fun _=>ae) ?_;refine bD (v:=.str (az s).1[k]!) (hi:=fun _=>ae) ?_;refine aq (hc:=h259 (az s).1[k]! ae) ?_;refine aA ?_;refine eX (cw.D _) ?_;refine ax ?_;refine aI (cw.D (⟨gR,(fN (az s).1[k]!).1,(fN (az s).1[k]!).2.1⟩:cw)) (he:=aQ) ?_;refine gu ?_;refine ik ?_;refine aE ?_;refine av (fun hc4=>?_) (fun hc4=>?_)
  .simp only[dn]at hc4;have hz2:=PG (es:=es) (show k<(az s).1.length by omega) hc4;refine ax ?_;refine de _ ?_;refine cZ ?_;refine bF (di ?_ (aj (D.int .i64) ?_) (aj (D.int .i64) ?_));all_goals
    rw[hr,hz2,ru aF];first|done|rfl
  simp only[dn]at hc4;refine aD ?_;refine ba hm (ι:=Nat) (fun j=>[⟨true,.str s⟩,⟨true,.ptr 0 2 0 0⟩,.un,.un,.un,⟨true,.sl 1 ((az s).1.map D.str)⟩,⟨true,.bool (az s).2⟩,.un,.un,.un,.un,⟨true,.int .i64 (k:Nat)⟩,.un,.un,.un,⟨true,.int .i64 (j:Nat)⟩,.un,⟨true,.ptr 3 11 0 0⟩,⟨true,.ptr 1 2 0 0⟩,.un,.un]) (fun _=>[(0,.buf 2 [.agg [.str [],.bq]]),(1,.buf 2 [.agg [.str ((gV (az s).1[0]!).getD []),.own 2 11 0 (es).length]]),(2,.buf 11 ((es).map cw.D)),(3,.buf 11 [cw.D (⟨gR,(fN (az s).1[k]!).1,(fN (az s).1[k]!).2.1⟩:cw)])]) 100 (fun j=>(k+1<=j/\j<=(az s).1.length)/\AW (az s).1 (k+1)=sc (fun j=>decide (fw (az s).1[j]! =gx)) j (az s).1.length) (fun j=>(az s).1.length-j) (k+1) ⟨ae,rfl⟩ (a7.to [(0,0),(1,1),(2,2),(72,3)] ah ah lF (by refine eM ?_;refine eM ?_;refine eM ?_;first|(refine bo.fW ah ah ah ?_;exact bo.nil)|(refine bo.nl 72 ah ah rfl ah ?_;exact bo.nil))) ?_;rintro j ⟨hj,hn⟩;refine aE ?_;intro u3;refine aB ?_;refine bH j (hb:=fun hf=>by simp at hf;omega) ?_;refine bD (v:=.str (az s).1[j]!) (hi:=fun hf=>by simp at hf;omega) ?_;refine c8 (hc:=fun hf=>h260 (az s).1[j]! (by have:=vw (s:=s) (i:=j) (by simp at hf;omega);omega)) ?_;refine ay ?_;refine av (fun hc5=>?_) (fun hc5=>?_)
  .simp only[dn]at hc5;refine cZ ?_;exact⟨(j+1),⟨ae,by rw[hn,Fi ae (cG hc5.2)]⟩,ae,(a7.to [(0,0),(1,1),(2,2),(3,3)] ah ah lF (by refine eM ?_;refine eM ?_;refine eM ?_;first|(refine bo.fW ah ah ah ?_;exact bo.nil)|(refine bo.nl 72 ah ah rfl ah ?_;exact bo.nil)))⟩
  simp only[dn]at hc5;have hnj:AW (az s).1 (k+1)=j:=by
   rw[hn];rcases hc5 with h|h
   .exact sf ae
   .by_cases hjl:j<(az s).1.length
    .exact BA hjl (b9 h)
    .exact sf ae
  have hz2:=Tj (es:=es) (show k<(az s).1.length by omega) hc4 hnj;refine aB ?_;by_cases hadd:(gB es (jE (slice (az s).1 (k+1) j) ((az s).2 ||decide (j<(az s).1.length))) (fN (az s).1[k]!).1 (fN (az s).1[k]!).2.1).1=0
  .refine cz (d:=cw.D (⟨gR,(fN (az s).1[k]!).1,(fN (az s).1[k]!).2.1⟩:cw)) ?_;refine aB ?_;refine Bg (k+1) j ?_;refine aB ?_;refine ik ?_;refine ax ?_;refine aq (v:=.str (jE (slice (az s).1 (k+1) j) ((az s).2 ||decide (j<(az s).1.length)))) (hc:=h262 (slice (az s).1 (k+1) j) ((az s).2 ||decide (j<(az s).1.length)) (Lg ae)) (ha:=fun _=>by rw[show decide (j<(az s).1.length)=decide ((j:Int)<((az s).1.length:Int))from gO.2 ae];exact rfl) ?_;refine cx (nx':=113) (v:=.int .i64 0) (m':=[(126,.buf 11 ((gB es (jE (slice (az s).1 (k+1) j) ((az s).2 ||decide (j<(az s).1.length))) (fN (az s).1[k]!).1 (fN (az s).1[k]!).2.1).2.map cw.D)),(0,.buf 2 [.agg [.str [],.bq]]),(1,.buf 2 [.agg [.str ((gV (az s).1[0]!).getD []),.own 126 11 0 (gB es (jE (slice (az s).1 (k+1) j) ((az s).2 ||decide (j<(az s).1.length))) (fN (az s).1[k]!).1 (fN (az s).1[k]!).2.1).2.length]]),(3,.buf 11 [cw.D (⟨gR,(fN (az s).1[k]!).1,(fN (az s).1[k]!).2.1⟩:cw)])]) (hc:=fun K' hK=>h261 ((gV (az s).1[0]!).getD []) es (⟨gR,(fN (az s).1[k]!).1,(fN (az s).1[k]!).2.1⟩:cw) (jE (slice (az s).1 (k+1) j) ((az s).2 ||decide (j<(az s).1.length))) hes _ 1 2 _ K' ah ah cb cb (fun h=>absurd hadd h) (fun _=>hK)) (hn:=aF) ?_;refine aZ ?_;refine av (fun hc6=>?_) (fun hc6=>?_)
   .exact absurd hc6 aF
   refine aZ ?_;exact⟨((gB es (jE (slice (az s).1 (k+1) j) ((az s).2 ||decide (j<(az s).1.length))) (fN (az s).1[k]!).1 (fN (az s).1[k]!).2.1).2,j),⟨dE,(FZ hadd hes).1,(FZ hadd hes).2,by rw[hr,hz2,ak (fun h=>h hadd)]⟩,dE,(a7.to [(0,0),(1,1),(126,2)] ah ah lF (by refine eM ?_;refine bo.FJ ah ah ah ?_;refine bo.nl 126 ah ah rfl (br (fun _=>rfl) _) ?_;exact bo.nil))⟩
  .refine cz (d:=cw.D (⟨gR,(fN (az s).1[k]!).1,(fN (az s).1[k]!).2.1⟩:cw)) ?_;refine aB ?_;refine Bg (k+1) j ?_;refine aB ?_;refine ik ?_;refine ax ?_;refine aq (v:=.str (jE (slice (az s).1 (k+1) j) ((az s).2 ||decide (j<(az s).1.length)))) (hc:=h262 (slice (az s).1 (k+1) j) ((az s).2 ||decide (j<(az s).1.length)) (Lg ae)) (ha:=fun _=>by rw[show decide (j<(az s).1.length)=decide ((j:Int)<((az s).1.length:Int))from gO.2 ae];exact rfl) ?_;refine cx (nx':=112) (v:=.int .i64 (gB es (jE (slice (az s).1 (k+1) j) ((az s).2 ||decide (j<(az s).1.length))) (fN (az s).1[k]!).1 (fN (az s).1[k]!).2.1).1) (m':=[(0,.buf 2 [.agg [.str [],.bq]]),(1,.buf 2 [.agg [.str ((gV (az s).1[0]!).getD []),.own 2 11 0 (es).length]]),(2,.buf 11 ((es).map cw.D)),(3,.buf 11 [cw.D (⟨gR,(fN (az s).1[k]!).1,(fN (az s).1[k]!).2.1⟩:cw)])]) (hc:=fun K' hK=>h261 ((gV (az s).1[0]!).getD []) es (⟨gR,(fN (az s).1[k]!).1,(fN (az s).1[k]!).2.1⟩:cw) (jE (slice (az s).1 (k+1) j) ((az s).2 ||decide (j<(az s).1.length))) hes _ 1 2 _ K' ah ah cb cb (fun _=>hK) (fun h=>absurd h hadd)) (hn:=aF) ?_;refine aZ ?_;refine av (fun hc6=>?_) (fun hc6=>?_)
   .refine ax ?_;refine de _ ?_;refine fS ?_;refine bF (di ?_ (aj (D.int .i64) ?_) (aj (D.int .i64) ?_));all_goals
     rw[hr,hz2,aw hadd,ru hadd];first|done|rfl
   exact absurd (by simpa using hc6) hadd
 refine ax ?_;refine eH 2 ?_;refine aA ?_;refine cz (d:=fP.D ⟨((gV (az s).1[0]!).getD []),es⟩) ?_;refine aI (fP.D ⟨((gV (az s).1[0]!).getD []),es⟩) (he:=aQ) ?_;refine aB ?_;refine bF (di ?_ (aj (D.int .i64) ?_) (aj (D.int .i64) ?_));all_goals
  rw[hr,Du (by rw[jX];omega)];first|done|rfl
def C87 (Y:Ctx):Prop:=FF (bx Y 87)
noncomputable def HA:aC:=cP 12
def w1202 (h73:C73 Y)(h313:C313 Y)(h358:Xc Y)(s:fP)  (hp0:∀x∈s.es,fA x.r):dh Y HA (.tup [.str (iV s).1,.int .i64 (iV s).2]) [fP.D s]:=by
 show bJ _ _ _ [⟨_,_⟩,_,_,_,_,_,_,_,_,_,_,_] _;refine ar ?_;refine aD ?_;refine cz (d:=fP.D s) ?_;refine aq (hc:=h358 s hp0) ?_;refine ax ?_;refine av (fun hc0=>?_) (fun hc0=>?_)
 .simp only[bd]at hc0;refine aD ?_;refine bF (aH (aj D.str ?_) (aj (D.int .i64) ?_));all_goals
   have hps:iV s=([],1):=by unfold iV;rw[aw hc0]
   rw[hps];first|done|rfl
 simp only[bK]at hc0;obtain⟨q1,q2⟩:=Fj hc0;refine ay ?_;refine aT (v:=.str s.name) ?_;refine fF ?_;refine fF ?_;refine aD ?_;refine ba hm (ι:=Nat) (fun i=>[.un,.un,.un,⟨true,.ptr 0 2 0 0⟩,.un,⟨true,.int .i64 (i:Nat)⟩,.un,.un,.un,⟨true,.str (uI s i)⟩,.un,.un]) (fun i=>[(0,.buf 2 [fP.D s])]) 12 (fun i=>i<=s.es.length) (fun i=>s.es.length-i) 0 ae (a7.to [(0,0)] ah ah (by repeat(first|exact dp.nil|refine dp.un ?_|refine dp.eq ah ?_|refine dp.nl (aj D.str (by rw[TD];rfl)) ah ?_)) pT) ?_;intro i hi;have q3:=yZ (s:=s) ae hi;refine aB ?_;refine aT (v:=.sl 11 (s.es.map cw.D)) ?_;refine aA ?_;intro u0;refine ax ?_;refine cF (fun hc1=>?_) fun hc1=>?_
 .refine ay ?_;have hsm:=hp0 _ (bE (show i<s.es.length by omega));have q4:=uh s.es[i]!.r;have q5:=gY s.es[i]!.sum;have hxt:=BJ (show i<s.es.length by omega);have hee:=Ep s.es[i]!;refine aA ?_;refine aT (v:=.sl 11 (s.es.map cw.D)) ?_;refine aA ?_;refine bH i ?_;refine bD (v:=cw.D s.es[i]!) ?_;refine aA ?_;refine aI (cw.D s.es[i]!) (he:=aQ) ?_;refine aZ ?_;refine aT (v:=.bool s.es[i]!.off) ?_;refine aA ?_;refine cF (fun hc2=>?_) fun hc2=>?_
  .refine aE ?_;refine aT (v:=Rec.D s.es[i]!.r) ?_;refine aq (hc:=h73 s.es[i]!.r hsm) ?_;refine bL ?_;refine fF ?_;refine aA ?_;refine aT (v:=.int .u64 s.es[i]!.sum) ?_;refine aq (hc:=h313 _) ?_;refine fF ?_;refine aA ?_;refine fF ?_;refine aA ?_;refine fF ?_;refine cZ ?_;exact⟨i+1,ae,ae,(a7.to [(0,0)] ah ah (by repeat(first|exact dp.nil|refine dp.un ?_|refine dp.eq ah ?_|refine dp.nl (aj D.str (by rw[hxt,hee,hc2];simp[gx,uE])) ah ?_)) pT)⟩
  refine ay ?_;refine aT (v:=Rec.D s.es[i]!.r) ?_;refine aq (hc:=h73 s.es[i]!.r hsm) ?_;refine bL ?_;refine fF ?_;refine aA ?_;refine aT (v:=.int .u64 s.es[i]!.sum) ?_;refine aq (hc:=h313 _) ?_;refine fF ?_;refine aA ?_;refine fF ?_;refine aA ?_;refine fF ?_;refine cZ ?_;exact⟨i+1,ae,ae,(a7.to [(0,0)] ah ah (by repeat(first|exact dp.nil|refine dp.un ?_|refine dp.eq ah ?_|refine dp.nl (aj D.str (by rw[hxt,hee,hc2];simp[gx,TJ])) ah ?_)) pT)⟩
 refine ay ?_;have h33:i=s.es.length:=ae;subst h33;have hps:iV s=(uI s s.es.length,0):=by unfold iV;rw[ak (by simp[hc0]),Ft]
 refine aE ?_;refine bF (aH (aj D.str ?_) (aj (D.int .i64) ?_));all_goals
  rw[hps];first|done|rfl
def We (Y:Ctx):Prop:=zg (bx Y 1202)
section
section
variable {Y:Ctx} {draw:Bool} {r:List GI} {env rs:List cg} {nx:Nat} {m:List (Nat×bW)} {K:List cg->St->Prop} {g:Option (Nat×Bool)} {f:Bool}
def r_mn {x y:Src}{fx fy:Bool}{k k2:IntKind}{a b:Int}(v:Int)(h:aM Y draw r env (⟨f,.int k v⟩::rs) nx m K)(hg:GF rs g f:=by first|exact rfl|exact⟨_,_,rfl,rfl⟩)(hx:cR env rs x=⟨fx,.int k a⟩:=by exact rfl)(hy:cR env rs y=⟨fy,.int k2 b⟩:=by exact rfl)(kx:f=true->fx=true:=by first|exact fun _=>rfl|exact fun h=>h|(intro h;simp_all))(ky:f=true->fy=true:=by first|exact fun _=>rfl|exact fun h=>h|(intro h;simp_all))(hv:f=true->(if b<a then b else a)=v):aM Y draw (⟨.mn x y,g⟩::r) env rs nx m K:=
 cd rfl hg _ (fun hf=>by simp[aV.ez,hx,hy,kx hf,ky hf]) (fun hf=>by simp only[aV.val,hx,hy];rw[hv hf]) (fun _=>h)
end
end
noncomputable def yo:aC:=cP 5
def w1197 {Y:Ctx}(hm:(Y.at 0).b7)(h85:C85 Y)(h86:C86 Y)(h87:C87 Y)(h88:C88 Y)(h478:NG Y)(h1202:We Y)(h1203:Wf Y)(l:List Int)(a:Int)(c:Int)(b:au)   :dh Y yo (.bool true) [.sl 1 (l.map (D.int .i64)),.int .i64 a,.int .i64 c,.str b]:=by
 show bJ _ _ _ [⟨_,_⟩,⟨_,_⟩,⟨_,_⟩,⟨_,_⟩,_,_,_,_,_,_,_,_,_,_,_,_] _;refine ar ?_;refine aD ?_;intro u0;refine ax ?_;refine av (fun hc0=>?_) (fun hc0=>?_)
 .try simp only[dn]at hc0
  refine ax ?_;refine aq (hc:=h85) ?_;refine ay ?_;exact bU rfl
 simp only[dn]at hc0;refine ax ?_;have hg:=gSh_G l 0 (n:=4) aF;have hl:=hg.l;refine aA ?_;refine aq (hc:=h1203 l 0 m9 4 (by refine⟨ae,ae,AY⟩)) ?_;refine aq (v:=.tup [.str (iM (B2 l 0 m9 4)),.int .i64 0]) (hc:=by have:=h1202 (B2 l 0 m9 4) hg.m;rw[hg.p]at this;exact this) ?_;refine fS ?_;intro u1;refine aA ?_;refine aq (hc:=h478 a ((iM (B2 l 0 m9 4)).length+1:Nat) ae) ?_;refine ax ?_;have hr:=kq a ((iM (B2 l 0 m9 4)).length+1:Nat) ae;revert hr;generalize a%(((iM (B2 l 0 m9 4)).length+1:Nat):Int)=kk;intro hr;obtain⟨k,rfl⟩:=Int.eq_ofNat_of_zero_le hr.1;refine aB ?_;intro u2;refine ax ?_;refine r_mn ((min ((iM (B2 l 0 m9 4)).length-k) 90:Nat):Int) (hv:=fun _=>by split<;>omega) ?_;refine aA ?_;refine aq (hc:=h478 c ((min ((iM (B2 l 0 m9 4)).length-k) 90:Nat)+1) ae) ?_;refine ax ?_;have hr2:=kq c ((min ((iM (B2 l 0 m9 4)).length-k) 90:Nat)+1) ae;revert hr2;generalize c%(((min ((iM (B2 l 0 m9 4)).length-k) 90:Nat):Int)+1)=nn;intro hr2;obtain⟨n,rfl⟩:=Int.eq_ofNat_of_zero_le hr2.1;refine ay ?_;refine kX k ?_;refine aA ?_;refine dj (hb:=fun _=>by rw[er];omega) ?_;refine aB ?_;refine fu (k+n) ?_;refine dj (hb:=fun _=>by rw[bP,er,jO];omega) ?_;refine ax ?_;have htl:((iM (B2 l 0 m9 4)).take k++b++(iM (B2 l 0 m9 4)).drop (k+n)).length<=1048576:=by simp only[bP,er,jO];omega
 revert htl;generalize (iM (B2 l 0 m9 4)).take k++b++(iM (B2 l 0 m9 4)).drop (k+n)=t;intro htl;refine ax ?_;refine aq (hc:=h86 t ae) ?_;refine aA ?_;refine eX _ ?_;refine ay ?_;refine aI (fP.D (gS t).1) (he:=aQ) ?_;refine aE ?_;refine aq (hc:=h87 t ae) ?_;refine aA ?_;refine eX _ ?_;refine ay ?_;refine aI (fP.D (gS t).1) (he:=aQ) ?_;refine aB ?_;refine aq (hc:=h85) ?_;refine aA ?_;refine cz (d:=fP.D (gS t).1) ?_;refine cz (d:=fP.D (gS t).1) ?_;refine c8 (hc:=fun hf=>h88 (gS t).1 (gS t).1) ?_;refine sy ?_;refine bU ?_;simp
def Iu (T:List D->D->Prop):Prop:=∀(l:List Int) (a:Int) (c:Int) (b:au),T [.sl 1 (l.map (D.int .i64)),.int .i64 a,.int .i64 c,.str b] (.bool true)
def bA {p:Prop}(h:p:=by((repeat intro _);exact ZE I2 (.inl (by assumption)) fun T hT=>(by apply hT<;>assumption))):p:=h
def bm {t:List (Nat×qO)}{key u q:Nat}:((under t key u).at q).b7:=vH t key u q
end Go.Abs
