/- A part of the proofs. -/
import Derived.Test.YtfeebkgpalkobaaGreatDoorP08
set_option linter.all false
set_option maxRecDepth 60000
set_option maxHeartbeats 2000000
namespace Go.Abs
variable {Y:Ctx}(hm:(Y.at 0).cj)
noncomputable def KD:ax:=b8 89
def w417 (h628:Xr Y)(h629:Sr Y)(w:bZ)(c:List Int)(u:Nat)  (hp0:LD w c u):dh Y KD (.sl 3 ((xK w c u).map qp.D)) [bZ.D w,.sl 1 (c.map (D.int .i64)),.int .i64 ((u:Nat):Int)]:=by
 show bO _ _ _ [⟨_,_⟩,⟨_,_⟩,⟨_,_⟩,_,_,_,_,_,_,_,_,_,_] _;refine ai ?_;refine aF ?_;obtain⟨⟨hk,hkc⟩,⟨hl1,hl2⟩,hmn,hmb⟩:=Bv hp0;have huc:u<c.length:=hp0.2.2.1;have hul:u<w.us.length:=by have:=(pW hp0.2.1).1;omega
 refine aF ?_;refine az (v:=.sl 3 ((w.us).map cQ.D)) ?_;refine aw ?_;refine aV u (hj:=fun _=>rfl) (hb:=fun _=>ah) ?_;refine aw ?_;refine aW (v:=.sl 8 ((w.us[u]!.cands).map dA.D)) (hi:=fun hf=>by first|omega|(simp at hf;omega)) ?_;refine av ?_;refine aV u (hj:=fun _=>rfl) (hb:=fun _=>ah) ?_;refine aW (v:=.int .i64 c[u]!) (hi:=fun hf=>by first|omega|(simp at hf;omega)) ?_;refine aV c[u]!.toNat (hj:=fun _=>hkc) (hb:=fun _=>ah) ?_;refine aW (v:=dA.D (bV w c u)) (hi:=fun _=>ah) ?_;refine aw ?_;refine bD (dA.D (bV w c u)) (he:=bm) ?_;refine aD ?_;refine a7 hm (ι:=Nat) (fun k=>[.un,⟨true,.sl 1 ((c).map (D.int .i64))⟩,⟨true,.int .i64 (u:Nat)⟩,.un,⟨true,.ptr 1 1 0 0⟩,⟨true,.int .i64 (k:Nat)⟩,⟨true,.ptr 2 8 0 0⟩,.un,.un,⟨true,.own 0 3 0 (fu w c u (bV w c u).needs k).length⟩,.un,.un,.un]) (fun k=>[(0,.buf 3 ((fu w c u (bV w c u).needs k).map qp.D)),(1,.buf 1 [bZ.D w]),(2,.buf 8 [dA.D (bV w c u)])]) 18 (fun k=>k<=(bV w c u).needs.length) (fun k=>(bV w c u).needs.length-k) 0 ah (aO.to [(0,1),(15,2)] ae ae (by repeat(first|exact aL.nil|refine aL.un ?_|refine aL.eq ae ?_|refine aL.nl ae ae ?_|refine aL.ni (Or.inr ⟨_,_,_,rfl⟩) ?_)) (by repeat(first|exact aB.nil|refine aB.ee ae ae cK ?_|refine aB.ep ae ae ae ?_|refine aB.oE ae ae ae ae ?_|refine aB.nl 0 ae ae ae ae ?_|refine aB.nl 15 ae ae ae ae ?_|refine aB.mt ae ae ae ae ?_))) ?_;intro k hk1;have hlk:=nb (w:=w) (c:=c) (u:=u) (l:=(bV w c u).needs) k;refine aF ?_;refine az (v:=.sl 1 (((bV w c u).needs).map ei)) ?_;refine aw ?_;intro u0;refine av ?_;refine cd (fun hc0=>?_) fun hc0=>?_
 .refine ar ?_;refine bo (d:=bZ.D w) ?_;refine av ?_;refine az (v:=.sl 1 (((bV w c u).needs).map ei)) ?_;refine aw ?_;refine aV (k) (hj:=fun hf=>by first|omega|(simp at hf;omega)) (hb:=fun hf=>by first|omega|(simp at hf;omega)) ?_;refine aW (v:=.sl 3 ((((bV w c u).needs)[k]!).map Want.D)) (hi:=fun hf=>by first|omega|(simp at hf;omega)) ?_;refine ak (hc:=h628 (w) (c) (((bV w c u).needs)[k]!) ?_) ?_;rotate_left;first|assumption|omega|exact hp0.1|exact hmn _ (aq ah)|exact hmb _ (aq ah)
  refine av ?_;refine wp_cond (fun hc1=>?_) (fun hc1=>?_)
  .simp only[cW]at hc1;have hst:(fu w c u (bV w c u).needs k)++[⟨2,((u:Nat):Int),((k:Nat):Int)⟩]=(fu w c u (bV w c u).needs (k+1)):=by rw[FK hc1]
   refine aF ?_;refine b6 (qp.D ⟨2,((u:Nat):Int),((k:Nat):Int)⟩) ?_;refine bY [qp.D ⟨2,((u:Nat):Int),((k:Nat):Int)⟩] ?_;refine iU (q:=qp.D) (xs:=(fu w c u (bV w c u).needs k)) (e:=⟨2,((u:Nat):Int),((k:Nat):Int)⟩) (hb:=ah) ?_;refine aD ?_;refine ba (hb:=fun hf=>by first|omega|(simp at hf;omega)) ?_;refine ar ?_;rw[hst];exact⟨k+1,ah,ah,(aO.to [(37,0),(1,1),(2,2)] ae ae (by repeat(first|exact aL.nil|refine aL.un ?_|refine aL.eq ae ?_|refine aL.nl ae ae ?_|refine aL.ni (Or.inr ⟨_,_,_,rfl⟩) ?_)) (by refine aB.nl 37 ae ae ae cK ?_;refine va ?_;refine va ?_;exact aB.nil))⟩
  simp only[dS]at hc1;have hst:(fu w c u (bV w c u).needs k)=(fu w c u (bV w c u).needs (k+1)):=by rw[FL hc1]
  refine aF ?_;refine ba (hb:=fun hf=>by first|omega|(simp at hf;omega)) ?_;refine ar ?_;rw[hst];exact⟨k+1,ah,ah,(aO.to [(0,0),(1,1),(2,2)] ae ae (by repeat(first|exact aL.nil|refine aL.un ?_|refine aL.eq ae ?_|refine aL.nl ae ae ?_|refine aL.ni (Or.inr ⟨_,_,_,rfl⟩) ?_)) (by repeat(first|exact aB.nil|refine aB.ee ae ae cK ?_|refine aB.ep ae ae ae ?_|refine aB.oE ae ae ae ae ?_|refine aB.nl 0 ae ae ae ae ?_)))⟩
 refine ar ?_;obtain rfl:k=(bV w c u).needs.length:=ah;refine ar ?_;rw[show(fu w c u (bV w c u).needs (bV w c u).needs.length)=((fu w c u (bV w c u).needs (bV w c u).needs.length)++jB w c u (bV w c u).bars 0)from(iH _).symm];refine a7 hm (ι:=Nat) (fun q=>[.un,⟨true,.sl 1 ((c).map (D.int .i64))⟩,⟨true,.int .i64 (u:Nat)⟩,.un,⟨true,.ptr 1 1 0 0⟩,.un,⟨true,.ptr 2 8 0 0⟩,.un,.un,⟨true,.own 0 3 0 ((fu w c u (bV w c u).needs (bV w c u).needs.length)++jB w c u (bV w c u).bars q).length⟩,⟨true,.int .i64 (q:Nat)⟩,.un,.un]) (fun q=>[(0,.buf 3 (((fu w c u (bV w c u).needs (bV w c u).needs.length)++jB w c u (bV w c u).bars q).map qp.D)),(1,.buf 1 [bZ.D w]),(2,.buf 8 [dA.D (bV w c u)])]) 24 (fun q=>q<=(bV w c u).bars.length) (fun q=>(bV w c u).bars.length-q) 0 ah (aO.to [(0,0),(1,1),(2,2)] ae ae (by repeat(first|exact aL.nil|refine aL.un ?_|refine aL.eq ae ?_|refine aL.nl ae ae ?_|refine aL.ni (Or.inr ⟨_,_,_,rfl⟩) ?_)) (by repeat(first|exact aB.nil|refine aB.ee ae ae cK ?_|refine aB.ep ae ae ae ?_|refine aB.oE ae ae ae ae ?_|refine aB.nl 0 ae ae ae ae ?_))) ?_;intro q hq;have hlq:=rB (w:=w) (c:=c) (u:=u) (b:=(bV w c u).bars) q;have hlk:=nb (w:=w) (c:=c) (u:=u) (l:=(bV w c u).needs) (bV w c u).needs.length;have hlt:((fu w c u (bV w c u).needs (bV w c u).needs.length)++jB w c u (bV w c u).bars q).length<=48:=by rw[bS];omega
 refine aF ?_;refine az (v:=.sl 3 (((bV w c u).bars).map Want.D)) ?_;refine aw ?_;intro u1;refine av ?_;refine cd (fun hc2=>?_) fun hc2=>?_
 .refine ar ?_;refine bo (d:=bZ.D w) ?_;refine av ?_;refine az (v:=.sl 3 (((bV w c u).bars).map Want.D)) ?_;refine aw ?_;refine aV (q) (hj:=fun hf=>by first|omega|(simp at hf;omega)) (hb:=fun hf=>by first|omega|(simp at hf;omega)) ?_;refine aW (v:=Want.D (((bV w c u).bars)[q]!)) (hi:=fun hf=>by first|omega|(simp at hf;omega)) ?_;refine ak (hc:=h629 (w) (c) (((bV w c u).bars)[q]!) ?_) ?_;rotate_left;first|assumption|omega|exact hp0.1|exact hmn _ (aq ah)|exact hmb _ (aq ah)
  refine aw ?_;refine wp_cond (fun hc3=>?_) (fun hc3=>?_)
  .have hst:((fu w c u (bV w c u).needs (bV w c u).needs.length)++jB w c u (bV w c u).bars q)++[⟨3,((u:Nat):Int),((q:Nat):Int)⟩]=((fu w c u (bV w c u).needs (bV w c u).needs.length)++jB w c u (bV w c u).bars (q+1)):=by rw[E5 hc3,<-eV]
   refine aF ?_;refine b6 (qp.D ⟨3,((u:Nat):Int),((q:Nat):Int)⟩) ?_;refine bY [qp.D ⟨3,((u:Nat):Int),((q:Nat):Int)⟩] ?_;refine iU (q:=qp.D) (xs:=((fu w c u (bV w c u).needs (bV w c u).needs.length)++jB w c u (bV w c u).bars q)) (e:=⟨3,((u:Nat):Int),((q:Nat):Int)⟩) (hb:=ah) ?_;refine aD ?_;refine ba (hb:=fun hf=>by first|omega|(simp at hf;omega)) ?_;refine ar ?_;rw[hst];exact⟨q+1,ah,ah,(aO.to [(42,0),(1,1),(2,2)] ae ae (by repeat(first|exact aL.nil|refine aL.un ?_|refine aL.eq ae ?_|refine aL.nl ae ae ?_|refine aL.ni (Or.inr ⟨_,_,_,rfl⟩) ?_)) (by refine aB.nl 42 ae ae ae cK ?_;refine va ?_;refine va ?_;exact aB.nil))⟩
  have hst:((fu w c u (bV w c u).needs (bV w c u).needs.length)++jB w c u (bV w c u).bars q)=((fu w c u (bV w c u).needs (bV w c u).needs.length)++jB w c u (bV w c u).bars (q+1)):=by rw[E4 hc3]
  refine aF ?_;refine ba (hb:=fun hf=>by first|omega|(simp at hf;omega)) ?_;refine ar ?_;rw[hst];exact⟨q+1,ah,ah,(aO.to [(0,0),(1,1),(2,2)] ae ae (by repeat(first|exact aL.nil|refine aL.un ?_|refine aL.eq ae ?_|refine aL.nl ae ae ?_|refine aL.ni (Or.inr ⟨_,_,_,rfl⟩) ?_)) (by repeat(first|exact aB.nil|refine aB.ee ae ae cK ?_|refine aB.ep ae ae ae ?_|refine aB.oE ae ae ae ae ?_|refine aB.nl 0 ae ae ae ae ?_)))⟩
 refine av ?_;obtain rfl:q=(bV w c u).bars.length:=ah;rw[show((fu w c u (bV w c u).needs (bV w c u).needs.length)++jB w c u (bV w c u).bars (bV w c u).bars.length)=xK w c u from rfl];refine dd 0 ?_;refine aD ?_;refine cy (?_);rfl
noncomputable def DV:ax:=b8 47
def w186 (h170:R0 Y)(h417:WN Y)(w:bZ)(c:List Int)  (hp0:E0 w c):dh Y DV (.sl 3 ((jL w c).map qp.D)) [bZ.D w,.sl 1 (c.map (D.int .i64))]:=by
 show bO _ _ _ [⟨_,_⟩,⟨_,_⟩,_,_,_,_,_,_,_,_] _;refine ai ?_;refine dj ?_;refine bo (d:=bZ.D w) ?_;refine aw ?_;refine ak (hc:=h170 (w) (c) ?_) ?_;rotate_left;first|assumption|omega|exact hp0.1
 refine av ?_;refine bC (fun hc0=>?_) (fun hc0=>?_)
 .try simp only[jU]at hc0
  refine aD ?_;refine cy (?_);rw[show jL w c=[]from ay hc0];rfl
 simp only[dS]at hc0;have hml:=MW hc0;have hwl:=yI hp0.1 hc0;refine aF ?_;refine aV (0) (hj:=fun hf=>by first|omega|(simp at hf;omega)) (hb:=fun hf=>by first|omega|(simp at hf;omega)) ?_;refine aW (v:=.int .i64 (c)[0]!) (hi:=fun hf=>by first|omega|(simp at hf;omega)) ?_;refine av ?_;refine cd (fun hc1=>?_) fun hc1=>?_
 .exact absurd hc1 (by have:=hp0.2;omega)
 refine aD ?_;refine a7 hm (ι:=Nat) (fun u=>[.un,⟨true,.sl 1 ((c).map (D.int .i64))⟩,.un,⟨true,.ptr 1 1 0 0⟩,.un,.un,⟨true,.own 0 3 0 (fN w c u).length⟩,⟨true,.int .i64 (u:Nat)⟩,.un,.un]) (fun u=>[(0,.buf 3 ((fN w c u).map qp.D)),(1,.buf 1 [bZ.D w])]) 12 (fun u=>u<=c.length) (fun u=>c.length-u) 0 ah (aO.to [(0,1)] ae ae (by repeat(first|exact aL.nil|refine aL.un ?_|refine aL.eq ae ?_|refine aL.nl ae ae ?_|refine aL.ni (Or.inr ⟨_,_,_,rfl⟩) ?_)) (by repeat(first|exact aB.nil|refine aB.ee ae ae cK ?_|refine aB.ep ae ae ae ?_|refine aB.oE ae ae ae ae ?_|refine aB.nl 0 ae ae ae ae ?_|refine aB.mt ae ae ae ae ?_))) ?_;intro u hu;have hlu:=hwl u hu;refine aD ?_;intro u0;refine av ?_;refine cd (fun hc2=>?_) fun hc2=>?_
 .refine aD ?_;refine aV (u) (hj:=fun hf=>by first|omega|(simp at hf;omega)) (hb:=fun hf=>by first|omega|(simp at hf;omega)) ?_;refine aW (v:=.int .i64 (c)[u]!) (hi:=fun hf=>by first|omega|(simp at hf;omega)) ?_;refine av ?_;refine ed (fun hc3=>?_) fun hc3=>?_
  .refine aw ?_;have hone:=Hx (u:=u) hp0 hc0 ah ah;have hol:=Dm hone;have hst:fN w c u++xK w c u=fN w c (u+1):=(GO ah).symm;refine aw ?_;refine bo (d:=bZ.D w) ?_;refine av ?_;refine ak (hc:=h417 w c u hone) ?_;refine xU (q:=qp.D) (xs:=fN w c u) (ys:=xK w c u) (he:=pK.sl) (hb:=ah) ?_;refine aD ?_;refine ba (hb:=fun hf=>by first|omega|(simp at hf;omega)) ?_;refine ar ?_;rw[hst];exact⟨u+1,ah,ah,(aO.to [(26,0),(1,1)] ae ae (by repeat(first|exact aL.nil|refine aL.un ?_|refine aL.eq ae ?_|refine aL.nl ae ae ?_|refine aL.ni (Or.inr ⟨_,_,_,rfl⟩) ?_)) (by refine aB.nl 26 ae ae ae cK ?_;refine va ?_;exact aB.nil))⟩
  refine aF ?_;refine ba (hb:=fun hf=>by first|omega|(simp at hf;omega)) ?_;refine ar ?_;rw[show fN w c u=fN w c (u+1)from(GN ah).symm];exact⟨u+1,ah,ah,(aO.to [(0,0),(1,1)] ae ae (by repeat(first|exact aL.nil|refine aL.un ?_|refine aL.eq ae ?_|refine aL.nl ae ae ?_|refine aL.ni (Or.inr ⟨_,_,_,rfl⟩) ?_)) (by repeat(first|exact aB.nil|refine aB.ee ae ae cK ?_|refine aB.ep ae ae ae ?_|refine aB.oE ae ae ae ae ?_|refine aB.nl 0 ae ae ae ae ?_)))⟩
 refine av ?_;obtain rfl:u=c.length:=ah;rw[show fN w c c.length=jL w c from(aj (by rw[hc0];simp)).symm];refine dd 0 ?_;refine aD ?_;refine cy (?_);rfl
noncomputable def DU:ax:=b8 46
def w52 {Y:Ctx}(hm:(Y.at 0).cj)(h170:R0 Y)(h186:R2 Y)(w:bZ)(c:List Int)  (hp0:E0 w c):dh Y DU (.bool (nY w c&&decide ((jL w c).length=0))) [bZ.D w,.sl 1 (c.map (D.int .i64))]:=by
 show bO _ _ _ [⟨_,_⟩,⟨_,_⟩,_,_] _;refine ai ?_;refine aF ?_;refine bo (d:=bZ.D w) ?_;refine aw ?_;refine ak (hc:=h170 (w) (c) ?_) ?_;rotate_left;first|assumption|exact hp0.1
 refine aw ?_;refine bo (d:=bZ.D w) ?_;refine aw ?_;refine bK (hc:=fun hf=>h186 (w) (c) ?_) ?_;rotate_left;first|assumption|exact hp0.1
 refine j6 ?_;refine aD ?_;refine bG ?_;simp
noncomputable def NV:ax:=b8 123
def w453 {Y:Ctx}(hm:(Y.at 0).cj)  (c:Int)   :dh Y NV (.bool (iT c)) [.int .u8 c]:=by
 show bO _ _ _ [⟨_,_⟩,_] _;refine ai ?_;refine mF ?_;exact bG rfl
noncomputable def Ga:ax:=b8 124
def w454 {Y:Ctx}(hm:(Y.at 0).cj)  (c:Int)   :dh Y Ga (.bool (cn c)) [.int .u8 c]:=by
 show bO _ _ _ [⟨_,_⟩,_] _;refine ai ?_;refine mF ?_;exact bG rfl
noncomputable def KG:ax:=b8 83
def w357 (h453:Sf Y)(h454:Pe Y)(s:aU)   :dh Y KG (.bool (fj s)) [.str s]:=by
 show bO _ _ _ [⟨_,_⟩,_,_,_,_,_] _;refine ai ?_;refine aH ?_;intro u0;refine ar ?_;refine j6 ?_;refine ar ?_;refine cd (fun hc0=>?_) fun hc0=>?_
 .refine aD ?_;refine bG ?_;symm;simp only[fj,ey,dn];exact Or.inl ah
 refine aD ?_;refine a7 hm (ι:=Nat) (fun i=>[⟨true,.str s⟩,.un,.un,⟨true,.int .i64 (i:Nat)⟩,.un,.un]) (fun i=>[]) 10 (fun i=>i<=s.length/\fj s=cF (fun i=>Ay (at8 s i)) i s.length) (fun i=>s.length-i) 0 ⟨ah,by simp only[fj];rw[cX ah,cX ah];rfl⟩ (du []) ?_;rintro i ⟨hi,hr⟩;refine aD ?_;intro u1;refine av ?_;refine cd (fun hc1=>?_) fun hc1=>?_
 .refine aH ?_;refine ak (hc:=h453 _) ?_;refine aD ?_;refine ak (hc:=h454 _) ?_;refine eW ?_;refine ed (fun hc2=>?_) fun hc2=>?_
  .refine aH ?_;refine bG ?_;rw[hr,aN ah];simp[Ay,hc2]
  refine dj ?_;exact⟨i+1,⟨ah,by rw[hr,aN ah];simp[Ay,hc2]⟩,ah,(du [])⟩
 refine aH ?_;refine bG ?_;rw[hr,b7 ah]
noncomputable def KF:ax:=b8 114
def w216 (h453:Sf Y)(h454:Pe Y)(s:aU)   :dh Y KF (.bool (fS s)) [.str s]:=by
 show bO _ _ _ [⟨_,_⟩,_,_,_,_,_] _;refine ai ?_;refine aH ?_;intro u0;refine ar ?_;refine j6 ?_;refine aF ?_;refine xY 0 ?_;refine ak (hc:=h453 _) ?_;refine aD ?_;refine j6 ?_;refine aw ?_;refine xY (s.length-1) ?_;refine ar ?_;refine cd (fun hc0=>?_) fun hc0=>?_
 .refine aD ?_;refine bG ?_;symm;simp only[fS];rcases hc0 with(h|h)|h
  .rcases h with h|h<;>simp<;>omega
  .simp[h]
  .simp[h]
 refine aD ?_;refine a7 hm (ι:=Nat) (fun i=>[⟨true,.str s⟩,.un,.un,⟨true,.int .i64 (i:Nat)⟩,.un,.un]) (fun i=>[]) 24 (fun i=>i<=s.length/\1<=i/\fS s=cF (V3 s) i s.length) (fun i=>s.length-i) 1 ⟨ah,ah,by simp only[fS];rw[cX ah,cX ah,hc0.1.2,dx hc0.2];rfl⟩ (du []) ?_;rintro i ⟨hi,hi1,hr⟩;refine aD ?_;intro u1;refine av ?_;refine cd (fun hc1=>?_) fun hc1=>?_
 .refine aH ?_;refine ak (hc:=h453 _) ?_;refine aD ?_;refine ak (hc:=h454 _) ?_;refine Jy ?_;refine xY (i-1) ?_;refine aF ?_;refine ed (fun hc2=>?_) fun hc2=>?_
  .refine aH ?_;refine bG ?_;rw[hr,aN ah];simp only[V3];revert hc2;generalize iT (at8 s i)=x;generalize cn (at8 s i)=y;by_cases h1:at8 s i=45<;>by_cases h2:at8 s (i-1)=45<;>cases x<;>cases y<;>simp_all
  refine dj ?_;exact⟨i+1,⟨ah,ah,by rw[hr,aN ah];simp only[V3];revert hc2;generalize iT (at8 s i)=x;generalize cn (at8 s i)=y;by_cases h1:at8 s i=45<;>by_cases h2:at8 s (i-1)=45<;>cases x<;>cases y<;>simp_all⟩,ah,(du [])⟩
 refine aH ?_;refine bG ?_;rw[hr,b7 ah]
noncomputable def DX:ax:=b8 107
def w667 (h454:Pe Y)(s:aU)   :dh Y DX (.tup [.int .i64 (tt s),.bool (kD s)]) [.str s]:=by
 show bO _ _ _ [⟨_,_⟩,_,_,_,_,_,_,_,_] _;refine ai ?_;refine bF ?_;intro u0;refine ar ?_;refine j6 ?_;refine aF ?_;refine j6 ?_;refine ar ?_;refine xY 0 ?_;refine aF ?_;refine cd (fun hc0=>?_) fun hc0=>?_
 .refine aH ?_;refine cy (ct (aC (D.int .i64) ?_) (aC D.bool ?_));all_goals
   have:kD s=false:=by
    simp only[kD];rcases hc0 with(h|h)|h
    .rw[dx (by omega:¬1<=s.length)];rfl
    .rw[dx (by omega:¬s.length<=9)];simp
    .rw[cX (by omega:1<s.length),cX h.2];simp
   simp[tt,this]
 refine dj ?_;have hP:kD s=(cF (fun i=>cn (at8 s i)) 0 s.length&&decide (eN s<=9999)):=by
  simp only[kD];rw[cX (by omega:1<=s.length),cX (by omega:s.length<=9)];rcases hc0.2 with h|h
  .rw[dx (by omega:¬1<s.length)];rfl
  .rw[dx h,Bool.and_false];rfl
 refine a7 hm (ι:=Nat) (fun i=>[⟨true,.str s⟩,.un,.un,.un,⟨true,.int .i64 (i:Nat)⟩,.un,.un,⟨true,.int .i64 (eN (s.take i):Nat)⟩,.un]) (fun i=>[]) 22 (fun i=>i<=s.length/\s.length<=9/\kD s=(cF (fun i=>cn (at8 s i)) i s.length&&decide (eN s<=9999))) (fun i=>s.length-i) 0 ⟨ah,ah,hP⟩ (du []) ?_;rintro i ⟨hi,h9,hr⟩;refine aD ?_;intro u1;refine av ?_;refine cd (fun hc1=>?_) fun hc1=>?_
 .refine bF ?_;refine ak (hc:=h454 _) ?_;refine av ?_;refine bC (fun hc2=>?_) (fun hc2=>?_)
  .try simp only[jU]at hc2
   refine dj ?_;refine cy (ct (aC (D.int .i64) ?_) (aC D.bool ?_));all_goals
    have:kD s=false:=by rw[hr,aN ah,hc2];rfl
    simp[tt,this]
  simp only[dS]at hc2;refine av ?_;have h48:=hc2;simp only[cn,br,bU]at h48;have hn:=sc s i ah;have hn2:=ug s i ah;have h256:=AN s i;refine aw ?_;refine HK ?_;refine ar ?_;refine BK (at8 s i-48) (hb:=fun _=>IntWalk.u8_in _ ah) ?_;refine pA (at8 s i-48) (hb:=fun _=>IntWalk.i64_in _ ah) ?_;refine ar ?_;rw[show(eN (s.take i):Int)*10+(at8 s i-48)=(eN (s.take (i+1)):Nat)by omega];refine bF ?_;exact⟨i+1,⟨ah,h9,by rw[hr,aN ah,hc2];rfl⟩,ah,(du [])⟩
 refine aF ?_;have ht:s.take i=s:=gY ah;rw[ht];refine ar ?_;refine cd (fun hc3=>?_) fun hc3=>?_
 .refine aH ?_;refine cy (ct (aC (D.int .i64) ?_) (aC D.bool ?_));all_goals
   have:kD s=false:=by rw[hr,dx ah,Bool.and_false]
   simp[tt,this]
 refine bF ?_;refine cy (ct (aC (D.int .i64) ?_) (aC D.bool ?_));all_goals
  have:kD s=true:=by rw[hr,b7 ah,cX ah];rfl
  simp[tt,this]
noncomputable def BU:ax:=b8 108
def w668  (t:aU)   :dh Y BU (.bool (cV t)) [.str t]:=by
 show bO _ _ _ [⟨_,_⟩,_,_,_,_] _;refine ai ?_;refine aH ?_;refine a7 hm (ι:=Nat) (fun i=>[⟨true,.str t⟩,.un,⟨true,.int .i64 (i:Nat)⟩,.un,.un]) (fun i=>[]) 2 (fun i=>i<=t.length/\cF (fun i=>cn (at8 t i)) 0 t.length=cF (fun i=>cn (at8 t i)) i t.length) (fun i=>t.length-i) 0 ⟨ah,rfl⟩ (du []) ?_;rintro i ⟨hi,hr⟩;refine aD ?_;intro u0;refine av ?_;refine cd (fun hc0=>?_) fun hc0=>?_
 .refine OW ?_;refine ed (fun hc1=>?_) fun hc1=>?_
  .refine aH ?_;refine bG ?_;simp only[cV];rw[hr,aN ah];rcases hc1 with h|h<;>simp[cn]<;>omega
  refine dj ?_;exact⟨i+1,⟨ah,by rw[hr,aN ah];rw[show cn (at8 t i)=true by simp only[cn,br,bU];omega];rfl⟩,ah,(du [])⟩
 refine aD ?_;intro u1;refine aF ?_;refine bG ?_;simp only[cV];rw[hr,b7 ah];simp
noncomputable def NZ:ax:=b8 106
def w666  (t:aU)   :dh Y NZ (.bool (qk t)) [.str t]:=by
 show bO _ _ _ [⟨_,_⟩,_,_,_,_,_,_] _;refine ai ?_;refine aH ?_;intro u0;refine ar ?_;refine j6 ?_;refine ar ?_;refine cd (fun hc0=>?_) fun hc0=>?_
 .refine aD ?_;refine bG ?_;symm;simp only[qk,ey,dn];exact Or.inl ah
 refine aD ?_;refine a7 hm (ι:=Nat) (fun i=>[⟨true,.str t⟩,.un,.un,⟨true,.int .i64 (i:Nat)⟩,.un,.un,.un]) (fun i=>[]) 10 (fun i=>i<=t.length/\qk t=cF (fun i=>kY (at8 t i)) i t.length) (fun i=>t.length-i) 0 ⟨ah,by simp only[qk];rw[cX ah,cX ah];rfl⟩ (du []) ?_;rintro i ⟨hi,hr⟩;refine aD ?_;intro u1;refine av ?_;refine cd (fun hc1=>?_) fun hc1=>?_
 .refine zzz28 ?_;refine ed (fun hc2=>?_) fun hc2=>?_
  .refine aH ?_;refine bG ?_;rw[hr,aN ah];have:kY (at8 t i)=false:=(by simp only[kY,iT,cn,gA,ey,dn];omega);rw[this];rfl
  refine dj ?_;exact⟨i+1,⟨ah,by rw[hr,aN ah];have:kY (at8 t i)=true:=(by simp only[kY,iT,cn,dW,br,bU];omega);rw[this];rfl⟩,ah,(du [])⟩
 refine aH ?_;refine bG ?_;rw[hr,b7 ah]
noncomputable def KM:ax:=b8 65
def w456 (h470:Pf Y)(h666:Xt Y)(h667:Pl Y)(h668:Sw Y)(s:aU)(p:Bool)  (hp0:s.length<=1048576):dh Y KM (.bool (uy s p)) [.str s,.bool p]:=by
 show bO _ _ _ [⟨_,_⟩,⟨_,_⟩,_,_,_,_,_,_,_,_,_] _;refine ai ?_;refine bF ?_;refine cd (fun hc0=>?_) fun hc0=>?_
 .refine aD ?_;refine bG ?_;simp[uy,hc0]
 refine ar ?_;refine ak (hc:=h470 _ _ ?_) ?_;rotate_left;first|assumption|omega;have hlen:=n8 s 46
 refine aH ?_;intro u0;refine av ?_;refine bC (fun hc1=>?_) (fun hc1=>?_)
 .try simp only[jU]at hc1
  refine aD ?_;refine bG ?_;simp only[uy,nu];rw[dx hc0,dx ah];rfl
 simp only[dn]at hc1;refine aD ?_;refine a7 hm (ι:=Nat) (fun i=>[⟨true,.str s⟩,⟨true,.bool p⟩,.un,.un,⟨true,.sl 1 ((bE s 46).map D.str)⟩,.un,⟨true,.int .i64 (i:Nat)⟩,.un,.un,.un,.un]) (fun i=>[]) 10 (fun i=>i<=(bE s 46).length/\uy s p=cF (fun i=>ie p (bE s 46)[i]!) i (bE s 46).length) (fun i=>(bE s 46).length-i) 0 ⟨ah,by simp only[uy,nu];rw[dx hc0,cX ah];rfl⟩ (du []) ?_;rintro i ⟨hi,hr⟩;refine aD ?_;intro u1;refine av ?_;refine cd (fun hc2=>?_) fun hc2=>?_
 .refine dj ?_;refine ak (hc:=h666 _) ?_;refine av ?_;refine bC (fun hc3=>?_) (fun hc3=>?_)
  .simp only[cW]at hc3;refine bF ?_;refine bG ?_;rw[hr,aN ah];simp only[ie,hc3];rfl
  simp only[dS]at hc3;refine aH ?_;refine ak (hc:=h667 _) ?_;refine EN ?_;refine ak (hc:=h668 _) ?_;refine aH ?_;refine wp_cond (fun hc4=>?_) (fun hc4=>?_)
  .skip
   refine aH ?_;refine bG ?_;have h5:ie p (bE s 46)[i]! =false:=(by simp only[ie,hc3];revert hc4;generalize cV (bE s 46)[i]! =a;generalize kD (bE s 46)[i]! =b;cases p<;>cases a<;>cases b<;>simp);rw[hr,aN ah,h5];rfl
  skip
  refine dj ?_;exact⟨i+1,⟨ah,by rw[hr,aN ah];have h5:ie p (bE s 46)[i]! =true:=(by simp only[ie,hc3];revert hc4;generalize cV (bE s 46)[i]! =a;generalize kD (bE s 46)[i]! =b;cases p<;>cases a<;>cases b<;>simp);rw[h5];rfl⟩,ah,(du [])⟩
 refine aH ?_;refine bG ?_;rw[hr,b7 ah]
noncomputable def NX:ax:=b8 64
def w455 {Y:Ctx}(hm:(Y.at 0).cj)  (n:Int)   :dh Y NX (.bool (o8 n)) [.int .i64 n]:=by
 show bO _ _ _ [⟨_,_⟩,_] _;refine ai ?_;refine mF ?_;exact bG rfl
noncomputable def NW:ax:=b8 30
def w217 {Y:Ctx}(hm:(Y.at 0).cj)(h455:WW Y)(h456:WX Y)(v:aQ)  (hp0:v.sm):dh Y NW (.bool (fE v)) [aQ.D v]:=by
 show bO _ _ _ [⟨_,_⟩,_,_] _;refine ai ?_;refine aH ?_;refine ak (hc:=h455 _) ?_;refine ar ?_;refine ak (hc:=h455 _) ?_;refine aF ?_;refine ak (hc:=h455 _) ?_;refine aF ?_;refine bK (hc:=fun hf=>h456 v.pre true hp0.1) ?_;refine aF ?_;refine bK (hc:=fun hf=>h456 v.build false hp0.2) ?_;refine aF ?_;exact bG rfl
noncomputable def Gw:ax:=b8 54
def w355 {Y:Ctx}(hm:(Y.at 0).cj)  (x:cC)(s:cC)   :dh Y Gw (.bool (xf s.name x)) [cC.D x,.ref 2 [cC.D s] 0 0]:=by
 show bO _ _ _ [⟨_,_⟩,⟨_,_⟩,_,_] _;refine ai ?_;refine aD ?_;refine az (v:=.str x.name) ?_;refine aw ?_;refine fw (v:=.str s.name) ?_;refine aF ?_;exact bG rfl
noncomputable def Gx:ax:=b8 53
def w354 (h355:WC Y)(l:List cC)(s:cC)   :dh Y Gx (.int .i64 (tG l s.name)) [.sl 2 (l.map cC.D),.fn 355 [.ref 2 [cC.D s] 0 0]]:=by
 show bO _ _ _ [⟨_,_⟩,⟨_,_⟩,_,_,_,_,_,_,_,_] _;refine ai ?_;refine aH ?_;intro u0;refine av ?_;refine a7 hm (ι:=Nat) (fun i=>[⟨true,.sl 2 ((l).map cC.D)⟩,⟨true,.fn 355 [.ref 2 [cC.D s] 0 0]⟩,.un,⟨true,.int .i64 (i:Nat)⟩,⟨true,.int .i64 (l.length:Nat)⟩,.un,⟨true,.sl 2 ((l).map cC.D)⟩,.un,.un,.un]) (fun i=>[]) 4 (fun i=>i<=l.length/\tG l s.name=ju (xf s.name) (l.drop i) i) (fun i=>l.length-i) 0 ⟨ah,rfl⟩ (du []) ?_;rintro i ⟨hi,hr⟩;refine ar ?_;refine cd (fun hc0=>?_) fun hc0=>?_
 .refine aF ?_;refine aV (i) (hj:=fun hf=>by first|omega|(simp at hf;omega)) (hb:=fun hf=>by first|omega|(simp at hf;omega)) ?_;refine aW (v:=cC.D ((l)[i]!)) (hi:=fun hf=>by first|omega|(simp at hf;omega)) ?_;refine bF ?_;refine vA (hc:=fun _=>h355 l[i]! s) ?_;refine aw ?_;refine ed (fun hc1=>?_) fun hc1=>?_
  .refine bF ?_;refine cq ?_;rw[hr,lJ ah hc1]
  refine ar ?_;refine ba (hb:=fun hf=>by first|omega|(simp at hf;omega)) ?_;refine ar ?_;exact⟨i+1,⟨ah,by rw[hr,jY ah hc1]⟩,ah,(du [])⟩
 refine aH ?_;refine cq ?_;rw[hr,mZ ah]
noncomputable def Oq:ax:=b8 25
def w142 (h353:Sa Y)(h354:WB Y)(l:List cC)  (hp0:iC l):dh Y Oq (.bool (nt l)) [.sl 2 (l.map cC.D)]:=by
 show bO _ _ _ [⟨_,_⟩,_,_,_,_,_,_,_,_,_] _;refine ai ?_;refine aH ?_;intro u0;refine av ?_;refine cd (fun hc0=>?_) fun hc0=>?_
 .refine aD ?_;refine bG ?_;unfold nt;rw[dx ah,Bool.false_and]
 refine aD ?_;intro u1;refine av ?_;refine a7 hm (ι:=Nat) (fun i=>[⟨true,.sl 2 ((l).map cC.D)⟩,.un,.un,⟨true,.int .i64 (i:Nat)⟩,⟨true,.int .i64 (l.length:Nat)⟩,.un,⟨true,.sl 2 ((l).map cC.D)⟩,.un,.un,.un]) (fun i=>[]) 7 (fun i=>i<=l.length/\nt l=cF (y7 l) i l.length) (fun i=>l.length-i) 0 ⟨ah,by unfold nt;rw[cX ah,eJ]⟩ (du []) ?_;rintro i ⟨hi,hr⟩;refine ar ?_;refine cd (fun hc1=>?_) fun hc1=>?_
 .refine aF ?_;refine aV (i) (hj:=fun hf=>by first|omega|(simp at hf;omega)) (hb:=fun hf=>by first|omega|(simp at hf;omega)) ?_;refine aW (v:=cC.D ((l)[i]!)) (hi:=fun hf=>by first|omega|(simp at hf;omega)) ?_;refine av ?_;refine bD (cC.D l[i]!) (he:=bm) ?_;refine aw ?_;refine dd 11 ?_ (he:=by simp only[iS,eS,fL,jf,jx,cA,Nat.reduceEqDiff,aY,aS,cx,b9,bW,cv,cw,bq,bc,aM,bP,aE,reduceCtorEq,aT,aX,Nat.reduceAdd,Nat.reduceLeDiff,cC.fz];exact rfl) (hm:=by simp only[iS,eS,fL,jf,jx,cA,Nat.reduceEqDiff,aY,aS,cx,b9,bW,cv,cw,bq,bc,aM,bP,aE,reduceCtorEq,aT,aX,Nat.reduceAdd,Nat.reduceLeDiff,cC.fz];exact rfl);refine aw ?_;refine fw (v:=cC.D (l[i]!)) ?_;refine ak (hc:=h353 (l[i]!) ?_) ?_;rotate_left;first|assumption|omega|exact hp0 _ (aq ah)|exact hp0.1|exact hp0.2
  refine ar ?_;refine HJ [.ref 2 [cC.D l[i]!] 0 0] ?_;refine bK (hc:=fun hf=>h354 l l[i]!) ?_;refine aF ?_;refine ed (fun hc2=>?_) fun hc2=>?_
  .refine aH ?_;refine bG ?_;rw[hr,aN ah,Ot hc2];rfl
  refine ar ?_;refine ba (hb:=fun hf=>by first|omega|(simp at hf;omega)) ?_;refine ar ?_;exact⟨i+1,⟨ah,by rw[hr,aN ah,KV ah hc2];rfl⟩,ah,(du [])⟩
 refine aH ?_;refine bG ?_;rw[hr,b7 ah]
noncomputable def DR:ax:=b8 82
def w359  (l:List cC)(nm:aU)   :dh Y DR (.int .i64 (tG l nm)) [.sl 2 (l.map cC.D),.str nm]:=by
 show bO _ _ _ [⟨_,_⟩,⟨_,_⟩,_,_,_,_] _;refine ai ?_;refine aH ?_;refine a7 hm (ι:=Nat) (fun i=>[⟨true,.sl 2 ((l).map cC.D)⟩,⟨true,.str nm⟩,.un,⟨true,.int .i64 (i:Nat)⟩,.un,.un]) (fun i=>[]) 2 (fun i=>i<=l.length/\tG l nm=ju (xf nm) (l.drop i) i) (fun i=>l.length-i) 0 ⟨ah,rfl⟩ (du []) ?_;rintro i ⟨hi,hr⟩;refine aD ?_;intro u0;refine av ?_;refine cd (fun hc0=>?_) fun hc0=>?_
 .refine aD ?_;refine aV (i) (hj:=fun hf=>by first|omega|(simp at hf;omega)) (hb:=fun hf=>by first|omega|(simp at hf;omega)) ?_;refine aw ?_;refine aW (v:=.str (l)[i]!.name) (hi:=fun hf=>by first|omega|(simp at hf;omega)) ?_;refine ar ?_;refine ed (fun hc1=>?_) fun hc1=>?_
  .refine bF ?_;refine cq ?_;rw[hr,lJ ah (by simpa[xf]using hc1)]
  refine aF ?_;refine ba (hb:=fun hf=>by first|omega|(simp at hf;omega)) ?_;refine ar ?_;exact⟨i+1,⟨ah,by rw[hr,jY ah (by simpa[xf]using hc1)]⟩,ah,(du [])⟩
 refine aH ?_;refine cq ?_;rw[hr,mZ ah]
noncomputable def Kz:ax:=b8 42
def w145 (h358:Lk Y)(h359:WD Y)(l:List cC)  (hp0:iC l):dh Y Kz (.bool (nt l)) [.sl 2 (l.map cC.D)]:=by
 show bO _ _ _ [⟨_,_⟩,_,_,_,_,_] _;refine ai ?_;refine aH ?_;intro u0;refine av ?_;refine cd (fun hc0=>?_) fun hc0=>?_
 .refine aD ?_;refine bG ?_;unfold nt;rw[dx ah,Bool.false_and]
 refine aD ?_;refine a7 hm (ι:=Nat) (fun i=>[⟨true,.sl 2 ((l).map cC.D)⟩,.un,.un,⟨true,.int .i64 (i:Nat)⟩,.un,.un]) (fun i=>[]) 5 (fun i=>i<=l.length/\nt l=cF (y7 l) i l.length) (fun i=>l.length-i) 0 ⟨ah,by unfold nt;rw[cX ah,eJ]⟩ (du []) ?_;rintro i ⟨hi,hr⟩;refine aD ?_;intro u1;refine av ?_;refine cd (fun hc1=>?_) fun hc1=>?_
 .refine aD ?_;refine aV (i) (hj:=fun hf=>by first|omega|(simp at hf;omega)) (hb:=fun hf=>by first|omega|(simp at hf;omega)) ?_;refine aW (v:=cC.D ((l)[i]!)) (hi:=fun hf=>by first|omega|(simp at hf;omega)) ?_;refine ak (hc:=h358 ((l)[i]!) ?_) ?_;rotate_left;first|assumption|omega|exact hp0 _ (aq ah)|exact hp0.1|exact hp0.2
  refine aD ?_;refine aV (i) (hj:=fun hf=>by first|omega|(simp at hf;omega)) (hb:=fun hf=>by first|omega|(simp at hf;omega)) ?_;refine aw ?_;refine aW (v:=.str (l)[i]!.name) (hi:=fun hf=>by first|omega|(simp at hf;omega)) ?_;refine ak (hc:=h359 (l) ((l)[i]!.name)) ?_;refine aF ?_;refine ed (fun hc2=>?_) fun hc2=>?_
  .refine aH ?_;refine bG ?_;rw[hr,aN ah,QV hc2];rfl
  refine aF ?_;refine ba (hb:=fun hf=>by first|omega|(simp at hf;omega)) ?_;refine ar ?_;exact⟨i+1,⟨ah,by rw[hr,aN ah,Eo hc2];rfl⟩,ah,(du [])⟩
 refine aH ?_;refine bG ?_;rw[hr,b7 ah]
noncomputable def Gv:ax:=b8 59
def w274 {Y:Ctx}(hm:(Y.at 0).cj)(h353:Sa Y)(h511:Sk Y)(s:cC)(nm:aU)(v:aQ)  (hp0:(∀x∈s.es,eC x.r)/\v.sm):dh Y Gv (.int .i64 (ix s nm v)) [cC.D s,.str nm,aQ.D v]:=by
 show bO _ _ _ [⟨_,_⟩,⟨_,_⟩,⟨_,_⟩,_,_,_,_] _;refine ai ?_;refine aH ?_;refine bo (d:=cC.D s) ?_;refine ak (hc:=h353 (s) ?_) ?_;rotate_left;first|assumption|omega|exact hp0.1|exact⟨fun x hx=>(hp0.1 x hx).1.2,hp0.2⟩
 refine av ?_;refine cd (fun hc0=>?_) fun hc0=>?_
 .refine aD ?_;refine cq ?_;unfold ix;rw[ay hc0]
 refine ar ?_;refine az (v:=.sl 11 ((s.es).map gC.D)) ?_;refine aw ?_;refine bo (d:=aQ.D v) ?_;refine ak (hc:=h511 (s.es) (nm) (v) ?_) ?_;rotate_left;first|assumption|omega|exact hp0.1|exact⟨fun x hx=>(hp0.1 x hx).1.2,hp0.2⟩
 refine ar ?_;refine cq ?_;unfold ix;rw[aj (by rw[hc0];simp)]
noncomputable def F3:ax:=b8 152
def w695 {Y:Ctx}(hm:(Y.at 0).cj)(h358:Lk Y)(h580:Ln Y)(s:cC)(nm:aU)(v:aQ)  (hp0:(∀x∈s.es,eC x.r)/\v.sm):dh Y F3 (.int .i64 (ix s nm v)) [cC.D s,.str nm,aQ.D v]:=by
 show bO _ _ _ [⟨_,_⟩,⟨_,_⟩,⟨_,_⟩,_,_,_,_] _;refine ai ?_;refine aH ?_;refine bo (d:=cC.D s) ?_;refine ak (hc:=h358 (s) ?_) ?_;rotate_left;first|assumption|omega|exact hp0.1|exact⟨fun x hx=>(hp0.1 x hx).1.2,hp0.2⟩
 refine av ?_;refine cd (fun hc0=>?_) fun hc0=>?_
 .refine aD ?_;refine cq ?_;unfold ix;rw[ay hc0]
 refine ar ?_;refine az (v:=.sl 11 ((s.es).map gC.D)) ?_;refine aw ?_;refine bo (d:=aQ.D v) ?_;refine ak (hc:=h580 (s.es) (nm) (v) ?_) ?_;rotate_left;first|assumption|omega|exact hp0.1|exact⟨fun x hx=>(hp0.1 x hx).1.2,hp0.2⟩
 refine ar ?_;refine cq ?_;unfold ix;rw[aj (by rw[hc0];simp)]
noncomputable def tA:ax:=b8 45
def w509 {Y:Ctx}(hm:(Y.at 1).cj)(shop:List cC)(w:bZ)(x:cU)(c:List Int)(h696:XD (Y.at 1))(h697:XE (Y.at 1))(h698:XF (Y.at 1))(hp0:Pu shop w x c):bO (Y.at 1) tA.body (nC tA (fun d m=>d=.int .i64 (jG shop w.us x c).1/\look m 0=some (.buf 1 ((jG shop w.us x c).2.map (D.int .i64)))):Ex->List bI->St->Prop) (fC tA [.sl 2 (shop.map cC.D),bZ.D w,.own 0 1 0 c.length,cU.D x]) ⟨1,[(0,.buf 1 (c.map (D.int .i64)))]⟩:=by
 show bO _ _ _ [⟨true,.sl 2 (shop.map cC.D)⟩,⟨true,bZ.D w⟩,⟨true,.own 0 1 0 c.length⟩,⟨true,cU.D x⟩,.un,.un,.un,.un,.un,.un,.un,.un,.un,.un,.un,.un,.un] ⟨1,[(0,.buf 1 (c.map (D.int .i64)))]⟩;refine ai ?_;refine aD ?_;have hcl:=hp0.2;have hul:=sw (us:=w.us) (a:=x.name) (b:=[]);refine bo (d:=bZ.D w) ?_;refine aw ?_;refine az (v:=.str x.name) ?_;refine ak (hc:=h696 w x.name []) ?_;refine ar ?_;refine bo (d:=bZ.D w) ?_;refine av ?_;refine az (v:=aQ.D x.v) ?_;refine ak (hc:=h697 w (gw w.us x.name []) x.v true ⟨⟨hp0.1.2.1,hp0.1.2.2⟩,ah⟩) ?_;refine bF ?_;refine cd (fun hc0=>?_) fun hc0=>?_
 .refine aD ?_;refine eD trivial jv (dG ae (?_)) ae ⟨by rw[zR hc0],by rw[zR hc0];exact rfl⟩;rfl
 refine ar ?_;obtain⟨j,k,hj,hk,hkl⟩:=(si (us:=w.us) (u:=(gw w.us x.name [])) (v:=x.v) (t:=true)).resolve_left ah;have hjl:j<w.us.length:=ah;refine av ?_;refine az (v:=.sl 3 ((w.us).map cQ.D)) ?_;refine aw ?_;refine aV j (hj:=fun _=>ah) (hb:=fun _=>ah) ?_;refine aw ?_;refine aW (v:=.sl 8 (w.us[j]!.cands.map dA.D)) (hi:=fun _=>ah) ?_;refine aw ?_;refine aV k (hj:=fun _=>ah) (hb:=fun _=>ah) ?_;refine aW (v:=dA.D w.us[j]!.cands[k]!) (hi:=fun _=>ah) ?_;refine bo (d:=cU.D x) ?_;refine ak (hc:=h698 shop w.us[j]!.cands[k]! x ⟨hp0.1.1,hp0.1.2.2⟩) ?_;refine bF ?_;refine cd (fun hc1=>?_) fun hc1=>?_
 .refine aH ?_;refine eD trivial jv (dG ae (?_)) ae ⟨by rw[ui hj hk hc1],by rw[ui hj hk hc1];exact rfl⟩;rfl
 refine av ?_;have hpe:=RA (c:=c) hj hk hc1;refine ar ?_;refine hY j (hj:=fun _=>ah) (hb:=fun _=>ah) ?_;refine jS ((c.set j (k:Int)).map (D.int .i64)) (hi:=by rw[bc];omega) (he:=by rw[hk];exact n9 ah _) ?_;refine aD ?_;refine a7 hm (ι:=Nat) (fun i=>[⟨true,.sl 2 ((shop).map cC.D)⟩,.un,⟨true,.own 0 1 0 c.length⟩,.un,.un,⟨true,.ptr 1 1 0 0⟩,⟨true,.ptr 2 9 0 0⟩,.un,.un,.un,.un,.un,⟨true,.int .i64 (i:Nat)⟩,.un,.un,.un,.un]) (fun i=>[(0,.buf 1 ((qN w.us x (c.set j (k:Int)) i).map (D.int .i64))),(1,.buf 1 [bZ.D w]),(2,.buf 9 [cU.D x])]) 38 (fun i=>i<=x.feats.length/\(jG shop w.us x c)=rY w.us x (x.feats.drop i) (qN w.us x (c.set j (k:Int)) i)) (fun i=>x.feats.length-i) 0 ⟨ah,hpe⟩ (aO.to [(1,1),(2,2)] ae ae (by repeat(first|exact aL.nil|refine aL.un ?_|refine aL.eq ae ?_|refine aL.nl ae ae ?_|refine aL.ni (Or.inr ⟨_,_,_,rfl⟩) ?_)) (by repeat(first|exact aB.nil|refine aB.ee ae ae cK ?_|refine aB.ep ae ae ae ?_|refine aB.oE ae ae ae ae ?_|refine aB.nl 0 ae ae ae ae ?_|refine aB.nl 1 ae ae ae ae ?_|refine aB.nl 2 ae ae ae ae ?_))) ?_;rintro i ⟨hi,hr⟩;have hfl:=wX (us:=w.us) (x:=x) (c:=c.set j (k:Int)) i;rw[List.length_set]at hfl;refine aF ?_;refine az (v:=.sl 1 ((x.feats).map D.str)) ?_;refine aw ?_;intro u0;refine av ?_;refine cd (fun hc2=>?_) fun hc2=>?_
 .refine ar ?_;have huf:=sw (us:=w.us) (a:=x.name) (b:=x.feats[i]!);refine bo (d:=bZ.D w) ?_;refine aw ?_;refine az (v:=.str x.name) ?_;refine aw ?_;refine az (v:=.sl 1 ((x.feats).map D.str)) ?_;refine aw ?_;refine aV (i) (hj:=fun hf=>by first|omega|(simp at hf;omega)) (hb:=fun hf=>by first|omega|(simp at hf;omega)) ?_;refine aW (v:=.str (x.feats)[i]!) (hi:=fun hf=>by first|omega|(simp at hf;omega)) ?_;refine ak (hc:=h696 w x.name x.feats[i]!) ?_;refine ar ?_;refine bo (d:=bZ.D w) ?_;refine av ?_;refine az (v:=aQ.D x.v) ?_;refine ak (hc:=h697 w (gw w.us x.name x.feats[i]!) x.v false ⟨⟨hp0.1.2.1,hp0.1.2.2⟩,ah⟩) ?_;refine bF ?_;refine cd (fun hc3=>?_) fun hc3=>?_
  .refine bF ?_;refine eD trivial jv (dG ae (?_)) ae ⟨by rw[hr,ml ah,ay hc3],by rw[hr,ml ah,ay hc3];exact rfl⟩;rfl
  refine av ?_;obtain⟨p,q,hp,hq,hql⟩:=(si (us:=w.us) (u:=(gw w.us x.name x.feats[i]!)) (v:=x.v) (t:=false)).resolve_left ah;have hpl:p<w.us.length:=ah;have hfs:(qN w.us x (c.set j (k:Int)) (i+1))=(qN w.us x (c.set j (k:Int)) i).set p (q:Int):=by rw[qN,hq,hp,Int.toNat_natCast]
  refine ar ?_;refine hY p (hj:=fun _=>ah) (hb:=fun _=>ah) ?_;refine jS ((qN w.us x (c.set j (k:Int)) (i+1)).map (D.int .i64)) (hi:=by rw[bc];omega) (he:=by rw[hq,hfs];exact n9 ah _) ?_;refine aF ?_;refine ba (hb:=fun hf=>by first|omega|(simp at hf;omega)) ?_;refine ar ?_;exact⟨i+1,⟨ah,by rw[hr,ml ah,aj ah];rfl⟩,ah,(aO.to [(1,1),(2,2)] ae ae (by repeat(first|exact aL.nil|refine aL.un ?_|refine aL.eq ae ?_|refine aL.nl ae ae ?_|refine aL.ni (Or.inr ⟨_,_,_,rfl⟩) ?_)) (by repeat(first|exact aB.nil|refine aB.ee ae ae cK ?_|refine aB.ep ae ae ae ?_|refine aB.oE ae ae ae ae ?_|refine aB.nl 0 ae ae ae ae ?_|refine aB.nl 1 ae ae ae ae ?_|refine aB.nl 2 ae ae ae ae ?_)))⟩
 refine aH ?_;refine eD trivial jv (dG ae (?_)) ae ⟨by rw[hr,rZ ah],by rw[hr,rZ ah];exact rfl⟩;rfl
noncomputable def QH:ax:=b8 111
def w771 {Y:Ctx}(hm:(Y.at 0).cj)(h916:Lq Y)(h918:SC Y)(a:List Span)(b:List Span)  (hp0:JG a/\JG b):dh Y QH (.sl 14 ((Lh a b).map Span.D)) [.sl 14 (a.map Span.D),.sl 14 (b.map Span.D)]:=by
 show bO _ _ _ [⟨_,_⟩,⟨_,_⟩,_,_,_] _;refine ai ?_;refine aD ?_;refine ak (hc:=h916 (a) ?_) ?_;rotate_left;first|assumption|omega|exact hp0.1.1|exact hp0.2.1|exact fun _=>hp0.2.1
 refine ar ?_;refine bK (hc:=fun hf=>h916 (b) ?_) ?_;rotate_left;first|assumption|omega|exact hp0.1.1|exact hp0.2.1|exact fun _=>hp0.2.1
 refine ar ?_;refine cd (fun hc0=>?_) fun hc0=>?_
 .refine aD ?_;refine cy (?_);unfold Lh;rw[ay (by simp_all)];rfl
 refine av ?_;have ha2:=hp0.1.2;have pe:=hp0.2.2;refine aw ?_;refine BE (he:=pK.sl) (n:=a.length) (hn:=bg) (hb:=ah) ?_;refine aw ?_;refine xU (q:=Span.D) (xs:=a) (ys:=b) (he:=pK.sl) (hb:=ah) ?_;refine dX (nx':=9) (v:=.tup [.sl 14 ((pj (a++b)).1.map Span.D),.bool (pj (a++b)).2]) (m':=[]) (hc:=fun K' hK=>h918 (a++b) ⟨LO hp0.1.1 hp0.2.1,by simp only[bS];omega⟩ _ 12 _ K' ae gE hK) (hn:=bj) ?_;refine aw ?_;refine mw (.sl _ _) ?_;refine eW ?_;refine cy (?_);unfold Lh;rw[aj (by simp_all)];rfl
noncomputable def QJ:ax:=b8 71
def w604 {Y:Ctx}(hm:(Y.at 0).cj)(h375:Ll Y)(h770:Lp Y)(h771:XN Y)(a:bQ)(b:bQ)  (hp0:EZ a/\EZ b):dh Y QJ (bQ.D (Ni a b)) [bQ.D a,bQ.D b]:=by
 show bO _ _ _ [⟨_,_⟩,⟨_,_⟩,_,_,_,_] _;refine ai ?_;refine aH ?_;refine bo (d:=bQ.D a) ?_;refine ak (hc:=h770 (a) ?_) ?_;rotate_left;first|assumption|omega|exact⟨hp0.1.1.1,hp0.1.2.1⟩|exact⟨hp0.2.1.1,hp0.2.2.1⟩|exact⟨hp0.1.1,hp0.2.1⟩|exact⟨hp0.1.2,hp0.2.2⟩
 refine av ?_;refine bo (d:=bQ.D b) ?_;refine bK (hc:=fun hf=>h770 (b) ?_) ?_;rotate_left;first|assumption|omega|exact⟨hp0.1.1.1,hp0.1.2.1⟩|exact⟨hp0.2.1.1,hp0.2.2.1⟩|exact⟨hp0.1.1,hp0.2.1⟩|exact⟨hp0.1.2,hp0.2.2⟩
 refine ar ?_;refine cd (fun hc0=>?_) fun hc0=>?_
 .refine av ?_;refine ak (hc:=h375) ?_;refine ar ?_;refine cy (?_);unfold Ni;rw[ay (by simp_all)];rfl
 refine ar ?_;refine az (v:=.sl 14 ((a.rel).map Span.D)) ?_;refine aw ?_;refine az (v:=.sl 14 ((b.rel).map Span.D)) ?_;refine ak (hc:=h771 (a.rel) (b.rel) ?_) ?_;rotate_left;first|assumption|omega|exact⟨hp0.1.1.1,hp0.1.2.1⟩|exact⟨hp0.2.1.1,hp0.2.2.1⟩|exact⟨hp0.1.1,hp0.2.1⟩|exact⟨hp0.1.2,hp0.2.2⟩
 refine aw ?_;refine az (v:=.sl 14 ((a.pr).map Span.D)) ?_;refine aw ?_;refine az (v:=.sl 14 ((b.pr).map Span.D)) ?_;refine ak (hc:=h771 (a.pr) (b.pr) ?_) ?_;rotate_left;first|assumption|omega|exact⟨hp0.1.1.1,hp0.1.2.1⟩|exact⟨hp0.2.1.1,hp0.2.2.1⟩|exact⟨hp0.1.1,hp0.2.1⟩|exact⟨hp0.1.2,hp0.2.2⟩
 refine b6 (bQ.D (⟨Lh (a.rel) (b.rel),Lh (a.pr) (b.pr)⟩)) ?_;refine ar ?_;refine cy (?_);unfold Ni;rw[aj (by simp_all)];rfl
noncomputable def N8:ax:=b8 73
def w605 {Y:Ctx}(hm:(Y.at 0).cj)(h375:Ll Y)(h770:Lp Y)(h772:XO Y)(a:bQ)  (hp0:EZ a):dh Y N8 (bQ.D (Bs a)) [bQ.D a]:=by
 show bO _ _ _ [⟨_,_⟩,_,_,_] _;refine ai ?_;refine aD ?_;refine bo (d:=bQ.D a) ?_;refine ak (hc:=h770 (a) ?_) ?_;rotate_left;first|assumption|omega|exact⟨hp0.1.1,hp0.2.1⟩|exact⟨hp0.1.1,eP hp0.1.2 bj⟩|exact⟨hp0.2.1,eP hp0.2.2 bj⟩
 refine av ?_;refine cd (fun hc0=>?_) fun hc0=>?_
 .refine av ?_;refine ak (hc:=h375) ?_;refine ar ?_;refine cy (?_);unfold Bs;rw[ay (by simp_all)];rfl
 refine ar ?_;refine az (v:=.sl 14 ((a.rel).map Span.D)) ?_;refine ak (hc:=h772 (a.rel) ?_) ?_;rotate_left;first|assumption|omega|exact⟨hp0.1.1,hp0.2.1⟩|exact⟨hp0.1.1,eP hp0.1.2 bj⟩|exact⟨hp0.2.1,eP hp0.2.2 bj⟩
 refine aw ?_;refine az (v:=.sl 14 ((a.pr).map Span.D)) ?_;refine ak (hc:=h772 (a.pr) ?_) ?_;rotate_left;first|assumption|omega|exact⟨hp0.1.1,hp0.2.1⟩|exact⟨hp0.1.1,eP hp0.1.2 bj⟩|exact⟨hp0.2.1,eP hp0.2.2 bj⟩
 refine b6 (bQ.D (⟨uO (a.rel),uO (a.pr)⟩)) ?_;refine ar ?_;refine cy (?_);unfold Bs;rw[aj (by simp_all)];rfl
noncomputable def BR:ax:=b8 165
def w461 {Y:Ctx}(hm:(Y.at 0).cj)(h249:Pb Y)(w:dY)  (hp0:w.fit):dh Y BR (.str (iQ w)) [dY.D w]:=by
 show bO _ _ _ [⟨_,_⟩,_,_,_,_,_,_] _;have q1:=yE hp0;have q2:=hp0.1.1.1;have q3:=hp0.1.1.2.len;refine ai ?_;refine mF ?_;intro u0;refine av ?_;refine cd (fun hc0=>?_) fun hc0=>?_
 .refine ar ?_;refine ak (hc:=h249 w.feats 44 ah) ?_;refine bF ?_;refine cd (fun hc1=>?_) fun hc1=>?_
  .refine aH ?_;refine kZ ?_;refine kZ ?_;refine aw ?_;refine kZ ?_;refine kZ ?_;refine aw ?_;refine kZ ?_;refine kZ ?_;refine av ?_;refine kZ ?_;refine kZ ?_;refine ar ?_;refine lW ?_;all_goals
    simp only[iQ,cO,pG,cL,oI,oD,oC];first|rw[ay (show w.feats.length=0 by omega)]|rw[aj (show ¬w.feats.length=0 by omega)]
    simp[hc1]
  refine aF ?_;refine kZ ?_;refine kZ ?_;refine aw ?_;refine kZ ?_;refine kZ ?_;refine aw ?_;refine kZ ?_;refine kZ ?_;refine av ?_;refine kZ ?_;refine kZ ?_;refine ar ?_;refine lW ?_;all_goals
   simp only[iQ,cO,pG,cL,oI,oD,oC];first|rw[ay (show w.feats.length=0 by omega)]|rw[aj (show ¬w.feats.length=0 by omega)]
   simp[hc1]
 refine aH ?_;refine cd (fun hc1=>?_) fun hc1=>?_
 .refine aH ?_;refine kZ ?_;refine kZ ?_;refine aw ?_;refine kZ ?_;refine kZ ?_;refine aw ?_;refine kZ ?_;refine kZ ?_;refine av ?_;refine kZ ?_;refine kZ ?_;refine ar ?_;refine lW ?_;all_goals
   simp only[iQ,cO,pG,cL,oI,oD,oC];first|rw[ay (show w.feats.length=0 by omega)]|rw[aj (show ¬w.feats.length=0 by omega)]
   simp[hc1]
 refine aF ?_;refine kZ ?_;refine kZ ?_;refine aw ?_;refine kZ ?_;refine kZ ?_;refine aw ?_;refine kZ ?_;refine kZ ?_;refine av ?_;refine kZ ?_;refine kZ ?_;refine ar ?_;refine lW ?_;all_goals
  simp only[iQ,cO,pG,cL,oI,oD,oC];first|rw[ay (show w.feats.length=0 by omega)]|rw[aj (show ¬w.feats.length=0 by omega)]
  simp[hc1]
noncomputable def F1:ax:=b8 166
def w462 {Y:Ctx}(hm:(Y.at 0).cj)  (s:aU)  (hp0:s.length<=1048576):dh Y F1 (.str (jd s)) [.str s]:=by
 show bO _ _ _ [⟨_,_⟩,_,_] _;refine ai ?_;refine bF ?_;refine cd (fun hc0=>?_) fun hc0=>?_
 .refine aD ?_;refine lW ?_;rw[jd,ay hc0]
 refine ar ?_;refine kZ ?_;refine kZ ?_;refine ar ?_;refine lW ?_;rw[jd,aj hc0];simp[cO,cL,sy]
noncomputable def uL:ax:=b8 3
def w1215 {Y:Ctx}(hm:(Y.at 0).cj)(h29:C29 Y)(h36:C36 Y)(h89:C89 Y)(h90:C90 Y)(h94:C94 Y)(h160:Wj Y)(ws:List Int)(ss:List Int)(ks:List Int)(n:Int)   :dh Y uL (.bool true) [.sl 1 (ws.map (D.int .i64)),.sl 1 (ss.map (D.int .i64)),.sl 1 (ks.map (D.int .i64)),.int .i64 n]:=by
 show bO _ _ _ [⟨_,_⟩,⟨_,_⟩,⟨_,_⟩,⟨_,_⟩,_,_,_,_,_] _;refine ai ?_;refine aH ?_;intro u0;refine ar ?_;refine j6 ?_;refine ar ?_;refine cd (fun hc0=>?_) fun hc0=>?_
 .refine av ?_;refine ak (hc:=h89) ?_;refine ar ?_;exact bG rfl
 refine ar ?_;refine ak (hc:=h36 ws 5 bj) ?_;refine aw ?_;refine ak (hc:=h90 ss 8 bj) ?_;refine aw ?_;refine ak (hc:=h160 ks) ?_;refine av ?_;refine bD (bZ.D (j4 ws 5)) (he:=bm) ?_;refine aw ?_;refine bD (gT.D (lM ks)) (he:=bm) ?_;refine av ?_;have hw:=(K3 ws 5).1;have hl:(lM ks).sm:=(MS ks).sm bj;have hc1:wB (Af ss 8) (j4 ws 5) (lM ks):=⟨Oo _ _,hw,hl⟩;have hc2:wB [] (j4 ws 5) (lM ks):=⟨(fun _ h=>by cases h),hw,hl⟩;refine av ?_;refine ak (hc:=h29 n) ?_;refine av ?_;refine ak (hc:=h94 (Af ss 8) (sW n) (j4 ws 5) (lM ks) hc1) ?_;refine av ?_;refine az (v:=(Env.D _)) ?_;refine av ?_;refine bK (hc:=fun _=>h94 [] (lM ks).env (j4 ws 5) (lM ks) hc2) ?_;refine aF ?_;refine az (v:=(Env.D _)) ?_;refine av ?_;refine bK (hc:=fun _=>h94 (Af ss 8) (lM ks).env (j4 ws 5) (lM ks) hc1) ?_;refine av ?_;refine ak (hc:=h89) ?_;refine aF ?_;refine bG ?_;simp
end Go.Abs
