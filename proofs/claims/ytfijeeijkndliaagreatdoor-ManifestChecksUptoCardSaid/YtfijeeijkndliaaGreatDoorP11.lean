/- A part of the proofs. -/
import Derived.Test.YtfijeeijkndliaaGreatDoorP07
set_option linter.all false
set_option maxRecDepth 60000
set_option maxHeartbeats 2000000
namespace Go.Abs
variable {Y:Ctx}(hm:(Y.at 0).cP)
noncomputable def Fp:aN:=dy 14
def w82 (h76:C76 Y)(h239:X1 Y)(h240:X2 Y)(h242:K3 Y)(h243:IP Y)(h244:X4 Y)(h245:Vu Y)(h246:Vv Y)(h247:K4 Y)(h490:IW Y)(h492:IX Y)(s:av)  (hp0:s.length<=1048576):dX Y Fp (.tup [fD.D (gD s).1,.int .i64 (gD s).2.1,.int .i64 (gD s).2.2]) [.str s]:=by
 show cg _ _ _ [⟨_,_⟩,_,_,_,_,_,_,_,_,_,_,_,_,_,_,_,_,_,_,_,_,_,_] _;have hpl:=aaY s;have hpz:k9 s=if(kB s)[(kB s).length-1]! =[]then(kB s).take ((kB s).length-1)else kB s:=aaZ s
 have hxk:=ixB_k (s:=s);have hkl:=L3 (aJ s).1;have hpc:=tk s;refine ay ?_;refine bW ?_;intro u0;refine aD ?_;refine az (fun hc0=>?_) (fun hc0=>?_)
 .simp only[cX]at hc0;have hz:=FV (s:=s) ae;refine aD ?_;refine dL _ ?_;refine aU ?_;refine bT (dG ?_ (ak (D.int .i64) ?_) (ak (D.int .i64) ?_));all_goals
   rw[hz];first|done|rfl
 simp only[cX]at hc0;have g0:¬8192<s.length:=ae;have g9:=Uh g0;refine aF ?_;refine au (hc:=h239 s hp0) ?_;refine bw ?_;intro u1;refine aE ?_;refine bz ((kB s).length-1) (hb:=fun _=>ae) ?_;refine bp (v:=.str (kB s)[(kB s).length-1]!) (hi:=fun _=>ae) ?_;refine aD ?_;refine qQ hm (ι:=Unit) (fun _=>[⟨true,.str s⟩,⟨true,.ptr 0 11 0 0⟩,.un,.un,.un,⟨true,.sl 1 ((k9 s).map D.str)⟩,.un,.un,.un,.un,.un,.un,.un,.un,.un,.un,.un,.un,.un,.un,.un,.un,.un]) (fun _=>[(0,.buf 11 [.agg [.str [],.int .i64 0,.int .i64 0,.int .i64 0,.str [],.str [],.bg,.bg,.bg,.bg,.bg]])]) 20 (fun _=>True) ?_ ?_
 .refine wp_cond (fun hc1=>?_) (fun hc1=>?_)
  .simp only[cX]at hc1;refine aK ?_;intro u2;refine aE ?_;refine my ((kB s).length-1) (hb:=fun _=>ae) ?_;refine aF ?_;exact⟨(),trivial,(bm.to [(0,0)] ah ah (by repeat(first|exact de.nil|refine de.un ?_|refine de.eq ah ?_|refine de.nl (ak (fun l=>D.sl 1 (List.map D.str l)) (by rw[hpz,aC hc1])) ah ?_)) lE)⟩
  simp only[cX]at hc1;refine aD ?_;exact⟨(),trivial,(bm.to [(0,0)] ah ah (by repeat(first|exact de.nil|refine de.un ?_|refine de.eq ah ?_|refine de.nl (ak (fun l=>D.sl 1 (List.map D.str l)) (by rw[hpz,ar hc1])) ah ?_)) lE)⟩
 .rintro _-
  refine aD ?_;refine au (hc:=h240 (k9 s) (fun t ht=>by have:=JN ht;omega)) ?_;refine bw ?_;refine qQ hm (ι:=Unit) (fun _=>[⟨true,.str s⟩,⟨true,.ptr 0 11 0 0⟩,.un,.un,.un,⟨true,.sl 1 ((k9 s).map D.str)⟩,.un,⟨true,.int .i64 ((kM (aJ s).1):Nat)⟩,.un,.un,.un,.un,.un,.un,.un,.un,.un,.un,.un,.un,.un,.un,.un]) (fun _=>[(0,.buf 11 [.agg [.str [],.int .i64 0,.int .i64 0,.int .i64 0,.str [],.str [],.bg,.bg,.bg,.bg,.bg]])]) 20 (fun _=>True) ?_ ?_
  .refine wp_cond (fun hc2=>?_) (fun hc2=>?_)
   .simp only[cX]at hc2;refine aF ?_;intro u3;refine aF ?_;exact⟨(),trivial,(bm.to [(0,0)] ah ah (by repeat(first|exact de.nil|refine de.un ?_|refine de.eq ah ?_|refine de.nl (ak (D.int .i64) (by rw[hxk.1 hc2])) ah ?_)) lE)⟩
   simp only[cX]at hc2;refine aD ?_;exact⟨(),trivial,(bm.to [(0,0)] ah ah (by repeat(first|exact de.nil|refine de.un ?_|refine de.eq ah ?_|refine de.nl (ak (D.int .i64) (by rw[hxk.2 hc2])) ah ?_)) lE)⟩
  .rintro _-
   refine aF ?_;refine my (kM (aJ s).1) (hb:=fun _=>ae) ?_;refine au (v:=.str (dF s)) (hc:=by have:=h242 (slice (k9 s) 0 (kM (aJ s).1)) [] (by simp only[slice,kT,eF];omega) aG (V4 g0);rw[ZE]at this;exact this) ?_;refine au (hc:=h76 (dF s)) ?_;refine aE ?_;refine fJ (Rec.D _) ?_;refine aF ?_;refine aR (Rec.D (cW (dF s)).1) (he:=aW) ?_;refine bW ?_;refine az (fun hc3=>?_) (fun hc3=>?_)
   .simp only[cX]at hc3;have hz:=Ic g0 hc3;refine aD ?_;refine dL _ ?_;refine bw ?_;refine bT (dG ?_ (ak (D.int .i64) ?_) (ak (D.int .i64) ?_));all_goals
     rw[hz];first|done|rfl
   simp only[cX]at hc3;have hz:=FW g0 hc3;have hsm:=My (dF s);refine aD ?_;refine cO (d:=Rec.D (cW (dF s)).1) ?_;refine bj (gB (cW (dF s)).1 .bg .bg) ?_;refine aE ?_;refine aR (gB (cW (dF s)).1 .bg .bg) (he:=aW) ?_;refine aD ?_;refine dd (nx':=39) (v:=.fn 2000000 [.str [112,105,110],.fn 490 [.fn 3000000 [.ptr 37 11 0 0]],.str [104,111,108,100],.fn 492 [.fn 3000000 [.ptr 37 11 0 0]]]) (m':=[(0,.buf 11 [.agg [.str [],.int .i64 0,.int .i64 0,.int .i64 0,.str [],.str [],.bg,.bg,.bg,.bg,.bg]]),(29,.buf 9 [Rec.D (cW (dF s)).1]),(37,.buf 11 [gB (cW (dF s)).1 .bg .bg])]) (hc:=fun K' hK=>h243 37 _ _ K' hK) (hn:=aG) ?_;refine bw ?_;refine br hm (ι:=(Nat×List dH×List bV)) (fun p=>[⟨true,.str s⟩,⟨true,.ptr 0 11 0 0⟩,.un,.un,.un,⟨true,.sl 1 ((k9 s).map D.str)⟩,.un,.un,.un,.un,.un,.un,.un,⟨true,.ptr 2 11 0 0⟩,⟨true,.int .i64 p.1⟩,.un,.un,.un,.un,⟨true,.fn 2000000 [.str [112,105,110],.fn 490 [.fn 3000000 [.ptr 2 11 0 0]],.str [104,111,108,100],.fn 492 [.fn 3000000 [.ptr 2 11 0 0]]]⟩,.un,.un,.un]) (fun p=>[(0,.buf 11 [.agg [.str [],.int .i64 0,.int .i64 0,.int .i64 0,.str [],.str [],.bg,.bg,.bg,.bg,.bg]]),(2,.buf 11 [gB (cW (dF s)).1 (.own 4 2 0 (p.2.1).length) (.own 5 2 0 (p.2.2).length)]),(4,.buf 2 ((p.2.1).map dH.D)),(5,.buf 2 ((p.2.2).map bV.D))]) 60 (fun p=>((kM (aJ s).1)<=p.1/\p.1<=(aJ s).1.length)/\(p.2.1.length+p.2.2.length<=p.1/\∀x∈p.2.2,x.range.length<=1048576)/\gD s=EW (cW (dF s)).1 (je (aJ s).1 (aJ s).2 p.2 p.1)) (fun p=>(aJ s).1.length-p.1) ((kM (aJ s).1),[],[]) ⟨dE,⟨aI,aI⟩,hz⟩ (bm.to [(0,0),(37,2)] ah ah pz (by refine bF.iM ah ah ah ?_;refine bF.ni 37 ah ah (by exact⟨_,_,rfl,⟨_,rfl,⟨_,_,rfl,⟨rfl,rfl⟩,⟨_,_,rfl,⟨rfl,rfl⟩,⟨_,_,rfl,⟨rfl,rfl⟩,⟨_,_,rfl,⟨rfl,rfl⟩,⟨_,_,rfl,⟨rfl,rfl⟩,⟨_,_,rfl,⟨rfl,rfl⟩,⟨_,_,rfl,⟨rfl,rfl⟩,⟨_,_,rfl,⟨rfl,rfl⟩,⟨_,_,rfl,⟨rfl,rfl⟩,⟨_,_,rfl,Or.inr ⟨_,_,_,rfl⟩,⟨_,_,rfl,Or.inr ⟨_,_,_,rfl⟩,rfl⟩⟩⟩⟩⟩⟩⟩⟩⟩⟩⟩⟩,rfl⟩) ?_;refine bF.mt ah ah ah ah ?_;refine bF.mt ah ah ah ah ?_;exact bF.nil)) ?_;rintro⟨i,ps,hs⟩ ⟨hi,⟨hsz,hrg⟩,hr⟩;dsimp only at hi hsz hrg hr⊢;refine aU ?_;intro u4;refine aD ?_;refine di (fun hc4=>?_) fun hc4=>?_
   .refine aF ?_;have hil:i<(aJ s).1.length:=ae;have hll:=JC hil g0;refine aD ?_;refine bz i (hb:=fun _=>ae) ?_;refine bp (v:=.str (k9 s)[i]!) (hi:=fun _=>ae) ?_;refine au (v:=.tup [.str (aJ s).1[i]!,.bool (mP (aJ s).1 (aJ s).2 i)]) (hc:=by have:=h244 (k9 s)[i]! (by have:=UD (s:=s) (i:=i) ae;omega);rw[ab4 hil]at this;exact this) ?_;refine bW ?_;refine au (v:=.sl 1 ((bO (aJ s).1[i]!).map D.str)) (hc:=by have:=h245 (aJ s).1[i]! 3 ae aG;rw[ajd]at this;exact this) ?_;refine aF ?_;have hwl:∀u∈(bO (aJ s).1[i]!),u.length<=8193:=fun u hu=>c7 (Tj hu) hll
    rcases adl (mP (aJ s).1 (aJ s).2 i) (bO (aJ s).1[i]!)with hcs|hcs|hcs|hcs
    .refine aK ?_;refine gN ?_;refine aK ?_;refine eD (hc:=fun hf=>h246 (bO (aJ s).1[i]!) []) ?_;refine Hc ?_;rw[hcs];refine aF ?_;refine bz 0 (hb:=fun h=>by cases h) (hj:=fun h=>by cases h) ?_;refine bp (v:=.str (bO (aJ s).1[i]!)[0]!) (hi:=fun h=>by cases h) ?_;refine B5 .nilf ?_;refine B5 (.bool true) ?_;refine Hc (kb:=fun _ h=>by cases h) ?_;refine aF ?_;refine bz 0 (hb:=fun h=>by cases h) (hj:=fun h=>by cases h) ?_;refine bp (v:=.str (bO (aJ s).1[i]!)[0]!) (hi:=fun h=>by cases h) ?_;refine B5 .nilf ?_;refine aE ?_;refine bz 1 (hb:=fun h=>by cases h) (hj:=fun h=>by cases h) ?_;refine bp (v:=.str (bO (aJ s).1[i]!)[1]!) (hi:=fun h=>by cases h) ?_;refine aE ?_;refine bz 2 (hb:=fun h=>by cases h) (hj:=fun h=>by cases h) ?_;refine bp (v:=.str (bO (aJ s).1[i]!)[2]!) (hi:=fun h=>by cases h) ?_;refine Mv ?_;refine B5 (.bool false) ?_;refine Hc (kb:=fun _ h=>by cases h) ?_;refine aE ?_;refine wp_cond (fun hc5=>?_) (fun hc5=>?_)
     .have hz:=vb (r:=(cW (dF s)).1) (q:=(ps,hs)) hil (Zy hcs);refine aE ?_;refine dL _ ?_;refine dJ ?_;refine bT (dG ?_ (ak (D.int .i64) ?_) (ak (D.int .i64) ?_));all_goals
       rw[hr,hz];first|done|rfl
     exact absurd hc5 aG
    .have hgt:=AY hcs.1;have h3:=hgt.2.1;have h4:=hwl _ (bL (show 2<(bO (aJ s).1[i]!).length by omega));refine aK ?_;refine gN ?_;refine aK ?_;refine eD (hc:=fun hf=>h246 (bO (aJ s).1[i]!) []) ?_;refine Hc ?_;rw[hcs.1];refine aF ?_;refine bz 0 (hb:=fun _=>ae) ?_;refine bp (v:=.str (bO (aJ s).1[i]!)[0]!) (hi:=fun _=>ae) ?_;refine Mx (.nilf) (hv:=fun _=>adk hcs.2.1 hcs.2.2) ?_;refine r_isN ?_;refine aK ?_;refine bz 0 (hb:=fun h=>by cases h) (hj:=fun h=>by cases h) ?_;refine bp (v:=.str (bO (aJ s).1[i]!)[0]!) (hi:=fun h=>by cases h) ?_;refine B5 .nilf ?_;refine aE ?_;refine bz 1 (hb:=fun h=>by cases h) (hj:=fun h=>by cases h) ?_;refine bp (v:=.str (bO (aJ s).1[i]!)[1]!) (hi:=fun h=>by cases h) ?_;refine aE ?_;refine bz 2 (hb:=fun h=>by cases h) (hj:=fun h=>by cases h) ?_;refine bp (v:=.str (bO (aJ s).1[i]!)[2]!) (hi:=fun h=>by cases h) ?_;refine Mv ?_;refine B5 (.bool false) ?_;refine Hc (kb:=fun _ h=>by cases h) ?_;refine aE ?_;refine wp_cond (fun hc5=>?_) (fun hc5=>?_)
     .have hz:=vb (r:=(cW (dF s)).1) (en:=(aJ s).2) (q:=(ps,hs)) hil (.inr (UU (.inr (.inr hcs.2))));refine aE ?_;refine dL _ ?_;refine dJ ?_;refine bT (dG ?_ (ak (D.int .i64) ?_) (ak (D.int .i64) ?_));all_goals
       rw[hr,hz];first|done|rfl
     exact absurd hc5 aG
    .have hgt:=AY hcs.1;have h3:=hgt.2.1;have h4:=hwl _ (bL (show 2<(bO (aJ s).1[i]!).length by omega));refine aK ?_;refine gN ?_;refine aK ?_;refine eD (hc:=fun hf=>h246 (bO (aJ s).1[i]!) []) ?_;refine Hc ?_;rw[hcs.1];refine aF ?_;refine bz 0 (hb:=fun _=>ae) ?_;refine bp (v:=.str (bO (aJ s).1[i]!)[0]!) (hi:=fun _=>ae) ?_;refine Mx (.fn 490 [.fn 3000000 [.ptr 2 11 0 0]]) (hv:=fun _=>Ma hcs.2) ?_;refine agG ?_;refine aK ?_;refine bz 0 (hb:=fun _=>ae) ?_;refine bp (v:=.str (bO (aJ s).1[i]!)[0]!) (hi:=fun _=>ae) ?_;refine Mx (.fn 490 [.fn 3000000 [.ptr 2 11 0 0]]) (hv:=fun _=>Ma hcs.2) ?_;refine aE ?_;refine bz 1 (hb:=fun _=>ae) ?_;refine bp (v:=.str (bO (aJ s).1[i]!)[1]!) (hi:=fun _=>ae) ?_;refine aE ?_;refine bz 2 (hb:=fun _=>ae) ?_;refine bp (v:=.str (bO (aJ s).1[i]!)[2]!) (hi:=fun _=>ae) ?_;refine Bs (ι:=Unit) (n:=490) (fun _=>True) (fun _=>.bool (decide (hs.length=0)&& !(bO (aJ s).1[i]!)[2]!.contains 32)) 79 (fun _=>[(108,.buf 2 ((ps++[(⟨(bO (aJ s).1[i]!)[1]!,(bO (aJ s).1[i]!)[2]!⟩:dH)]).map dH.D)),(109,.buf 2 (hs.map bV.D)),(2,.buf 11 [gB (cW (dF s)).1 (.own 108 2 0 (ps++[(⟨(bO (aJ s).1[i]!)[1]!,(bO (aJ s).1[i]!)[2]!⟩:dH)]).length) (.own 109 2 0 hs.length)]),(0,.buf 11 [.agg [.str [],.int .i64 0,.int .i64 0,.int .i64 0,.str [],.str [],.bg,.bg,.bg,.bg,.bg]])]) (fun _ _=>?_) (hc:=fun K' hK=>h490 (cW (dF s)).1 ps hs (bO (aJ s).1[i]!)[1]! (bO (aJ s).1[i]!)[2]! ae _ _ K' ⟨aW,aW,aW⟩ cD (hK () trivial)) (hn:=aG);refine aF ?_;refine wp_cond (fun hc5=>?_) (fun hc5=>?_)
     .simp only[Bool.false_or,bh,bC,bE,cq,Bool.not_eq_false,dw,dt,bM,ef,Bool.not_eq_true,gM,kn]at hc5;have hz:=vb (r:=(cW (dF s)).1) (en:=(aJ s).2) (q:=(ps,hs)) hil (.inr (show gf (ps,hs) (aJ s).1[i]! =none by rw[Nk hgt.2.1 hgt.2.2.1 hgt.2.2.2 hcs.2,ar (adI hc5)]));refine aE ?_;refine dL _ ?_;refine dJ ?_;refine bT (dG ?_ (ak (D.int .i64) ?_) (ak (D.int .i64) ?_));all_goals
       rw[hr,hz];first|done|rfl
     simp only[Bool.false_or,bh,bC,bE,cq,Bool.not_eq_false,dw,dt,bM,ef,Bool.not_eq_true,gM,kn]at hc5;have hz:je (aJ s).1 (aJ s).2 (ps,hs) i=je (aJ s).1 (aJ s).2 ((ps++[(⟨(bO (aJ s).1[i]!)[1]!,(bO (aJ s).1[i]!)[2]!⟩:dH)]),hs) (i+1):=qI hil hgt.1 (by rw[Nk hgt.2.1 hgt.2.2.1 hgt.2.2.2 hcs.2,aC (aa1 hc5)]);refine bW ?_;exact⟨(i+1,(ps++[(⟨(bO (aJ s).1[i]!)[1]!,(bO (aJ s).1[i]!)[2]!⟩:dH)]),hs),⟨dE,⟨by dsimp only;simp only[bH,aM,aX];omega,hrg⟩,by rw[hr,hz]⟩,dE,(bm.to [(0,0),(2,2),(108,4),(109,5)] ah ah pz (by refine bF.iM ah ah ah ?_;refine bF.Sc ah ah ah ?_;refine bF.nl 108 ah ah rfl (bA (fun _=>rfl) _) ?_;refine bF.nl 109 ah ah rfl (bA (fun _=>rfl) _) ?_;exact bF.nil))⟩
    .have hgt:=AY hcs.1;have h3:=hgt.2.1;have h4:=hwl _ (bL (show 2<(bO (aJ s).1[i]!).length by omega));refine aK ?_;refine gN ?_;refine aK ?_;refine eD (hc:=fun hf=>h246 (bO (aJ s).1[i]!) []) ?_;refine Hc ?_;rw[hcs.1];refine aF ?_;refine bz 0 (hb:=fun _=>ae) ?_;refine bp (v:=.str (bO (aJ s).1[i]!)[0]!) (hi:=fun _=>ae) ?_;refine Mx (.fn 492 [.fn 3000000 [.ptr 2 11 0 0]]) (hv:=fun _=>HT hcs.2) ?_;refine agG ?_;refine aK ?_;refine bz 0 (hb:=fun _=>ae) ?_;refine bp (v:=.str (bO (aJ s).1[i]!)[0]!) (hi:=fun _=>ae) ?_;refine Mx (.fn 492 [.fn 3000000 [.ptr 2 11 0 0]]) (hv:=fun _=>HT hcs.2) ?_;refine aE ?_;refine bz 1 (hb:=fun _=>ae) ?_;refine bp (v:=.str (bO (aJ s).1[i]!)[1]!) (hi:=fun _=>ae) ?_;refine aE ?_;refine bz 2 (hb:=fun _=>ae) ?_;refine bp (v:=.str (bO (aJ s).1[i]!)[2]!) (hi:=fun _=>ae) ?_;refine Bs (ι:=Unit) (n:=492) (fun _=>True) (fun _=>.bool true) 79 (fun _=>[(108,.buf 2 (ps.map dH.D)),(109,.buf 2 ((hs++[(⟨(bO (aJ s).1[i]!)[1]!,(bO (aJ s).1[i]!)[2]!⟩:bV)]).map bV.D)),(2,.buf 11 [gB (cW (dF s)).1 (.own 108 2 0 ps.length) (.own 109 2 0 (hs++[(⟨(bO (aJ s).1[i]!)[1]!,(bO (aJ s).1[i]!)[2]!⟩:bV)]).length)]),(0,.buf 11 [.agg [.str [],.int .i64 0,.int .i64 0,.int .i64 0,.str [],.str [],.bg,.bg,.bg,.bg,.bg]])]) (fun _ _=>?_) (hc:=fun K' hK=>h492 (cW (dF s)).1 ps hs (bO (aJ s).1[i]!)[1]! (bO (aJ s).1[i]!)[2]! ae _ _ K' ⟨aW,aW,aW⟩ cD (hK () trivial)) (hn:=aG);refine aF ?_;refine wp_cond (fun hc5=>?_) (fun hc5=>?_)
     .exact absurd hc5 aG
     have hz:je (aJ s).1 (aJ s).2 (ps,hs) i=je (aJ s).1 (aJ s).2 (ps,(hs++[(⟨(bO (aJ s).1[i]!)[1]!,(bO (aJ s).1[i]!)[2]!⟩:bV)])) (i+1):=qI hil hgt.1 (Xz hgt.2.1 hgt.2.2.1 hgt.2.2.2 hcs.2);refine bW ?_;exact⟨(i+1,ps,(hs++[(⟨(bO (aJ s).1[i]!)[1]!,(bO (aJ s).1[i]!)[2]!⟩:bV)])),⟨dE,⟨by dsimp only;simp only[bH,aM,aX];omega,(fun x hx=>(List.mem_append.1 hx).elim (hrg x) (fun hx=>by rw[cT.1 hx];show(bO (aJ s).1[i]!)[2]!.length<=_;omega))⟩,by rw[hr,hz]⟩,dE,(bm.to [(0,0),(2,2),(108,4),(109,5)] ah ah pz (by refine bF.iM ah ah ah ?_;refine bF.Sc ah ah ah ?_;refine bF.nl 108 ah ah rfl (bA (fun _=>rfl) _) ?_;refine bF.nl 109 ah ah rfl (bA (fun _=>rfl) _) ?_;exact bF.nil))⟩
   refine aF ?_;refine e7 4 ?_ (he:=by simp only[j8,ig,ij,ku,kW,cM,Nat.reduceEqDiff,ba,aZ,cC,cj,cb,cH,cK,bI,bB,aH,bR,aL,reduceCtorEq,aM,aX,Nat.reduceAdd,Nat.reduceLeDiff,gB,uy,ux];exact rfl) (hm:=by simp only[j8,ig,ij,ku,kW,cM,Nat.reduceEqDiff,ba,aZ,cC,cj,cb,cH,cK,bI,bB,aH,bR,aL,reduceCtorEq,aM,aX,Nat.reduceAdd,Nat.reduceLeDiff,gB,uy,ux];exact rfl);refine e7 5 ?_ (he:=by simp only[j8,ig,ij,ku,kW,cM,Nat.reduceEqDiff,ba,aZ,cC,cj,cb,cH,cK,bI,bB,aH,bR,aL,reduceCtorEq,aM,aX,Nat.reduceAdd,Nat.reduceLeDiff,gB,uy,ux];exact rfl) (hm:=by simp only[j8,ig,ij,ku,kW,cM,Nat.reduceEqDiff,ba,aZ,cC,cj,cb,cH,cK,bI,bB,aH,bR,aL,reduceCtorEq,aM,aX,Nat.reduceAdd,Nat.reduceLeDiff,gB,uy,ux];exact rfl);refine aE ?_;have hend:je (aJ s).1 (aJ s).2 (ps,hs) i=((ps,hs),0):=Bv ae;rw[hend]at hr;refine cO (d:=fD.D ⟨(cW (dF s)).1,ps,hs⟩) ?_;refine au (hc:=h247 ⟨(cW (dF s)).1,ps,hs⟩ ⟨hsm,hrg⟩) ?_;refine gE ?_;refine az (fun hc6=>?_) (fun hc6=>?_)
   .simp only[cX]at hc6;have hz:=LJ (r:=(cW (dF s)).1) (q:=(ps,hs)) hc6;refine aD ?_;refine dL _ ?_;refine aQ ?_;refine bT (dG ?_ (ak (D.int .i64) ?_) (ak (D.int .i64) ?_));all_goals
     rw[hr,hz];first|done|rfl
   simp only[cX]at hc6;have hz:=TS (r:=(cW (dF s)).1) (q:=(ps,hs)) hc6;refine aD ?_;refine cO (d:=fD.D ⟨(cW (dF s)).1,ps,hs⟩) ?_;refine aR (fD.D ⟨(cW (dF s)).1,ps,hs⟩) (he:=aW) ?_;refine aK ?_;refine bT (dG ?_ (ak (D.int .i64) ?_) (ak (D.int .i64) ?_));all_goals
    rw[hr,hz];first|done|rfl
noncomputable def Tb:aN:=dy 120
def w744 (h470:wI Y)(h896:YZ Y)(h897:Y0 Y)(h898:Y1 Y)(h899:VO Y)(h900:N3 Y)(s:av)  (hp0:s.length<=1048576):dX Y Tb (.tup [iN (iS s).1,.int .i64 (iS s).2]) [.str s]:=by
 show cg _ _ _ [⟨_,_⟩,_,_,_,_,_,_,_,_,_,_,_,_,_,_,_,_] _;have hdl:=qL s [];have hgl:∀i,i<(aT s []).length->(aT s [])[i]!.length<=s.length:=fun i hi=>by
  have:=hdl.2 _ (bL hi);simpa using this
 refine ay ?_;refine bw ?_;intro u0;refine aD ?_;refine di (fun hc0=>?_) fun hc0=>?_
 .refine aD ?_;refine dL [.bg] ?_;refine aR (.agg [.bg]) (he:=aW) ?_;refine aF ?_;refine bT (aS ?_ (ak (D.int .i64) ?_));all_goals
   have hq:iS s=([],3):=by
    unfold iS;rw[aC ae]
   rw[hq];first|done|rfl
 refine aQ ?_;refine au (hc:=h896 s ae) ?_;refine aQ ?_;refine br hm (ι:=Nat) (fun i=>[.un,⟨true,.ptr 0 1 0 0⟩,.un,.un,⟨true,.int .i64 (i:Nat)⟩,⟨true,.sl 1 ((aT s []).map D.str)⟩,.un,.un,.un,.un,.un,.un,.un,.un,⟨true,.ptr 5 1 0 0⟩,.un,.un]) (fun i=>[(0,.buf 1 [.agg [.bg]]),(5,.buf 1 [.agg [.own 1 1 0 ((jB s).take i).length]]),(1,.buf 1 (((jB s).take i).map tZ))]) 10 (fun i=>i<=(aT s []).length/\F7 s=c9 (fun i=>wOK (aT s [])[i]!) i (aT s []).length) (fun i=>(aT s []).length-i) 0 ⟨ae,rfl⟩ (bm.to [(0,0),(5,5)] ah ah fC (by refine hY ?_;refine bF.ni 5 ah ah (by exact⟨_,_,rfl,⟨_,rfl,⟨_,_,rfl,Or.inr ⟨_,_,_,rfl⟩,rfl⟩⟩,rfl⟩) ?_;refine bF.mt ah ah ah ah ?_;exact bF.nil)) ?_;rintro i ⟨hi,hr⟩;have hrt:((jB s).take i).length<=i:=by rw[eF];omega
 refine aU ?_;intro u1;refine aD ?_;refine di (fun hc1=>?_) fun hc1=>?_
 .refine aQ ?_;have hgi:=hgl i ae;have hsl:=cJ (aT s [])[i]! 44;have hsp:1<=(ai (aT s [])[i]! 44).length:=eN _ _ _;refine aK ?_;refine au (hc:=h470 (aT s [])[i]! 44 ae) ?_;refine aQ ?_;refine br hm (ι:=Nat) (fun k=>[.un,⟨true,.ptr 0 1 0 0⟩,.un,.un,⟨true,.int .i64 (i:Nat)⟩,⟨true,.sl 1 ((aT s []).map D.str)⟩,.un,⟨true,.int .i64 (k:Nat)⟩,⟨true,.sl 1 ((ai (aT s [])[i]! 44).map D.str)⟩,.un,.un,.un,⟨true,.own 2 7 0 ((pc (aT s [])[i]!).take k).length⟩,.un,⟨true,.ptr 5 1 0 0⟩,.un,.un]) (fun k=>[(0,.buf 1 [.agg [.bg]]),(5,.buf 1 [.agg [.own 1 1 0 ((jB s).take i).length]]),(1,.buf 1 (((jB s).take i).map tZ)),(2,.buf 7 (((pc (aT s [])[i]!).take k).map dZ.D))]) 22 (fun k=>k<=(ai (aT s [])[i]! 44).length/\wOK (aT s [])[i]! =c9 (fun k=>(fG (eB (ai (aT s [])[i]! 44)[k]!)).isSome) k (ai (aT s [])[i]! 44).length) (fun k=>(ai (aT s [])[i]! 44).length-k) 0 ⟨ae,rfl⟩ (bm.to [(0,0),(5,5),(1,1)] ah ah (by repeat(first|exact de.nil|refine de.un ?_|refine de.eq ah ?_|refine de.nl ah ah ?_|refine de.ni (Or.inr ⟨_,_,_,rfl⟩) ?_)) (by refine hY ?_;refine hY ?_;refine hY ?_;refine bF.mt ah ah ah ah ?_;exact bF.nil)) ?_;rintro k ⟨hk,hwk⟩;have htk:((pc (aT s [])[i]!).take k).length<=k:=by rw[eF];omega
  refine aU ?_;intro u2;refine aD ?_;refine di (fun hc2=>?_) fun hc2=>?_
  .refine aF ?_;have hwl:=tp (aT s [])[i]! 44 (show k<(ai (aT s [])[i]! 44).length by omega);have hbl:=AH (ai (aT s [])[i]! 44)[k]!;refine aK ?_;refine au (hc:=h898 (ai (aT s [])[i]! 44)[k]!) ?_;refine au (hc:=h897 (eB (ai (aT s [])[i]! 44)[k]!) ae) ?_;refine aE ?_;refine fJ (dZ.D _) ?_;refine aD ?_;refine aR (dZ.D ((fG (eB (ai (aT s [])[i]! 44)[k]!)).getD fH)) (he:=aW) ?_;refine bw ?_;refine az (fun hc3=>?_) (fun hc3=>?_)
   .have hsm:(fG (eB (ai (aT s [])[i]! 44)[k]!)).isSome=false:=by cases hx:(fG (eB (ai (aT s [])[i]! 44)[k]!)).isSome with|false=>rfl|true=>rw[hx]at hc3;exact absurd hc3 aG
    refine aD ?_;refine dL [.bg] ?_;refine aR (.agg [.bg]) (he:=aW) ?_;refine bw ?_;refine bT (aS ?_ (ak (D.int .i64) ?_));all_goals
     have hq:iS s=([],6):=by
      have hno:F7 s=false:=by rw[hr,bc ae,hwk,bc ae,hsm];rfl
      unfold iS;rw[ar ae,aC hno]
     rw[hq];first|done|rfl
   have hsm:(fG (eB (ai (aT s [])[i]! 44)[k]!)).isSome=true:=by cases hx:(fG (eB (ai (aT s [])[i]! 44)[k]!)).isSome with|true=>rfl|false=>rw[hx]at hc3;exact absurd hc3 aG
   refine aF ?_;refine cO (d:=dZ.D ((fG (eB (ai (aT s [])[i]! 44)[k]!)).getD fH)) ?_;refine dq [(dZ.D _)] ?_;refine ja ?_;have hq:=jI (fun x=>(fG (eB x)).getD fH) (ai (aT s [])[i]! 44) (show k<(ai (aT s [])[i]! 44).length by omega);rw[show(fun x=>(fG (eB x)).getD fH)=fun x=>(fG (eB x)).getD fH from rfl]at hq;have hq:(pc (aT s [])[i]!).take (k+1)=_:=hq;rw[show(pc (aT s [])[i]!).take k++[(fG (eB (ai (aT s [])[i]! 44)[k]!)).getD fH]=(pc (aT s [])[i]!).take (k+1)from hq.symm];exact⟨k+1,⟨ae,by rw[hwk,bc ae,hsm];rfl⟩,ae,(bm.to [(0,0),(5,5),(1,1),(43,2)] ah ah fC (by refine hY ?_;refine hY ?_;refine hY ?_;refine bF.nl 43 ah ah ah fM ?_;exact bF.nil))⟩
  refine aD ?_;refine e7 2 ?_ (he:=by simp only[j8,ig,ij,ku,kW,cM,Nat.reduceEqDiff,ba,aZ,cC,cj,cb,cH,cK,bI,bB,aH,bR,aL,reduceCtorEq,aM,aX,Nat.reduceAdd,Nat.reduceLeDiff,qW];exact rfl) (hm:=by simp only[j8,ig,ij,ku,kW,cM,Nat.reduceEqDiff,ba,aZ,cC,cj,cb,cH,cK,bI,bB,aH,bR,aL,reduceCtorEq,aM,aX,Nat.reduceAdd,Nat.reduceLeDiff,qW];exact rfl);refine aE ?_;obtain rfl:k=(ai (aT s [])[i]! 44).length:=ae;rw[fq (show(pc (aT s [])[i]!).length<=(ai (aT s [])[i]! 44).length by simp[pc])];refine aE ?_;refine aV (v:=.own _ _ _ _) ?_;refine aE ?_;refine dq [tZ (pc (aT s [])[i]!)] ?_;refine aD ?_;refine aR (.agg [.own 30 1 0 ((jB s).take i++[pc (aT s [])[i]!]).length]) (he:=aW) ?_;refine bW ?_;have hq:(jB s).take (i+1)=(jB s).take i++[pc (aT s [])[i]!]:=jI pc (aT s []) (show i<(aT s []).length by omega);rw[<-hq];exact⟨i+1,⟨ae,by rw[hr,bc ae,hwk,cL ae];rfl⟩,ae,(bm.to [(0,0),(5,5),(30,1)] ah ah fC (by refine hY ?_;refine hY ?_;refine bF.nl 30 ah ah ah fM ?_;exact bF.nil))⟩
 refine aF ?_;refine e7 1 ?_ (he:=by simp only[j8,ig,ij,ku,kW,cM,Nat.reduceEqDiff,ba,aZ,cC,cj,cb,cH,cK,bI,bB,aH,bR,aL,reduceCtorEq,aM,aX,Nat.reduceAdd,Nat.reduceLeDiff,qW];exact rfl) (hm:=by simp only[j8,ig,ij,ku,kW,cM,Nat.reduceEqDiff,ba,aZ,cC,cj,cb,cH,cK,bI,bB,aH,bR,aL,reduceCtorEq,aM,aX,Nat.reduceAdd,Nat.reduceLeDiff,qW];exact rfl);refine aE ?_;obtain rfl:i=(aT s []).length:=ae;have hok:F7 s=true:=by rw[hr,cL ae]
 rw[fq (show(jB s).length<=(aT s []).length by simp[jB])];have hrs:=J9 (s:=s) ae;refine cO (d:=iN (jB s)) ?_;refine au (hc:=h899 (jB s) hrs) ?_;refine aD ?_;refine az (fun hc4=>?_) (fun hc4=>?_)
 .simp only[bE]at hc4;refine aD ?_;refine dL [.bg] ?_;refine aR (.agg [.bg]) (he:=aW) ?_;refine aF ?_;refine bT (aS ?_ (ak (D.int .i64) ?_));all_goals
   have hq:iS s=([],6):=by
    unfold iS;rw[ar ae,ar (by rw[hok];simp),aC hc4]
   rw[hq];first|done|rfl
 simp only[cq]at hc4;refine aF ?_;refine cO (d:=iN (jB s)) ?_;refine au (hc:=h900 (jB s) ⟨hc4,hrs⟩) ?_;refine aE ?_;intro u3;refine aD ?_;refine di (fun hc5=>?_) fun hc5=>?_
 .refine aD ?_;refine dL [.bg] ?_;refine aR (.agg [.bg]) (he:=aW) ?_;refine aF ?_;refine bT (aS ?_ (ak (D.int .i64) ?_));all_goals
   have hq:iS s=([],3):=by
    unfold iS;rw[ar ae,ar (by rw[hok];simp),ar (by rw[hc4];simp),aC ae]
   rw[hq];first|done|rfl
 refine aD ?_;refine cO (d:=iN (jB s)) ?_;refine aR (iN (jB s)) (he:=aW) ?_;refine aF ?_;refine bT (aS ?_ (ak (D.int .i64) ?_));all_goals
  have hq:iS s=(jB s,0):=by
   unfold iS;rw[ar ae,ar (by rw[hok];simp),ar (by rw[hc4];simp),ar ae]
  rw[hq];first|done|rfl
noncomputable def Tc:aN:=dy 65
def w572 {Y:Ctx}(hm:(Y.at 0).cP)(h744:YP Y)(h745:YQ Y)(s:av)  (hp0:s.length<=1048576):dX Y Tc (.bool (kC s)) [.str s]:=by
 show cg _ _ _ [⟨_,_⟩,_,_,_] _;refine ay ?_;refine aK ?_;refine au (hc:=h744 s hp0) ?_;refine aE ?_;refine fJ (iN _) ?_;refine aD ?_;refine aR (iN (iS s).1) (he:=aW) ?_;refine aQ ?_;refine cO (d:=iN (iS s).1) ?_;refine eD (hc:=fun hf=>h745 (iS s).1 J7.1) ?_;refine aQ ?_;exact cd rfl
noncomputable def MQ:aN:=dy 64
def w218 (h457:Yl Y)(h458:Ym Y)(h459:Yn Y)(h460:Yo Y)(r:Rec)  (hp0:mD r):dX Y MQ (.tup [.int .i64 (fP r).1,.int .i64 (fP r).2]) [Rec.D r]:=by
 show cg _ _ _ [⟨_,_⟩,_,_,_,_,_,_,_,_,_,_,_,_,_,_,_,_] _;refine ay ?_;refine bW ?_;refine br hm (ι:=Nat) (fun i=>[.un,.un,.un,⟨true,.int .i64 (i:Nat)⟩,⟨true,.ptr 0 9 0 0⟩,.un,.un,.un,.un,.un,.un,.un,.un,.un,.un,.un,.un]) (fun i=>[(0,.buf 9 [Rec.D r])]) 4 (fun i=>i<=r.needs.length/\nB r=gA (fun i=>jS r r.needs[i]!) i r.needs.length) (fun i=>r.needs.length-i) 0 ⟨ae,rfl⟩ (dQ [(0,0)]) ?_;rintro i ⟨hi,hr⟩;refine aQ ?_;intro u0;refine aD ?_;refine di (fun hc0=>?_) fun hc0=>?_
 .refine bw ?_;refine bz i ?_;first|refine bp (v:=(bo.D _)) ?_|refine gI (v:=(bo.D _)) ?_
  refine au (hc:=h457 r r.needs[i]! (hp0.2.1 _ (bL ae))) ?_;refine aQ ?_;refine iI (fun hc1=>?_) fun hc1=>?_
  .refine dJ ?_;refine bT (aS (ak (D.int .i64) ?_) (ak (D.int .i64) ?_));all_goals
    have hq:fP r=(jS r r.needs[i]!,((i:Nat):Int)):=by
     exact Mo (by rw[hr,gl ae hc1]) hc1
    rw[hq];first|done|rfl
  refine bW ?_;exact⟨i+1,⟨ae,by rw[hr,iq ae hc1]⟩,ae,(dQ [(0,0)])⟩
 refine aK ?_;have hn0:nB r=(0,0):=by rw[hr,fT ae]
 refine aD ?_;refine br hm (ι:=Nat) (fun i=>[.un,.un,.un,.un,⟨true,.ptr 0 9 0 0⟩,.un,.un,.un,⟨true,.int .i64 (i:Nat)⟩,.un,.un,.un,.un,.un,.un,.un,.un]) (fun i=>[(0,.buf 9 [Rec.D r])]) 10 (fun i=>i<=r.bars.length/\wZ r=gA (fun i=>rH r r.bars[i]!) i r.bars.length) (fun i=>r.bars.length-i) 0 ⟨ae,rfl⟩ (dQ [(0,0)]) ?_;rintro i ⟨hi,hr⟩;refine aQ ?_;intro u1;refine aD ?_;refine di (fun hc2=>?_) fun hc2=>?_
 .refine bw ?_;refine bz i ?_;first|refine bp (v:=(fZ.D _)) ?_|refine gI (v:=(fZ.D _)) ?_
  refine au (hc:=h458 r r.bars[i]! (hp0.2.2.1 _ (bL ae))) ?_;refine aQ ?_;refine iI (fun hc3=>?_) fun hc3=>?_
  .refine dJ ?_;refine bT (aS (ak (D.int .i64) ?_) (ak (D.int .i64) ?_));all_goals
    have hq:fP r=(rH r r.bars[i]!,((i:Nat):Int)):=by
     exact FH hn0 (by rw[hr,gl ae hc3]) hc3
    rw[hq];first|done|rfl
  refine bW ?_;exact⟨i+1,⟨ae,by rw[hr,iq ae hc3]⟩,ae,(dQ [(0,0)])⟩
 refine aK ?_;have hb0:wZ r=(0,0):=by rw[hr,fT ae]
 refine aD ?_;refine au (hc:=h459 r.feats hp0.2.2.2) ?_;refine aD ?_;refine az (fun hc4=>?_) (fun hc4=>?_)
 .try simp only[cX]at hc4
  refine aQ ?_;refine bT (aS (ak (D.int .i64) ?_) (ak (D.int .i64) ?_));all_goals
   have hq:fP r=(11,0):=by
    exact Mp hn0 hb0 hc4
   rw[hq];first|done|rfl
 simp only[cq]at hc4;refine aU ?_;refine br hm (ι:=Nat) (fun i=>[.un,.un,.un,.un,⟨true,.ptr 0 9 0 0⟩,.un,.un,.un,.un,.un,.un,.un,.un,⟨true,.int .i64 (i:Nat)⟩,.un,.un,.un]) (fun i=>[(0,.buf 9 [Rec.D r])]) 20 (fun i=>i<=r.feats.length/\xG r=gA (fun i=>mj r r.feats[i]!.of) i r.feats.length) (fun i=>r.feats.length-i) 0 ⟨ae,rfl⟩ (dQ [(0,0)]) ?_;rintro i ⟨hi,hr⟩;refine aQ ?_;intro u2;refine aD ?_;refine di (fun hc5=>?_) fun hc5=>?_
 .refine bw ?_;refine bz i ?_;refine aD ?_;refine au (hc:=h460 r r.feats[i]!.of (hp0.2.2.2 _ (bL ae)).2.2) ?_;refine aQ ?_;refine iI (fun hc6=>?_) fun hc6=>?_
  .refine dJ ?_;refine bT (aS (ak (D.int .i64) ?_) (ak (D.int .i64) ?_));all_goals
    have hq:fP r=(mj r r.feats[i]!.of,((i:Nat):Int)):=by
     exact uQ hn0 hb0 hc4 (by rw[hr,gl (f:=(fun i=>mj r r.feats[i]!.of)) ae hc6])
    rw[hq];first|done|rfl
  refine bW ?_;exact⟨i+1,⟨ae,by rw[hr,iq (f:=(fun i=>mj r r.feats[i]!.of)) ae hc6]⟩,ae,(dQ [(0,0)])⟩
 refine bw ?_;refine bT (aS (ak (D.int .i64) ?_) (ak (D.int .i64) ?_));all_goals
  have hq:fP r=(0,0):=by
   exact uQ hn0 hb0 hc4 (by rw[hr,fT ae])
  rw[hq];first|done|rfl
noncomputable def ML:aN:=dy 27
def w71 {Y:Ctx}(hm:(Y.at 0).cP)(h216:GR Y)(h217:K2 Y)(h218:XV Y)(h219:Vt Y)(r:Rec)  (hp0:mD r):dX Y ML (.tup [.int .i64 (cE r).1,.int .i64 (cE r).2]) [Rec.D r]:=by
 show cg _ _ _ [⟨_,_⟩,_,_,_,_,_,_,_,_,_,_] _;refine ay ?_;refine bW ?_;refine au (hc:=h216 _) ?_;refine aF ?_;refine wp_cond (fun hc0=>?_) (fun hc0=>?_)
 .try simp only[cX]at hc0
  refine aQ ?_;refine bT (aS (ak (D.int .i64) ?_) (ak (D.int .i64) ?_));all_goals (have hq:cE r=(4,0):=(by rw[cE,aC hc0]);rw[hq];first|done|rfl)
 simp only[cq]at hc0;refine aD ?_;refine aV (v:=dz.D r.v) ?_;refine au (hc:=h217 r.v hp0.1.2) ?_;refine aF ?_;refine wp_cond (fun hc1=>?_) (fun hc1=>?_)
 .try simp only[cX]at hc1
  refine aQ ?_;refine bT (aS (ak (D.int .i64) ?_) (ak (D.int .i64) ?_));all_goals (have hq:cE r=(5,0):=(by rw[cE,ar (by simp[hc0]),aC hc1]);rw[hq];first|done|rfl)
 simp only[cq]at hc1;refine aK ?_;intro u0;refine aK ?_;refine gN ?_;refine aK ?_;refine iI (fun hc2=>?_) fun hc2=>?_
 .refine aQ ?_;refine bT (aS (ak (D.int .i64) ?_) (ak (D.int .i64) ?_));all_goals (have hq:cE r=(3,0):=(by rw[cE,ar (by simp[hc0]),ar (by simp[hc1]),aC ae]);rw[hq];first|done|rfl)
 refine aU ?_;refine au (hc:=h218 r hp0) ?_;refine gE ?_;refine az (fun hc3=>?_) (fun hc3=>?_)
 .try simp only[cX]at hc3
  refine bW ?_;refine bT (aS (ak (D.int .i64) ?_) (ak (D.int .i64) ?_));all_goals
   have hq:cE r=fP r:=by
    exact rK hc0 hc1 ae ae rfl hc3
   rw[hq];first|done|rfl
 simp only[cq,bh]at hc3;have hpz:fP r=(0,0):=Mq hc3;have hgd:zf r:=⟨⟨hc0,hc1⟩,⟨ae,ae⟩,hpz⟩;refine aK ?_;refine au (hc:=h219 r ⟨hgd,hp0⟩) ?_;refine aE ?_;intro u1;refine aD ?_;refine di (fun hc4=>?_) fun hc4=>?_
 .refine aQ ?_;refine bT (aS (ak (D.int .i64) ?_) (ak (D.int .i64) ?_));all_goals
   have hq:cE r=(3,0):=by
    rw[ui hc0 hc1 ae ae hpz,aC ae]
   rw[hq];first|done|rfl
 refine aQ ?_;refine bT (aS (ak (D.int .i64) ?_) (ak (D.int .i64) ?_));all_goals
  have hq:cE r=(0,0):=by
   rw[ui hc0 hc1 ae ae hpz,ar ae]
  rw[hq];first|done|rfl
noncomputable def Xi:aN:=dy 42
def w249  (l:List av)(x:UInt8)  (hp0:(aO [x] l).length<=1099511627776):dX Y Xi (.str (aO [x] l)) [.sl 1 (l.map D.str),.int .u8 (x.toNat:Nat)]:=by
 show cg _ _ _ [⟨_,_⟩,⟨_,_⟩,_,_,_,_,_] _;refine ay ?_;refine dJ ?_;refine br hm (ι:=Nat) (fun i=>[⟨true,.sl 1 (l.map D.str)⟩,⟨true,.int .u8 (x.toNat:Nat)⟩,.un,⟨true,.int .i64 (i:Nat)⟩,.un,.un,⟨true,.str (aO [x] (l.take i))⟩]) (fun i=>[]) 3 (fun i=>i<=l.length) (fun i=>l.length-i) 0 ae (dQ []) ?_;intro i hi;refine aU ?_;intro u0;refine aD ?_;refine di (fun hc0=>?_) fun hc0=>?_
 .refine aK ?_;have hj:=we [x] l (i+1);refine aF ?_;refine az (fun hc1=>?_) (fun hc1=>?_)
  .simp only[bh]at hc1;have ht:=s9 [x] l i ae;rw[aC ae]at ht;have htl:=ak List.length ht;simp only[bH,List.length_singleton]at htl;refine aF ?_;refine dq [.int .u8 _] ?_;refine abb [x] (he:=fun _=>vO.all ah rfl) (hs:=fun _=>rfl) ?_;refine dD (hb:=fun _=>by simp only[List.length_singleton];omega) ?_;refine bW ?_;refine dD (hb:=fun _=>by first|(simp only[bH,List.length_singleton];omega)|(subst hi0;simp only[List.take_zero,aO,aX]at htl⊢;omega)) ?_;refine dJ ?_;exact⟨i+1,ae,ae,(bm.to [] ah ah (by repeat(first|exact de.nil|refine de.un ?_|refine de.eq ah ?_|refine de.nl (ak D.str (by rw[ht])) ah ?_)) lE)⟩
  simp only[bC]at hc1;have ht:=s9 [x] l i ae;rw[ar ae]at ht;have htl:=ak List.length ht;simp only[bH,aX]at htl;have hi0:i=0:=ae;refine bw ?_;refine dD (hb:=fun _=>by first|(simp only[bH,List.length_singleton];omega)|(subst hi0;simp only[List.take_zero,aO,aX]at htl⊢;omega)) ?_;refine dJ ?_;exact⟨i+1,ae,ae,(bm.to [] ah ah (by repeat(first|exact de.nil|refine de.un ?_|refine de.eq ah ?_|refine de.nl (ak D.str (by rw[ht];subst hi0;rfl)) ah ?_)) lE)⟩
 refine bw ?_;refine du ?_;rw[fq ae]
noncomputable def F1:aN:=dy 81
def w226  (a:List av)(b:List av)   :dX Y F1 (.bool (decide (a=b))) [.sl 1 (a.map D.str),.sl 1 (b.map D.str)]:=by
 show cg _ _ _ [⟨_,_⟩,⟨_,_⟩,_,_,_,_,_] _;refine ay ?_;refine aQ ?_;intro u0;refine aD ?_;intro u1;refine aD ?_;refine di (fun hc0=>?_) fun hc0=>?_
 .refine aU ?_;refine cd ?_;symm;rw[bC];rintro rfl;exact hc0 rfl
 refine aU ?_;have hab:a.length=b.length:=ae;have hb:=su hab;refine br hm (ι:=Nat) (fun i=>[⟨true,.sl 1 (a.map D.str)⟩,⟨true,.sl 1 (b.map D.str)⟩,.un,.un,⟨true,.int .i64 (i:Nat)⟩,.un,.un]) (fun i=>[]) 7 (fun i=>i<=a.length/\decide (a=b)=c9 (fun i=>decide (a[i]! =b[i]!)) i a.length) (fun i=>a.length-i) 0 ⟨ae,hb⟩ (dQ []) ?_;rintro i ⟨hi,hr⟩;refine aU ?_;intro u2;refine aD ?_;refine di (fun hc1=>?_) fun hc1=>?_
 .refine mZ ?_;refine wp_cond (fun hc2=>?_) (fun hc2=>?_)
  .simp only[bE,bC]at hc2;refine aQ ?_;refine cd ?_;rw[hr,bc ae,cy hc2];rfl
  simp only[cq,bh]at hc2;refine bW ?_;exact⟨i+1,⟨ae,by rw[hr,bc ae,bY hc2];rfl⟩,ae,(dQ [])⟩
 refine aQ ?_;refine cd ?_;rw[hr,cL ae]
noncomputable def MY:aN:=dy 201
def w815  (l:List av)   :dX Y MY (.bool (rising l)) [.sl 1 (l.map D.str)]:=by
 show cg _ _ _ [⟨_,_⟩,_,_,_,_] _;refine ay ?_;refine aQ ?_;refine br hm (ι:=Nat) (fun i=>[⟨true,.sl 1 (l.map D.str)⟩,.un,⟨true,.int .i64 (i:Nat)⟩,.un,.un]) (fun i=>[]) 2 (fun i=>1<=i/\(i<=l.length\/i=1)/\rising l=c9 (fun i=>Op.bytesLess l[i-1]! l[i]!) i l.length) (fun i=>l.length-i) 1 ⟨ae,ae,rfl⟩ (dQ []) ?_;rintro i ⟨h1,hi,hr⟩;refine aU ?_;intro u0;refine aD ?_;refine di (fun hc0=>?_) fun hc0=>?_
 .refine aQ ?_;refine bz (i-1) ?_;refine bw ?_;refine wp_cond (fun hc1=>?_) (fun hc1=>?_)
  .simp only[bE]at hc1;refine aQ ?_;refine cd ?_;rw[hr,bc ae,hc1];rfl
  simp only[cq]at hc1;refine bW ?_;exact⟨i+1,⟨ae,ae,by rw[hr,bc ae,hc1];rfl⟩,ae,(dQ [])⟩
 refine aQ ?_;refine cd ?_;rw[hr,cL ae]
noncomputable def G2:aN:=dy 97
def w447  (l:List av)   :dX Y G2 (.bool (rising l)) [.sl 1 (l.map D.str)]:=by
 show cg _ _ _ [⟨_,_⟩,_,_,_,_] _;refine ay ?_;refine aQ ?_;refine br hm (ι:=Nat) (fun i=>[⟨true,.sl 1 (l.map D.str)⟩,.un,⟨true,.int .i64 (i:Nat)⟩,.un,.un]) (fun i=>[]) 2 (fun i=>1<=i/\(i<=l.length\/i=1)/\rising l=c9 (fun i=>Op.bytesLess l[i-1]! l[i]!) i l.length) (fun i=>l.length-i) 1 ⟨ae,ae,rfl⟩ (dQ []) ?_;rintro i ⟨h1,hi,hr⟩;refine aU ?_;intro u0;refine aD ?_;refine di (fun hc0=>?_) fun hc0=>?_
 .refine aQ ?_;refine bz (i-1) ?_;refine bw ?_;refine wp_cond (fun hc1=>?_) (fun hc1=>?_)
  .simp only[bE]at hc1;refine aQ ?_;refine cd ?_;rw[hr,bc ae,hc1];rfl
  simp only[cq]at hc1;refine bW ?_;exact⟨i+1,⟨ae,ae,by rw[hr,bc ae,hc1];rfl⟩,ae,(dQ [])⟩
 refine aQ ?_;refine cd ?_;rw[hr,cL ae]
noncomputable def mG:aN:=dy 233
def U6 {Y:Ctx}(hm:(Y.at 2).cP)(s:av)(W:List av)(w:List av)(nd:List Nd)(b:Bool)  (hp0:w<:+W/\W.length<=1000):cg (Y.at 2) mG.body (kJ mG (TI 4 (j5 W) nd (fun o=>o=⟨0,q9 w s,nd,b⟩) (fun _=>.bool (iJ w s))):Ex->List cA->St->Prop) (gz mG [.ptr 0 4 0 0,.str s]) ⟨2,[(0,.buf 4 [j5 W w (.own 1 5 0 nd.length) b]),(1,.buf 5 (nd.map Nd.D))]⟩:=by
 show cg _ _ _ [⟨true,.ptr 0 4 0 0⟩,⟨true,.str s⟩,.un,.un] ⟨2,[(0,.buf 4 [j5 W w (.own 1 5 0 nd.length) b]),(1,.buf 5 (nd.map Nd.D))]⟩;refine ay ?_;refine jX ?_;refine gN ?_;refine ja ?_;refine bz (W.length-w.length) (hb:=fun h=>by simp only[gM,beq_iff_eq,bh]at h;omega) ?_;refine aU ?_;refine az (fun hc0=>?_) (fun hc0=>?_)
 .have hh:iJ w s=true:=(Uw hp0.1 s).symm.trans hc0;obtain⟨r,rfl⟩:=pZ hh;refine dJ ?_;refine aR (j5 W r (.own 1 5 0 nd.length) b) (he:=UK hp0.1.length_le) ?_;refine aQ ?_;refine ch trivial eP (cn ah (ak D.bool ?_)) ah ⟨⟨0,q9 (s::r) s,nd,b⟩,rfl,rfl,by rw[nD];rfl,rfl⟩;exact(yb s r).symm
 have hh:iJ w s=false:=(Uw hp0.1 s).symm.trans hc0;refine aU ?_;refine ch trivial eP (cn ah (ak D.bool ?_)) ah ⟨⟨0,q9 w s,nd,b⟩,rfl,rfl,by rw[sc hh];rfl,rfl⟩;exact hh.symm
noncomputable def mH:aN:=dy 253
def Vh {Y:Ctx}(hm:(Y.at 2).cP)(W:List av)(w:List av)(nd:List Nd)(b:Bool)  (hp0:w<:+W/\W.length<=1000):cg (Y.at 2) mH.body (kJ mH (TI 4 (j5 W) nd (fun o=>o=⟨0,w.drop 1,nd,rB w b⟩) (fun _=>.str (bD w))):Ex->List cA->St->Prop) (gz mH [.ptr 0 4 0 0]) ⟨2,[(0,.buf 4 [j5 W w (.own 1 5 0 nd.length) b]),(1,.buf 5 (nd.map Nd.D))]⟩:=by
 show cg _ _ _ [⟨true,.ptr 0 4 0 0⟩,.un,.un] ⟨2,[(0,.buf 4 [j5 W w (.own 1 5 0 nd.length) b]),(1,.buf 5 (nd.map Nd.D))]⟩;refine ay ?_;refine jX ?_;refine gN ?_;refine aD ?_;refine az (fun hc0=>?_) (fun hc0=>?_)
 .simp only[bh]at hc0;have hle:=hp0.1.length_le;obtain rfl:w=[]:=pB.1 ae;refine aU ?_;refine aR (j5 W [] (.own 1 5 0 nd.length) true) (he:=aW) ?_;refine aQ ?_;refine ch trivial eP (cn ah (ak D.str ?_)) ah ⟨⟨0,([]:List av).drop 1,nd,rB [] b⟩,rfl,rfl,rfl,rfl⟩;rfl
 simp only[bC]at hc0;have hle:=hp0.1.length_le;obtain⟨x,r,rfl⟩:∃x r,w=x::r:=by
  cases w with
  |nil=>exact absurd aI hc0
  |cons x r=>exact⟨x,r,rfl⟩
 refine dJ ?_;refine aR (j5 W r (.own 1 5 0 nd.length) b) (he:=UK hle) ?_;refine gE ?_;refine bz (W.length-(x::r).length) (hj:=fun _=>by simp only[aM]at hle⊢;omega) (hb:=fun _=>by simp only[aM]at hle⊢;omega) ?_;refine aK ?_;refine ch trivial eP (cn ah (ak D.str ?_)) ah ⟨⟨0,(x::r).drop 1,nd,rB (x::r) b⟩,rfl,rfl,rfl,rfl⟩;exact(UR hp0.1 aI).2
noncomputable def nK:aN:=dy 234
def U7 {Y:Ctx}(hm:(Y.at 2).cP)(x:Nd)(W:List av)(w:List av)(nd:List Nd)(b:Bool)  (hp0:nd.length<=2000):cg (Y.at 2) nK.body (kJ nK (Ch 4 (j5 W) (fun o=>o=⟨(nd.length:Nat),w,nd++[x],b⟩) Va):Ex->List cA->St->Prop) (gz nK [.ptr 0 4 0 0,Nd.D x]) ⟨2,[(0,.buf 4 [j5 W w (.own 1 5 0 nd.length) b]),(1,.buf 5 (nd.map Nd.D))]⟩:=by
 show cg _ _ _ [⟨true,.ptr 0 4 0 0⟩,⟨true,Nd.D x⟩,.un,.un] ⟨2,[(0,.buf 4 [j5 W w (.own 1 5 0 nd.length) b]),(1,.buf 5 (nd.map Nd.D))]⟩;refine ay ?_;refine bW ?_;refine aV (v:=.own 1 5 0 nd.length) ?_;refine cO (d:=Nd.D x) ?_;refine dq [Nd.D x] ?_;refine iG (q:=Nd.D) (xs:=nd) (e:=x) ?_;refine aD ?_;refine aR (j5 W w (.own 11 5 0 (nd++[x]).length) b) (he:=aW) ?_;refine aU ?_;refine aV (v:=.own 11 5 0 (nd++[x]).length) ?_;refine aE ?_;intro u0;refine aK ?_;refine ch trivial eP (cn ah (ak (D.int .i64) ?_)) ah ⟨⟨(nd.length:Nat),w,nd++[x],b⟩,11,aG,rfl,rfl,rfl,rfl⟩;simp
noncomputable def abx:aN:=dy 204
def U2  (s:av)   :dX Y abx (.tup [.str (jA s 0).1,.str (jA s 0).2]) [.str s]:=by
 show cg _ _ _ [⟨_,_⟩,_,_,_,_,_] _;refine ay ?_;refine bw ?_;refine br hm (ι:=Nat) (fun i=>[⟨true,.str s⟩,.un,.un,⟨true,.int .i64 (i:Nat)⟩,.un,.un]) (fun i=>[]) 3 (fun i=>i<=s.length/\jA s 0=jA s i) (fun i=>s.length-i) 0 ⟨ae,rfl⟩ (dQ []) ?_;rintro i ⟨hi,hr⟩;refine aU ?_;intro u0;refine aD ?_;refine di (fun hc0=>?_) fun hc0=>?_
 .refine bW ?_;refine iI (fun hc1=>?_) fun hc1=>?_
  .refine aF ?_;refine lf _ ?_;refine aF ?_;refine ga (i+1) ?_;refine aQ ?_;refine bT (aS (ak D.str ?_) (ak D.str ?_));all_goals rw[hr,UF ae hc1]
  refine bW ?_;exact⟨i+1,⟨ae,by rw[hr,UG ae hc1]⟩,ae,(dQ [])⟩
 refine bW ?_;refine bT (aS (ak D.str ?_) (ak D.str ?_));all_goals rw[hr,Mu ae]
noncomputable def Ta:aN:=dy 203
def U1 (h678:VK Y)(h1079:KW Y)(s:av)   :dX Y Ta (.tup [.int .i64 (iT s).1,.str (iT s).2]) [.str s]:=by
 show cg _ _ _ [⟨_,_⟩,_,_,_,_,_,_,_,_] _;refine ay ?_;refine aK ?_;refine dq [(.int _ _),(.int _ _),(.int _ _),(.int _ _),(.int _ _),(.int _ _),(.int _ _),(.int _ _)] ?_;refine aQ ?_;refine e7 2 ?_;refine br hm (ι:=Nat) (fun i=>[⟨true,.str s⟩,.un,.un,⟨true,.int .i64 (i:Nat)⟩,⟨true,.sl 1 (opsL.map (D.int .i64))⟩,.un,.un,.un,.un]) (fun i=>[]) 5 (fun i=>i<=8/\tj s 0=tj s i) (fun i=>8-i) 0 ⟨ae,rfl⟩ (dQ []) ?_;rintro i ⟨hi,hr⟩;have hn8:opsL.length=8:=rfl;refine aU ?_;intro u0;refine aD ?_;refine di (fun hc0=>?_) fun hc0=>?_
 .refine bw ?_;refine au (hc:=h678 _) ?_;refine aU ?_;refine au (hc:=h1079 _ _) ?_;refine aE ?_;refine wp_cond (fun hc1=>?_) (fun hc1=>?_)
  .have hbl:(er opsL[i]!).length<=s.length:=by simp only[xr,bM,bh]at hc1;exact hc1.1
   refine bw ?_;refine gN ?_;refine ga (er opsL[i]!).length (hb:=fun _=>hbl) ?_;refine aQ ?_;refine bT (aS (ak (D.int .i64) ?_) (ak D.str ?_));all_goals simp only[iT,hr,Uz (show i<8 by omega) hc1]
  skip
  refine bW ?_;exact⟨i+1,⟨ae,by rw[hr,UA ae hc1]⟩,ae,(dQ [])⟩
 refine aQ ?_;intro u1;refine aK ?_;refine gN ?_;refine aE ?_;refine sj (s.length-1) ?_;refine aF ?_;refine di (fun hc2=>?_) fun hc2=>?_
 .refine bw ?_;refine bT (aS (ak (D.int .i64) ?_) (ak D.str ?_));all_goals (have ho:tj s 0=none:=(by rw[hr,FD ae]);simp only[iT,ho,aC (show 0<s.length/\at8 s (s.length-1)=42 from⟨ae,hc2.2⟩)])
 refine bw ?_;refine bT (aS (ak (D.int .i64) ?_) (ak D.str ?_));all_goals (have ho:tj s 0=none:=(by rw[hr,FD ae]);have hn:¬(0<s.length/\at8 s (s.length-1)=42):=(by rintro⟨h1,h2⟩;rcases hc2 with h|h;exact h ae;exact h h2);simp only[iT,ho,ar hn])
noncomputable def uZ:aN:=dy 100
def w450 {Y:Ctx}(hm:(Y.at 3).cP)(ws:List av)(t:av)(m0:List (Nat×cr))(h242:K3 (Y.at 3))(h489:IV (Y.at 3))(h664:IZ (Y.at 3))(hp0:wW m0 0 t)(hp1:look m0 1=some (.buf 1 (ws.map D.str)))(hp2:I4 ws t):cg (Y.at 3) uZ.body (kJ uZ (fun d m=>d=.tup []/\look m 0=some (.bld (some 9) (t++cN ws).length true)/\look m 9=some (.row (t++cN ws))):Ex->List cA->St->Prop) (gz uZ [.ptr 0 2 0 0,.own 1 1 0 ws.length]) ⟨3,m0⟩:=by
 show cg _ _ _ [⟨true,.ptr 0 2 0 0⟩,⟨true,.own 1 1 0 ws.length⟩] ⟨3,m0⟩;obtain⟨⟨q1,q2⟩,q3,q4⟩:=hp2;have hlt:t++cN ws=t++aO [32] ws++[10]:=by unfold cN;simp
 refine ay ?_;refine aD ?_;refine au (hc:=h242 ws [32] q2 aG q3) (ha:=fun _=>ak (fun d=>[d,D.str [32]]) (zC (q:=D.str) (fun _=>rfl) hp1)) (hp:=fun _=>⟨vB (q:=D.str) (fun _=>rfl) hp1,rfl,trivial⟩) ?_;refine dd (nx':=4) (v:=.any) (m':=ue m0 0 6 (t++aO [32] ws)) (hc:=fun K' hK=>h489 _ _ K' ⟨_,0,t,rfl,hp0,cz (by decide:0<3) (Nat.le_add_right _ _),q1,ae,hK⟩) (hn:=aG) ?_;refine aF ?_;refine dd (nx':=9) (v:=.any) (m':=ue (ue m0 0 6 (t++aO [32] ws)) 0 9 (t++aO [32] ws++[10])) (hc:=fun K' hK=>h664 _ _ K' ⟨10,0,t++aO [32] ws,rfl,acI aG,cz (by decide:0<8) (Nat.le_add_right _ _),aI,by rw[bH];exact q4,hK⟩) (hn:=aG) ?_;refine aE ?_

 refine ch trivial eP (cn ah (?_)) ah ⟨rfl,by rw[hlt];exact(A8 aG).1,by rw[hlt];exact(A8 aG).2⟩;rfl
noncomputable def R1:aN:=dy 58
def w682 {Y:Ctx}(hm:(Y.at 0).cP)(h819:YX Y)(s:av)  (hp0:s.length<=1048575):dX Y R1 (.tup [dZ.D ((pE s).getD fH),.int .i64 (if(pE s).isSome=true then 0 else 6)]) [.str s]:=by
 show cg _ _ _ [⟨_,_⟩,_,_,_,_,_,_,_,_] _;refine ay ?_;refine aQ ?_;refine au (hc:=h819 s ae) ?_;refine aE ?_;refine fJ (dZ.D _) ?_;refine aD ?_;refine aR (dZ.D ((jd s).getD fH)) (he:=aW) ?_;refine aQ ?_;refine di (fun hc0=>?_) fun hc0=>?_
 .refine aD ?_;refine cO (d:=dZ.D ((jd s).getD fH)) ?_;refine aK ?_;refine bT (aS ?_ (ak (D.int .i64) ?_));all_goals (have hn:pE s=jd s:=aC hc0;rw[hn];first|rfl|simp only[hc0,ba])
 refine aK ?_;refine dD (hb:=fun _=>dk) ?_;refine au (hc:=h819 (94::s) dk) ?_;refine aE ?_;refine fJ (dZ.D _) ?_;refine aD ?_;refine aR (dZ.D ((jd (94::s)).getD fH)) (he:=aW) ?_;refine aQ ?_;refine di (fun hc1=>?_) fun hc1=>?_
 .refine aD ?_;refine cO (d:=dZ.D ((jd (94::s)).getD fH)) ?_;refine aK ?_;refine bT (aS ?_ (ak (D.int .i64) ?_));all_goals (have hn:pE s=jd (94::s):=(by simp only[pE,hc0,gP,aZ]);rw[hn];first|rfl|simp only[hc1,ba])
 refine aD ?_;refine bj (dZ.D fH) ?_;refine aK ?_;refine bT (aS ?_ (ak (D.int .i64) ?_));all_goals (have hn:pE s=none:=(by simp only[pE,hc0,gP,aZ];exact Option.not_isSome_iff_eq_none.1 (by rw[hc1];simp));rw[hn];rfl)
end Go.Abs
