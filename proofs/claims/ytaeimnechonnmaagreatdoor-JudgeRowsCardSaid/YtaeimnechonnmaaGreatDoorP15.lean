/- A part of the proofs. -/
import Derived.Test.YtaeimnechonnmaaGreatDoorP06
set_option linter.all false
set_option maxRecDepth 4000
namespace Go.Abs
variable {Y:Ctx}(hm:(Y.at 0).cb)
def ph:aA:=⟨1,11,[⟨1,none⟩,⟨2,none⟩],[[.sl 14 [.a,.a,.a,.a,.a,.a,.a,.a,.a,.a,.a,.a,.a,.a]],[.a]],(sq (rg [gm (.c (.aC)),gm cJ] [(1,0),(2,1)]) (sq (sq (r1 [gm bJ] 3 0) (.block 0 (.loop (sq (sq (r1 [gm s3,gm s0,gl l1,aN l0 l2] 4 3) (fH s4 0)) (sq (.block 1 (sq (r1 [gm s0,gm s3,ga 14 l0 l1,gk 14 true l2,gx 1019 [l3] [[.a,.a,.a,.a,.a,.a,.a,.a,.a,.a,.a,.a,.a,.a]],jD l4] 5 5) (.cond s5 (sq (rg [gm (.c (.aC)),gm cJ] [(1,0),(2,1)]) .ret) .skip))) (r1 [gm s3,aR l0 cD,gm l1] 3 2)))))) (sq (r1 [gm (.c (.aC))] 10 0) (sq (r1 [gm s0,gx 919 [l0] [[.sl 14 [.a,.a,.a,.a,.a,.a,.a,.a,.a,.a,.a,.a,.a,.a]]],gm l1] 7 2) (sq (sq (r1 [gm bJ] 6 0) (.block 2 (.loop (sq (sq (r1 [gm s6,aR l0 cD,gm s7,gl l2,aN l1 l3] 8 4) (fH s8 2)) (sq (.block 3 (sq (r2 [gm s0,gm s7,gm s6,ga 7 l1 l2,gk 7 true l3,gm s7,gm s6,aR l6 cD,ga 7 l5 l7,gk 7 true l8,gx 920 [l0,l4,l9] [[.sl 14 [.a,.a,.a,.a,.a,.a,.a,.a,.a,.a,.a,.a,.a,.a]],[.a,.a,.a,.a,.a,.a,.a],[.a,.a,.a,.a,.a,.a,.a]]] 9 10) (.cond s9 (r2 [gm gu,gm s7,gm s6,ga 7 l1 l2,gk 7 true l3,gm s7,gm s6,aR l6 cD,ga 7 l5 l7,gk 7 true l8,gn (.callM 921 [l0,l4,l9]),gm l10] 10 11) .skip))) (r1 [gm s6,aR l0 cD,gm l1] 6 2)))))) (sq (rg [gm gu,gm l0,gm ma] [(1,1),(2,2)]) .ret))))))⟩
def w918 {Y:Ctx}(hm:(Y.at 1).cb)(l:List Span)(h919:Hg (Y.at 1))(h920:Hh (Y.at 1))(h921:EI (Y.at 1))(h1019:yL (Y.at 1))(hp0:bh l/\l.length<=2000):bO (Y.at 1) ph.body (oA ph (fun d _=>d=.tup [.sl 14 ((lH l).1.map Span.D),.bool (lH l).2]):Ex->List bz->St->Prop) (gv ph [.own 0 14 0 l.length]) ⟨1,[(0,.buf 14 (l.map Span.D))]⟩:=by
 show bO _ _ _ [⟨true,.own 0 14 0 l.length⟩,.un,.un,.un,.un,.un,.un,.un,.un,.un,.un] ⟨1,[(0,.buf 14 (l.map Span.D))]⟩;refine dE 0 ?_;show bO _ _ _ [⟨true,.sl 14 (l.map Span.D)⟩,.un,.un,.un,.un,.un,.un,.un,.un,.un,.un] ⟨1,[]⟩;refine aj ?_;refine cC ?_;refine bD hm (ι:=Nat) (fun i=>[⟨true,.sl 14 ((l).map Span.D)⟩,.un,.un,⟨true,.int .i64 (i:Nat)⟩,.un,.un,.un,.un,.un,.un,.un]) (fun i=>[]) 4 (fun i=>i<=l.length/\cv (fun i=>iD l[i]!) 0 l.length=cv (fun i=>iD l[i]!) i l.length) (fun i=>l.length-i) 0 ⟨ae,rfl⟩ (eo []) ?_;rintro i ⟨hi,hr⟩;refine aB ?_;intro u0;refine ax ?_;refine cF (fun hc0=>?_) fun hc0=>?_
 .refine aB ?_;refine ba (i) (hj:=fun hf=>by first|omega|(simp at hf;omega)) (hb:=fun hf=>by first|omega|(simp at hf;omega)) ?_;refine a7 (v:=Span.D ((l)[i]!)) (hi:=fun hf=>by first|omega|(simp at hf;omega)) ?_;refine al (hc:=h1019 ((l)[i]!) ?_) ?_;rotate_left;first|assumption|omega|exact⟨hp0.1,hcs _ (ak ae),hcs _ (ak ae)⟩|exact⟨hp0.1,ae⟩|exact hp0.1 _ (ak ae)
  refine ax ?_;refine eE (fun hc1=>?_) fun hc1=>?_
  .refine aE ?_;refine dH (aZ.nz _ [_,⟨true,.sl 14 []⟩,_,_,_,_,_,_,_,_,_] _ _ _ ⟨⟨rfl,.refl _⟩,⟨rfl,.nil 14⟩,⟨rfl,.refl _⟩,⟨rfl,.refl _⟩,⟨rfl,.refl _⟩,⟨rfl,.refl _⟩,⟨rfl,.refl _⟩,⟨rfl,.refl _⟩,⟨rfl,.refl _⟩,⟨rfl,.refl _⟩,⟨rfl,.refl _⟩,trivial⟩ jx.nil) ?_;refine aq ?_;refine iq trivial sK (ju ah (?_)) ah (by unfold lH;rw[ai (by rw[hr,aQ ae];simp_all)]);rfl
  refine aE ?_;refine aI (hb:=fun hf=>by first|omega|(simp at hf;omega)) ?_;refine aq ?_;exact⟨i+1,⟨ae,by rw[hr,aQ ae];simp_all⟩,ae,(eo [])⟩
 refine cC ?_;refine al (hc:=h919 (l) ?_) ?_;rotate_left;first|assumption|omega|exact⟨hp0.1,hcs _ (ak ae),hcs _ (ak ae)⟩|exact⟨hp0.1,ae⟩|exact hp0.1 _ (ak ae)
 refine aT ?_;have hcn:=me l;have hcs:=nP (l:=l) hp0.1;refine bD hm (ι:=Nat) (fun i=>[⟨true,.sl 14 ((l).map Span.D)⟩,.un,.un,.un,.un,.un,⟨true,.int .i64 (i:Nat)⟩,⟨true,.sl 7 (((b6 l)).map Cut.D)⟩,.un,.un,⟨true,.own 1 14 0 (dD (m7 l) (b6 l) i).length⟩]) (fun i=>[(1,.buf 14 ((dD (m7 l) (b6 l) i).map Span.D))]) 13 (fun i=>i<=(b6 l).length-1) (fun i=>(b6 l).length-i) 0 ae (aZ.to [] ah ah (by repeat(first|exact bA.nil|refine bA.un ?_|refine bA.eq ah ?_|refine bA.nl ah ah ?_|refine bA.ni (Or.inr ⟨_,_,_,rfl⟩) ?_)) (by repeat(first|exact aD.nil|refine aD.eM ah ah dY ?_|refine aD.dA ah ah ah ?_|refine aD.kN ah ah ah ah ?_|refine aD.mt ah ah ah ah ?_))) ?_;intro i hi;have hrl:=mz (p:=(m7 l)) (c:=b6 l) i;have hgl:=oO (dD (m7 l) (b6 l) i) (b6 l)[i]! (b6 l)[i+1]!;refine aq ?_;refine aI (hb:=fun hf=>by first|omega|(simp at hf;omega)) ?_;refine ax ?_;intro u1;refine ax ?_;refine cF (fun hc2=>?_) fun hc2=>?_
 .refine aq ?_;have hrs:bh (dD (m7 l) (b6 l) i):=lU hcs ae;refine aq ?_;refine ba (i) (hj:=fun hf=>by first|omega|(simp at hf;omega)) (hb:=fun hf=>by first|omega|(simp at hf;omega)) ?_;refine a7 (v:=Cut.D (((b6 l))[i]!)) (hi:=fun hf=>by first|omega|(simp at hf;omega)) ?_;refine ax ?_;refine aI (hb:=fun hf=>by first|omega|(simp at hf;omega)) ?_;refine ba ((i+1)) (hj:=fun hf=>by first|omega|(simp at hf;omega)) (hb:=fun hf=>by first|omega|(simp at hf;omega)) ?_;refine a7 (v:=Cut.D (((b6 l))[(i+1)]!)) (hi:=fun hf=>by first|omega|(simp at hf;omega)) ?_;refine al (hc:=h920 (l) (((b6 l))[i]!) (((b6 l))[(i+1)]!) ?_) ?_;rotate_left;first|assumption|omega|exact⟨hp0.1,hcs _ (ak ae),hcs _ (ak ae)⟩|exact⟨hp0.1,ae⟩|exact hp0.1 _ (ak ae)
  refine av ?_;refine wp_cond (fun hc3=>?_) (fun hc3=>?_)
  .have hg:jg (dD (m7 l) (b6 l) i) (b6 l)[i]! (b6 l)[i+1]! =(dD (m7 l) (b6 l) (i+1)):=by rw[dD,aw (by simpa using hc3)]
   refine aE ?_;refine ba (i) (hj:=fun hf=>by first|omega|(simp at hf;omega)) (hb:=fun hf=>by first|omega|(simp at hf;omega)) ?_;refine a7 (v:=Cut.D (((b6 l))[i]!)) (hi:=fun hf=>by first|omega|(simp at hf;omega)) ?_;refine ax ?_;refine aI (hb:=fun hf=>by first|omega|(simp at hf;omega)) ?_;refine ba ((i+1)) (hj:=fun hf=>by first|omega|(simp at hf;omega)) (hb:=fun hf=>by first|omega|(simp at hf;omega)) ?_;refine a7 (v:=Cut.D (((b6 l))[(i+1)]!)) (hi:=fun hf=>by first|omega|(simp at hf;omega)) ?_;refine iX (nx':=30) (v:=.own 39 14 0 (dD (m7 l) (b6 l) (i+1)).length) (m':=[(39,.buf 14 ((dD (m7 l) (b6 l) (i+1)).map Span.D))]) (hc:=fun K' hK=>h921 (dD (m7 l) (b6 l) i) (b6 l)[i]! (b6 l)[i+1]! ⟨⟨hrs,hcs _ (ak ae),hcs _ (ak ae)⟩,ae⟩ _ 1 _ K' ah sk (by rw[hg];exact hK)) (hn:=bV) ?_;refine aB ?_;refine aI (hb:=fun hf=>by first|omega|(simp at hf;omega)) ?_;refine aq ?_;exact⟨i+1,ae,ae,(aZ.to [(39,1)] ah ah (by repeat(first|exact bA.nil|refine bA.un ?_|refine bA.eq ah ?_|refine bA.nl ah ah ?_|refine bA.ni (Or.inr ⟨_,_,_,rfl⟩) ?_)) (by refine aD.nl 39 ah ah ah dY ?_;exact aD.nil))⟩
  have hg:(dD (m7 l) (b6 l) i)=(dD (m7 l) (b6 l) (i+1)):=by rw[dD,ai (by simpa using hc3)]
  refine aE ?_;refine aI (hb:=fun hf=>by first|omega|(simp at hf;omega)) ?_;refine aq ?_;rw[hg];exact⟨i+1,ae,ae,(aZ.to [(1,1)] ah ah (by repeat(first|exact bA.nil|refine bA.un ?_|refine bA.eq ah ?_|refine bA.nl ah ah ?_|refine bA.ni (Or.inr ⟨_,_,_,rfl⟩) ?_)) (by repeat(first|exact aD.nil|refine aD.eM ah ah dY ?_|refine aD.dA ah ah ah ?_|refine aD.kN ah ah ah ah ?_|refine aD.mt ah ah ah ah ?_)))⟩
 refine ax ?_;obtain rfl:i=(b6 l).length-1:=ae;refine dE 1 ?_;refine aT ?_;refine iq trivial sK (ju ah (?_)) ah (by unfold lH;rw[aw (by rw[hr,cw ae])]);rfl
def DS:aA:=⟨1,8,kV,[[.sl 14 [.a,.a,.a,.a,.a,.a,.a,.a,.a,.a,.a,.a,.a,.a]]],(sq (r1 [gm (.c (.aC))] 1 0) (sq (sq (r1 [gm s0,gx 916 [l0] [[.sl 14 [.a,.a,.a,.a,.a,.a,.a,.a,.a,.a,.a,.a,.a,.a]]],jD l1] 2 2) (.cond s2 (sq (r1 [gm (.c (.aC))] 1 0) .ret) .skip)) (sq (r1 [gm (.c (.aC))] 7 0) (sq (r1 [gm s0,gx 919 [l0] [[.sl 14 [.a,.a,.a,.a,.a,.a,.a,.a,.a,.a,.a,.a,.a,.a]]],gm l1] 4 2) (sq (sq (r1 [gm bJ] 3 0) (.block 0 (.loop (sq (sq (r1 [gm s3,aR l0 cD,gm s4,gl l2,aN l1 l3] 5 4) (fH s5 0)) (sq (.block 1 (sq (r2 [gm s0,gm s4,gm s3,ga 7 l1 l2,gk 7 true l3,gm s4,gm s3,aR l6 cD,ga 7 l5 l7,gk 7 true l8,gx 920 [l0,l4,l9] [[.sl 14 [.a,.a,.a,.a,.a,.a,.a,.a,.a,.a,.a,.a,.a,.a]],[.a,.a,.a,.a,.a,.a,.a],[.a,.a,.a,.a,.a,.a,.a]],jD l10] 6 11) (.cond s6 (r2 [gm s7,gm s4,gm s3,ga 7 l1 l2,gk 7 true l3,gm s4,gm s3,aR l6 cD,ga 7 l5 l7,gk 7 true l8,gn (.callM 921 [l0,l4,l9]),gm l10] 7 11) .skip))) (r1 [gm s3,aR l0 cD,gm l1] 3 2)))))) (sq (r1 [gm s7,gm l0] 1 1) .ret))))))⟩
def w772 (h916:Cc Y)(h919:Hg Y)(h920:Hh Y)(h921:EI Y)(l:List Span)  (hp0:bh l/\l.length<=2000):dj Y DS (.sl 14 ((pZ l).map Span.D)) [.sl 14 (l.map Span.D)]:=by
 show bO _ _ _ [⟨_,_⟩,_,_,_,_,_,_,_] _;refine aj ?_;refine aB ?_;refine al (hc:=h916 (l) ?_) ?_;rotate_left;first|assumption|omega|exact⟨hp0.1,hcs _ (ak ae),hcs _ (ak ae)⟩|exact⟨hp0.1,ae⟩|exact hp0.1 _ (ak ae)|exact hp0.1
 refine ax ?_;refine cF (fun hc0=>?_) fun hc0=>?_
 .refine aB ?_;refine cT (?_);unfold pZ;rw[aw (by simp_all)];rfl
 refine aT ?_;refine al (hc:=h919 (l) ?_) ?_;rotate_left;first|assumption|omega|exact⟨hp0.1,hcs _ (ak ae),hcs _ (ak ae)⟩|exact⟨hp0.1,ae⟩|exact hp0.1 _ (ak ae)|exact hp0.1
 refine aT ?_;have hcn:=me l;have hcs:=nP (l:=l) hp0.1;refine bD hm (ι:=Nat) (fun i=>[⟨true,.sl 14 ((l).map Span.D)⟩,.un,.un,⟨true,.int .i64 (i:Nat)⟩,⟨true,.sl 7 (((b6 l)).map Cut.D)⟩,.un,.un,⟨true,.own 0 14 0 (dD (fun x y=>!m7 l x y) (b6 l) i).length⟩]) (fun i=>[(0,.buf 14 ((dD (fun x y=>!m7 l x y) (b6 l) i).map Span.D))]) 9 (fun i=>i<=(b6 l).length-1) (fun i=>(b6 l).length-i) 0 ae (aZ.to [] ah ah (by repeat(first|exact bA.nil|refine bA.un ?_|refine bA.eq ah ?_|refine bA.nl ah ah ?_|refine bA.ni (Or.inr ⟨_,_,_,rfl⟩) ?_)) (by repeat(first|exact aD.nil|refine aD.eM ah ah dY ?_|refine aD.dA ah ah ah ?_|refine aD.kN ah ah ah ah ?_|refine aD.mt ah ah ah ah ?_))) ?_;intro i hi;have hrl:=mz (p:=(fun x y=>!m7 l x y)) (c:=b6 l) i;have hgl:=oO (dD (fun x y=>!m7 l x y) (b6 l) i) (b6 l)[i]! (b6 l)[i+1]!;refine aq ?_;refine aI (hb:=fun hf=>by first|omega|(simp at hf;omega)) ?_;refine ax ?_;intro u0;refine ax ?_;refine cF (fun hc1=>?_) fun hc1=>?_
 .refine aq ?_;have hrs:bh (dD (fun x y=>!m7 l x y) (b6 l) i):=lU hcs ae;refine aq ?_;refine ba (i) (hj:=fun hf=>by first|omega|(simp at hf;omega)) (hb:=fun hf=>by first|omega|(simp at hf;omega)) ?_;refine a7 (v:=Cut.D (((b6 l))[i]!)) (hi:=fun hf=>by first|omega|(simp at hf;omega)) ?_;refine ax ?_;refine aI (hb:=fun hf=>by first|omega|(simp at hf;omega)) ?_;refine ba ((i+1)) (hj:=fun hf=>by first|omega|(simp at hf;omega)) (hb:=fun hf=>by first|omega|(simp at hf;omega)) ?_;refine a7 (v:=Cut.D (((b6 l))[(i+1)]!)) (hi:=fun hf=>by first|omega|(simp at hf;omega)) ?_;refine al (hc:=h920 (l) (((b6 l))[i]!) (((b6 l))[(i+1)]!) ?_) ?_;rotate_left;first|assumption|omega|exact⟨hp0.1,hcs _ (ak ae),hcs _ (ak ae)⟩|exact⟨hp0.1,ae⟩|exact hp0.1 _ (ak ae)|exact hp0.1
  refine ax ?_;refine wp_cond (fun hc2=>?_) (fun hc2=>?_)
  .have hg:jg (dD (fun x y=>!m7 l x y) (b6 l) i) (b6 l)[i]! (b6 l)[i+1]! =(dD (fun x y=>!m7 l x y) (b6 l) (i+1)):=by rw[dD,aw (by simpa using hc2)]
   refine aE ?_;refine ba (i) (hj:=fun hf=>by first|omega|(simp at hf;omega)) (hb:=fun hf=>by first|omega|(simp at hf;omega)) ?_;refine a7 (v:=Cut.D (((b6 l))[i]!)) (hi:=fun hf=>by first|omega|(simp at hf;omega)) ?_;refine ax ?_;refine aI (hb:=fun hf=>by first|omega|(simp at hf;omega)) ?_;refine ba ((i+1)) (hj:=fun hf=>by first|omega|(simp at hf;omega)) (hb:=fun hf=>by first|omega|(simp at hf;omega)) ?_;refine a7 (v:=Cut.D (((b6 l))[(i+1)]!)) (hi:=fun hf=>by first|omega|(simp at hf;omega)) ?_;refine iX (nx':=27) (v:=.own 36 14 0 (dD (fun x y=>!m7 l x y) (b6 l) (i+1)).length) (m':=[(36,.buf 14 ((dD (fun x y=>!m7 l x y) (b6 l) (i+1)).map Span.D))]) (hc:=fun K' hK=>h921 (dD (fun x y=>!m7 l x y) (b6 l) i) (b6 l)[i]! (b6 l)[i+1]! ⟨⟨hrs,hcs _ (ak ae),hcs _ (ak ae)⟩,ae⟩ _ 0 _ K' ah sk (by rw[hg];exact hK)) (hn:=bV) ?_;refine aB ?_;refine aI (hb:=fun hf=>by first|omega|(simp at hf;omega)) ?_;refine aq ?_;exact⟨i+1,ae,ae,(aZ.to [(36,0)] ah ah (by repeat(first|exact bA.nil|refine bA.un ?_|refine bA.eq ah ?_|refine bA.nl ah ah ?_|refine bA.ni (Or.inr ⟨_,_,_,rfl⟩) ?_)) (by refine aD.nl 36 ah ah ah dY ?_;exact aD.nil))⟩
  have hg:(dD (fun x y=>!m7 l x y) (b6 l) i)=(dD (fun x y=>!m7 l x y) (b6 l) (i+1)):=by rw[dD,ai (by simpa using hc2)]
  refine aE ?_;refine aI (hb:=fun hf=>by first|omega|(simp at hf;omega)) ?_;refine aq ?_;rw[hg];exact⟨i+1,ae,ae,(aZ.to [(0,0)] ah ah (by repeat(first|exact bA.nil|refine bA.un ?_|refine bA.eq ah ?_|refine bA.nl ah ah ?_|refine bA.ni (Or.inr ⟨_,_,_,rfl⟩) ?_)) (by repeat(first|exact aD.nil|refine aD.eM ah ah dY ?_|refine aD.dA ah ah ah ?_|refine aD.kN ah ah ah ah ?_|refine aD.mt ah ah ah ah ?_)))⟩
 refine ax ?_;obtain rfl:i=(b6 l).length-1:=ae;refine dE 0 ?_;refine aB ?_;refine cT (?_);unfold pZ;rw[ai (by simp_all)];rfl
def yh:aA:=⟨1,2,kV,cU,(sq (r1 [gm cJ] 1 0) (sq (r1 [gm s0,lJ l0 (i8 48),gm l1,gmt 2 s0,bS 2 (sS l3 (i8 57)),eP l2 l4,gm l5] 1 6) .ret))⟩
def w454 {Y:Ctx}(hm:(Y.at 0).cb)  (c:Int)   :dj Y yh (.bool (cH c)) [.int .u8 c]:=by
 show bO _ _ _ [⟨_,_⟩,_] _;refine aj ?_;refine iE ?_;exact aY rfl
def wA:aA:=⟨1,9,[⟨1,none⟩,⟨2,none⟩],j9,(sq (rg [gm bJ,gm cJ] [(1,0),(2,1)]) (sq (sq (r1 [gm s0,Ff l0,aN l1 cD,gm l2,eh 3 s0,cg 3 (.lenS l4),cg 3 (dN l5 ic9),eg l3 l6,gm l7,eh 8 s0,cg 8 (.lenS l9),cg 8 (dN l10 cD),eh 8 gw,gmt 12 s0,bS 12 (.ixS iL bJ),bS 12 (dU jy (i8 48)),sC 8 ik jZ,eg l8 kU] 3 17) (.cond s3 (sq (rg [gm bJ,gm cJ] [(1,0),(2,1)]) .ret) .skip)) (sq (r1 [gm bJ] 7 0) (sq (sq (r1 [gm bJ] 4 0) (.block 0 (.loop (sq (sq (r1 [gm s4,gm s0,Ff l1,aN l0 l2] 5 3) (fH s5 0)) (sq (.block 1 (sq (sq (r1 [gm s0,gm s4,HK l0 l1,gx 454 [l2] cU,jD l3] 6 4) (.cond s6 (sq (rg [gm bJ,gm cJ] [(1,0),(2,1)]) .ret) .skip)) (r1 [gm s7,gn (.bin .mul l0 (i6 10)),gm s0,gm s4,HK l2 l3,jk l4 (i8 48),gn (.cvi .i64 l5),aR l1 l6,gm l7] 7 8))) (r1 [gm s4,aR l0 cD,gm l1] 4 2)))))) (sq (sq (r1 [gm s7,ey l0 (i6 9999)] 8 1) (.cond s8 (sq (rg [gm bJ,gm cJ] [(1,0),(2,1)]) .ret) .skip)) (sq (rg [gm s7,gm l0,gm ma] [(1,1),(2,2)]) .ret))))))⟩
def w667 (h454:Jc Y)(s:cV)   :dj Y wA (.tup [.int .i64 (p0 s),.bool (iG s)]) [.str s]:=by
 show bO _ _ _ [⟨_,_⟩,_,_,_,_,_,_,_,_] _;refine aj ?_;refine cC ?_;intro u0;refine aq ?_;refine jv ?_;refine aE ?_;refine jv ?_;refine aq ?_;refine DA 0 ?_;refine aE ?_;refine cF (fun hc0=>?_) fun hc0=>?_
 .refine aT ?_;refine cT (dn (bw (D.int .i64) ?_) (bw D.bool ?_));all_goals
   have:iG s=false:=by
    simp only[iG];rcases hc0 with(h|h)|h
    .rw[df (by omega:¬1<=s.length)];rfl
    .rw[df (by omega:¬s.length<=9)];simp
    .rw[cB (by omega:1<s.length),cB h.2];simp
   simp[p0,this]
 refine gR ?_;have hP:iG s=(cv (fun i=>cH (at8 s i)) 0 s.length&&decide (dC s<=9999)):=by
  simp only[iG];rw[cB (by omega:1<=s.length),cB (by omega:s.length<=9)];rcases hc0.2 with h|h
  .rw[df (by omega:¬1<s.length)];rfl
  .rw[df h,Bool.and_false];rfl
 refine bD hm (ι:=Nat) (fun i=>[⟨true,.str s⟩,.un,.un,.un,⟨true,.int .i64 (i:Nat)⟩,.un,.un,⟨true,.int .i64 (dC (s.take i):Nat)⟩,.un]) (fun i=>[]) 22 (fun i=>i<=s.length/\s.length<=9/\iG s=(cv (fun i=>cH (at8 s i)) i s.length&&decide (dC s<=9999))) (fun i=>s.length-i) 0 ⟨ae,ae,hP⟩ (eo []) ?_;rintro i ⟨hi,h9,hr⟩;refine aB ?_;intro u1;refine ax ?_;refine cF (fun hc1=>?_) fun hc1=>?_
 .refine cC ?_;refine al (hc:=h454 _) ?_;refine ax ?_;refine b8 (fun hc2=>?_) (fun hc2=>?_)
  .try simp only[tW]at hc2
   refine gR ?_;refine cT (dn (bw (D.int .i64) ?_) (bw D.bool ?_));all_goals
    have:iG s=false:=by rw[hr,aQ ae,hc2];rfl
    simp[p0,this]
  simp only[oy]at hc2;refine ax ?_;have h48:=hc2;simp only[cH,cj,dI]at h48;have hn:=n7 s i ae;have hn2:=pG s i ae;have h256:=Cq s i;refine av ?_;refine uL ?_;refine aq ?_;refine DI (at8 s i-48) (hb:=fun _=>IntWalk.u8_in _ ae) ?_;refine wo (at8 s i-48) (hb:=fun _=>IntWalk.i64_in _ ae) ?_;refine aq ?_;rw[show(dC (s.take i):Int)*10+(at8 s i-48)=(dC (s.take (i+1)):Nat)by omega];refine cC ?_;exact⟨i+1,⟨ae,h9,by rw[hr,aQ ae,hc2];rfl⟩,ae,(eo [])⟩
 refine aE ?_;have ht:s.take i=s:=ic ae;rw[ht];refine aq ?_;refine cF (fun hc3=>?_) fun hc3=>?_
 .refine aT ?_;refine cT (dn (bw (D.int .i64) ?_) (bw D.bool ?_));all_goals
   have:iG s=false:=by rw[hr,df ae,Bool.and_false]
   simp[p0,this]
 refine cC ?_;refine cT (dn (bw (D.int .i64) ?_) (bw D.bool ?_));all_goals
  have:iG s=true:=by rw[hr,cw ae,cB ae];rfl
  simp[p0,this]
def uQ:aA:=⟨1,5,kV,cU,(sq (r1 [gm cJ] 1 0) (sq (sq (r1 [gm bJ] 2 0) (.block 0 (.loop (sq (sq (r1 [gm s2,gm s0,Ff l1,aN l0 l2] 3 3) (fH s3 0)) (sq (.block 1 (sq (r1 [gm s0,gm s2,HK l0 l1,aN l2 (i8 48),gm l3,eh 4 s0,eh 4 s2,cg 4 (.ixS l5 l6),cg 4 (dN l7 (i8 57)),eg l4 l8] 4 9) (vH s4 cJ))) (r1 [gm s2,aR l0 cD,gm l1] 2 2)))))) (sq (r1 [gm s0,Ff l0,ey l1 bJ,gm l2] 1 3) .ret)))⟩
def w668  (t:cV)   :dj Y uQ (.bool (b7 t)) [.str t]:=by
 show bO _ _ _ [⟨_,_⟩,_,_,_,_] _;refine aj ?_;refine aT ?_;refine bD hm (ι:=Nat) (fun i=>[⟨true,.str t⟩,.un,⟨true,.int .i64 (i:Nat)⟩,.un,.un]) (fun i=>[]) 2 (fun i=>i<=t.length/\cv (fun i=>cH (at8 t i)) 0 t.length=cv (fun i=>cH (at8 t i)) i t.length) (fun i=>t.length-i) 0 ⟨ae,rfl⟩ (eo []) ?_;rintro i ⟨hi,hr⟩;refine aB ?_;intro u0;refine ax ?_;refine cF (fun hc0=>?_) fun hc0=>?_
 .refine GP ?_;refine eE (fun hc1=>?_) fun hc1=>?_
  .refine aT ?_;refine aY ?_;simp only[b7];rw[hr,aQ ae];rcases hc1 with h|h<;>simp[cH]<;>omega
  refine gR ?_;exact⟨i+1,⟨ae,by rw[hr,aQ ae];rw[show cH (at8 t i)=true by simp only[cH,cj,dI];omega];rfl⟩,ae,(eo [])⟩
 refine aB ?_;intro u1;refine aE ?_;refine aY ?_;simp only[b7];rw[hr,cw ae];simp
def DO:aA:=⟨1,7,kV,cU,(sq (r1 [gm cJ] 1 0) (sq (sq (r1 [gm s0,Ff l0,aN l1 cD,gm l2,eh 3 s0,cg 3 (.lenS l4),cg 3 (dN l5 ic8),eg l3 l6] 2 7) (vH s2 cJ)) (sq (sq (r1 [gm bJ] 3 0) (.block 0 (.loop (sq (sq (r1 [gm s3,gm s0,Ff l1,aN l0 l2] 4 3) (fH s4 0)) (sq (.block 1 (sq (r1 [gm s0,gm s3,HK l0 l1,gm l2] 5 3) (sq (r1 [gm s5,aN l0 (i8 97),gm l1,eh 2 s5,cg 2 (dN l3 (i8 122)),eg l2 l4,gm l5,gmt 6 s5,bS 6 (iJ l7 (i8 48)),gmt 6 l8,eh 9 s5,cg 9 (dN l10 (i8 57)),HL 6 l9 gw,eP l6 ik,gm iL,gmt 14 s5,bS 14 (fL jZ (i8 45)),eP jy kU] 6 17) (vH s6 cJ)))) (r1 [gm s3,aR l0 cD,gm l1] 3 2)))))) (CU ma))))⟩
def w666  (t:cV)   :dj Y DO (.bool (mG t)) [.str t]:=by
 show bO _ _ _ [⟨_,_⟩,_,_,_,_,_,_] _;refine aj ?_;refine aT ?_;intro u0;refine aq ?_;refine jv ?_;refine aq ?_;refine cF (fun hc0=>?_) fun hc0=>?_
 .refine aB ?_;refine aY ?_;symm;simp only[mG,hZ,fo];exact Or.inl ae
 refine aB ?_;refine bD hm (ι:=Nat) (fun i=>[⟨true,.str t⟩,.un,.un,⟨true,.int .i64 (i:Nat)⟩,.un,.un,.un]) (fun i=>[]) 10 (fun i=>i<=t.length/\mG t=cv (fun i=>jd (at8 t i)) i t.length) (fun i=>t.length-i) 0 ⟨ae,by simp only[mG];rw[cB ae,cB ae];rfl⟩ (eo []) ?_;rintro i ⟨hi,hr⟩;refine aB ?_;intro u1;refine ax ?_;refine cF (fun hc1=>?_) fun hc1=>?_
 .refine LV ?_;refine eE (fun hc2=>?_) fun hc2=>?_
  .refine aT ?_;refine aY ?_;rw[hr,aQ ae];have:jd (at8 t i)=false:=(by simp only[jd,xX,cH,nD,hZ,fo];omega);rw[this];rfl
  refine gR ?_;exact⟨i+1,⟨ae,by rw[hr,aQ ae];have:jd (at8 t i)=true:=(by simp only[jd,xX,cH,ib,cj,dI];omega);rw[this];rfl⟩,ae,(eo [])⟩
 refine aT ?_;refine aY ?_;rw[hr,cw ae]
def BH:aA:=⟨2,11,[⟨2,none⟩],cU,(sq (r1 [gm cJ] 2 0) (sq (sq (r1 [gm s0,bL l0 cse] 3 1) (.cond s3 (sq (r1 [gm ma] 2 0) .ret) .skip)) (sq (r1 [gm s0,gx 470 [l0,(i8 46)] j9,gm l1] 4 2) (sq (sq (r1 [gm s4,gl l0,ey l1 HP] 5 2) (.cond s5 (sq (r1 [gm cJ] 2 0) .ret) .skip)) (sq (sq (r1 [gm bJ] 6 0) (.block 0 (.loop (sq (sq (r1 [gm s6,gm s4,gl l1,aN l0 l2] 7 3) (fH s7 0)) (sq (.block 1 (sq (sq (r1 [gm s4,gm s6,ga 1 l0 l1,gd l2,gx 666 [l3] cU,jD l4] 8 5) (.cond s8 (sq (r1 [gm cJ] 2 0) .ret) .skip)) (sq (r1 [gm s4,gm s6,ga 1 l0 l1,gd l2,gx 667 [l3] cU,gm l4,ge l5 0,ge l5 1,gm l6,gm l7] 9 9) (sq (r1 [gm s1,gm l0,gmt 1 s4,gmt 1 s6,bS 1 (.ia 1 l2 l3),gS 1 l4,bS 1 (.call 668 [l5] cU),eP l1 l6,gm l7,gmt 8 s9,bS 8 (.un .not l9),eP l8 l10] 10 11) (.cond gu (sq (r1 [gm cJ] 2 0) .ret) .skip))))) (r1 [gm s6,aR l0 cD,gm l1] 6 2)))))) (sq (r1 [gm ma] 2 0) .ret))))))⟩
def w456 (h470:G3 Y)(h666:Jw Y)(h667:Hb Y)(h668:Hc Y)(s:cV)(p:Bool)  (hp0:s.length<=1048576):dj Y BH (.bool (pL s p)) [.str s,.bool p]:=by
 show bO _ _ _ [⟨_,_⟩,⟨_,_⟩,_,_,_,_,_,_,_,_,_] _;refine aj ?_;refine cC ?_;refine cF (fun hc0=>?_) fun hc0=>?_
 .refine aB ?_;refine aY ?_;simp[pL,hc0]
 refine aq ?_;refine al (hc:=h470 _ _ ?_) ?_;rotate_left;first|assumption|omega;have hlen:=nw s 46
 refine aT ?_;intro u0;refine ax ?_;refine b8 (fun hc1=>?_) (fun hc1=>?_)
 .try simp only[tW]at hc1
  refine aB ?_;refine aY ?_;simp only[pL,j6];rw[df hc0,df ae];rfl
 simp only[fo]at hc1;refine aB ?_;refine bD hm (ι:=Nat) (fun i=>[⟨true,.str s⟩,⟨true,.bool p⟩,.un,.un,⟨true,.sl 1 ((bg s 46).map D.str)⟩,.un,⟨true,.int .i64 (i:Nat)⟩,.un,.un,.un,.un]) (fun i=>[]) 10 (fun i=>i<=(bg s 46).length/\pL s p=cv (fun i=>eV p (bg s 46)[i]!) i (bg s 46).length) (fun i=>(bg s 46).length-i) 0 ⟨ae,by simp only[pL,j6];rw[df hc0,cB ae];rfl⟩ (eo []) ?_;rintro i ⟨hi,hr⟩;refine aB ?_;intro u1;refine ax ?_;refine cF (fun hc2=>?_) fun hc2=>?_
 .refine gR ?_;refine al (hc:=h666 _) ?_;refine ax ?_;refine b8 (fun hc3=>?_) (fun hc3=>?_)
  .simp only[eB]at hc3;refine cC ?_;refine aY ?_;rw[hr,aQ ae];simp only[eV,hc3];rfl
  simp only[oy]at hc3;refine aT ?_;refine al (hc:=h667 _) ?_;refine Eo ?_;refine al (hc:=h668 _) ?_;refine aT ?_;refine wp_cond (fun hc4=>?_) (fun hc4=>?_)
  .skip
   refine aT ?_;refine aY ?_;have h5:eV p (bg s 46)[i]! =false:=(by simp only[eV,hc3];revert hc4;generalize b7 (bg s 46)[i]! =a;generalize iG (bg s 46)[i]! =b;cases p<;>cases a<;>cases b<;>simp);rw[hr,aQ ae,h5];rfl
  skip
  refine gR ?_;exact⟨i+1,⟨ae,by rw[hr,aQ ae];have h5:eV p (bg s 46)[i]! =true:=(by simp only[eV,hc3];revert hc4;generalize b7 (bg s 46)[i]! =a;generalize iG (bg s 46)[i]! =b;cases p<;>cases a<;>cases b<;>simp);rw[h5];rfl⟩,ae,(eo [])⟩
 refine aT ?_;refine aY ?_;rw[hr,cw ae]
def DM:aA:=⟨1,2,kV,cU,(sq (r1 [gm cJ] 1 0) (sq (r1 [gm s0,lJ l0 bJ,gm l1,gmt 2 s0,bS 2 (sS l3 (i6 9999)),eP l2 l4,gm l5] 1 6) .ret))⟩
def w455 {Y:Ctx}(hm:(Y.at 0).cb)  (n:Int)   :dj Y DM (.bool (xG n)) [.int .i64 n]:=by
 show bO _ _ _ [⟨_,_⟩,_] _;refine aj ?_;refine iE ?_;exact aY rfl
def DL:aA:=⟨1,3,kV,cU,(sq (rg [gb 5 s0,gm cJ] [(2,0),(1,1)]) (sq (r1 [gf 0 s2,gd l0,gx 455 [l1] cU,gm l2,ew 3 1 s2,gS 3 l4,bS 3 (.call 455 [l5] cU),eP l3 l6,gm l7,ew 8 2 s2,gS 8 l9,bS 8 (.call 455 [l10] cU),eP l8 gw,gm ik,ew 13 3 s2,gS 13 jy,bS 13 (.call 456 [jZ,ma] j9),eP iL kU,gm oz,ew 18 4 s2,gS 18 uu,bS 18 (.call 456 [vQ,cJ] j9),eP qp xO,gm xP] 1 23) .ret))⟩
def w217 {Y:Ctx}(hm:(Y.at 0).cb)(h455:Jd Y)(h456:Je Y)(v:aU)  (hp0:v.sm):dj Y DL (.bool (hY v)) [aU.D v]:=by
 show bO _ _ _ [⟨_,_⟩,_,_] _;refine aj ?_;refine aT ?_;refine al (hc:=h455 _) ?_;refine aq ?_;refine al (hc:=h455 _) ?_;refine aE ?_;refine al (hc:=h455 _) ?_;refine aE ?_;refine bp (hc:=fun hf=>h456 v.pre true hp0.1) ?_;refine aE ?_;refine bp (hc:=fun hf=>h456 v.build false hp0.2) ?_;refine aE ?_;exact aY rfl
def BD:aA:=⟨2,5,[⟨2,none⟩],cU,(sq (r1 [gm bJ] 2 0) (sq (.block 0 (sq (r1 [gm s0,gm s1,aN l0 l1,gm l2] 3 3) (.cond s3 (sq (r1 [gn (.mv (.c (.int .i64 (-1))))] 2 0) .ret) (sq (r1 [gm s0,gm s1,ey l0 l1,gm l2] 4 3) (.cond s4 (sq (r1 [gm cD] 2 0) .ret) .skip))))) (sq (r1 [gm bJ] 2 0) .ret)))⟩
def w630 {Y:Ctx}(hm:(Y.at 0).cb)  (a:Int)(b:Int)   :dj Y BD (.int .i64 (cK a b)) [.int .i64 a,.int .i64 b]:=by
 show bO _ _ _ [⟨_,_⟩,⟨_,_⟩,_,_,_] _;refine aj ?_;refine iI ?_;refine eE (fun hc0=>?_) fun hc0=>?_
 .refine aB ?_;refine cI ?_;unfold cK;rw[aw hc0]
 refine aT ?_;refine eE (fun hc1=>?_) fun hc1=>?_
 .refine aB ?_;refine cI ?_;unfold cK;rw[ai hc0,aw hc1]
 refine aT ?_;refine cI ?_;unfold cK;rw[ai hc0,ai hc1]
def yn:aA:=⟨2,5,[⟨2,none⟩],cU,(sq (r1 [gm bJ] 2 0) (sq (.block 0 (sq (r1 [gm s0,gm s1,aN l0 l1,gm l2] 3 3) (.cond s3 (sq (r1 [gn (.mv (.c (.int .i64 (-1))))] 2 0) .ret) (sq (r1 [gm s0,gm s1,ey l0 l1,gm l2] 4 3) (.cond s4 (sq (r1 [gm cD] 2 0) .ret) .skip))))) (sq (r1 [gm bJ] 2 0) .ret)))⟩
def w927 {Y:Ctx}(hm:(Y.at 0).cb)  (a:cV)(b:cV)   :dj Y yn (.int .i64 (jz a b)) [.str a,.str b]:=by
 show bO _ _ _ [⟨_,_⟩,⟨_,_⟩,_,_,_] _;refine aj ?_;refine iI ?_;refine eE (fun hc0=>?_) fun hc0=>?_
 .refine aB ?_;refine cI ?_;simp[jz,hc0]
 refine aT ?_;refine eE (fun hc1=>?_) fun hc1=>?_
 .refine aB ?_;refine cI ?_;simp_all[jz]
 refine aT ?_;refine cI ?_;simp_all[jz]
def DN:aA:=⟨2,10,[⟨2,none⟩],cU,(sq (r1 [gm bJ] 2 0) (sq (rg [gm s0,gx 668 [l0] cU,gm s1,gx 668 [l2] cU,gm l1,gm l3] [(3,4),(4,5)]) (sq (.block 0 (sq (r1 [gm s3,gm l0,gmt 1 s4,eP l1 l2,gm l3] 5 4) (.cond s5 (sq (r1 [gm s0,gx 667 [l0] cU,gm l1,ge l2 0,ge l2 1,gm l3,gm l4] 6 5) (sq (r1 [gm s1,gx 667 [l0] cU,gm l1,ge l2 0,ge l2 1,gm l3,gm l4] 7 5) (sq (r1 [gm s6,gm s7,gx 630 [l0,l1] j9,gm l2] 2 3) .ret))) (sq (r1 [gm s3,gm l0] 8 1) (.cond s8 (sq (r1 [gn (.mv (.c (.int .i64 (-1))))] 2 0) .ret) (sq (r1 [gm s4,gm l0] 9 1) (.cond s9 (sq (r1 [gm cD] 2 0) .ret) .skip))))))) (sq (r1 [gm s0,gm s1,gx 927 [l0,l1] j9,gm l2] 2 3) .ret))))⟩
def w783 {Y:Ctx}(hm:(Y.at 0).cb)(h630:B9 Y)(h667:Hb Y)(h668:Hc Y)(h927:JQ Y)(a:cV)(b:cV)   :dj Y DN (.int .i64 (mH a b)) [.str a,.str b]:=by
 show bO _ _ _ [⟨_,_⟩,⟨_,_⟩,_,_,_,_,_,_,_,_] _;refine aj ?_;refine aE ?_;refine al (hc:=h668 _) ?_;refine av ?_;refine al (hc:=h668 _) ?_;refine xm ?_;refine eE (fun hc0=>?_) fun hc0=>?_
 .refine ax ?_;refine al (hc:=h667 _) ?_;refine gR ?_;refine al (hc:=h667 _) ?_;refine iI ?_;refine al (hc:=h630 _ _) ?_;refine aE ?_;refine cI ?_;unfold mH;rw[aw hc0]
 refine aE ?_;refine eE (fun hc1=>?_) fun hc1=>?_
 .refine aB ?_;refine cI ?_;have hn:¬(b7 a=true/\b7 b=true):=by rintro⟨h1,h2⟩;simp[h1,h2]at hc0
  unfold mH;rw[ai hn];rw[aw hc1]
 refine aE ?_;refine eE (fun hc2=>?_) fun hc2=>?_
 .refine aB ?_;refine cI ?_;have hn:¬(b7 a=true/\b7 b=true):=by rintro⟨h1,h2⟩;simp[h1,h2]at hc0
  unfold mH;rw[ai hn];rw[ai (by simp[hc1]),aw hc2]
 refine aB ?_;refine al (hc:=h927 _ _) ?_;refine aq ?_;refine cI ?_;have hn:¬(b7 a=true/\b7 b=true):=by rintro⟨h1,h2⟩;simp[h1,h2]at hc0
 unfold mH;rw[ai hn];rw[ai (by simp[hc1]),ai (by simp[hc2])]
def BG:aA:=⟨2,12,[⟨2,none⟩],cU,(sq (r1 [gm bJ] 2 0) (sq (.block 0 (sq (r1 [gm s0,gm s1,bL l0 l1,gm l2] 3 3) (.cond s3 (sq (r1 [gm bJ] 2 0) .ret) (sq (r1 [gm s0,bL l0 cse,gm l1] 4 2) (.cond s4 (sq (r1 [gm cD] 2 0) .ret) (sq (r1 [gm s1,bL l0 cse,gm l1] 5 2) (.cond s5 (sq (r1 [gn (.mv (.c (.int .i64 (-1))))] 2 0) .ret) .skip))))))) (sq (rg [gm s0,gx 470 [l0,(i8 46)] j9,gm s1,gx 470 [l2,(i8 46)] j9,gm l1,gm l3] [(7,4),(8,5)]) (sq (sq (r1 [gm bJ] 6 0) (.block 1 (.loop (sq (sq (r1 [gm s6,gm s7,gl l1,aN l0 l2,gm l3,gmt 4 s6,gmt 4 s8,bS 4 (.len l6),bS 4 (iJ l5 l7),eP l4 l8] 9 9) (fH s9 1)) (sq (.block 2 (sq (r2 [gm s7,gm s6,ga 1 l0 l1,gd l2,gm s8,gm s6,ga 1 l4 l5,gd l6,gx 783 [l3,l7] j9,gm l8] 10 9) (sq (r1 [gm gu,dm l0 bJ] 11 1) (.cond oc (sq (r1 [gm gu,gm l0] 2 1) .ret) .skip)))) (r1 [gm s6,aR l0 cD,gm l1] 6 2)))))) (sq (r1 [gm s7,gl l0,gm s8,gl l2,gx 630 [l1,l3] j9,gm l4] 2 5) .ret)))))⟩
def w631 (h470:G3 Y)(h630:B9 Y)(h783:JH Y)(a:cV)(b:cV)  (hp0:a.length<=1048576/\b.length<=1048576):dj Y BG (.int .i64 (pd a b)) [.str a,.str b]:=by
 show bO _ _ _ [⟨_,_⟩,⟨_,_⟩,_,_,_,_,_,_,_,_,_,_] _;refine aj ?_;refine iI ?_;refine eE (fun hc0=>?_) fun hc0=>?_
 .refine aB ?_;refine cI ?_;unfold pd;rw[aw hc0]
 refine aB ?_;refine eE (fun hc1=>?_) fun hc1=>?_
 .refine aB ?_;refine cI ?_;unfold pd;rw[ai hc0,aw hc1]
 refine aB ?_;refine eE (fun hc2=>?_) fun hc2=>?_
 .refine aB ?_;refine cI ?_;unfold pd;rw[ai hc0,ai hc1,aw hc2]
 refine aE ?_;refine al (hc:=h470 a 46 hp0.1) ?_;refine av ?_;refine al (hc:=h470 b 46 hp0.2) ?_;refine cC ?_;refine bD hm (ι:=Nat) (fun i=>[.un,.un,.un,.un,.un,.un,⟨true,.int .i64 (i:Nat)⟩,⟨true,.sl 1 ((bg a 46).map D.str)⟩,⟨true,.sl 1 ((bg b 46).map D.str)⟩,.un,.un,.un]) (fun i=>[]) 18 (fun i=>(i<=(bg a 46).length/\i<=(bg b 46).length)/\pd a b=mN (bg a 46) (bg b 46) i) (fun i=>(bg a 46).length-i) 0 ⟨⟨ae,ae⟩,by unfold pd;rw[ai hc0,ai hc1,ai hc2]⟩ (eo []) ?_;rintro i ⟨hi,hr⟩;refine aB ?_;intro u0;refine aE ?_;refine jv ?_;refine aq ?_;refine cF (fun hc3=>?_) fun hc3=>?_
 .refine aB ?_;refine ba i (hb:=fun _=>ae) ?_;refine a7 (v:=.str (bg a 46)[i]!) (hi:=fun _=>ae) ?_;refine ax ?_;refine ba i (hb:=fun _=>ae) ?_;refine a7 (v:=.str (bg b 46)[i]!) (hi:=fun _=>ae) ?_;refine al (hc:=h783 _ _) ?_;refine aT ?_;refine eE (fun hc4=>?_) fun hc4=>?_
  .refine cC ?_;refine cI ?_;rw[hr,tD ae hc4]
  refine gR ?_;exact⟨i+1,⟨⟨ae,ae⟩,by rw[hr,wT ae hc4]⟩,ae,(eo [])⟩
 refine aB ?_;intro u1;refine ax ?_;intro u2;refine al (hc:=h630 _ _) ?_;refine aq ?_;refine cI ?_;rw[hr,tC ae]
def uP:aA:=⟨2,12,[⟨2,none⟩],cU,(sq (rg [gb 5 s0,gb 5 s1,gm bJ] [(3,0),(4,1),(2,2)]) (sq (sq (r1 [gk 5 true s3,gx 217 [l0] lB,jD l1,gm l2,cg 3 (.ld 5 true s4),cg 3 (.call 217 [l4] lB),cg 3 (.un .not l5),eg l3 l6] 5 7) (.cond s5 (sq (r1 [gm bJ] 2 0) .ret) .skip)) (sq (sq (r1 [gf 0 s3,gd l0,gf 0 s4,gd l2,gx 630 [l1,l3] j9,gm l4] 6 5) (sq (r1 [gm s6,dm l0 bJ] 7 1) (.cond s7 (sq (r1 [gm s6,gm l0] 2 1) .ret) .skip))) (sq (sq (r1 [gf 1 s3,gd l0,gf 1 s4,gd l2,gx 630 [l1,l3] j9,gm l4] 8 5) (sq (r1 [gm s8,dm l0 bJ] 9 1) (.cond s9 (sq (r1 [gm s8,gm l0] 2 1) .ret) .skip))) (sq (sq (r1 [gf 2 s3,gd l0,gf 2 s4,gd l2,gx 630 [l1,l3] j9,gm l4] 10 5) (sq (r1 [gm gu,dm l0 bJ] 11 1) (.cond oc (sq (r1 [gm gu,gm l0] 2 1) .ret) .skip))) (sq (r1 [gf 3 s3,gd l0,gf 3 s4,gd l2,gx 631 [l1,l3] j9,gm l4] 2 5) .ret))))))⟩
def w424 {Y:Ctx}(hm:(Y.at 0).cb)(h217:sw Y)(h630:B9 Y)(h631:Js Y)(a:aU)(b:aU)  (hp0:a.sm/\b.sm):dj Y uP (.int .i64 (jG a b)) [aU.D a,aU.D b]:=by
 show bO _ _ _ [⟨_,_⟩,⟨_,_⟩,_,_,_,_,_,_,_,_,_,_] _;refine aj ?_;refine cC ?_;refine al (hc:=h217 a hp0.1) ?_;refine aq ?_;refine bp (hc:=fun hf=>h217 b hp0.2) ?_;refine aq ?_;refine b8 (fun hc0=>?_) (fun hc0=>?_)
 .simp only[ib,eB]at hc0;refine aB ?_;refine cI ?_;unfold jG;rw[aw hc0]
 simp only[nD,oy]at hc0;have hv:¬(hY a=false\/hY b=false):=by simp only[not_or,Bool.not_eq_false];first|exact hc0|exact hc0.1
 refine cC ?_;refine al (hc:=h630 _ _) ?_;refine cC ?_;refine cF (fun hc1=>?_) fun hc1=>?_
 .refine aT ?_;refine cI ?_;unfold jG;rw[ai hv,aw hc1]
 refine cC ?_;refine al (hc:=h630 _ _) ?_;refine cC ?_;refine cF (fun hc2=>?_) fun hc2=>?_
 .refine aT ?_;refine cI ?_;unfold jG;rw[ai hv,ai (by simpa using hc1),aw hc2]
 refine cC ?_;refine al (hc:=h630 _ _) ?_;refine cC ?_;refine cF (fun hc3=>?_) fun hc3=>?_
 .refine aT ?_;refine cI ?_;unfold jG;rw[ai hv,ai (by simpa using hc1),ai (by simpa using hc2),aw hc3]
 refine aT ?_;refine al (hc:=h631 a.pre b.pre ⟨hp0.1.1,hp0.2.1⟩) ?_;refine aq ?_;refine cI ?_;unfold jG;rw[ai hv,ai (by simpa using hc1),ai (by simpa using hc2),ai (by simpa using hc3)]
def Bi:aA:=⟨4,6,[⟨4,none⟩],cU,(sq (rg [gb 1 s0,gm cJ] [(5,0),(4,1)]) (sq (r1 [gk 1 true s5,gm s1,gm s2,gn (.build [.aC,.aC,.aC] [(0,1,l0),(1,1,l1),(2,1,l2)]),gm s3,gx 425 [l3,l4] [[.sl 3 [.a,.a,.sl 8 [.a,.a,.a,.a,.a,.a,.sl 1 [.sl 3 [.a]],.sl 3 [.a,.a]]],.sl 1 [.a],.sl 5 [.a,.a,.a,.a,.sl 2 [.a,.a]]],[.a]],gm l5] 4 6) .ret))⟩
def w198 {Y:Ctx}(hm:(Y.at 0).cb)(h425:I9 Y)(w:bT)(allow:List Int)(rows:List aK)(i:Int)  (hp0:w.sm/\RowsIn rows):dj Y Bi (.bool (dJ ⟨w,allow,rows⟩ i)) [bT.D w,.sl 1 (allow.map (D.int .i64)),.sl 5 (rows.map aK.D),.int .i64 i]:=by
 show bO _ _ _ [⟨_,_⟩,⟨_,_⟩,⟨_,_⟩,⟨_,_⟩,_,_] _;refine aj ?_;refine aE ?_;refine aH (d:=bT.D w) ?_;refine ax ?_;refine bP (aF.D ⟨w,allow,rows⟩) ?_;refine av ?_;refine al (hc:=h425 ((⟨w,allow,rows⟩:aF)) (i) ?_) ?_;rotate_left;first|assumption|omega|(grind [Cut.sm,Span.sm,bd.sm,bh,ak,Want.sm,dk.sm,cr.sm,bT.sm])
 refine aq ?_;exact aY rfl
def vP:aA:=⟨3,12,[⟨3,none⟩,⟨4,none⟩],j9,(sq (rg [gb 1 s0,gm bJ,gm cJ] [(5,0),(3,1),(4,2)]) (sq (sq (r1 [gk 1 true s5,gx 175 [l0] [[.sl 3 [.a,.a,.sl 8 [.a,.a,.a,.a,.a,.a,.sl 1 [.sl 3 [.a,.a]],.sl 3 [.a,.a,.a]]]]],jD l1,gm l2,eh 3 s1,cg 3 (.len l4),cg 3 (dN l5 bJ),eh 3 l6,gmt 7 s1,bS 7 (.len l8),ew 7 0 s5,gS 7 l10,bS 7 (.len gw),bS 7 (fL l9 ik),sC 3 l7 iL,eg l3 jy] 6 15) (.cond s6 (sq (rg [gm bJ,gm cJ] [(3,0),(4,1)]) .ret) .skip)) (sq (sq (rg [gm s2,gl l0,gm bJ] [(8,1),(7,2)]) (.block 0 (.loop (sq (r1 [aN s7 s8] 9 0) (sq (fH s9 0) (sq (.block 1 (sq (r1 [gm s7,gm l0] 10 1) (sq (r1 [gk 1 true s5,gm s1,gm s2,gm gu,gx 198 [l0,l1,l2,l3] [[.sl 3 [.a,.a,.sl 8 [.a,.a,.a,.a,.a,.a,.sl 1 [.sl 3 [.a,.a]],.sl 3 [.a,.a,.a]]]],[.sl 1 [.a]],[.sl 5 [.a,.a,.a,.a,.sl 2 [.a,.a]]],[.a]],jD l4] 11 5) (.cond oc (sq (rg [gm gu,gm l0,gm cJ] [(3,1),(4,2)]) .ret) .skip)))) (r1 [aR s7 cD,gm l0] 7 1))))))) (sq (rt [gm s2,gl l0,gm s2,gl l2,ey l3 bJ,gm l4,gmt 5 s2,gmt 5 s2,bS 5 (.len l7),bS 5 (lj l8 cD),bS 5 (.ia 5 l6 l9),ew 5 4 l10,gS 5 gw,bS 5 (.len ik),bS 5 (dU iL bJ),eP l5 jy,gm l1,gm jZ] [(3,16),(4,17)]) .ret))))⟩
def w65 (h175:IZ Y)(h198:Ez Y)(w:bT)(allow:List Int)(rows:List aK)  (hp0:w.sm/\RowsIn rows):dj Y vP (.tup [.int .i64 (dw (okW w allow) (fun j=>dJ ⟨w,allow,rows⟩ ((j:Nat):Int)) rows).1,.bool (dw (okW w allow) (fun j=>dJ ⟨w,allow,rows⟩ ((j:Nat):Int)) rows).2]) [bT.D w,.sl 1 (allow.map (D.int .i64)),.sl 5 (rows.map aK.D)]:=by
 show bO _ _ _ [⟨_,_⟩,⟨_,_⟩,⟨_,_⟩,_,_,_,_,_,_,_,_,_] _;refine aj ?_;refine aT ?_;refine aH (d:=bT.D w) ?_;refine al (hc:=h175 (w) ?_) ?_;rotate_left;first|assumption|omega|exact hp0|exact hp0.1
 refine aq ?_;refine jv ?_;refine aq ?_;refine jv ?_;refine av ?_;refine au (v:=.sl 3 ((w.us).map cr.D)) ?_;refine jv ?_;refine aE ?_;refine cF (fun hc0=>?_) fun hc0=>?_
 .refine aT ?_;refine cT (dn (bw (D.int .i64) ?_) (bw D.bool ?_));all_goals
   have hE:(dw (okW w allow) (fun j=>dJ ⟨w,allow,rows⟩ ((j:Nat):Int)) rows)=(0,false):=by
    unfold dw;rw[aw (by unfold okW;grind)]
   rw[hE];all_goals rfl
 refine aB ?_;intro u0;refine ax ?_;refine bD hm (ι:=Nat) (fun i=>[.un,⟨true,.sl 1 ((allow).map (D.int .i64))⟩,⟨true,.sl 5 ((rows).map aK.D)⟩,.un,.un,⟨true,.ptr 0 1 0 0⟩,.un,⟨true,.int .i64 (i:Nat)⟩,⟨true,.int .i64 (rows.length:Nat)⟩,.un,.un,.un]) (fun i=>[(0,.buf 1 [bT.D w])]) 22 (fun i=>i<=rows.length/\mC (fun j=>dJ ⟨w,allow,rows⟩ ((j:Nat):Int)) rows.length 0=mC (fun j=>dJ ⟨w,allow,rows⟩ ((j:Nat):Int)) (rows.length-i) i) (fun i=>rows.length-i) 0 ⟨ae,rfl⟩ (eo [(0,0)]) ?_;rintro i ⟨hi,hr⟩;refine aq ?_;refine cF (fun hc1=>?_) fun hc1=>?_
 .refine cC ?_;refine aH (d:=bT.D w) ?_;refine aq ?_;refine al (hc:=h198 (w) (allow) (rows) _ ?_) ?_;rotate_left;first|assumption|omega|exact hp0|exact hp0.1
  refine ax ?_;refine eE (fun hc2=>?_) fun hc2=>?_
  .refine gR ?_;refine cT (dn (bw (D.int .i64) ?_) (bw D.bool ?_));all_goals
    have hE:(dw (okW w allow) (fun j=>dJ ⟨w,allow,rows⟩ ((j:Nat):Int)) rows)=(((i:Nat):Int),false):=by
     unfold dw;rw[ai (by unfold okW;grind),hr,yS ae (by first|exact hc2|simpa using hc2),aw ae]
    rw[hE];all_goals rfl
  refine aq ?_;refine aI (hb:=fun hf=>by first|omega|(simp at hf;omega)) ?_;refine aq ?_;exact⟨i+1,⟨ae,by rw[hr,yT ae (by first|exact hc2|simpa using hc2)]⟩,ae,(eo [(0,0)])⟩
 refine aq ?_;have hb:mC (fun j=>dJ ⟨w,allow,rows⟩ ((j:Nat):Int)) rows.length 0=rows.length:=by rw[hr,vv ae];omega
 refine av ?_;refine jv ?_;refine av ?_;refine jv ?_;refine aE ?_;refine jv ?_;refine av ?_;refine ba (rows.length-1) (hj:=fun hf=>by simp at hf;omega) (hb:=fun hf=>by simp at hf;omega) ?_;refine av ?_;refine a7 (v:=.sl 2 ((rows[rows.length-1]!.terms).map dM.D)) (hi:=fun hf=>by first|omega|(simp at hf;omega)) ?_;refine jv ?_;refine aT ?_;refine cT (dn (bw (D.int .i64) ?_) (bw D.bool ?_));all_goals
  have hE:(dw (okW w allow) (fun j=>dJ ⟨w,allow,rows⟩ ((j:Nat):Int)) rows)=(((rows.length:Nat):Int),decide (0<rows.length)&&decide (rows[rows.length-1]!.terms.length=0)):=by
   unfold dw;rw[ai (by unfold okW;grind),hb,ai ae]
  rw[hE];all_goals (first|rfl|grind)
def pj:aA:=⟨3,8,[⟨3,none⟩],[[.sl 14 [.a,.a,.a,.a,.a,.a,.a,.a,.a,.a,.a,.a,.a,.a]]],(sq (rg [gb 7 s1,gb 7 s2,gm (.c (.aC))] [(5,0),(7,1),(3,2)]) (sq (sq (r1 [gm s0,gl l0,jk l1 cD,gm l2] 4 3) (sq (r2 [gm s4,lJ l0 bJ,gm l1,gmt 2 s0,gmt 2 s4,bS 2 (.ia 14 l3 l4),ew 2 7 l5,bS 2 (.ld 7 true l6),bS 2 (.ld 7 true s5),bS 2 (.call 1020 [l7,l8] [[.a,.a,.a,.a,.a,.a,.a],[.a,.a,.a,.a,.a,.a,.a]]),bS 2 (dU l9 bJ),eP l2 l10] 6 11) (.cond s6 (sq (rg [gm s0,gm s4,gk 7 true s7,ga 14 l0 l1,gf 7 l3,gt 7 l4 l2] []) (sq (r1 [gm s0,gm l0] 3 1) .ret)) .skip))) (sq (r1 [gm s0,gk 7 true s5,gk 7 true s7,gn (.build [.int .i64 0,.int .i64 0,.int .i64 0,.int .i64 0,.str [],.str [],.bool false,.int .i64 0,.int .i64 0,.int .i64 0,.int .i64 0,.str [],.str [],.bool false] [(0,7,l1),(7,7,l2)]),gn (.bsl 14 (.agg [.int .i64 0,.int .i64 0,.int .i64 0,.int .i64 0,.str [],.str [],.bool false,.int .i64 0,.int .i64 0,.int .i64 0,.int .i64 0,.str [],.str [],.bool false]) 1 [(0,l3)]),gn (.app 14 l0 l4),gm l5] 3 6) .ret)))⟩
def w921 {Y:Ctx}(hm:(Y.at 1).cb)(out:List Span)(f:Cut)(t:Cut)(h1020:sO (Y.at 1))(hp0:(bh out/\f.sm/\t.sm)/\out.length<=100000):bO (Y.at 1) pj.body (oA pj (fun d m=>∃j,d=.own j 14 0 (jg out f t).length/\look m j=some (.buf 14 ((jg out f t).map Span.D))):Ex->List bz->St->Prop) (gv pj [.own 0 14 0 out.length,Cut.D f,Cut.D t]) ⟨1,[(0,.buf 14 (out.map Span.D))]⟩:=by
 show bO _ _ _ [⟨true,.own 0 14 0 out.length⟩,⟨true,Cut.D f⟩,⟨true,Cut.D t⟩,.un,.un,.un,.un,.un] ⟨1,[(0,.buf 14 (out.map Span.D))]⟩;refine aj ?_;refine cC ?_;refine jv ?_;refine er (hb:=ae) ?_;refine iI ?_;refine kH (out.length-1) (hj:=fun hf=>by simp at hf;omega) (hb:=fun hf=>by simp at hf;omega) ?_;refine av ?_;refine lN (q:=Span.D) (xs:=out) (v:=Cut.D out[out.length-1]!.t) (hi:=fun hf=>by simp at hf;omega) (hv:=fun _=>by rw[bE];rfl) ?_;refine aH (d:=Cut.D f) ?_;refine bp (hc:=fun hf=>h1020 (out[out.length-1]!.t) (f) ?_) ?_;rotate_left;first|assumption|omega|exact⟨(hp0.1.1 _ (ak ae)).2,hp0.1.2.1⟩|exact⟨(hp0.1.1 _ (ak (by first|omega|(simp at hf;omega)))).2,hp0.1.2.1⟩
 refine aq ?_;refine b8 (fun hc0=>?_) (fun hc0=>?_)
 .simp only[cj,dI]at hc0;have hlen:0<out.length:=ae;have hg:(jg out f t)=out.set (out.length-1) ⟨out[out.length-1]!.f,t⟩:=by unfold jg;rw[aw ⟨hlen,hc0.2⟩]
  refine aE ?_;refine aH (d:=Cut.D t) ?_;refine kH (out.length-1) (hj:=fun _=>ae) (hb:=fun _=>ae) ?_;refine av ?_;refine rS ((out.set (out.length-1) ⟨out[out.length-1]!.f,t⟩).map Span.D) (hi:=dT) (he:=by rw[bE];exact IE ae) ?_;refine cC ?_;refine iq trivial sK (ju ah (?_)) ah ⟨0,by rw[hg,List.length_set],by rw[hg];exact rfl⟩;rfl
 simp only[hZ,fo]at hc0;have hg:(jg out f t)=out++[⟨f,t⟩]:=by unfold jg;rw[ai (by rintro⟨h1,h2⟩;rcases hc0 with h|h;omega;exact h h2)]
 refine aq ?_;refine aH (d:=Cut.D f) ?_;refine aH (d:=Cut.D t) ?_;refine bP (Span.D ⟨f,t⟩) ?_;refine dp [Span.D ⟨f,t⟩] ?_;refine iH (q:=Span.D) (xs:=out) (e:=⟨f,t⟩) (hb:=ae) ?_;refine aq ?_;refine iq trivial sK (ju ah (?_)) ah ⟨25,by rw[hg],by rw[hg];exact rfl⟩;rfl
end Go.Abs
