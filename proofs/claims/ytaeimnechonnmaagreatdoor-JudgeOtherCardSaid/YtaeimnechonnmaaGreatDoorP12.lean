/- A part of the proofs. -/
import Derived.Test.YtaeimnechonnmaaGreatDoorP07
set_option linter.all false
set_option maxRecDepth 4000
namespace Go.Abs
variable {Y:Ctx}(hm:(Y.at 0).cP)
def KX:aJ:=⟨1,5,nL,dK,(sq (rg [gb 7 s0,gm dH] [(2,0),(1,1)]) (sq (sq (r1 [gf 0 s2,gd l0,gn (fI l1 (.c (.int .i64 (-1)))),gm l2,kR 3 0 s2,kL 3 l4,cY 3 (fI l5 cT),gr l3 l6] 3 7) (.cond s3 (sq (r1 [gf 1 s2,gk 5 true l0,gn (.build [.int .i64 0,.int .i64 0,.int .i64 0,.str [],.str []] []),gn (.eqA false true [.i .i64,.i .i64,.i .i64,.s,.s] l1 l2),gm l3,gA 4 6 s2,jE 4 l5,cI 4 (.un .not l6),gZ l4 l7,gm l8] 1 9) .ret) (sq (r1 [gf 0 s2,gd l0,dQ l1 ch] 4 2) (BV s4 dH)))) (sq (r1 [gf 1 s2,gk 5 true l0,gx 209 [l1] oQ,gm l2,gA 3 1 s2,gA 3 4 l4,jE 3 l5,cI 3 (fI l6 cse),gZ l3 l7,gm l8] 1 9) .ret)))⟩
def Sx {Y:Ctx}(hm:(Y.at 0).cP)(h209:BA Y)(c:Cut)  (hp0:c.v.sm):dN Y KX (.bool (lF c)) [Cut.D c]:=by
 show cr _ _ _ [⟨_,_⟩,_,_,_,_] _;refine ak ?_;refine bj ?_;refine ay (v:=.int .i64 c.e) ?_;refine au ?_;refine ay (v:=.int .i64 c.e) ?_;refine au ?_;refine dd (fun hc0=>?_) fun hc0=>?_
 .refine au ?_;refine ay (v:=bd.D c.v) ?_;refine bw (bd.D (⟨0,0,0,[],[]⟩)) ?_;refine xE (hb:=bd.eq _ _) ?_;refine aA ?_;refine ay (v:=.bool c.a) ?_;refine aF ?_;refine cn ?_;first|(grind [lF,zV];done)|(simp_all[lF,zV];done)
 refine au ?_;refine ay (v:=.int .i64 c.e) ?_;refine aA ?_;refine dd (fun hc1=>?_) fun hc1=>?_
 .refine aF ?_;refine cn ?_;first|(grind [lF,zV];done)|(simp_all[lF,zV];done)
 refine au ?_;refine ay (v:=bd.D c.v) ?_;refine aq (hc:=h209 (c.v) ?_) ?_;rotate_left;first|assumption|omega|(grind [Cut.sm,Span.sm,bG.sm,bP,aj,Want.sm,dI.sm,bQ.sm,bT.sm])
 refine au ?_;refine ay (v:=.str c.v.build) ?_;refine aF ?_;refine cn ?_;first|(grind [lF,zV];done)|(simp_all[lF,zV];done)
def zJ:aJ:=⟨2,11,[⟨2,none⟩],dK,(sq (rg [gb 7 s0,gb 7 s1,gm ch] [(3,0),(4,1),(2,2)]) (sq (sq (r1 [gk 7 true s3,gx 1087 [l0] xi,m5 l1,gm l2,cY 3 (.ld 7 true s4),cY 3 (.call 1087 [l4] xi),cY 3 (.un .not l5),gr l3 l6] 5 7) (.cond s5 (sq (r1 [gm ch] 2 0) .ret) (sq (r1 [gf 0 s3,gd l0,dQ l1 ch,gm l2,kR 3 0 s4,kL 3 l4,cY 3 (lH l5 ch),gr l3 l6] 6 7) (.cond s6 (sq (r1 [gf 0 s3,gd l0,gf 0 s4,gd l2,gx 532 [l1,l3] nJ,gm l4] 2 5) .ret) (sq (r1 [gf 1 s3,gk 5 true l0,gf 1 s4,gk 5 true l2,gx 295 [l1,l3] [[.a,.a,.a,.a,.a],[.a,.a,.a,.a,.a]],gm l4] 7 5) (sq (r1 [gm s7,dQ l0 ch] 8 1) (.cond s8 (sq (r1 [gm s7,gm l0] 2 1) .ret) (sq (r1 [gf 6 s3,gd l0,gf 6 s4,gd l2,gn (.eqA false false [.b] l1 l3)] 9 4) (.cond s9 (sq (r1 [gm ch] 2 0) .ret) (sq (r1 [gf 6 s4,gd l0] 10 1) (.cond iJ (sq (r1 [gn (.mv (.c (.int .i64 (-1))))] 2 0) .ret) .skip))))))))))) (sq (r1 [gm cT] 2 0) .ret)))⟩
def Sp {Y:Ctx}(hm:(Y.at 0).cP)(h295:Kn Y)(h532:Kt Y)(h1087:C8 Y)(a:Cut)(b:Cut)  (hp0:a.v.sm/\b.v.sm):dN Y zJ (.int .i64 (fY a b)) [Cut.D a,Cut.D b]:=by
 show cr _ _ _ [⟨_,_⟩,⟨_,_⟩,_,_,_,_,_,_,_,_,_] _;refine ak ?_;refine bj ?_;refine aX (d:=Cut.D a) ?_;refine aq (hc:=h1087 (a) ?_) ?_;rotate_left;first|assumption|omega|(grind [Cut.sm,Span.sm,bG.sm,bP,aj,Want.sm,dI.sm,bQ.sm,bT.sm])
 refine aA ?_;refine aX (d:=Cut.D b) ?_;refine bF (hc:=fun hf=>h1087 (b) ?_) ?_;rotate_left;first|assumption|omega|(grind [Cut.sm,Span.sm,bG.sm,bP,aj,Want.sm,dI.sm,bQ.sm,bT.sm])
 refine au ?_;refine dd (fun hc0=>?_) fun hc0=>?_
 .refine aF ?_;refine de ?_;first|(grind [fY,dk];done)|(simp_all[fY,dk];done)
 refine au ?_;refine ay (v:=.int .i64 a.e) ?_;refine au ?_;refine ay (v:=.int .i64 b.e) ?_;refine au ?_;refine dd (fun hc1=>?_) fun hc1=>?_
 .refine au ?_;refine ay (v:=.int .i64 a.e) ?_;refine ar ?_;refine ay (v:=.int .i64 b.e) ?_;refine aq (hc:=h532 (a.e) (b.e)) ?_;refine au ?_;refine de ?_;first|(grind [fY,dk];done)|(simp_all[fY,dk];done)
 refine au ?_;refine ay (v:=bd.D a.v) ?_;refine ar ?_;refine ay (v:=bd.D b.v) ?_;refine aq (hc:=h295 (a.v) (b.v) ?_) ?_;rotate_left;first|assumption|omega|(grind [Cut.sm,Span.sm,bG.sm,bP,aj,Want.sm,dI.sm,bQ.sm,bT.sm])
 refine cR ?_;refine dd (fun hc2=>?_) fun hc2=>?_
 .refine bj ?_;refine de ?_;first|(grind [fY,dk];done)|(simp_all[fY,dk];done)
 refine au ?_;refine ay (v:=.bool a.a) ?_;refine ar ?_;refine ay (v:=.bool b.a) ?_;refine xE (hb:=N3 _ _) ?_;refine ar ?_;refine dd (fun hc3=>?_) fun hc3=>?_
 .refine aF ?_;refine de ?_;first|(grind [fY,dk];done)|(simp_all[fY,dk];done)
 refine au ?_;refine ay (v:=.bool b.a) ?_;refine ar ?_;refine dd (fun hc4=>?_) fun hc4=>?_
 .refine aF ?_;refine de ?_;first|(grind [fY,dk];done)|(simp_all[fY,dk];done)
 refine aF ?_;refine de ?_;first|(grind [fY,dk];done)|(simp_all[fY,dk];done)
def F0:aJ:=⟨2,8,[⟨2,none⟩],dK,(sq (rg [gb 7 s0,gb 5 s1,gm dH] [(3,0),(4,1),(2,2)]) (sq (sq (r1 [gk 7 true s3,gx 1087 [l0] xi,m5 l1,gm l2,cY 3 (.ld 5 true s4),cY 3 (.call 209 [l4] oQ),cY 3 (.un .not l5),gr l3 l6] 5 7) (.cond s5 (sq (r1 [gm dH] 2 0) .ret) (sq (r1 [gf 0 s3,gd l0,dQ l1 ch] 6 2) (.cond s6 (sq (r1 [gf 0 s3,gd l0,aM l1 ch,gm l2] 2 3) .ret) .skip)))) (sq (r1 [gf 1 s3,gk 5 true l0,gk 5 true s4,gx 295 [l1,l2] [[.a,.a,.a,.a,.a],[.a,.a,.a,.a,.a]],gm l3] 7 4) (sq (r1 [gm s7,aM l0 ch,gm l1,fK 2 s7,cY 2 (fI l3 ch),fK 2 l4,gA 5 6 s3,jE 5 l6,cI 5 (.un .not l7),Bv 2 l5 l8,gr l2 l9,gm l10] 2 11) .ret))))⟩
def Sv {Y:Ctx}(hm:(Y.at 0).cP)(h209:BA Y)(h295:Kn Y)(h1087:C8 Y)(c:Cut)(v:bd)  (hp0:c.v.sm/\v.sm):dN Y F0 (.bool (gJ c v)) [Cut.D c,bd.D v]:=by
 show cr _ _ _ [⟨_,_⟩,⟨_,_⟩,_,_,_,_,_,_] _;refine ak ?_;refine bj ?_;refine aX (d:=Cut.D c) ?_;refine aq (hc:=h1087 (c) ?_) ?_;rotate_left;first|assumption|omega|(grind [Cut.sm,Span.sm,bG.sm,bP,aj,Want.sm,dI.sm,bQ.sm,bT.sm])
 refine aA ?_;refine aX (d:=bd.D v) ?_;refine bF (hc:=fun hf=>h209 (v) ?_) ?_;rotate_left;first|assumption|omega|(grind [Cut.sm,Span.sm,bG.sm,bP,aj,Want.sm,dI.sm,bQ.sm,bT.sm])
 refine au ?_;refine dd (fun hc0=>?_) fun hc0=>?_
 .refine aF ?_;refine cn ?_;first|(grind [gJ];done)|(simp_all[gJ];done)
 refine au ?_;refine ay (v:=.int .i64 c.e) ?_;refine aA ?_;refine dd (fun hc1=>?_) fun hc1=>?_
 .refine au ?_;refine ay (v:=.int .i64 c.e) ?_;refine aR ?_;refine cn ?_;first|(grind [gJ];done)|(simp_all[gJ];done)
 refine au ?_;refine ay (v:=bd.D c.v) ?_;refine aX (d:=bd.D v) ?_;refine aq (hc:=h295 (c.v) (v) ?_) ?_;rotate_left;first|assumption|omega|(grind [Cut.sm,Span.sm,bG.sm,bP,aj,Want.sm,dI.sm,bQ.sm,bT.sm])
 refine kF ?_;refine ay (v:=.bool c.a) ?_;refine bj ?_;refine cn ?_;first|(grind [gJ];done)|(simp_all[gJ];done)
def zK:aJ:=⟨1,3,nL,dK,(sq (rg [gb 14 s0,gm dH] [(2,0),(1,1)]) (sq (r1 [gf 0 s2,gk 7 true l0,gx 1087 [l1] xi,gm l2,gA 3 7 s2,cI 3 (.ld 7 true l4),cI 3 (.call 1087 [l5] xi),gZ l3 l6,gm l7,gA 8 0 s2,cI 8 (.ld 7 true l9),gA 8 7 s2,cI 8 (.ld 7 true hZ),cI 8 (.call 1024 [l10,iW] [[.a,.a,.a,.a,.a,.a,.a],[.a,.a,.a,.a,.a,.a,.a]]),cI 8 (jV jT ch),gZ l8 lf,gm mh] 1 16) .ret))⟩
def So {Y:Ctx}(hm:(Y.at 0).cP)(h1024:Hh Y)(h1087:C8 Y)(s:Span)  (hp0:s.sm):dN Y zK (.bool (kd s)) [Span.D s]:=by
 show cr _ _ _ [⟨_,_⟩,_,_] _;refine ak ?_;refine aF ?_;refine ay (v:=Cut.D s.f) ?_;refine aq (hc:=h1087 (s.f) ?_) ?_;rotate_left;first|assumption|omega|(grind [Cut.sm,Span.sm,bG.sm,bP,aj,Want.sm,dI.sm,bQ.sm,bT.sm])
 refine aA ?_;refine ay (v:=Cut.D s.t) ?_;refine bF (hc:=fun hf=>h1087 (s.t) ?_) ?_;rotate_left;first|assumption|omega|(grind [Cut.sm,Span.sm,bG.sm,bP,aj,Want.sm,dI.sm,bQ.sm,bT.sm])
 refine au ?_;refine ay (v:=Cut.D s.f) ?_;refine ar ?_;refine ay (v:=Cut.D s.t) ?_;refine bF (hc:=fun hf=>h1024 (s.f) (s.t) ?_) ?_;rotate_left;first|assumption|omega|(grind [Cut.sm,Span.sm,bG.sm,bP,aj,Want.sm,dI.sm,bQ.sm,bT.sm])
 refine aF ?_;refine cn ?_;first|(grind [kd];done)|(simp_all[kd];done)
def F1:aJ:=⟨2,5,[⟨2,none⟩],dK,(sq (rg [gb 14 s0,gb 5 s1,gm dH] [(3,0),(4,1),(2,2)]) (sq (r1 [gk 14 true s3,gx 1023 [l0] [[.a,.a,.a,.a,.a,.a,.a,.a,.a,.a,.a,.a,.a,.a]],gm l1,cI 2 (.ld 5 true s4),cI 2 (.call 209 [l3] oQ),gZ l2 l4,gm l5,gA 6 0 s3,cI 6 (.ld 7 true l7),cI 6 (.ld 5 true s4),cI 6 (.call 1055 [l8,l9] [[.a,.a,.a,.a,.a,.a,.a],[.a,.a,.a,.a,.a]]),gZ l6 l10,gm hZ,gA 12 7 s3,cI 12 (.ld 7 true jT),cI 12 (.ld 5 true s4),cI 12 (.call 1055 [lf,mh] [[.a,.a,.a,.a,.a,.a,.a],[.a,.a,.a,.a,.a]]),cI 12 (.un .not nK),gZ iW qS,gm tq] 2 19) .ret))⟩
def w980 {Y:Ctx}(hm:(Y.at 0).cP)(h209:BA Y)(h1023:Hg Y)(h1055:Mm Y)(s:Span)(v:bd)  (hp0:s.sm/\v.sm):dN Y F1 (.bool (lT s v)) [Span.D s,bd.D v]:=by
 show cr _ _ _ [⟨_,_⟩,⟨_,_⟩,_,_,_] _;refine ak ?_;refine aF ?_;refine aX (d:=Span.D s) ?_;refine aq (hc:=h1023 (s) ?_) ?_;rotate_left;first|assumption|omega|(grind [Cut.sm,Span.sm,bG.sm,bP,aj,Want.sm,dI.sm,bQ.sm,bT.sm])
 refine ar ?_;refine aX (d:=bd.D v) ?_;refine bF (hc:=fun hf=>h209 (v) ?_) ?_;rotate_left;first|assumption|omega|(grind [Cut.sm,Span.sm,bG.sm,bP,aj,Want.sm,dI.sm,bQ.sm,bT.sm])
 refine au ?_;refine ay (v:=Cut.D s.f) ?_;refine aX (d:=bd.D v) ?_;refine bF (hc:=fun hf=>h1055 (s.f) (v) ?_) ?_;rotate_left;first|assumption|omega|(grind [Cut.sm,Span.sm,bG.sm,bP,aj,Want.sm,dI.sm,bQ.sm,bT.sm])
 refine au ?_;refine ay (v:=Cut.D s.t) ?_;refine aX (d:=bd.D v) ?_;refine bF (hc:=fun hf=>h1055 (s.t) (v) ?_) ?_;rotate_left;first|assumption|omega|(grind [Cut.sm,Span.sm,bG.sm,bP,aj,Want.sm,dI.sm,bQ.sm,bT.sm])
 refine aF ?_;refine cn ?_;first|(grind [lT,kd];done)|(simp_all[lT,kd];done)
def LV:aJ:=⟨1,9,nL,dK,(sq (r1 [gm dH] 1 0) (sq (sq (rg [gm s0,gl l0,gm ch] [(5,0),(3,1),(2,2)]) (.block 0 (.loop (sq (r1 [aM s2 s3] 4 0) (sq (fE s4 0) (sq (.block 1 (sq (rg [gm s2,ga 14 s5 s2,gk 14 true l1,gb 14 (.c (.agg [.int .i64 0,.int .i64 0,.int .i64 0,.int .i64 0,.str [],.str [],.bool false,.int .i64 0,.int .i64 0,.int .i64 0,.int .i64 0,.str [],.str [],.bool false])),gm l0,gt 14 l3 l2] [(6,3),(7,4)]) (sq (r2 [gk 14 true s6,gx 1023 [l0] [[.a,.a,.a,.a,.a,.a,.a,.a,.a,.a,.a,.a,.a,.a]],m5 l1,gm l2,fK 3 s7,cY 3 (fW l4 ch),fK 3 l5,gmt 6 s0,gmt 6 s7,cI 6 (uz l8 cT),cI 6 (.ia 14 l7 l9),gA 6 7 l10,cI 6 (.ld 7 true hZ),gA 6 0 s6,cI 6 (.ld 7 true jT),cI 6 (.call 1024 [iW,lf] [[.a,.a,.a,.a,.a,.a,.a],[.a,.a,.a,.a,.a,.a,.a]]),cI 6 (jv mh ch),Bv 3 l6 nK,gr l3 qS] 8 18) (BV s8 dH)))) (r1 [aU s2 cT,gm l0] 2 1))))))) (Kg px)))⟩
def w925 (h1023:Hg Y)(h1024:Hh Y)(l:List Span)  (hp0:bP l):dN Y LV (.bool (lZ l)) [.sl 14 (l.map Span.D)]:=by
 show cr _ _ _ [⟨_,_⟩,_,_,_,_,_,_,_,_] _;refine ak ?_;refine bj ?_;intro u0;refine aA ?_;refine bB hm (ι:=Nat) (fun i=>[⟨true,.sl 14 ((l).map Span.D)⟩,.un,⟨true,.int .i64 (i:Nat)⟩,⟨true,.int .i64 (l.length:Nat)⟩,.un,⟨true,.sl 14 ((l).map Span.D)⟩,.un,.un,.un]) (fun i=>[]) 4 (fun i=>i<=l.length/\lZ l=dj (tv l) i l.length) (fun i=>l.length-i) 0 ⟨ae,rfl⟩ (e8 []) ?_;rintro i ⟨hi,hr⟩;refine au ?_;refine dd (fun hc0=>?_) fun hc0=>?_
 .refine aR ?_;refine aT (i) (hj:=fun hf=>by first|omega|(simp at hf;omega)) (hb:=fun hf=>by first|omega|(simp at hf;omega)) ?_;refine aS (v:=Span.D ((l)[i]!)) (hi:=fun hf=>by first|omega|(simp at hf;omega)) ?_;refine aA ?_;refine dm (Span.D ((l)[i]!)) (he:=cz) ?_;refine aA ?_;refine aX (d:=Span.D ((l)[i]!)) ?_;refine aq (hc:=h1023 ((l)[i]!) ?_) ?_;rotate_left;first|assumption|omega|(grind [Cut.sm,Span.sm,bG.sm,bP,aj,Want.sm,dI.sm,bQ.sm,bT.sm])
  refine cR ?_;refine eS (hb:=fun hf=>by first|omega|(simp at hf;omega)) ?_;refine aT ((i-1)) (hj:=fun hf=>by first|omega|(simp at hf;omega)) (hb:=fun hf=>by first|omega|(simp at hf;omega)) ?_;refine ar ?_;refine aS (v:=Cut.D ((l)[(i-1)]!.t)) (hi:=fun hf=>by first|omega|(simp at hf;omega)) ?_;refine ar ?_;refine ay (v:=Cut.D ((l)[i]!.f)) ?_;refine bF (hc:=fun hf=>h1024 ((l)[(i-1)]!.t) ((l)[i]!.f) ?_) ?_;rotate_left;first|assumption|omega|(grind [Cut.sm,Span.sm,bG.sm,bP,aj,Want.sm,dI.sm,bQ.sm,bT.sm])
  refine aR ?_;refine iE (fun hc1=>?_) fun hc1=>?_
  .refine bj ?_;refine cn ?_;rw[hr,bJ ae];first|(grind [tv];done)|(simp_all[tv];done)
  refine au ?_;refine aC (hb:=fun hf=>by first|omega|(simp at hf;omega)) ?_;refine au ?_;exact⟨i+1,⟨ae,by rw[hr,bJ ae];first|(grind [tv];done)|(simp_all[tv];done)⟩,ae,(e8 [])⟩
 refine bj ?_;refine cn ?_;rw[hr,dC ae]
def LS:aJ:=⟨2,11,[⟨2,none⟩],dK,(sq (rg [gb 5 s1,gm dH] [(9,0),(2,1)]) (sq (sq (r1 [gm s0,gx 925 [l0] [[.sl 14 [.a,.a,.a,.a,.a,.a,.a,.a,.a,.a,.a,.a,.a,.a]]],m5 l1] 3 2) (.cond s3 (sq (r1 [gm dH] 2 0) .ret) .skip)) (sq (sq (rg [gm s0,gl l0,gm ch] [(7,0),(5,1),(4,2)]) (.block 0 (.loop (sq (r1 [aM s4 s5] 6 0) (sq (fE s6 0) (sq (.block 1 (sq (r1 [ga 14 s7 s4,gk 14 true l0,gb 14 (.c (.agg [.int .i64 0,.int .i64 0,.int .i64 0,.int .i64 0,.str [],.str [],.bool false,.int .i64 0,.int .i64 0,.int .i64 0,.int .i64 0,.str [],.str [],.bool false])),gt 14 l2 l1] 8 2) (sq (r1 [gk 14 true s8,gk 5 true s9,gx 980 [l0,l1] [[.a,.a,.a,.a,.a,.a,.a,.a,.a,.a,.a,.a,.a,.a],[.a,.a,.a,.a,.a]]] 10 2) (.cond iJ (sq (r1 [gm px] 2 0) .ret) .skip)))) (r1 [aU s4 cT,gm l0] 4 1))))))) (sq (r1 [gm dH] 2 0) .ret))))⟩
def w861 (h925:Ny Y)(h980:Qw Y)(l:List Span)(v:bd)  (hp0:bP l/\v.sm):dN Y LS (.bool (na l v)) [.sl 14 (l.map Span.D),bd.D v]:=by
 show cr _ _ _ [⟨_,_⟩,⟨_,_⟩,_,_,_,_,_,_,_,_,_] _;refine ak ?_;refine bj ?_;refine aq (hc:=h925 (l) ?_) ?_;rotate_left;first|assumption|omega|(grind [Cut.sm,Span.sm,bG.sm,bP,aj,Want.sm,dI.sm,bQ.sm,bT.sm])
 refine aA ?_;refine dd (fun hc0=>?_) fun hc0=>?_
 .refine aF ?_;refine cn ?_;unfold na;simp_all
 refine aF ?_;intro u0;refine aA ?_;refine bB hm (ι:=Nat) (fun i=>[⟨true,.sl 14 ((l).map Span.D)⟩,.un,.un,.un,⟨true,.int .i64 (i:Nat)⟩,⟨true,.int .i64 (l.length:Nat)⟩,.un,⟨true,.sl 14 ((l).map Span.D)⟩,.un,⟨true,.ptr 0 5 0 0⟩,.un]) (fun i=>[(0,.buf 5 [bd.D v])]) 8 (fun i=>i<=l.length/\na l v=pf (fun i=>lT l[i]! v) i l.length) (fun i=>l.length-i) 0 ⟨ae,by unfold na;rw[show lZ l=true by simpa using hc0];rfl⟩ (e8 [(0,0)]) ?_;rintro i ⟨hi,hr⟩;refine au ?_;refine dd (fun hc1=>?_) fun hc1=>?_
 .refine au ?_;refine aT (i) (hj:=fun hf=>by first|omega|(simp at hf;omega)) (hb:=fun hf=>by first|omega|(simp at hf;omega)) ?_;refine aS (v:=Span.D ((l)[i]!)) (hi:=fun hf=>by first|omega|(simp at hf;omega)) ?_;refine ar ?_;refine dm (Span.D ((l)[i]!)) (he:=cz) ?_;refine aA ?_;refine aX (d:=Span.D ((l)[i]!)) ?_;refine aX (d:=bd.D v) ?_;refine aq (hc:=h980 ((l)[i]!) (v) ?_) ?_;rotate_left;first|assumption|omega|(grind [Cut.sm,Span.sm,bG.sm,bP,aj,Want.sm,dI.sm,bQ.sm,bT.sm])
  refine ar ?_;refine iE (fun hc2=>?_) fun hc2=>?_
  .refine bj ?_;refine cn ?_;rw[hr,jR ae];simp_all
  refine au ?_;refine aC (hb:=fun hf=>by first|omega|(simp at hf;omega)) ?_;refine au ?_;exact⟨i+1,⟨ae,by rw[hr,jR ae];simp_all⟩,ae,(e8 [(0,0)])⟩
 refine bj ?_;refine cn ?_;rw[hr,qu ae]
def AY:aJ:=⟨1,3,nL,dK,(sq (rg [gb 7 s0,gm dH] [(2,0),(1,1)]) (sq (r1 [gf 0 s2,gd l0,dQ l1 ch,gm l2,kR 3 6 s2,kL 3 l4,cY 3 (.un .not l5),fK 3 l6,gA 7 1 s2,gA 7 3 l8,jE 7 l9,cI 7 (fI l10 cse),Bv 3 l7 hZ,fK 3 iW,gA 13 1 s2,cI 13 (.ld 5 true lf),cI 13 (.mv (.c (.agg [.int .i64 0,.int .i64 0,.int .i64 0,.str [],.str []]))),cI 13 (.eqA true true [.i .i64,.i .i64,.i .i64,.s,.s] mh nK),Bv 3 jT qS,gr l3 tq,gm xo] 1 20) .ret))⟩
def w924 {Y:Ctx}(hm:(Y.at 0).cP)  (c:Cut)   :dN Y AY (.bool (mF c)) [Cut.D c]:=by
 show cr _ _ _ [⟨_,_⟩,_,_] _;refine ak ?_;refine aF ?_;refine ay (v:=.int .i64 c.e) ?_;refine au ?_;refine ay (v:=.bool c.a) ?_;refine aR ?_;refine ay (v:=.str c.v.pre) ?_;refine aR ?_;refine ay (v:=bd.D c.v) ?_;refine R8 (d:=bd.D zV) ?_;refine Jb (hb:=bd.eq _ _) ?_;refine aF ?_;refine cn ?_;first|(grind [mF,zV];done)|(simp_all[mF,zV];done)
def L1:aJ:=⟨1,9,nL,dK,(sq (rg [gb 2 s0,gm dH] [(2,0),(1,1)]) (sq (sq (rg [gf 0 s2,gd l0,gl l1,gm ch] [(6,1),(4,2),(3,3)]) (.block 0 (.loop (sq (r1 [aM s3 s4] 5 0) (sq (fE s5 0) (sq (.block 1 (sq (r1 [ga 14 s6 s3,gk 14 true l0,gb 14 (.c (.agg [.int .i64 0,.int .i64 0,.int .i64 0,.int .i64 0,.str [],.str [],.bool false,.int .i64 0,.int .i64 0,.int .i64 0,.int .i64 0,.str [],.str [],.bool false])),gt 14 l2 l1] 7 2) (sq (r1 [gf 0 s7,gk 7 true l0,gx 924 [l1] xi,m5 l2,gm l3,kR 4 7 s7,cY 4 (.ld 7 true l5),cY 4 (.call 924 [l6] xi),cY 4 (.un .not l7),gr l4 l8] 8 9) (BV s8 dH)))) (r1 [aU s3 cT,gm l0] 3 1))))))) (sq (r1 [gf 0 s2,gd l0,gx 925 [l1] [[.sl 14 [.a,.a,.a,.a,.a,.a,.a,.a,.a,.a,.a,.a,.a,.a]]],gm l2,gA 3 1 s2,jE 3 l4,cI 3 (.call 925 [l5] [[.sl 14 [.a,.a,.a,.a,.a,.a,.a,.a,.a,.a,.a,.a,.a,.a]]]),gZ l3 l6,gm l7] 1 8) .ret)))⟩
def w780 (h924:Qn Y)(h925:Ny Y)(s:bG)  (hp0:s.sm):dN Y L1 (.bool (nb s)) [bG.D s]:=by
 show cr _ _ _ [⟨_,_⟩,_,_,_,_,_,_,_,_] _;refine ak ?_;refine bj ?_;refine ay (v:=.sl 14 ((s.rel).map Span.D)) ?_;refine ar ?_;intro u0;refine aA ?_;refine bB hm (ι:=Nat) (fun i=>[.un,.un,⟨true,.ptr 0 2 0 0⟩,⟨true,.int .i64 (i:Nat)⟩,⟨true,.int .i64 (s.rel.length:Nat)⟩,.un,⟨true,.sl 14 ((s.rel).map Span.D)⟩,.un,.un]) (fun i=>[(0,.buf 2 [bG.D s])]) 6 (fun i=>i<=s.rel.length/\nb s=(dj (fun i=>mF s.rel[i]!.f&&mF s.rel[i]!.t) i s.rel.length&&(lZ s.rel&&lZ s.pr))) (fun i=>s.rel.length-i) 0 ⟨ae,(LY s).symm⟩ (e8 [(0,0)]) ?_;rintro i ⟨hi,hr⟩;refine au ?_;refine dd (fun hc0=>?_) fun hc0=>?_
 .refine au ?_;refine aT (i) (hj:=fun hf=>by first|omega|(simp at hf;omega)) (hb:=fun hf=>by first|omega|(simp at hf;omega)) ?_;refine aS (v:=Span.D ((s.rel)[i]!)) (hi:=fun hf=>by first|omega|(simp at hf;omega)) ?_;refine ar ?_;refine dm (Span.D ((s.rel)[i]!)) (he:=cz) ?_;refine au ?_;refine ay (v:=Cut.D ((s.rel)[i]!.f)) ?_;refine aq (hc:=h924 ((s.rel)[i]!.f)) ?_;refine au ?_;refine ay (v:=Cut.D ((s.rel)[i]!.t)) ?_;refine aq (hc:=h924 ((s.rel)[i]!.t)) ?_;refine au ?_;refine iE (fun hc1=>?_) fun hc1=>?_
  .refine bj ?_;refine cn ?_;rw[hr,bJ ae];rcases hc1 with h|h<;>simp only[h,Bool.and_false,Bool.false_and]
  refine au ?_;refine aC (hb:=fun hf=>by first|omega|(simp at hf;omega)) ?_;refine au ?_;exact⟨i+1,⟨ae,by rw[hr,bJ ae];simp_all⟩,ae,(e8 [(0,0)])⟩
 refine aR ?_;refine ay (v:=.sl 14 ((s.rel).map Span.D)) ?_;refine aq (hc:=h925 (s.rel) ?_) ?_;rotate_left;first|assumption|omega|(grind [Cut.sm,Span.sm,bG.sm,bP,aj,Want.sm,dI.sm,bQ.sm,bT.sm])
 refine aA ?_;refine ay (v:=.sl 14 ((s.pr).map Span.D)) ?_;refine bF (hc:=fun hf=>h925 (s.pr) ?_) ?_;rotate_left;first|assumption|omega|(grind [Cut.sm,Span.sm,bG.sm,bP,aj,Want.sm,dI.sm,bQ.sm,bT.sm])
 refine aR ?_;refine cn ?_;rw[hr,dC ae];simp
def L0:aJ:=⟨2,7,[⟨2,none⟩],dK,(sq (rg [gb 2 s0,gb 5 s1,gm dH] [(3,0),(4,1),(2,2)]) (sq (sq (r1 [gk 2 true s3,gx 780 [l0] [[.sl 14 [.a,.a,.a,.a,.a,.a,.a,.a,.a,.a,.a,.a,.a,.a],.sl 14 [.a,.a,.a,.a,.a,.a,.a,.a,.a,.a,.a,.a,.a,.a]]],m5 l1,gm l2,cY 3 (.ld 5 true s4),cY 3 (.call 209 [l4] oQ),cY 3 (.un .not l5),gr l3 l6] 5 7) (.cond s5 (sq (r1 [gm dH] 2 0) .ret) .skip)) (sq (sq (r1 [gf 3 s4,gd l0,cH l1 cse] 6 2) (.cond s6 (sq (r1 [gf 0 s3,gd l0,gk 5 true s4,gx 861 [l1,l2] [[.sl 14 [.a,.a,.a,.a,.a,.a,.a,.a,.a,.a,.a,.a,.a,.a]],[.a,.a,.a,.a,.a]],gm l3] 2 4) .ret) .skip)) (sq (r1 [gf 1 s3,gd l0,gk 5 true s4,gx 861 [l1,l2] [[.sl 14 [.a,.a,.a,.a,.a,.a,.a,.a,.a,.a,.a,.a,.a,.a]],[.a,.a,.a,.a,.a]],gm l3] 2 4) .ret))))⟩
def w712 {Y:Ctx}(hm:(Y.at 0).cP)(h209:BA Y)(h780:Nu Y)(h861:Ql Y)(s:bG)(v:bd)  (hp0:s.sm/\v.sm):dN Y L0 (.bool (ny s v)) [bG.D s,bd.D v]:=by
 show cr _ _ _ [⟨_,_⟩,⟨_,_⟩,_,_,_,_,_] _;refine ak ?_;refine bj ?_;refine aX (d:=bG.D s) ?_;refine aq (hc:=h780 (s) ?_) ?_;rotate_left;first|assumption|omega|(grind [Cut.sm,Span.sm,bG.sm,bP,aj,Want.sm,dI.sm,bQ.sm,bT.sm])
 refine aA ?_;refine aX (d:=bd.D v) ?_;refine bF (hc:=fun hf=>h209 (v) ?_) ?_;rotate_left;first|assumption|omega|(grind [Cut.sm,Span.sm,bG.sm,bP,aj,Want.sm,dI.sm,bQ.sm,bT.sm])
 refine au ?_;refine dd (fun hc0=>?_) fun hc0=>?_
 .refine aF ?_;refine cn ?_;first|(grind [ny];done)|(simp_all[ny];done)
 refine aR ?_;refine ay (v:=.str v.pre) ?_;refine aA ?_;refine dd (fun hc1=>?_) fun hc1=>?_
 .refine au ?_;refine ay (v:=.sl 14 ((s.rel).map Span.D)) ?_;refine aX (d:=bd.D v) ?_;refine aq (hc:=h861 (s.rel) (v) ?_) ?_;rotate_left;first|assumption|omega|(grind [Cut.sm,Span.sm,bG.sm,bP,aj,Want.sm,dI.sm,bQ.sm,bT.sm])
  refine au ?_;refine cn ?_;first|(grind [ny];done)|(simp_all[ny];done)
 refine au ?_;refine ay (v:=.sl 14 ((s.pr).map Span.D)) ?_;refine aX (d:=bd.D v) ?_;refine aq (hc:=h861 (s.pr) (v) ?_) ?_;rotate_left;first|assumption|omega|(grind [Cut.sm,Span.sm,bG.sm,bP,aj,Want.sm,dI.sm,bQ.sm,bT.sm])
 refine au ?_;refine cn ?_;first|(grind [ny];done)|(simp_all[ny];done)
def zW:aJ:=⟨2,10,[⟨2,none⟩],[[.sl 1 [.a]]],(sq (r1 [gm (.c (.aB))] 2 0) (sq (r1 [gm (.c (.aB))] 8 0) (sq (r1 [gm ch] 9 0) (sq (sq (rg [gm s0,K8 l0,gm ch] [(4,1),(3,2)]) (.block 0 (.loop (sq (r1 [aM s3 s4] 5 0) (sq (fE s5 0) (sq (.block 1 (sq (r1 [gm s3,gm l0] 6 1) (sq (r1 [gm s0,gm s6,N5 l0 l1,gm s1,cH l2 l3] 7 4) (.cond s7 (sq (r1 [gm s8,gm s0,gm s9,gm s6,gn (.slS l1 (some l2) (some l3)),gn (.bsl 1 (.str []) 1 [(0,l4)]),gn (.app 1 l0 l5),gm l6] 8 7) (r1 [gm s6,aU l0 cT,gm l1] 9 2)) .skip)))) (r1 [aU s3 cT,gm l0] 3 1))))))) (sq (r1 [gm s8,gm s0,gm s9,gn (.slS l1 (some l2) none),gn (.bsl 1 (.str []) 1 [(0,l3)]),gn (.app 1 l0 l4),gm l5] 2 6) .ret)))))⟩
def w533  (s:dy)(b:Int)  (hp0:s.length<=1048576):dN Y zW (.sl 1 ((bE s b).map D.str)) [.str s,.int .u8 b]:=by
 show cr _ _ _ [⟨_,_⟩,⟨_,_⟩,_,_,_,_,_,_,_,_] _;refine ak ?_;refine lN ?_;intro u0;refine aA ?_;refine bB hm (ι:=(Nat×Nat×List dy)) (fun p:Nat×Nat×List dy=>[⟨true,.str s⟩,⟨true,.int .u8 b⟩,.un,⟨true,.int .i64 (p.1:Nat)⟩,⟨true,.int .i64 (s.length:Nat)⟩,.un,.un,.un,⟨true,.own 0 1 0 p.2.2.length⟩,⟨true,.int .i64 (p.2.1:Nat)⟩]) (fun p=>[(0,.buf 1 (p.2.2.map D.str))]) 6 (fun p=>p.1<=s.length/\p.2.1<=p.1/\p.2.2.length<=p.1/\bE s b=p.2.2++iK b (s.drop p.1) ((s.take p.1).drop p.2.1)) (fun p=>s.length-p.1) (0,0,[]) ⟨bh,bh,bh,rfl⟩ (aP.to [] ah ah (by repeat(first|exact aH.nil|refine aH.un ?_|refine aH.eq ah ?_|refine aH.nl ah ah ?_|refine aH.ni (Or.inr ⟨0,1,0,rfl⟩) ?_)) (by repeat(first|exact aD.nil|refine aD.mt ah ah ah ah ?_))) ?_;rintro⟨i,fr,acc⟩ ⟨hi,hf,ha,hr⟩;dsimp only at hi hf ha hr⊢;refine au ?_;refine dd (fun hc0=>?_) fun hc0=>?_
 .refine FB ?_;refine wp_cond (fun hc1=>?_) (fun hc1=>?_)
  .try simp only[qx]at hc1
   refine aF ?_;refine AA _ _ ?_;refine cO [(.str _)] ?_;refine MZ ?_;exact⟨(i+1,i+1,acc++[(s.take i).drop fr]),⟨eF,eF,eo,by rw[hr,xR ae hc1];simp⟩,eF,(aP.to [(20,0)] ah ah LB (by refine aD.nl 20 ah ah ah cy ?_;exact aD.nil))⟩
  simp only[dA]at hc1;refine cR ?_;exact⟨(i+1,fr,acc),⟨eF,eF,eF,by rw[hr,xS ae ae hc1]⟩,eF,(aP.to [(0,0)] ah ah LB (by refine aD.nl 0 ah ah ah cy ?_;exact aD.nil))⟩
 refine bj ?_;refine AB _ ?_;refine cO [(.str _)] ?_;refine au ?_;refine cU 12 ?_;refine ar ?_;refine cV (?_);have hs:bE s b=acc++[s.drop fr]:=by rw[hr,vV ae]
 rw[hs];exact rfl
def tC:aJ:=⟨1,7,nL,dK,(sq (r1 [gm dH] 1 0) (sq (sq (rg [gm s0,K8 l0,gm ch] [(3,1),(2,2)]) (.block 0 (.loop (sq (r1 [aM s2 s3] 4 0) (sq (fE s4 0) (sq (.block 1 (sq (r1 [gm s2,gm l0] 5 1) (sq (r1 [gm s0,gm s5,N5 l0 l1,aM l2 (i8 48),gm l3,fK 4 s0,fK 4 s5,cY 4 (.ixS l5 l6),cY 4 (fW l7 (i8 57)),gr l4 l8] 6 9) (BV s6 dH)))) (r1 [aU s2 cT,gm l0] 2 1))))))) (sq (r1 [gm s0,dQ l0 cse,gm l1] 1 2) .ret)))⟩
def w659  (t:dy)   :dN Y tC (.bool (cL t)) [.str t]:=by
 show cr _ _ _ [⟨_,_⟩,_,_,_,_,_,_] _;refine ak ?_;refine bj ?_;intro u0;refine aA ?_;refine bB hm (ι:=Nat) (fun i=>[⟨true,.str t⟩,.un,⟨true,.int .i64 (i:Nat)⟩,⟨true,.int .i64 (t.length:Nat)⟩,.un,.un,.un]) (fun i=>[]) 4 (fun i=>i<=t.length/\dj (fun i=>di (at8 t i)) 0 t.length=dj (fun i=>di (at8 t i)) i t.length) (fun i=>t.length-i) 0 ⟨ae,rfl⟩ (e8 []) ?_;rintro i ⟨hi,hr⟩;refine au ?_;refine dd (fun hc0=>?_) fun hc0=>?_
 .refine SF ?_;refine iE (fun hc1=>?_) fun hc1=>?_
  .refine bj ?_;refine cn ?_;simp only[cL];rw[hr,bJ ae];rcases hc1 with h|h<;>simp[di]<;>omega
  refine cR ?_;exact⟨i+1,⟨ae,by rw[hr,bJ ae];rw[show di (at8 t i)=true by simp only[di,bm,bL];omega];rfl⟩,ae,(e8 [])⟩
 refine jr ?_;refine cn ?_;simp only[cL];rw[hr,dC ae];cases t<;>simp
def zf:aJ:=⟨1,2,nL,dK,(sq (r1 [gm dH] 1 0) (sq (r1 [gm s0,jh l0 ch,gm l1,gmt 2 s0,cI 2 (zC l3 (i6 9999)),gZ l2 l4,gm l5] 1 6) .ret))⟩
def w440 {Y:Ctx}(hm:(Y.at 0).cP)  (n:Int)   :dN Y zf (.bool (BT n)) [.int .i64 n]:=by
 show cr _ _ _ [⟨_,_⟩,_] _;refine ak ?_;refine lN ?_;exact cn rfl
def zg:aJ:=⟨1,15,nL,dK,(sq (r1 [gm dH] 1 0) (sq (r1 [gm s0,gx 533 [l0,(i8 46)] nJ,gm l1] 2 2) (sq (r1 [gm s2,gl l0,Cg l1 Pg,gm l2] 14 3) (sq .skip (sq (sq (rg [gm s2,gl l0,gm ch] [(6,0),(4,1),(3,2)]) (.block 0 (.loop (sq (r1 [aM s3 s4] 5 0) (sq (fE s5 0) (sq (.block 1 (sq (r1 [ga 1 s6 s3,gd l0,gm l1] 7 2) (sq (sq (r1 [gm s7,cH l0 cse,gm l1,fK 2 s7,cY 2 (.lenS l3),cY 2 (fW l4 ic8),gr l2 l5] 8 6) (.cond s8 (sq (r1 [gm dH] 14 0) (.exit 0)) .skip)) (sq (r1 [gm s7,gn (.rng l0)] 9 1) (.block 2 (.loop (sq (rg [gn (.bH s9),ge l0 0] [(11,0),(10,1)]) (sq (fE iJ 2) (.block 3 (sq (r1 [ge nM 2,gm l0] 12 1) (sq (r1 [gm mE,aM l0 (i3 97),gm l1,fK 2 mE,cY 2 (fW l3 (i3 122)),gr l2 l4,gm l5,gmt 6 mE,cI 6 (jV l7 (i3 48)),gmt 6 l8,fK 9 mE,cY 9 (fW l10 (i3 57)),Pf 6 l9 hZ,gZ l6 iW,gm jT,gmt 14 mE,cI 14 (lH mh (i3 45)),gZ lf nK] 13 17) (.cond pC (sq (r1 [gm dH] 14 0) (.exit 0)) .skip)))))))))))) (r1 [aU s3 cT,gm l0] 3 1))))))) (sq (r1 [gm xO,gm l0] 1 1) .ret))))))⟩
def w442 (h533:Ku Y)(s:dy)  (hp0:s.length<=1048576):dN Y zg (.bool (mH s false)) [.str s]:=by
 show cr _ _ _ [⟨_,_⟩,_,_,_,_,_,_,_,_,_,_,_,_,_,_] _;refine ak ?_;refine aR ?_;refine aq (hc:=h533 _ _ ?_) ?_;rotate_left;first|assumption|omega;have hlen:=qk s 46
 refine aF ?_;intro u0;refine jr ?_;intro u1;refine aA ?_;refine bB hm (ι:=Nat) (fun i=>[.un,.un,⟨true,.sl 1 ((bE s 46).map D.str)⟩,⟨true,.int .i64 (i:Nat)⟩,⟨true,.int .i64 ((bE s 46).length:Nat)⟩,.un,⟨true,.sl 1 ((bE s 46).map D.str)⟩,.un,.un,.un,.un,.un,.un,.un,⟨true,.bool (decide (((bE s 46).length:Int)<=4))⟩]) (fun i=>[]) 11 (fun i=>i<=(bE s 46).length/\mH s false=(decide ((bE s 46).length<=4)&&dj (fun i=>gG false (bE s 46)[i]!) i (bE s 46).length)) (fun i=>(bE s 46).length-i) 0 ⟨ae,rfl⟩ (e8 []) ?_;rintro i ⟨hi,hr⟩;refine au ?_;refine dd (fun hc0=>?_) fun hc0=>?_
 .refine js ?_;generalize ht:(bE s 46)[i]! =t;refine aR ?_;refine nk ?_;refine au ?_;refine dd (fun hc1=>?_) fun hc1=>?_
  .refine lN ?_;refine cn ?_;first
    |(rw[hr,dC ae,eZ];exact wz.2 ae)
    |(have hb:pk t=false:=by
       first
       |(simp only[pk];rcases hc1 with h|h
         .subst h;simp
         .rw[cE (by omega:¬t.length<=8)];simp)
       |(have hz:kV (at8 t j)=false:=by
          rcases hcw with⟨_,h,_⟩|⟨_,h⟩<;>(simp only[kV,Ca,di,iM,gU,dA];omega)
         rw[hj,bJ hnx,hz];rfl)
      rw[hr,bJ ae,show gG false (bE s 46)[i]! =false from(by simp only[gG,ht,hb,Bool.false_and])];simp)
  refine aF ?_;have hT:pk t=dj (fun i=>kV (at8 t i)) 0 t.length:=by
   have:=List.length_pos_iff.2 hc1.1;simp only[pk];rw[cv ae,cv ae];rfl
  refine kO hm (ι:=Nat) (fun j=>[.un,.un,⟨true,.sl 1 ((bE s 46).map D.str)⟩,⟨true,.int .i64 (i:Nat)⟩,⟨true,.int .i64 ((bE s 46).length:Nat)⟩,.un,⟨true,.sl 1 ((bE s 46).map D.str)⟩,.un,.un,⟨true,.it 23⟩,.un,.un,.un,.un,⟨true,.bool (decide (((bE s 46).length:Int)<=4))⟩]) (fun j=>[(23,.iter t j)]) 24 (fun j=>j<=t.length/\pk t=dj (fun i=>kV (at8 t i)) j t.length) (fun j=>t.length-j) 0 ⟨ae,hT⟩ (e8 [(23,23)]) ?_;rintro j ⟨hj0,hj⟩;refine ar ?_;by_cases hnx:j<t.length
  .obtain⟨c,w,hdec,hw,hcw⟩:=zL t j hnx;refine Jl c w (hp:=hnx) (hc:=hdec) ?_;refine aA ?_;refine bn (t:=true) (fun _=>?_) (fun h=>by cases h);refine SH ?_;refine iE (fun hc3=>?_) fun hc3=>?_
   .refine FB ?_;refine cn ?_;first
     |(rw[hr,dC ae,eZ];exact wz.2 ae)
     |(have hb:pk t=false:=by
        first
        |(simp only[pk];rcases hc1 with h|h
          .subst h;simp
          .rw[cE (by omega:¬t.length<=8)];simp)
        |(have hz:kV (at8 t j)=false:=by
           rcases hcw with⟨_,h,_⟩|⟨_,h⟩<;>(simp only[kV,Ca,di,iM,gU,dA];omega)
          rw[hj,bJ hnx,hz];rfl)
       rw[hr,bJ ae,show gG false (bE s 46)[i]! =false from(by simp only[gG,ht,hb,Bool.false_and])];simp)
   refine au ?_;obtain⟨rfl,hat,-⟩:w=1/\(c:Int)=at8 t j/\c<128:=by
    rcases hcw with h|h
    .exact h
    .omega
   have hz:kV (at8 t j)=true:=by
    simp only[kV,Ca,di,en,bm,bL];omega
   exact⟨j+1,⟨ae,by rw[hj,bJ hnx,hz];rfl⟩,ae,(e8 [(23,23)])⟩
  .refine Jk (hp:=hnx) ?_;refine aA ?_;refine bn (t:=false) (fun h=>by cases h) (fun _=>?_);refine jr ?_;exact⟨i+1,⟨ae,by rw[hr,bJ ae];rw[show gG false (bE s 46)[i]! =true from(by simp only[gG,Bool.false_and,Bool.not_false,eZ];rw[ht,hj,dC ae])];rfl⟩,ae,(e8 [])⟩
 refine cR ?_;refine cn ?_;first
  |(rw[hr,dC ae,eZ];exact wz.2 ae)
  |(have hb:pk t=false:=by
     first
     |(simp only[pk];rcases hc1 with h|h
       .subst h;simp
       .rw[cE (by omega:¬t.length<=8)];simp)
     |(have hz:kV (at8 t j)=false:=by
        rcases hcw with⟨_,h,_⟩|⟨_,h⟩<;>(simp only[kV,Ca,di,iM,gU,dA];omega)
       rw[hj,bJ hnx,hz];rfl)
    rw[hr,bJ ae,show gG false (bE s 46)[i]! =false from(by simp only[gG,ht,hb,Bool.false_and])];simp)
def pY:aJ:=⟨3,13,[⟨3,none⟩],dK,(sq (rg [gb 3 s0,gb 5 s1,gm dH] [(7,0),(4,1),(3,2)]) (sq (r1 [gf 4 s4,gd l0,gn (.mkf 784 [s4]),gx 615 [l1,l2] [[.sl 2 [.a,.a]],[.a]],gm l3] 5 4) (sq (sq (r1 [gm s5,aM l0 ch,gm l1,kR 2 4 s4,kL 2 l3,fK 2 s5,cY 2 (.ia 2 l4 l5),kR 2 1 l6,kL 2 l7,cY 2 (Df l8 cT),cY 2 (lH l9 ch),gr l2 l10] 6 11) (.cond s6 (sq (r1 [gm dH] 3 0) .ret) .skip)) (sq (sq (rg [gf 0 s7,gf 0 l0,gd l1,gf 1 s4,gd l3,ga 3 l2 l4,gf 2 l5,gd l6,gl l7,gm ch] [(9,8),(8,9)]) (.block 0 (.loop (sq (r1 [aM s8 s9] 10 0) (sq (fE iJ 0) (sq (.block 1 (sq (r1 [gm s8,gm l0] 11 1) (sq (r2 [gf 4 s4,gd l0,gm s5,ga 2 l1 l2,gf 1 l3,gd l4,gm nM,aU l6 cT,gn (.bin .shl cT l7),jG l5 l8,dQ l9 ch,gm l10,cI 11 (.ld 3 true s7),cI 11 (.ld 5 true s4),gmt 11 nM,gmt 11 s2,cI 11 (.call 785 [iW,jT,lf,mh] [[.sl 3 [.a,.a,.sl 8 [.a,.a,.a,.a,.a,.a,.sl 1 [.sl 3 [.a]],.sl 3 [.a,.a]]],.sl 1 [.a],.sl 5 [.a,.a,.a,.a,.sl 2 [.a,.a]]],[.a,.a,.a,.a,.sl 2 [.a,.a]],[.a],[.a]]),cI 11 (.un .not nK),gZ hZ qS] 12 18) (.cond mE (sq (r1 [gm dH] 3 0) .ret) .skip)))) (r1 [aU s8 cT,gm l0] 8 1))))))) (sq (r1 [gm px] 3 0) .ret)))))⟩
def w635 (h615:PU Y)(h785:Qi Y)(c:ba)(row:av)(mild:Bool)  (hp0:c.w.sm/\fh c.w.us row.terms=true):dN Y pY (.bool (iD c.w.us row mild)) [ba.D c,av.D row,.bool mild]:=by
 show cr _ _ _ [⟨_,_⟩,⟨_,_⟩,⟨_,_⟩,_,_,_,_,_,_,_,_,_,_] _;refine ak ?_;refine aR ?_;refine cU 1 ?_ (he:=by simp only[gp,er,eD,gy,gY,ct,Nat.reduceEqDiff,aN,aL,bZ,bC,bz,bX,bY,aO,aK,aE,bl,az,reduceCtorEq,bA,bK,Nat.reduceAdd,Nat.reduceLeDiff,dI.fz,ba.fz,av.fz];exact rfl) (hm:=by simp only[gp,er,eD,gy,gY,ct,Nat.reduceEqDiff,aN,aL,bZ,bC,bz,bX,bY,aO,aK,aE,bl,az,reduceCtorEq,bA,bK,Nat.reduceAdd,Nat.reduceLeDiff,dI.fz,ba.fz,av.fz];exact rfl);refine aA ?_;refine fP (v:=.sl 2 ((row.terms).map a8.D)) ?_;refine DW [.ref 5 [av.D row] 0 0] ?_;refine aq (hc:=h615 row.terms row) ?_;refine aR ?_;have him:=n9 c.w.us row.unit row.terms 0;obtain⟨x,hx⟩:∃x,(jf (fun t=>decide (t.u=row.unit)) row.terms 0)=x:=⟨_,rfl⟩
 rw[hx]at him⊢;obtain⟨n,hn⟩:∃n:Nat,n=x.toNat:=⟨_,rfl⟩
 have hna:0<=x->x=(n:Int)/\n<row.terms.length:=by
  rcases him with⟨h,_⟩|⟨q,h1,h2,_⟩<;>omega
 have hnb:x<0->uM row.terms row.unit=false:=by
  rcases him with⟨_,h,_⟩|⟨q,h1,h2,_⟩
  .exact fun _=>h
  .intro;omega
 have hnc:0<=x->row.terms[n]!.u=row.unit/\(aQ c.w.us row.terms row.unit)=row.terms[n]!.m/\uM row.terms row.unit=true:=by
  rcases him with⟨h,_⟩|⟨q,h1,h2,h3,h4,h5⟩
  .intro;omega
  .intro;obtain rfl:q=n:=ae;exact⟨h3,h4,h5⟩
 refine aR ?_;refine fP (v:=.sl 2 ((row.terms).map a8.D)) ?_;refine ar ?_;refine aT n (hj:=fun hf=>by simp at hf;omega) (hb:=fun hf=>by simp at hf;omega) ?_;refine ar ?_;refine aS (v:=.int .i64 row.terms[n]!.m) (hi:=fun hf=>by first|omega|(simp at hf;omega)) ?_;refine gC (iF row.terms[n]!.m 1) (hb:=fun _=>rfl) ?_;refine au ?_;refine dd (fun hc0=>?_) fun hc0=>?_
 .refine aF ?_;refine cn ?_;unfold iD;rcases hc0 with h|h
  .rw[hnb ae];rfl
  .by_cases q:0<=x
   .rw[(hnc q).2.1,cE h,Bool.and_false,Bool.false_and]
   .rw[hnb ae];rfl
 refine au ?_;have hx0:0<=x:=ae;obtain⟨hxn,hnl⟩:=hna hx0;obtain⟨hu,hm1,hh⟩:=hnc hx0;have htin:=sB (zc hp0.2 hnl);rw[hu]at htin;obtain⟨j,hwj⟩:∃j:Nat,row.unit=(j:Int):=⟨row.unit.toNat,ae⟩
 have hjt:row.unit.toNat=j:=ae;have hjl:j<c.w.us.length:=ae;have hju:=hp0.1 _ (aj hjl);have hj16:=hju.1;refine aA ?_;refine ay (v:=.sl 3 ((c.w.us).map bQ.D)) ?_;refine ar ?_;refine fP (v:=.int .i64 row.unit) ?_;refine aT j (hj:=fun _=>ae) (hb:=fun _=>ae) ?_;refine ar ?_;refine aS (v:=.sl 8 (c.w.us[j]!.cands.map dI.D)) (hi:=fun _=>ae) ?_;refine ar ?_;intro u0;refine aA ?_;refine bB hm (ι:=Nat) (fun k=>[.un,.un,⟨true,.bool mild⟩,.un,⟨true,.ref 5 [av.D row] 0 0⟩,⟨true,.int .i64 x⟩,.un,⟨true,.ptr 0 3 0 0⟩,⟨true,.int .i64 (k:Nat)⟩,⟨true,.int .i64 (c.w.us[j]!.cands.length:Nat)⟩,.un,.un,.un]) (fun k=>[(0,.buf 3 [ba.D c])]) 30 (fun k=>k<=c.w.us[j]!.cands.length/\dj (fun k=>decide (iF (aQ c.w.us row.terms row.unit) (2^(k+1))=0) ||lq c.w.us row k mild) 0 c.w.us[j]!.cands.length=dj (fun k=>decide (iF (aQ c.w.us row.terms row.unit) (2^(k+1))=0) ||lq c.w.us row k mild) k c.w.us[j]!.cands.length) (fun k=>c.w.us[j]!.cands.length-k) 0 ⟨ae,rfl⟩ (e8 [(0,0)]) ?_;rintro k ⟨hk,hr⟩;refine au ?_;refine dd (fun hc1=>?_) fun hc1=>?_
 .refine jr ?_;refine fP (v:=.sl 2 ((row.terms).map a8.D)) ?_;refine ar ?_;refine aT n (hj:=fun _=>ae) (hb:=fun _=>ae) ?_;refine ar ?_;refine aS (v:=.int .i64 row.terms[n]!.m) (hi:=fun hf=>by first|omega|(simp at hf;omega)) ?_;refine ar ?_;refine aC (hb:=fun hf=>by first|omega|(simp at hf;omega)) ?_;refine pB (2^(k+1)) (hb:=fun _=>rb ae ae) ?_;refine gC (iF row.terms[n]!.m (2^(k+1))) (hb:=fun _=>rfl) ?_;refine aA ?_;refine aX (d:=ba.D c) ?_;refine fP (v:=av.D row) ?_;refine aA ?_;refine bF (hc:=fun hf=>h785 c row ((k:Nat):Int) mild ⟨⟨hp0.1,ae,ae⟩,ae,by rw[hjt];omega⟩) ?_;refine au ?_;refine iE (fun hc2=>?_) fun hc2=>?_
  .refine bj ?_;refine cn ?_;unfold iD;rw[hjt,hr,bJ (i:=k) ae,hm1];simp only[Int.toNat_natCast]at*;grind
  refine au ?_;refine aC (hb:=fun hf=>by first|omega|(simp at hf;omega)) ?_;refine au ?_;exact⟨k+1,⟨ae,by rw[hr,bJ ae,hm1];grind⟩,ae,(e8 [(0,0)])⟩
 refine bj ?_;refine cn ?_;unfold iD;rw[hjt,hr,dC (i:=k) ae,hh,hm1];grind
def rX:aJ:=⟨1,2,nL,dK,(sq (r1 [⟨.zal,none⟩,gm dH] 1 1) (Kg px))⟩
def Sy {Y:Ctx}(hm:(Y.at 0).cP)     :dN Y rX (.bool true) [.agg []]:=by
 show cr _ _ _ [⟨_,_⟩,_] _;refine ak ?_;refine xF ?_;refine bj ?_;exact cn rfl
def pX:aJ:=⟨1,2,nL,dK,(sq (r1 [gb 1 s0,gm dH] 1 1) (Kg px))⟩
def Sz {Y:Ctx}(hm:(Y.at 0).cP)  (b:Bool)   :dN Y pX (.bool true) [.agg [.bool b]]:=by
 show cr _ _ _ [⟨_,_⟩,_] _;refine ak ?_;refine cR ?_;exact cn rfl
def tl:aJ:=⟨1,2,nL,dK,(sq (r1 [⟨.zal,none⟩,gm dH] 1 1) (Kg px))⟩
def SA {Y:Ctx}(hm:(Y.at 0).cP)     :dN Y tl (.bool true) [.agg []]:=by
 show cr _ _ _ [⟨_,_⟩,_] _;refine ak ?_;refine xF ?_;refine bj ?_;exact cn rfl
def rQ:aJ:=⟨1,2,nL,dK,(sq (r1 [⟨.zal,none⟩,gm dH] 1 1) (Kg dH))⟩
def SB {Y:Ctx}(hm:(Y.at 0).cP)     :dN Y rQ (.bool false) [.agg []]:=by
 show cr _ _ _ [⟨_,_⟩,_] _;refine ak ?_;refine xF ?_;refine bj ?_;exact cn rfl
def r6:aJ:=⟨2,4,[⟨2,some (3,true)⟩],[[.a,.sl 14 [.a,.a,.a,.a,.a,.a,.a,.a,.a,.a,.a,.a,.a,.a],.sl 14 [.a,.a,.a,.a,.a,.a,.a,.a,.a,.a,.a,.a,.a,.a]]],(sq (r1 [gb 3 (.c (.agg [.int .i64 0,.aB,.aB]))] 2 0) (sq (r1 [gm s0,gm s1,gl l1,il l2 cT,gn (.callF 109 l0 [l3] dK),aU cT l4,gm l5] 3 6) (sq (rg [gm s3,gm s0,gm s1,gm s3,ga 3 l2 l3,gf 2 l4,gd l5,gn (.callM 380 [l1,l6]),gn (.build [.int .i64 0,.aB,.aB] [(0,1,l0),(1,2,l7)]),gt 3 s2 l8] []) .ret)))⟩
def w157 {Y:Ctx}(hm:(Y.at 11).cP)(g:Gs)(n:Nat)(nm:Nat->dy)(ft:Nat->dy)(cs:Nat->List CW)(kk:Nat)(E:List D)(h109:FC (Y.at 11))(h380:Nb (Y.at 11))(hp0:(0<=g.i/\g.i<=800000)/\Ho n cs)(hp1:aV E=true):cr (Y.at 11) r6.body (lP r6 (fun d m=>d=Want.D (cG g n (gS cs))/\KO m g.eu n nm ft cs kk E):Ex->List b8->St->Prop) (fZ r6 [.ptr 0 2 0 0,.own 1 3 0 n]) ⟨11,[(0,.buf 2 [Gs.D g]),(1,.buf 3 (UB n nm ft fun j=>(cs j).length)),(2,.buf 8 ((cs 0).map (CW.D 10))),(3,.buf 8 ((cs 1).map (CW.D 10))),(4,.buf 8 ((cs 2).map (CW.D 10))),(5,.buf 8 ((cs 3).map (CW.D 10))),(6,.buf 8 ((cs 4).map (CW.D 10))),(7,.buf 8 ((cs 5).map (CW.D 10))),(8,.buf 8 ((cs 6).map (CW.D 10))),(9,.buf 8 ((cs 7).map (CW.D 10))),(10,.buf kk E)]⟩:=by
 show cr _ _ _ [⟨true,.ptr 0 2 0 0⟩,⟨true,.own 1 3 0 n⟩,.un,.un] ⟨11,[(0,.buf 2 [Gs.D g]),(1,.buf 3 (UB n nm ft fun j=>(cs j).length)),(2,.buf 8 ((cs 0).map (CW.D 10))),(3,.buf 8 ((cs 1).map (CW.D 10))),(4,.buf 8 ((cs 2).map (CW.D 10))),(5,.buf 8 ((cs 3).map (CW.D 10))),(6,.buf 8 ((cs 4).map (CW.D 10))),(7,.buf 8 ((cs 5).map (CW.D 10))),(8,.buf 8 ((cs 6).map (CW.D 10))),(9,.buf 8 ((cs 7).map (CW.D 10))),(10,.buf kk E)]⟩;refine ak ?_;refine au ?_;have hn:=hp0.2.1;have hpr:=jl (FK g.l g.i) ((n:Int) -1) ae;have hvl:g.val ((n:Int) -1)=jk (FK g.l g.i) ((n:Int) -1):=rfl;refine au ?_;intro u0;refine ar ?_;refine jU (hc:=h109 g ((n:Int) -1) ae ⟨by first|omega|(simp only[Gs.bH,Gs.eu];omega),by first|omega|(simp only[Gs.bH,Gs.eu];omega)⟩) ?_;refine au ?_;obtain⟨v,hv⟩:∃v:Nat,1+g.val ((n:Int) -1)=(v:Int):=⟨(1+g.val ((n:Int) -1)).toNat,ae⟩
 rw[hv];have hvn:v<n:=ae;have hcv:=hp0.2.2 v;refine aF ?_;refine gE v (hj:=fun _=>rfl) (hb:=fun _=>ae) ?_;refine ar ?_;refine jy (q:=UD nm ft fun j=>(cs j).length) (xs:=List.range n) (v:=.own (2+v) 8 0 (cs v).length) (hi:=fun _=>by rw[List.length_range];omega) (hv:=fun _=>by rw[aO,kT hvn];rfl) ?_;refine fG (nx':=19) (v:=bG.D (tx g.bH (gS cs v))) (m':=[(0,.buf 2 [Gs.D g.eu]),(1,.buf 3 (UB n nm ft fun j=>(cs j).length)),(2,.buf 8 ((cs 0).map (CW.D 10))),(3,.buf 8 ((cs 1).map (CW.D 10))),(4,.buf 8 ((cs 2).map (CW.D 10))),(5,.buf 8 ((cs 3).map (CW.D 10))),(6,.buf 8 ((cs 4).map (CW.D 10))),(7,.buf 8 ((cs 5).map (CW.D 10))),(8,.buf 8 ((cs 6).map (CW.D 10))),(9,.buf 8 ((cs 7).map (CW.D 10))),(10,.buf kk E),(11,.buf 3 [.agg [.int .i64 0,.aB,.aB]])]) (hc:=fun K' hK=>h380 g.bH (cs v) ⟨⟨by simp only[Gs.bH];omega,hcv.1⟩,hcv.2⟩ kk E hp1 _ (2+v) _ K' ⟨ae,ae,nI,nI⟩ ah (ib (fun t=>(cs t).map (CW.D 10)) ae) ah hK) (hn:=b7) ?_;refine bw (Want.D (⟨((v:Nat):Int),(tx g.bH (gS cs v))⟩)) ?_;refine au ?_;refine ey trivial yN (fq ah (?_)) ah ⟨by unfold cG;rw[hv],⟨cz,cz,eight ah ah ah ah ah ah ah ah,cz⟩⟩;rfl
end Go.Abs
