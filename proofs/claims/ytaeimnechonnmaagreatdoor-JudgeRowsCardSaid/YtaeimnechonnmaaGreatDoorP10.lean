/- A part of the proofs. -/
import Derived.Test.YtaeimnechonnmaaGreatDoorP06
set_option linter.all false
set_option maxRecDepth 4000
namespace Go.Abs
variable {Y:Ctx}(hm:(Y.at 0).cb)
def E4:aA:=⟨1,5,kV,cU,(sq (rg [gb 7 s0,gm cJ] [(2,0),(1,1)]) (sq (sq (r1 [gf 0 s2,gd l0,gn (dU l1 (.c (.int .i64 (-1)))),gm l2,gB 3 0 s2,gV 3 l4,cg 3 (dU l5 cD),eg l3 l6] 3 7) (.cond s3 (sq (r1 [gf 1 s2,gk 5 true l0,gn (.build [.int .i64 0,.int .i64 0,.int .i64 0,.str [],.str []] []),gn (.eqA false true [.i .i64,.i .i64,.i .i64,.s,.s] l1 l2),gm l3,ew 4 6 s2,gS 4 l5,bS 4 (.un .not l6),eP l4 l7,gm l8] 1 9) .ret) (sq (r1 [gf 0 s2,gd l0,dm l1 bJ] 4 2) (vH s4 cJ)))) (sq (r1 [gf 1 s2,gk 5 true l0,gx 209 [l1] lB,gm l2,ew 3 1 s2,ew 3 4 l4,gS 3 l5,bS 3 (dU l6 cse),eP l3 l7,gm l8] 1 9) .ret)))⟩
def LH {Y:Ctx}(hm:(Y.at 0).cb)(h209:xr Y)(c:Cut)  (hp0:c.v.sm):dj Y E4 (.bool (jA c)) [Cut.D c]:=by
 show bO _ _ _ [⟨_,_⟩,_,_,_,_] _;refine aj ?_;refine aT ?_;refine au (v:=.int .i64 c.e) ?_;refine aq ?_;refine au (v:=.int .i64 c.e) ?_;refine aq ?_;refine cF (fun hc0=>?_) fun hc0=>?_
 .refine aq ?_;refine au (v:=aU.D c.v) ?_;refine bP (aU.D (⟨0,0,0,[],[]⟩)) ?_;refine rQ (hb:=aU.eq _ _) ?_;refine ax ?_;refine au (v:=.bool c.a) ?_;refine aB ?_;refine aY ?_;first|(grind [jA,zV];done)|(simp_all[jA,zV];done)
 refine aq ?_;refine au (v:=.int .i64 c.e) ?_;refine ax ?_;refine cF (fun hc1=>?_) fun hc1=>?_
 .refine aB ?_;refine aY ?_;first|(grind [jA,zV];done)|(simp_all[jA,zV];done)
 refine aq ?_;refine au (v:=aU.D c.v) ?_;refine al (hc:=h209 (c.v) ?_) ?_;rotate_left;first|assumption|omega|(grind [Cut.sm,Span.sm,bd.sm,bh,ak,Want.sm,dk.sm,cr.sm,bT.sm])
 refine aq ?_;refine au (v:=.str c.v.build) ?_;refine aB ?_;refine aY ?_;first|(grind [jA,zV];done)|(simp_all[jA,zV];done)
def vz:aA:=⟨2,11,[⟨2,none⟩],cU,(sq (rg [gb 7 s0,gb 7 s1,gm bJ] [(3,0),(4,1),(2,2)]) (sq (sq (r1 [gk 7 true s3,gx 1087 [l0] sZ,jD l1,gm l2,cg 3 (.ld 7 true s4),cg 3 (.call 1087 [l4] sZ),cg 3 (.un .not l5),eg l3 l6] 5 7) (.cond s5 (sq (r1 [gm bJ] 2 0) .ret) (sq (r1 [gf 0 s3,gd l0,dm l1 bJ,gm l2,gB 3 0 s4,gV 3 l4,cg 3 (fL l5 bJ),eg l3 l6] 6 7) (.cond s6 (sq (r1 [gf 0 s3,gd l0,gf 0 s4,gd l2,gx 532 [l1,l3] j9,gm l4] 2 5) .ret) (sq (r1 [gf 1 s3,gk 5 true l0,gf 1 s4,gk 5 true l2,gx 295 [l1,l3] [[.a,.a,.a,.a,.a],[.a,.a,.a,.a,.a]],gm l4] 7 5) (sq (r1 [gm s7,dm l0 bJ] 8 1) (.cond s8 (sq (r1 [gm s7,gm l0] 2 1) .ret) (sq (r1 [gf 6 s3,gd l0,gf 6 s4,gd l2,gn (.eqA false false [.b] l1 l3)] 9 4) (.cond s9 (sq (r1 [gm bJ] 2 0) .ret) (sq (r1 [gf 6 s4,gd l0] 10 1) (.cond gu (sq (r1 [gn (.mv (.c (.int .i64 (-1))))] 2 0) .ret) .skip))))))))))) (sq (r1 [gm cD] 2 0) .ret)))⟩
def Ly {Y:Ctx}(hm:(Y.at 0).cb)(h295:EA Y)(h532:EE Y)(h1087:yN Y)(a:Cut)(b:Cut)  (hp0:a.v.sm/\b.v.sm):dj Y vz (.int .i64 (eL a b)) [Cut.D a,Cut.D b]:=by
 show bO _ _ _ [⟨_,_⟩,⟨_,_⟩,_,_,_,_,_,_,_,_,_] _;refine aj ?_;refine aT ?_;refine aH (d:=Cut.D a) ?_;refine al (hc:=h1087 (a) ?_) ?_;rotate_left;first|assumption|omega|(grind [Cut.sm,Span.sm,bd.sm,bh,ak,Want.sm,dk.sm,cr.sm,bT.sm])
 refine ax ?_;refine aH (d:=Cut.D b) ?_;refine bp (hc:=fun hf=>h1087 (b) ?_) ?_;rotate_left;first|assumption|omega|(grind [Cut.sm,Span.sm,bd.sm,bh,ak,Want.sm,dk.sm,cr.sm,bT.sm])
 refine aq ?_;refine cF (fun hc0=>?_) fun hc0=>?_
 .refine aB ?_;refine cI ?_;first|(grind [eL,cK];done)|(simp_all[eL,cK];done)
 refine aq ?_;refine au (v:=.int .i64 a.e) ?_;refine aq ?_;refine au (v:=.int .i64 b.e) ?_;refine aq ?_;refine cF (fun hc1=>?_) fun hc1=>?_
 .refine aq ?_;refine au (v:=.int .i64 a.e) ?_;refine av ?_;refine au (v:=.int .i64 b.e) ?_;refine al (hc:=h532 (a.e) (b.e)) ?_;refine aq ?_;refine cI ?_;first|(grind [eL,cK];done)|(simp_all[eL,cK];done)
 refine aq ?_;refine au (v:=aU.D a.v) ?_;refine av ?_;refine au (v:=aU.D b.v) ?_;refine al (hc:=h295 (a.v) (b.v) ?_) ?_;rotate_left;first|assumption|omega|(grind [Cut.sm,Span.sm,bd.sm,bh,ak,Want.sm,dk.sm,cr.sm,bT.sm])
 refine cC ?_;refine cF (fun hc2=>?_) fun hc2=>?_
 .refine aT ?_;refine cI ?_;first|(grind [eL,cK];done)|(simp_all[eL,cK];done)
 refine aq ?_;refine au (v:=.bool a.a) ?_;refine av ?_;refine au (v:=.bool b.a) ?_;refine rQ (hb:=xE _ _) ?_;refine av ?_;refine cF (fun hc3=>?_) fun hc3=>?_
 .refine aB ?_;refine cI ?_;first|(grind [eL,cK];done)|(simp_all[eL,cK];done)
 refine aq ?_;refine au (v:=.bool b.a) ?_;refine av ?_;refine cF (fun hc4=>?_) fun hc4=>?_
 .refine aB ?_;refine cI ?_;first|(grind [eL,cK];done)|(simp_all[eL,cK];done)
 refine aB ?_;refine cI ?_;first|(grind [eL,cK];done)|(simp_all[eL,cK];done)
def A8:aA:=⟨2,8,[⟨2,none⟩],cU,(sq (rg [gb 7 s0,gb 5 s1,gm cJ] [(3,0),(4,1),(2,2)]) (sq (sq (r1 [gk 7 true s3,gx 1087 [l0] sZ,jD l1,gm l2,cg 3 (.ld 5 true s4),cg 3 (.call 209 [l4] lB),cg 3 (.un .not l5),eg l3 l6] 5 7) (.cond s5 (sq (r1 [gm cJ] 2 0) .ret) (sq (r1 [gf 0 s3,gd l0,dm l1 bJ] 6 2) (.cond s6 (sq (r1 [gf 0 s3,gd l0,aN l1 bJ,gm l2] 2 3) .ret) .skip)))) (sq (r1 [gf 1 s3,gk 5 true l0,gk 5 true s4,gx 295 [l1,l2] [[.a,.a,.a,.a,.a],[.a,.a,.a,.a,.a]],gm l3] 7 4) (sq (r1 [gm s7,aN l0 bJ,gm l1,eh 2 s7,cg 2 (dU l3 bJ),eh 2 l4,ew 5 6 s3,gS 5 l6,bS 5 (.un .not l7),sC 2 l5 l8,eg l2 l9,gm l10] 2 11) .ret))))⟩
def LF {Y:Ctx}(hm:(Y.at 0).cb)(h209:xr Y)(h295:EA Y)(h1087:yN Y)(c:Cut)(v:aU)  (hp0:c.v.sm/\v.sm):dj Y A8 (.bool (eY c v)) [Cut.D c,aU.D v]:=by
 show bO _ _ _ [⟨_,_⟩,⟨_,_⟩,_,_,_,_,_,_] _;refine aj ?_;refine aT ?_;refine aH (d:=Cut.D c) ?_;refine al (hc:=h1087 (c) ?_) ?_;rotate_left;first|assumption|omega|(grind [Cut.sm,Span.sm,bd.sm,bh,ak,Want.sm,dk.sm,cr.sm,bT.sm])
 refine ax ?_;refine aH (d:=aU.D v) ?_;refine bp (hc:=fun hf=>h209 (v) ?_) ?_;rotate_left;first|assumption|omega|(grind [Cut.sm,Span.sm,bd.sm,bh,ak,Want.sm,dk.sm,cr.sm,bT.sm])
 refine aq ?_;refine cF (fun hc0=>?_) fun hc0=>?_
 .refine aB ?_;refine aY ?_;first|(grind [eY];done)|(simp_all[eY];done)
 refine aq ?_;refine au (v:=.int .i64 c.e) ?_;refine ax ?_;refine cF (fun hc1=>?_) fun hc1=>?_
 .refine aq ?_;refine au (v:=.int .i64 c.e) ?_;refine aE ?_;refine aY ?_;first|(grind [eY];done)|(simp_all[eY];done)
 refine aq ?_;refine au (v:=aU.D c.v) ?_;refine aH (d:=aU.D v) ?_;refine al (hc:=h295 (c.v) (v) ?_) ?_;rotate_left;first|assumption|omega|(grind [Cut.sm,Span.sm,bd.sm,bh,ak,Want.sm,dk.sm,cr.sm,bT.sm])
 refine lX ?_;refine au (v:=.bool c.a) ?_;refine aT ?_;refine aY ?_;first|(grind [eY];done)|(simp_all[eY];done)
def vA:aA:=⟨1,3,kV,cU,(sq (rg [gb 14 s0,gm cJ] [(2,0),(1,1)]) (sq (r1 [gf 0 s2,gk 7 true l0,gx 1087 [l1] sZ,gm l2,ew 3 7 s2,bS 3 (.ld 7 true l4),bS 3 (.call 1087 [l5] sZ),eP l3 l6,gm l7,ew 8 0 s2,bS 8 (.ld 7 true l9),ew 8 7 s2,bS 8 (.ld 7 true gw),bS 8 (.call 1024 [l10,ik] [[.a,.a,.a,.a,.a,.a,.a],[.a,.a,.a,.a,.a,.a,.a]]),bS 8 (iJ iL bJ),eP l8 jy,gm jZ] 1 16) .ret))⟩
def Lx {Y:Ctx}(hm:(Y.at 0).cb)(h1024:B6 Y)(h1087:yN Y)(s:Span)  (hp0:s.sm):dj Y vA (.bool (iD s)) [Span.D s]:=by
 show bO _ _ _ [⟨_,_⟩,_,_] _;refine aj ?_;refine aB ?_;refine au (v:=Cut.D s.f) ?_;refine al (hc:=h1087 (s.f) ?_) ?_;rotate_left;first|assumption|omega|(grind [Cut.sm,Span.sm,bd.sm,bh,ak,Want.sm,dk.sm,cr.sm,bT.sm])
 refine ax ?_;refine au (v:=Cut.D s.t) ?_;refine bp (hc:=fun hf=>h1087 (s.t) ?_) ?_;rotate_left;first|assumption|omega|(grind [Cut.sm,Span.sm,bd.sm,bh,ak,Want.sm,dk.sm,cr.sm,bT.sm])
 refine aq ?_;refine au (v:=Cut.D s.f) ?_;refine av ?_;refine au (v:=Cut.D s.t) ?_;refine bp (hc:=fun hf=>h1024 (s.f) (s.t) ?_) ?_;rotate_left;first|assumption|omega|(grind [Cut.sm,Span.sm,bd.sm,bh,ak,Want.sm,dk.sm,cr.sm,bT.sm])
 refine aB ?_;refine aY ?_;first|(grind [iD];done)|(simp_all[iD];done)
def A9:aA:=⟨2,5,[⟨2,none⟩],cU,(sq (rg [gb 14 s0,gb 5 s1,gm cJ] [(3,0),(4,1),(2,2)]) (sq (r1 [gk 14 true s3,gx 1023 [l0] [[.a,.a,.a,.a,.a,.a,.a,.a,.a,.a,.a,.a,.a,.a]],gm l1,bS 2 (.ld 5 true s4),bS 2 (.call 209 [l3] lB),eP l2 l4,gm l5,ew 6 0 s3,bS 6 (.ld 7 true l7),bS 6 (.ld 5 true s4),bS 6 (.call 1055 [l8,l9] [[.a,.a,.a,.a,.a,.a,.a],[.a,.a,.a,.a,.a]]),eP l6 l10,gm gw,ew 12 7 s3,bS 12 (.ld 7 true iL),bS 12 (.ld 5 true s4),bS 12 (.call 1055 [jy,jZ] [[.a,.a,.a,.a,.a,.a,.a],[.a,.a,.a,.a,.a]]),bS 12 (.un .not kU),eP ik oz,gm qp] 2 19) .ret))⟩
def w980 {Y:Ctx}(hm:(Y.at 0).cb)(h209:xr Y)(h1023:B5 Y)(h1055:Gc Y)(s:Span)(v:aU)  (hp0:s.sm/\v.sm):dj Y A9 (.bool (jH s v)) [Span.D s,aU.D v]:=by
 show bO _ _ _ [⟨_,_⟩,⟨_,_⟩,_,_,_] _;refine aj ?_;refine aB ?_;refine aH (d:=Span.D s) ?_;refine al (hc:=h1023 (s) ?_) ?_;rotate_left;first|assumption|omega|(grind [Cut.sm,Span.sm,bd.sm,bh,ak,Want.sm,dk.sm,cr.sm,bT.sm])
 refine av ?_;refine aH (d:=aU.D v) ?_;refine bp (hc:=fun hf=>h209 (v) ?_) ?_;rotate_left;first|assumption|omega|(grind [Cut.sm,Span.sm,bd.sm,bh,ak,Want.sm,dk.sm,cr.sm,bT.sm])
 refine aq ?_;refine au (v:=Cut.D s.f) ?_;refine aH (d:=aU.D v) ?_;refine bp (hc:=fun hf=>h1055 (s.f) (v) ?_) ?_;rotate_left;first|assumption|omega|(grind [Cut.sm,Span.sm,bd.sm,bh,ak,Want.sm,dk.sm,cr.sm,bT.sm])
 refine aq ?_;refine au (v:=Cut.D s.t) ?_;refine aH (d:=aU.D v) ?_;refine bp (hc:=fun hf=>h1055 (s.t) (v) ?_) ?_;rotate_left;first|assumption|omega|(grind [Cut.sm,Span.sm,bd.sm,bh,ak,Want.sm,dk.sm,cr.sm,bT.sm])
 refine aB ?_;refine aY ?_;first|(grind [jH,iD];done)|(simp_all[jH,iD];done)
def FP:aA:=⟨1,9,kV,cU,(sq (r1 [gm cJ] 1 0) (sq (sq (rg [gm s0,gl l0,gm bJ] [(5,0),(3,1),(2,2)]) (.block 0 (.loop (sq (r1 [aN s2 s3] 4 0) (sq (fH s4 0) (sq (.block 1 (sq (rg [gm s2,ga 14 s5 s2,gk 14 true l1,gb 14 (.c (.agg [.int .i64 0,.int .i64 0,.int .i64 0,.int .i64 0,.str [],.str [],.bool false,.int .i64 0,.int .i64 0,.int .i64 0,.int .i64 0,.str [],.str [],.bool false])),gm l0,gt 14 l3 l2] [(6,3),(7,4)]) (sq (r2 [gk 14 true s6,gx 1023 [l0] [[.a,.a,.a,.a,.a,.a,.a,.a,.a,.a,.a,.a,.a,.a]],jD l1,gm l2,eh 3 s7,cg 3 (dN l4 bJ),eh 3 l5,gmt 6 s0,gmt 6 s7,bS 6 (lj l8 cD),bS 6 (.ia 14 l7 l9),ew 6 7 l10,bS 6 (.ld 7 true gw),ew 6 0 s6,bS 6 (.ld 7 true iL),bS 6 (.call 1024 [ik,jy] [[.a,.a,.a,.a,.a,.a,.a],[.a,.a,.a,.a,.a,.a,.a]]),bS 6 (fX jZ bJ),sC 3 l6 kU,eg l3 oz] 8 18) (vH s8 cJ)))) (r1 [aR s2 cD,gm l0] 2 1))))))) (CU ma)))⟩
def w925 (h1023:B5 Y)(h1024:B6 Y)(l:List Span)  (hp0:bh l):dj Y FP (.bool (jM l)) [.sl 14 (l.map Span.D)]:=by
 show bO _ _ _ [⟨_,_⟩,_,_,_,_,_,_,_,_] _;refine aj ?_;refine aT ?_;intro u0;refine ax ?_;refine bD hm (ι:=Nat) (fun i=>[⟨true,.sl 14 ((l).map Span.D)⟩,.un,⟨true,.int .i64 (i:Nat)⟩,⟨true,.int .i64 (l.length:Nat)⟩,.un,⟨true,.sl 14 ((l).map Span.D)⟩,.un,.un,.un]) (fun i=>[]) 4 (fun i=>i<=l.length/\jM l=cv (qa l) i l.length) (fun i=>l.length-i) 0 ⟨ae,rfl⟩ (eo []) ?_;rintro i ⟨hi,hr⟩;refine aq ?_;refine cF (fun hc0=>?_) fun hc0=>?_
 .refine aE ?_;refine ba (i) (hj:=fun hf=>by first|omega|(simp at hf;omega)) (hb:=fun hf=>by first|omega|(simp at hf;omega)) ?_;refine a7 (v:=Span.D ((l)[i]!)) (hi:=fun hf=>by first|omega|(simp at hf;omega)) ?_;refine ax ?_;refine dq (Span.D ((l)[i]!)) (he:=ca) ?_;refine ax ?_;refine aH (d:=Span.D ((l)[i]!)) ?_;refine al (hc:=h1023 ((l)[i]!) ?_) ?_;rotate_left;first|assumption|omega|(grind [Cut.sm,Span.sm,bd.sm,bh,ak,Want.sm,dk.sm,cr.sm,bT.sm])
  refine cC ?_;refine er (hb:=fun hf=>by first|omega|(simp at hf;omega)) ?_;refine ba ((i-1)) (hj:=fun hf=>by first|omega|(simp at hf;omega)) (hb:=fun hf=>by first|omega|(simp at hf;omega)) ?_;refine av ?_;refine a7 (v:=Cut.D ((l)[(i-1)]!.t)) (hi:=fun hf=>by first|omega|(simp at hf;omega)) ?_;refine av ?_;refine au (v:=Cut.D ((l)[i]!.f)) ?_;refine bp (hc:=fun hf=>h1024 ((l)[(i-1)]!.t) ((l)[i]!.f) ?_) ?_;rotate_left;first|assumption|omega|(grind [Cut.sm,Span.sm,bd.sm,bh,ak,Want.sm,dk.sm,cr.sm,bT.sm])
  refine aE ?_;refine eE (fun hc1=>?_) fun hc1=>?_
  .refine aT ?_;refine aY ?_;rw[hr,aQ ae];first|(grind [qa];done)|(simp_all[qa];done)
  refine aq ?_;refine aI (hb:=fun hf=>by first|omega|(simp at hf;omega)) ?_;refine aq ?_;exact⟨i+1,⟨ae,by rw[hr,aQ ae];first|(grind [qa];done)|(simp_all[qa];done)⟩,ae,(eo [])⟩
 refine aT ?_;refine aY ?_;rw[hr,cw ae]
def FO:aA:=⟨2,11,[⟨2,none⟩],cU,(sq (rg [gb 5 s1,gm cJ] [(9,0),(2,1)]) (sq (sq (r1 [gm s0,gx 925 [l0] [[.sl 14 [.a,.a,.a,.a,.a,.a,.a,.a,.a,.a,.a,.a,.a,.a]]],jD l1] 3 2) (.cond s3 (sq (r1 [gm cJ] 2 0) .ret) .skip)) (sq (sq (rg [gm s0,gl l0,gm bJ] [(7,0),(5,1),(4,2)]) (.block 0 (.loop (sq (r1 [aN s4 s5] 6 0) (sq (fH s6 0) (sq (.block 1 (sq (r1 [ga 14 s7 s4,gk 14 true l0,gb 14 (.c (.agg [.int .i64 0,.int .i64 0,.int .i64 0,.int .i64 0,.str [],.str [],.bool false,.int .i64 0,.int .i64 0,.int .i64 0,.int .i64 0,.str [],.str [],.bool false])),gt 14 l2 l1] 8 2) (sq (r1 [gk 14 true s8,gk 5 true s9,gx 980 [l0,l1] [[.a,.a,.a,.a,.a,.a,.a,.a,.a,.a,.a,.a,.a,.a],[.a,.a,.a,.a,.a]]] 10 2) (.cond gu (sq (r1 [gm ma] 2 0) .ret) .skip)))) (r1 [aR s4 cD,gm l0] 4 1))))))) (sq (r1 [gm cJ] 2 0) .ret))))⟩
def w861 (h925:Hi Y)(h980:JX Y)(l:List Span)(v:aU)  (hp0:bh l/\v.sm):dj Y FO (.bool (kD l v)) [.sl 14 (l.map Span.D),aU.D v]:=by
 show bO _ _ _ [⟨_,_⟩,⟨_,_⟩,_,_,_,_,_,_,_,_,_] _;refine aj ?_;refine aT ?_;refine al (hc:=h925 (l) ?_) ?_;rotate_left;first|assumption|omega|(grind [Cut.sm,Span.sm,bd.sm,bh,ak,Want.sm,dk.sm,cr.sm,bT.sm])
 refine ax ?_;refine cF (fun hc0=>?_) fun hc0=>?_
 .refine aB ?_;refine aY ?_;unfold kD;simp_all
 refine aB ?_;intro u0;refine ax ?_;refine bD hm (ι:=Nat) (fun i=>[⟨true,.sl 14 ((l).map Span.D)⟩,.un,.un,.un,⟨true,.int .i64 (i:Nat)⟩,⟨true,.int .i64 (l.length:Nat)⟩,.un,⟨true,.sl 14 ((l).map Span.D)⟩,.un,⟨true,.ptr 0 5 0 0⟩,.un]) (fun i=>[(0,.buf 5 [aU.D v])]) 8 (fun i=>i<=l.length/\kD l v=jT (fun i=>jH l[i]! v) i l.length) (fun i=>l.length-i) 0 ⟨ae,by unfold kD;rw[show jM l=true by simpa using hc0];rfl⟩ (eo [(0,0)]) ?_;rintro i ⟨hi,hr⟩;refine aq ?_;refine cF (fun hc1=>?_) fun hc1=>?_
 .refine aq ?_;refine ba (i) (hj:=fun hf=>by first|omega|(simp at hf;omega)) (hb:=fun hf=>by first|omega|(simp at hf;omega)) ?_;refine a7 (v:=Span.D ((l)[i]!)) (hi:=fun hf=>by first|omega|(simp at hf;omega)) ?_;refine av ?_;refine dq (Span.D ((l)[i]!)) (he:=ca) ?_;refine ax ?_;refine aH (d:=Span.D ((l)[i]!)) ?_;refine aH (d:=aU.D v) ?_;refine al (hc:=h980 ((l)[i]!) (v) ?_) ?_;rotate_left;first|assumption|omega|(grind [Cut.sm,Span.sm,bd.sm,bh,ak,Want.sm,dk.sm,cr.sm,bT.sm])
  refine av ?_;refine eE (fun hc2=>?_) fun hc2=>?_
  .refine aT ?_;refine aY ?_;rw[hr,ig ae];simp_all
  refine aq ?_;refine aI (hb:=fun hf=>by first|omega|(simp at hf;omega)) ?_;refine aq ?_;exact⟨i+1,⟨ae,by rw[hr,ig ae];simp_all⟩,ae,(eo [(0,0)])⟩
 refine aT ?_;refine aY ?_;rw[hr,nG ae]
def wR:aA:=⟨1,3,kV,cU,(sq (rg [gb 7 s0,gm cJ] [(2,0),(1,1)]) (sq (r1 [gf 0 s2,gd l0,dm l1 bJ,gm l2,gB 3 6 s2,gV 3 l4,cg 3 (.un .not l5),eh 3 l6,ew 7 1 s2,ew 7 3 l8,gS 7 l9,bS 7 (dU l10 cse),sC 3 l7 gw,eh 3 ik,ew 13 1 s2,bS 13 (.ld 5 true jy),bS 13 (.mv (.c (.agg [.int .i64 0,.int .i64 0,.int .i64 0,.str [],.str []]))),bS 13 (.eqA true true [.i .i64,.i .i64,.i .i64,.s,.s] jZ kU),sC 3 iL oz,eg l3 qp,gm uu] 1 20) .ret))⟩
def w924 {Y:Ctx}(hm:(Y.at 0).cb)  (c:Cut)   :dj Y wR (.bool (j4 c)) [Cut.D c]:=by
 show bO _ _ _ [⟨_,_⟩,_,_] _;refine aj ?_;refine aB ?_;refine au (v:=.int .i64 c.e) ?_;refine aq ?_;refine au (v:=.bool c.a) ?_;refine aE ?_;refine au (v:=.str c.v.pre) ?_;refine aE ?_;refine au (v:=aU.D c.v) ?_;refine Lk (d:=aU.D zV) ?_;refine zd (hb:=aU.eq _ _) ?_;refine aB ?_;refine aY ?_;first|(grind [j4,zV];done)|(simp_all[j4,zV];done)
def FU:aA:=⟨1,9,kV,cU,(sq (rg [gb 2 s0,gm cJ] [(2,0),(1,1)]) (sq (sq (rg [gf 0 s2,gd l0,gl l1,gm bJ] [(6,1),(4,2),(3,3)]) (.block 0 (.loop (sq (r1 [aN s3 s4] 5 0) (sq (fH s5 0) (sq (.block 1 (sq (r1 [ga 14 s6 s3,gk 14 true l0,gb 14 (.c (.agg [.int .i64 0,.int .i64 0,.int .i64 0,.int .i64 0,.str [],.str [],.bool false,.int .i64 0,.int .i64 0,.int .i64 0,.int .i64 0,.str [],.str [],.bool false])),gt 14 l2 l1] 7 2) (sq (r1 [gf 0 s7,gk 7 true l0,gx 924 [l1] sZ,jD l2,gm l3,gB 4 7 s7,cg 4 (.ld 7 true l5),cg 4 (.call 924 [l6] sZ),cg 4 (.un .not l7),eg l4 l8] 8 9) (vH s8 cJ)))) (r1 [aR s3 cD,gm l0] 3 1))))))) (sq (r1 [gf 0 s2,gd l0,gx 925 [l1] [[.sl 14 [.a,.a,.a,.a,.a,.a,.a,.a,.a,.a,.a,.a,.a,.a]]],gm l2,ew 3 1 s2,gS 3 l4,bS 3 (.call 925 [l5] [[.sl 14 [.a,.a,.a,.a,.a,.a,.a,.a,.a,.a,.a,.a,.a,.a]]]),eP l3 l6,gm l7] 1 8) .ret)))⟩
def w780 (h924:JO Y)(h925:Hi Y)(s:bd)  (hp0:s.sm):dj Y FU (.bool (og s)) [bd.D s]:=by
 show bO _ _ _ [⟨_,_⟩,_,_,_,_,_,_,_,_] _;refine aj ?_;refine aT ?_;refine au (v:=.sl 14 ((s.rel).map Span.D)) ?_;refine av ?_;intro u0;refine ax ?_;refine bD hm (ι:=Nat) (fun i=>[.un,.un,⟨true,.ptr 0 2 0 0⟩,⟨true,.int .i64 (i:Nat)⟩,⟨true,.int .i64 (s.rel.length:Nat)⟩,.un,⟨true,.sl 14 ((s.rel).map Span.D)⟩,.un,.un]) (fun i=>[(0,.buf 2 [bd.D s])]) 6 (fun i=>i<=s.rel.length/\og s=(cv (fun i=>j4 s.rel[i]!.f&&j4 s.rel[i]!.t) i s.rel.length&&(jM s.rel&&jM s.pr))) (fun i=>s.rel.length-i) 0 ⟨ae,(FQ s).symm⟩ (eo [(0,0)]) ?_;rintro i ⟨hi,hr⟩;refine aq ?_;refine cF (fun hc0=>?_) fun hc0=>?_
 .refine aq ?_;refine ba (i) (hj:=fun hf=>by first|omega|(simp at hf;omega)) (hb:=fun hf=>by first|omega|(simp at hf;omega)) ?_;refine a7 (v:=Span.D ((s.rel)[i]!)) (hi:=fun hf=>by first|omega|(simp at hf;omega)) ?_;refine av ?_;refine dq (Span.D ((s.rel)[i]!)) (he:=ca) ?_;refine aq ?_;refine au (v:=Cut.D ((s.rel)[i]!.f)) ?_;refine al (hc:=h924 ((s.rel)[i]!.f)) ?_;refine aq ?_;refine au (v:=Cut.D ((s.rel)[i]!.t)) ?_;refine al (hc:=h924 ((s.rel)[i]!.t)) ?_;refine aq ?_;refine eE (fun hc1=>?_) fun hc1=>?_
  .refine aT ?_;refine aY ?_;rw[hr,aQ ae];rcases hc1 with h|h<;>simp only[h,Bool.and_false,Bool.false_and]
  refine aq ?_;refine aI (hb:=fun hf=>by first|omega|(simp at hf;omega)) ?_;refine aq ?_;exact⟨i+1,⟨ae,by rw[hr,aQ ae];simp_all⟩,ae,(eo [(0,0)])⟩
 refine aE ?_;refine au (v:=.sl 14 ((s.rel).map Span.D)) ?_;refine al (hc:=h925 (s.rel) ?_) ?_;rotate_left;first|assumption|omega|(grind [Cut.sm,Span.sm,bd.sm,bh,ak,Want.sm,dk.sm,cr.sm,bT.sm])
 refine ax ?_;refine au (v:=.sl 14 ((s.pr).map Span.D)) ?_;refine bp (hc:=fun hf=>h925 (s.pr) ?_) ?_;rotate_left;first|assumption|omega|(grind [Cut.sm,Span.sm,bd.sm,bh,ak,Want.sm,dk.sm,cr.sm,bT.sm])
 refine aE ?_;refine aY ?_;rw[hr,cw ae];simp
def FR:aA:=⟨2,7,[⟨2,none⟩],cU,(sq (rg [gb 2 s0,gb 5 s1,gm cJ] [(3,0),(4,1),(2,2)]) (sq (sq (r1 [gk 2 true s3,gx 780 [l0] [[.sl 14 [.a,.a,.a,.a,.a,.a,.a,.a,.a,.a,.a,.a,.a,.a],.sl 14 [.a,.a,.a,.a,.a,.a,.a,.a,.a,.a,.a,.a,.a,.a]]],jD l1,gm l2,cg 3 (.ld 5 true s4),cg 3 (.call 209 [l4] lB),cg 3 (.un .not l5),eg l3 l6] 5 7) (.cond s5 (sq (r1 [gm cJ] 2 0) .ret) .skip)) (sq (sq (r1 [gf 3 s4,gd l0,bL l1 cse] 6 2) (.cond s6 (sq (r1 [gf 0 s3,gd l0,gk 5 true s4,gx 861 [l1,l2] [[.sl 14 [.a,.a,.a,.a,.a,.a,.a,.a,.a,.a,.a,.a,.a,.a]],[.a,.a,.a,.a,.a]],gm l3] 2 4) .ret) .skip)) (sq (r1 [gf 1 s3,gd l0,gk 5 true s4,gx 861 [l1,l2] [[.sl 14 [.a,.a,.a,.a,.a,.a,.a,.a,.a,.a,.a,.a,.a,.a]],[.a,.a,.a,.a,.a]],gm l3] 2 4) .ret))))⟩
def w712 {Y:Ctx}(hm:(Y.at 0).cb)(h209:xr Y)(h780:He Y)(h861:JK Y)(s:bd)(v:aU)  (hp0:s.sm/\v.sm):dj Y FR (.bool (mE s v)) [bd.D s,aU.D v]:=by
 show bO _ _ _ [⟨_,_⟩,⟨_,_⟩,_,_,_,_,_] _;refine aj ?_;refine aT ?_;refine aH (d:=bd.D s) ?_;refine al (hc:=h780 (s) ?_) ?_;rotate_left;first|assumption|omega|(grind [Cut.sm,Span.sm,bd.sm,bh,ak,Want.sm,dk.sm,cr.sm,bT.sm])
 refine ax ?_;refine aH (d:=aU.D v) ?_;refine bp (hc:=fun hf=>h209 (v) ?_) ?_;rotate_left;first|assumption|omega|(grind [Cut.sm,Span.sm,bd.sm,bh,ak,Want.sm,dk.sm,cr.sm,bT.sm])
 refine aq ?_;refine cF (fun hc0=>?_) fun hc0=>?_
 .refine aB ?_;refine aY ?_;first|(grind [mE];done)|(simp_all[mE];done)
 refine aE ?_;refine au (v:=.str v.pre) ?_;refine ax ?_;refine cF (fun hc1=>?_) fun hc1=>?_
 .refine aq ?_;refine au (v:=.sl 14 ((s.rel).map Span.D)) ?_;refine aH (d:=aU.D v) ?_;refine al (hc:=h861 (s.rel) (v) ?_) ?_;rotate_left;first|assumption|omega|(grind [Cut.sm,Span.sm,bd.sm,bh,ak,Want.sm,dk.sm,cr.sm,bT.sm])
  refine aq ?_;refine aY ?_;first|(grind [mE];done)|(simp_all[mE];done)
 refine aq ?_;refine au (v:=.sl 14 ((s.pr).map Span.D)) ?_;refine aH (d:=aU.D v) ?_;refine al (hc:=h861 (s.pr) (v) ?_) ?_;rotate_left;first|assumption|omega|(grind [Cut.sm,Span.sm,bd.sm,bh,ak,Want.sm,dk.sm,cr.sm,bT.sm])
 refine aq ?_;refine aY ?_;first|(grind [mE];done)|(simp_all[mE];done)
def yi:aA:=⟨1,6,kV,[[.sl 1 [.a]]],(sq (r1 [gm (.c (.aC))] 1 0) (sq (r1 [gm (.c (.aC))] 5 0) (sq (sq (r1 [gm bJ] 2 0) (.block 0 (.loop (sq (sq (r1 [gm s2,uA l0 (i6 16)] 3 1) (fH s3 0)) (sq (.block 1 (sq (r1 [gm s0,gm s2,gx 381 [l1] cU,gY l0 l2,dm l3 bJ] 4 4) (.cond s4 (r1 [gm s5,gm s2,jk l1 cD,gn (.bsl 1 (.int .i64 0) 1 [(0,l2)]),gn (.app 1 l0 l3),gm l4] 5 5) .skip))) (r1 [gm s2,aR l0 cD,gm l1] 2 2)))))) (sq (r1 [gm s5,gm l0] 1 1) .ret))))⟩
def w762 (h381:EC Y)(m:Int)   :dj Y yi (.sl 1 ((iu m).map (D.int .i64))) [.int .i64 m]:=by
 show bO _ _ _ [⟨_,_⟩,_,_,_,_,_] _;refine aj ?_;refine iI ?_;refine bD hm (ι:=Nat) (fun i=>[⟨true,.int .i64 m⟩,.un,⟨true,.int .i64 (i:Nat)⟩,.un,.un,⟨true,.own 0 1 0 (gU m i).length⟩]) (fun i=>[(0,.buf 1 ((gU m i).map (D.int .i64)))]) 3 (fun i=>i<=17) (fun i=>17-i) 0 ae (aZ.to [] ah ah (by repeat(first|exact bA.nil|refine bA.un ?_|refine bA.eq ah ?_|refine bA.nl ah ah ?_|refine bA.ni (Or.inr ⟨_,_,_,rfl⟩) ?_)) (by repeat(first|exact aD.nil|refine aD.eM ah ah dY ?_|refine aD.dA ah ah ah ?_|refine aD.kN ah ah ah ah ?_|refine aD.mt ah ah ah ah ?_))) ?_;intro i hi;have hel:=oJ m i;refine aB ?_;refine cF (fun hc0=>?_) fun hc0=>?_
 .refine aB ?_;refine al (hc:=h381 ((i:Nat):Int) ⟨ae,ae⟩) ?_;refine eA (eZ m (2^i)) (hb:=fun _=>rfl) ?_;refine ax ?_;refine wp_cond (fun hc1=>?_) (fun hc1=>?_)
  .have hst:gU m i++[(i:Int) -1]=gU m (i+1):=by rw[gU,aw (by simpa using hc1)]
   refine aq ?_;refine er (hb:=ae) ?_;refine dp [.int .i64 ((i:Int) -1)] ?_;refine iH (q:=D.int .i64) (xs:=gU m i) (e:=(i:Int) -1) (hb:=ae) ?_;refine aB ?_;refine aI (hb:=fun hf=>by first|omega|(simp at hf;omega)) ?_;refine aq ?_;rw[hst];exact⟨i+1,ae,ae,(aZ.to [(14,0)] ah ah (by repeat(first|exact bA.nil|refine bA.un ?_|refine bA.eq ah ?_|refine bA.nl ah ah ?_|refine bA.ni (Or.inr ⟨_,_,_,rfl⟩) ?_)) (by refine aD.nl 14 ah ah ah dY ?_;exact aD.nil))⟩
  have hst:gU m i=gU m (i+1):=by rw[gU,ai (by simpa using hc1)]
  refine aE ?_;refine aI (hb:=fun hf=>by first|omega|(simp at hf;omega)) ?_;refine aq ?_;rw[hst];exact⟨i+1,ae,ae,(aZ.to [(0,0)] ah ah (by repeat(first|exact bA.nil|refine bA.un ?_|refine bA.eq ah ?_|refine bA.nl ah ah ?_|refine bA.ni (Or.inr ⟨_,_,_,rfl⟩) ?_)) (by repeat(first|exact aD.nil|refine aD.eM ah ah dY ?_|refine aD.dA ah ah ah ?_|refine aD.kN ah ah ah ah ?_|refine aD.mt ah ah ah ah ?_)))⟩
 refine ax ?_;obtain rfl:i=17:=ae;refine dE 0 ?_;refine aB ?_;refine cT (?_);rfl
def wD:aA:=⟨4,12,[⟨4,none⟩],cU,(sq (rg [gb 1 s0,gb 5 s2,gm cJ] [(7,0),(8,1),(4,2)]) (sq (sq (r1 [gm bJ] 5 0) (.block 0 (.loop (sq (sq (r1 [gm s5,gm s1,gl l1,aN l0 l2] 6 3) (fH s6 0)) (sq (.block 1 (sq (r2 [gk 1 true s7,gf 4 s8,gd l1,gm s1,gm s5,ga 3 l3 l4,gf 0 l5,gd l6,gx 406 [l0,l2,l7] [[.sl 3 [.a,.a,.sl 8 [.a,.a,.a,.a,.a,.a,.sl 1 [.sl 3 [.a,.a]],.sl 3 [.a,.a,.a]]]],[.sl 2 [.a,.a]],[.a]],gm l8] 10 9) (sq (sq (r2 [gm s1,gm s5,ga 3 l0 l1,gf 0 l2,gd l3,gf 1 s8,gd l5,bL l4 l6] 9 7) (.cond s9 (r1 [gm s3,gm l0] 10 1) .skip)) (sq (r2 [gm gu,gk 1 true s7,gm s1,gm s5,ga 3 l2 l3,gk 3 true l4,gx 415 [l1,l5] [[.sl 3 [.a,.a,.sl 8 [.a,.a,.a,.a,.a,.a,.sl 1 [.sl 3 [.a,.a]],.sl 3 [.a,.a,.a]]]],[.a,.sl 14 [.a,.a,.a,.a,.a,.a,.a,.a,.a,.a,.a,.a,.a,.a],.sl 14 [.a,.a,.a,.a,.a,.a,.a,.a,.a,.a,.a,.a,.a,.a]]],gY l0 l6,dm l7 bJ] 11 8) (.cond oc (sq (r1 [gm cJ] 4 0) .ret) .skip))))) (r1 [gm s5,aR l0 cD,gm l1] 5 2)))))) (sq (r1 [gm ma] 4 0) .ret)))⟩
def w913 (h406:AU Y)(h415:G1 Y)(w:bT)(l:List Want)(row:aK)(bit:Int)  (hp0:w.sm/\∀x∈l,x.sm):dj Y wD (.bool (lK w.us row bit l)) [bT.D w,.sl 3 (l.map Want.D),aK.D row,.int .i64 bit]:=by
 show bO _ _ _ [⟨_,_⟩,⟨_,_⟩,⟨_,_⟩,⟨_,_⟩,_,_,_,_,_,_,_,_] _;refine aj ?_;refine gR ?_;refine bD hm (ι:=Nat) (fun i=>[.un,⟨true,.sl 3 ((l).map Want.D)⟩,.un,⟨true,.int .i64 bit⟩,.un,⟨true,.int .i64 (i:Nat)⟩,.un,⟨true,.ptr 0 1 0 0⟩,⟨true,.ptr 1 5 0 0⟩,.un,.un,.un]) (fun i=>[(0,.buf 1 [bT.D w]),(1,.buf 5 [aK.D row])]) 4 (fun i=>i<=l.length/\lK w.us row bit l=cv (fun i=>decide (eZ (p7 w.us row bit l[i]!.u) (jj w.us l[i]!)=0)) i l.length) (fun i=>l.length-i) 0 ⟨ae,rfl⟩ (aZ.to [(0,0),(1,1)] ah ah gA (by repeat(first|exact aD.nil|refine aD.eM ah ah dY ?_|refine aD.dA ah ah ah ?_|refine aD.kN ah ah ah ah ?_|refine aD.nl 1 ah ah ah ah ?_))) ?_;rintro i ⟨hi,hr⟩;refine aB ?_;intro u0;refine ax ?_;refine cF (fun hc0=>?_) fun hc0=>?_
 .refine aq ?_;refine aH (d:=bT.D w) ?_;refine av ?_;refine au (v:=.sl 2 ((row.terms).map dM.D)) ?_;refine ax ?_;refine ba (i) (hj:=fun hf=>by first|omega|(simp at hf;omega)) (hb:=fun hf=>by first|omega|(simp at hf;omega)) ?_;refine av ?_;refine a7 (v:=.int .i64 (l)[i]!.u) (hi:=fun hf=>by first|omega|(simp at hf;omega)) ?_;refine al (hc:=h406 (w) (row.terms) ((l)[i]!.u) ?_) ?_;rotate_left;first|assumption|omega|exact hp0.1|exact⟨hp0.1,hp0.2 _ (ak ae)⟩
  refine aT ?_;refine ba (i) (hj:=fun hf=>by first|omega|(simp at hf;omega)) (hb:=fun hf=>by first|omega|(simp at hf;omega)) ?_;refine av ?_;refine a7 (v:=.int .i64 (l)[i]!.u) (hi:=fun hf=>by first|omega|(simp at hf;omega)) ?_;refine av ?_;refine au (v:=.int .i64 row.unit) ?_;refine ax ?_;refine cF (fun hc1=>?_) fun hc1=>?_
  .refine aT ?_;refine aH (d:=bT.D w) ?_;refine ax ?_;refine ba (i) (hj:=fun hf=>by first|omega|(simp at hf;omega)) (hb:=fun hf=>by first|omega|(simp at hf;omega)) ?_;refine a7 (v:=Want.D ((l)[i]!)) (hi:=fun hf=>by first|omega|(simp at hf;omega)) ?_;refine al (hc:=h415 (w) ((l)[i]!) ?_) ?_;rotate_left;first|assumption|omega|exact hp0.1|exact⟨hp0.1,hp0.2 _ (ak ae)⟩
   refine eA (eZ bit (jj w.us l[i]!)) (hb:=fun _=>rfl) ?_;refine ax ?_;refine eE (fun hc2=>?_) fun hc2=>?_
   .refine aT ?_;refine aY ?_;rw[hr,aQ ae];simp only[p7];grind
   refine aE ?_;refine aI (hb:=fun hf=>by first|omega|(simp at hf;omega)) ?_;refine aq ?_;exact⟨i+1,⟨ae,by rw[hr,aQ ae];simp only[p7];grind⟩,ae,(aZ.to [(0,0),(1,1)] ah ah gA (by repeat(first|exact aD.nil|refine aD.eM ah ah dY ?_|refine aD.dA ah ah ah ?_|refine aD.kN ah ah ah ah ?_|refine aD.nl 1 ah ah ah ah ?_)))⟩
  refine aq ?_;refine aH (d:=bT.D w) ?_;refine ax ?_;refine ba (i) (hj:=fun hf=>by first|omega|(simp at hf;omega)) (hb:=fun hf=>by first|omega|(simp at hf;omega)) ?_;refine a7 (v:=Want.D ((l)[i]!)) (hi:=fun hf=>by first|omega|(simp at hf;omega)) ?_;refine al (hc:=h415 (w) ((l)[i]!) ?_) ?_;rotate_left;first|assumption|omega|exact hp0.1|exact⟨hp0.1,hp0.2 _ (ak ae)⟩
  refine eA (eZ (bm w.us row.terms l[i]!.u) (jj w.us l[i]!)) (hb:=fun _=>rfl) ?_;refine ax ?_;refine eE (fun hc2=>?_) fun hc2=>?_
  .refine aT ?_;refine aY ?_;rw[hr,aQ ae];simp only[p7];grind
  refine aE ?_;refine aI (hb:=fun hf=>by first|omega|(simp at hf;omega)) ?_;refine aq ?_;exact⟨i+1,⟨ae,by rw[hr,aQ ae];simp only[p7];grind⟩,ae,(aZ.to [(0,0),(1,1)] ah ah gA (by repeat(first|exact aD.nil|refine aD.eM ah ah dY ?_|refine aD.dA ah ah ah ?_|refine aD.kN ah ah ah ah ?_|refine aD.nl 1 ah ah ah ah ?_)))⟩
 refine aT ?_;refine aY ?_;rw[hr,cw ae]
def uN:aA:=⟨4,10,[⟨4,none⟩],cU,(sq (rg [gb 1 s0,gb 3 s1,gb 5 s2,gm cJ] [(5,0),(7,1),(6,2),(4,3)]) (sq (r1 [gk 1 true s5,gf 4 s6,gd l1,gf 0 s7,gd l3,gx 406 [l0,l2,l4] [[.sl 3 [.a,.a,.sl 8 [.a,.a,.a,.a,.a,.a,.sl 1 [.sl 3 [.a,.a]],.sl 3 [.a,.a,.a]]]],[.sl 2 [.a,.a]],[.a]],gm l5] 9 6) (sq (sq (r1 [gf 0 s7,gd l0,gf 1 s6,gd l2,bL l1 l3] 8 4) (.cond s8 (r1 [gm s3,gm l0] 9 1) .skip)) (sq (r1 [gm s9,gk 1 true s5,gk 3 true s7,gx 415 [l1,l2] [[.sl 3 [.a,.a,.sl 8 [.a,.a,.a,.a,.a,.a,.sl 1 [.sl 3 [.a,.a]],.sl 3 [.a,.a,.a]]]],[.a,.sl 14 [.a,.a,.a,.a,.a,.a,.a,.a,.a,.a,.a,.a,.a,.a],.sl 14 [.a,.a,.a,.a,.a,.a,.a,.a,.a,.a,.a,.a,.a,.a]]],gx 182 [l0,l3] j9,bL l4 um,gm l5] 4 6) .ret))))⟩
def w914 {Y:Ctx}(hm:(Y.at 0).cb)(h182:GX Y)(h406:AU Y)(h415:G1 Y)(w:bT)(x:Want)(row:aK)(bit:Int)  (hp0:w.sm/\x.sm):dj Y uN (.bool (iR w.us row bit x)) [bT.D w,Want.D x,aK.D row,.int .i64 bit]:=by
 show bO _ _ _ [⟨_,_⟩,⟨_,_⟩,⟨_,_⟩,⟨_,_⟩,_,_,_,_,_,_] _;refine aj ?_;refine aT ?_;refine aH (d:=bT.D w) ?_;refine av ?_;refine au (v:=.sl 2 ((row.terms).map dM.D)) ?_;refine av ?_;refine au (v:=.int .i64 x.u) ?_;refine al (hc:=h406 (w) (row.terms) (x.u) ?_) ?_;rotate_left;first|assumption|omega|exact hp0.1
 refine aB ?_;refine au (v:=.int .i64 x.u) ?_;refine av ?_;refine au (v:=.int .i64 row.unit) ?_;refine ax ?_;refine cF (fun hc0=>?_) fun hc0=>?_
 .refine aT ?_;refine aH (d:=bT.D w) ?_;refine aH (d:=Want.D x) ?_;refine al (hc:=h415 (w) (x) ?_) ?_;rotate_left;first|assumption|omega|exact hp0.1
  refine al (hc:=h182 (bit) _) ?_;refine aE ?_;refine aY ?_;unfold iR p7;grind
 refine aq ?_;refine aH (d:=bT.D w) ?_;refine aH (d:=Want.D x) ?_;refine al (hc:=h415 (w) (x) ?_) ?_;rotate_left;first|assumption|omega|exact hp0.1
 refine al (hc:=h182 _ _) ?_;refine aE ?_;refine aY ?_;unfold iR p7;grind
def m9:aA:=⟨3,13,[⟨3,none⟩],cU,(sq (rg [gb 3 s0,gb 5 s1,gm cJ] [(7,0),(4,1),(3,2)]) (sq (r1 [gf 4 s4,gd l0,gn (.mkf 784 [s4]),gx 615 [l1,l2] [[.sl 2 [.a,.a]],[.a]],gm l3] 5 4) (sq (sq (r1 [gm s5,aN l0 bJ,gm l1,gB 2 4 s4,gV 2 l3,eh 2 s5,cg 2 (.ia 2 l4 l5),gB 2 1 l6,gV 2 l7,cg 2 (vu l8 cD),cg 2 (fL l9 bJ),eg l2 l10] 6 11) (.cond s6 (sq (r1 [gm cJ] 3 0) .ret) .skip)) (sq (sq (rg [gf 0 s7,gf 0 l0,gd l1,gf 1 s4,gd l3,ga 3 l2 l4,gf 2 l5,gd l6,gl l7,gm bJ] [(9,8),(8,9)]) (.block 0 (.loop (sq (r1 [aN s8 s9] 10 0) (sq (fH gu 0) (sq (.block 1 (sq (r1 [gm s8,gm l0] 11 1) (sq (r2 [gf 4 s4,gd l0,gm s5,ga 2 l1 l2,gf 1 l3,gd l4,gm oc,aR l6 cD,gn (.bin .shl cD l7),gY l5 l8,dm l9 bJ,gm l10,bS 11 (.ld 3 true s7),bS 11 (.ld 5 true s4),gmt 11 oc,gmt 11 s2,bS 11 (.call 785 [ik,iL,jy,jZ] [[.sl 3 [.a,.a,.sl 8 [.a,.a,.a,.a,.a,.a,.sl 1 [.sl 3 [.a]],.sl 3 [.a,.a]]],.sl 1 [.a],.sl 5 [.a,.a,.a,.a,.sl 2 [.a,.a]]],[.a,.a,.a,.a,.sl 2 [.a,.a]],[.a],[.a]]),bS 11 (.un .not kU),eP gw oz] 12 18) (.cond od (sq (r1 [gm cJ] 3 0) .ret) .skip)))) (r1 [aR s8 cD,gm l0] 8 1))))))) (sq (r1 [gm ma] 3 0) .ret)))))⟩
def w635 (h615:Jn Y)(h785:JJ Y)(c:aF)(row:aK)(mild:Bool)  (hp0:c.w.sm/\ef c.w.us row.terms=true):dj Y m9 (.bool (iS c.w.us row mild)) [aF.D c,aK.D row,.bool mild]:=by
 show bO _ _ _ [⟨_,_⟩,⟨_,_⟩,⟨_,_⟩,_,_,_,_,_,_,_,_,_,_] _;refine aj ?_;refine aE ?_;refine dE 1 ?_ (he:=by simp only[jR,fG,fY,kr,lA,cO,Nat.reduceEqDiff,aX,aS,cZ,cL,cy,cX,cY,bE,bt,aW,ch,aO,reduceCtorEq,bX,cu,Nat.reduceAdd,Nat.reduceLeDiff,dk.fz,aF.fz,aK.fz];exact rfl) (hm:=by simp only[jR,fG,fY,kr,lA,cO,Nat.reduceEqDiff,aX,aS,cZ,cL,cy,cX,cY,bE,bt,aW,ch,aO,reduceCtorEq,bX,cu,Nat.reduceAdd,Nat.reduceLeDiff,dk.fz,aF.fz,aK.fz];exact rfl);refine ax ?_;refine iP (v:=.sl 2 ((row.terms).map dM.D)) ?_;refine ze [.ref 5 [aK.D row] 0 0] ?_;refine al (hc:=h615 row.terms row) ?_;refine aE ?_;have him:=lC c.w.us row.unit row.terms 0;obtain⟨x,hx⟩:∃x,(gK (fun t=>decide (t.u=row.unit)) row.terms 0)=x:=⟨_,rfl⟩
 rw[hx]at him⊢;obtain⟨n,hn⟩:∃n:Nat,n=x.toNat:=⟨_,rfl⟩
 have hna:0<=x->x=(n:Int)/\n<row.terms.length:=by
  rcases him with⟨h,_⟩|⟨q,h1,h2,_⟩<;>omega
 have hnb:x<0->vK row.terms row.unit=false:=by
  rcases him with⟨_,h,_⟩|⟨q,h1,h2,_⟩
  .exact fun _=>h
  .intro;omega
 have hnc:0<=x->row.terms[n]!.u=row.unit/\(bm c.w.us row.terms row.unit)=row.terms[n]!.m/\vK row.terms row.unit=true:=by
  rcases him with⟨h,_⟩|⟨q,h1,h2,h3,h4,h5⟩
  .intro;omega
  .intro;obtain rfl:q=n:=ae;exact⟨h3,h4,h5⟩
 refine aE ?_;refine iP (v:=.sl 2 ((row.terms).map dM.D)) ?_;refine av ?_;refine ba n (hj:=fun hf=>by simp at hf;omega) (hb:=fun hf=>by simp at hf;omega) ?_;refine av ?_;refine a7 (v:=.int .i64 row.terms[n]!.m) (hi:=fun hf=>by first|omega|(simp at hf;omega)) ?_;refine eA (eZ row.terms[n]!.m 1) (hb:=fun _=>rfl) ?_;refine aq ?_;refine cF (fun hc0=>?_) fun hc0=>?_
 .refine aB ?_;refine aY ?_;unfold iS;rcases hc0 with h|h
  .rw[hnb ae];rfl
  .by_cases q:0<=x
   .rw[(hnc q).2.1,df h,Bool.and_false,Bool.false_and]
   .rw[hnb ae];rfl
 refine aq ?_;have hx0:0<=x:=ae;obtain⟨hxn,hnl⟩:=hna hx0;obtain⟨hu,hm1,hh⟩:=hnc hx0;have htin:=yC (qu hp0.2 hnl);rw[hu]at htin;obtain⟨j,hwj⟩:∃j:Nat,row.unit=(j:Int):=⟨row.unit.toNat,ae⟩
 have hjt:row.unit.toNat=j:=ae;have hjl:j<c.w.us.length:=ae;have hju:=hp0.1 _ (ak hjl);have hj16:=hju.1;refine ax ?_;refine au (v:=.sl 3 ((c.w.us).map cr.D)) ?_;refine av ?_;refine iP (v:=.int .i64 row.unit) ?_;refine ba j (hj:=fun _=>ae) (hb:=fun _=>ae) ?_;refine av ?_;refine a7 (v:=.sl 8 (c.w.us[j]!.cands.map dk.D)) (hi:=fun _=>ae) ?_;refine av ?_;intro u0;refine ax ?_;refine bD hm (ι:=Nat) (fun k=>[.un,.un,⟨true,.bool mild⟩,.un,⟨true,.ref 5 [aK.D row] 0 0⟩,⟨true,.int .i64 x⟩,.un,⟨true,.ptr 0 3 0 0⟩,⟨true,.int .i64 (k:Nat)⟩,⟨true,.int .i64 (c.w.us[j]!.cands.length:Nat)⟩,.un,.un,.un]) (fun k=>[(0,.buf 3 [aF.D c])]) 30 (fun k=>k<=c.w.us[j]!.cands.length/\cv (fun k=>decide (eZ (bm c.w.us row.terms row.unit) (2^(k+1))=0) ||oe c.w.us row k mild) 0 c.w.us[j]!.cands.length=cv (fun k=>decide (eZ (bm c.w.us row.terms row.unit) (2^(k+1))=0) ||oe c.w.us row k mild) k c.w.us[j]!.cands.length) (fun k=>c.w.us[j]!.cands.length-k) 0 ⟨ae,rfl⟩ (eo [(0,0)]) ?_;rintro k ⟨hk,hr⟩;refine aq ?_;refine cF (fun hc1=>?_) fun hc1=>?_
 .refine gR ?_;refine iP (v:=.sl 2 ((row.terms).map dM.D)) ?_;refine av ?_;refine ba n (hj:=fun _=>ae) (hb:=fun _=>ae) ?_;refine av ?_;refine a7 (v:=.int .i64 row.terms[n]!.m) (hi:=fun hf=>by first|omega|(simp at hf;omega)) ?_;refine av ?_;refine aI (hb:=fun hf=>by first|omega|(simp at hf;omega)) ?_;refine tn (2^(k+1)) (hb:=fun _=>om ae ae) ?_;refine eA (eZ row.terms[n]!.m (2^(k+1))) (hb:=fun _=>rfl) ?_;refine ax ?_;refine aH (d:=aF.D c) ?_;refine iP (v:=aK.D row) ?_;refine ax ?_;refine bp (hc:=fun hf=>h785 c row ((k:Nat):Int) mild ⟨⟨hp0.1,ae,ae⟩,ae,by rw[hjt];omega⟩) ?_;refine aq ?_;refine eE (fun hc2=>?_) fun hc2=>?_
  .refine aT ?_;refine aY ?_;unfold iS;rw[hjt,hr,aQ (i:=k) ae,hm1];simp only[Int.toNat_natCast]at*;grind
  refine aq ?_;refine aI (hb:=fun hf=>by first|omega|(simp at hf;omega)) ?_;refine aq ?_;exact⟨k+1,⟨ae,by rw[hr,aQ ae,hm1];grind⟩,ae,(eo [(0,0)])⟩
 refine aT ?_;refine aY ?_;unfold iS;rw[hjt,hr,cw (i:=k) ae,hh,hm1];grind
def oX:aA:=⟨1,2,kV,cU,(sq (r1 [⟨.zal,none⟩,gm cJ] 1 1) (CU ma))⟩
def LI {Y:Ctx}(hm:(Y.at 0).cb)     :dj Y oX (.bool true) [.agg []]:=by
 show bO _ _ _ [⟨_,_⟩,_] _;refine aj ?_;refine tp ?_;refine aT ?_;exact aY rfl
def m8:aA:=⟨1,2,kV,cU,(sq (r1 [gb 1 s0,gm cJ] 1 1) (CU ma))⟩
def LJ {Y:Ctx}(hm:(Y.at 0).cb)  (b:Bool)   :dj Y m8 (.bool true) [.agg [.bool b]]:=by
 show bO _ _ _ [⟨_,_⟩,_] _;refine aj ?_;refine cC ?_;exact aY rfl
def pT:aA:=⟨1,2,kV,cU,(sq (r1 [⟨.zal,none⟩,gm cJ] 1 1) (CU ma))⟩
def LK {Y:Ctx}(hm:(Y.at 0).cb)     :dj Y pT (.bool true) [.agg []]:=by
 show bO _ _ _ [⟨_,_⟩,_] _;refine aj ?_;refine tp ?_;refine aT ?_;exact aY rfl
def oQ:aA:=⟨1,2,kV,cU,(sq (r1 [⟨.zal,none⟩,gm cJ] 1 1) (CU cJ))⟩
def LL {Y:Ctx}(hm:(Y.at 0).cb)     :dj Y oQ (.bool false) [.agg []]:=by
 show bO _ _ _ [⟨_,_⟩,_] _;refine aj ?_;refine tp ?_;refine aT ?_;exact aY rfl
def wW:aA:=⟨1,10,kV,cU,(sq (r1 [gm cJ] 1 0) (sq (sq (r1 [gm s0,gx 442 [l0] cU,jD l1] 2 2) (vH s2 cJ)) (sq (sq (rg [gm s0,gx 533 [l0,(i8 46)] j9,gl l1,gm bJ] [(6,1),(4,2),(3,3)]) (.block 0 (.loop (sq (r1 [aN s3 s4] 5 0) (sq (fH s5 0) (sq (.block 1 (sq (r1 [ga 1 s6 s3,gd l0,gm l1] 7 2) (sq (r1 [gm s7,gx 658 [l0] cU,gm l1,ge l2 0,ge l2 1,gm l3,gm l4] 8 6) (sq (r1 [gm s7,gx 659 [l0] cU,gm l1,gmt 2 s8,bS 2 (.un .not l3),eP l2 l4] 9 5) (vH s9 cJ))))) (r1 [aR s3 cD,gm l0] 3 1))))))) (CU ma))))⟩
def w441 (h442:G2 Y)(h533:EF Y)(h658:G9 Y)(h659:Ha Y)(s:cV)  (hp0:s.length<=1048576):dj Y wW (.bool (j6 s true)) [.str s]:=by
 show bO _ _ _ [⟨_,_⟩,_,_,_,_,_,_,_,_,_] _;refine aj ?_;refine aB ?_;refine al (hc:=h442 _ ?_) ?_;rotate_left;first|assumption|omega
 refine ax ?_;refine b8 (fun hc0=>?_) (fun hc0=>?_)
 .simp only[eB]at hc0;refine aB ?_;refine aY ?_;symm;simp only[j6]at hc0⊢;rw[hZ]at hc0⊢;rcases hc0 with h|h
  .exact Or.inl h
  .right;rw[Bool.eq_false_iff]at h⊢;intro h2;apply h;rw[ea]at h2⊢;intro j a b;have:=h2 j a b;simp only[eV,cj]at this⊢;exact⟨this.1,rfl⟩
 simp only[oy]at hc0;refine aE ?_;refine al (hc:=h533 _ _ ?_) ?_;rotate_left;first|assumption|omega;have hlen:=nw s 46
 refine av ?_;intro u0;refine ax ?_;have hT:=hc0;simp only[j6,cj,dI]at hT;obtain⟨hT4,hTa⟩:=hT;rw[ea]at hTa;have hP:j6 s true=cv (fun i=>eV true (bg s 46)[i]!) 0 (bg s 46).length:=by
  simp only[j6];rw[cB hT4];rfl
 refine bD hm (ι:=Nat) (fun i=>[.un,.un,.un,⟨true,.int .i64 (i:Nat)⟩,⟨true,.int .i64 ((bg s 46).length:Nat)⟩,.un,⟨true,.sl 1 ((bg s 46).map D.str)⟩,.un,.un,.un]) (fun i=>[]) 8 (fun i=>i<=(bg s 46).length/\j6 s true=cv (fun i=>eV true (bg s 46)[i]!) i (bg s 46).length) (fun i=>(bg s 46).length-i) 0 ⟨ae,hP⟩ (eo []) ?_;rintro i ⟨hi,hr⟩;refine aq ?_;refine cF (fun hc1=>?_) fun hc1=>?_
 .refine iI ?_;refine al (hc:=h658 _) ?_;refine gR ?_;refine al (hc:=h659 _) ?_;refine aB ?_;refine wp_cond (fun hc2=>?_) (fun hc2=>?_)
  .skip
   refine aT ?_;refine aY ?_;have hz:eV true (bg s 46)[i]! =false:=by
    simp only[eV];revert hc2;generalize mG (bg s 46)[i]! =c;generalize b7 (bg s 46)[i]! =a;generalize iG (bg s 46)[i]! =b;cases a<;>cases b<;>cases c<;>simp
   rw[hr,aQ ae,hz];rfl
  skip
  refine cC ?_;have hz:eV true (bg s 46)[i]! =true:=by
   have:=hTa i ae ae;simp only[eV,Bool.false_and,Bool.not_false,eS]at this;simp only[eV,this];revert hc2;generalize b7 (bg s 46)[i]! =a;generalize iG (bg s 46)[i]! =b;cases a<;>cases b<;>simp
  exact⟨i+1,⟨ae,by rw[hr,aQ ae,hz];rfl⟩,ae,(eo [])⟩
 refine aT ?_;refine aY ?_;rw[hr,cw ae]
def wV:aA:=⟨1,3,kV,cU,(sq (rg [gb 5 s0,gm cJ] [(2,0),(1,1)]) (sq (r1 [gf 0 s2,gd l0,gx 440 [l1] cU,gm l2,ew 3 1 s2,gS 3 l4,bS 3 (.call 440 [l5] cU),eP l3 l6,gm l7,ew 8 2 s2,gS 8 l9,bS 8 (.call 440 [l10] cU),eP l8 gw,gm ik,ew 13 3 s2,gS 13 jy,bS 13 (dU jZ cse),gmt 13 kU,gB 17 3 s2,gV 17 qp,cg 17 (.call 441 [uu] cU),HL 13 oz vQ,eP iL xO,gm xP,ew 23 4 s2,gS 23 Er,bS 23 (dU Fk cse),gmt 23 HR,gB 27 4 s2,gV 27 HT,cg 27 (.call 442 [IQ] cU),HL 23 HS l30,eP B3 l31,gm l32] 1 33) .ret))⟩
def w209 {Y:Ctx}(hm:(Y.at 0).cb)(h440:Ja Y)(h441:Jb Y)(h442:G2 Y)(v:aU)  (hp0:v.sm):dj Y wV (.bool (hY v)) [aU.D v]:=by
 show bO _ _ _ [⟨_,_⟩,_,_] _;refine aj ?_;refine aT ?_;refine al (hc:=h440 _) ?_;refine aq ?_;refine al (hc:=h440 _) ?_;refine aE ?_;refine al (hc:=h440 _) ?_;refine gR ?_;refine bp (hc:=fun hf=>h441 v.pre hp0.1) ?_;refine iI ?_;refine bp (hc:=fun hf=>h442 v.build hp0.2) ?_;refine aB ?_;exact aY rfl
end Go.Abs
