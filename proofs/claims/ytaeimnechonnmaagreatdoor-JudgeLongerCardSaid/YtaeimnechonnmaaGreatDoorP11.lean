/- A part of the proofs. -/
import Derived.Test.YtaeimnechonnmaaGreatDoorP07
set_option linter.all false
set_option maxRecDepth 4000
namespace Go.Abs
variable {Y:Ctx}(hm:(Y.at 0).cG)
def IV:aE:=⟨1,5,mP,dF,(sq (rg [gb 7 s0,gm dG] [(2,0),(1,1)]) (sq (sq (r1 [gf 0 s2,gd l0,gn (eX l1 (.c (.int .i64 (-1)))),gm l2,j9 3 0 s2,kJ 3 l4,cX 3 (eX l5 cS),fO l3 l6] 3 7) (.cond s3 (sq (r1 [gf 1 s2,gk 5 true l0,gn (.build [.int .i64 0,.int .i64 0,.int .i64 0,.str [],.str []] []),gn (.eqA false true [.i .i64,.i .i64,.i .i64,.s,.s] l1 l2),gm l3,fR 4 6 s2,jV 4 l5,cI 4 (.un .not l6),gM l4 l7,gm l8] 1 9) .ret) (sq (r1 [gf 0 s2,gd l0,dI l1 b9] 4 2) (AM s4 dG)))) (sq (r1 [gf 1 s2,gk 5 true l0,gx 209 [l1] nZ,gm l2,fR 3 1 s2,fR 3 4 l4,jV 3 l5,cI 3 (eX l6 cse),gM l3 l7,gm l8] 1 9) .ret)))⟩
def P6 {Y:Ctx}(hm:(Y.at 0).cG)(h209:Ar Y)(c:Cut)  (hp0:c.v.sm):dM Y IV (.bool (kC c)) [Cut.D c]:=by
 show bZ _ _ _ [⟨_,_⟩,_,_,_,_] _;refine ak ?_;refine bj ?_;refine ay (v:=.int .i64 c.e) ?_;refine av ?_;refine ay (v:=.int .i64 c.e) ?_;refine av ?_;refine di (fun hc0=>?_) fun hc0=>?_
 .refine av ?_;refine ay (v:=a8.D c.v) ?_;refine bz (a8.D (⟨0,0,0,[],[]⟩)) ?_;refine zn (hb:=a8.eq _ _) ?_;refine az ?_;refine ay (v:=.bool c.a) ?_;refine aF ?_;refine b7 ?_;first|(grind [kC,zV];done)|(simp_all[kC,zV];done)
 refine av ?_;refine ay (v:=.int .i64 c.e) ?_;refine az ?_;refine di (fun hc1=>?_) fun hc1=>?_
 .refine aF ?_;refine b7 ?_;first|(grind [kC,zV];done)|(simp_all[kC,zV];done)
 refine av ?_;refine ay (v:=a8.D c.v) ?_;refine ar (hc:=h209 (c.v) ?_) ?_;rotate_left;first|assumption|omega|(grind [Cut.sm,Span.sm,bp.sm,bB,aj,Want.sm,dJ.sm,bP.sm,bG.sm])
 refine av ?_;refine ay (v:=.str c.v.build) ?_;refine aF ?_;refine b7 ?_;first|(grind [kC,zV];done)|(simp_all[kC,zV];done)
def yJ:aE:=⟨2,11,[⟨2,none⟩],dF,(sq (rg [gb 7 s0,gb 7 s1,gm b9] [(3,0),(4,1),(2,2)]) (sq (sq (r1 [gk 7 true s3,gx 1087 [l0] we,nu l1,gm l2,cX 3 (.ld 7 true s4),cX 3 (.call 1087 [l4] we),cX 3 (.un .not l5),fO l3 l6] 5 7) (.cond s5 (sq (r1 [gm b9] 2 0) .ret) (sq (r1 [gf 0 s3,gd l0,dI l1 b9,gm l2,j9 3 0 s4,kJ 3 l4,cX 3 (mD l5 b9),fO l3 l6] 6 7) (.cond s6 (sq (r1 [gf 0 s3,gd l0,gf 0 s4,gd l2,gx 532 [l1,l3] mN,gm l4] 2 5) .ret) (sq (r1 [gf 1 s3,gk 5 true l0,gf 1 s4,gk 5 true l2,gx 295 [l1,l3] [[.a,.a,.a,.a,.a],[.a,.a,.a,.a,.a]],gm l4] 7 5) (sq (r1 [gm s7,dI l0 b9] 8 1) (.cond s8 (sq (r1 [gm s7,gm l0] 2 1) .ret) (sq (r1 [gf 6 s3,gd l0,gf 6 s4,gd l2,gn (.eqA false false [.b] l1 l3)] 9 4) (.cond s9 (sq (r1 [gm b9] 2 0) .ret) (sq (r1 [gf 6 s4,gd l0] 10 1) (.cond jh (sq (r1 [gn (.mv (.c (.int .i64 (-1))))] 2 0) .ret) .skip))))))))))) (sq (r1 [gm cS] 2 0) .ret)))⟩
def PZ {Y:Ctx}(hm:(Y.at 0).cG)(h295:Im Y)(h532:Is Y)(h1087:BL Y)(a:Cut)(b:Cut)  (hp0:a.v.sm/\b.v.sm):dM Y yJ (.int .i64 (fF a b)) [Cut.D a,Cut.D b]:=by
 show bZ _ _ _ [⟨_,_⟩,⟨_,_⟩,_,_,_,_,_,_,_,_,_] _;refine ak ?_;refine bj ?_;refine aW (d:=Cut.D a) ?_;refine ar (hc:=h1087 (a) ?_) ?_;rotate_left;first|assumption|omega|(grind [Cut.sm,Span.sm,bp.sm,bB,aj,Want.sm,dJ.sm,bP.sm,bG.sm])
 refine az ?_;refine aW (d:=Cut.D b) ?_;refine bT (hc:=fun hf=>h1087 (b) ?_) ?_;rotate_left;first|assumption|omega|(grind [Cut.sm,Span.sm,bp.sm,bB,aj,Want.sm,dJ.sm,bP.sm,bG.sm])
 refine av ?_;refine di (fun hc0=>?_) fun hc0=>?_
 .refine aF ?_;refine cQ ?_;first|(grind [fF,cY];done)|(simp_all[fF,cY];done)
 refine av ?_;refine ay (v:=.int .i64 a.e) ?_;refine av ?_;refine ay (v:=.int .i64 b.e) ?_;refine av ?_;refine di (fun hc1=>?_) fun hc1=>?_
 .refine av ?_;refine ay (v:=.int .i64 a.e) ?_;refine aw ?_;refine ay (v:=.int .i64 b.e) ?_;refine ar (hc:=h532 (a.e) (b.e)) ?_;refine av ?_;refine cQ ?_;first|(grind [fF,cY];done)|(simp_all[fF,cY];done)
 refine av ?_;refine ay (v:=a8.D a.v) ?_;refine aw ?_;refine ay (v:=a8.D b.v) ?_;refine ar (hc:=h295 (a.v) (b.v) ?_) ?_;rotate_left;first|assumption|omega|(grind [Cut.sm,Span.sm,bp.sm,bB,aj,Want.sm,dJ.sm,bP.sm,bG.sm])
 refine cN ?_;refine di (fun hc2=>?_) fun hc2=>?_
 .refine bj ?_;refine cQ ?_;first|(grind [fF,cY];done)|(simp_all[fF,cY];done)
 refine av ?_;refine ay (v:=.bool a.a) ?_;refine aw ?_;refine ay (v:=.bool b.a) ?_;refine zn (hb:=LR _ _) ?_;refine aw ?_;refine di (fun hc3=>?_) fun hc3=>?_
 .refine aF ?_;refine cQ ?_;first|(grind [fF,cY];done)|(simp_all[fF,cY];done)
 refine av ?_;refine ay (v:=.bool b.a) ?_;refine aw ?_;refine di (fun hc4=>?_) fun hc4=>?_
 .refine aF ?_;refine cQ ?_;first|(grind [fF,cY];done)|(simp_all[fF,cY];done)
 refine aF ?_;refine cQ ?_;first|(grind [fF,cY];done)|(simp_all[fF,cY];done)
def Ee:aE:=⟨2,8,[⟨2,none⟩],dF,(sq (rg [gb 7 s0,gb 5 s1,gm dG] [(3,0),(4,1),(2,2)]) (sq (sq (r1 [gk 7 true s3,gx 1087 [l0] we,nu l1,gm l2,cX 3 (.ld 5 true s4),cX 3 (.call 209 [l4] nZ),cX 3 (.un .not l5),fO l3 l6] 5 7) (.cond s5 (sq (r1 [gm dG] 2 0) .ret) (sq (r1 [gf 0 s3,gd l0,dI l1 b9] 6 2) (.cond s6 (sq (r1 [gf 0 s3,gd l0,aR l1 b9,gm l2] 2 3) .ret) .skip)))) (sq (r1 [gf 1 s3,gk 5 true l0,gk 5 true s4,gx 295 [l1,l2] [[.a,.a,.a,.a,.a],[.a,.a,.a,.a,.a]],gm l3] 7 4) (sq (r1 [gm s7,aR l0 b9,gm l1,fN 2 s7,cX 2 (eX l3 b9),fN 2 l4,fR 5 6 s3,jV 5 l6,cI 5 (.un .not l7),AL 2 l5 l8,fO l2 l9,gm l10] 2 11) .ret))))⟩
def P4 {Y:Ctx}(hm:(Y.at 0).cG)(h209:Ar Y)(h295:Im Y)(h1087:BL Y)(c:Cut)(v:a8)  (hp0:c.v.sm/\v.sm):dM Y Ee (.bool (fS c v)) [Cut.D c,a8.D v]:=by
 show bZ _ _ _ [⟨_,_⟩,⟨_,_⟩,_,_,_,_,_,_] _;refine ak ?_;refine bj ?_;refine aW (d:=Cut.D c) ?_;refine ar (hc:=h1087 (c) ?_) ?_;rotate_left;first|assumption|omega|(grind [Cut.sm,Span.sm,bp.sm,bB,aj,Want.sm,dJ.sm,bP.sm,bG.sm])
 refine az ?_;refine aW (d:=a8.D v) ?_;refine bT (hc:=fun hf=>h209 (v) ?_) ?_;rotate_left;first|assumption|omega|(grind [Cut.sm,Span.sm,bp.sm,bB,aj,Want.sm,dJ.sm,bP.sm,bG.sm])
 refine av ?_;refine di (fun hc0=>?_) fun hc0=>?_
 .refine aF ?_;refine b7 ?_;first|(grind [fS];done)|(simp_all[fS];done)
 refine av ?_;refine ay (v:=.int .i64 c.e) ?_;refine az ?_;refine di (fun hc1=>?_) fun hc1=>?_
 .refine av ?_;refine ay (v:=.int .i64 c.e) ?_;refine aT ?_;refine b7 ?_;first|(grind [fS];done)|(simp_all[fS];done)
 refine av ?_;refine ay (v:=a8.D c.v) ?_;refine aW (d:=a8.D v) ?_;refine ar (hc:=h295 (c.v) (v) ?_) ?_;rotate_left;first|assumption|omega|(grind [Cut.sm,Span.sm,bp.sm,bB,aj,Want.sm,dJ.sm,bP.sm,bG.sm])
 refine kM ?_;refine ay (v:=.bool c.a) ?_;refine bj ?_;refine b7 ?_;first|(grind [fS];done)|(simp_all[fS];done)
def yK:aE:=⟨1,3,mP,dF,(sq (rg [gb 14 s0,gm dG] [(2,0),(1,1)]) (sq (r1 [gf 0 s2,gk 7 true l0,gx 1087 [l1] we,gm l2,fR 3 7 s2,cI 3 (.ld 7 true l4),cI 3 (.call 1087 [l5] we),gM l3 l6,gm l7,fR 8 0 s2,cI 8 (.ld 7 true l9),fR 8 7 s2,cI 8 (.ld 7 true hO),cI 8 (.call 1024 [l10,jm] [[.a,.a,.a,.a,.a,.a,.a],[.a,.a,.a,.a,.a,.a,.a]]),cI 8 (jL jZ b9),gM l8 ll,gm mG] 1 16) .ret))⟩
def PY {Y:Ctx}(hm:(Y.at 0).cG)(h1024:Fk Y)(h1087:BL Y)(s:Span)  (hp0:s.sm):dM Y yK (.bool (jB s)) [Span.D s]:=by
 show bZ _ _ _ [⟨_,_⟩,_,_] _;refine ak ?_;refine aF ?_;refine ay (v:=Cut.D s.f) ?_;refine ar (hc:=h1087 (s.f) ?_) ?_;rotate_left;first|assumption|omega|(grind [Cut.sm,Span.sm,bp.sm,bB,aj,Want.sm,dJ.sm,bP.sm,bG.sm])
 refine az ?_;refine ay (v:=Cut.D s.t) ?_;refine bT (hc:=fun hf=>h1087 (s.t) ?_) ?_;rotate_left;first|assumption|omega|(grind [Cut.sm,Span.sm,bp.sm,bB,aj,Want.sm,dJ.sm,bP.sm,bG.sm])
 refine av ?_;refine ay (v:=Cut.D s.f) ?_;refine aw ?_;refine ay (v:=Cut.D s.t) ?_;refine bT (hc:=fun hf=>h1024 (s.f) (s.t) ?_) ?_;rotate_left;first|assumption|omega|(grind [Cut.sm,Span.sm,bp.sm,bB,aj,Want.sm,dJ.sm,bP.sm,bG.sm])
 refine aF ?_;refine b7 ?_;first|(grind [jB];done)|(simp_all[jB];done)
def Ef:aE:=⟨2,5,[⟨2,none⟩],dF,(sq (rg [gb 14 s0,gb 5 s1,gm dG] [(3,0),(4,1),(2,2)]) (sq (r1 [gk 14 true s3,gx 1023 [l0] [[.a,.a,.a,.a,.a,.a,.a,.a,.a,.a,.a,.a,.a,.a]],gm l1,cI 2 (.ld 5 true s4),cI 2 (.call 209 [l3] nZ),gM l2 l4,gm l5,fR 6 0 s3,cI 6 (.ld 7 true l7),cI 6 (.ld 5 true s4),cI 6 (.call 1055 [l8,l9] [[.a,.a,.a,.a,.a,.a,.a],[.a,.a,.a,.a,.a]]),gM l6 l10,gm hO,fR 12 7 s3,cI 12 (.ld 7 true jZ),cI 12 (.ld 5 true s4),cI 12 (.call 1055 [ll,mG] [[.a,.a,.a,.a,.a,.a,.a],[.a,.a,.a,.a,.a]]),cI 12 (.un .not oA),gM jm sc,gm vA] 2 19) .ret))⟩
def w980 {Y:Ctx}(hm:(Y.at 0).cG)(h209:Ar Y)(h1023:Fj Y)(h1055:Ka Y)(s:Span)(v:a8)  (hp0:s.sm/\v.sm):dM Y Ef (.bool (kU s v)) [Span.D s,a8.D v]:=by
 show bZ _ _ _ [⟨_,_⟩,⟨_,_⟩,_,_,_] _;refine ak ?_;refine aF ?_;refine aW (d:=Span.D s) ?_;refine ar (hc:=h1023 (s) ?_) ?_;rotate_left;first|assumption|omega|(grind [Cut.sm,Span.sm,bp.sm,bB,aj,Want.sm,dJ.sm,bP.sm,bG.sm])
 refine aw ?_;refine aW (d:=a8.D v) ?_;refine bT (hc:=fun hf=>h209 (v) ?_) ?_;rotate_left;first|assumption|omega|(grind [Cut.sm,Span.sm,bp.sm,bB,aj,Want.sm,dJ.sm,bP.sm,bG.sm])
 refine av ?_;refine ay (v:=Cut.D s.f) ?_;refine aW (d:=a8.D v) ?_;refine bT (hc:=fun hf=>h1055 (s.f) (v) ?_) ?_;rotate_left;first|assumption|omega|(grind [Cut.sm,Span.sm,bp.sm,bB,aj,Want.sm,dJ.sm,bP.sm,bG.sm])
 refine av ?_;refine ay (v:=Cut.D s.t) ?_;refine aW (d:=a8.D v) ?_;refine bT (hc:=fun hf=>h1055 (s.t) (v) ?_) ?_;rotate_left;first|assumption|omega|(grind [Cut.sm,Span.sm,bp.sm,bB,aj,Want.sm,dJ.sm,bP.sm,bG.sm])
 refine aF ?_;refine b7 ?_;first|(grind [kU,jB];done)|(simp_all[kU,jB];done)
def JJ:aE:=⟨1,9,mP,dF,(sq (r1 [gm dG] 1 0) (sq (sq (rg [gm s0,gl l0,gm b9] [(5,0),(3,1),(2,2)]) (.block 0 (.loop (sq (r1 [aR s2 s3] 4 0) (sq (fX s4 0) (sq (.block 1 (sq (rg [gm s2,ga 14 s5 s2,gk 14 true l1,gb 14 (.c (.agg [.int .i64 0,.int .i64 0,.int .i64 0,.int .i64 0,.str [],.str [],.bool false,.int .i64 0,.int .i64 0,.int .i64 0,.int .i64 0,.str [],.str [],.bool false])),gm l0,gt 14 l3 l2] [(6,3),(7,4)]) (sq (r2 [gk 14 true s6,gx 1023 [l0] [[.a,.a,.a,.a,.a,.a,.a,.a,.a,.a,.a,.a,.a,.a]],nu l1,gm l2,fN 3 s7,cX 3 (eY l4 b9),fN 3 l5,gmt 6 s0,gmt 6 s7,cI 6 (tm l8 cS),cI 6 (.ia 14 l7 l9),fR 6 7 l10,cI 6 (.ld 7 true hO),fR 6 0 s6,cI 6 (.ld 7 true jZ),cI 6 (.call 1024 [jm,ll] [[.a,.a,.a,.a,.a,.a,.a],[.a,.a,.a,.a,.a,.a,.a]]),cI 6 (iO mG b9),AL 3 l6 oA,fO l3 sc] 8 18) (AM s8 dG)))) (r1 [aU s2 cS,gm l0] 2 1))))))) (Ib pK)))⟩
def w925 (h1023:Fj Y)(h1024:Fk Y)(l:List Span)  (hp0:bB l):dM Y JJ (.bool (k8 l)) [.sl 14 (l.map Span.D)]:=by
 show bZ _ _ _ [⟨_,_⟩,_,_,_,_,_,_,_,_] _;refine ak ?_;refine bj ?_;intro u0;refine az ?_;refine bN hm (ι:=Nat) (fun i=>[⟨true,.sl 14 ((l).map Span.D)⟩,.un,⟨true,.int .i64 (i:Nat)⟩,⟨true,.int .i64 (l.length:Nat)⟩,.un,⟨true,.sl 14 ((l).map Span.D)⟩,.un,.un,.un]) (fun i=>[]) 4 (fun i=>i<=l.length/\k8 l=dj (sj l) i l.length) (fun i=>l.length-i) 0 ⟨ae,rfl⟩ (fH []) ?_;rintro i ⟨hi,hr⟩;refine av ?_;refine di (fun hc0=>?_) fun hc0=>?_
 .refine aT ?_;refine bh (i) (hj:=fun hf=>by first|omega|(simp at hf;omega)) (hb:=fun hf=>by first|omega|(simp at hf;omega)) ?_;refine bd (v:=Span.D ((l)[i]!)) (hi:=fun hf=>by first|omega|(simp at hf;omega)) ?_;refine az ?_;refine dC (Span.D ((l)[i]!)) (he:=cv) ?_;refine az ?_;refine aW (d:=Span.D ((l)[i]!)) ?_;refine ar (hc:=h1023 ((l)[i]!) ?_) ?_;rotate_left;first|assumption|omega|(grind [Cut.sm,Span.sm,bp.sm,bB,aj,Want.sm,dJ.sm,bP.sm,bG.sm])
  refine cN ?_;refine eW (hb:=fun hf=>by first|omega|(simp at hf;omega)) ?_;refine bh ((i-1)) (hj:=fun hf=>by first|omega|(simp at hf;omega)) (hb:=fun hf=>by first|omega|(simp at hf;omega)) ?_;refine aw ?_;refine bd (v:=Cut.D ((l)[(i-1)]!.t)) (hi:=fun hf=>by first|omega|(simp at hf;omega)) ?_;refine aw ?_;refine ay (v:=Cut.D ((l)[i]!.f)) ?_;refine bT (hc:=fun hf=>h1024 ((l)[(i-1)]!.t) ((l)[i]!.f) ?_) ?_;rotate_left;first|assumption|omega|(grind [Cut.sm,Span.sm,bp.sm,bB,aj,Want.sm,dJ.sm,bP.sm,bG.sm])
  refine aT ?_;refine hJ (fun hc1=>?_) fun hc1=>?_
  .refine bj ?_;refine b7 ?_;rw[hr,bC ae];first|(grind [sj];done)|(simp_all[sj];done)
  refine av ?_;refine aG (hb:=fun hf=>by first|omega|(simp at hf;omega)) ?_;refine av ?_;exact⟨i+1,⟨ae,by rw[hr,bC ae];first|(grind [sj];done)|(simp_all[sj];done)⟩,ae,(fH [])⟩
 refine bj ?_;refine b7 ?_;rw[hr,dz ae]
def JI:aE:=⟨2,11,[⟨2,none⟩],dF,(sq (rg [gb 5 s1,gm dG] [(9,0),(2,1)]) (sq (sq (r1 [gm s0,gx 925 [l0] [[.sl 14 [.a,.a,.a,.a,.a,.a,.a,.a,.a,.a,.a,.a,.a,.a]]],nu l1] 3 2) (.cond s3 (sq (r1 [gm dG] 2 0) .ret) .skip)) (sq (sq (rg [gm s0,gl l0,gm b9] [(7,0),(5,1),(4,2)]) (.block 0 (.loop (sq (r1 [aR s4 s5] 6 0) (sq (fX s6 0) (sq (.block 1 (sq (r1 [ga 14 s7 s4,gk 14 true l0,gb 14 (.c (.agg [.int .i64 0,.int .i64 0,.int .i64 0,.int .i64 0,.str [],.str [],.bool false,.int .i64 0,.int .i64 0,.int .i64 0,.int .i64 0,.str [],.str [],.bool false])),gt 14 l2 l1] 8 2) (sq (r1 [gk 14 true s8,gk 5 true s9,gx 980 [l0,l1] [[.a,.a,.a,.a,.a,.a,.a,.a,.a,.a,.a,.a,.a,.a],[.a,.a,.a,.a,.a]]] 10 2) (.cond jh (sq (r1 [gm pK] 2 0) .ret) .skip)))) (r1 [aU s4 cS,gm l0] 4 1))))))) (sq (r1 [gm dG] 2 0) .ret))))⟩
def w861 (h925:Lk Y)(h980:N7 Y)(l:List Span)(v:a8)  (hp0:bB l/\v.sm):dM Y JI (.bool (my l v)) [.sl 14 (l.map Span.D),a8.D v]:=by
 show bZ _ _ _ [⟨_,_⟩,⟨_,_⟩,_,_,_,_,_,_,_,_,_] _;refine ak ?_;refine bj ?_;refine ar (hc:=h925 (l) ?_) ?_;rotate_left;first|assumption|omega|(grind [Cut.sm,Span.sm,bp.sm,bB,aj,Want.sm,dJ.sm,bP.sm,bG.sm])
 refine az ?_;refine di (fun hc0=>?_) fun hc0=>?_
 .refine aF ?_;refine b7 ?_;unfold my;simp_all
 refine aF ?_;intro u0;refine az ?_;refine bN hm (ι:=Nat) (fun i=>[⟨true,.sl 14 ((l).map Span.D)⟩,.un,.un,.un,⟨true,.int .i64 (i:Nat)⟩,⟨true,.int .i64 (l.length:Nat)⟩,.un,⟨true,.sl 14 ((l).map Span.D)⟩,.un,⟨true,.ptr 0 5 0 0⟩,.un]) (fun i=>[(0,.buf 5 [a8.D v])]) 8 (fun i=>i<=l.length/\my l v=vG (fun i=>kU l[i]! v) i l.length) (fun i=>l.length-i) 0 ⟨ae,by unfold my;rw[show k8 l=true by simpa using hc0];rfl⟩ (fH [(0,0)]) ?_;rintro i ⟨hi,hr⟩;refine av ?_;refine di (fun hc1=>?_) fun hc1=>?_
 .refine av ?_;refine bh (i) (hj:=fun hf=>by first|omega|(simp at hf;omega)) (hb:=fun hf=>by first|omega|(simp at hf;omega)) ?_;refine bd (v:=Span.D ((l)[i]!)) (hi:=fun hf=>by first|omega|(simp at hf;omega)) ?_;refine aw ?_;refine dC (Span.D ((l)[i]!)) (he:=cv) ?_;refine az ?_;refine aW (d:=Span.D ((l)[i]!)) ?_;refine aW (d:=a8.D v) ?_;refine ar (hc:=h980 ((l)[i]!) (v) ?_) ?_;rotate_left;first|assumption|omega|(grind [Cut.sm,Span.sm,bp.sm,bB,aj,Want.sm,dJ.sm,bP.sm,bG.sm])
  refine aw ?_;refine hJ (fun hc2=>?_) fun hc2=>?_
  .refine bj ?_;refine b7 ?_;rw[hr,nU ae];simp_all
  refine av ?_;refine aG (hb:=fun hf=>by first|omega|(simp at hf;omega)) ?_;refine av ?_;exact⟨i+1,⟨ae,by rw[hr,nU ae];simp_all⟩,ae,(fH [(0,0)])⟩
 refine bj ?_;refine b7 ?_;rw[hr,xa ae]
def zM:aE:=⟨1,3,mP,dF,(sq (rg [gb 7 s0,gm dG] [(2,0),(1,1)]) (sq (r1 [gf 0 s2,gd l0,dI l1 b9,gm l2,j9 3 6 s2,kJ 3 l4,cX 3 (.un .not l5),fN 3 l6,fR 7 1 s2,fR 7 3 l8,jV 7 l9,cI 7 (eX l10 cse),AL 3 l7 hO,fN 3 jm,fR 13 1 s2,cI 13 (.ld 5 true ll),cI 13 (.mv (.c (.agg [.int .i64 0,.int .i64 0,.int .i64 0,.str [],.str []]))),cI 13 (.eqA true true [.i .i64,.i .i64,.i .i64,.s,.s] mG oA),AL 3 jZ sc,fO l3 vA,gm yX] 1 20) .ret))⟩
def w924 {Y:Ctx}(hm:(Y.at 0).cG)  (c:Cut)   :dM Y zM (.bool (lJ c)) [Cut.D c]:=by
 show bZ _ _ _ [⟨_,_⟩,_,_] _;refine ak ?_;refine aF ?_;refine ay (v:=.int .i64 c.e) ?_;refine av ?_;refine ay (v:=.bool c.a) ?_;refine aT ?_;refine ay (v:=.str c.v.pre) ?_;refine aT ?_;refine ay (v:=a8.D c.v) ?_;refine PI (d:=a8.D zV) ?_;refine G8 (hb:=a8.eq _ _) ?_;refine aF ?_;refine b7 ?_;first|(grind [lJ,zV];done)|(simp_all[lJ,zV];done)
def JP:aE:=⟨1,9,mP,dF,(sq (rg [gb 2 s0,gm dG] [(2,0),(1,1)]) (sq (sq (rg [gf 0 s2,gd l0,gl l1,gm b9] [(6,1),(4,2),(3,3)]) (.block 0 (.loop (sq (r1 [aR s3 s4] 5 0) (sq (fX s5 0) (sq (.block 1 (sq (r1 [ga 14 s6 s3,gk 14 true l0,gb 14 (.c (.agg [.int .i64 0,.int .i64 0,.int .i64 0,.int .i64 0,.str [],.str [],.bool false,.int .i64 0,.int .i64 0,.int .i64 0,.int .i64 0,.str [],.str [],.bool false])),gt 14 l2 l1] 7 2) (sq (r1 [gf 0 s7,gk 7 true l0,gx 924 [l1] we,nu l2,gm l3,j9 4 7 s7,cX 4 (.ld 7 true l5),cX 4 (.call 924 [l6] we),cX 4 (.un .not l7),fO l4 l8] 8 9) (AM s8 dG)))) (r1 [aU s3 cS,gm l0] 3 1))))))) (sq (r1 [gf 0 s2,gd l0,gx 925 [l1] [[.sl 14 [.a,.a,.a,.a,.a,.a,.a,.a,.a,.a,.a,.a,.a,.a]]],gm l2,fR 3 1 s2,jV 3 l4,cI 3 (.call 925 [l5] [[.sl 14 [.a,.a,.a,.a,.a,.a,.a,.a,.a,.a,.a,.a,.a,.a]]]),gM l3 l6,gm l7] 1 8) .ret)))⟩
def w780 (h924:NY Y)(h925:Lk Y)(s:bp)  (hp0:s.sm):dM Y JP (.bool (mA s)) [bp.D s]:=by
 show bZ _ _ _ [⟨_,_⟩,_,_,_,_,_,_,_,_] _;refine ak ?_;refine bj ?_;refine ay (v:=.sl 14 ((s.rel).map Span.D)) ?_;refine aw ?_;intro u0;refine az ?_;refine bN hm (ι:=Nat) (fun i=>[.un,.un,⟨true,.ptr 0 2 0 0⟩,⟨true,.int .i64 (i:Nat)⟩,⟨true,.int .i64 (s.rel.length:Nat)⟩,.un,⟨true,.sl 14 ((s.rel).map Span.D)⟩,.un,.un]) (fun i=>[(0,.buf 2 [bp.D s])]) 6 (fun i=>i<=s.rel.length/\mA s=(dj (fun i=>lJ s.rel[i]!.f&&lJ s.rel[i]!.t) i s.rel.length&&(k8 s.rel&&k8 s.pr))) (fun i=>s.rel.length-i) 0 ⟨ae,(JM s).symm⟩ (fH [(0,0)]) ?_;rintro i ⟨hi,hr⟩;refine av ?_;refine di (fun hc0=>?_) fun hc0=>?_
 .refine av ?_;refine bh (i) (hj:=fun hf=>by first|omega|(simp at hf;omega)) (hb:=fun hf=>by first|omega|(simp at hf;omega)) ?_;refine bd (v:=Span.D ((s.rel)[i]!)) (hi:=fun hf=>by first|omega|(simp at hf;omega)) ?_;refine aw ?_;refine dC (Span.D ((s.rel)[i]!)) (he:=cv) ?_;refine av ?_;refine ay (v:=Cut.D ((s.rel)[i]!.f)) ?_;refine ar (hc:=h924 ((s.rel)[i]!.f)) ?_;refine av ?_;refine ay (v:=Cut.D ((s.rel)[i]!.t)) ?_;refine ar (hc:=h924 ((s.rel)[i]!.t)) ?_;refine av ?_;refine hJ (fun hc1=>?_) fun hc1=>?_
  .refine bj ?_;refine b7 ?_;rw[hr,bC ae];rcases hc1 with h|h<;>simp only[h,Bool.and_false,Bool.false_and]
  refine av ?_;refine aG (hb:=fun hf=>by first|omega|(simp at hf;omega)) ?_;refine av ?_;exact⟨i+1,⟨ae,by rw[hr,bC ae];simp_all⟩,ae,(fH [(0,0)])⟩
 refine aT ?_;refine ay (v:=.sl 14 ((s.rel).map Span.D)) ?_;refine ar (hc:=h925 (s.rel) ?_) ?_;rotate_left;first|assumption|omega|(grind [Cut.sm,Span.sm,bp.sm,bB,aj,Want.sm,dJ.sm,bP.sm,bG.sm])
 refine az ?_;refine ay (v:=.sl 14 ((s.pr).map Span.D)) ?_;refine bT (hc:=fun hf=>h925 (s.pr) ?_) ?_;rotate_left;first|assumption|omega|(grind [Cut.sm,Span.sm,bp.sm,bB,aj,Want.sm,dJ.sm,bP.sm,bG.sm])
 refine aT ?_;refine b7 ?_;rw[hr,dz ae];simp
def JO:aE:=⟨2,7,[⟨2,none⟩],dF,(sq (rg [gb 2 s0,gb 5 s1,gm dG] [(3,0),(4,1),(2,2)]) (sq (sq (r1 [gk 2 true s3,gx 780 [l0] [[.sl 14 [.a,.a,.a,.a,.a,.a,.a,.a,.a,.a,.a,.a,.a,.a],.sl 14 [.a,.a,.a,.a,.a,.a,.a,.a,.a,.a,.a,.a,.a,.a]]],nu l1,gm l2,cX 3 (.ld 5 true s4),cX 3 (.call 209 [l4] nZ),cX 3 (.un .not l5),fO l3 l6] 5 7) (.cond s5 (sq (r1 [gm dG] 2 0) .ret) .skip)) (sq (sq (r1 [gf 3 s4,gd l0,ct l1 cse] 6 2) (.cond s6 (sq (r1 [gf 0 s3,gd l0,gk 5 true s4,gx 861 [l1,l2] [[.sl 14 [.a,.a,.a,.a,.a,.a,.a,.a,.a,.a,.a,.a,.a,.a]],[.a,.a,.a,.a,.a]],gm l3] 2 4) .ret) .skip)) (sq (r1 [gf 1 s3,gd l0,gk 5 true s4,gx 861 [l1,l2] [[.sl 14 [.a,.a,.a,.a,.a,.a,.a,.a,.a,.a,.a,.a,.a,.a]],[.a,.a,.a,.a,.a]],gm l3] 2 4) .ret))))⟩
def w712 {Y:Ctx}(hm:(Y.at 0).cG)(h209:Ar Y)(h780:Lg Y)(h861:NW Y)(s:bp)(v:a8)  (hp0:s.sm/\v.sm):dM Y JO (.bool (mM s v)) [bp.D s,a8.D v]:=by
 show bZ _ _ _ [⟨_,_⟩,⟨_,_⟩,_,_,_,_,_] _;refine ak ?_;refine bj ?_;refine aW (d:=bp.D s) ?_;refine ar (hc:=h780 (s) ?_) ?_;rotate_left;first|assumption|omega|(grind [Cut.sm,Span.sm,bp.sm,bB,aj,Want.sm,dJ.sm,bP.sm,bG.sm])
 refine az ?_;refine aW (d:=a8.D v) ?_;refine bT (hc:=fun hf=>h209 (v) ?_) ?_;rotate_left;first|assumption|omega|(grind [Cut.sm,Span.sm,bp.sm,bB,aj,Want.sm,dJ.sm,bP.sm,bG.sm])
 refine av ?_;refine di (fun hc0=>?_) fun hc0=>?_
 .refine aF ?_;refine b7 ?_;first|(grind [mM];done)|(simp_all[mM];done)
 refine aT ?_;refine ay (v:=.str v.pre) ?_;refine az ?_;refine di (fun hc1=>?_) fun hc1=>?_
 .refine av ?_;refine ay (v:=.sl 14 ((s.rel).map Span.D)) ?_;refine aW (d:=a8.D v) ?_;refine ar (hc:=h861 (s.rel) (v) ?_) ?_;rotate_left;first|assumption|omega|(grind [Cut.sm,Span.sm,bp.sm,bB,aj,Want.sm,dJ.sm,bP.sm,bG.sm])
  refine av ?_;refine b7 ?_;first|(grind [mM];done)|(simp_all[mM];done)
 refine av ?_;refine ay (v:=.sl 14 ((s.pr).map Span.D)) ?_;refine aW (d:=a8.D v) ?_;refine ar (hc:=h861 (s.pr) (v) ?_) ?_;rotate_left;first|assumption|omega|(grind [Cut.sm,Span.sm,bp.sm,bB,aj,Want.sm,dJ.sm,bP.sm,bG.sm])
 refine av ?_;refine b7 ?_;first|(grind [mM];done)|(simp_all[mM];done)
def yS:aE:=⟨2,10,[⟨2,none⟩],[[.sl 1 [.a]]],(sq (r1 [gm (.c (.aA))] 2 0) (sq (r1 [gm (.c (.aA))] 8 0) (sq (r1 [gm b9] 9 0) (sq (sq (rg [gm s0,I5 l0,gm b9] [(4,1),(3,2)]) (.block 0 (.loop (sq (r1 [aR s3 s4] 5 0) (sq (fX s5 0) (sq (.block 1 (sq (r1 [gm s3,gm l0] 6 1) (sq (r1 [gm s0,gm s6,LV l0 l1,gm s1,ct l2 l3] 7 4) (.cond s7 (sq (r1 [gm s8,gm s0,gm s9,gm s6,gn (.slS l1 (some l2) (some l3)),gn (.bsl 1 (.str []) 1 [(0,l4)]),gn (.app 1 l0 l5),gm l6] 8 7) (r1 [gm s6,aU l0 cS,gm l1] 9 2)) .skip)))) (r1 [aU s3 cS,gm l0] 3 1))))))) (sq (r1 [gm s8,gm s0,gm s9,gn (.slS l1 (some l2) none),gn (.bsl 1 (.str []) 1 [(0,l3)]),gn (.app 1 l0 l4),gm l5] 2 6) .ret)))))⟩
def w533  (s:dn)(b:Int)  (hp0:s.length<=1048576):dM Y yS (.sl 1 ((bm s b).map D.str)) [.str s,.int .u8 b]:=by
 show bZ _ _ _ [⟨_,_⟩,⟨_,_⟩,_,_,_,_,_,_,_,_] _;refine ak ?_;refine lO ?_;intro u0;refine az ?_;refine bN hm (ι:=(Nat×Nat×List dn)) (fun p:Nat×Nat×List dn=>[⟨true,.str s⟩,⟨true,.int .u8 b⟩,.un,⟨true,.int .i64 (p.1:Nat)⟩,⟨true,.int .i64 (s.length:Nat)⟩,.un,.un,.un,⟨true,.own 0 1 0 p.2.2.length⟩,⟨true,.int .i64 (p.2.1:Nat)⟩]) (fun p=>[(0,.buf 1 (p.2.2.map D.str))]) 6 (fun p=>p.1<=s.length/\p.2.1<=p.1/\p.2.2.length<=p.1/\bm s b=p.2.2++gZ b (s.drop p.1) ((s.take p.1).drop p.2.1)) (fun p=>s.length-p.1) (0,0,[]) ⟨bc,bc,bc,rfl⟩ (aP.to [] ah ah (by repeat(first|exact aJ.nil|refine aJ.un ?_|refine aJ.eq ah ?_|refine aJ.nl ah ah ?_|refine aJ.ni (Or.inr ⟨0,1,0,rfl⟩) ?_)) (by repeat(first|exact aH.nil|refine aH.mt ah ah ah ah ?_))) ?_;rintro⟨i,fr,acc⟩ ⟨hi,hf,ha,hr⟩;dsimp only at hi hf ha hr⊢;refine av ?_;refine di (fun hc0=>?_) fun hc0=>?_
 .refine DY ?_;refine wp_cond (fun hc1=>?_) (fun hc1=>?_)
  .try simp only[tp]at hc1
   refine aF ?_;refine zt _ _ ?_;refine cT [(.str _)] ?_;refine KN ?_;exact⟨(i+1,i+1,acc++[(s.take i).drop fr]),⟨ei,ei,ed,by rw[hr,wM ae hc1];simp⟩,ei,(aP.to [(20,0)] ah ah Jv (by refine aH.nl 20 ah ah ah dy ?_;exact aH.nil))⟩
  simp only[dE]at hc1;refine cN ?_;exact⟨(i+1,fr,acc),⟨ei,ei,ei,by rw[hr,wN ae ae hc1]⟩,ei,(aP.to [(0,0)] ah ah Jv (by refine aH.nl 0 ah ah ah dy ?_;exact aH.nil))⟩
 refine bj ?_;refine zu _ ?_;refine cT [(.str _)] ?_;refine av ?_;refine du 12 ?_;refine aw ?_;refine dd (?_);have hs:bm s b=acc++[s.drop fr]:=by rw[hr,uS ae]
 rw[hs];exact rfl
def sw:aE:=⟨1,7,mP,dF,(sq (r1 [gm dG] 1 0) (sq (sq (rg [gm s0,I5 l0,gm b9] [(3,1),(2,2)]) (.block 0 (.loop (sq (r1 [aR s2 s3] 4 0) (sq (fX s4 0) (sq (.block 1 (sq (r1 [gm s2,gm l0] 5 1) (sq (r1 [gm s0,gm s5,LV l0 l1,aR l2 (i8 48),gm l3,fN 4 s0,fN 4 s5,cX 4 (.ixS l5 l6),cX 4 (eY l7 (i8 57)),fO l4 l8] 6 9) (AM s6 dG)))) (r1 [aU s2 cS,gm l0] 2 1))))))) (sq (r1 [gm s0,dI l0 cse,gm l1] 1 2) .ret)))⟩
def w659  (t:dn)   :dM Y sw (.bool (cD t)) [.str t]:=by
 show bZ _ _ _ [⟨_,_⟩,_,_,_,_,_,_] _;refine ak ?_;refine bj ?_;intro u0;refine az ?_;refine bN hm (ι:=Nat) (fun i=>[⟨true,.str t⟩,.un,⟨true,.int .i64 (i:Nat)⟩,⟨true,.int .i64 (t.length:Nat)⟩,.un,.un,.un]) (fun i=>[]) 4 (fun i=>i<=t.length/\dj (fun i=>cW (at8 t i)) 0 t.length=dj (fun i=>cW (at8 t i)) i t.length) (fun i=>t.length-i) 0 ⟨ae,rfl⟩ (fH []) ?_;rintro i ⟨hi,hr⟩;refine av ?_;refine di (fun hc0=>?_) fun hc0=>?_
 .refine Qe ?_;refine hJ (fun hc1=>?_) fun hc1=>?_
  .refine bj ?_;refine b7 ?_;simp only[cD];rw[hr,bC ae];rcases hc1 with h|h<;>simp[cW]<;>omega
  refine cN ?_;exact⟨i+1,⟨ae,by rw[hr,bC ae];rw[show cW (at8 t i)=true by simp only[cW,bo,bX];omega];rfl⟩,ae,(fH [])⟩
 refine iK ?_;refine b7 ?_;simp only[cD];rw[hr,dz ae];cases t<;>simp
def yg:aE:=⟨1,2,mP,dF,(sq (r1 [gm dG] 1 0) (sq (r1 [gm s0,mr l0 b9,gm l1,gmt 2 s0,cI 2 (yE l3 (i6 9999)),gM l2 l4,gm l5] 1 6) .ret))⟩
def w440 {Y:Ctx}(hm:(Y.at 0).cG)  (n:Int)   :dM Y yg (.bool (AI n)) [.int .i64 n]:=by
 show bZ _ _ _ [⟨_,_⟩,_] _;refine ak ?_;refine lO ?_;exact b7 rfl
def yh:aE:=⟨1,15,mP,dF,(sq (r1 [gm dG] 1 0) (sq (r1 [gm s0,gx 533 [l0,(i8 46)] mN,gm l1] 2 2) (sq (r1 [gm s2,gl l0,A6 l1 LZ,gm l2] 14 3) (sq .skip (sq (sq (rg [gm s2,gl l0,gm b9] [(6,0),(4,1),(3,2)]) (.block 0 (.loop (sq (r1 [aR s3 s4] 5 0) (sq (fX s5 0) (sq (.block 1 (sq (r1 [ga 1 s6 s3,gd l0,gm l1] 7 2) (sq (sq (r1 [gm s7,ct l0 cse,gm l1,fN 2 s7,cX 2 (.lenS l3),cX 2 (eY l4 ic8),fO l2 l5] 8 6) (.cond s8 (sq (r1 [gm dG] 14 0) (.exit 0)) .skip)) (sq (r1 [gm s7,gn (.rng l0)] 9 1) (.block 2 (.loop (sq (rg [gn (.br s9),ge l0 0] [(11,0),(10,1)]) (sq (fX jh 2) (.block 3 (sq (r1 [ge oD 2,gm l0] 12 1) (sq (r1 [gm lq,aR l0 (i3 97),gm l1,fN 2 lq,cX 2 (eY l3 (i3 122)),fO l2 l4,gm l5,gmt 6 lq,cI 6 (jL l7 (i3 48)),gmt 6 l8,fN 9 lq,cX 9 (eY l10 (i3 57)),Pn 6 l9 hO,gM l6 jm,gm jZ,gmt 14 lq,cI 14 (mD mG (i3 45)),gM ll oA] 13 17) (.cond vC (sq (r1 [gm dG] 14 0) (.exit 0)) .skip)))))))))))) (r1 [aU s3 cS,gm l0] 3 1))))))) (sq (r1 [gm zK,gm l0] 1 1) .ret))))))⟩
def w442 (h533:It Y)(s:dn)  (hp0:s.length<=1048576):dM Y yh (.bool (lL s false)) [.str s]:=by
 show bZ _ _ _ [⟨_,_⟩,_,_,_,_,_,_,_,_,_,_,_,_,_,_] _;refine ak ?_;refine aT ?_;refine ar (hc:=h533 _ _ ?_) ?_;rotate_left;first|assumption|omega;have hlen:=pz s 46
 refine aF ?_;intro u0;refine iK ?_;intro u1;refine az ?_;refine bN hm (ι:=Nat) (fun i=>[.un,.un,⟨true,.sl 1 ((bm s 46).map D.str)⟩,⟨true,.int .i64 (i:Nat)⟩,⟨true,.int .i64 ((bm s 46).length:Nat)⟩,.un,⟨true,.sl 1 ((bm s 46).map D.str)⟩,.un,.un,.un,.un,.un,.un,.un,⟨true,.bool (decide (((bm s 46).length:Int)<=4))⟩]) (fun i=>[]) 11 (fun i=>i<=(bm s 46).length/\lL s false=(decide ((bm s 46).length<=4)&&dj (fun i=>fQ false (bm s 46)[i]!) i (bm s 46).length)) (fun i=>(bm s 46).length-i) 0 ⟨ae,rfl⟩ (fH []) ?_;rintro i ⟨hi,hr⟩;refine av ?_;refine di (fun hc0=>?_) fun hc0=>?_
 .refine iM ?_;generalize ht:(bm s 46)[i]! =t;refine aT ?_;refine lP ?_;refine av ?_;refine di (fun hc1=>?_) fun hc1=>?_
  .refine lO ?_;refine b7 ?_;first
    |(rw[hr,dz ae,eO];exact vy.2 ae)
    |(have hb:ov t=false:=by
       first
       |(simp only[ov];rcases hc1 with h|h
         .subst h;simp
         .rw[dc (by omega:¬t.length<=8)];simp)
       |(have hz:j5 (at8 t j)=false:=by
          rcases hcw with⟨_,h,_⟩|⟨_,h⟩<;>(simp only[j5,AZ,cW,iI,fM,dE];omega)
         rw[hj,bC hnx,hz];rfl)
      rw[hr,bC ae,show fQ false (bm s 46)[i]! =false from(by simp only[fQ,ht,hb,Bool.false_and])];simp)
  refine aF ?_;have hT:ov t=dj (fun i=>j5 (at8 t i)) 0 t.length:=by
   have:=List.length_pos_iff.2 hc1.1;simp only[ov];rw[cu ae,cu ae];rfl
  refine om hm (ι:=Nat) (fun j=>[.un,.un,⟨true,.sl 1 ((bm s 46).map D.str)⟩,⟨true,.int .i64 (i:Nat)⟩,⟨true,.int .i64 ((bm s 46).length:Nat)⟩,.un,⟨true,.sl 1 ((bm s 46).map D.str)⟩,.un,.un,⟨true,.it 23⟩,.un,.un,.un,.un,⟨true,.bool (decide (((bm s 46).length:Int)<=4))⟩]) (fun j=>[(23,.iter t j)]) 24 (fun j=>j<=t.length/\ov t=dj (fun i=>j5 (at8 t i)) j t.length) (fun j=>t.length-j) 0 ⟨ae,hT⟩ (fH [(23,23)]) ?_;rintro j ⟨hj0,hj⟩;refine aw ?_;by_cases hnx:j<t.length
  .obtain⟨c,w,hdec,hw,hcw⟩:=yL t j hnx;refine Hg c w (hp:=hnx) (hc:=hdec) ?_;refine az ?_;refine bn (t:=true) (fun _=>?_) (fun h=>by cases h);refine Qg ?_;refine hJ (fun hc3=>?_) fun hc3=>?_
   .refine DY ?_;refine b7 ?_;first
     |(rw[hr,dz ae,eO];exact vy.2 ae)
     |(have hb:ov t=false:=by
        first
        |(simp only[ov];rcases hc1 with h|h
          .subst h;simp
          .rw[dc (by omega:¬t.length<=8)];simp)
        |(have hz:j5 (at8 t j)=false:=by
           rcases hcw with⟨_,h,_⟩|⟨_,h⟩<;>(simp only[j5,AZ,cW,iI,fM,dE];omega)
          rw[hj,bC hnx,hz];rfl)
       rw[hr,bC ae,show fQ false (bm s 46)[i]! =false from(by simp only[fQ,ht,hb,Bool.false_and])];simp)
   refine av ?_;obtain⟨rfl,hat,-⟩:w=1/\(c:Int)=at8 t j/\c<128:=by
    rcases hcw with h|h
    .exact h
    .omega
   have hz:j5 (at8 t j)=true:=by
    simp only[j5,AZ,cW,eu,bo,bX];omega
   exact⟨j+1,⟨ae,by rw[hj,bC hnx,hz];rfl⟩,ae,(fH [(23,23)])⟩
  .refine Hf (hp:=hnx) ?_;refine az ?_;refine bn (t:=false) (fun h=>by cases h) (fun _=>?_);refine iK ?_;exact⟨i+1,⟨ae,by rw[hr,bC ae];rw[show fQ false (bm s 46)[i]! =true from(by simp only[fQ,Bool.false_and,Bool.not_false,eO];rw[ht,hj,dz ae])];rfl⟩,ae,(fH [])⟩
 refine cN ?_;refine b7 ?_;first
  |(rw[hr,dz ae,eO];exact vy.2 ae)
  |(have hb:ov t=false:=by
     first
     |(simp only[ov];rcases hc1 with h|h
       .subst h;simp
       .rw[dc (by omega:¬t.length<=8)];simp)
     |(have hz:j5 (at8 t j)=false:=by
        rcases hcw with⟨_,h,_⟩|⟨_,h⟩<;>(simp only[j5,AZ,cW,iI,fM,dE];omega)
       rw[hj,bC hnx,hz];rfl)
    rw[hr,bC ae,show fQ false (bm s 46)[i]! =false from(by simp only[fQ,ht,hb,Bool.false_and])];simp)
def vH:aE:=⟨1,2,mP,dF,(sq (r1 [gm dG] 1 0) (sq (r1 [gm s0,gm s0,dI l0 l1,gm l2] 1 3) .ret))⟩
def w714 {Y:Ctx}(hm:(Y.at 0).cG)  (x:Int)   :dM Y vH (.bool false) [.int .i64 x]:=by
 show bZ _ _ _ [⟨_,_⟩,_] _;refine ak ?_;refine iM ?_;refine b7 ?_;simp
def vI:aE:=⟨1,2,mP,dF,(sq (r1 [gm dG] 1 0) (sq (r1 [gm s0,gm s0,dI l0 l1,gm l2] 1 3) .ret))⟩
def w704 {Y:Ctx}(hm:(Y.at 0).cG)  (x:dn)   :dM Y vI (.bool false) [.str x]:=by
 show bZ _ _ _ [⟨_,_⟩,_] _;refine ak ?_;refine iM ?_;refine b7 ?_;simp
def rZ:aE:=⟨2,10,[⟨2,none⟩],dF,(sq (r1 [gm b9] 2 0) (sq (r1 [gm s0,gx 714 [l0] dF,gm l1] 3 2) (sq (r1 [gm s1,gx 714 [l0] dF,gm l1] 5 2) (sq (sq (r1 [gm s3] 4 0) (.cond s4 (sq (sq (r1 [gm s5] 6 0) (.cond s6 (sq (r1 [gm b9] 2 0) .ret) .skip)) (sq (r1 [gn (.mv (.c (.int .i64 (-1))))] 2 0) .ret)) .skip)) (sq (sq (r1 [gm s5] 7 0) (.cond s7 (sq (r1 [gm cS] 2 0) .ret) .skip)) (sq (sq (r1 [gm s0,gm s1,aR l0 l1] 8 2) (.cond s8 (sq (r1 [gn (.mv (.c (.int .i64 (-1))))] 2 0) .ret) .skip)) (sq (sq (r1 [gm s0,gm s1,iY l0 l1] 9 2) (.cond s9 (sq (r1 [gm cS] 2 0) .ret) .skip)) (sq (r1 [gm b9] 2 0) .ret))))))))⟩
def w532 {Y:Ctx}(hm:(Y.at 0).cG)(h714:NO Y)(a:Int)(b:Int)   :dM Y rZ (.int .i64 (cY a b)) [.int .i64 a,.int .i64 b]:=by
 show bZ _ _ _ [⟨_,_⟩,⟨_,_⟩,_,_,_,_,_,_,_,_] _;refine ak ?_;refine aT ?_;refine ar (hc:=h714 _) ?_;refine aT ?_;refine ar (hc:=h714 _) ?_;refine bj ?_;refine bn (t:=false) (fun h=>by cases h) (fun _=>?_);refine aF ?_;refine bn (t:=false) (fun h=>by cases h) (fun _=>?_);refine cN ?_;refine di (fun hc3=>?_) fun hc3=>?_
 .refine aF ?_;refine cQ ?_;simp[cY,hc3]
 refine cN ?_;refine di (fun hc4=>?_) fun hc4=>?_
 .refine aF ?_;refine cQ ?_;unfold cY;rw[ai hc3,au hc4]
 refine aF ?_;refine cQ ?_;unfold cY;rw[ai hc3,ai hc4]
def r0:aE:=⟨2,10,[⟨2,none⟩],dF,(sq (r1 [gm b9] 2 0) (sq (r1 [gm s0,gx 704 [l0] dF,gm l1] 3 2) (sq (r1 [gm s1,gx 704 [l0] dF,gm l1] 5 2) (sq (sq (r1 [gm s3] 4 0) (.cond s4 (sq (sq (r1 [gm s5] 6 0) (.cond s6 (sq (r1 [gm b9] 2 0) .ret) .skip)) (sq (r1 [gn (.mv (.c (.int .i64 (-1))))] 2 0) .ret)) .skip)) (sq (sq (r1 [gm s5] 7 0) (.cond s7 (sq (r1 [gm cS] 2 0) .ret) .skip)) (sq (sq (r1 [gm s0,gm s1,aR l0 l1] 8 2) (.cond s8 (sq (r1 [gn (.mv (.c (.int .i64 (-1))))] 2 0) .ret) .skip)) (sq (sq (r1 [gm s0,gm s1,iY l0 l1] 9 2) (.cond s9 (sq (r1 [gm cS] 2 0) .ret) .skip)) (sq (r1 [gm b9] 2 0) .ret))))))))⟩
def w516 {Y:Ctx}(hm:(Y.at 0).cG)(h704:NM Y)(a:dn)(b:dn)   :dM Y r0 (.int .i64 (kB a b)) [.str a,.str b]:=by
 show bZ _ _ _ [⟨_,_⟩,⟨_,_⟩,_,_,_,_,_,_,_,_] _;refine ak ?_;refine aT ?_;refine ar (hc:=h704 _) ?_;refine aT ?_;refine ar (hc:=h704 _) ?_;refine bj ?_;refine bn (t:=false) (fun h=>by cases h) (fun _=>?_);refine aF ?_;refine bn (t:=false) (fun h=>by cases h) (fun _=>?_);refine cN ?_;refine di (fun hc3=>?_) fun hc3=>?_
 .refine aF ?_;refine cQ ?_;simp[kB,hc3]
 refine cN ?_;refine di (fun hc4=>?_) fun hc4=>?_
 .refine aF ?_;refine cQ ?_;simp_all[kB]
 refine aF ?_;refine cQ ?_;simp_all[kB]
def LO:aE:=⟨1,9,mP,dF,(sq (r1 [gm b9] 1 0) (sq (r1 [gm b9] 7 0) (sq (sq (rg [gm s0,gl l0,gm b9] [(5,0),(3,1),(2,2)]) (.block 0 (.loop (sq (r1 [aR s2 s3] 4 0) (sq (fX s4 0) (sq (.block 1 (sq (r1 [ga 1 s5 s2,gd l0,gm l1] 6 2) (sq (r1 [gm s6,gm s7,dI l0 l1] 8 2) (.cond s8 (sq (r1 [gm s6,gm l0] 1 1) .ret) .skip)))) (r1 [aU s2 cS,gm l0] 2 1))))))) (sq (r1 [gm s7,gm l0] 1 1) .ret))))⟩
def w531  (l:List Int)   :dM Y LO (.int .i64 (fV (fun i=>l[i]!) 0 l.length)) [.sl 1 (l.map (D.int .i64))]:=by
 show bZ _ _ _ [⟨_,_⟩,_,_,_,_,_,_,_,_] _;refine ak ?_;refine iM ?_;intro u0;refine az ?_;refine bN hm (ι:=Nat) (fun i=>[.un,.un,⟨true,.int .i64 (i:Nat)⟩,⟨true,.int .i64 (l.length:Nat)⟩,.un,⟨true,.sl 1 (l.map (D.int .i64))⟩,.un,⟨true,.int .i64 0⟩,.un]) (fun i=>[]) 5 (fun i=>i<=l.length/\fV (fun i=>l[i]!) 0 l.length=fV (fun i=>l[i]!) i l.length) (fun i=>l.length-i) 0 ⟨ae,rfl⟩ (fH []) ?_;rintro i ⟨hi,hr⟩;refine av ?_;refine di (fun hc0=>?_) fun hc0=>?_
 .refine av ?_;refine bh i ?_;refine bd (v:=.int .i64 l[i]!) ?_;refine cN ?_;refine hJ (fun hc1=>?_) fun hc1=>?_
  .refine cN ?_;refine cQ ?_;rw[hr,AH ae hc1]
  refine cN ?_;exact⟨i+1,⟨ae,by rw[hr,Ei ae hc1]⟩,ae,(fH [])⟩
 refine cN ?_;refine cQ ?_;rw[hr,Eh ae]
def yf:aE:=⟨1,3,[⟨1,some (5,true)⟩],nZ,(sq (rg [gb 5 s0,gb 5 (.c (.agg [.int .i64 0,.int .i64 0,.int .i64 0,.str [],.str []]))] [(2,0),(1,1)]) (sq (rg [gf 4 s2,gt 1 l0 cse] []) (sq (rg [gk 5 true s2,gt 5 s1 l0] []) .ret)))⟩
def w530 {Y:Ctx}(hm:(Y.at 0).cG)  (v:a8)   :dM Y yf (a8.D (jo v)) [a8.D v]:=by
 show bZ _ _ _ [⟨_,_⟩,_,_] _;refine ak ?_;refine aF ?_;refine dC _ (he:=cv) ?_;refine bj ?_;refine dd (?_);rfl
def zW:aE:=⟨2,10,[⟨2,none⟩],dF,(sq (r1 [gm b9] 2 0) (sq (rg [gm s0,gx 659 [l0] dF,gm s1,gx 659 [l2] dF,gm l1,gm l3] [(3,4),(4,5)]) (sq (sq (r1 [gm s3,gm l0,gmt 1 s4,gM l1 l2] 5 3) (.cond s5 (sq (r1 [gm s0,gx 658 [l0] dF,gm l1,ge l2 0,ge l2 1,gm l3,gm l4] 6 5) (sq (r1 [gm s1,gx 658 [l0] dF,gm l1,ge l2 0,ge l2 1,gm l3,gm l4] 7 5) (sq (r1 [gm s6,gm s7,gx 532 [l0,l1] mN,gm l2] 2 3) .ret))) .skip)) (sq (sq (r1 [gm s3,gm s4,gn (.eqA true false [.b] l0 l1)] 8 2) (.cond s8 (sq (sq (r1 [gm s3] 9 0) (.cond s9 (sq (r1 [gn (.mv (.c (.int .i64 (-1))))] 2 0) .ret) .skip)) (sq (r1 [gm cS] 2 0) .ret)) .skip)) (sq (r1 [gm s0,gm s1,gx 516 [l0,l1] mN,gm l2] 2 3) .ret)))))⟩
def w534 {Y:Ctx}(hm:(Y.at 0).cG)(h516:K5 Y)(h532:Is Y)(h658:La Y)(h659:Lb Y)(a:dn)(b:dn)   :dM Y zW (.int .i64 (ow a b)) [.str a,.str b]:=by
 show bZ _ _ _ [⟨_,_⟩,⟨_,_⟩,_,_,_,_,_,_,_,_] _;refine ak ?_;refine aT ?_;refine ar (hc:=h659 _) ?_;refine aw ?_;refine ar (hc:=h659 _) ?_;refine kM ?_;refine di (fun hc0=>?_) fun hc0=>?_
 .refine av ?_;refine ar (hc:=h658 _) ?_;refine iM ?_;refine ar (hc:=h658 _) ?_;refine kM ?_;refine ar (hc:=h532 _ _) ?_;refine av ?_;refine cQ ?_;unfold ow;rw[au hc0]
 refine aF ?_;refine G8 (hb:=LR _ _) ?_;refine aw ?_;refine bn (fun hc1=>?_) (fun hc1=>?_)
 .simp only[eC,dE]at hc1;refine aF ?_;refine di (fun hc2=>?_) fun hc2=>?_
  .refine aF ?_;refine cQ ?_;have hn:¬(cD a=true/\cD b=true):=by rintro⟨h1,h2⟩;simp[h1,h2]at hc0
   unfold ow;rw[ai hn];rw[au hc2]
  refine bj ?_;refine cQ ?_;have hn:¬(cD a=true/\cD b=true):=by rintro⟨h1,h2⟩;simp[h1,h2]at hc0
  unfold ow;rw[ai hn];rw[ai (by simp[hc2]),au (by cases h:cD b with|true=>rfl|false=>exact absurd (hc2.trans h.symm) hc1)]
 simp only[qp,bX]at hc1;refine aT ?_;refine ar (hc:=h516 _ _) ?_;refine av ?_;refine cQ ?_;have hn:¬(cD a=true/\cD b=true):=by rintro⟨h1,h2⟩;simp[h1,h2]at hc0
 unfold ow;rw[ai hn];have h1:cD a=false:=by cases h:cD a with|false=>rfl|true=>exact absurd ⟨h,hc1▸h⟩ hn
 rw[ai (by simp[h1]),ai (by rw[<-hc1];simp[h1])]
def yY:aE:=⟨0,6,[⟨0,none⟩],dF,(sq (r1 [gm dG] 0 0) (sq (r1 [gn (.build [.int .i64 0,.int .i64 0] [(1,1,cS)]),gn (.bsl 2 (.agg [.int .i64 0,.int .i64 0]) 1 [(0,l0)]),gn (.build [.int .i64 0,.int .i64 0,.int .i64 0,.int .i64 0,.aA] [(0,1,cS),(4,1,l1)]),gn (.build [.int .i64 0,.int .i64 0] [(1,1,Cf)]),gn (.bsl 2 (.agg [.int .i64 0,.int .i64 0]) 1 [(0,l3)]),gn (.build [.int .i64 0,.int .i64 0,.int .i64 0,.int .i64 0,.aA] [(0,1,Cf),(4,1,l4)]),gn (.build [.int .i64 0,.int .i64 0,.int .i64 0,.int .i64 0,.aA] [(0,1,ic5),(3,1,cS)]),gn (.bsl 5 (.agg [.int .i64 0,.int .i64 0,.int .i64 0,.int .i64 0,.aA]) 3 [(0,l2),(1,l5),(2,l6)]),gm l7] 1 8) (sq (rg [gx 197 [] [],gm s1,gx 65 [l0,(.c (.aA)),l1] [[.sl 3 [.a,.a,.sl 8 [.a,.a,.a,.a,.a,.a,.sl 1 [.sl 3 [.a,.a]],.sl 3 [.a,.a,.a]]]],[.sl 1 [.a]],[.sl 5 [.a,.a,.a,.a,.sl 2 [.a,.a]]]],gm l2,ge l3 0,ge l3 1,gm l4,gm l5] [(2,6),(3,7)]) (sq (rt [gx 197 [] [],gm s1,gn (.slA 5 l1 (some cS) none),gx 65 [l0,(.c (.aA)),l2] [[.sl 3 [.a,.a,.sl 8 [.a,.a,.a,.a,.a,.a,.sl 1 [.sl 3 [.a,.a]],.sl 3 [.a,.a,.a]]]],[.sl 1 [.a]],[.sl 5 [.a,.a,.a,.a,.sl 2 [.a,.a]]]],gm l3,ge l4 0,ge l4 1,gm l5,gm l6] [(4,7),(5,8)]) (sq (r1 [gm s2,ct l0 I7,gm l1,gmt 2 s3,gM l2 l3,gm l4,gmt 5 s4,cI 5 (eX l6 cS),gM l5 l7,gm l8,gmt 9 s5,cI 9 (.un .not l10),gM l9 hO,gm jm,cI 13 (.call 197 [] []),gmt 13 s1,cI 13 (.call 198 [ll,(.c (.aA)),mG,Cf] [[.sl 3 [.a,.a,.sl 8 [.a,.a,.a,.a,.a,.a,.sl 1 [.sl 3 [.a,.a]],.sl 3 [.a,.a,.a]]]],[.sl 1 [.a]],[.sl 5 [.a,.a,.a,.a,.sl 2 [.a,.a]]],[.a]]),gM jZ oA,gm sc] 0 18) .ret)))))⟩
def w63 {Y:Ctx}(hm:(Y.at 0).cG)(h65:C65 Y)(h197:Na Y)(h198:KT Y)    :dM Y yY (.bool true) []:=by
 show bZ _ _ _ [_,_,_,_,_,_] _;refine ak ?_;refine av ?_;refine bz (bM.D ⟨0,1⟩) ?_;refine cT [bM.D ⟨0,1⟩] ?_;refine dq [.int .i64 1,.int .i64 0,.int .i64 0,.int .i64 0,.own 2 2 0 1] ?_;refine bz (bM.D ⟨0,2⟩) ?_;refine cT [bM.D ⟨0,2⟩] ?_;refine dq [.int .i64 2,.int .i64 0,.int .i64 0,.int .i64 0,.own 5 2 0 1] ?_;refine dq [.int .i64 5,.int .i64 0,.int .i64 0,.int .i64 1,.aA] ?_;refine cT [.agg [.int .i64 1,.int .i64 0,.int .i64 0,.int .i64 0,.own 2 2 0 1],.agg [.int .i64 2,.int .i64 0,.int .i64 0,.int .i64 0,.own 5 2 0 1],.agg [.int .i64 5,.int .i64 0,.int .i64 0,.int .i64 1,.aA]] ?_;refine az ?_;refine vl [(2,.buf 2 [bM.D ⟨0,1⟩]),(5,.buf 2 [bM.D ⟨0,2⟩]),(8,.buf 5 [.agg [.int .i64 1,.int .i64 0,.int .i64 0,.int .i64 0,.own 2 2 0 1],.agg [.int .i64 2,.int .i64 0,.int .i64 0,.int .i64 0,.own 5 2 0 1],.agg [.int .i64 5,.int .i64 0,.int .i64 0,.int .i64 1,.sl 2 []]])] (iS.id ah (iS.id ah (iS.bf ah (lj.cons (.refl _) (lj.cons (.refl _) (lj.cons (rW.ag (lj.cons (.refl _) (lj.cons (.refl _) (lj.cons (.refl _) (lj.cons (.refl _) (lj.cons (.nil _) lj.nil)))))) lj.nil))) iS.nil))) ?_;refine du 2 ?_;refine du 5 ?_;refine du 8 ?_;show bZ _ _ _ [⟨true,.bool false⟩,⟨true,.sl 5 (lH.map aq.D)⟩,.un,.un,.un,.un] ⟨_,[]⟩;refine aw ?_;refine ar (hc:=h197) ?_;refine aw ?_;refine ar (v:=.tup [.int .i64 3,.bool true]) (hc:=⟨(h65 ji [] lH ⟨j4,nM⟩).1,(h65 ji [] lH ⟨j4,nM⟩).2.trans (bK (fun p:Int×Bool=>D.tup [.int .i64 p.1,.bool p.2]) LI)⟩) ?_;refine cN ?_;refine ar (hc:=h197) ?_;refine aw ?_;refine zr 1 (hb:=fun _=>bL) ?_;refine ar (v:=.tup [.int .i64 1,.bool false]) (hc:=⟨(h65 ji [] (lH.drop 1) ⟨j4,wI⟩).1,(h65 ji [] (lH.drop 1) ⟨j4,wI⟩).2.trans (bK (fun p:Int×Bool=>D.tup [.int .i64 p.1,.bool p.2]) LJ)⟩) ?_;refine Qf ?_;refine bT (hc:=fun hf=>h197) ?_;refine aw ?_;refine bT (v:=.bool true) (hc:=fun hf=>⟨(h198 ji [] lH 2 ⟨j4,nM⟩).1,(h198 ji [] lH 2 ⟨j4,nM⟩).2.trans (bK D.bool LK)⟩) ?_;refine aT ?_;exact b7 rfl
def ri:aE:=⟨3,8,[⟨3,none⟩],[[.sl 14 [.a,.a,.a,.a,.a,.a,.a,.a,.a,.a,.a,.a,.a,.a]]],(sq (rg [gb 7 s1,gb 7 s2,gm (.c (.aA))] [(5,0),(7,1),(3,2)]) (sq (sq (r1 [gm s0,gl l0,iC l1 cS,gm l2] 4 3) (sq (r2 [gm s4,mr l0 b9,gm l1,gmt 2 s0,gmt 2 s4,cI 2 (.ia 14 l3 l4),fR 2 7 l5,cI 2 (.ld 7 true l6),cI 2 (.ld 7 true s5),cI 2 (.call 1020 [l7,l8] [[.a,.a,.a,.a,.a,.a,.a],[.a,.a,.a,.a,.a,.a,.a]]),cI 2 (eX l9 b9),gM l2 l10] 6 11) (.cond s6 (sq (rg [gm s0,gm s4,gk 7 true s7,ga 14 l0 l1,gf 7 l3,gt 7 l4 l2] []) (sq (r1 [gm s0,gm l0] 3 1) .ret)) .skip))) (sq (r1 [gm s0,gk 7 true s5,gk 7 true s7,gn (.build [.int .i64 0,.int .i64 0,.int .i64 0,.int .i64 0,.str [],.str [],.bool false,.int .i64 0,.int .i64 0,.int .i64 0,.int .i64 0,.str [],.str [],.bool false] [(0,7,l1),(7,7,l2)]),gn (.bsl 14 (.agg [.int .i64 0,.int .i64 0,.int .i64 0,.int .i64 0,.str [],.str [],.bool false,.int .i64 0,.int .i64 0,.int .i64 0,.int .i64 0,.str [],.str [],.bool false]) 1 [(0,l3)]),gn (.app 14 l0 l4),gm l5] 3 6) .ret)))⟩
def w921 {Y:Ctx}(hm:(Y.at 1).cG)(out:List Span)(f:Cut)(t:Cut)(h1020:vT (Y.at 1))(hp0:(bB out/\f.sm/\t.sm)/\out.length<=100000):bZ (Y.at 1) ri.body (kv ri (fun d m=>∃j,d=.own j 14 0 (kd out f t).length/\look m j=some (.buf 14 ((kd out f t).map Span.D))):Ex->List bH->St->Prop) (fq ri [.own 0 14 0 out.length,Cut.D f,Cut.D t]) ⟨1,[(0,.buf 14 (out.map Span.D))]⟩:=by
 show bZ _ _ _ [⟨true,.own 0 14 0 out.length⟩,⟨true,Cut.D f⟩,⟨true,Cut.D t⟩,.un,.un,.un,.un,.un] ⟨1,[(0,.buf 14 (out.map Span.D))]⟩;refine ak ?_;refine cN ?_;refine lP ?_;refine eW (hb:=ae) ?_;refine iM ?_;refine fh (out.length-1) (hj:=fun hf=>by simp at hf;omega) (hb:=fun hf=>by simp at hf;omega) ?_;refine aw ?_;refine ig (q:=Span.D) (xs:=out) (v:=Cut.D out[out.length-1]!.t) (hi:=fun hf=>by simp at hf;omega) (hv:=fun _=>by rw[aX];rfl) ?_;refine aW (d:=Cut.D f) ?_;refine bT (hc:=fun hf=>h1020 (out[out.length-1]!.t) (f) ?_) ?_;rotate_left;first|assumption|omega|exact⟨(hp0.1.1 _ (aj ae)).2,hp0.1.2.1⟩|exact⟨(hp0.1.1 _ (aj (by first|omega|(simp at hf;omega)))).2,hp0.1.2.1⟩
 refine av ?_;refine bn (fun hc0=>?_) (fun hc0=>?_)
 .simp only[bo,bX]at hc0;have hlen:0<out.length:=ae;have hg:(kd out f t)=out.set (out.length-1) ⟨out[out.length-1]!.f,t⟩:=by unfold kd;rw[au ⟨hlen,hc0.2⟩]
  refine aT ?_;refine aW (d:=Cut.D t) ?_;refine fh (out.length-1) (hj:=fun _=>ae) (hb:=fun _=>ae) ?_;refine aw ?_;refine lG ((out.set (out.length-1) ⟨out[out.length-1]!.f,t⟩).map Span.D) (hi:=ed) (he:=by rw[aX];exact MO ae) ?_;refine cN ?_;refine dW trivial kY (eI ah (?_)) ah ⟨0,by rw[hg,List.length_set],by rw[hg];exact rfl⟩;rfl
 simp only[fM,dE]at hc0;have hg:(kd out f t)=out++[⟨f,t⟩]:=by unfold kd;rw[ai (by rintro⟨h1,h2⟩;rcases hc0 with h|h;omega;exact h h2)]
 refine av ?_;refine aW (d:=Cut.D f) ?_;refine aW (d:=Cut.D t) ?_;refine bz (Span.D ⟨f,t⟩) ?_;refine cT [Span.D ⟨f,t⟩] ?_;refine fA (q:=Span.D) (xs:=out) (e:=⟨f,t⟩) (hb:=ae) ?_;refine av ?_;refine dW trivial kY (eI ah (?_)) ah ⟨25,by rw[hg],by rw[hg];exact rfl⟩;rfl
end Go.Abs
