/- A part of the proofs. -/
import Derived.Test.YtaeimnechonnmaaGreatDoorP07
set_option linter.all false
set_option maxRecDepth 4000
namespace Go.Abs
variable {Y:Ctx}(hm:(Y.at 0).cE)
def Jf:aJ:=⟨1,4,m7,dx,(sq (rg [gb 7 s0,gm dd] [(2,0),(1,1)]) (sq (sq (r1 [gf 0 s2,gd l0,bU l1 b9] 3 2) (.cond s3 (sq (r1 [gf 1 s2,gk 5 true l0,gx 217 [l1] oc,gm l2,eX 3 1 s2,eX 3 4 l4,ik 3 l5,cv 3 (eA l6 cse),fR l3 l7,gm l8] 1 9) .ret) .skip)) (sq (r1 [gf 0 s2,gd l0,gn (eA l1 (.c (.int .i64 (-1)))),gm l2,ib 3 0 s2,ix 3 l4,cJ 3 (eA l5 cK),eZ l3 l6,gm l7,eX 8 1 s2,cv 8 (.ld 5 true l9),cv 8 (.build [.int .i64 0,.int .i64 0,.int .i64 0,.str [],.str []] []),cv 8 (.eqA false true [.i .i64,.i .i64,.i .i64,.s,.s] l10 fT),fR l8 gJ,gm il,eX 14 6 s2,ik 14 kD,cv 14 (.un .not lW),fR jj pn,gm qM] 1 19) .ret)))⟩
def Sa {Y:Ctx}(hm:(Y.at 0).cE)(h217:wL Y)(c:Cut)  (hp0:c.v.sm):dI Y Jf (.bool (lg c)) [Cut.D c]:=by
 show cq _ _ _ [⟨_,_⟩,_,_,_] _;refine aq ?_;refine bd ?_;refine ax (v:=.int .i64 c.e) ?_;refine aA ?_;refine cW (fun hc0=>?_) fun hc0=>?_
 .refine aw ?_;refine ax (v:=bo.D c.v) ?_;refine ar (hc:=h217 (c.v) ?_) ?_;rotate_left;first|assumption|omega|(grind [Cut.sm,Span.sm,bL.sm,bO,ak,Want.sm,dy.sm,bN.sm,bz.sm])
  refine aw ?_;refine ax (v:=.str c.v.build) ?_;refine aD ?_;refine bB ?_;first|(grind [lg,zV];done)|(simp_all[lg,zV];done)
 refine aw ?_;refine ax (v:=.int .i64 c.e) ?_;refine aw ?_;refine ax (v:=.int .i64 c.e) ?_;refine aO ?_;refine ax (v:=bo.D c.v) ?_;refine bP (bo.D (⟨0,0,0,[],[]⟩)) ?_;refine vO (hb:=bo.eq _ _) ?_;refine aw ?_;refine ax (v:=.bool c.a) ?_;refine aD ?_;refine bB ?_;first|(grind [lg,zV];done)|(simp_all[lg,zV];done)
def y7:aJ:=⟨2,11,[⟨2,none⟩],dx,(sq (rg [gb 7 s0,gb 7 s1,gm b9] [(3,0),(4,1),(2,2)]) (sq (sq (r1 [gk 7 true s3,gx 1086 [l0] xm,lh l1,gm l2,cJ 3 (.ld 7 true s4),cJ 3 (.call 1086 [l4] xm),cJ 3 (.un .not l5),eZ l3 l6] 5 7) (.cond s5 (sq (r1 [gm b9] 2 0) .ret) .skip)) (sq (sq (r1 [gf 0 s3,gd l0,gf 0 s4,gd l2,dC l1 l3,gm l4,ib 5 0 s3,ix 5 l6,cJ 5 (im l7 b9),eZ l5 l8] 6 9) (.cond s6 (sq (r1 [gf 0 s3,gd l0,gf 0 s4,gd l2,gx 630 [l1,l3] j7,gm l4] 2 5) .ret) .skip)) (sq (sq (r1 [gf 1 s3,gk 5 true l0,gf 1 s4,gk 5 true l2,gx 424 [l1,l3] [[.a,.a,.a,.a,.a],[.a,.a,.a,.a,.a]],gm l4] 7 5) (sq (r1 [gm s7,dC l0 b9] 8 1) (.cond s8 (sq (r1 [gm s7,gm l0] 2 1) .ret) .skip))) (sq (.block 0 (sq (r1 [gf 6 s3,gd l0,gf 6 s4,gd l2,gn (.eqA false false [.b] l1 l3),gm l4] 9 5) (.cond s9 (sq (r1 [gm b9] 2 0) .ret) (sq (r1 [gf 6 s4,gd l0,gm l1] 10 2) (.cond ie (sq (r1 [gn (.mv (.c (.int .i64 (-1))))] 2 0) .ret) .skip))))) (sq (r1 [gm cK] 2 0) .ret))))))⟩
def R1 {Y:Ctx}(hm:(Y.at 0).cE)(h424:Kd Y)(h630:G3 Y)(h1086:C3 Y)(a:Cut)(b:Cut)  (hp0:a.v.sm/\b.v.sm):dI Y y7 (.int .i64 (gw a b)) [Cut.D a,Cut.D b]:=by
 show cq _ _ _ [⟨_,_⟩,⟨_,_⟩,_,_,_,_,_,_,_,_,_] _;refine aq ?_;refine bd ?_;refine aP (d:=Cut.D a) ?_;refine ar (hc:=h1086 (a) ?_) ?_;rotate_left;first|assumption|omega|(grind [Cut.sm,Span.sm,bL.sm,bO,ak,Want.sm,dy.sm,bN.sm,bz.sm])
 refine aA ?_;refine aP (d:=Cut.D b) ?_;refine bX (hc:=fun hf=>h1086 (b) ?_) ?_;rotate_left;first|assumption|omega|(grind [Cut.sm,Span.sm,bL.sm,bO,ak,Want.sm,dy.sm,bN.sm,bz.sm])
 refine aw ?_;refine cW (fun hc0=>?_) fun hc0=>?_
 .refine aD ?_;refine dc ?_;first|(grind [gw,dq];done)|(simp_all[gw,dq];done)
 refine aO ?_;refine ax (v:=.int .i64 a.e) ?_;refine av ?_;refine ax (v:=.int .i64 b.e) ?_;refine aw ?_;refine ax (v:=.int .i64 a.e) ?_;refine aw ?_;refine cW (fun hc1=>?_) fun hc1=>?_
 .refine aw ?_;refine ax (v:=.int .i64 a.e) ?_;refine av ?_;refine ax (v:=.int .i64 b.e) ?_;refine ar (hc:=h630 (a.e) (b.e)) ?_;refine aw ?_;refine dc ?_;first|(grind [gw,dq];done)|(simp_all[gw,dq];done)
 refine aO ?_;refine ax (v:=bo.D a.v) ?_;refine av ?_;refine ax (v:=bo.D b.v) ?_;refine ar (hc:=h424 (a.v) (b.v) ?_) ?_;rotate_left;first|assumption|omega|(grind [Cut.sm,Span.sm,bL.sm,bO,ak,Want.sm,dy.sm,bN.sm,bz.sm])
 refine cQ ?_;refine cW (fun hc2=>?_) fun hc2=>?_
 .refine bd ?_;refine dc ?_;first|(grind [gw,dq];done)|(simp_all[gw,dq];done)
 refine aO ?_;refine ax (v:=.bool a.a) ?_;refine av ?_;refine ax (v:=.bool b.a) ?_;refine vO (hb:=HJ _ _) ?_;refine aA ?_;refine fQ (fun hc3=>?_) fun hc3=>?_
 .refine aD ?_;refine dc ?_;first|(grind [gw,dq];done)|(simp_all[gw,dq];done)
 refine aA ?_;refine ax (v:=.bool b.a) ?_;refine aA ?_;refine fQ (fun hc4=>?_) fun hc4=>?_
 .refine aD ?_;refine dc ?_;first|(grind [gw,dq];done)|(simp_all[gw,dq];done)
 refine bd ?_;refine dc ?_;first|(grind [gw,dq];done)|(simp_all[gw,dq];done)
def CD:aJ:=⟨2,8,[⟨2,none⟩],dx,(sq (rg [gb 7 s0,gb 5 s1,gm dd] [(3,0),(4,1),(2,2)]) (sq (sq (r1 [gk 7 true s3,gx 1086 [l0] xm,lh l1,gm l2,cJ 3 (.ld 5 true s4),cJ 3 (.call 217 [l4] oc),cJ 3 (.un .not l5),eZ l3 l6] 5 7) (.cond s5 (sq (r1 [gm dd] 2 0) .ret) .skip)) (sq (sq (r1 [gf 0 s3,gd l0,dC l1 b9] 6 2) (.cond s6 (sq (r1 [gf 0 s3,gd l0,aR l1 b9,gm l2] 2 3) .ret) .skip)) (sq (r1 [gf 1 s3,gk 5 true l0,gk 5 true s4,gx 424 [l1,l2] [[.a,.a,.a,.a,.a],[.a,.a,.a,.a,.a]],gm l3] 7 4) (sq (r1 [gm s7,aR l0 b9,gm l1,eY 2 s7,cJ 2 (eA l3 b9),eY 2 l4,eX 5 6 s3,ik 5 l6,cv 5 (.un .not l7),wS 2 l5 l8,eZ l2 l9,gm l10] 2 11) .ret)))))⟩
def R5 {Y:Ctx}(hm:(Y.at 0).cE)(h217:wL Y)(h424:Kd Y)(h1086:C3 Y)(c:Cut)(v:bo)  (hp0:c.v.sm/\v.sm):dI Y CD (.bool (gK c v)) [Cut.D c,bo.D v]:=by
 show cq _ _ _ [⟨_,_⟩,⟨_,_⟩,_,_,_,_,_,_] _;refine aq ?_;refine bd ?_;refine aP (d:=Cut.D c) ?_;refine ar (hc:=h1086 (c) ?_) ?_;rotate_left;first|assumption|omega|(grind [Cut.sm,Span.sm,bL.sm,bO,ak,Want.sm,dy.sm,bN.sm,bz.sm])
 refine aA ?_;refine aP (d:=bo.D v) ?_;refine bX (hc:=fun hf=>h217 (v) ?_) ?_;rotate_left;first|assumption|omega|(grind [Cut.sm,Span.sm,bL.sm,bO,ak,Want.sm,dy.sm,bN.sm,bz.sm])
 refine aw ?_;refine cW (fun hc0=>?_) fun hc0=>?_
 .refine aD ?_;refine bB ?_;first|(grind [gK];done)|(simp_all[gK];done)
 refine aO ?_;refine ax (v:=.int .i64 c.e) ?_;refine aA ?_;refine cW (fun hc1=>?_) fun hc1=>?_
 .refine aw ?_;refine ax (v:=.int .i64 c.e) ?_;refine aO ?_;refine bB ?_;first|(grind [gK];done)|(simp_all[gK];done)
 refine aw ?_;refine ax (v:=bo.D c.v) ?_;refine aP (d:=bo.D v) ?_;refine ar (hc:=h424 (c.v) (v) ?_) ?_;rotate_left;first|assumption|omega|(grind [Cut.sm,Span.sm,bL.sm,bO,ak,Want.sm,dy.sm,bN.sm,bz.sm])
 refine k8 ?_;refine ax (v:=.bool c.a) ?_;refine bd ?_;refine bB ?_;first|(grind [gK];done)|(simp_all[gK];done)
def y8:aJ:=⟨1,3,m7,dx,(sq (rg [gb 14 s0,gm dd] [(2,0),(1,1)]) (sq (r1 [gf 0 s2,gk 7 true l0,gx 1086 [l1] xm,gm l2,eX 3 7 s2,cv 3 (.ld 7 true l4),cv 3 (.call 1086 [l5] xm),fR l3 l6,gm l7,eX 8 0 s2,cv 8 (.ld 7 true l9),eX 8 7 s2,cv 8 (.ld 7 true fT),cv 8 (.call 1020 [l10,gJ] [[.a,.a,.a,.a,.a,.a,.a],[.a,.a,.a,.a,.a,.a,.a]]),cv 8 (iP il b9),fR l8 jj,gm kD] 1 16) .ret))⟩
def R0 {Y:Ctx}(hm:(Y.at 0).cE)(h1020:w8 Y)(h1086:C3 Y)(s:Span)  (hp0:s.sm):dI Y y8 (.bool (jZ s)) [Span.D s]:=by
 show cq _ _ _ [⟨_,_⟩,_,_] _;refine aq ?_;refine aD ?_;refine ax (v:=Cut.D s.f) ?_;refine ar (hc:=h1086 (s.f) ?_) ?_;rotate_left;first|assumption|omega|(grind [Cut.sm,Span.sm,bL.sm,bO,ak,Want.sm,dy.sm,bN.sm,bz.sm])
 refine aA ?_;refine ax (v:=Cut.D s.t) ?_;refine bX (hc:=fun hf=>h1086 (s.t) ?_) ?_;rotate_left;first|assumption|omega|(grind [Cut.sm,Span.sm,bL.sm,bO,ak,Want.sm,dy.sm,bN.sm,bz.sm])
 refine aw ?_;refine ax (v:=Cut.D s.f) ?_;refine av ?_;refine ax (v:=Cut.D s.t) ?_;refine bX (hc:=fun hf=>h1020 (s.f) (s.t) ?_) ?_;rotate_left;first|assumption|omega|(grind [Cut.sm,Span.sm,bL.sm,bO,ak,Want.sm,dy.sm,bN.sm,bz.sm])
 refine aD ?_;refine bB ?_;first|(grind [jZ];done)|(simp_all[jZ];done)
def CF:aJ:=⟨2,5,[⟨2,none⟩],dx,(sq (rg [gb 14 s0,gb 5 s1,gm dd] [(3,0),(4,1),(2,2)]) (sq (r1 [gk 14 true s3,gx 1019 [l0] [[.a,.a,.a,.a,.a,.a,.a,.a,.a,.a,.a,.a,.a,.a]],gm l1,cv 2 (.ld 5 true s4),cv 2 (.call 217 [l3] oc),fR l2 l4,gm l5,eX 6 0 s3,cv 6 (.ld 7 true l7),cv 6 (.ld 5 true s4),cv 6 (.call 1025 [l8,l9] [[.a,.a,.a,.a,.a,.a,.a],[.a,.a,.a,.a,.a]]),fR l6 l10,gm fT,eX 12 7 s3,cv 12 (.ld 7 true il),cv 12 (.ld 5 true s4),cv 12 (.call 1025 [jj,kD] [[.a,.a,.a,.a,.a,.a,.a],[.a,.a,.a,.a,.a]]),cv 12 (.un .not lW),fR gJ pn,gm qM] 2 19) .ret))⟩
def w926 {Y:Ctx}(hm:(Y.at 0).cE)(h217:wL Y)(h1019:C2 Y)(h1025:L4 Y)(s:Span)(v:bo)  (hp0:s.sm/\v.sm):dI Y CF (.bool (lK s v)) [Span.D s,bo.D v]:=by
 show cq _ _ _ [⟨_,_⟩,⟨_,_⟩,_,_,_] _;refine aq ?_;refine aD ?_;refine aP (d:=Span.D s) ?_;refine ar (hc:=h1019 (s) ?_) ?_;rotate_left;first|assumption|omega|(grind [Cut.sm,Span.sm,bL.sm,bO,ak,Want.sm,dy.sm,bN.sm,bz.sm])
 refine av ?_;refine aP (d:=bo.D v) ?_;refine bX (hc:=fun hf=>h217 (v) ?_) ?_;rotate_left;first|assumption|omega|(grind [Cut.sm,Span.sm,bL.sm,bO,ak,Want.sm,dy.sm,bN.sm,bz.sm])
 refine aw ?_;refine ax (v:=Cut.D s.f) ?_;refine aP (d:=bo.D v) ?_;refine bX (hc:=fun hf=>h1025 (s.f) (v) ?_) ?_;rotate_left;first|assumption|omega|(grind [Cut.sm,Span.sm,bL.sm,bO,ak,Want.sm,dy.sm,bN.sm,bz.sm])
 refine aw ?_;refine ax (v:=Cut.D s.t) ?_;refine aP (d:=bo.D v) ?_;refine bX (hc:=fun hf=>h1025 (s.t) (v) ?_) ?_;rotate_left;first|assumption|omega|(grind [Cut.sm,Span.sm,bL.sm,bO,ak,Want.sm,dy.sm,bN.sm,bz.sm])
 refine aD ?_;refine bB ?_;first|(grind [lK,jZ];done)|(simp_all[lK,jZ];done)
def Jh:aJ:=⟨1,5,m7,dx,(sq (r1 [gm dd] 1 0) (sq (sq (r1 [gm b9] 2 0) (.block 0 (.loop (sq (sq (r1 [gm s2,gm s0,gl l1,aR l0 l2] 3 3) (fL s3 0)) (sq (.block 1 (sq (r2 [gm s0,gm s2,ga 14 l0 l1,gk 14 true l2,gx 1019 [l3] [[.a,.a,.a,.a,.a,.a,.a,.a,.a,.a,.a,.a,.a,.a]],lh l4,gm l5,eY 6 s2,cJ 6 (eG l7 b9),eY 6 l8,gmt 9 s0,gmt 9 s2,cv 9 (nU fT cK),cv 9 (.ia 14 l10 gJ),eX 9 7 il,cv 9 (.ld 7 true jj),gmt 9 s0,gmt 9 s2,cv 9 (.ia 14 lW pn),eX 9 0 qM,cv 9 (.ld 7 true uV),cv 9 (.call 1020 [kD,xr] [[.a,.a,.a,.a,.a,.a,.a],[.a,.a,.a,.a,.a,.a,.a]]),cv 9 (gu zn b9),wS 6 l9 yF,eZ l6 B0] 4 24) (zW s4 dd))) (r1 [gm s2,aT l0 cK,gm l1] 2 2)))))) (H4 nr)))⟩
def w916 (h1019:C2 Y)(h1020:w8 Y)(l:List Span)  (hp0:bO l):dI Y Jh (.bool (lP l)) [.sl 14 (l.map Span.D)]:=by
 show cq _ _ _ [⟨_,_⟩,_,_,_,_] _;refine aq ?_;refine bd ?_;refine bF hm (ι:=Nat) (fun i=>[⟨true,.sl 14 ((l).map Span.D)⟩,.un,⟨true,.int .i64 (i:Nat)⟩,.un,.un]) (fun i=>[]) 2 (fun i=>i<=l.length/\lP l=cO (tn l) i l.length) (fun i=>l.length-i) 0 ⟨ae,rfl⟩ (fo []) ?_;rintro i ⟨hi,hr⟩;refine aD ?_;intro u0;refine aA ?_;refine cW (fun hc0=>?_) fun hc0=>?_
 .refine aD ?_;refine a8 (i) (hj:=fun hf=>by first|omega|(simp at hf;omega)) (hb:=fun hf=>by first|omega|(simp at hf;omega)) ?_;refine aZ (v:=Span.D ((l)[i]!)) (hi:=fun hf=>by first|omega|(simp at hf;omega)) ?_;refine ar (hc:=h1019 ((l)[i]!) ?_) ?_;rotate_left;first|assumption|omega|(grind [Cut.sm,Span.sm,bL.sm,bO,ak,Want.sm,dy.sm,bN.sm,bz.sm])
  refine cQ ?_;refine eC (hb:=fun hf=>by first|omega|(simp at hf;omega)) ?_;refine a8 ((i-1)) (hj:=fun hf=>by first|omega|(simp at hf;omega)) (hb:=fun hf=>by first|omega|(simp at hf;omega)) ?_;refine av ?_;refine aZ (v:=Cut.D ((l)[(i-1)]!.t)) (hi:=fun hf=>by first|omega|(simp at hf;omega)) ?_;refine aA ?_;refine a8 (i) (hj:=fun hf=>by first|omega|(simp at hf;omega)) (hb:=fun hf=>by first|omega|(simp at hf;omega)) ?_;refine av ?_;refine aZ (v:=Cut.D ((l)[i]!.f)) (hi:=fun hf=>by first|omega|(simp at hf;omega)) ?_;refine bX (hc:=fun hf=>h1020 ((l)[(i-1)]!.t) ((l)[i]!.f) ?_) ?_;rotate_left;first|assumption|omega|(grind [Cut.sm,Span.sm,bL.sm,bO,ak,Want.sm,dy.sm,bN.sm,bz.sm])
  refine aO ?_;refine fQ (fun hc1=>?_) fun hc1=>?_
  .refine bd ?_;refine bB ?_;rw[hr,bh ae];first|(grind [tn];done)|(simp_all[tn];done)
  refine aO ?_;refine aL (hb:=fun hf=>by first|omega|(simp at hf;omega)) ?_;refine aw ?_;exact⟨i+1,⟨ae,by rw[hr,bh ae];first|(grind [tn];done)|(simp_all[tn];done)⟩,ae,(fo [])⟩
 refine bd ?_;refine bB ?_;rw[hr,cR ae]
def Jg:aJ:=⟨2,7,[⟨2,none⟩],dx,(sq (rg [gb 5 s1,gm dd] [(5,0),(2,1)]) (sq (sq (r1 [gm b9] 3 0) (.block 0 (.loop (sq (sq (r1 [gm s3,gm s0,gl l1,aR l0 l2,gm l3,gmt 4 s0,cv 4 (.call 916 [l5] [[.sl 14 [.a,.a,.a,.a,.a,.a,.a,.a,.a,.a,.a,.a,.a,.a]]]),fR l4 l6] 4 7) (fL s4 0)) (sq (.block 1 (sq (r2 [gm s0,gm s3,ga 14 l0 l1,gk 14 true l2,gk 5 true s5,gx 926 [l3,l4] [[.a,.a,.a,.a,.a,.a,.a,.a,.a,.a,.a,.a,.a,.a],[.a,.a,.a,.a,.a]]] 6 5) (.cond s6 (sq (r1 [gm nr] 2 0) .ret) .skip))) (r1 [gm s3,aT l0 cK,gm l1] 3 2)))))) (sq (r1 [gm dd] 2 0) .ret)))⟩
def w782 (h916:G6 Y)(h926:P8 Y)(l:List Span)(v:bo)  (hp0:bO l/\v.sm):dI Y Jg (.bool (m8 l v)) [.sl 14 (l.map Span.D),bo.D v]:=by
 show cq _ _ _ [⟨_,_⟩,⟨_,_⟩,_,_,_,_,_] _;refine aq ?_;refine cQ ?_;refine bF hm (ι:=Nat) (fun i=>[⟨true,.sl 14 ((l).map Span.D)⟩,.un,.un,⟨true,.int .i64 (i:Nat)⟩,.un,⟨true,.ptr 0 5 0 0⟩,.un]) (fun i=>[(0,.buf 5 [bo.D v])]) 3 (fun i=>i<=l.length/\m8 l v=(lP l&&lX (fun i=>lK l[i]! v) i l.length)) (fun i=>l.length-i) 0 ⟨ae,rfl⟩ (fo [(0,0)]) ?_;rintro i ⟨hi,hr⟩;refine aD ?_;intro u0;refine aw ?_;refine bX (hc:=fun hf=>h916 (l) ?_) ?_;rotate_left;first|assumption|omega|(grind [Cut.sm,Span.sm,bL.sm,bO,ak,Want.sm,dy.sm,bN.sm,bz.sm])
 refine aA ?_;refine cW (fun hc0=>?_) fun hc0=>?_
 .refine aD ?_;refine a8 (i) (hj:=fun hf=>by first|omega|(simp at hf;omega)) (hb:=fun hf=>by first|omega|(simp at hf;omega)) ?_;refine aZ (v:=Span.D ((l)[i]!)) (hi:=fun hf=>by first|omega|(simp at hf;omega)) ?_;refine aP (d:=bo.D v) ?_;refine ar (hc:=h926 ((l)[i]!) (v) ?_) ?_;rotate_left;first|assumption|omega|(grind [Cut.sm,Span.sm,bL.sm,bO,ak,Want.sm,dy.sm,bN.sm,bz.sm])
  refine av ?_;refine fQ (fun hc1=>?_) fun hc1=>?_
  .refine bd ?_;refine bB ?_;rw[hr,jJ ae];simp_all
  refine aO ?_;refine aL (hb:=fun hf=>by first|omega|(simp at hf;omega)) ?_;refine aw ?_;exact⟨i+1,⟨ae,by rw[hr,jJ ae];simp_all⟩,ae,(fo [(0,0)])⟩
 refine bd ?_;refine bB ?_;rw[hr];rcases hc0 with h|h
 .rw[qu ae];simp
 .rw[h];rfl
def CI:aJ:=⟨1,3,m7,dx,(sq (rg [gb 5 s0,gm dd] [(2,0),(1,1)]) (sq (r1 [gf 0 s2,gd l0,bU l1 b9,gm l2,eX 3 1 s2,ik 3 l4,cv 3 (eA l5 b9),fR l3 l6,gm l7,eX 8 2 s2,ik 8 l9,cv 8 (eA l10 b9),fR l8 fT,gm gJ] 1 13) .ret))⟩
def w600 {Y:Ctx}(hm:(Y.at 0).cE)  (v:bo)   :dI Y CI (.bool (p0 v)) [bo.D v]:=by
 show cq _ _ _ [⟨_,_⟩,_,_] _;refine aq ?_;refine aD ?_;refine ax (v:=.int .i64 v.major) ?_;refine aw ?_;refine ax (v:=.int .i64 v.minor) ?_;refine aO ?_;refine ax (v:=.int .i64 v.patch) ?_;refine aD ?_;refine bB ?_;first|(grind [p0];done)|(simp_all[p0];done)
def CJ:aJ:=⟨1,3,m7,dx,(sq (rg [gb 7 s0,gm dd] [(2,0),(1,1)]) (sq (r1 [gf 0 s2,gd l0,dC l1 b9,gm l2,ib 3 6 s2,ix 3 l4,cJ 3 (.un .not l5),eY 3 l6,eX 7 1 s2,eX 7 3 l8,ik 7 l9,cv 7 (eA l10 cse),wS 3 l7 fT,eY 3 gJ,eX 13 1 s2,cv 13 (.ld 5 true jj),cv 13 (.call 600 [kD] oc),cv 13 (.un .not lW),wS 3 il pn,eZ l3 qM,gm uV] 1 20) .ret))⟩
def w917 {Y:Ctx}(hm:(Y.at 0).cE)(h600:M4 Y)(c:Cut)   :dI Y CJ (.bool (jF c)) [Cut.D c]:=by
 show cq _ _ _ [⟨_,_⟩,_,_] _;refine aq ?_;refine aD ?_;refine ax (v:=.int .i64 c.e) ?_;refine aw ?_;refine ax (v:=.bool c.a) ?_;refine aO ?_;refine ax (v:=.str c.v.pre) ?_;refine aO ?_;refine ax (v:=bo.D c.v) ?_;refine ar (hc:=h600 (c.v)) ?_;refine bd ?_;refine bB ?_;first|(grind [jF];done)|(simp_all[jF];done)
def Jm:aJ:=⟨1,7,m7,dx,(sq (rg [gb 2 s0,gm dd] [(2,0),(1,1)]) (sq (sq (r1 [gf 0 s2,gd l0,gx 916 [l1] [[.sl 14 [.a,.a,.a,.a,.a,.a,.a,.a,.a,.a,.a,.a,.a,.a]]],lh l2,gm l3,ib 4 1 s2,ix 4 l5,cJ 4 (.call 916 [l6] [[.sl 14 [.a,.a,.a,.a,.a,.a,.a,.a,.a,.a,.a,.a,.a,.a]]]),cJ 4 (.un .not l7),eZ l4 l8] 3 9) (zW s3 dd)) (sq (sq (r1 [gm b9] 4 0) (.block 0 (.loop (sq (sq (r1 [gm s4,gf 0 s2,gd l1,gl l2,aR l0 l3] 5 4) (fL s5 0)) (sq (.block 1 (sq (r1 [gf 0 s2,gd l0,gm s4,ga 14 l1 l2,gf 0 l3,gk 7 true l4,gx 917 [l5] xm,lh l6,gm l7,ib 8 0 s2,ix 8 l9,eY 8 s4,cJ 8 (.ia 14 l10 fT),ib 8 7 gJ,cJ 8 (.ld 7 true il),cJ 8 (.call 917 [jj] xm),cJ 8 (.un .not kD),eZ l8 lW] 6 17) (zW s6 dd))) (r1 [gm s4,aT l0 cK,gm l1] 4 2)))))) (H4 nr))))⟩
def w770 (h916:G6 Y)(h917:P6 Y)(s:bL)  (hp0:s.sm):dI Y Jm (.bool (nb s)) [bL.D s]:=by
 show cq _ _ _ [⟨_,_⟩,_,_,_,_,_,_] _;refine aq ?_;refine bd ?_;refine ax (v:=.sl 14 ((s.rel).map Span.D)) ?_;refine ar (hc:=h916 (s.rel) ?_) ?_;rotate_left;first|assumption|omega|(grind [Cut.sm,Span.sm,bL.sm,bO,ak,Want.sm,dy.sm,bN.sm,bz.sm])
 refine aw ?_;refine ax (v:=.sl 14 ((s.pr).map Span.D)) ?_;refine bX (hc:=fun hf=>h916 (s.pr) ?_) ?_;rotate_left;first|assumption|omega|(grind [Cut.sm,Span.sm,bL.sm,bO,ak,Want.sm,dy.sm,bN.sm,bz.sm])
 refine aw ?_;refine cW (fun hc0=>?_) fun hc0=>?_
 .refine aD ?_;refine bB ?_;unfold nb;rcases hc0 with h|h<;>simp[h]
 refine aD ?_;refine bF hm (ι:=Nat) (fun i=>[.un,.un,⟨true,.ptr 0 2 0 0⟩,.un,⟨true,.int .i64 (i:Nat)⟩,.un,.un]) (fun i=>[(0,.buf 2 [bL.D s])]) 13 (fun i=>i<=s.rel.length/\nb s=cO (fun i=>jF s.rel[i]!.f&&jF s.rel[i]!.t) i s.rel.length) (fun i=>s.rel.length-i) 0 ⟨ae,by unfold nb;simp_all⟩ (fo [(0,0)]) ?_;rintro i ⟨hi,hr⟩;refine aO ?_;refine ax (v:=.sl 14 ((s.rel).map Span.D)) ?_;refine av ?_;intro u0;refine aA ?_;refine cW (fun hc1=>?_) fun hc1=>?_
 .refine aO ?_;refine ax (v:=.sl 14 ((s.rel).map Span.D)) ?_;refine av ?_;refine a8 (i) (hj:=fun hf=>by first|omega|(simp at hf;omega)) (hb:=fun hf=>by first|omega|(simp at hf;omega)) ?_;refine av ?_;refine aZ (v:=Cut.D ((s.rel)[i]!.f)) (hi:=fun hf=>by first|omega|(simp at hf;omega)) ?_;refine ar (hc:=h917 ((s.rel)[i]!.f)) ?_;refine aw ?_;refine ax (v:=.sl 14 ((s.rel).map Span.D)) ?_;refine av ?_;refine a8 (i) (hj:=fun hf=>by first|omega|(simp at hf;omega)) (hb:=fun hf=>by first|omega|(simp at hf;omega)) ?_;refine av ?_;refine aZ (v:=Cut.D ((s.rel)[i]!.t)) (hi:=fun hf=>by first|omega|(simp at hf;omega)) ?_;refine ar (hc:=h917 ((s.rel)[i]!.t)) ?_;refine aw ?_;refine fQ (fun hc2=>?_) fun hc2=>?_
  .refine bd ?_;refine bB ?_;rw[hr,bh ae];rcases hc2 with h|h<;>simp only[h,Bool.and_false,Bool.false_and]
  refine aO ?_;refine aL (hb:=fun hf=>by first|omega|(simp at hf;omega)) ?_;refine aw ?_;exact⟨i+1,⟨ae,by rw[hr,bh ae];simp_all⟩,ae,(fo [(0,0)])⟩
 refine bd ?_;refine bB ?_;rw[hr,cR ae]
def Jl:aJ:=⟨2,7,[⟨2,none⟩],dx,(sq (rg [gb 2 s0,gb 5 s1,gm dd] [(3,0),(4,1),(2,2)]) (sq (sq (r1 [gk 2 true s3,gx 770 [l0] [[.sl 14 [.a,.a,.a,.a,.a,.a,.a,.a,.a,.a,.a,.a,.a,.a],.sl 14 [.a,.a,.a,.a,.a,.a,.a,.a,.a,.a,.a,.a,.a,.a]]],lh l1,gm l2,cJ 3 (.ld 5 true s4),cJ 3 (.call 217 [l4] oc),cJ 3 (.un .not l5),eZ l3 l6] 5 7) (.cond s5 (sq (r1 [gm dd] 2 0) .ret) .skip)) (sq (sq (r1 [gf 3 s4,gd l0,bU l1 cse] 6 2) (.cond s6 (sq (r1 [gf 0 s3,gd l0,gk 5 true s4,gx 782 [l1,l2] [[.sl 14 [.a,.a,.a,.a,.a,.a,.a,.a,.a,.a,.a,.a,.a,.a]],[.a,.a,.a,.a,.a]],gm l3] 2 4) .ret) .skip)) (sq (r1 [gf 1 s3,gd l0,gk 5 true s4,gx 782 [l1,l2] [[.sl 14 [.a,.a,.a,.a,.a,.a,.a,.a,.a,.a,.a,.a,.a,.a]],[.a,.a,.a,.a,.a]],gm l3] 2 4) .ret))))⟩
def w627 {Y:Ctx}(hm:(Y.at 0).cE)(h217:wL Y)(h770:G5 Y)(h782:PZ Y)(s:bL)(v:bo)  (hp0:s.sm/\v.sm):dI Y Jl (.bool (nB s v)) [bL.D s,bo.D v]:=by
 show cq _ _ _ [⟨_,_⟩,⟨_,_⟩,_,_,_,_,_] _;refine aq ?_;refine bd ?_;refine aP (d:=bL.D s) ?_;refine ar (hc:=h770 (s) ?_) ?_;rotate_left;first|assumption|omega|(grind [Cut.sm,Span.sm,bL.sm,bO,ak,Want.sm,dy.sm,bN.sm,bz.sm])
 refine aA ?_;refine aP (d:=bo.D v) ?_;refine bX (hc:=fun hf=>h217 (v) ?_) ?_;rotate_left;first|assumption|omega|(grind [Cut.sm,Span.sm,bL.sm,bO,ak,Want.sm,dy.sm,bN.sm,bz.sm])
 refine aw ?_;refine cW (fun hc0=>?_) fun hc0=>?_
 .refine aD ?_;refine bB ?_;first|(grind [nB];done)|(simp_all[nB];done)
 refine aO ?_;refine ax (v:=.str v.pre) ?_;refine aA ?_;refine cW (fun hc1=>?_) fun hc1=>?_
 .refine aw ?_;refine ax (v:=.sl 14 ((s.rel).map Span.D)) ?_;refine aP (d:=bo.D v) ?_;refine ar (hc:=h782 (s.rel) (v) ?_) ?_;rotate_left;first|assumption|omega|(grind [Cut.sm,Span.sm,bL.sm,bO,ak,Want.sm,dy.sm,bN.sm,bz.sm])
  refine aw ?_;refine bB ?_;first|(grind [nB];done)|(simp_all[nB];done)
 refine aw ?_;refine ax (v:=.sl 14 ((s.pr).map Span.D)) ?_;refine aP (d:=bo.D v) ?_;refine ar (hc:=h782 (s.pr) (v) ?_) ?_;rotate_left;first|assumption|omega|(grind [Cut.sm,Span.sm,bL.sm,bO,ak,Want.sm,dy.sm,bN.sm,bz.sm])
 refine aw ?_;refine bB ?_;first|(grind [nB];done)|(simp_all[nB];done)
def Cs:aJ:=⟨1,6,m7,[[.sl 1 [.a]]],(sq (r1 [gm (.c (.aG))] 1 0) (sq (r1 [gm (.c (.aG))] 5 0) (sq (sq (r1 [gm b9] 2 0) (.block 0 (.loop (sq (sq (r1 [gm s2,yK l0 (i6 16)] 3 1) (fL s3 0)) (sq (.block 1 (sq (r1 [gm s0,gm s2,gx 381 [l1] dx,gD l0 l2,dC l3 b9] 4 4) (.cond s4 (r1 [gm s5,gm s2,e9 l1 cK,gn (.bsl 1 (.int .i64 0) 1 [(0,l2)]),gn (.app 1 l0 l3),gm l4] 5 5) .skip))) (r1 [gm s2,aT l0 cK,gm l1] 2 2)))))) (sq (r1 [gm s5,gm l0] 1 1) .ret))))⟩
def w762 (h381:G2 Y)(m:Int)   :dI Y Cs (.sl 1 ((jO m).map (D.int .i64))) [.int .i64 m]:=by
 show cq _ _ _ [⟨_,_⟩,_,_,_,_,_] _;refine aq ?_;refine ji ?_;refine bF hm (ι:=Nat) (fun i=>[⟨true,.int .i64 m⟩,.un,⟨true,.int .i64 (i:Nat)⟩,.un,.un,⟨true,.own 0 1 0 (js m i).length⟩]) (fun i=>[(0,.buf 1 ((js m i).map (D.int .i64)))]) 3 (fun i=>i<=17) (fun i=>17-i) 0 ae (aS.to [] ah ah (by repeat(first|exact aQ.nil|refine aQ.un ?_|refine aQ.eq ah ?_|refine aQ.nl ah ah ?_|refine aQ.ni (Or.inr ⟨_,_,_,rfl⟩) ?_)) (by repeat(first|exact aK.nil|refine aK.fM ah ah dp ?_|refine aK.ed ah ah ah ?_|refine aK.me ah ah ah ah ?_|refine aK.mt ah ah ah ah ?_))) ?_;intro i hi;have hel:=rC m i;refine aD ?_;refine cW (fun hc0=>?_) fun hc0=>?_
 .refine aD ?_;refine ar (hc:=h381 ((i:Nat):Int) ⟨ae,ae⟩) ?_;refine eE (eI m (2^i)) (hb:=fun _=>rfl) ?_;refine aA ?_;refine wp_cond (fun hc1=>?_) (fun hc1=>?_)
  .have hst:js m i++[(i:Int) -1]=js m (i+1):=by rw[js,ay (by simpa using hc1)]
   refine aw ?_;refine eC (hb:=ae) ?_;refine cZ [.int .i64 ((i:Int) -1)] ?_;refine fD (q:=D.int .i64) (xs:=js m i) (e:=(i:Int) -1) (hb:=ae) ?_;refine aD ?_;refine aL (hb:=fun hf=>by first|omega|(simp at hf;omega)) ?_;refine aw ?_;rw[hst];exact⟨i+1,ae,ae,(aS.to [(14,0)] ah ah (by repeat(first|exact aQ.nil|refine aQ.un ?_|refine aQ.eq ah ?_|refine aQ.nl ah ah ?_|refine aQ.ni (Or.inr ⟨_,_,_,rfl⟩) ?_)) (by refine aK.nl 14 ah ah ah dp ?_;exact aK.nil))⟩
  have hst:js m i=js m (i+1):=by rw[js,ai (by simpa using hc1)]
  refine aO ?_;refine aL (hb:=fun hf=>by first|omega|(simp at hf;omega)) ?_;refine aw ?_;rw[hst];exact⟨i+1,ae,ae,(aS.to [(0,0)] ah ah (by repeat(first|exact aQ.nil|refine aQ.un ?_|refine aQ.eq ah ?_|refine aQ.nl ah ah ?_|refine aQ.ni (Or.inr ⟨_,_,_,rfl⟩) ?_)) (by repeat(first|exact aK.nil|refine aK.fM ah ah dp ?_|refine aK.ed ah ah ah ?_|refine aK.me ah ah ah ah ?_|refine aK.mt ah ah ah ah ?_)))⟩
 refine aA ?_;obtain rfl:i=17:=ae;refine cC 0 ?_;refine aD ?_;refine cP (?_);rfl
def AN:aJ:=⟨4,12,[⟨4,none⟩],dx,(sq (rg [gb 1 s0,gb 5 s2,gm dd] [(7,0),(8,1),(4,2)]) (sq (sq (r1 [gm b9] 5 0) (.block 0 (.loop (sq (sq (r1 [gm s5,gm s1,gl l1,aR l0 l2] 6 3) (fL s6 0)) (sq (.block 1 (sq (r2 [gk 1 true s7,gf 4 s8,gd l1,gm s1,gm s5,ga 3 l3 l4,gf 0 l5,gd l6,gx 406 [l0,l2,l7] [[.sl 3 [.a,.a,.sl 8 [.a,.a,.a,.a,.a,.a,.sl 1 [.sl 3 [.a,.a]],.sl 3 [.a,.a,.a]]]],[.sl 2 [.a,.a]],[.a]],gm l8] 10 9) (sq (sq (r2 [gm s1,gm s5,ga 3 l0 l1,gf 0 l2,gd l3,gf 1 s8,gd l5,bU l4 l6] 9 7) (.cond s9 (r1 [gm s3,gm l0] 10 1) .skip)) (sq (r2 [gm ie,gk 1 true s7,gm s1,gm s5,ga 3 l2 l3,gk 3 true l4,gx 415 [l1,l5] [[.sl 3 [.a,.a,.sl 8 [.a,.a,.a,.a,.a,.a,.sl 1 [.sl 3 [.a,.a]],.sl 3 [.a,.a,.a]]]],[.a,.sl 14 [.a,.a,.a,.a,.a,.a,.a,.a,.a,.a,.a,.a,.a,.a],.sl 14 [.a,.a,.a,.a,.a,.a,.a,.a,.a,.a,.a,.a,.a,.a]]],gD l0 l6,dC l7 b9] 11 8) (.cond na (sq (r1 [gm dd] 4 0) .ret) .skip))))) (r1 [gm s5,aT l0 cK,gm l1] 5 2)))))) (sq (r1 [gm nr] 4 0) .ret)))⟩
def w913 (h406:yg Y)(h415:Kb Y)(w:bz)(l:List Want)(row:aj)(bit:Int)  (hp0:w.sm/\∀x∈l,x.sm):dI Y AN (.bool (ow w.us row bit l)) [bz.D w,.sl 3 (l.map Want.D),aj.D row,.int .i64 bit]:=by
 show cq _ _ _ [⟨_,_⟩,⟨_,_⟩,⟨_,_⟩,⟨_,_⟩,_,_,_,_,_,_,_,_] _;refine aq ?_;refine hZ ?_;refine bF hm (ι:=Nat) (fun i=>[.un,⟨true,.sl 3 ((l).map Want.D)⟩,.un,⟨true,.int .i64 bit⟩,.un,⟨true,.int .i64 (i:Nat)⟩,.un,⟨true,.ptr 0 1 0 0⟩,⟨true,.ptr 1 5 0 0⟩,.un,.un,.un]) (fun i=>[(0,.buf 1 [bz.D w]),(1,.buf 5 [aj.D row])]) 4 (fun i=>i<=l.length/\ow w.us row bit l=cO (fun i=>decide (eI (tl w.us row bit l[i]!.u) (eR w.us l[i]!)=0)) i l.length) (fun i=>l.length-i) 0 ⟨ae,rfl⟩ (aS.to [(0,0),(1,1)] ah ah jl (by repeat(first|exact aK.nil|refine aK.fM ah ah dp ?_|refine aK.ed ah ah ah ?_|refine aK.me ah ah ah ah ?_|refine aK.nl 1 ah ah ah ah ?_))) ?_;rintro i ⟨hi,hr⟩;refine aD ?_;intro u0;refine aA ?_;refine cW (fun hc0=>?_) fun hc0=>?_
 .refine aw ?_;refine aP (d:=bz.D w) ?_;refine av ?_;refine ax (v:=.sl 2 ((row.terms).map bK.D)) ?_;refine aA ?_;refine a8 (i) (hj:=fun hf=>by first|omega|(simp at hf;omega)) (hb:=fun hf=>by first|omega|(simp at hf;omega)) ?_;refine av ?_;refine aZ (v:=.int .i64 (l)[i]!.u) (hi:=fun hf=>by first|omega|(simp at hf;omega)) ?_;refine ar (hc:=h406 (w) (row.terms) ((l)[i]!.u) ?_) ?_;rotate_left;first|assumption|omega|exact hp0.1|exact⟨hp0.1,hp0.2 _ (ak ae)⟩
  refine bd ?_;refine a8 (i) (hj:=fun hf=>by first|omega|(simp at hf;omega)) (hb:=fun hf=>by first|omega|(simp at hf;omega)) ?_;refine av ?_;refine aZ (v:=.int .i64 (l)[i]!.u) (hi:=fun hf=>by first|omega|(simp at hf;omega)) ?_;refine av ?_;refine ax (v:=.int .i64 row.unit) ?_;refine aA ?_;refine cW (fun hc1=>?_) fun hc1=>?_
  .refine bd ?_;refine aP (d:=bz.D w) ?_;refine aA ?_;refine a8 (i) (hj:=fun hf=>by first|omega|(simp at hf;omega)) (hb:=fun hf=>by first|omega|(simp at hf;omega)) ?_;refine aZ (v:=Want.D ((l)[i]!)) (hi:=fun hf=>by first|omega|(simp at hf;omega)) ?_;refine ar (hc:=h415 (w) ((l)[i]!) ?_) ?_;rotate_left;first|assumption|omega|exact hp0.1|exact⟨hp0.1,hp0.2 _ (ak ae)⟩
   refine eE (eI bit (eR w.us l[i]!)) (hb:=fun _=>rfl) ?_;refine aA ?_;refine fQ (fun hc2=>?_) fun hc2=>?_
   .refine bd ?_;refine bB ?_;rw[hr,bh ae];simp only[tl];grind
   refine aO ?_;refine aL (hb:=fun hf=>by first|omega|(simp at hf;omega)) ?_;refine aw ?_;exact⟨i+1,⟨ae,by rw[hr,bh ae];simp only[tl];grind⟩,ae,(aS.to [(0,0),(1,1)] ah ah jl (by repeat(first|exact aK.nil|refine aK.fM ah ah dp ?_|refine aK.ed ah ah ah ?_|refine aK.me ah ah ah ah ?_|refine aK.nl 1 ah ah ah ah ?_)))⟩
  refine aw ?_;refine aP (d:=bz.D w) ?_;refine aA ?_;refine a8 (i) (hj:=fun hf=>by first|omega|(simp at hf;omega)) (hb:=fun hf=>by first|omega|(simp at hf;omega)) ?_;refine aZ (v:=Want.D ((l)[i]!)) (hi:=fun hf=>by first|omega|(simp at hf;omega)) ?_;refine ar (hc:=h415 (w) ((l)[i]!) ?_) ?_;rotate_left;first|assumption|omega|exact hp0.1|exact⟨hp0.1,hp0.2 _ (ak ae)⟩
  refine eE (eI (aI w.us row.terms l[i]!.u) (eR w.us l[i]!)) (hb:=fun _=>rfl) ?_;refine aA ?_;refine fQ (fun hc2=>?_) fun hc2=>?_
  .refine bd ?_;refine bB ?_;rw[hr,bh ae];simp only[tl];grind
  refine aO ?_;refine aL (hb:=fun hf=>by first|omega|(simp at hf;omega)) ?_;refine aw ?_;exact⟨i+1,⟨ae,by rw[hr,bh ae];simp only[tl];grind⟩,ae,(aS.to [(0,0),(1,1)] ah ah jl (by repeat(first|exact aK.nil|refine aK.fM ah ah dp ?_|refine aK.ed ah ah ah ?_|refine aK.me ah ah ah ah ?_|refine aK.nl 1 ah ah ah ah ?_)))⟩
 refine bd ?_;refine bB ?_;rw[hr,cR ae]
def y1:aJ:=⟨4,10,[⟨4,none⟩],dx,(sq (rg [gb 1 s0,gb 3 s1,gb 5 s2,gm dd] [(5,0),(7,1),(6,2),(4,3)]) (sq (r1 [gk 1 true s5,gf 4 s6,gd l1,gf 0 s7,gd l3,gx 406 [l0,l2,l4] [[.sl 3 [.a,.a,.sl 8 [.a,.a,.a,.a,.a,.a,.sl 1 [.sl 3 [.a,.a]],.sl 3 [.a,.a,.a]]]],[.sl 2 [.a,.a]],[.a]],gm l5] 9 6) (sq (sq (r1 [gf 0 s7,gd l0,gf 1 s6,gd l2,bU l1 l3] 8 4) (.cond s8 (r1 [gm s3,gm l0] 9 1) .skip)) (sq (r1 [gm s9,gk 1 true s5,gk 3 true s7,gx 415 [l1,l2] [[.sl 3 [.a,.a,.sl 8 [.a,.a,.a,.a,.a,.a,.sl 1 [.sl 3 [.a,.a]],.sl 3 [.a,.a,.a]]]],[.a,.sl 14 [.a,.a,.a,.a,.a,.a,.a,.a,.a,.a,.a,.a,.a,.a],.sl 14 [.a,.a,.a,.a,.a,.a,.a,.a,.a,.a,.a,.a,.a,.a]]],gx 182 [l0,l3] j7,bU l4 ta,gm l5] 4 6) .ret))))⟩
def w914 {Y:Ctx}(hm:(Y.at 0).cE)(h182:MP Y)(h406:yg Y)(h415:Kb Y)(w:bz)(x:Want)(row:aj)(bit:Int)  (hp0:w.sm/\x.sm):dI Y y1 (.bool (ko w.us row bit x)) [bz.D w,Want.D x,aj.D row,.int .i64 bit]:=by
 show cq _ _ _ [⟨_,_⟩,⟨_,_⟩,⟨_,_⟩,⟨_,_⟩,_,_,_,_,_,_] _;refine aq ?_;refine bd ?_;refine aP (d:=bz.D w) ?_;refine av ?_;refine ax (v:=.sl 2 ((row.terms).map bK.D)) ?_;refine av ?_;refine ax (v:=.int .i64 x.u) ?_;refine ar (hc:=h406 (w) (row.terms) (x.u) ?_) ?_;rotate_left;first|assumption|omega|exact hp0.1
 refine aD ?_;refine ax (v:=.int .i64 x.u) ?_;refine av ?_;refine ax (v:=.int .i64 row.unit) ?_;refine aA ?_;refine cW (fun hc0=>?_) fun hc0=>?_
 .refine bd ?_;refine aP (d:=bz.D w) ?_;refine aP (d:=Want.D x) ?_;refine ar (hc:=h415 (w) (x) ?_) ?_;rotate_left;first|assumption|omega|exact hp0.1
  refine ar (hc:=h182 (bit) _) ?_;refine aO ?_;refine bB ?_;unfold ko tl;grind
 refine aw ?_;refine aP (d:=bz.D w) ?_;refine aP (d:=Want.D x) ?_;refine ar (hc:=h415 (w) (x) ?_) ?_;rotate_left;first|assumption|omega|exact hp0.1
 refine ar (hc:=h182 _ _) ?_;refine aO ?_;refine bB ?_;unfold ko tl;grind
def wP:aJ:=⟨1,2,m7,dx,(sq (r1 [gm dd] 1 0) (sq (r1 [gm s0,gm s0,dC l0 l1,gm l2] 1 3) .ret))⟩
def w714 {Y:Ctx}(hm:(Y.at 0).cE)  (x:Int)   :dI Y wP (.bool false) [.int .i64 x]:=by
 show cq _ _ _ [⟨_,_⟩,_] _;refine aq ?_;refine ji ?_;refine bB ?_;simp
def wQ:aJ:=⟨1,2,m7,dx,(sq (r1 [gm dd] 1 0) (sq (r1 [gm s0,gm s0,dC l0 l1,gm l2] 1 3) .ret))⟩
def w704 {Y:Ctx}(hm:(Y.at 0).cE)  (x:dG)   :dI Y wQ (.bool false) [.str x]:=by
 show cq _ _ _ [⟨_,_⟩,_] _;refine aq ?_;refine ji ?_;refine bB ?_;simp
def sX:aJ:=⟨2,10,[⟨2,none⟩],dx,(sq (r1 [gm b9] 2 0) (sq (r1 [gm s0,gx 714 [l0] dx,gm l1] 3 2) (sq (r1 [gm s1,gx 714 [l0] dx,gm l1] 5 2) (sq (sq (r1 [gm s3] 4 0) (.cond s4 (sq (sq (r1 [gm s5] 6 0) (.cond s6 (sq (r1 [gm b9] 2 0) .ret) .skip)) (sq (r1 [gn (.mv (.c (.int .i64 (-1))))] 2 0) .ret)) .skip)) (sq (sq (r1 [gm s5] 7 0) (.cond s7 (sq (r1 [gm cK] 2 0) .ret) .skip)) (sq (sq (r1 [gm s0,gm s1,aR l0 l1] 8 2) (.cond s8 (sq (r1 [gn (.mv (.c (.int .i64 (-1))))] 2 0) .ret) .skip)) (sq (sq (r1 [gm s0,gm s1,fC l0 l1] 9 2) (.cond s9 (sq (r1 [gm cK] 2 0) .ret) .skip)) (sq (r1 [gm b9] 2 0) .ret))))))))⟩
def w532 {Y:Ctx}(hm:(Y.at 0).cE)(h714:PR Y)(a:Int)(b:Int)   :dI Y sX (.int .i64 (dq a b)) [.int .i64 a,.int .i64 b]:=by
 show cq _ _ _ [⟨_,_⟩,⟨_,_⟩,_,_,_,_,_,_,_,_] _;refine aq ?_;refine aO ?_;refine ar (hc:=h714 _) ?_;refine aO ?_;refine ar (hc:=h714 _) ?_;refine bd ?_;refine bC (t:=false) (fun h=>by cases h) (fun _=>?_);refine aD ?_;refine bC (t:=false) (fun h=>by cases h) (fun _=>?_);refine cQ ?_;refine cW (fun hc3=>?_) fun hc3=>?_
 .refine aD ?_;refine dc ?_;simp[dq,hc3]
 refine cQ ?_;refine cW (fun hc4=>?_) fun hc4=>?_
 .refine aD ?_;refine dc ?_;unfold dq;rw[ai hc3,ay hc4]
 refine aD ?_;refine dc ?_;unfold dq;rw[ai hc3,ai hc4]
def sY:aJ:=⟨2,10,[⟨2,none⟩],dx,(sq (r1 [gm b9] 2 0) (sq (r1 [gm s0,gx 704 [l0] dx,gm l1] 3 2) (sq (r1 [gm s1,gx 704 [l0] dx,gm l1] 5 2) (sq (sq (r1 [gm s3] 4 0) (.cond s4 (sq (sq (r1 [gm s5] 6 0) (.cond s6 (sq (r1 [gm b9] 2 0) .ret) .skip)) (sq (r1 [gn (.mv (.c (.int .i64 (-1))))] 2 0) .ret)) .skip)) (sq (sq (r1 [gm s5] 7 0) (.cond s7 (sq (r1 [gm cK] 2 0) .ret) .skip)) (sq (sq (r1 [gm s0,gm s1,aR l0 l1] 8 2) (.cond s8 (sq (r1 [gn (.mv (.c (.int .i64 (-1))))] 2 0) .ret) .skip)) (sq (sq (r1 [gm s0,gm s1,fC l0 l1] 9 2) (.cond s9 (sq (r1 [gm cK] 2 0) .ret) .skip)) (sq (r1 [gm b9] 2 0) .ret))))))))⟩
def w516 {Y:Ctx}(hm:(Y.at 0).cE)(h704:PO Y)(a:dG)(b:dG)   :dI Y sY (.int .i64 (lf a b)) [.str a,.str b]:=by
 show cq _ _ _ [⟨_,_⟩,⟨_,_⟩,_,_,_,_,_,_,_,_] _;refine aq ?_;refine aO ?_;refine ar (hc:=h704 _) ?_;refine aO ?_;refine ar (hc:=h704 _) ?_;refine bd ?_;refine bC (t:=false) (fun h=>by cases h) (fun _=>?_);refine aD ?_;refine bC (t:=false) (fun h=>by cases h) (fun _=>?_);refine cQ ?_;refine cW (fun hc3=>?_) fun hc3=>?_
 .refine aD ?_;refine dc ?_;simp[lf,hc3]
 refine cQ ?_;refine cW (fun hc4=>?_) fun hc4=>?_
 .refine aD ?_;refine dc ?_;simp_all[lf]
 refine aD ?_;refine dc ?_;simp_all[lf]
def NL:aJ:=⟨1,9,m7,dx,(sq (r1 [gm b9] 1 0) (sq (r1 [gm b9] 7 0) (sq (sq (rg [gm s0,gl l0,gm b9] [(5,0),(3,1),(2,2)]) (.block 0 (.loop (sq (r1 [aR s2 s3] 4 0) (sq (fL s4 0) (sq (.block 1 (sq (r1 [ga 1 s5 s2,gd l0,gm l1] 6 2) (sq (r1 [gm s6,gm s7,dC l0 l1] 8 2) (.cond s8 (sq (r1 [gm s6,gm l0] 1 1) .ret) .skip)))) (r1 [aT s2 cK,gm l0] 2 1))))))) (sq (r1 [gm s7,gm l0] 1 1) .ret))))⟩
def w531  (l:List Int)   :dI Y NL (.int .i64 (gN (fun i=>l[i]!) 0 l.length)) [.sl 1 (l.map (D.int .i64))]:=by
 show cq _ _ _ [⟨_,_⟩,_,_,_,_,_,_,_,_] _;refine aq ?_;refine ji ?_;intro u0;refine aA ?_;refine bF hm (ι:=Nat) (fun i=>[.un,.un,⟨true,.int .i64 (i:Nat)⟩,⟨true,.int .i64 (l.length:Nat)⟩,.un,⟨true,.sl 1 (l.map (D.int .i64))⟩,.un,⟨true,.int .i64 0⟩,.un]) (fun i=>[]) 5 (fun i=>i<=l.length/\gN (fun i=>l[i]!) 0 l.length=gN (fun i=>l[i]!) i l.length) (fun i=>l.length-i) 0 ⟨ae,rfl⟩ (fo []) ?_;rintro i ⟨hi,hr⟩;refine aw ?_;refine cW (fun hc0=>?_) fun hc0=>?_
 .refine aw ?_;refine a8 i ?_;refine aZ (v:=.int .i64 l[i]!) ?_;refine cQ ?_;refine fQ (fun hc1=>?_) fun hc1=>?_
  .refine cQ ?_;refine dc ?_;rw[hr,BP ae hc1]
  refine cQ ?_;exact⟨i+1,⟨ae,by rw[hr,FO ae hc1]⟩,ae,(fo [])⟩
 refine cQ ?_;refine dc ?_;rw[hr,FN ae]
def zg:aJ:=⟨1,3,[⟨1,some (5,true)⟩],oc,(sq (rg [gb 5 s0,gb 5 (.c (.agg [.int .i64 0,.int .i64 0,.int .i64 0,.str [],.str []]))] [(2,0),(1,1)]) (sq (rg [gf 4 s2,gt 1 l0 cse] []) (sq (rg [gk 5 true s2,gt 5 s1 l0] []) .ret)))⟩
def w530 {Y:Ctx}(hm:(Y.at 0).cE)  (v:bo)   :dI Y zg (bo.D (jN v)) [bo.D v]:=by
 show cq _ _ _ [⟨_,_⟩,_,_] _;refine aq ?_;refine aD ?_;refine dH _ (he:=ch) ?_;refine bd ?_;refine cP (?_);rfl
def Be:aJ:=⟨2,10,[⟨2,none⟩],dx,(sq (r1 [gm b9] 2 0) (sq (rg [gm s0,gx 659 [l0] dx,gm s1,gx 659 [l2] dx,gm l1,gm l3] [(3,4),(4,5)]) (sq (sq (r1 [gm s3,gm l0,gmt 1 s4,fR l1 l2] 5 3) (.cond s5 (sq (r1 [gm s0,gx 658 [l0] dx,gm l1,ge l2 0,ge l2 1,gm l3,gm l4] 6 5) (sq (r1 [gm s1,gx 658 [l0] dx,gm l1,ge l2 0,ge l2 1,gm l3,gm l4] 7 5) (sq (r1 [gm s6,gm s7,gx 532 [l0,l1] j7,gm l2] 2 3) .ret))) .skip)) (sq (sq (r1 [gm s3,gm s4,gn (.eqA true false [.b] l0 l1)] 8 2) (.cond s8 (sq (sq (r1 [gm s3] 9 0) (.cond s9 (sq (r1 [gn (.mv (.c (.int .i64 (-1))))] 2 0) .ret) .skip)) (sq (r1 [gm cK] 2 0) .ret)) .skip)) (sq (r1 [gm s0,gm s1,gx 516 [l0,l1] j7,gm l2] 2 3) .ret)))))⟩
def w534 {Y:Ctx}(hm:(Y.at 0).cE)(h516:M0 Y)(h532:Kf Y)(h658:M6 Y)(h659:M7 Y)(a:dG)(b:dG)   :dI Y Be (.int .i64 (pw a b)) [.str a,.str b]:=by
 show cq _ _ _ [⟨_,_⟩,⟨_,_⟩,_,_,_,_,_,_,_,_] _;refine aq ?_;refine aO ?_;refine ar (hc:=h659 _) ?_;refine av ?_;refine ar (hc:=h659 _) ?_;refine k8 ?_;refine cW (fun hc0=>?_) fun hc0=>?_
 .refine aw ?_;refine ar (hc:=h658 _) ?_;refine ji ?_;refine ar (hc:=h658 _) ?_;refine k8 ?_;refine ar (hc:=h532 _ _) ?_;refine aw ?_;refine dc ?_;unfold pw;rw[ay hc0]
 refine aD ?_;refine IW (hb:=HJ _ _) ?_;refine av ?_;refine bC (fun hc1=>?_) (fun hc1=>?_)
 .simp only[ef,di]at hc1;refine aD ?_;refine cW (fun hc2=>?_) fun hc2=>?_
  .refine aD ?_;refine dc ?_;have hn:¬(cL a=true/\cL b=true):=by rintro⟨h1,h2⟩;simp[h1,h2]at hc0
   unfold pw;rw[ai hn];rw[ay hc2]
  refine bd ?_;refine dc ?_;have hn:¬(cL a=true/\cL b=true):=by rintro⟨h1,h2⟩;simp[h1,h2]at hc0
  unfold pw;rw[ai hn];rw[ai (by simp[hc2]),ay (by cases h:cL b with|true=>rfl|false=>exact absurd (hc2.trans h.symm) hc1)]
 simp only[oL,cj]at hc1;refine aO ?_;refine ar (hc:=h516 _ _) ?_;refine aw ?_;refine dc ?_;have hn:¬(cL a=true/\cL b=true):=by rintro⟨h1,h2⟩;simp[h1,h2]at hc0
 unfold pw;rw[ai hn];have h1:cL a=false:=by cases h:cL a with|false=>rfl|true=>exact absurd ⟨h,hc1▸h⟩ hn
 rw[ai (by simp[h1]),ai (by rw[<-hc1];simp[h1])]
def Bd:aJ:=⟨1,10,m7,dx,(sq (r1 [gm dd] 1 0) (sq (sq (r1 [gm s0,gx 442 [l0] dx,lh l1] 2 2) (zW s2 dd)) (sq (sq (rg [gm s0,gx 533 [l0,(i8 46)] j7,gl l1,gm b9] [(6,1),(4,2),(3,3)]) (.block 0 (.loop (sq (r1 [aR s3 s4] 5 0) (sq (fL s5 0) (sq (.block 1 (sq (r1 [ga 1 s6 s3,gd l0,gm l1] 7 2) (sq (r1 [gm s7,gx 658 [l0] dx,gm l1,ge l2 0,ge l2 1,gm l3,gm l4] 8 6) (sq (r1 [gm s7,gx 659 [l0] dx,gm l1,gmt 2 s8,cv 2 (.un .not l3),fR l2 l4] 9 5) (zW s9 dd))))) (r1 [aT s3 cK,gm l0] 3 1))))))) (H4 nr))))⟩
def w441 (h442:MY Y)(h533:Kg Y)(h658:M6 Y)(h659:M7 Y)(s:dG)  (hp0:s.length<=1048576):dI Y Bd (.bool (mz s true)) [.str s]:=by
 show cq _ _ _ [⟨_,_⟩,_,_,_,_,_,_,_,_,_] _;refine aq ?_;refine aD ?_;refine ar (hc:=h442 _ ?_) ?_;rotate_left;first|assumption|omega
 refine aA ?_;refine bC (fun hc0=>?_) (fun hc0=>?_)
 .simp only[ef]at hc0;refine aD ?_;refine bB ?_;symm;simp only[mz]at hc0⊢;rw[fF]at hc0⊢;rcases hc0 with h|h
  .exact Or.inl h
  .right;rw[Bool.eq_false_iff]at h⊢;intro h2;apply h;rw[de]at h2⊢;intro j a b;have:=h2 j a b;simp only[gI,bR]at this⊢;exact⟨this.1,rfl⟩
 simp only[oL]at hc0;refine aO ?_;refine ar (hc:=h533 _ _ ?_) ?_;rotate_left;first|assumption|omega;have hlen:=qk s 46
 refine av ?_;intro u0;refine aA ?_;have hT:=hc0;simp only[mz,bR,cj]at hT;obtain⟨hT4,hTa⟩:=hT;rw[de]at hTa;have hP:mz s true=cO (fun i=>gI true (bM s 46)[i]!) 0 (bM s 46).length:=by
  simp only[mz];rw[cr hT4];rfl
 refine bF hm (ι:=Nat) (fun i=>[.un,.un,.un,⟨true,.int .i64 (i:Nat)⟩,⟨true,.int .i64 ((bM s 46).length:Nat)⟩,.un,⟨true,.sl 1 ((bM s 46).map D.str)⟩,.un,.un,.un]) (fun i=>[]) 8 (fun i=>i<=(bM s 46).length/\mz s true=cO (fun i=>gI true (bM s 46)[i]!) i (bM s 46).length) (fun i=>(bM s 46).length-i) 0 ⟨ae,hP⟩ (fo []) ?_;rintro i ⟨hi,hr⟩;refine aw ?_;refine cW (fun hc1=>?_) fun hc1=>?_
 .refine ji ?_;refine ar (hc:=h658 _) ?_;refine hZ ?_;refine ar (hc:=h659 _) ?_;refine aD ?_;refine wp_cond (fun hc2=>?_) (fun hc2=>?_)
  .skip
   refine bd ?_;refine bB ?_;have hz:gI true (bM s 46)[i]! =false:=by
    simp only[gI];revert hc2;generalize po (bM s 46)[i]! =c;generalize cL (bM s 46)[i]! =a;generalize j9 (bM s 46)[i]! =b;cases a<;>cases b<;>cases c<;>simp
   rw[hr,bh ae,hz];rfl
  skip
  refine cQ ?_;have hz:gI true (bM s 46)[i]! =true:=by
   have:=hTa i ae ae;simp only[gI,Bool.false_and,Bool.not_false,eL]at this;simp only[gI,this];revert hc2;generalize cL (bM s 46)[i]! =a;generalize j9 (bM s 46)[i]! =b;cases a<;>cases b<;>simp
  exact⟨i+1,⟨ae,by rw[hr,bh ae,hz];rfl⟩,ae,(fo [])⟩
 refine bd ?_;refine bB ?_;rw[hr,cR ae]
def Bc:aJ:=⟨1,3,m7,dx,(sq (rg [gb 5 s0,gm dd] [(2,0),(1,1)]) (sq (r1 [gf 0 s2,gd l0,gx 440 [l1] dx,gm l2,eX 3 1 s2,ik 3 l4,cv 3 (.call 440 [l5] dx),fR l3 l6,gm l7,eX 8 2 s2,ik 8 l9,cv 8 (.call 440 [l10] dx),fR l8 fT,gm gJ,eX 13 3 s2,ik 13 jj,cv 13 (eA kD cse),gmt 13 lW,ib 17 3 s2,ix 17 qM,cJ 17 (.call 441 [uV] dx),NP 13 pn xr,fR il zn,gm yF,eX 23 4 s2,ik 23 GU,cv 23 (eA J1 cse),gmt 23 Ms,ib 27 4 s2,ix 27 Mu,cJ 27 (.call 442 [NW] dx),NP 23 Mt l30,fR B0 l31,gm l32] 1 33) .ret))⟩
def w209 {Y:Ctx}(hm:(Y.at 0).cE)(h440:Pn Y)(h441:Po Y)(h442:MY Y)(v:bo)  (hp0:v.sm):dI Y Bc (.bool (jn v)) [bo.D v]:=by
 show cq _ _ _ [⟨_,_⟩,_,_] _;refine aq ?_;refine bd ?_;refine ar (hc:=h440 _) ?_;refine aw ?_;refine ar (hc:=h440 _) ?_;refine aO ?_;refine ar (hc:=h440 _) ?_;refine hZ ?_;refine bX (hc:=fun hf=>h441 v.pre hp0.1) ?_;refine ji ?_;refine bX (hc:=fun hf=>h442 v.build hp0.2) ?_;refine aD ?_;exact bB rfl
def B9:aJ:=⟨2,6,[⟨2,none⟩],dx,(sq (r1 [gm b9] 2 0) (sq (sq (r1 [gm s1,aR l0 cK] 3 1) (.cond s3 (sq (r1 [gm b9] 2 0) .ret) .skip)) (sq (r1 [gm s0,gm s1,gn (.bin .rem l0 l1),gm l2] 4 3) (sq (sq (r1 [gm s4,aR l0 b9] 5 1) (.cond s5 (sq (r1 [gm s4,gm s1,aT l0 l1,gm l2] 2 3) .ret) .skip)) (sq (r1 [gm s4,gm l0] 2 1) .ret)))))⟩
def w25 {Y:Ctx}(hm:(Y.at 0).cE)  (v:Int)(n:Int)  (hp0:n<=9223372036854775807):dI Y B9 (.int .i64 (bH v n)) [.int .i64 v,.int .i64 n]:=by
 show cq _ _ _ [⟨_,_⟩,⟨_,_⟩,_,_,_,_] _;refine aq ?_;refine cQ ?_;refine cW (fun hc0=>?_) fun hc0=>?_
 .refine aD ?_;refine dc ?_;simp[bH,hc0]
 refine aO ?_;refine MA (v.tmod n) (hn:=by intro _;omega) (hb:=fun _=>rfl) ?_;have ht:=we v n ae;refine cQ ?_;refine cW (fun hc1=>?_) fun hc1=>?_
 .refine hZ ?_;refine dc ?_;simp only[bH];rw[ai hc0,ay hc1]
 refine bd ?_;refine dc ?_;simp only[bH];rw[ai hc0,ai hc1]
def K2:aJ:=⟨2,4,[⟨2,none⟩],dx,(sq (r1 [gm b9] 2 0) (sq (sq (r1 [gm s1,aR l0 b9,gm l1,eY 2 s1,eY 2 s0,cJ 2 (.len l4),cJ 2 (gu l3 l5),eZ l2 l6] 3 7) (.cond s3 (sq (r1 [gm s1,gn (.bin .rem l0 H8),gm l1] 2 2) .ret) .skip)) (sq (r1 [gm s0,gm s1,ga 1 l0 l1,gd l2,gm l3] 2 4) .ret)))⟩
def w159 {Y:Ctx}(hm:(Y.at 0).cE)  (l:List Int)(i:Int)   :dI Y K2 (.int .i64 (zm l i)) [.sl 1 (l.map (D.int .i64)),.int .i64 i]:=by
 show cq _ _ _ [⟨_,_⟩,⟨_,_⟩,_,_] _;refine aq ?_;refine ji ?_;refine jo ?_;refine aw ?_;refine cW (fun hc0=>?_) fun hc0=>?_
 .refine aw ?_;refine MA (i.tmod 3) (hn:=by intro _;omega) (hb:=fun _=>rfl) ?_;refine aw ?_;refine dc ?_;simp only[zm];rw[ay hc0]
 refine aO ?_;refine IZ ?_;refine aO ?_;refine dc ?_;simp only[zm];rw[ai ae]
def oq:aJ:=⟨2,3,[⟨2,none⟩],dx,(sq (r1 [gm b9] 2 0) (sq (rg [gm s0,gc l0,gf 1 l1,gd l2,aT l3 cK,gc l0,gf 1 l5,gt 1 l6 l4] []) (sq (r2 [gm s0,gc l0,gf 0 l1,gd l2,gm s0,gc l4,gf 1 l5,gd l6,e9 l7 cK,gx 159 [l3,l8] [[.sl 1 [.a]],[.a]],gm s1,gx 25 [l9,l10] j7,gm fT] 2 12) .ret)))⟩
def w109 {Y:Ctx}(hm:(Y.at 1).cE)(h25:Pa (Y.at 1))(h159:MN (Y.at 1))(g:Gs)(n:Int)(hp0:n<=9223372036854775807)(hp1:0<=g.i/\g.i<=1000000):cq (Y.at 1) oq.body (Nt oq 2 (.int .i64 (g.val n)) (Gs.D g.bQ):Ex->List cb->St->Prop) (fJ oq (.ptr 0 2 0 0::[.int .i64 n])) ⟨1,[(0,.buf 2 [(Gs.D g)])]⟩:=by
 show cq _ _ _ [⟨true,.ptr 0 2 0 0⟩,⟨true,.int .i64 n⟩,.un] ⟨1,[(0,.buf 2 [(Gs.D g)])]⟩;refine aq ?_;refine k8 ?_;refine dH _ (he:=ch) ?_;refine k8 ?_;refine eC ?_;rw[show g.i+1-1=g.i by omega];refine ar (hc:=h159 _ _) ?_;refine av ?_;refine ar (hc:=h25 _ _ ?_) ?_;rotate_left;first|assumption|omega
 refine aw ?_;refine Lr trivial lN (eV ah (bV (D.int .i64) ?_)) ah ah ah;rfl
end Go.Abs
