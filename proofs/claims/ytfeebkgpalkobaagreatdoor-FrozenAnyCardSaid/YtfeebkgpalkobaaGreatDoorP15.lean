/- A part of the proofs. -/
import Derived.Test.YtfeebkgpalkobaaGreatDoorP08
set_option linter.all false
set_option maxRecDepth 60000
set_option maxHeartbeats 2000000
namespace Go.Abs
variable {Y:Ctx}(hm:(Y.at 0).cj)
def PQ:ax:={np:=1,ns:=5,res:=[⟨1,none⟩],rsh:=[[.a]],body:=(.seq (.reg false [⟨.box 7 (.s 0),none⟩,⟨.mv (.c (.bool false)),none⟩] [(2,0),(1,1)]) (.seq (.seq (.reg false [⟨.fa 0 (.s 2),none⟩,⟨.ld 1 false (.l 0),none⟩,⟨.bin .eql (.l 1) (.c (.int .i64 (-1))),none⟩,⟨.mv (.l 2),none⟩,⟨.fa 0 (.s 2),some (3,false)⟩,⟨.ld 1 false (.l 4),some (3,false)⟩,⟨.bin .eql (.l 5) (.c (.int .i64 1)),some (3,false)⟩,⟨.pick (.l 3) (.c (.bool true)) (.l 6),none⟩] [(3,7)]) (.cond (.s 3) (.seq (.reg false [⟨.fa 1 (.s 2),none⟩,⟨.ld 5 true (.l 0),none⟩,⟨.build [.int .i64 0,.int .i64 0,.int .i64 0,.str [],.str []] [],none⟩,⟨.eqA false true [.i .i64,.i .i64,.i .i64,.s,.s] (.l 1) (.l 2),none⟩,⟨.mv (.l 3),none⟩,⟨.fa 6 (.s 2),some (4,true)⟩,⟨.ld 1 false (.l 5),some (4,true)⟩,⟨.un .not (.l 6),some (4,true)⟩,⟨.pick (.l 4) (.l 7) (.c (.bool false)),none⟩,⟨.mv (.l 8),none⟩] [(1,9)]) .ret) (.seq (.reg false [⟨.fa 0 (.s 2),none⟩,⟨.ld 1 false (.l 0),none⟩,⟨.bin .neq (.l 1) (.c (.int .i64 0)),none⟩] [(4,2)]) (.cond (.s 4) (.seq (.reg false [⟨.mv (.c (.bool false)),none⟩] [(1,0)]) .ret) .skip)))) (.seq (.reg false [⟨.fa 1 (.s 2),none⟩,⟨.ld 5 true (.l 0),none⟩,⟨.call 209 [(.l 1)] [[.a,.a,.a,.a,.a]],none⟩,⟨.mv (.l 2),none⟩,⟨.fa 1 (.s 2),some (3,true)⟩,⟨.fa 4 (.l 4),some (3,true)⟩,⟨.ld 1 false (.l 5),some (3,true)⟩,⟨.bin .eql (.l 6) (.c (.str [])),some (3,true)⟩,⟨.pick (.l 3) (.l 7) (.c (.bool false)),none⟩,⟨.mv (.l 8),none⟩] [(1,9)]) .ret)))}
def w1087 {Y:Ctx}(hm:(Y.at 0).cj)(h209:uA Y)(c:Cut)  (hp0:c.v.sm):dh Y PQ (.bool (mc c)) [Cut.D c]:=by
 show bO _ _ _ [⟨_,_⟩,_,_,_,_] _;refine ai ?_;refine aH ?_;refine az (v:=.int .i64 c.e) ?_;refine ar ?_;refine az (v:=.int .i64 c.e) ?_;refine ar ?_;refine cd (fun hc0=>?_) fun hc0=>?_
 .refine ar ?_;refine az (v:=aQ.D c.v) ?_;refine b6 (aQ.D (⟨0,0,0,[],[]⟩)) ?_;refine xX (hb:=aQ.eq _ _) ?_;refine av ?_;refine az (v:=.bool c.a) ?_;refine aD ?_;refine bG ?_;first|(grind [mc,zV];done)|(simp_all[mc,zV];done)
 refine ar ?_;refine az (v:=.int .i64 c.e) ?_;refine av ?_;refine cd (fun hc1=>?_) fun hc1=>?_
 .refine aD ?_;refine bG ?_;first|(grind [mc,zV];done)|(simp_all[mc,zV];done)
 refine ar ?_;refine az (v:=aQ.D c.v) ?_;refine ak (hc:=h209 (c.v) ?_) ?_;rotate_left;first|assumption|omega|(grind [Cut.sm,Span.sm,bQ.sm,bR,aq,Want.sm,dA.sm,cQ.sm,bZ.sm])
 refine ar ?_;refine az (v:=.str c.v.build) ?_;refine aD ?_;refine bG ?_;first|(grind [mc,zV];done)|(simp_all[mc,zV];done)
noncomputable def CE:ax:=b8 171
def w1024 {Y:Ctx}(hm:(Y.at 0).cj)(h295:JA Y)(h532:Pg Y)(h1087:GV Y)(a:Cut)(b:Cut)  (hp0:a.v.sm/\b.v.sm):dh Y CE (.int .i64 (gP a b)) [Cut.D a,Cut.D b]:=by
 show bO _ _ _ [⟨_,_⟩,⟨_,_⟩,_,_,_,_,_,_,_,_,_] _;refine ai ?_;refine aH ?_;refine bo (d:=Cut.D a) ?_;refine ak (hc:=h1087 (a) ?_) ?_;rotate_left;first|assumption|omega|(grind [Cut.sm,Span.sm,bQ.sm,bR,aq,Want.sm,dA.sm,cQ.sm,bZ.sm])
 refine av ?_;refine bo (d:=Cut.D b) ?_;refine bK (hc:=fun hf=>h1087 (b) ?_) ?_;rotate_left;first|assumption|omega|(grind [Cut.sm,Span.sm,bQ.sm,bR,aq,Want.sm,dA.sm,cQ.sm,bZ.sm])
 refine ar ?_;refine cd (fun hc0=>?_) fun hc0=>?_
 .refine aD ?_;refine cq ?_;first|(grind [gP,dw];done)|(simp_all[gP,dw];done)
 refine ar ?_;refine az (v:=.int .i64 a.e) ?_;refine ar ?_;refine az (v:=.int .i64 b.e) ?_;refine ar ?_;refine cd (fun hc1=>?_) fun hc1=>?_
 .refine ar ?_;refine az (v:=.int .i64 a.e) ?_;refine aw ?_;refine az (v:=.int .i64 b.e) ?_;refine ak (hc:=h532 (a.e) (b.e)) ?_;refine ar ?_;refine cq ?_;first|(grind [gP,dw];done)|(simp_all[gP,dw];done)
 refine ar ?_;refine az (v:=aQ.D a.v) ?_;refine aw ?_;refine az (v:=aQ.D b.v) ?_;refine ak (hc:=h295 (a.v) (b.v) ?_) ?_;rotate_left;first|assumption|omega|(grind [Cut.sm,Span.sm,bQ.sm,bR,aq,Want.sm,dA.sm,cQ.sm,bZ.sm])
 refine bF ?_;refine cd (fun hc2=>?_) fun hc2=>?_
 .refine aH ?_;refine cq ?_;first|(grind [gP,dw];done)|(simp_all[gP,dw];done)
 refine ar ?_;refine az (v:=.bool a.a) ?_;refine aw ?_;refine az (v:=.bool b.a) ?_;refine xX (hb:=T8 _ _) ?_;refine aw ?_;refine cd (fun hc3=>?_) fun hc3=>?_
 .refine aD ?_;refine cq ?_;first|(grind [gP,dw];done)|(simp_all[gP,dw];done)
 refine ar ?_;refine az (v:=.bool b.a) ?_;refine aw ?_;refine cd (fun hc4=>?_) fun hc4=>?_
 .refine aD ?_;refine cq ?_;first|(grind [gP,dw];done)|(simp_all[gP,dw];done)
 refine aD ?_;refine cq ?_;first|(grind [gP,dw];done)|(simp_all[gP,dw];done)
noncomputable def JQ:ax:=b8 181
def w1055 {Y:Ctx}(hm:(Y.at 0).cj)(h209:uA Y)(h295:JA Y)(h1087:GV Y)(c:Cut)(v:aQ)  (hp0:c.v.sm/\v.sm):dh Y JQ (.bool (ir c v)) [Cut.D c,aQ.D v]:=by
 show bO _ _ _ [⟨_,_⟩,⟨_,_⟩,_,_,_,_,_,_] _;refine ai ?_;refine aH ?_;refine bo (d:=Cut.D c) ?_;refine ak (hc:=h1087 (c) ?_) ?_;rotate_left;first|assumption|omega|(grind [Cut.sm,Span.sm,bQ.sm,bR,aq,Want.sm,dA.sm,cQ.sm,bZ.sm])
 refine av ?_;refine bo (d:=aQ.D v) ?_;refine bK (hc:=fun hf=>h209 (v) ?_) ?_;rotate_left;first|assumption|omega|(grind [Cut.sm,Span.sm,bQ.sm,bR,aq,Want.sm,dA.sm,cQ.sm,bZ.sm])
 refine ar ?_;refine cd (fun hc0=>?_) fun hc0=>?_
 .refine aD ?_;refine bG ?_;first|(grind [ir];done)|(simp_all[ir];done)
 refine ar ?_;refine az (v:=.int .i64 c.e) ?_;refine av ?_;refine cd (fun hc1=>?_) fun hc1=>?_
 .refine ar ?_;refine az (v:=.int .i64 c.e) ?_;refine aF ?_;refine bG ?_;first|(grind [ir];done)|(simp_all[ir];done)
 refine ar ?_;refine az (v:=aQ.D c.v) ?_;refine bo (d:=aQ.D v) ?_;refine ak (hc:=h295 (c.v) (v) ?_) ?_;rotate_left;first|assumption|omega|(grind [Cut.sm,Span.sm,bQ.sm,bR,aq,Want.sm,dA.sm,cQ.sm,bZ.sm])
 refine k8 ?_;refine az (v:=.bool c.a) ?_;refine aH ?_;refine bG ?_;first|(grind [ir];done)|(simp_all[ir];done)
noncomputable def CF:ax:=b8 170
def w1023 {Y:Ctx}(hm:(Y.at 0).cj)(h1024:Lj Y)(h1087:GV Y)(s:Span)  (hp0:s.sm):dh Y CF (.bool (kI s)) [Span.D s]:=by
 show bO _ _ _ [⟨_,_⟩,_,_] _;refine ai ?_;refine aD ?_;refine az (v:=Cut.D s.f) ?_;refine ak (hc:=h1087 (s.f) ?_) ?_;rotate_left;first|assumption|omega|(grind [Cut.sm,Span.sm,bQ.sm,bR,aq,Want.sm,dA.sm,cQ.sm,bZ.sm])
 refine av ?_;refine az (v:=Cut.D s.t) ?_;refine bK (hc:=fun hf=>h1087 (s.t) ?_) ?_;rotate_left;first|assumption|omega|(grind [Cut.sm,Span.sm,bQ.sm,bR,aq,Want.sm,dA.sm,cQ.sm,bZ.sm])
 refine ar ?_;refine az (v:=Cut.D s.f) ?_;refine aw ?_;refine az (v:=Cut.D s.t) ?_;refine bK (hc:=fun hf=>h1024 (s.f) (s.t) ?_) ?_;rotate_left;first|assumption|omega|(grind [Cut.sm,Span.sm,bQ.sm,bR,aq,Want.sm,dA.sm,cQ.sm,bZ.sm])
 refine aD ?_;refine bG ?_;first|(grind [kI];done)|(simp_all[kI];done)
noncomputable def JR:ax:=b8 159
def w980 {Y:Ctx}(hm:(Y.at 0).cj)(h209:uA Y)(h1023:Li Y)(h1055:Q7 Y)(s:Span)(v:aQ)  (hp0:s.sm/\v.sm):dh Y JR (.bool (mI s v)) [Span.D s,aQ.D v]:=by
 show bO _ _ _ [⟨_,_⟩,⟨_,_⟩,_,_,_] _;refine ai ?_;refine aD ?_;refine bo (d:=Span.D s) ?_;refine ak (hc:=h1023 (s) ?_) ?_;rotate_left;first|assumption|omega|(grind [Cut.sm,Span.sm,bQ.sm,bR,aq,Want.sm,dA.sm,cQ.sm,bZ.sm])
 refine aw ?_;refine bo (d:=aQ.D v) ?_;refine bK (hc:=fun hf=>h209 (v) ?_) ?_;rotate_left;first|assumption|omega|(grind [Cut.sm,Span.sm,bQ.sm,bR,aq,Want.sm,dA.sm,cQ.sm,bZ.sm])
 refine ar ?_;refine az (v:=Cut.D s.f) ?_;refine bo (d:=aQ.D v) ?_;refine bK (hc:=fun hf=>h1055 (s.f) (v) ?_) ?_;rotate_left;first|assumption|omega|(grind [Cut.sm,Span.sm,bQ.sm,bR,aq,Want.sm,dA.sm,cQ.sm,bZ.sm])
 refine ar ?_;refine az (v:=Cut.D s.t) ?_;refine bo (d:=aQ.D v) ?_;refine bK (hc:=fun hf=>h1055 (s.t) (v) ?_) ?_;rotate_left;first|assumption|omega|(grind [Cut.sm,Span.sm,bQ.sm,bR,aq,Want.sm,dA.sm,cQ.sm,bZ.sm])
 refine aD ?_;refine bG ?_;first|(grind [mI,kI];done)|(simp_all[mI,kI];done)
noncomputable def QP:ax:=b8 155
def w925 (h1023:Li Y)(h1024:Lj Y)(l:List Span)  (hp0:bR l):dh Y QP (.bool (mP l)) [.sl 14 (l.map Span.D)]:=by
 show bO _ _ _ [⟨_,_⟩,_,_,_,_,_,_,_,_] _;refine ai ?_;refine aH ?_;intro u0;refine av ?_;refine a7 hm (ι:=Nat) (fun i=>[⟨true,.sl 14 ((l).map Span.D)⟩,.un,⟨true,.int .i64 (i:Nat)⟩,⟨true,.int .i64 (l.length:Nat)⟩,.un,⟨true,.sl 14 ((l).map Span.D)⟩,.un,.un,.un]) (fun i=>[]) 4 (fun i=>i<=l.length/\mP l=cF (uU l) i l.length) (fun i=>l.length-i) 0 ⟨ah,rfl⟩ (du []) ?_;rintro i ⟨hi,hr⟩;refine ar ?_;refine cd (fun hc0=>?_) fun hc0=>?_
 .refine aF ?_;refine aV (i) (hj:=fun hf=>by first|omega|(simp at hf;omega)) (hb:=fun hf=>by first|omega|(simp at hf;omega)) ?_;refine aW (v:=Span.D ((l)[i]!)) (hi:=fun hf=>by first|omega|(simp at hf;omega)) ?_;refine av ?_;refine bD (Span.D ((l)[i]!)) (he:=bm) ?_;refine av ?_;refine bo (d:=Span.D ((l)[i]!)) ?_;refine ak (hc:=h1023 ((l)[i]!) ?_) ?_;rotate_left;first|assumption|omega|(grind [Cut.sm,Span.sm,bQ.sm,bR,aq,Want.sm,dA.sm,cQ.sm,bZ.sm])
  refine bF ?_;refine iN (hb:=fun hf=>by first|omega|(simp at hf;omega)) ?_;refine aV ((i-1)) (hj:=fun hf=>by first|omega|(simp at hf;omega)) (hb:=fun hf=>by first|omega|(simp at hf;omega)) ?_;refine aw ?_;refine aW (v:=Cut.D ((l)[(i-1)]!.t)) (hi:=fun hf=>by first|omega|(simp at hf;omega)) ?_;refine aw ?_;refine az (v:=Cut.D ((l)[i]!.f)) ?_;refine bK (hc:=fun hf=>h1024 ((l)[(i-1)]!.t) ((l)[i]!.f) ?_) ?_;rotate_left;first|assumption|omega|(grind [Cut.sm,Span.sm,bQ.sm,bR,aq,Want.sm,dA.sm,cQ.sm,bZ.sm])
  refine aF ?_;refine ed (fun hc1=>?_) fun hc1=>?_
  .refine aH ?_;refine bG ?_;rw[hr,aN ah];first|(grind [uU];done)|(simp_all[uU];done)
  refine ar ?_;refine ba (hb:=fun hf=>by first|omega|(simp at hf;omega)) ?_;refine ar ?_;exact⟨i+1,⟨ah,by rw[hr,aN ah];first|(grind [uU];done)|(simp_all[uU];done)⟩,ah,(du [])⟩
 refine aH ?_;refine bG ?_;rw[hr,b7 ah]
noncomputable def QO:ax:=b8 138
def w861 (h925:SF Y)(h980:XZ Y)(l:List Span)(v:aQ)  (hp0:bR l/\v.sm):dh Y QO (.bool (n6 l v)) [.sl 14 (l.map Span.D),aQ.D v]:=by
 show bO _ _ _ [⟨_,_⟩,⟨_,_⟩,_,_,_,_,_,_,_,_,_] _;refine ai ?_;refine aH ?_;refine ak (hc:=h925 (l) ?_) ?_;rotate_left;first|assumption|omega|(grind [Cut.sm,Span.sm,bQ.sm,bR,aq,Want.sm,dA.sm,cQ.sm,bZ.sm])
 refine av ?_;refine cd (fun hc0=>?_) fun hc0=>?_
 .refine aD ?_;refine bG ?_;unfold n6;simp_all
 refine aD ?_;intro u0;refine av ?_;refine a7 hm (ι:=Nat) (fun i=>[⟨true,.sl 14 ((l).map Span.D)⟩,.un,.un,.un,⟨true,.int .i64 (i:Nat)⟩,⟨true,.int .i64 (l.length:Nat)⟩,.un,⟨true,.sl 14 ((l).map Span.D)⟩,.un,⟨true,.ptr 0 5 0 0⟩,.un]) (fun i=>[(0,.buf 5 [aQ.D v])]) 8 (fun i=>i<=l.length/\n6 l v=qC (fun i=>mI l[i]! v) i l.length) (fun i=>l.length-i) 0 ⟨ah,by unfold n6;rw[show mP l=true by simpa using hc0];rfl⟩ (du [(0,0)]) ?_;rintro i ⟨hi,hr⟩;refine ar ?_;refine cd (fun hc1=>?_) fun hc1=>?_
 .refine ar ?_;refine aV (i) (hj:=fun hf=>by first|omega|(simp at hf;omega)) (hb:=fun hf=>by first|omega|(simp at hf;omega)) ?_;refine aW (v:=Span.D ((l)[i]!)) (hi:=fun hf=>by first|omega|(simp at hf;omega)) ?_;refine aw ?_;refine bD (Span.D ((l)[i]!)) (he:=bm) ?_;refine av ?_;refine bo (d:=Span.D ((l)[i]!)) ?_;refine bo (d:=aQ.D v) ?_;refine ak (hc:=h980 ((l)[i]!) (v) ?_) ?_;rotate_left;first|assumption|omega|(grind [Cut.sm,Span.sm,bQ.sm,bR,aq,Want.sm,dA.sm,cQ.sm,bZ.sm])
  refine aw ?_;refine ed (fun hc2=>?_) fun hc2=>?_
  .refine aH ?_;refine bG ?_;rw[hr,j7 ah];simp_all
  refine ar ?_;refine ba (hb:=fun hf=>by first|omega|(simp at hf;omega)) ?_;refine ar ?_;exact⟨i+1,⟨ah,by rw[hr,j7 ah];simp_all⟩,ah,(du [(0,0)])⟩
 refine aH ?_;refine bG ?_;rw[hr,rA ah]
def Em:ax:={np:=1,ns:=3,res:=[⟨1,none⟩],rsh:=[[.a]],body:=(.seq (.reg false [⟨.box 7 (.s 0),none⟩,⟨.mv (.c (.bool false)),none⟩] [(2,0),(1,1)]) (.seq (.reg false [⟨.fa 0 (.s 2),none⟩,⟨.ld 1 false (.l 0),none⟩,⟨.bin .neq (.l 1) (.c (.int .i64 0)),none⟩,⟨.mv (.l 2),none⟩,⟨.fa 6 (.s 2),some (3,false)⟩,⟨.ld 1 false (.l 4),some (3,false)⟩,⟨.un .not (.l 5),some (3,false)⟩,⟨.mv (.l 6),some (3,false)⟩,⟨.fa 1 (.s 2),some (7,true)⟩,⟨.fa 3 (.l 8),some (7,true)⟩,⟨.ld 1 false (.l 9),some (7,true)⟩,⟨.bin .eql (.l 10) (.c (.str [])),some (7,true)⟩,⟨.pick (.l 7) (.l 11) (.c (.bool false)),some (3,false)⟩,⟨.mv (.l 12),some (3,false)⟩,⟨.fa 1 (.s 2),some (13,true)⟩,⟨.ld 5 true (.l 14),some (13,true)⟩,⟨.mv (.c (.agg [.int .i64 0,.int .i64 0,.int .i64 0,.str [],.str []])),some (13,true)⟩,⟨.eqA true true [.i .i64,.i .i64,.i .i64,.s,.s] (.l 15) (.l 16),some (13,true)⟩,⟨.pick (.l 13) (.l 17) (.c (.bool false)),some (3,false)⟩,⟨.pick (.l 3) (.c (.bool true)) (.l 18),none⟩,⟨.mv (.l 19),none⟩] [(1,20)]) .ret))}
def w924 {Y:Ctx}(hm:(Y.at 0).cj)  (c:Cut)   :dh Y Em (.bool (nq c)) [Cut.D c]:=by
 show bO _ _ _ [⟨_,_⟩,_,_] _;refine ai ?_;refine aD ?_;refine az (v:=.int .i64 c.e) ?_;refine ar ?_;refine az (v:=.bool c.a) ?_;refine aF ?_;refine az (v:=.str c.v.pre) ?_;refine aF ?_;refine az (v:=aQ.D c.v) ?_;refine r_mv (d:=aQ.D zV) ?_;refine HI (hb:=aQ.eq _ _) ?_;refine aD ?_;refine bG ?_;first|(grind [nq,zV];done)|(simp_all[nq,zV];done)
noncomputable def QS:ax:=b8 132
def w780 (h924:XW Y)(h925:SF Y)(s:bQ)  (hp0:s.sm):dh Y QS (.bool (sr s)) [bQ.D s]:=by
 show bO _ _ _ [⟨_,_⟩,_,_,_,_,_,_,_,_] _;refine ai ?_;refine aH ?_;refine az (v:=.sl 14 ((s.rel).map Span.D)) ?_;refine aw ?_;intro u0;refine av ?_;refine a7 hm (ι:=Nat) (fun i=>[.un,.un,⟨true,.ptr 0 2 0 0⟩,⟨true,.int .i64 (i:Nat)⟩,⟨true,.int .i64 (s.rel.length:Nat)⟩,.un,⟨true,.sl 14 ((s.rel).map Span.D)⟩,.un,.un]) (fun i=>[(0,.buf 2 [bQ.D s])]) 6 (fun i=>i<=s.rel.length/\sr s=(cF (fun i=>nq s.rel[i]!.f&&nq s.rel[i]!.t) i s.rel.length&&(mP s.rel&&mP s.pr))) (fun i=>s.rel.length-i) 0 ⟨ah,(QQ s).symm⟩ (du [(0,0)]) ?_;rintro i ⟨hi,hr⟩;refine ar ?_;refine cd (fun hc0=>?_) fun hc0=>?_
 .refine ar ?_;refine aV (i) (hj:=fun hf=>by first|omega|(simp at hf;omega)) (hb:=fun hf=>by first|omega|(simp at hf;omega)) ?_;refine aW (v:=Span.D ((s.rel)[i]!)) (hi:=fun hf=>by first|omega|(simp at hf;omega)) ?_;refine aw ?_;refine bD (Span.D ((s.rel)[i]!)) (he:=bm) ?_;refine ar ?_;refine az (v:=Cut.D ((s.rel)[i]!.f)) ?_;refine ak (hc:=h924 ((s.rel)[i]!.f)) ?_;refine ar ?_;refine az (v:=Cut.D ((s.rel)[i]!.t)) ?_;refine ak (hc:=h924 ((s.rel)[i]!.t)) ?_;refine ar ?_;refine ed (fun hc1=>?_) fun hc1=>?_
  .refine aH ?_;refine bG ?_;rw[hr,aN ah];rcases hc1 with h|h<;>simp only[h,Bool.and_false,Bool.false_and]
  refine ar ?_;refine ba (hb:=fun hf=>by first|omega|(simp at hf;omega)) ?_;refine ar ?_;exact⟨i+1,⟨ah,by rw[hr,aN ah];simp_all⟩,ah,(du [(0,0)])⟩
 refine aF ?_;refine az (v:=.sl 14 ((s.rel).map Span.D)) ?_;refine ak (hc:=h925 (s.rel) ?_) ?_;rotate_left;first|assumption|omega|(grind [Cut.sm,Span.sm,bQ.sm,bR,aq,Want.sm,dA.sm,cQ.sm,bZ.sm])
 refine av ?_;refine az (v:=.sl 14 ((s.pr).map Span.D)) ?_;refine bK (hc:=fun hf=>h925 (s.pr) ?_) ?_;rotate_left;first|assumption|omega|(grind [Cut.sm,Span.sm,bQ.sm,bR,aq,Want.sm,dA.sm,cQ.sm,bZ.sm])
 refine aF ?_;refine bG ?_;rw[hr,b7 ah];simp
noncomputable def QR:ax:=b8 104
def w712 {Y:Ctx}(hm:(Y.at 0).cj)(h209:uA Y)(h780:SA Y)(h861:XT Y)(s:bQ)(v:aQ)  (hp0:s.sm/\v.sm):dh Y QR (.bool (pd s v)) [bQ.D s,aQ.D v]:=by
 show bO _ _ _ [⟨_,_⟩,⟨_,_⟩,_,_,_,_,_] _;refine ai ?_;refine aH ?_;refine bo (d:=bQ.D s) ?_;refine ak (hc:=h780 (s) ?_) ?_;rotate_left;first|assumption|omega|(grind [Cut.sm,Span.sm,bQ.sm,bR,aq,Want.sm,dA.sm,cQ.sm,bZ.sm])
 refine av ?_;refine bo (d:=aQ.D v) ?_;refine bK (hc:=fun hf=>h209 (v) ?_) ?_;rotate_left;first|assumption|omega|(grind [Cut.sm,Span.sm,bQ.sm,bR,aq,Want.sm,dA.sm,cQ.sm,bZ.sm])
 refine ar ?_;refine cd (fun hc0=>?_) fun hc0=>?_
 .refine aD ?_;refine bG ?_;first|(grind [pd];done)|(simp_all[pd];done)
 refine aF ?_;refine az (v:=.str v.pre) ?_;refine av ?_;refine cd (fun hc1=>?_) fun hc1=>?_
 .refine ar ?_;refine az (v:=.sl 14 ((s.rel).map Span.D)) ?_;refine bo (d:=aQ.D v) ?_;refine ak (hc:=h861 (s.rel) (v) ?_) ?_;rotate_left;first|assumption|omega|(grind [Cut.sm,Span.sm,bQ.sm,bR,aq,Want.sm,dA.sm,cQ.sm,bZ.sm])
  refine ar ?_;refine bG ?_;first|(grind [pd];done)|(simp_all[pd];done)
 refine ar ?_;refine az (v:=.sl 14 ((s.pr).map Span.D)) ?_;refine bo (d:=aQ.D v) ?_;refine ak (hc:=h861 (s.pr) (v) ?_) ?_;rotate_left;first|assumption|omega|(grind [Cut.sm,Span.sm,bQ.sm,bR,aq,Want.sm,dA.sm,cQ.sm,bZ.sm])
 refine ar ?_;refine bG ?_;first|(grind [pd];done)|(simp_all[pd];done)
noncomputable def Fu:ax:=b8 55
def w349  (s:aU)   :dh Y Fu (.bool (fj s)) [.str s]:=by
 show bO _ _ _ [⟨_,_⟩,_,_,_,_,_,_,_] _;refine ai ?_;refine dj ?_;refine j6 ?_;refine ar ?_;refine cd (fun hc0=>?_) fun hc0=>?_
 .refine aD ?_;refine bG ?_;symm;simp only[fj,ey,dn];rcases hc0 with h|h
  .subst h;exact Or.inl (Or.inl bg)
  .exact Or.inl ah
 refine aH ?_;have hP:fj s=cF (fun i=>Ay (at8 s i)) 0 s.length:=by
  have:=List.length_pos_iff.2 hc0.1;simp only[fj];rw[cX ah,cX ah];rfl
 refine a7 hm (ι:=Nat) (fun i=>[⟨true,.str s⟩,.un,.un,⟨true,.it 9⟩,.un,.un,.un,.un]) (fun i=>[(9,.iter s i)]) 10 (fun i=>i<=s.length/\fj s=cF (fun i=>Ay (at8 s i)) i s.length) (fun i=>s.length-i) 0 ⟨ah,hP⟩ (du [(9,9)]) ?_;rintro i ⟨hi,hr⟩;refine aw ?_;by_cases hnx:i<s.length
 .obtain⟨c,w,hdec,hw,hcw⟩:=rQ s i hnx;refine BJ c w (hp:=hnx) (hc:=hdec) ?_;refine av ?_;refine bC (t:=true) (fun _=>?_) (fun h=>by cases h);refine Jy ?_;refine cd (fun hc2=>?_) fun hc2=>?_
  .refine aw ?_;refine ed (fun hc4=>?_) fun hc4=>?_
   .refine aF ?_;obtain⟨rfl,hat,-⟩:w=1/\(c:Int)=at8 s i/\c<128:=by
     rcases hcw with h|h
     .exact h
     .omega
    have hz:Ay (at8 s i)=true:=by
     simp only[Ay,iT,cn,dW,br,bU];omega
    exact⟨i+1,⟨ah,by rw[hr,aN hnx,hz];rfl⟩,ah,(du [(9,9)])⟩
   refine bF ?_;refine bG ?_;first
    |(exfalso;omega)
    |(rw[hr,b7 ah];done)
    |(
     have hz:Ay (at8 s i)=false:=by
      rcases hcw with⟨_,h,_⟩|⟨_,h⟩<;>(simp only[Ay,iT,cn,gA,ey,dn];omega)
     rw[hr,aN hnx,hz];rfl)
  refine k8 ?_;refine cd (fun hc3=>?_) fun hc3=>?_
  .refine aw ?_;refine ed (fun hc4=>?_) fun hc4=>?_
   .refine aF ?_;obtain⟨rfl,hat,-⟩:w=1/\(c:Int)=at8 s i/\c<128:=by
     rcases hcw with h|h
     .exact h
     .omega
    have hz:Ay (at8 s i)=true:=by
     simp only[Ay,iT,cn,dW,br,bU];omega
    exact⟨i+1,⟨ah,by rw[hr,aN hnx,hz];rfl⟩,ah,(du [(9,9)])⟩
   refine bF ?_;refine bG ?_;first
    |(exfalso;omega)
    |(rw[hr,b7 ah];done)
    |(
     have hz:Ay (at8 s i)=false:=by
      rcases hcw with⟨_,h,_⟩|⟨_,h⟩<;>(simp only[Ay,iT,cn,gA,ey,dn];omega)
     rw[hr,aN hnx,hz];rfl)
  refine aD ?_;refine ed (fun hc4=>?_) fun hc4=>?_
  .refine aF ?_;obtain⟨rfl,hat,-⟩:w=1/\(c:Int)=at8 s i/\c<128:=by
    rcases hcw with h|h
    .exact h
    .omega
   have hz:Ay (at8 s i)=true:=by
    simp only[Ay,iT,cn,dW,br,bU];omega
   exact⟨i+1,⟨ah,by rw[hr,aN hnx,hz];rfl⟩,ah,(du [(9,9)])⟩
  refine bF ?_;refine bG ?_;first
   |(exfalso;omega)
   |(rw[hr,b7 ah];done)
   |(
    have hz:Ay (at8 s i)=false:=by
     rcases hcw with⟨_,h,_⟩|⟨_,h⟩<;>(simp only[Ay,iT,cn,gA,ey,dn];omega)
    rw[hr,aN hnx,hz];rfl)
 .refine BI (hp:=hnx) ?_;refine av ?_;refine bC (t:=false) (fun h=>by cases h) (fun _=>?_);refine aH ?_;refine bG ?_;first
   |(exfalso;omega)
   |(rw[hr,b7 ah];done)
   |(
    have hz:Ay (at8 s i)=false:=by
     rcases hcw with⟨_,h,_⟩|⟨_,h⟩<;>(simp only[Ay,iT,cn,gA,ey,dn];omega)
    rw[hr,aN hnx,hz];rfl)
noncomputable def Ft:ax:=b8 100
def w208  (s:aU)   :dh Y Ft (.bool (fS s)) [.str s]:=by
 show bO _ _ _ [⟨_,_⟩,_,_,_,_,_,_,_,_,_,_,_,_] _;refine ai ?_;refine dj ?_;refine j6 ?_;refine ar ?_;refine cd (fun hc0=>?_) fun hc0=>?_
 .refine aD ?_;refine bG ?_;symm;simp only[fS];rcases hc0 with h|h
  .subst h;simp
  .rw[dx (by omega:¬s.length<=16)];simp
 refine aH ?_;have h0:=List.length_pos_iff.2 hc0.1;have hP:=Ql s ah ah;refine a7 hm (ι:=Nat) (fun i=>[⟨true,.str s⟩,.un,.un,⟨true,.it 9⟩,.un,.un,.un,.un,.un,.un,.un,.un,.un]) (fun i=>[(9,.iter s i)]) 10 (fun i=>i<=s.length/\fS s=cF (mL s) i s.length) (fun i=>s.length-i) 0 ⟨ah,hP⟩ (du [(9,9)]) ?_;rintro i ⟨hi,hr⟩;refine aw ?_;by_cases hnx:i<s.length
 .obtain⟨c,w,hdec,hw,hcw⟩:=rQ s i hnx;refine BJ c w (hp:=hnx) (hc:=hdec) ?_;refine av ?_;refine bC (t:=true) (fun _=>?_) (fun h=>by cases h);refine OY ?_;refine ed (fun hc2=>?_) fun hc2=>?_
  .refine aF ?_;obtain⟨rfl,hat,-⟩:w=1/\(c:Int)=at8 s i/\c<128:=by
    rcases hcw with h|h
    .exact h
    .omega
   have hz:mL s i=true:=by
    simp only[mL,iT,cn,dW,br,cW,bU,dn];omega
   exact⟨i+1,⟨ah,by rw[hr,aN hnx,hz];rfl⟩,ah,(du [(9,9)])⟩
  refine eW ?_;refine ed (fun hc3=>?_) fun hc3=>?_
  .refine aF ?_;refine ed (fun hc4=>?_) fun hc4=>?_
   .refine bF ?_;refine bG ?_;first
     |(exfalso;omega)
     |(rw[hr,b7 ah];done)
     |(have hz:mL s i=false:=by
        rcases hcw with⟨_,h,_⟩|⟨_,h⟩<;>(simp only[mL,iT,cn,gA,ey,dS,bU,dn];omega)
       rw[hr,aN hnx,hz];rfl)
   refine aF ?_;obtain⟨rfl,hat,-⟩:w=1/\(c:Int)=at8 s i/\c<128:=by
    rcases hcw with h|h
    .exact h
    .omega
   have hz:mL s i=true:=by
    simp only[mL,iT,cn,dW,br,cW,bU,dn];omega
   exact⟨i+1,⟨ah,by rw[hr,aN hnx,hz];rfl⟩,ah,(du [(9,9)])⟩
  refine aD ?_;refine ed (fun hc5=>?_) fun hc5=>?_
  .refine aH ?_;refine j6 ?_;refine bF ?_;refine xY (i-1) ?_;refine ar ?_;refine ed (fun hc6=>?_) fun hc6=>?_
   .refine bF ?_;refine bG ?_;first
     |(exfalso;omega)
     |(rw[hr,b7 ah];done)
     |(have hz:mL s i=false:=by
        rcases hcw with⟨_,h,_⟩|⟨_,h⟩<;>(simp only[mL,iT,cn,gA,ey,dS,bU,dn];omega)
       rw[hr,aN hnx,hz];rfl)
   refine aF ?_;obtain⟨rfl,hat,-⟩:w=1/\(c:Int)=at8 s i/\c<128:=by
    rcases hcw with h|h
    .exact h
    .omega
   have hz:mL s i=true:=by
    simp only[mL,iT,cn,dW,br,cW,bU,dn];omega
   exact⟨i+1,⟨ah,by rw[hr,aN hnx,hz];rfl⟩,ah,(du [(9,9)])⟩
  refine bF ?_;refine bG ?_;first
   |(exfalso;omega)
   |(rw[hr,b7 ah];done)
   |(have hz:mL s i=false:=by
      rcases hcw with⟨_,h,_⟩|⟨_,h⟩<;>(simp only[mL,iT,cn,gA,ey,dS,bU,dn];omega)
     rw[hr,aN hnx,hz];rfl)
 .refine BI (hp:=hnx) ?_;refine av ?_;refine bC (t:=false) (fun h=>by cases h) (fun _=>?_);refine aH ?_;refine bG ?_;first
   |(exfalso;omega)
   |(rw[hr,b7 ah];done)
   |(have hz:mL s i=false:=by
      rcases hcw with⟨_,h,_⟩|⟨_,h⟩<;>(simp only[mL,iT,cn,gA,ey,dS,bU,dn];omega)
     rw[hr,aN hnx,hz];rfl)
noncomputable def Bc:ax:=b8 129
def w658  (s:aU)   :dh Y Bc (.tup [.int .i64 (tt s),.bool (kD s)]) [.str s]:=by
 show bO _ _ _ [⟨_,_⟩,_,_,_,_,_,_,_,_,_] _;refine ai ?_;refine eW ?_;refine j6 ?_;refine aF ?_;refine xY 0 (hb:=fun h=>by simp at h;exact List.length_pos_iff.2 h.1) ?_;refine ar ?_;refine j6 ?_;refine aF ?_;refine cd (fun hc0=>?_) fun hc0=>?_
 .refine aH ?_;refine cy (ct (aC (D.int .i64) ?_) (aC D.bool ?_));all_goals
   have:kD s=false:=by
    rw[M6];rcases hc0 with(h|h)|h
    .subst h;simp
    .rw[dx (by omega:¬s.length<=4)];simp
    .rw[cX (by omega:1<s.length),cX h.1];simp
   simp[tt,this]
 refine eW ?_;have h0:=List.length_pos_iff.2 hc0.1.1;have hP:kD s=cF (fun i=>cn (at8 s i)) 0 s.length:=by
  rw[M6,cX (by omega:1<=s.length),cX (by omega:s.length<=4)];rcases hc0.2 with h|h
  .rw[dx h,Bool.and_false];rfl
  .rw[dx (by omega:¬1<s.length)];rfl
 refine a7 hm (ι:=Nat) (fun i=>[⟨true,.str s⟩,.un,.un,.un,⟨true,.it 21⟩,.un,.un,.un,.un,⟨true,.int .i64 (eN (s.take i):Nat)⟩]) (fun i=>[(21,.iter s i)]) 22 (fun i=>i<=s.length/\s.length<=4/\kD s=cF (fun i=>cn (at8 s i)) i s.length) (fun i=>s.length-i) 0 ⟨ah,ah,hP⟩ (du [(21,21)]) ?_;rintro i ⟨hi,h9,hr⟩;refine aw ?_;by_cases hnx:i<s.length
 .obtain⟨c,w,hdec,hw,hcw⟩:=rQ s i hnx;refine BJ c w (hp:=hnx) (hc:=hdec) ?_;refine av ?_;refine bC (t:=true) (fun _=>?_) (fun h=>by cases h);refine OX ?_;refine ed (fun hc2=>?_) fun hc2=>?_
  .refine aw ?_;obtain⟨rfl,hat,-⟩:w=1/\(c:Int)=at8 s i/\c<128:=by
    rcases hcw with h|h
    .exact h
    .omega
   have hn:=sc s i ah;have hn2:=ug s i ah;have h256:=AN s i;refine aw ?_;refine HK ?_;refine aw ?_;refine BK ((c:Int) -48) (hb:=fun _=>IntWalk.i32_in _ ah) ?_;refine pA ((c:Int) -48) (hb:=fun _=>IntWalk.i64_in _ ah) ?_;refine ar ?_;rw[show 10*(eN (s.take i):Int)+((c:Int) -48)=(eN (s.take (i+1)):Nat)by omega];refine ar ?_;have hz:cn (at8 s i)=true:=by
    simp only[cn,br,bU];omega
   exact⟨i+1,⟨ah,h9,by rw[hr,aN ah,hz];rfl⟩,ah,(du [(21,21)])⟩
  refine dj ?_;refine cy (ct (aC (D.int .i64) ?_) (aC D.bool ?_));all_goals
   have hz:cn (at8 s i)=false:=by
    rcases hcw with⟨_,h,_⟩|⟨_,h⟩<;>(simp only[cn,ey,dn];omega)
   have:kD s=false:=by rw[hr,aN ah,hz];rfl
   simp[tt,this]
 .refine BI (hp:=hnx) ?_;refine av ?_;refine bC (t:=false) (fun h=>by cases h) (fun _=>?_);refine k8 ?_;refine cy (ct (aC (D.int .i64) ?_) (aC D.bool ?_));all_goals
   have this:kD s=true:=by rw[hr,b7 ah]
   have ht:s.take i=s:=gY ah;have h9:=this;simp only[kD,br,bU]at h9;have h99:=h9.2;rw[ht];first
   |(simp only[tt,this];rfl)
   |(rw[this,bU];omega)
noncomputable def Ez:ax:=b8 93
def w441 (h442:Sc Y)(h533:Lm Y)(h658:Pk Y)(h659:Ss Y)(s:aU)  (hp0:s.length<=1048576):dh Y Ez (.bool (nu s true)) [.str s]:=by
 show bO _ _ _ [⟨_,_⟩,_,_,_,_,_,_,_,_,_] _;refine ai ?_;refine aD ?_;refine ak (hc:=h442 _ ?_) ?_;rotate_left;first|assumption|omega
 refine av ?_;refine bC (fun hc0=>?_) (fun hc0=>?_)
 .simp only[cW]at hc0;refine aD ?_;refine bG ?_;symm;simp only[nu]at hc0⊢;rw[ey]at hc0⊢;rcases hc0 with h|h
  .exact Or.inl h
  .right;rw[Bool.eq_false_iff]at h⊢;intro h2;apply h;rw[dL]at h2⊢;intro j a b;have:=h2 j a b;simp only[ie,br]at this⊢;exact⟨this.1,rfl⟩
 simp only[dS]at hc0;refine aF ?_;refine ak (hc:=h533 _ _ ?_) ?_;rotate_left;first|assumption|omega;have hlen:=n8 s 46
 refine aw ?_;intro u0;refine av ?_;have hT:=hc0;simp only[nu,br,bU]at hT;obtain⟨hT4,hTa⟩:=hT;rw[dL]at hTa;have hP:nu s true=cF (fun i=>ie true (bE s 46)[i]!) 0 (bE s 46).length:=by
  simp only[nu];rw[cX hT4];rfl
 refine a7 hm (ι:=Nat) (fun i=>[.un,.un,.un,⟨true,.int .i64 (i:Nat)⟩,⟨true,.int .i64 ((bE s 46).length:Nat)⟩,.un,⟨true,.sl 1 ((bE s 46).map D.str)⟩,.un,.un,.un]) (fun i=>[]) 8 (fun i=>i<=(bE s 46).length/\nu s true=cF (fun i=>ie true (bE s 46)[i]!) i (bE s 46).length) (fun i=>(bE s 46).length-i) 0 ⟨ah,hP⟩ (du []) ?_;rintro i ⟨hi,hr⟩;refine ar ?_;refine cd (fun hc1=>?_) fun hc1=>?_
 .refine eW ?_;refine ak (hc:=h658 _) ?_;refine dj ?_;refine ak (hc:=h659 _) ?_;refine aD ?_;refine wp_cond (fun hc2=>?_) (fun hc2=>?_)
  .skip
   refine aH ?_;refine bG ?_;have hz:ie true (bE s 46)[i]! =false:=by
    simp only[ie];revert hc2;generalize qk (bE s 46)[i]! =c;generalize cV (bE s 46)[i]! =a;generalize kD (bE s 46)[i]! =b;cases a<;>cases b<;>cases c<;>simp
   rw[hr,aN ah,hz];rfl
  skip
  refine bF ?_;have hz:ie true (bE s 46)[i]! =true:=by
   have:=hTa i ah ah;simp only[ie,Bool.false_and,Bool.not_false,fh]at this;simp only[ie,this];revert hc2;generalize cV (bE s 46)[i]! =a;generalize kD (bE s 46)[i]! =b;cases a<;>cases b<;>simp
  exact⟨i+1,⟨ah,by rw[hr,aN ah,hz];rfl⟩,ah,(du [])⟩
 refine aH ?_;refine bG ?_;rw[hr,b7 ah]
noncomputable def Ey:ax:=b8 49
def w209 {Y:Ctx}(hm:(Y.at 0).cj)(h440:WQ Y)(h441:WR Y)(h442:Sc Y)(v:aQ)  (hp0:v.sm):dh Y Ey (.bool (fE v)) [aQ.D v]:=by
 show bO _ _ _ [⟨_,_⟩,_,_] _;refine ai ?_;refine aH ?_;refine ak (hc:=h440 _) ?_;refine ar ?_;refine ak (hc:=h440 _) ?_;refine aF ?_;refine ak (hc:=h440 _) ?_;refine dj ?_;refine bK (hc:=fun hf=>h441 v.pre hp0.1) ?_;refine eW ?_;refine bK (hc:=fun hf=>h442 v.build hp0.2) ?_;refine aD ?_;exact bG rfl
noncomputable def Bb:ax:=b8 200
def w665 {Y:Ctx}(hm:(Y.at 0).cj)(h336:WA Y)(n:Int)  (hp0:0<=n/\n<=9999):dh Y Bb (.str (jC n.toNat)) [.int .i64 n]:=by
 show bO _ _ _ [⟨_,_⟩,_] _;refine ai ?_;refine aF ?_;refine ak (hc:=h336 _ ?_) ?_;rotate_left;first|assumption|omega
 refine ar ?_;exact lW rfl
noncomputable def zb:ax:=b8 178
def w451 {Y:Ctx}(hm:(Y.at 0).cj)(h209:uA Y)(h665:Sv Y)(v:aQ)  (hp0:v.sm):dh Y zb (.str (oH v)) [aQ.D v]:=by
 show bO _ _ _ [⟨_,_⟩,_,_,_,_,_,_] _;obtain⟨hs1,hs2⟩:=hp0;have hp0:v.sm:=⟨hs1,hs2⟩;refine ai ?_;refine aH ?_;refine ak (hc:=h209 _ ?_) ?_;rotate_left;first|assumption|omega
 refine av ?_;refine bC (fun hc0=>?_) (fun hc0=>?_)
 .simp only[cW]at hc0;refine aD ?_;refine lW ?_;simp[oH,hc0]
 simp only[dS]at hc0;refine av ?_;have hv:=hc0;simp only[fE,br]at hv;obtain⟨⟨⟨⟨hv1,hv2⟩,hv3⟩,_⟩,_⟩:=hv;have hq1:=hv1;have hq2:=hv2;have hq3:=hv3;simp only[o8,br,bU]at hq1 hq2 hq3;have hl1:=gh 4 v.major.toNat ah ah;have hl2:=gh 4 v.minor.toNat ah ah;have hl3:=gh 4 v.patch.toNat ah ah;refine av ?_;refine ak (hc:=h665 _ ?_) ?_;rotate_left;first|assumption|omega
 refine eF (hb:=fun _=>dH) ?_;refine av ?_;refine ak (hc:=h665 _ ?_) ?_;rotate_left;first|assumption|omega
 refine eF (hb:=fun _=>dH) ?_;refine eF (hb:=fun _=>dH) ?_;refine av ?_;refine ak (hc:=h665 _ ?_) ?_;rotate_left;first|assumption|omega
 refine eF (hb:=fun _=>dH) ?_;refine dj ?_;refine cd (fun hc1=>?_) fun hc1=>?_
 .refine aF ?_;refine eF (hb:=fun _=>dH) ?_;refine eF (hb:=fun _=>dH) ?_;refine dj ?_;refine cd (fun hc2=>?_) fun hc2=>?_
  .refine aF ?_;refine eF (hb:=fun _=>dH) ?_;refine eF (hb:=fun _=>dH) ?_;refine bF ?_;refine lW ?_;simp[oH,za,hc0,hc1,hc2]
  refine aH ?_;refine lW ?_;simp[oH,za,hc0,hc1,hc2]
 refine bF ?_;refine cd (fun hc2=>?_) fun hc2=>?_
 .refine aF ?_;refine eF (hb:=fun _=>dH) ?_;refine eF (hb:=fun _=>dH) ?_;refine bF ?_;refine lW ?_;simp[oH,za,hc0,hc1,hc2]
 refine aH ?_;refine lW ?_;simp[oH,za,hc0,hc1,hc2]
noncomputable def nX:ax:=b8 158
def w463 {Y:Ctx}(hm:(Y.at 0).cj)  (h:Int)(k:Nat)  (hp0:k=13):dh Y nX (.int .u64 (Vu h k)) [.int .u64 h,.int .i64 (k:Nat)]:=by
 show bO _ _ _ [⟨_,_⟩,⟨_,_⟩,_,_] _;subst hp0;refine ai ?_;refine aF ?_;refine pA 13 (hb:=fun _=>by rw[IntKind.wrap_u64];rfl) ?_;refine FQ 13 (hb:=fun _=>by rw[IntKind.wrap_u64];rfl) ?_;refine aD ?_;refine RF (Ol h 13) (hb:=fun _=>by rw[show min (Int.toNat (13:Int)) (IntKind.bits .u64)=13 by simp[IntKind.bits]];rfl) ?_;refine av ?_;refine BK 51 (hb:=fun _=>by rw[IntKind.wrap_u64];rfl) ?_;refine zS (Ag h 51) (hb:=fun _=>by rw[show min (Int.toNat (51:Int)) (IntKind.bits .u64)=51 by simp[IntKind.bits]];rfl) ?_;refine RB (Vu h 13) (hb:=fun _=>rfl) ?_;refine ar ?_;refine cy (aC (D.int .u64) ?_);rfl
noncomputable def Fh:ax:=b8 134
def w220 (h463:W4 Y)(s:aU)   :dh Y Fh (.int .u64 (KZ s)) [.sl 1 ((s).map fun b=>D.int .u8 b.toNat)]:=by
 show bO _ _ _ [⟨_,_⟩,_,_,_,_,_,_,_] _;refine ai ?_;refine eW ?_;intro u0;refine av ?_;refine a7 hm (ι:=Nat) (fun i=>[.un,.un,⟨true,.int .i64 (i:Nat)⟩,⟨true,.int .i64 (s.length:Nat)⟩,.un,⟨true,.sl 1 (s.map fun b=>D.int .u8 b.toNat)⟩,⟨true,.int .u64 (tJ (s.take i))⟩,.un]) (fun i=>[]) 5 (fun i=>i<=s.length) (fun i=>s.length-i) 0 ah (du []) ?_;intro i hi;refine ar ?_;refine cd (fun hc0=>?_) fun hc0=>?_
 .refine aF ?_;refine aW (v:=.int .u8 (at8 s i)) (hv:=fun _=>ld8 s i) ?_;refine aD ?_;refine pA (at8 s i) (hb:=fun _=>by have:=AN s i;rw[IntKind.wrap_u64];omega) ?_;refine BG (H2 (tJ (s.take i)) (at8 s i)) (hb:=fun _=>rfl) ?_;refine ak (hc:=h463 _ 13 rfl) ?_;refine NO (tJ (s.take (i+1))) (hb:=fun _=>by rw[An s i ah];rfl) ?_;refine dj ?_;exact⟨i+1,ah,ah,(du [])⟩
 refine ar ?_;have ht:s.take i=s:=gY ah;rw[ht];refine av ?_;refine zS (Ag (tJ s) 29) (hb:=fun _=>rfl) ?_;refine BG (KZ s) (hb:=fun _=>rfl) ?_;refine ar ?_;refine cy (aC (D.int .u64) ?_);rfl
noncomputable def Ge:ax:=b8 85
def w696  (w:bZ)(a:aU)(b:aU)   :dh Y Ge (.int .i64 (gw w.us a b)) [bZ.D w,.str a,.str b]:=by
 show bO _ _ _ [⟨_,_⟩,⟨_,_⟩,⟨_,_⟩,_,_,_,_,_] _;refine ai ?_;refine bF ?_;refine a7 hm (ι:=Nat) (fun i=>[.un,⟨true,.str a⟩,⟨true,.str b⟩,.un,⟨true,.int .i64 (i:Nat)⟩,⟨true,.ptr 0 1 0 0⟩,.un,.un]) (fun i=>[(0,.buf 1 [bZ.D w])]) 3 (fun i=>1<=i/\gw w.us a b=ju (lj a b) (w.us.drop i) i) (fun i=>w.us.length-i) 1 ⟨ah,rfl⟩ (du [(0,0)]) ?_;rintro i ⟨hi,hr⟩;refine aF ?_;refine az (v:=.sl 3 ((w.us).map cQ.D)) ?_;refine aw ?_;intro u0;refine av ?_;refine cd (fun hc0=>?_) fun hc0=>?_
 .refine aF ?_;refine az (v:=.sl 3 ((w.us).map cQ.D)) ?_;refine aw ?_;refine aV (i) (hj:=fun hf=>by first|omega|(simp at hf;omega)) (hb:=fun hf=>by first|omega|(simp at hf;omega)) ?_;refine aw ?_;refine aW (v:=.str (w.us)[i]!.name) (hi:=fun hf=>by first|omega|(simp at hf;omega)) ?_;refine aF ?_;refine az (v:=.sl 3 ((w.us).map cQ.D)) ?_;refine aw ?_;refine aV (i) (hj:=fun hf=>by first|omega|(simp at hf;omega)) (hb:=fun hf=>by first|omega|(simp at hf;omega)) ?_;refine aw ?_;refine aW (v:=.str (w.us)[i]!.feat) (hi:=fun hf=>by first|omega|(simp at hf;omega)) ?_;refine aF ?_;refine ed (fun hc1=>?_) fun hc1=>?_
  .refine bF ?_;refine cq ?_;rw[hr,lJ ah (ZQ hc1)]
  refine aF ?_;refine ba (hb:=fun hf=>by first|omega|(simp at hf;omega)) ?_;refine ar ?_;exact⟨i+1,⟨ah,by rw[hr,jY ah (ZP hc1)]⟩,ah,(du [(0,0)])⟩
 refine aH ?_;refine cq ?_;rw[hr,mZ ah]
def D1:ax:={np:=4,ns:=11,res:=[⟨4,none⟩],rsh:=[[.a]],body:=(.seq (.reg false [⟨.box 1 (.s 0),none⟩,⟨.box 5 (.s 2),none⟩,⟨.mv (.c (.int .i64 0)),none⟩] [(6,0),(9,1),(4,2)]) (.seq (.seq (.reg false [⟨.mv (.c (.int .i64 0)),none⟩] [(5,0)]) (.block 0 (.loop (.seq (.seq (.reg false [⟨.mv (.s 1),none⟩,⟨.bin .geq (.l 0) (.c (.int .i64 0)),none⟩,⟨.mv (.l 1),none⟩,⟨.mv (.s 5),some (2,true)⟩,⟨.fa 0 (.s 6),some (2,true)⟩,⟨.ld 1 false (.l 4),some (2,true)⟩,⟨.mv (.s 1),some (2,true)⟩,⟨.ia 3 (.l 5) (.l 6),some (2,true)⟩,⟨.fa 2 (.l 7),some (2,true)⟩,⟨.ld 1 false (.l 8),some (2,true)⟩,⟨.len (.l 9),some (2,true)⟩,⟨.bin .lss (.l 3) (.l 10),some (2,true)⟩,⟨.pick (.l 2) (.l 11) (.c (.bool false)),none⟩] [(7,12)]) (.cond (.s 7) .skip (.exit 0))) (.seq (.block 1 (.seq (.reg false [⟨.fa 0 (.s 6),none⟩,⟨.ld 1 false (.l 0),none⟩,⟨.mv (.s 1),none⟩,⟨.ia 3 (.l 1) (.l 2),none⟩,⟨.fa 2 (.l 3),none⟩,⟨.ld 1 false (.l 4),none⟩,⟨.mv (.s 5),none⟩,⟨.ia 8 (.l 5) (.l 6),none⟩,⟨.fa 0 (.l 7),none⟩,⟨.ld 5 true (.l 8),none⟩,⟨.box 5 (.c (.agg [.int .i64 0,.int .i64 0,.int .i64 0,.str [],.str []])),none⟩,⟨.st 5 (.l 10) (.l 9),none⟩] [(8,10)]) (.seq (.reg false [⟨.mv (.s 3),none⟩,⟨.mv (.l 0),none⟩,⟨.ld 5 true (.s 8),some (1,true)⟩,⟨.ld 5 true (.s 9),some (1,true)⟩,⟨.eqA false true [.i .i64,.i .i64,.i .i64,.s,.s] (.l 2) (.l 3),some (1,true)⟩,⟨.pick (.l 1) (.l 4) (.c (.bool false)),none⟩,⟨.mv (.l 5),none⟩,⟨.mv (.s 3),some (6,false)⟩,⟨.un .not (.l 7),some (6,false)⟩,⟨.mv (.l 8),some (6,false)⟩,⟨.ld 5 true (.s 8),some (9,true)⟩,⟨.ld 5 true (.s 9),some (9,true)⟩,⟨.call 424 [(.l 10),(.l 11)] [[.a,.a,.a,.a,.a],[.a,.a,.a,.a,.a]],some (9,true)⟩,⟨.bin .eql (.l 12) (.c (.int .i64 0)),some (9,true)⟩,⟨.pick (.l 9) (.l 13) (.c (.bool false)),some (6,false)⟩,⟨.pick (.l 6) (.c (.bool true)) (.l 14),none⟩] [(10,15)]) (.cond (.s 10) (.seq (.reg false [⟨.mv (.s 5),none⟩,⟨.mv (.l 0),none⟩] [(4,1)]) .ret) .skip)))) (.reg false [⟨.mv (.s 5),none⟩,⟨.bin .add (.l 0) (.c (.int .i64 1)),none⟩,⟨.mv (.l 1),none⟩] [(5,2)])))))) (.seq (.reg false [⟨.mv (.c (.int .i64 (-1))),none⟩] [(4,0)]) .ret)))}
def w697 (h424:JD Y)(w:bZ)(u:Int)(v:aQ)(whole:Bool)  (hp0:(w.sm/\v.sm)/\u<w.us.length):dh Y D1 (.int .i64 (kE w.us u v whole)) [bZ.D w,.int .i64 u,aQ.D v,.bool whole]:=by
 show bO _ _ _ [⟨_,_⟩,⟨_,_⟩,⟨_,_⟩,⟨_,_⟩,_,_,_,_,_,_,_] _;refine ai ?_;refine dj ?_;refine a7 hm (ι:=Nat) (fun i=>[.un,⟨true,.int .i64 u⟩,.un,⟨true,.bool whole⟩,.un,⟨true,.int .i64 (i:Nat)⟩,⟨true,.ptr 0 1 0 0⟩,.un,.un,⟨true,.ptr 1 5 0 0⟩,.un]) (fun i=>[(0,.buf 1 [bZ.D w]),(1,.buf 5 [aQ.D v])]) 4 (fun i=>(0<=u->i<=w.us[u.toNat]!.cands.length)/\kE w.us u v whole=if u<0 then-1 else ju (EU v whole) (w.us[u.toNat]!.cands.drop i) i) (fun i=>w.us[u.toNat]!.cands.length-i) 0 ⟨fun _=>Nat.zero_le _,rfl⟩ (du [(0,0),(1,1)]) ?_;rintro i ⟨hi,hr⟩;refine bF ?_;refine az (v:=.sl 3 ((w.us).map cQ.D)) ?_;refine aw ?_;refine aV u.toNat (hj:=fun hf=>by have hf:0<=u:=(by simpa only[eJ,beq_iff_eq,bU]using hf);omega) (hb:=fun hf=>by have hf:0<=u:=(by simpa only[eJ,beq_iff_eq,bU]using hf);omega) ?_;refine aw ?_;refine aW (v:=.sl 8 (w.us[u.toNat]!.cands.map dA.D)) (hi:=fun hf=>by have hf:0<=u:=(by simpa only[eJ,beq_iff_eq,bU]using hf);omega) ?_;refine j6 ?_;refine ar ?_;refine cd (fun hc0=>?_) fun hc0=>?_
 .refine ar ?_;have hun:=hp0.1.1 _ (aq (show u.toNat<w.us.length by omega));have h16:w.us[u.toNat]!.cands.length<=16:=hun.1;have hvi:=(hun.2 _ (aq (show i<w.us[u.toNat]!.cands.length by omega))).1;refine aw ?_;refine az (v:=.sl 3 ((w.us).map cQ.D)) ?_;refine aw ?_;refine aV u.toNat (hj:=fun _=>ah) (hb:=fun _=>ah) ?_;refine aw ?_;refine aW (v:=.sl 8 (w.us[u.toNat]!.cands.map dA.D)) (hi:=fun _=>ah) ?_;refine aw ?_;refine aV (i) (hj:=fun hf=>by first|omega|(simp at hf;omega)) (hb:=fun hf=>by first|omega|(simp at hf;omega)) ?_;refine aw ?_;refine aW (v:=aQ.D ((w.us[u.toNat]!.cands)[i]!.v)) (hi:=fun hf=>by first|omega|(simp at hf;omega)) ?_;refine aw ?_;refine bD (aQ.D ((w.us[u.toNat]!.cands)[i]!.v)) (he:=bm) ?_;refine aF ?_;refine bo (d:=aQ.D ((w.us[u.toNat]!.cands)[i]!.v)) ?_;refine bo (d:=aQ.D v) ?_;refine xX (hb:=aQ.eq _ _) ?_;refine aD ?_;refine bo (d:=aQ.D ((w.us[u.toNat]!.cands)[i]!.v)) ?_;refine bo (d:=aQ.D v) ?_;refine bK (hc:=fun hf=>h424 ((w.us[u.toNat]!.cands)[i]!.v) (v) ?_) ?_;rotate_left;first|assumption|omega|(grind [Cut.sm,Span.sm,bQ.sm,bR,aq,Want.sm,dA.sm,cQ.sm,bZ.sm])
  refine aF ?_;refine ed (fun hc1=>?_) fun hc1=>?_
  .refine bF ?_;refine cq ?_;rw[hr,aj ah,lJ ah (ZS hc1)]
  refine aF ?_;refine ba (hb:=fun hf=>by first|omega|(simp at hf;omega)) ?_;refine ar ?_;exact⟨i+1,⟨fun _=>ah,by rw[hr,aj ah,aj ah,jY ah (ZR hc1)]⟩,ah,(du [(0,0),(1,1)])⟩
 refine aH ?_;refine cq ?_;rw[hr];split
 .rfl
 .rw[mZ ah]
noncomputable def D0:ax:=b8 125
def w508 {Y:Ctx}(hm:(Y.at 0).cj)(h695:XC Y)(s:cC)(nm:aU)(v:aQ)  (hp0:(∀x∈s.es,eC x.r)/\v.sm):dh Y D0 (.tup [gC.D (qi s nm v).1,.bool (qi s nm v).2]) [cC.D s,.str nm,aQ.D v]:=by
 show bO _ _ _ [⟨_,_⟩,⟨_,_⟩,⟨_,_⟩,_,_,_,_,_,_] _;refine ai ?_;refine aH ?_;refine bo (d:=cC.D s) ?_;refine aw ?_;refine bo (d:=aQ.D v) ?_;refine ak (hc:=h695 (s) (nm) (v) ?_) ?_;rotate_left;first|assumption
 refine aF ?_;have hlm:=sX (s:=s) (nm:=nm) (v:=v);refine aD ?_;refine az (v:=.sl 11 ((s.es).map gC.D)) ?_;refine j6 ?_;refine ar ?_;refine cd (fun hc0=>?_) fun hc0=>?_
 .refine av ?_;refine cJ _ ?_;refine aF ?_;refine cy (?_);rw[show qi s nm v=(default,false)from ay ah];rfl
 refine av ?_;obtain⟨j,hj,hjl⟩:=hlm.resolve_left ah;refine aw ?_;refine az (v:=.sl 11 ((s.es).map gC.D)) ?_;refine aw ?_;refine aV j (hj:=fun _=>ah) (hb:=fun _=>ah) ?_;refine aW (v:=gC.D (s.es[j]!)) (hi:=fun hf=>by first|omega|(simp at hf;omega)) ?_;refine bD (gC.D s.es[j]!) (he:=bm) ?_;refine ar ?_;refine cy (?_);rw[show qi s nm v=(s.es[j]!,true)from by rw[qi,aj ah,hj];rfl];rfl
noncomputable def AY:ax:=b8 11
def w265 {Y:Ctx}(hm:(Y.at 0).cj)(h264:Pc Y)(h410:WM Y)(shop:List cC)(e:Env)(w:bZ)(l:gT)  (hp0:wB shop w l):dh Y AY (.tup [.int .i64 (qF shop e w l).1,.str (qF shop e w l).2]) [.sl 2 (shop.map cC.D),Env.D e,bZ.D w,gT.D l]:=by
 show bO _ _ _ [⟨_,_⟩,⟨_,_⟩,⟨_,_⟩,⟨_,_⟩,_,_,_,_,_,_,_,_,_,_,_] _;refine ai ?_;refine dj ?_;refine bo (d:=Env.D e) ?_;refine bo (d:=bZ.D w) ?_;refine bo (d:=gT.D l) ?_;refine ak (hc:=h264 shop e w l hp0) ?_;refine aw ?_;refine mw (.sl _ _) ?_;refine kK ?_;refine cd (fun hc0=>?_) fun hc0=>?_
 .refine dj ?_;refine cy (?_);rw[Re hc0];rfl
 refine ar ?_;have hcw:=Ha (l:=l) (e:=e) (shop:=shop) hp0.2.1 hc0;refine bo (d:=bZ.D w) ?_;refine aw ?_;refine ak (hc:=h410 (w) _ ?_) ?_;rotate_left;first|assumption|exact hcw.1
 refine aH ?_;intro u0;refine av ?_;refine cd (fun hc1=>?_) fun hc1=>?_
 .refine av ?_;have hun:=hcw.2.2 ah;refine aw ?_;refine az (v:=.sl 3 ((w.us).map cQ.D)) ?_;refine aw ?_;refine aV 0 (hj:=fun _=>ah) (hb:=fun _=>ah) ?_;refine aw ?_;refine aW (v:=.int .i64 (jL w (eR shop e w l).1)[0]!.unit) (hi:=fun _=>ah) ?_;refine aV (jL w (eR shop e w l).1)[0]!.unit.toNat (hj:=fun _=>ah) (hb:=fun _=>ah) ?_;refine aw ?_;refine aW (v:=.str w.us[(jL w (eR shop e w l).1)[0]!.unit.toNat]!.name) (hi:=fun _=>ah) ?_;refine aF ?_;refine cy (?_);rw[Rg hc0 ah];rfl
 refine aH ?_;refine cy (?_);rw[Rf hc0 ah];rfl
noncomputable def DZ:ax:=b8 21
def w272 {Y:Ctx}(hm:(Y.at 0).cj)(h52:C52 Y)(h186:R2 Y)(h271:R8 Y)(shop:List cC)(e:Env)(w:bZ)(l:gT)  (hp0:wB shop w l):dh Y DZ (.tup [.int .i64 (qF shop e w l).1,.str (qF shop e w l).2]) [.sl 2 (shop.map cC.D),Env.D e,bZ.D w,gT.D l]:=by
 show bO _ _ _ [⟨_,_⟩,⟨_,_⟩,⟨_,_⟩,⟨_,_⟩,_,_,_,_,_,_,_,_,_,_,_,_] _;refine ai ?_;refine dj ?_;refine bo (d:=Env.D e) ?_;refine bo (d:=bZ.D w) ?_;refine bo (d:=gT.D l) ?_;refine ak (hc:=h271 shop e w l hp0) ?_;refine aw ?_;refine mw (.sl _ _) ?_;refine kK ?_;refine cd (fun hc0=>?_) fun hc0=>?_
 .refine dj ?_;refine cy (?_);rw[Re hc0];rfl
 refine ar ?_;have hcw:=Ha (l:=l) (e:=e) (shop:=shop) hp0.2.1 hc0;refine bo (d:=bZ.D w) ?_;refine aw ?_;refine ak (hc:=h52 (w) _ ?_) ?_;rotate_left;first|assumption|exact hcw.1
 refine aw ?_;refine bC (fun hc1=>?_) (fun hc1=>?_)
 .have hz:(jL w (eR shop e w l).1).length=0:=by simpa[hcw.2.1]using hc1
  refine aH ?_;refine cy (?_);rw[Rf hc0 hz];rfl
 have hz:(jL w (eR shop e w l).1).length≠0:=by simpa[hcw.2.1]using hc1
 have hun:=hcw.2.2 ah;refine av ?_;refine bo (d:=bZ.D w) ?_;refine aw ?_;refine ak (hc:=h186 (w) _ ?_) ?_;rotate_left;first|assumption|exact hcw.1
 refine aD ?_;refine j6 ?_;refine ar ?_;refine aV 0 (hj:=fun _=>ah) (hb:=fun _=>ah) ?_;refine aw ?_;refine aW (v:=.int .i64 (jL w (eR shop e w l).1)[0]!.unit) (hi:=fun _=>ah) ?_;refine aF ?_;refine aV 0 (hj:=fun _=>ah) (hb:=fun _=>ah) ?_;refine aw ?_;refine aW (v:=.int .i64 (jL w (eR shop e w l).1)[0]!.unit) (hi:=fun _=>ah) ?_;refine aw ?_;refine az (v:=.sl 3 ((w.us).map cQ.D)) ?_;refine j6 ?_;refine ar ?_;refine cd (fun hc2=>?_) fun hc2=>?_
 .exact absurd hc2 ah
 refine ar ?_;refine az (v:=.sl 3 ((w.us).map cQ.D)) ?_;refine aw ?_;refine aV 0 (hj:=fun _=>ah) (hb:=fun _=>ah) ?_;refine aw ?_;refine aW (v:=.int .i64 (jL w (eR shop e w l).1)[0]!.unit) (hi:=fun _=>ah) ?_;refine aV (jL w (eR shop e w l).1)[0]!.unit.toNat (hj:=fun _=>ah) (hb:=fun _=>ah) ?_;refine aw ?_;refine aW (v:=.str w.us[(jL w (eR shop e w l).1)[0]!.unit.toNat]!.name) (hi:=fun _=>ah) ?_;refine aF ?_;refine cy (?_);rw[Rg hc0 hz];rfl
noncomputable def Df:ax:=b8 26
def w138 (h349:JB Y)(e:Env)   :dh Y Df (.bool (wQ e)) [Env.D e]:=by
 show bO _ _ _ [⟨_,_⟩,_,_,_,_,_,_,_] _;refine ai ?_;refine eW ?_;refine a7 hm (ι:=Nat) (fun i=>[.un,.un,⟨true,.ptr 0 3 0 0⟩,⟨true,.int .i64 (i:Nat)⟩,.un,⟨true,Env.D e⟩,.un,.un]) (fun i=>[(0,.buf 3 [Env.D e])]) 5 (fun i=>i<=3/\wQ e=cF (fun i=>decide (e.at i=[]) ||fj (e.at i)) i 3) (fun i=>3-i) 0 ⟨ah,rfl⟩ (du [(0,0)]) ?_;rintro i ⟨hi,hr⟩;refine ar ?_;refine cd (fun hc0=>?_) fun hc0=>?_
 .refine ar ?_;refine r_ixA i (.str (e.at i)) (hv:=fun _=>Env.cut e ah) ?_;refine bF ?_;refine ak (hc:=h349 _) ?_;refine ar ?_;refine wp_cond (fun hc1=>?_) (fun hc1=>?_)
  .simp only[br,cW,dn]at hc1;refine aH ?_;refine bG ?_;rw[hr,aN ah];rw[dx hc1.1,hc1.2];rfl
  simp only[ey,dS,bU]at hc1;refine bF ?_;exact⟨i+1,⟨ah,by rw[hr,aN ah];rw[show(decide (e.at i=[]) ||fj (e.at i))=true by rw[dW,bU];exact hc1];rfl⟩,ah,(du [(0,0)])⟩
 refine aH ?_;refine bG ?_;rw[hr,b7 ah]
noncomputable def yY:ax:=b8 56
def w553 (h208:Jz Y)(h209:uA Y)(h349:JB Y)(x:cU)  (hp0:x.sm):dh Y yY (.bool (r7 x)) [cU.D x]:=by
 show bO _ _ _ [⟨_,_⟩,_,_,_,_,_,_,_,_,_,_] _;refine ai ?_;refine eW ?_;intro u0;refine av ?_;refine a7 hm (ι:=Nat) (fun i=>[.un,.un,⟨true,.ptr 0 9 0 0⟩,⟨true,.int .i64 (i:Nat)⟩,⟨true,.int .i64 (x.feats.length:Nat)⟩,.un,⟨true,.sl 1 (x.feats.map D.str)⟩,.un,.un,.un,.un]) (fun i=>[(0,.buf 9 [cU.D x])]) 7 (fun i=>i<=x.feats.length/\cF (lH x.feats) 0 x.feats.length=cF (lH x.feats) i x.feats.length) (fun i=>x.feats.length-i) 0 ⟨ah,rfl⟩ (du [(0,0)]) ?_;rintro i ⟨hi,hr⟩;refine ar ?_;refine cd (fun hc0=>?_) fun hc0=>?_
 .refine kK ?_;refine ak (hc:=h349 _) ?_;refine k8 ?_;refine aV (i-1) ?_;refine aH ?_;refine ed (fun hc1=>?_) fun hc1=>?_
  .refine aH ?_;refine bG ?_;have hz:lH x.feats i=false:=by
    simp only[lH];revert hc1;generalize fj x.feats[i]! =z0;generalize Op.bytesLess x.feats[i-1]! x.feats[i]! =z1;by_cases e0:0<i<;>cases z0<;>cases z1<;>simp_all
   simp only[r7];rw[hr,aN ah,hz];simp
  refine bF ?_;have hz:lH x.feats i=true:=by
   simp only[lH];revert hc1;generalize fj x.feats[i]! =z0;generalize Op.bytesLess x.feats[i-1]! x.feats[i]! =z1;by_cases e0:0<i<;>cases z0<;>cases z1<;>simp_all
  exact⟨i+1,⟨ah,by rw[hr,aN ah,hz];rfl⟩,ah,(du [(0,0)])⟩
 refine Jy ?_;refine ak (hc:=h208 _) ?_;refine eW ?_;refine ak (hc:=h208 _) ?_;refine aF ?_;refine az (v:=(aQ.D _)) ?_;refine bK (hc:=fun hf=>h209 x.v hp0.1) ?_;refine aD ?_;refine j6 ?_;refine aD ?_;refine bG ?_;simp only[r7];rw[hr,b7 ah];have h9:decide ((x.feats.length:Int)<=9)=decide (x.feats.length<=9):=mQ.2 ah;rw[h9];have hc:x.shelf=[]->fS x.shelf=false:=by intro e;rw[e];rfl
 revert hc;generalize fS x.name=a;generalize fE x.v=b;generalize fS x.shelf=c;generalize decide (x.feats.length<=9)=d;by_cases e:x.shelf=[]<;>by_cases e2:x.sum=0<;>cases a<;>cases b<;>cases c<;>cases d<;>simp_all
end Go.Abs
