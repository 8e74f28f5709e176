/- A part of the proofs of the statements: X11, X12, RSpec15, X13, X14, RSpec16, X15, RSpec17, W1, W4, X16, RSpec18, Y1, RSpec19. -/
import Derived.Test.YtpdlhpamcaocgaaGreatDoorP08
set_option linter.all false
set_option maxRecDepth 4000
section
namespace Go.Abs
open Go
def oM:aB:=⟨2,2,[],[],(sq (rg [gm s0,gm s1,gx 242 [l1,(cs [32])] [[.sl 1 [.a]],[.a]],gn (.callM 489 [l0,l2])] []) (rg [gm s0,gn (.callM 664 [l0,(i8 10)])] []))⟩
def w450 {Γ:Ctx}(hm:(Γ.at 3).a8)(ws:List ai)(t:ai)(m0:List (Nat×bo))(h242:Ix (Γ.at 3))(h489:K2 (Γ.at 3))(h664:K7 (Γ.at 3))(hp0:pQ m0 0 t)(hp1:look m0 1=some (.buf 1 (ws.map D.str)))(hp2:yt ws t):bz (Γ.at 3) oM.body (jn oM (fun d m=>d=.tup []∧look m 0=some (.bld (some 9) (t++bY ws).length true)∧look m 9=some (.row (t++bY ws))):Ex→List bx→St→Prop) (ed oM [.ptr 0 2 0 0,.own 1 1 0 ws.length]) ⟨3,m0⟩:=by
 show bz _ _ _ [⟨true,.ptr 0 2 0 0⟩,⟨true,.own 1 1 0 ws.length⟩] ⟨3,m0⟩;obtain⟨⟨q1,q2⟩,q3,q4⟩:=hp2;have hlt:t++bY ws=t++aM [32] ws++[10]:=by unfold bY;simp
 refine aj ?_;refine ar ?_;refine ak (hc:=h242 ws [32] q2 (by decide) q3) (ha:=fun _=>congrArg (fun d=>[d,D.str [32]]) (rK (q:=D.str) (fun _=>rfl) hp1)) (hp:=fun _=>⟨oY (q:=D.str) (fun _=>rfl) hp1,rfl,trivial⟩) ?_;refine bW (nx':=4) (v:=.any) (m':=od m0 0 6 (t++aM [32] ws)) (hc:=fun K' hK=>h489 _ _ K' ⟨_,0,t,rfl,hp0,Nat.lt_of_lt_of_le (by decide:0<3) (Nat.le_add_right _ _),q1,by omega,hK⟩) (hn:=by decide) ?_;refine av ?_;refine bW (nx':=9) (v:=.any) (m':=od (od m0 0 6 (t++aM [32] ws)) 0 9 (t++aM [32] ws++[10])) (hc:=fun K' hK=>h664 _ _ K' ⟨10,0,t++aM [32] ws,rfl,IZ (by decide),Nat.lt_of_lt_of_le (by decide:0<8) (Nat.le_add_right _ _),by simp,by rw[List.length_append];exact q4,hK⟩) (hn:=by decide) ?_;refine aC ?_

 refine bq trivial di (Eq.trans ae (?_)) ae ⟨rfl,by rw[hlt];exact(si (by decide)).1,by rw[hlt];exact(si (by decide)).2⟩;rfl
end Go.Abs
end
section
namespace Go.Abs
open Go
def AP:aB:=⟨1,31,gG,bO,(sq (rg [gb 9 s0,gm cse] [(2,0),(1,1)]) (sq (r1 [⟨.mkB,none⟩] 3 0) (sq (rt [gf 0 s2,gd l0,gf 1 s2,gk 5 true l2,gx 451 [l3] EJ,gn (.bsl 1 (.str []) 3 [(0,(cs [112,97,99,107,97,103,101])),(1,l1),(2,l4)]),gn (.callM 450 [s3,l5])] []) (sq (sq (rg [gf 6 s2,gd l0,gl l1,gm bh] [(7,1),(5,2),(4,3)]) (.block 0 (.loop (sq (r1 [aN s4 s5] 6 0) (sq (eN s6 0) (sq (.block 1 (sq (r1 [ga 3 s7 s4,gk 3 true l0,gb 3 (.c (.agg [.az,.str [],.str []])),gt 3 l2 l1] 8 2) (sq (rg [gn (.bsl 1 (.str []) 1 [(0,(cs [110,101,101,100]))]),gn (.callM 450 [s3,l0])] []) (sq (sq (rg [gf 0 s8,gd l0,gl l1,gm bh] [(12,1),(10,2),(9,3)]) (.block 2 (.loop (sq (r1 [aN s9 jx] 11 0) (sq (eN mc 2) (sq (.block 3 (sq (r1 [ga 4 lY s9,gk 4 true l0,gb 4 (.c (.agg [.str [],.str [],.az,.bool false])),gt 4 l2 l1] 13 2) (sq (rg [gm (cs [45]),gm (cs [102,117,108,108])] [(16,0),(17,1)]) (sq (sq (r1 [gf 2 pP,gd l0,gl l1,cB l2 bh] 14 3) (.cond tn (r1 [gf 2 pP,gd l0,gx 242 [l1,(cs [44])] [[.sl 1 [.a]],[.a]],gm l2] 16 3) .skip)) (sq (sq (r1 [gf 3 pP,gd l0] 15 1) (.cond vW (r1 [gm (cs [98,97,114,101])] 17 0) .skip)) (rg [gf 0 pP,gd l0,gm BF,gm Bc,gf 1 pP,gd l4,gn (.bsl 1 (.str []) 5 [(0,(cs [97,110,121])),(1,l1),(2,l2),(3,l3),(4,l5)]),gn (.callM 450 [s3,l6])] [])))))) (r1 [au s9 bR,gm l0] 9 1))))))) (sq (sq (r1 [gf 1 s8,gd l0,bN l1 cse] 18 2) (.cond Fq (rg [gf 1 s8,gd l0,gn (.bsl 1 (.str []) 2 [(0,(cs [119,104,101,110])),(1,l1)]),gn (.callM 450 [s3,l2])] []) .skip)) (sq (r1 [gf 2 s8,gd l0,bN l1 cse] 19 2) (.cond MH (rg [gf 2 s8,gd l0,gn (.bsl 1 (.str []) 2 [(0,(cs [111,112,116,105,111,110])),(1,l1)]),gn (.callM 450 [s3,l2])] []) .skip))))))) (r1 [au s4 bR,gm l0] 4 1))))))) (sq (sq (rg [gf 7 s2,gd l0,gl l1,gm bh] [(23,1),(21,2),(20,3)]) (.block 4 (.loop (sq (r1 [aN Is s21] 22 0) (sq (eN s22 4) (sq (.block 5 (sq (r1 [ga 3 s23 Is,gk 3 true l0,gb 3 (.c (.agg [.str [],.str [],.str []])),gt 3 l2 l1] 24 2) (sq (rg [gf 0 MZ,gd l0,gf 1 MZ,gd l2,gn (.bsl 1 (.str []) 3 [(0,(cs [98,97,114])),(1,l1),(2,l3)]),gn (.callM 450 [s3,l4])] []) (sq (r1 [gf 2 MZ,gd l0,bN l1 cse] 25 2) (.cond M0 (rg [gf 2 MZ,gd l0,gn (.bsl 1 (.str []) 2 [(0,(cs [119,104,101,110])),(1,l1)]),gn (.callM 450 [s3,l2])] []) .skip))))) (r1 [au Is bR,gm l0] 20 1))))))) (sq (sq (rg [gf 8 s2,gd l0,gl l1,gm bh] [(29,1),(27,2),(26,3)]) (.block 6 (.loop (sq (r1 [aN Qk s27] 28 0) (sq (eN s28 6) (sq (.block 7 (sq (r1 [ga 2 s29 Qk,gk 2 true l0,gb 2 (.c (.agg [.str [],.az])),gt 2 l2 l1] 30 2) (rg [gf 0 KD,gd l0,gn (.bsl 1 (.str []) 2 [(0,(cs [102,101,97,116,117,114,101])),(1,l1)]),gf 1 KD,gd l3,gn (.app 1 l2 l4),gn (.callM 450 [s3,l5])] []))) (r1 [au Qk bR,gm l0] 26 1))))))) (sq (r1 [gn (.callM 452 [s3]),gm l0] 1 1) .ret)))))))⟩
def w215 {Γ:Ctx}(hm:(Γ.at 0).a8)(h242:Ix Γ)(h450:KR Γ)(h451:KS Γ)(h452:KT Γ)(r:Rec)  (hp0:pW r∧gA r):dq Γ AP (.str (nN r)) [Rec.D r]:=by
 show bz _ _ _ [⟨_,_⟩,_,_,_,_,_,_,_,_,_,_,_,_,_,_,_,_,_,_,_,_,_,_,_,_,_,_,_,_,_,_] _;have hft:=xw hp0;have q0:=hft.nm;have q00:=wm r.v hft.v;have hs:=hp0.2;refine aj ?_;refine gF ?_;refine bc (v:=b7.D r.v) ?_;refine ak (hc:=h451 r.v hft.v) ?_;refine cx [(.str _),(.str _),(.str _)] ?_;refine bW (nx':=4) (v:=.tup []) (m':=[(9,.row (pX r)),(0,.buf 9 [Rec.D r]),(2,.bld (some 9) (pX r).length true)]) (hc:=fun K' hK=>h450 [cL,r.name,lv r.v] ([]) 2 8 _ _ K' (.inl ⟨false,by exact rfl,rfl⟩) ae (by simp only[List.length_cons,List.length_nil];omega) (by simp only[List.length_cons,List.length_nil];omega) (.mk (by decide) (by simp only[List.length_cons,List.length_nil,List.cons_append,List.nil_append];omega) (List.forall_mem_cons.2 ⟨by decide,List.forall_mem_cons.2 ⟨by omega,List.forall_mem_cons.2 ⟨by omega,fun _ h=>nomatch h⟩⟩⟩) (by first|omega|(simp only[List.length_append,List.length_nil];omega))) (by rw[show([])++bY [cL,r.name,lv r.v]=pX r from rfl];exact hK)) (hn:=by decide) ?_;refine aA ?_;intro u0;refine ar ?_;refine aY hm (ι:=Nat) (fun i=>[.un,.un,⟨true,.ptr 0 9 0 0⟩,⟨true,.ptr 2 2 0 0⟩,⟨true,.int .i64 (i:Nat)⟩,⟨true,.int .i64 (r.needs.length:Nat)⟩,.un,⟨true,.sl 3 (r.needs.map aP.D)⟩,.un,.un,.un,.un,.un,.un,.un,.un,.un,.un,.un,.un,.un,.un,.un,.un,.un,.un,.un,.un,.un,.un,.un]) (fun i=>[(0,.buf 9 [Rec.D r]),(2,.bld (some 3) (iR r i).length true),(3,.row (iR r i))]) 10 (fun i=>i≤r.needs.length) (fun i=>r.needs.length-i) 0 (by omega) (aX.to [(0,0),(2,2),(9,3)] ae ae dt (by refine aO.eS ae ae ae ?_;refine aO.bl 2 ae ae ae (congrArg List.length (by rw[Ic])) rfl ?_;refine aO.rw 9 ae ae (by rw[Ic]) ?_;exact aO.nil)) ?_;intro i hi;have q1:=zy hft i hi;refine av ?_;refine cd (fun hc0=>?_) fun hc0=>?_
 ·refine av ?_;have hnf:=hft.n _ (bA (show i<r.needs.length by omega));have hn3:=hnf.1.1;refine aC ?_;refine bD (v:=aP.D r.needs[i]!) (hi:=fun _=>by omega) ?_;refine aC ?_;refine aL (aP.D r.needs[i]!) (he:=by exact rfl) ?_;refine ar ?_;refine cx [(.str _)] ?_;refine bW (nx':=16) (v:=.tup []) (m':=[(16,.row (iR r i++cQ r.needs[i]! 0)),(0,.buf 9 [Rec.D r]),(2,.bld (some 16) (iR r i++cQ r.needs[i]! 0).length true),(13,.buf 3 [aP.D r.needs[i]!])]) (hc:=fun K' hK=>h450 [dJ] (iR r i) 2 15 _ _ K' (.inr ⟨3,true,by exact rfl,by exact rfl⟩) ae (by simp only[List.length_cons,List.length_nil];omega) (by simp only[List.length_cons,List.length_nil];omega) (.mk (by decide) (by simp only[List.length_cons,List.length_nil,List.cons_append,List.nil_append];omega) (List.forall_mem_cons.2 ⟨by decide,fun _ h=>nomatch h⟩) (by first|omega|(simp only[List.length_append,List.length_nil];omega))) (by rw[show(iR r i)++bY [dJ]=iR r i++cQ r.needs[i]! 0 from rfl];exact hK)) (hn:=by decide) ?_;refine aA ?_;intro u1;refine ar ?_;refine aY hm (ι:=Nat) (fun j=>[.un,.un,⟨true,.ptr 0 9 0 0⟩,⟨true,.ptr 2 2 0 0⟩,⟨true,.int .i64 (i:Nat)⟩,⟨true,.int .i64 (r.needs.length:Nat)⟩,.un,⟨true,.sl 3 (r.needs.map aP.D)⟩,⟨true,.ptr 4 3 0 0⟩,⟨true,.int .i64 (j:Nat)⟩,⟨true,.int .i64 (r.needs[i]!.any.length:Nat)⟩,.un,⟨true,.sl 4 (r.needs[i]!.any.map bm.D)⟩,.un,.un,.un,.un,.un,.un,.un,.un,.un,.un,.un,.un,.un,.un,.un,.un,.un,.un]) (fun j=>[(0,.buf 9 [Rec.D r]),(4,.buf 3 [aP.D r.needs[i]!]),(2,.bld (some 3) (iR r i++cQ r.needs[i]! j).length true),(3,.row (iR r i++cQ r.needs[i]! j))]) 20 (fun j=>j≤r.needs[i]!.any.length) (fun j=>r.needs[i]!.any.length-j) 0 (by omega) (aX.to [(0,0),(13,4),(2,2),(16,3)] ae ae dt (by refine aO.eS ae ae ae ?_;refine aO.nl 13 ae ae rfl ae ?_;refine aO.bl 2 ae ae ae (congrArg List.length (rfl)) rfl ?_;refine aO.rw 16 ae ae (rfl) ?_;exact aO.nil)) ?_;intro j hj;have q2:=xF hnf j (by omega);refine av ?_;refine cd (fun hc1=>?_) fun hc1=>?_
  ·refine av ?_;have hwf:=hnf.1.2 _ (bA (show j<r.needs[i]!.any.length by omega));have q3:=zD hwf;have q4:=hwf.1.1.1;have q5:=hwf.1.1.2;refine aC ?_;refine bD (v:=bm.D r.needs[i]!.any[j]!) (hi:=fun _=>by omega) ?_;refine aC ?_;refine aL (bm.D r.needs[i]!.any[j]!) (he:=by exact rfl) ?_;refine gF ?_;intro u2;refine ar ?_;refine cd (fun hc2=>?_) fun hc2=>?_
   ·refine av ?_;refine ak (hc:=h242 r.needs[i]!.any[j]!.feats [44] (by have:=hwf.2.1;omega) (by decide) (fun t ht=>by have:=hwf.2.2 t ht;omega)) ?_;refine aV ?_;refine cd (fun hc3=>?_) fun hc3=>?_
    ·refine ax ?_;have hwl:bY [fj,r.needs[i]!.any[j]!.name,(aM [44] r.needs[i]!.any[j]!.feats),cV,r.needs[i]!.any[j]!.range]=gE r.needs[i]!.any[j]! :=by
      unfold gE oX;first|rw[if_pos (show r.needs[i]!.any[j]!.feats.length=0 by omega)]|rw[if_neg (show ¬r.needs[i]!.any[j]!.feats.length=0 by omega)]
      rw[hc3];rfl
     have hwj:=lV (n:=r.needs[i]!) (j:=j) (by omega);refine aA ?_;refine cx [(.str _),(.str _),(.str _),(.str _),(.str _)] ?_;refine bW (nx':=39) (v:=.tup []) (m':=[(45,.row (iR r i++cQ r.needs[i]! (j+1))),(0,.buf 9 [Rec.D r]),(4,.buf 3 [aP.D r.needs[i]!]),(2,.bld (some 45) (iR r i++cQ r.needs[i]! (j+1)).length true),(23,.buf 4 [bm.D r.needs[i]!.any[j]!])]) (hc:=fun K' hK=>h450 [fj,r.needs[i]!.any[j]!.name,(aM [44] r.needs[i]!.any[j]!.feats),cV,r.needs[i]!.any[j]!.range] (iR r i++cQ r.needs[i]! j) 2 44 _ _ K' (.inr ⟨3,true,by exact rfl,by exact rfl⟩) ae (by simp only[List.length_cons,List.length_nil];omega) (by simp only[List.length_cons,List.length_nil];omega) (.mk (by decide) (by simp only[List.length_cons,List.length_nil,List.cons_append,List.nil_append];omega) (List.forall_mem_cons.2 ⟨by decide,List.forall_mem_cons.2 ⟨by omega,List.forall_mem_cons.2 ⟨by first|omega|decide,List.forall_mem_cons.2 ⟨by decide,List.forall_mem_cons.2 ⟨by omega,fun _ h=>nomatch h⟩⟩⟩⟩⟩) (by first|omega|(simp only[List.length_append,List.length_nil];omega))) (by rw[show(iR r i++cQ r.needs[i]! j)++bY [fj,r.needs[i]!.any[j]!.name,(aM [44] r.needs[i]!.any[j]!.feats),cV,r.needs[i]!.any[j]!.range]=iR r i++cQ r.needs[i]! (j+1)from by rw[hwl,hwj,List.append_assoc]];exact hK)) (hn:=by decide) ?_;refine aV ?_;exact⟨j+1,(by omega),by omega,(aX.to [(0,0),(4,4),(2,2),(45,3)] ae ae dt (by refine aO.eS ae ae ae ?_;refine aO.nl 4 ae ae rfl ae ?_;refine aO.bl 2 ae ae ae (congrArg List.length (rfl)) rfl ?_;refine aO.rw 45 ae ae (rfl) ?_;exact aO.nil))⟩
    refine ar ?_;have hwl:bY [fj,r.needs[i]!.any[j]!.name,(aM [44] r.needs[i]!.any[j]!.feats),kt,r.needs[i]!.any[j]!.range]=gE r.needs[i]!.any[j]! :=by
     unfold gE oX;first|rw[if_pos (show r.needs[i]!.any[j]!.feats.length=0 by omega)]|rw[if_neg (show ¬r.needs[i]!.any[j]!.feats.length=0 by omega)]
     rw[hc3];rfl
    have hwj:=lV (n:=r.needs[i]!) (j:=j) (by omega);refine aA ?_;refine cx [(.str _),(.str _),(.str _),(.str _),(.str _)] ?_;refine bW (nx':=38) (v:=.tup []) (m':=[(44,.row (iR r i++cQ r.needs[i]! (j+1))),(0,.buf 9 [Rec.D r]),(4,.buf 3 [aP.D r.needs[i]!]),(2,.bld (some 44) (iR r i++cQ r.needs[i]! (j+1)).length true),(23,.buf 4 [bm.D r.needs[i]!.any[j]!])]) (hc:=fun K' hK=>h450 [fj,r.needs[i]!.any[j]!.name,(aM [44] r.needs[i]!.any[j]!.feats),kt,r.needs[i]!.any[j]!.range] (iR r i++cQ r.needs[i]! j) 2 43 _ _ K' (.inr ⟨3,true,by exact rfl,by exact rfl⟩) ae (by simp only[List.length_cons,List.length_nil];omega) (by simp only[List.length_cons,List.length_nil];omega) (.mk (by decide) (by simp only[List.length_cons,List.length_nil,List.cons_append,List.nil_append];omega) (List.forall_mem_cons.2 ⟨by decide,List.forall_mem_cons.2 ⟨by omega,List.forall_mem_cons.2 ⟨by first|omega|decide,List.forall_mem_cons.2 ⟨by decide,List.forall_mem_cons.2 ⟨by omega,fun _ h=>nomatch h⟩⟩⟩⟩⟩) (by first|omega|(simp only[List.length_append,List.length_nil];omega))) (by rw[show(iR r i++cQ r.needs[i]! j)++bY [fj,r.needs[i]!.any[j]!.name,(aM [44] r.needs[i]!.any[j]!.feats),kt,r.needs[i]!.any[j]!.range]=iR r i++cQ r.needs[i]! (j+1)from by rw[hwl,hwj,List.append_assoc]];exact hK)) (hn:=by decide) ?_;refine aV ?_;exact⟨j+1,(by omega),by omega,(aX.to [(0,0),(4,4),(2,2),(44,3)] ae ae dt (by refine aO.eS ae ae ae ?_;refine aO.nl 4 ae ae rfl ae ?_;refine aO.bl 2 ae ae ae (congrArg List.length (rfl)) rfl ?_;refine aO.rw 44 ae ae (rfl) ?_;exact aO.nil))⟩
   refine aA ?_;refine cd (fun hc3=>?_) fun hc3=>?_
   ·refine ax ?_;have hwl:bY [fj,r.needs[i]!.any[j]!.name,[45],cV,r.needs[i]!.any[j]!.range]=gE r.needs[i]!.any[j]! :=by
     unfold gE oX;first|rw[if_pos (show r.needs[i]!.any[j]!.feats.length=0 by omega)]|rw[if_neg (show ¬r.needs[i]!.any[j]!.feats.length=0 by omega)]
     rw[hc3];rfl
    have hwj:=lV (n:=r.needs[i]!) (j:=j) (by omega);refine aA ?_;refine cx [(.str _),(.str _),(.str _),(.str _),(.str _)] ?_;refine bW (nx':=35) (v:=.tup []) (m':=[(41,.row (iR r i++cQ r.needs[i]! (j+1))),(0,.buf 9 [Rec.D r]),(4,.buf 3 [aP.D r.needs[i]!]),(2,.bld (some 41) (iR r i++cQ r.needs[i]! (j+1)).length true),(23,.buf 4 [bm.D r.needs[i]!.any[j]!])]) (hc:=fun K' hK=>h450 [fj,r.needs[i]!.any[j]!.name,[45],cV,r.needs[i]!.any[j]!.range] (iR r i++cQ r.needs[i]! j) 2 40 _ _ K' (.inr ⟨3,true,by exact rfl,by exact rfl⟩) ae (by simp only[List.length_cons,List.length_nil];omega) (by simp only[List.length_cons,List.length_nil];omega) (.mk (by decide) (by simp only[List.length_cons,List.length_nil,List.cons_append,List.nil_append];omega) (List.forall_mem_cons.2 ⟨by decide,List.forall_mem_cons.2 ⟨by omega,List.forall_mem_cons.2 ⟨by first|omega|decide,List.forall_mem_cons.2 ⟨by decide,List.forall_mem_cons.2 ⟨by omega,fun _ h=>nomatch h⟩⟩⟩⟩⟩) (by first|omega|(simp only[List.length_append,List.length_nil];omega))) (by rw[show(iR r i++cQ r.needs[i]! j)++bY [fj,r.needs[i]!.any[j]!.name,[45],cV,r.needs[i]!.any[j]!.range]=iR r i++cQ r.needs[i]! (j+1)from by rw[hwl,hwj,List.append_assoc]];exact hK)) (hn:=by decide) ?_;refine aV ?_;exact⟨j+1,(by omega),by omega,(aX.to [(0,0),(4,4),(2,2),(41,3)] ae ae dt (by refine aO.eS ae ae ae ?_;refine aO.nl 4 ae ae rfl ae ?_;refine aO.bl 2 ae ae ae (congrArg List.length (rfl)) rfl ?_;refine aO.rw 41 ae ae (rfl) ?_;exact aO.nil))⟩
   refine ar ?_;have hwl:bY [fj,r.needs[i]!.any[j]!.name,[45],kt,r.needs[i]!.any[j]!.range]=gE r.needs[i]!.any[j]! :=by
    unfold gE oX;first|rw[if_pos (show r.needs[i]!.any[j]!.feats.length=0 by omega)]|rw[if_neg (show ¬r.needs[i]!.any[j]!.feats.length=0 by omega)]
    rw[hc3];rfl
   have hwj:=lV (n:=r.needs[i]!) (j:=j) (by omega);refine aA ?_;refine cx [(.str _),(.str _),(.str _),(.str _),(.str _)] ?_;refine bW (nx':=34) (v:=.tup []) (m':=[(40,.row (iR r i++cQ r.needs[i]! (j+1))),(0,.buf 9 [Rec.D r]),(4,.buf 3 [aP.D r.needs[i]!]),(2,.bld (some 40) (iR r i++cQ r.needs[i]! (j+1)).length true),(23,.buf 4 [bm.D r.needs[i]!.any[j]!])]) (hc:=fun K' hK=>h450 [fj,r.needs[i]!.any[j]!.name,[45],kt,r.needs[i]!.any[j]!.range] (iR r i++cQ r.needs[i]! j) 2 39 _ _ K' (.inr ⟨3,true,by exact rfl,by exact rfl⟩) ae (by simp only[List.length_cons,List.length_nil];omega) (by simp only[List.length_cons,List.length_nil];omega) (.mk (by decide) (by simp only[List.length_cons,List.length_nil,List.cons_append,List.nil_append];omega) (List.forall_mem_cons.2 ⟨by decide,List.forall_mem_cons.2 ⟨by omega,List.forall_mem_cons.2 ⟨by first|omega|decide,List.forall_mem_cons.2 ⟨by decide,List.forall_mem_cons.2 ⟨by omega,fun _ h=>nomatch h⟩⟩⟩⟩⟩) (by first|omega|(simp only[List.length_append,List.length_nil];omega))) (by rw[show(iR r i++cQ r.needs[i]! j)++bY [fj,r.needs[i]!.any[j]!.name,[45],kt,r.needs[i]!.any[j]!.range]=iR r i++cQ r.needs[i]! (j+1)from by rw[hwl,hwj,List.append_assoc]];exact hK)) (hn:=by decide) ?_;refine aV ?_;exact⟨j+1,(by omega),by omega,(aX.to [(0,0),(4,4),(2,2),(40,3)] ae ae dt (by refine aO.eS ae ae ae ?_;refine aO.nl 4 ae ae rfl ae ?_;refine aO.bl 2 ae ae ae (congrArg List.length (rfl)) rfl ?_;refine aO.rw 40 ae ae (rfl) ?_;exact aO.nil))⟩
  refine ax ?_;have hnA:=sj (n:=r.needs[i]!) (j:=j) (by omega);have w4:=lH hnf.2.1;have w5:=hnf.2.2;have w6:=hnf.2.1;refine ax ?_;refine cd (fun hc4=>?_) fun hc4=>?_
  ·refine aC ?_;have hwt:gX r.needs[i]!.when'=bY [ek,r.needs[i]!.when']:=if_neg hc4;refine ar ?_;refine cx [(.str _),(.str _)] ?_;refine bW (nx':=25) (v:=.tup []) (m':=[(27,.row (iR r i++(cQ r.needs[i]! j++gX r.needs[i]!.when'))),(0,.buf 9 [Rec.D r]),(4,.buf 3 [aP.D r.needs[i]!]),(2,.bld (some 27) (iR r i++(cQ r.needs[i]! j++gX r.needs[i]!.when')).length true)]) (hc:=fun K' hK=>h450 [ek,r.needs[i]!.when'] (iR r i++cQ r.needs[i]! j) 2 26 _ _ K' (.inr ⟨3,true,by exact rfl,by exact rfl⟩) ae (by simp only[List.length_cons,List.length_nil];omega) (by simp only[List.length_cons,List.length_nil];omega) (.mk (by decide) (by simp only[List.length_cons,List.length_nil,List.cons_append,List.nil_append];omega) (List.forall_mem_cons.2 ⟨by decide,List.forall_mem_cons.2 ⟨by omega,fun _ h=>nomatch h⟩⟩) (by first|omega|(simp only[List.length_append,List.length_nil];omega))) (by rw[show(iR r i++cQ r.needs[i]! j)++bY [ek,r.needs[i]!.when']=iR r i++(cQ r.needs[i]! j++gX r.needs[i]!.when')from by rw[hwt,List.append_assoc]];exact hK)) (hn:=by decide) ?_;refine aA ?_;refine fm (fun hc5=>?_) fun hc5=>?_
   ·refine aC ?_;have hot:ru r.needs[i]!.option=bY [cr,r.needs[i]!.option]:=if_neg hc5;refine ar ?_;refine cx [(.str _),(.str _)] ?_;refine bW (nx':=33) (v:=.tup []) (m':=[(35,.row (iR r (i+1))),(0,.buf 9 [Rec.D r]),(4,.buf 3 [aP.D r.needs[i]!]),(2,.bld (some 35) (iR r (i+1)).length true)]) (hc:=fun K' hK=>h450 [cr,r.needs[i]!.option] (iR r i++(cQ r.needs[i]! j++gX r.needs[i]!.when')) 2 34 _ _ K' (.inr ⟨27,true,by exact rfl,by exact rfl⟩) ae (by simp only[List.length_cons,List.length_nil];omega) (by simp only[List.length_cons,List.length_nil];omega) (.mk (by decide) (by simp only[List.length_cons,List.length_nil,List.cons_append,List.nil_append];omega) (List.forall_mem_cons.2 ⟨by decide,List.forall_mem_cons.2 ⟨by omega,fun _ h=>nomatch h⟩⟩) (by first|omega|(simp only[List.length_append,List.length_nil];omega))) (by rw[show(iR r i++(cQ r.needs[i]! j++gX r.needs[i]!.when'))++bY [cr,r.needs[i]!.option]=iR r (i+1)from by rw[kr (by omega),hnA,hot];simp only[List.append_assoc,List.append_nil]];exact hK)) (hn:=by decide) ?_;refine aV ?_;exact⟨i+1,(by omega),by omega,(aX.to [(0,0),(2,2),(35,3)] ae ae dt (by refine aO.eS ae ae ae ?_;refine aO.bl 2 ae ae ae (congrArg List.length (rfl)) rfl ?_;refine aO.rw 35 ae ae (rfl) ?_;exact aO.nil))⟩
   refine av ?_;have hno:ru r.needs[i]!.option=[]:=if_pos (by simpa using hc5);refine ax ?_;exact⟨i+1,(by omega),by omega,(aX.to [(0,0),(2,2),(27,3)] ae ae dt (by refine aO.eS ae ae ae ?_;refine aO.bl 2 ae ae ae (congrArg List.length (by rw[kr (by omega),hnA,hno];simp only[List.append_assoc,List.append_nil])) rfl ?_;refine aO.rw 27 ae ae (by rw[kr (by omega),hnA,hno];simp only[List.append_assoc,List.append_nil]) ?_;exact aO.nil))⟩
  refine ar ?_;have hnw:gX r.needs[i]!.when'=[]:=if_pos (by simpa using hc4);refine ax ?_;refine fm (fun hc5=>?_) fun hc5=>?_
  ·refine aC ?_;have hot:ru r.needs[i]!.option=bY [cr,r.needs[i]!.option]:=if_neg hc5;refine ar ?_;refine cx [(.str _),(.str _)] ?_;refine bW (nx':=28) (v:=.tup []) (m':=[(30,.row (iR r (i+1))),(0,.buf 9 [Rec.D r]),(4,.buf 3 [aP.D r.needs[i]!]),(2,.bld (some 30) (iR r (i+1)).length true)]) (hc:=fun K' hK=>h450 [cr,r.needs[i]!.option] (iR r i++cQ r.needs[i]! j) 2 29 _ _ K' (.inr ⟨3,true,by exact rfl,by exact rfl⟩) ae (by simp only[List.length_cons,List.length_nil];omega) (by simp only[List.length_cons,List.length_nil];omega) (.mk (by decide) (by simp only[List.length_cons,List.length_nil,List.cons_append,List.nil_append];omega) (List.forall_mem_cons.2 ⟨by decide,List.forall_mem_cons.2 ⟨by omega,fun _ h=>nomatch h⟩⟩) (by first|omega|(simp only[List.length_append,List.length_nil];omega))) (by rw[show(iR r i++cQ r.needs[i]! j)++bY [cr,r.needs[i]!.option]=iR r (i+1)from by rw[kr (by omega),hnA,hot,hnw];simp only[List.append_assoc,List.append_nil]];exact hK)) (hn:=by decide) ?_;refine aV ?_;exact⟨i+1,(by omega),by omega,(aX.to [(0,0),(2,2),(30,3)] ae ae dt (by refine aO.eS ae ae ae ?_;refine aO.bl 2 ae ae ae (congrArg List.length (rfl)) rfl ?_;refine aO.rw 30 ae ae (rfl) ?_;exact aO.nil))⟩
  refine av ?_;have hno:ru r.needs[i]!.option=[]:=if_pos (by simpa using hc5);refine ax ?_;exact⟨i+1,(by omega),by omega,(aX.to [(0,0),(2,2),(3,3)] ae ae dt (by refine aO.eS ae ae ae ?_;refine aO.bl 2 ae ae ae (congrArg List.length (by rw[kr (by omega),hnA,hno,hnw];simp only[List.append_assoc,List.append_nil])) rfl ?_;refine aO.rw 3 ae ae (by rw[kr (by omega),hnA,hno,hnw];simp only[List.append_assoc,List.append_nil]) ?_;exact aO.nil))⟩
 refine ax ?_;have h33:i=r.needs.length:=by omega
 subst h33;refine av ?_;intro u3;refine ar ?_;refine aY hm (ι:=Nat) (fun i=>[.un,.un,⟨true,.ptr 0 9 0 0⟩,⟨true,.ptr 2 2 0 0⟩,.un,.un,.un,.un,.un,.un,.un,.un,.un,.un,.un,.un,.un,.un,.un,.un,⟨true,.int .i64 (i:Nat)⟩,⟨true,.int .i64 (r.bars.length:Nat)⟩,.un,⟨true,.sl 3 (r.bars.map ec.D)⟩,.un,.un,.un,.un,.un,.un,.un]) (fun i=>[(0,.buf 9 [Rec.D r]),(2,.bld (some 3) (wh r i).length true),(3,.row (wh r i))]) 10 (fun i=>i≤r.bars.length) (fun i=>r.bars.length-i) 0 (by omega) (aX.to [(0,0),(2,2),(3,3)] ae ae dt (by refine aO.eS ae ae ae ?_;refine aO.bl 2 ae ae ae (congrArg List.length (by rw[Ie])) rfl ?_;refine aO.rw 3 ae ae (by rw[Ie]) ?_;exact aO.nil)) ?_;intro i hi;have q1:=zz hft i hi;refine av ?_;refine cd (fun hc6=>?_) fun hc6=>?_
 ·refine av ?_;have q4:=hft.b _ (bA (show i<r.bars.length by omega));have q5:=q4.1;have q6:=q4.2.1;have q7:=q4.2.2;have hbt:yB r.bars[i]! =bY [fE,r.bars[i]!.name,r.bars[i]!.range]++gX r.bars[i]!.when':=rfl;have hxb:=Bo (r:=r) (i:=i) (by omega);have w7:=lH q7;refine aC ?_;refine bD (v:=ec.D r.bars[i]!) (hi:=fun _=>by omega) ?_;refine aC ?_;refine aL (ec.D r.bars[i]!) (he:=by exact rfl) ?_;refine aA ?_;refine cx [(.str _),(.str _),(.str _)] ?_;refine bW (nx':=16) (v:=.tup []) (m':=[(20,.row (wh r i++bY [fE,r.bars[i]!.name,r.bars[i]!.range])),(0,.buf 9 [Rec.D r]),(2,.bld (some 20) (wh r i++bY [fE,r.bars[i]!.name,r.bars[i]!.range]).length true),(13,.buf 3 [ec.D r.bars[i]!])]) (hc:=fun K' hK=>h450 [fE,r.bars[i]!.name,r.bars[i]!.range] (wh r i) 2 19 _ _ K' (.inr ⟨3,true,by exact rfl,by exact rfl⟩) ae (by simp only[List.length_cons,List.length_nil];omega) (by simp only[List.length_cons,List.length_nil];omega) (.mk (by decide) (by simp only[List.length_cons,List.length_nil,List.cons_append,List.nil_append];omega) (List.forall_mem_cons.2 ⟨by decide,List.forall_mem_cons.2 ⟨by omega,List.forall_mem_cons.2 ⟨by omega,fun _ h=>nomatch h⟩⟩⟩) (by first|omega|(simp only[List.length_append,List.length_nil];omega))) (by rw[show(wh r i)++bY [fE,r.bars[i]!.name,r.bars[i]!.range]=wh r i++bY [fE,r.bars[i]!.name,r.bars[i]!.range]from rfl];exact hK)) (hn:=by decide) ?_;refine ar ?_;have w8:(bY [fE,r.bars[i]!.name,r.bars[i]!.range]).length≤2200000:=by unfold bY;simp only[aM,fE,List.length_append,List.length_cons,List.length_nil];omega
  refine ax ?_;refine fm (fun hc7=>?_) fun hc7=>?_
  ·refine aC ?_;have hwt:gX r.bars[i]!.when'=bY [ek,r.bars[i]!.when']:=if_neg hc7;refine ar ?_;refine cx [(.str _),(.str _)] ?_;refine bW (nx':=26) (v:=.tup []) (m':=[(28,.row (wh r (i+1))),(0,.buf 9 [Rec.D r]),(2,.bld (some 28) (wh r (i+1)).length true),(13,.buf 3 [ec.D r.bars[i]!])]) (hc:=fun K' hK=>h450 [ek,r.bars[i]!.when'] (wh r i++bY [fE,r.bars[i]!.name,r.bars[i]!.range]) 2 27 _ _ K' (.inr ⟨20,true,by exact rfl,by exact rfl⟩) ae (by simp only[List.length_cons,List.length_nil];omega) (by simp only[List.length_cons,List.length_nil];omega) (.mk (by decide) (by simp only[List.length_cons,List.length_nil,List.cons_append,List.nil_append];omega) (List.forall_mem_cons.2 ⟨by decide,List.forall_mem_cons.2 ⟨by omega,fun _ h=>nomatch h⟩⟩) (by first|omega|(simp only[List.length_append,List.length_nil];omega))) (by rw[show(wh r i++bY [fE,r.bars[i]!.name,r.bars[i]!.range])++bY [ek,r.bars[i]!.when']=wh r (i+1)from by rw[hxb,hbt,hwt,List.append_assoc]];exact hK)) (hn:=by decide) ?_;refine aV ?_;exact⟨i+1,(by omega),by omega,(aX.to [(0,0),(2,2),(28,3)] ae ae dt (by refine aO.eS ae ae ae ?_;refine aO.bl 2 ae ae ae (congrArg List.length (rfl)) rfl ?_;refine aO.rw 28 ae ae (rfl) ?_;exact aO.nil))⟩
  refine av ?_;have hno:gX r.bars[i]!.when'=[]:=if_pos (by simpa using hc7);refine ax ?_;exact⟨i+1,(by omega),by omega,(aX.to [(0,0),(2,2),(20,3)] ae ae dt (by refine aO.eS ae ae ae ?_;refine aO.bl 2 ae ae ae (congrArg List.length (by rw[hxb,hbt,hno,List.append_nil])) rfl ?_;refine aO.rw 20 ae ae (by rw[hxb,hbt,hno,List.append_nil]) ?_;exact aO.nil))⟩
 refine ax ?_;have h33:i=r.bars.length:=by omega
 subst h33;refine av ?_;intro u4;refine ar ?_;refine aY hm (ι:=Nat) (fun i=>[.un,.un,⟨true,.ptr 0 9 0 0⟩,⟨true,.ptr 2 2 0 0⟩,.un,.un,.un,.un,.un,.un,.un,.un,.un,.un,.un,.un,.un,.un,.un,.un,.un,.un,.un,.un,.un,.un,⟨true,.int .i64 (i:Nat)⟩,⟨true,.int .i64 (r.feats.length:Nat)⟩,.un,⟨true,.sl 2 (r.feats.map bd.D)⟩,.un]) (fun i=>[(0,.buf 9 [Rec.D r]),(2,.bld (some 3) (yl r i).length true),(3,.row (yl r i))]) 10 (fun i=>i≤r.feats.length) (fun i=>r.feats.length-i) 0 (by omega) (aX.to [(0,0),(2,2),(3,3)] ae ae dt (by refine aO.eS ae ae ae ?_;refine aO.bl 2 ae ae ae (congrArg List.length (by rw[Ig])) rfl ?_;refine aO.rw 3 ae ae (by rw[Ig]) ?_;exact aO.nil)) ?_;intro i hi;have q1:=Ec hft i hi;refine av ?_;refine cd (fun hc8=>?_) fun hc8=>?_
 ·refine av ?_;have q4:=hft.f _ (bA (show i<r.feats.length by omega));have q5:=q4.1.1;have q6:=q4.2;have q8:∀t∈r.feats[i]!.of,t.length≤2097200:=fun t ht=>Nat.le_trans (q4.1.2.2 t ht) (by decide)
  have hxf:=Bp (r:=r) (i:=i) (by omega);refine aC ?_;refine bD (v:=bd.D r.feats[i]!) (hi:=fun _=>by omega) ?_;refine aC ?_;refine aL (bd.D r.feats[i]!) (he:=by exact rfl) ?_;refine ax ?_;refine cx [(.str _),(.str _)] ?_;refine ar ?_;refine tk (zs:=([bQ,r.feats[i]!.name]++r.feats[i]!.of).map D.str) (n:=([bQ,r.feats[i]!.name]++r.feats[i]!.of).length) (ha:=by simp) (he:=rQ.sl) (hz:=by rw[List.drop_zero];rfl) (hn:=by simp<;>omega) (hb:=by simp only[List.length_cons,List.length_nil,List.cons_append,List.nil_append];omega) ?_;refine bW (nx':=16) (v:=.tup []) (m':=[(21,.row (yl r (i+1))),(0,.buf 9 [Rec.D r]),(2,.bld (some 21) (yl r (i+1)).length true),(13,.buf 2 [bd.D r.feats[i]!])]) (hc:=fun K' hK=>h450 ([bQ,r.feats[i]!.name]++r.feats[i]!.of) (yl r i) 2 20 _ _ K' (.inr ⟨3,true,by exact rfl,by exact rfl⟩) ae (by simp only[List.length_cons,List.length_nil];omega) (by simp only[List.length_cons,List.length_nil];omega) (.mk (l:=r.feats[i]!.name::r.feats[i]!.of) (by decide) (by simp only[List.length_cons,List.length_nil,List.cons_append,List.nil_append];omega) (List.forall_mem_cons.2 ⟨by decide,List.forall_mem_cons.2 ⟨by omega,q8⟩⟩) (by first|omega|(simp only[List.length_append,List.length_nil];omega))) (by rw[show(yl r i)++bY ([bQ,r.feats[i]!.name]++r.feats[i]!.of)=yl r (i+1)from by rw[hxf];rfl];exact hK)) (hn:=by decide) ?_;refine aV ?_;exact⟨i+1,(by omega),by omega,(aX.to [(0,0),(2,2),(21,3)] ae ae dt (by refine aO.eS ae ae ae ?_;refine aO.bl 2 ae ae ae (congrArg List.length (rfl)) rfl ?_;refine aO.rw 21 ae ae (rfl) ?_;exact aO.nil))⟩
 refine av ?_;have h33:i=r.feats.length:=by omega
 subst h33;have hne:yl r r.feats.length≠[]:=by
  rw[zA];unfold nN pX bY;simp[aM,cL]
 refine bW (nx':=11) (v:=.str (yl r r.feats.length)) (m':=[(0,.buf 9 [Rec.D r])]) (hc:=fun K' hK=>h452 _ _ K' ⟨2,yl r r.feats.length,rfl,.inr ⟨3,true,by exact rfl,by exact rfl⟩,hne,hK⟩) (hn:=by decide) ?_;refine av ?_;refine ch ?_;exact zA r
end Go.Abs
end
namespace Go.Abs
def Ld.zx {r:Ld}(h:r.sm):r.to r.rest=r:=by
 obtain⟨ls,n⟩:=r;have h1:n≤ls.length:=h.1.1;simp only[Ld.to,Ld.rest,List.length_drop,Ld.mk.injEq,true_and];omega
def Ld.uh {r:Ld}{q:List ai}(h:q<:+r.ls):(r.to q).rest=q:=by
 obtain⟨ls,n⟩:=r;obtain⟨a,e⟩:=h;simp only at e;subst e;simp[Ld.rest,Ld.to]
def Ld.sm.to {r:Ld}(h:r.sm)(q:List ai):(r.to q).sm:=⟨⟨Nat.sub_le _ _,h.1.2⟩,h.2⟩
def Ld.vR (r:Ld):r.rest<:+r.ls:=List.drop_suffix _ _
def dn (w:ai)(n:Nat)(op:Bool)(p:List ai):List ai:=match bI w n op p with
 |some (_,q)=>q
 |none=>p
def mR {w:ai}{n:Nat}{op:Bool}{p l q:List ai}(h:bI w n op p=some (l,q)):q<:+p:=by
 obtain⟨t,rfl,_⟩:=cI h;exact List.suffix_cons _ _
def Ld.zT {r:Ld}{p:List ai}(hp:p<:+r.ls){w:ai}{n:Nat}{op:Bool}:(r.to p).after (bI w n op p)=r.to (dn w n op p):=by
 unfold dn;cases h:bI w n op p with
 |none=>rfl
 |some lq=>
  obtain⟨l,q⟩:=lq;have:=gS h;have:=hp.length_le;simp only[Ld.after,Ld.to,Ld.mk.injEq,true_and];omega
def uc {Γ:Ctx}(h:Iz Γ){r:Ld}(hr:r.sm){p:List ai}(hp:p<:+r.ls){w:ai}{n:Nat}{op:Bool}(hn:n≤1000)(ho:op=true→1≤n):
  Γ.fp 465 (Ld.D (r.to p)) [.str w,.int .i64 (n:Nat),.bool op]∧Γ.fv 465 (Ld.D (r.to p)) [.str w,.int .i64 (n:Nat),.bool op]=.tup [wT (bI w n op p),.bool (bI w n op p).isSome]∧Γ.fs 465 (Ld.D (r.to p)) [.str w,.int .i64 (n:Nat),.bool op]=Ld.D (r.to (dn w n op p)):=by
 have:=h (r.to p) w n op (hr.to p) hn ho;rw[Ld.uh hp,Ld.zT hp]at this;exact this
def su {w:ai}{n:Nat}{op:Bool}{t:ai}{l:List ai}(h:dd w n op t=some l):(n=0∨l.length=n)∧[]∉l∧l=dx n op t:=by
 unfold dd at h;split at h
 ·rename_i hc;obtain rfl:=Option.some.inj h;exact⟨hc.2.1,hc.2.2,rfl⟩
 ·cases h
def lQ (x:UInt8):∀(l:List ai)(n:Nat),(aM [x] (l.drop n)).length≤(aM [x] l).length
 |[],n=>by simp
 |a::r,0=>Nat.le_refl _
 |[a],n+1=>by simp[aM]
 |a::b::r,n+1=>by
  have:=lQ x (b::r) n;rw[List.drop_succ_cons,fu [x] a (b::r) (by simp)];simp only[List.length_append];omega
def Bv {n:Nat}{op:Bool}{t w:ai}(h:w∈dx n op t):w.length≤t.length:=by
 unfold dx at h;split at h
 ·unfold nS at h;split at h
  ·exact dj t 32 h
  ·rw[List.mem_append]at h;rcases h with h|h
   ·exact dj t 32 (List.mem_of_mem_take h)
   ·simp only[List.mem_singleton]at h;subst h;have:=lQ 32 (ah t 32) (n-1);rw[iI (b:=32) (x:=32) rfl t]at this;exact this
 ·exact dj t 32 h
def mq {r:Ld}(hr:r.sm){p:List ai}(hp:p<:+r.ls){w:ai}{n:Nat}{op:Bool}{l q:List ai}(h:bI w n op p=some (l,q)):
  (n=0∨l.length=n)∧(∀u∈l,u.length≤1048576)∧q<:+r.ls∧q.length+1=p.length:=by
 obtain⟨t,rfl,ht⟩:=cI h;obtain⟨h1,_,h3⟩:=su ht;refine⟨h1,fun u hu=>?_,(List.suffix_cons _ _).trans hp,rfl⟩;rw[h3]at hu;have:=Bv hu;have:=hr.2 t (hp.subset (.head _));omega
def Ld.back {r:Ld}{t:ai}{q:List ai}(h:(t::q)<:+r.ls):tM (Ld.D (r.to q)) 2 1 1 (.int .i64 (((r.to q).at':Nat) -1:Int))=Ld.D (r.to (t::q)):=by
 have:=h.length_le;show D.agg [.sl 1 (r.ls.map D.str),.int .i64 (((r.ls.length-q.length:Nat):Int) -1)]=D.agg [.sl 1 (r.ls.map D.str),.int .i64 ((r.ls.length-(q.length+1):Nat):Int)];simp only[List.length_cons]at this;congr 4;omega
def ie {α:Type}{o:Option α}(h:o.isSome=true):∃a,o=some a:=Option.isSome_iff_exists.1 h
def ic {α:Type}{o:Option α}(h:o.isSome=false):o=none:=by cases o with
 |none=>rfl
 |some a=>cases h
def bm.N (x:bm):Go.Abs.D:=.agg [.str x.name,.str x.range,JA x.feats,.bool x.bare]
def Mb:∀l:List ai,tR (JA l) (.sl 1 (l.map D.str))
 |[]=>.nil 1
 |_::_=>.refl _
def bm.wk (x:bm):tR x.N x.D:=.ag (.cons (.refl _) (.cons (.refl _) (.cons (Mb _) (.cons (.refl _) .nil))))
def bm.mg (x:bm):x.N.a7=true:=by
 simp only[bm.N,D.a7,aT,xM,Bool.and_true]
def zF {p:List ai}(h:bI fj 5 true p=none):bL p=([],p):=by
 match p,h with
 |[],_=>rfl
 |t::r,h=>
  simp only[bI]at h;split at h
  ·cases h
  ·rename_i hn;simp only[bL,hn]
def C8 {p l q:List ai}(h:bI fj 5 true p=some (l,q))(ho:js l=false):bL p=([],p):=by
 obtain⟨t,rfl,ht⟩:=cI h;simp only[bL,ht,ho,Bool.false_eq_true,if_false]
def Bu {p l q:List ai}(h:bI fj 5 true p=some (l,q))(ho:js l=true):bL p=(e7 l::(bL q).1,(bL q).2):=by
 obtain⟨t,rfl,ht⟩:=cI h;simp only[bL,ht,ho,if_true]
def m5 (s:ai)(b:Int):ah s b≠[]:=by
 have:=dR b s [];intro h;unfold ah at h;rw[h]at this;simp at this
def G6 {l:List ai}(h:l≠[]):JA l=.sl 1 (l.map D.str):=by
 match l,h with
 |_::_,_=>rfl
def iM (p:List ai):(bG p).2<:+p:=by
 unfold bG;split
 ·rename_i h;exact mR h
 ·exact List.suffix_refl _
def Hh (p:List ai):(mH p).2<:+p:=by
 unfold mH;split
 ·rename_i h;exact mR h
 ·exact List.suffix_refl _
end Go.Abs
section
namespace Go.Abs
open Go
def iB:aB:=⟨1,5,gG,bO,(sq (r1 [gm cse] 1 0) (sq (sq (rg [gm s0,gn (.callF 465 l0 [(cs [119,104,101,110]),jF,me] Jh),gm l1,ge l2 0,ge l2 1,gm l3,gm l4] [(4,5),(2,6)]) (sq (r1 [gm s2] 3 0) (.cond s3 (sq (r1 [gm s4,ga 1 l0 bR,gd l1,gm l2] 1 3) .ret) .skip))) (uO cse)))⟩
def w468 {Γ:Ctx}(hm:(Γ.at 1).a8)(h465:Iz (Γ.at 1))(r:Ld)  (hp0:r.sm):bz (Γ.at 1) iB.body (Ek iB 2 (.str (bG r.rest).1) (Ld.D (r.to (bG r.rest).2)):Ex→List bx→St→Prop) (ed iB (.ptr 0 2 0 0::[])) ⟨1,[(0,.buf 2 [(Ld.D r)])]⟩:=by
 show bz _ _ _ [⟨true,.ptr 0 2 0 0⟩,.un,.un,.un,.un] ⟨1,[(0,.buf 2 [(Ld.D r)])]⟩;have hself:=Ld.zx hp0;have hq1:=r.vR;refine aj ?_;refine ax ?_;rw[show Ld.D r=Ld.D (r.to r.rest)by rw[hself]];refine aC ?_;refine lu (hc:=uc h465 hp0 (p:=r.rest) hq1 (w:=ek) (n:=2) (op:=true) (by decide) (by decide)) ?_;refine aC ?_;refine dU _ ?_;refine bB ?_;refine cd (fun hc0=>?_) fun hc0=>?_
 ·refine ar ?_;obtain⟨⟨l,q2⟩,hq⟩:=ie hc0;have hnr:dn ek 2 true r.rest=q2:=by simp only[dn,hq]
  obtain⟨hl,hlm,hq2,hqp⟩:=mq hp0 hq1 hq;rw[hnr,hq];have hwp:bG r.rest=(l[1]!,q2):=by simp only[bG,hq]
  rw[hwp];refine aC ?_;refine bJ 1 (hb:=fun _=>by omega) ?_;refine bD (v:=.str l[1]!) (hi:=fun _=>by omega) ?_;refine av ?_;refine fC trivial di (Eq.trans ae (congrArg D.str ?_)) ae ae ae;rfl
 refine ar ?_;have hq:=ic hc0;have hnr:dn ek 2 true r.rest=r.rest:=by simp only[dn,hq]
 rw[hnr];have hwp:bG r.rest=([],r.rest):=by simp only[bG,hq]
 rw[hwp];refine av ?_;refine fC trivial di (Eq.trans ae (congrArg D.str ?_)) ae ae ae;rfl
def IA (Γ:Ctx):Prop:=∀(r:Ld),(r.sm)→Γ.fp 468 (Ld.D r) []∧Γ.fv 468 (Ld.D r) []=.str (bG r.rest).1∧Γ.fs 468 (Ld.D r) []=Ld.D (r.to (bG r.rest).2)
end Go.Abs
end
section
namespace Go.Abs
open Go
def iz:aB:=⟨1,12,[⟨1,some (3,true)⟩],[[.sl 4 [.a,.a,.sl 1 [.a],.a],.a,.a]],(sq (r1 [gb 3 (.c (.agg [.az,.str [],.str []]))] 1 0) (sq (r1 [gb 3 (.c (.agg [.az,.str [],.str []]))] 8 0) (sq (.block 0 (.loop (.block 1 (sq (rg [gm s0,gn (.callF 465 l0 [(cs [97,110,121]),B4,me] Jh),gm l1,ge l2 0,ge l2 1,gm l3,gm l4] [(4,5),(2,6)]) (sq (sq (r1 [gm s2,ix l0] 3 1) (.cond s3 (.exit 0) .skip)) (sq (sq (r1 [gm s4,ga 1 l0 jG,gd l1,bN l2 (cs [98,97,114,101]),gm l3,gmt 4 s4,bZ 4 (.ia 1 l5 jG),iO 4 l6,bZ 4 (dC l7 (cs [102,117,108,108])),dZ l4 l8] 5 9) (.cond s5 (sq (rg [gm s0,gc l0,gf 1 l1,gd l2,dP l3 bR,gc l0,gf 1 l5,gt 1 l6 l4] []) (.exit 0)) .skip)) (sq (r2 [gm s4,ga 1 l0 bR,gd l1,gm s4,ga 1 l3 tA,gd l4,gm s4,ga 1 l6 jG,gd l7,aG l8 (cs [98,97,114,101]),gn (.build [.str [],.str [],.az,.bool false] [(0,1,l2),(1,1,l5),(3,1,l9)]),gb 4 (.c (.agg [.str [],.str [],.az,.bool false])),gt 4 fI l10] 7 11) (sq (sq (r1 [gm s4,ga 1 l0 jF,gd l1,bN l2 (cs [45])] 6 3) (.cond s6 (rg [gm s4,ga 1 l0 jF,gd l1,gx 124 [l2,(cs [44])] gQ,gf 2 s7,gt 1 l4 l3] []) .skip)) (rg [gf 0 s8,gd l0,gk 4 true s7,gn (.bsl 4 (.agg [.str [],.str [],.az,.bool false]) 1 [(0,l2)]),gn (.app 4 l1 l3),gf 0 s8,gt 1 l5 l4] []))))))))) (sq (rg [gm s0,gn (.callF 468 l0 [] []),gf 1 s8,gt 1 l2 l1] []) (sq (sq (rg [gm s0,gn (.callF 465 l0 [(cs [111,112,116,105,111,110]),jF,ct] Jh),gm l1,ge l2 0,ge l2 1,gm l3,gm l4] [(11,5),(9,6)]) (sq (r1 [gm s9] 10 0) (.cond jx (rg [gm mc,ga 1 l0 bR,gd l1,gf 2 s8,gt 1 l3 l2] []) .skip))) (sq (rg [gk 3 true s8,gt 3 s1 l0] []) .ret))))))⟩
def zE {Γ:Ctx}(h:IA Γ){r:Ld}(hr:r.sm){p:List ai}(hp:p<:+r.ls):Γ.fp 468 (Ld.D (r.to p)) []∧Γ.fv 468 (Ld.D (r.to p)) []=.str (bG p).1∧Γ.fs 468 (Ld.D (r.to p)) []=Ld.D (r.to (bG p).2):=by
 have:=h (r.to p) (hr.to p);rw[Ld.uh hp]at this;exact this
def w467 {Γ:Ctx}(hm:(Γ.at 1).a8)(h124:FV (Γ.at 1))(h465:Iz (Γ.at 1))(h468:IA (Γ.at 1))(r:Ld)  (hp0:r.sm):bz (Γ.at 1) iz.body (Ek iz 2 (aP.D (dA r.rest).1) (Ld.D (r.to (dA r.rest).2)):Ex→List bx→St→Prop) (ed iz (.ptr 0 2 0 0::[])) ⟨1,[(0,.buf 2 [(Ld.D r)])]⟩:=by
 show bz _ _ _ [⟨true,.ptr 0 2 0 0⟩,.un,.un,.un,.un,.un,.un,.un,.un,.un,.un,.un] ⟨1,[(0,.buf 2 [(Ld.D r)])]⟩;have hself:=Ld.zx hp0;have hq0:=r.vR;refine aj ?_;refine aJ ?_;refine aY hm (ι:=(List bm×List ai)) (fun p=>[⟨true,.ptr 0 2 0 0⟩,⟨true,.ptr 1 3 0 0⟩,.un,.un,.un,.un,.un,.un,⟨true,.ptr 2 3 0 0⟩,.un,.un,.un]) (fun p=>[(0,.buf 2 [Ld.D (r.to p.2)]),(1,.buf 3 [.agg [.az,.str [],.str []]]),(2,.buf 3 [.agg [.own 3 4 0 (p.1).length,.str [],.str []]]),(3,.buf 4 (p.1.map bm.N))]) 10 (fun p=>p.2<:+r.ls∧p.1.length+p.2.length≤r.ls.length∧bL r.rest=(p.1++(bL p.2).1,(bL p.2).2)) (fun p=>p.2.length) ([],r.rest) ⟨hq0,by simpa using hq0.length_le,by simp⟩ (aX.to [(1,1),(2,2)] ae ae dt (by refine aO.nl 0 ae ae (by rw[hself]) ae ?_;refine aO.eS ae ae ae ?_;refine aO.ni 2 ae ae (by exact⟨_,_,rfl,⟨_,rfl,⟨_,_,rfl,Or.inr ⟨_,_,_,rfl⟩,⟨_,_,rfl,⟨rfl,rfl⟩,⟨_,_,rfl,⟨rfl,rfl⟩,rfl⟩⟩⟩⟩,rfl⟩) ?_;refine aO.mt ae ae ae ae ?_;exact aO.nil)) ?_;rintro⟨A,p⟩ ⟨hq1,hlen,hw⟩;dsimp only at hq1 hlen hw⊢;have hll:=hp0.1.2;refine av ?_;refine lu (hc:=uc h465 hp0 (p:=p) hq1 (w:=fj) (n:=5) (op:=true) (by decide) (by decide)) ?_;refine aC ?_;refine dU _ ?_;refine cR ?_;refine aq (fun hc0=>?_) (fun hc0=>?_)
 ·simp only[Bool.not_eq_true']at hc0;have hq:=ic hc0;have hnr:dn fj 5 true p=p:=by simp only[dn,hq]
  rw[hnr];have hw2:bL r.rest=(A,p):=by rw[hw,zF hq,List.append_nil]
  refine ax ?_;have hq3:=(iM p).trans hq1;refine aC ?_;refine lu (hc:=zE h468 hp0 hq1) ?_;refine aC ?_;refine aL (.agg [.own 3 4 0 A.length,.str (bG p).1,.str []]) (he:=by exact rfl) ?_;refine ax ?_;refine lu (hc:=uc h465 hp0 (p:=(bG p).2) hq3 (w:=cr) (n:=2) (op:=false) (by decide) (by decide)) ?_;refine aC ?_;refine dU _ ?_;refine bB ?_;refine cd (fun hc3=>?_) fun hc3=>?_
  ·refine aC ?_;obtain⟨⟨l,q2⟩,hq⟩:=ie hc3;have hnr:dn cr 2 false (bG p).2=q2:=by simp only[dn,hq]
   obtain⟨hl,hlm,hq2,hqp⟩:=mq hp0 hq3 hq;rw[hnr,hq];obtain hl:l.length=2:=by rcases hl with h|h;cases h;exact h
   refine aC ?_;refine bJ 1 (hb:=fun _=>by omega) ?_;refine bD (v:=.str l[1]!) (hi:=fun _=>by omega) ?_;refine aC ?_;refine aL (.agg [.own 3 4 0 A.length,.str (bG p).1,.str l[1]!]) (he:=by exact rfl) ?_;refine aC ?_;have hnp:dA r.rest=(⟨A,(bG p).1,l[1]!⟩,q2):=by simp only[dA,hw2,mH,hq]
   rw[hnp];refine eu 3 (hn:=bg bm.mg _) (he:=by simp only[jr,fq,fV,ke,k9,bS,Nat.reduceEqDiff,if_true,if_false,and_self,true_and,and_true,false_and,and_false,Nat.zero_add,List.length_map,Nat.le_refl,List.drop_zero,aE,reduceCtorEq,List.length_cons,List.length_nil,Nat.reduceAdd,Nat.reduceLeDiff,Ld.D];exact rfl) (hm:=by simp only[jr,fq,fV,ke,k9,bS,Nat.reduceEqDiff,if_true,if_false,and_self,true_and,and_true,false_and,and_false,Nat.zero_add,List.length_map,Nat.le_refl,List.drop_zero,aE,reduceCtorEq,List.length_cons,List.length_nil,Nat.reduceAdd,Nat.reduceLeDiff,Ld.D];exact rfl) ?_;refine kY [(0,.buf 2 [Ld.D (r.to q2)]),(1,.buf 3 [.agg [.az,.str [],.str []]]),(2,.buf 3 [aP.D ⟨A,(bG p).1,l[1]!⟩])] (.id ae (.id ae (.bf ae (.cons (.ag (.cons (.ss (.map fun x _=>x.wk)) (.rf _))) .nil) .nil))) ?_;refine aC ?_;refine cG (d:=aP.D ⟨A,(bG p).1,l[1]!⟩) ?_;refine aL (aP.D ⟨A,(bG p).1,l[1]!⟩) (he:=by exact rfl) ?_;refine ar ?_;refine fC trivial tK (Eq.trans ae (?_)) ae ae ae;rfl
  refine aC ?_;have hq:=ic hc3;have hnr:dn cr 2 false (bG p).2=(bG p).2:=by simp only[dn,hq]
  rw[hnr];have hnp:dA r.rest=(⟨A,(bG p).1,[]⟩,(bG p).2):=by simp only[dA,hw2,mH,hq]
  rw[hnp];refine eu 3 (hn:=bg bm.mg _) (he:=by simp only[jr,fq,fV,ke,k9,bS,Nat.reduceEqDiff,if_true,if_false,and_self,true_and,and_true,false_and,and_false,Nat.zero_add,List.length_map,Nat.le_refl,List.drop_zero,aE,reduceCtorEq,List.length_cons,List.length_nil,Nat.reduceAdd,Nat.reduceLeDiff,Ld.D];exact rfl) (hm:=by simp only[jr,fq,fV,ke,k9,bS,Nat.reduceEqDiff,if_true,if_false,and_self,true_and,and_true,false_and,and_false,Nat.zero_add,List.length_map,Nat.le_refl,List.drop_zero,aE,reduceCtorEq,List.length_cons,List.length_nil,Nat.reduceAdd,Nat.reduceLeDiff,Ld.D];exact rfl) ?_;refine kY [(0,.buf 2 [Ld.D (r.to (bG p).2)]),(1,.buf 3 [.agg [.az,.str [],.str []]]),(2,.buf 3 [aP.D ⟨A,(bG p).1,[]⟩])] (.id ae (.id ae (.bf ae (.cons (.ag (.cons (.ss (.map fun x _=>x.wk)) (.rf _))) .nil) .nil))) ?_;refine aC ?_;refine cG (d:=aP.D ⟨A,(bG p).1,[]⟩) ?_;refine aL (aP.D ⟨A,(bG p).1,[]⟩) (he:=by exact rfl) ?_;refine ar ?_;refine fC trivial tK (Eq.trans ae (?_)) ae ae ae;rfl
 simp only[Bool.not_eq_false']at hc0;obtain⟨⟨l,q2⟩,hq⟩:=ie hc0;have hnr:dn fj 5 true p=q2:=by simp only[dn,hq]
 obtain⟨hl,hlm,hq2,hqp⟩:=mq hp0 hq1 hq;rw[hnr,hq];obtain hl:l.length=5:=by rcases hl with h|h;cases h;exact h
 refine ax ?_;refine bJ 3 (hb:=fun _=>by omega) ?_;refine bD (v:=.str l[3]!) (hi:=fun _=>by omega) ?_;refine av ?_;refine bJ 3 (hb:=fun _=>by omega) ?_;refine bD (v:=.str l[3]!) (hi:=fun _=>by omega) ?_;refine av ?_;refine aq (fun hc1=>?_) (fun hc1=>?_)
 ·simp only[Bool.and_eq_true,Bool.not_eq_true',decide_eq_false_iff_not]at hc1;have hho:js l=false:=by unfold js;rw[decide_eq_false (show ¬l[3]! =cV from hc1.1),decide_eq_false (show ¬l[3]! =kt from hc1.2)];rfl
  have hw2:bL r.rest=(A,p):=by rw[hw,C8 hq hho,List.append_nil]
  obtain⟨t,hpt,_⟩:=cI hq;refine ar ?_;obtain⟨hab1,hab2⟩:=(hp0.to q2).1;refine av ?_;refine bc (v:=.int .i64 ((r.to q2).at':Nat)) ?_;refine av ?_;refine aL (Ld.D (r.to p)) (he:=by rw[hpt];exact Ld.back (hpt▸hq1)) ?_;refine aJ ?_;have hq3:=(iM p).trans hq1;refine aC ?_;refine lu (hc:=zE h468 hp0 hq1) ?_;refine aC ?_;refine aL (.agg [.own 3 4 0 A.length,.str (bG p).1,.str []]) (he:=by exact rfl) ?_;refine ax ?_;refine lu (hc:=uc h465 hp0 (p:=(bG p).2) hq3 (w:=cr) (n:=2) (op:=false) (by decide) (by decide)) ?_;refine aC ?_;refine dU _ ?_;refine bB ?_;refine cd (fun hc3=>?_) fun hc3=>?_
  ·refine aC ?_;obtain⟨⟨l,q2⟩,hq⟩:=ie hc3;have hnr:dn cr 2 false (bG p).2=q2:=by simp only[dn,hq]
   obtain⟨hl,hlm,hq2,hqp⟩:=mq hp0 hq3 hq;rw[hnr,hq];obtain hl:l.length=2:=by rcases hl with h|h;cases h;exact h
   refine aC ?_;refine bJ 1 (hb:=fun _=>by omega) ?_;refine bD (v:=.str l[1]!) (hi:=fun _=>by omega) ?_;refine aC ?_;refine aL (.agg [.own 3 4 0 A.length,.str (bG p).1,.str l[1]!]) (he:=by exact rfl) ?_;refine aC ?_;have hnp:dA r.rest=(⟨A,(bG p).1,l[1]!⟩,q2):=by simp only[dA,hw2,mH,hq]
   rw[hnp];refine eu 3 (hn:=bg bm.mg _) (he:=by simp only[jr,fq,fV,ke,k9,bS,Nat.reduceEqDiff,if_true,if_false,and_self,true_and,and_true,false_and,and_false,Nat.zero_add,List.length_map,Nat.le_refl,List.drop_zero,aE,reduceCtorEq,List.length_cons,List.length_nil,Nat.reduceAdd,Nat.reduceLeDiff,Ld.D];exact rfl) (hm:=by simp only[jr,fq,fV,ke,k9,bS,Nat.reduceEqDiff,if_true,if_false,and_self,true_and,and_true,false_and,and_false,Nat.zero_add,List.length_map,Nat.le_refl,List.drop_zero,aE,reduceCtorEq,List.length_cons,List.length_nil,Nat.reduceAdd,Nat.reduceLeDiff,Ld.D];exact rfl) ?_;refine kY [(0,.buf 2 [Ld.D (r.to q2)]),(1,.buf 3 [.agg [.az,.str [],.str []]]),(2,.buf 3 [aP.D ⟨A,(bG p).1,l[1]!⟩])] (.id ae (.id ae (.bf ae (.cons (.ag (.cons (.ss (.map fun x _=>x.wk)) (.rf _))) .nil) .nil))) ?_;refine aC ?_;refine cG (d:=aP.D ⟨A,(bG p).1,l[1]!⟩) ?_;refine aL (aP.D ⟨A,(bG p).1,l[1]!⟩) (he:=by exact rfl) ?_;refine ar ?_;refine fC trivial tK (Eq.trans ae (?_)) ae ae ae;rfl
  refine aC ?_;have hq:=ic hc3;have hnr:dn cr 2 false (bG p).2=(bG p).2:=by simp only[dn,hq]
  rw[hnr];have hnp:dA r.rest=(⟨A,(bG p).1,[]⟩,(bG p).2):=by simp only[dA,hw2,mH,hq]
  rw[hnp];refine eu 3 (hn:=bg bm.mg _) (he:=by simp only[jr,fq,fV,ke,k9,bS,Nat.reduceEqDiff,if_true,if_false,and_self,true_and,and_true,false_and,and_false,Nat.zero_add,List.length_map,Nat.le_refl,List.drop_zero,aE,reduceCtorEq,List.length_cons,List.length_nil,Nat.reduceAdd,Nat.reduceLeDiff,Ld.D];exact rfl) (hm:=by simp only[jr,fq,fV,ke,k9,bS,Nat.reduceEqDiff,if_true,if_false,and_self,true_and,and_true,false_and,and_false,Nat.zero_add,List.length_map,Nat.le_refl,List.drop_zero,aE,reduceCtorEq,List.length_cons,List.length_nil,Nat.reduceAdd,Nat.reduceLeDiff,Ld.D];exact rfl) ?_;refine kY [(0,.buf 2 [Ld.D (r.to (bG p).2)]),(1,.buf 3 [.agg [.az,.str [],.str []]]),(2,.buf 3 [aP.D ⟨A,(bG p).1,[]⟩])] (.id ae (.id ae (.bf ae (.cons (.ag (.cons (.ss (.map fun x _=>x.wk)) (.rf _))) .nil) .nil))) ?_;refine aC ?_;refine cG (d:=aP.D ⟨A,(bG p).1,[]⟩) ?_;refine aL (aP.D ⟨A,(bG p).1,[]⟩) (he:=by exact rfl) ?_;refine ar ?_;refine fC trivial tK (Eq.trans ae (?_)) ae ae ae;rfl
 simp only[Bool.and_eq_false_iff,Bool.not_eq_false',decide_eq_true_eq]at hc1;have hho:js l=true:=by
  unfold js;rcases hc1 with h|h
  ·rw[decide_eq_true (show l[3]! =cV from h)];rfl
  ·rw[decide_eq_true (show l[3]! =kt from h),Bool.or_true]
 have hwy:=Bu hq hho;refine av ?_;refine bJ 1 (hb:=fun _=>by omega) ?_;refine bD (v:=.str l[1]!) (hi:=fun _=>by omega) ?_;refine aC ?_;refine bJ 4 (hb:=fun _=>by omega) ?_;refine bD (v:=.str l[4]!) (hi:=fun _=>by omega) ?_;refine aC ?_;refine bJ 3 (hb:=fun _=>by omega) ?_;refine bD (v:=.str l[3]!) (hi:=fun _=>by omega) ?_;refine aC ?_;refine aW (.agg [.str l[1]!,.str l[4]!,.az,.bool (decide (l[3]! =cV))]) ?_;refine aC ?_;refine aL (.agg [.str l[1]!,.str l[4]!,.az,.bool (decide (l[3]! =cV))]) (he:=by exact rfl) ?_;refine ax ?_;refine bJ 2 (hb:=fun _=>by omega) ?_;refine bD (v:=.str l[2]!) (hi:=fun _=>by omega) ?_;refine ar ?_;refine cd (fun hc2=>?_) fun hc2=>?_
 ·refine ar ?_;refine bJ 2 (hb:=fun _=>by omega) ?_;refine bD (v:=.str l[2]!) (hi:=fun _=>by omega) ?_;refine ak (hc:=h124 l[2]! 44 (hlm _ (bA (by omega)))) ?_;refine aC ?_;refine aL (bm.N (e7 l)) (he:=by show _=D.agg [.str l[1]!,.str l[4]!,JA (if l[2]! =[45]then []else ah l[2]! 44),.bool (decide (l[3]! =cV))];rw[if_neg hc2,G6 (m5 _ _)];exact rfl) ?_;refine av ?_;refine bc (v:=.own 3 4 0 A.length) ?_;refine cG (d:=bm.N (e7 l)) ?_;refine cx [bm.N (e7 l)] ?_;refine kM (q:=bm.N) (xs:=A) (e:=e7 l) ?_;refine aC ?_;refine aL (.agg [.own 56 4 0 (A++[e7 l]).length,.str [],.str []]) (he:=by exact rfl) ?_;refine av ?_;exact⟨(A++[e7 l],q2),⟨hq2,by simp only[List.length_append,List.length_cons,List.length_nil];omega,by rw[hw,hwy];simp⟩,by dsimp only;omega,(aX.to [(1,1),(2,2),(56,3)] ae ae dt (by refine aO.eS ae ae ae ?_;refine aO.eS ae ae ae ?_;refine aO.eq 2 ae ae ae ?_;refine aO.nl 56 ae ae rfl (by exact bg bm.mg _) ?_;exact aO.nil))⟩
 refine ar ?_;rw[show(D.agg [.str l[1]!,.str l[4]!,.az,.bool (decide (l[3]! =cV))])=bm.N (e7 l)by show _=D.agg [.str l[1]!,.str l[4]!,JA (if l[2]! =[45]then []else ah l[2]! 44),.bool (decide (l[3]! =cV))];rw[if_pos hc2];rfl];refine aC ?_;refine bc (v:=.own 3 4 0 A.length) ?_;refine cG (d:=bm.N (e7 l)) ?_;refine cx [bm.N (e7 l)] ?_;refine kM (q:=bm.N) (xs:=A) (e:=e7 l) ?_;refine aC ?_;refine aL (.agg [.own 50 4 0 (A++[e7 l]).length,.str [],.str []]) (he:=by exact rfl) ?_;refine av ?_;exact⟨(A++[e7 l],q2),⟨hq2,by simp only[List.length_append,List.length_cons,List.length_nil];omega,by rw[hw,hwy];simp⟩,by dsimp only;omega,(aX.to [(1,1),(2,2),(50,3)] ae ae dt (by refine aO.eS ae ae ae ?_;refine aO.eS ae ae ae ?_;refine aO.eq 2 ae ae ae ?_;refine aO.nl 50 ae ae rfl (by exact bg bm.mg _) ?_;exact aO.nil))⟩
def KV (Γ:Ctx):Prop:=∀(r:Ld),(r.sm)→Γ.fp 467 (Ld.D r) []∧Γ.fv 467 (Ld.D r) []=aP.D (dA r.rest).1∧Γ.fs 467 (Ld.D r) []=Ld.D (r.to (dA r.rest).2)
end Go.Abs
end
namespace Go.Abs
def Dd (Γ:Ctx):Prop:=∀(r:Ld)(w:ai)(n:Nat)(op:Bool)(l nx:Nat)(m:List (Nat×bo))(K:D→St→Prop),r.sm→n≤1000→(op=true→1≤n)→look m l=some (.buf 2 [Ld.D r])→
 K (.tup [wT (bI w n op r.rest),.bool (bI w n op r.rest).isSome]) ⟨nx,cE m l (.buf 2 [Ld.D (r.after (bI w n op r.rest))])⟩→Γ.tr 465 [.ptr l 2 0 0,.str w,.int .i64 (n:Nat),.bool op] ⟨nx,m⟩ K
def ud {Γ:Ctx}(h:Dd Γ){r:Ld}(hr:r.sm){p:List ai}(hp:p<:+r.ls){w:ai}{n:Nat}{op:Bool}(hn:n≤1000)(ho:op=true→1≤n){nx:Nat}{m:List (Nat×bo)}{K:D→St→Prop}(hl:look m 0=some (.buf 2 [Ld.D (r.to p)]))
  (hK:K (.tup [wT (bI w n op p),.bool (bI w n op p).isSome]) ⟨nx,cE m 0 (.buf 2 [Ld.D (r.to (dn w n op p))])⟩):Γ.tr 465 [.ptr 0 2 0 0,.str w,.int .i64 (n:Nat),.bool op] ⟨nx,m⟩ K:=by
 refine h (r.to p) w n op 0 nx m K (hr.to p) hn ho hl ?_;rw[Ld.uh hp,Ld.zT hp];exact hK
def Jy {Γ:Ctx}(h:KV Γ){r:Ld}(hr:r.sm){p:List ai}(hp:p<:+r.ls):Γ.fp 467 (Ld.D (r.to p)) []∧Γ.fv 467 (Ld.D (r.to p)) []=aP.D (dA p).1∧Γ.fs 467 (Ld.D (r.to p)) []=Ld.D (r.to (dA p).2):=by
 have:=h (r.to p) (hr.to p);rw[Ld.uh hp]at this;exact this
def mz:∀p:List ai,(bL p).2<:+p
 |[]=>List.suffix_refl _
 |t::r=>by
  simp only[bL];split
  ·split
   ·exact(mz r).trans (List.suffix_cons _ _)
   ·exact List.suffix_refl _
  ·exact List.suffix_refl _
def py (p:List ai):(dA p).2<:+p:=(Hh _).trans ((iM _).trans (mz p))
def Ag {p:List ai}(h:bI bQ 0 false p=none):cA p=([],p):=by
 match p,h with
 |[],_=>rfl
 |t::r,h=>
  simp only[bI]at h;split at h
  ·cases h
  ·rename_i hn;simp only[cA,hn]
def EF {p l q:List ai}(h:bI bQ 0 false p=some (l,q))(ho:¬2≤l.length):cA p=([],p):=by
 obtain⟨t,rfl,ht⟩:=cI h;simp only[cA,ht,ho,if_false]
def BY {p l q:List ai}(h:bI bQ 0 false p=some (l,q))(ho:2≤l.length):cA p=(⟨l[1]!,l.drop 2⟩::(cA q).1,(cA q).2):=by
 obtain⟨t,rfl,ht⟩:=cI h;simp only[cA,ht,ho,if_true]
def dX (ls:List ai):Rec×List ai:=match mY ls with
 |some p=>p
 |none=>(ik,ls)
def cD:D:=.agg [.str [],.int .i64 0,.int .i64 0,.int .i64 0,.str [],.str [],.az,.az,.az]
def j6:tR cD ik.D:=.ag (.cons (.refl _) (.cons (.refl _) (.cons (.refl _) (.cons (.refl _) (.cons (.refl _) (.cons (.refl _) (.cons (.nil 3) (.cons (.nil 3) (.cons (.nil 2) .nil)))))))))
def mU (nm:ai)(v:b7)(n b f:D):D:=.agg [.str nm,.int .i64 v.major,.int .i64 v.minor,.int .i64 v.patch,.str v.pre,.str v.build,n,b,f]
def MP {s:ai}(h:kO s=0):∃v,ee s=some v:=by
 unfold kO at h;split at h
 ·rename_i hs;exact ie hs
 ·cases h
def MO {s:ai}(h:¬kO s=0):ee s=none:=by
 unfold kO at h;split at h
 ·exact absurd rfl h
 ·rename_i hs;exact ic (by simpa using hs)
def yn (n:Nat)(op:Bool)(t:ai):(dx n op t).length≤t.length+1:=by
 have h:=cn t 32;have hp:=dR 32 t [];unfold dx;split
 ·unfold nS;split
  ·exact h
  ·simp only[List.length_append,List.length_take,List.length_cons,List.length_nil];have:1≤(ah t 32).length:=hp;omega
 ·exact h
def G5 {r:Ld}(hr:r.sm){p:List ai}(hp:p<:+r.ls){w:ai}{n:Nat}{op:Bool}{l q:List ai}(h:bI w n op p=some (l,q)):l.length≤1048577:=by
 obtain⟨t,rfl,ht⟩:=cI h;obtain⟨_,_,h3⟩:=su ht;have:=yn n op t;have:=hr.2 t (hp.subset (.head _));rw[h3];omega
end Go.Abs
section
namespace Go.Abs
open Go
def gB:aB:=⟨1,20,[⟨1,some (9,true)⟩,⟨2,none⟩],[[.a,.a,.a,.a,.a,.a,.sl 3 [.sl 4 [.a,.a,.sl 1 [.a],.a],.a,.a],.sl 3 [.a,.a,.a],.sl 2 [.a,.sl 1 [.a]]],[.a]],(sq (rg [gb 9 (.c (.agg [.str [],.int .i64 0,.int .i64 0,.int .i64 0,.str [],.str [],.az,.az,.az])),gm ct] [(1,0),(2,1)]) (sq (r1 [gm s0,gn (.mkf 1000465 [l0]),gm l1] 3 2) (sq (rg [gm s3,gn (.callvM l0 [(cs [112,97,99,107,97,103,101]),jG,ct]),gm l1,ge l2 0,ge l2 1,gm l3,gm l4] [(6,5),(4,6)]) (sq (sq (r1 [gm s4,ix l0] 5 1) (.cond s5 (sq (r1 [gn (.build [.str [],.int .i64 0,.int .i64 0,.int .i64 0,.str [],.str [],.az,.az,.az] []),gt 9 s1 l0,gm ct] 2 2) .ret) .skip)) (sq (rg [gm s6,ga 1 l0 jF,gd l1,gx 466 [l2] bO,gm l3,ge l4 0,ge l4 1,gb 5 (.c (.agg [.int .i64 0,.int .i64 0,.int .i64 0,.str [],.str []])),gt 5 l7 l5,gm l6] [(9,7),(7,9)]) (sq (sq (r1 [gm s7,bN l0 bh] 8 1) (.cond s8 (sq (rg [gm s0,gc l0,gf 1 l1,gd l2,dP l3 bR,gc l0,gf 1 l5,gt 1 l6 l4] []) (sq (r1 [gn (.build [.str [],.int .i64 0,.int .i64 0,.int .i64 0,.str [],.str [],.az,.az,.az] []),gt 9 s1 l0,gm ct] 2 2) .ret)) .skip)) (sq (r2 [gm s6,ga 1 l0 bR,gd l1,gk 5 true s9,gn (.build [.str [],.int .i64 0,.int .i64 0,.int .i64 0,.str [],.str [],.az,.az,.az] [(0,1,l2),(1,5,l3)]),gb 9 (.c (.agg [.str [],.int .i64 0,.int .i64 0,.int .i64 0,.str [],.str [],.az,.az,.az])),gt 9 l5 l4] 12 5) (sq (.block 0 (.loop (.block 1 (sq (sq (r1 [gm s3,gn (.callvM l0 [(cs [110,101,101,100]),bR,ct]),gm l1,ge l2 0,ge l2 1,gm l3,gm l4] 10 6) (sq (r1 [gm jx,ix l0] 11 1) (.cond mc (.exit 0) .skip))) (rt [gf 6 lY,gn (.ldU 1 false l0),gm s0,gn (.callF 467 l2 [] []),gn (.bsl 3 (.agg [.az,.str [],.str []]) 1 [(0,l3)]),gn (.app 3 l1 l4),gf 6 lY,gt 1 l6 l5] []))))) (sq (.block 2 (.loop (.block 3 (sq (rg [gm s3,gn (.callvM l0 [(cs [98,97,114]),jG,me]),gm l1,ge l2 0,ge l2 1,gm l3,gm l4] [(15,5),(13,6)]) (sq (sq (r1 [gm pP,ix l0] 14 1) (.cond tn (.exit 2) .skip)) (rt [gf 7 lY,gn (.ldU 1 false l0),gm vW,ga 1 l2 bR,gn (.ldU 1 false l3),gm vW,ga 1 l5 jF,gn (.ldU 1 false l6),gm s0,gn (.callF 468 l8 [] []),gn (.build [.str [],.str [],.str []] [(0,1,l4),(1,1,l7),(2,1,l9)]),gn (.bsl 3 (.agg [.str [],.str [],.str []]) 1 [(0,l10)]),gn (.app 3 l1 fI),gf 7 lY,gt 1 iQ gV] [])))))) (sq (.block 4 (.loop (.block 5 (sq (rg [gm s3,gn (.callvM l0 [(cs [102,101,97,116,117,114,101]),bh,ct]),gm l1,ge l2 0,ge l2 1,gm l3,gm l4] [(18,5),(16,6)]) (sq (sq (r1 [gm BF,ix l0] 17 1) (.cond Bc (.exit 4) .skip)) (sq (sq (r1 [gm Fq,gl l0,aN l1 jF] 19 2) (.cond MH (sq (rg [gm s0,gc l0,gf 1 l1,gd l2,dP l3 bR,gc l0,gf 1 l5,gt 1 l6 l4] []) (.exit 4)) .skip)) (rt [gf 8 lY,gd l0,gm Fq,ga 1 l2 bR,gd l3,gm Fq,gn (.slA 1 l5 (some jF) none),gx 469 [l6] [[.sl 1 [.a]]],gn (.build [.str [],.az] [(0,1,l4),(1,1,l7)]),gn (.bsl 2 (.agg [.str [],.az]) 1 [(0,l8)]),gn (.app 2 l1 l9),gf 8 lY,gt 1 fI l10] []))))))) (sq (r1 [gk 9 true lY,gt 9 s1 l0,gm me] 2 2) .ret)))))))))))⟩
def w222 {Γ:Ctx}(hm:(Γ.at 1).a8)(h466:NR (Γ.at 1))(h467:KV (Γ.at 1))(h468:IA (Γ.at 1))(h469:NS (Γ.at 1))(h9465:Dd (Γ.at 1))(r:Ld)  (hp0:r.sm):bz (Γ.at 1) gB.body (Ek gB 2 (.tup [Rec.D (dX r.rest).1,.bool (mY r.rest).isSome]) (Ld.D (r.to (dX r.rest).2)):Ex→List bx→St→Prop) (ed gB (.ptr 0 2 0 0::[])) ⟨1,[(0,.buf 2 [(Ld.D r)])]⟩:=by
 show bz _ _ _ [⟨true,.ptr 0 2 0 0⟩,.un,.un,.un,.un,.un,.un,.un,.un,.un,.un,.un,.un,.un,.un,.un,.un,.un,.un,.un] ⟨1,[(0,.buf 2 [(Ld.D r)])]⟩;have hself:=Ld.zx hp0;have hq1:=r.vR;have hll:=hp0.1.2;refine aj ?_;refine aJ ?_;refine Qa _ ?_;refine av ?_;rw[show Ld.D r=Ld.D (r.to r.rest)by rw[hself]];refine aC ?_;refine lC (n:=1000465) (aaz:=[.ptr 0 2 0 0,.str cL,.int .i64 ((3:Nat):Int),.bool false]) (ι:=Unit) (fun _=>True) (fun _=>.tup [wT (bI cL 3 false r.rest),.bool (bI cL 3 false r.rest).isSome]) 6 (fun _=>[(0,.buf 2 [Ld.D (r.to (dn cL 3 false r.rest))]),(1,.buf 9 [cD])]) (fun _ _=>?_) (hc:=fun K' hK=>ud h9465 hp0 hq1 (w:=cL) (n:=3) (op:=false) (by decide) (by decide) ae (hK () trivial)) (hn:=by decide);refine aC ?_;refine dU _ ?_;refine cR ?_;refine aq (fun hc0=>?_) (fun hc0=>?_)
 ·simp only[Bool.not_eq_true']at hc0;have hq:=ic hc0;have hnr:dn cL 3 false r.rest=r.rest:=by simp only[dn,hq]
  rw[hnr];have hrp:mY r.rest=none:=by simp only[mY,hq]
  have hrv:dX r.rest=(ik,r.rest):=by simp only[dX,hrp]
  rw[hrv,hrp];refine ar ?_;refine aW cD ?_;refine aL cD (he:=by exact rfl) ?_;refine ar ?_;refine kY [(0,.buf 2 [Ld.D (r.to r.rest)]),(1,.buf 9 [Rec.D ik])] (.id ae (.bf ae (.cons j6 .nil) .nil)) ?_;refine aC ?_;refine fC trivial tK (Eq.trans ae (aF ?_ ?_)) ae ae ae;all_goals rfl
 simp only[Bool.not_eq_false']at hc0;obtain⟨⟨l,q0⟩,hq⟩:=ie hc0;have hnr:dn cL 3 false r.rest=q0:=by simp only[dn,hq]
 obtain⟨hl,hlm,hq0,hqp⟩:=mq hp0 hq1 hq;rw[hnr,hq];obtain hl:l.length=3:=by rcases hl with h|h;cases h;exact h
 refine av ?_;refine bJ 2 (hb:=fun _=>by omega) ?_;refine bD (v:=.str l[2]!) (hi:=fun _=>by omega) ?_;refine ak (hc:=h466 l[2]! (hlm _ (bA (by omega)))) ?_;refine aC ?_;refine dU (b7.D _) ?_;refine ar ?_;refine aL (b7.D ((ee l[2]!).getD dY)) (he:=by exact rfl) ?_;refine aV ?_;refine aq (fun hc1=>?_) (fun hc1=>?_)
 ·simp only[Bool.not_eq_true',decide_eq_false_iff_not]at hc1;have hv:=MO hc1;have hrp:mY r.rest=none:=by simp only[mY,hq,hv]
  have hrv:dX r.rest=(ik,r.rest):=by simp only[dX,hrp]
  rw[hrv,hrp];obtain⟨t,hpt,_⟩:=cI hq;refine ar ?_;obtain⟨hab1,hab2⟩:=(hp0.to q0).1;refine av ?_;refine bc (v:=.int .i64 ((r.to q0).at':Nat)) ?_;refine av ?_;refine aL (Ld.D (r.to r.rest)) (he:=by rw[hpt];exact Ld.back (hpt▸hq1)) ?_;refine av ?_;refine aW cD ?_;refine aL cD (he:=by exact rfl) ?_;refine ar ?_;refine kY [(0,.buf 2 [Ld.D (r.to r.rest)]),(1,.buf 9 [Rec.D ik]),(22,.buf 5 [b7.D ((ee l[2]!).getD dY)])] (.id ae (.bf ae (.cons j6 .nil) (.id ae .nil))) ?_;refine aC ?_;refine fC trivial tK (Eq.trans ae (aF ?_ ?_)) ae ae ae;all_goals rfl
 simp only[Bool.not_eq_false',decide_eq_true_eq]at hc1;obtain⟨v,hv⟩:=MP hc1;rw[hv];have hrp:mY r.rest=some (pU l[1]! v q0):=by simp only[mY,hq,hv]
 have hrv:dX r.rest=pU l[1]! v q0:=by simp only[dX,hrp]
 rw[hrv,hrp];generalize hnm:l[1]! =nm;have hq01:=hq0.length_le;refine ar ?_;rw[←hnm];refine aC ?_;refine bJ 1 (hb:=fun _=>by omega) ?_;refine bD (v:=.str l[1]!) (hi:=fun _=>by omega) ?_;refine cG (d:=b7.D v) ?_;refine aW (mU l[1]! v .az .az .az) ?_;refine aC ?_;refine aL (mU l[1]! v .az .az .az) (he:=by exact rfl) ?_;refine aC ?_;rw[hnm];refine aY hm (ι:=(List aP×List ai)) (fun z=>[⟨true,.ptr 0 2 0 0⟩,⟨true,.ptr 1 9 0 0⟩,⟨true,.bool false⟩,⟨true,.fn 1000465 [.ptr 0 2 0 0]⟩,.un,.un,.un,.un,.un,.un,.un,.un,⟨true,.ptr 2 9 0 0⟩,.un,.un,.un,.un,.un,.un,.un]) (fun z=>[(0,.buf 2 [Ld.D (r.to z.2)]),(1,.buf 9 [cD]),(2,.buf 9 [mU nm v (.own 3 3 0 (z.1).length) (.az) (.az)]),(3,.buf 3 (z.1.map aP.D))]) 10 (fun z=>z.2<:+r.ls∧z.1.length+z.2.length≤r.ls.length∧df q0=(z.1++(df z.2).1,(df z.2).2)) (fun z=>z.2.length) ([],q0) ⟨hq0,by simpa using hq01,by simp⟩ (aX.to [(1,1),(32,2)] ae ae dt (by refine aO.eS ae ae ae ?_;refine aO.eS ae ae ae ?_;refine aO.ni 32 ae ae (by exact⟨_,_,rfl,⟨_,rfl,⟨_,_,rfl,⟨rfl,rfl⟩,⟨_,_,rfl,⟨rfl,rfl⟩,⟨_,_,rfl,⟨rfl,rfl⟩,⟨_,_,rfl,⟨rfl,rfl⟩,⟨_,_,rfl,⟨rfl,rfl⟩,⟨_,_,rfl,⟨rfl,rfl⟩,⟨_,_,rfl,Or.inr ⟨_,_,_,rfl⟩,⟨_,_,rfl,Or.inl rfl,⟨_,_,rfl,Or.inl rfl,rfl⟩⟩⟩⟩⟩⟩⟩⟩⟩⟩,rfl⟩) ?_;refine aO.mt ae ae ae ae ?_;exact aO.nil)) ?_;rintro⟨N,p⟩ ⟨hq1,hlen,hw⟩;dsimp only at hq1 hlen hw⊢;refine ax ?_;refine lC (n:=1000465) (aaz:=[.ptr 0 2 0 0,.str dJ,.int .i64 ((1:Nat):Int),.bool false]) (ι:=Unit) (fun _=>True) (fun _=>.tup [wT (bI dJ 1 false p),.bool (bI dJ 1 false p).isSome]) 10 (fun _=>[(0,.buf 2 [Ld.D (r.to (dn dJ 1 false p))]),(1,.buf 9 [cD]),(2,.buf 9 [mU nm v (.own 3 3 0 (N).length) (.az) (.az)]),(3,.buf 3 (N.map aP.D))]) (fun _ _=>?_) (hc:=fun K' hK=>ud h9465 hp0 hq1 (w:=dJ) (n:=1) (op:=false) (by decide) (by decide) ae (hK () trivial)) (hn:=by decide);refine aC ?_;refine dU _ ?_;refine cR ?_;refine aq (fun hc2=>?_) (fun hc2=>?_)
 ·simp only[Bool.not_eq_true']at hc2;have hq:=ic hc2;have hnr:dn dJ 1 false p=p:=by simp only[dn,hq]
  rw[hnr];have hn2:df q0=(N,p):=by rw[hw,oD hq,List.append_nil]
  have hpl:=hq1.length_le;refine av ?_;refine eu 3 (hn:=bg (fun _=>rfl) _) (he:=by simp only[jr,fq,fV,ke,k9,bS,Nat.reduceEqDiff,if_true,if_false,and_self,true_and,and_true,false_and,and_false,Nat.zero_add,List.length_map,Nat.le_refl,List.drop_zero,aE,reduceCtorEq,List.length_cons,List.length_nil,Nat.reduceAdd,Nat.reduceLeDiff,Ld.D,cD,mU];exact rfl) (hm:=by simp only[jr,fq,fV,ke,k9,bS,Nat.reduceEqDiff,if_true,if_false,and_self,true_and,and_true,false_and,and_false,Nat.zero_add,List.length_map,Nat.le_refl,List.drop_zero,aE,reduceCtorEq,List.length_cons,List.length_nil,Nat.reduceAdd,Nat.reduceLeDiff,Ld.D,cD,mU];exact rfl) ?_;refine aY hm (ι:=(List ec×List ai)) (fun z=>[⟨true,.ptr 0 2 0 0⟩,⟨true,.ptr 1 9 0 0⟩,⟨true,.bool false⟩,⟨true,.fn 1000465 [.ptr 0 2 0 0]⟩,.un,.un,.un,.un,.un,.un,.un,.un,⟨true,.ptr 2 9 0 0⟩,.un,.un,.un,.un,.un,.un,.un]) (fun z=>[(0,.buf 2 [Ld.D (r.to z.2)]),(1,.buf 9 [cD]),(2,.buf 9 [mU nm v ((.sl 3 (N.map aP.D))) (.own 3 3 0 (z.1).length) (.az)]),(3,.buf 3 (z.1.map ec.D))]) 10 (fun z=>z.2<:+r.ls∧z.1.length+z.2.length≤r.ls.length∧fQ p=(z.1++(fQ z.2).1,(fQ z.2).2)) (fun z=>z.2.length) ([],p) ⟨hq1,by simpa using hpl,by simp⟩ (aX.to [(1,1),(2,2)] ae ae dt (by refine aO.eS ae ae ae ?_;refine aO.eS ae ae ae ?_;refine aO.ni 2 ae ae (by exact⟨_,_,rfl,⟨_,rfl,⟨_,_,rfl,⟨rfl,rfl⟩,⟨_,_,rfl,⟨rfl,rfl⟩,⟨_,_,rfl,⟨rfl,rfl⟩,⟨_,_,rfl,⟨rfl,rfl⟩,⟨_,_,rfl,⟨rfl,rfl⟩,⟨_,_,rfl,⟨rfl,rfl⟩,⟨_,_,rfl,⟨rfl,rfl⟩,⟨_,_,rfl,Or.inr ⟨_,_,_,rfl⟩,⟨_,_,rfl,Or.inl rfl,rfl⟩⟩⟩⟩⟩⟩⟩⟩⟩⟩,rfl⟩) ?_;refine aO.mt ae ae ae ae ?_;exact aO.nil)) ?_;rintro⟨B,pb⟩ ⟨hq1,hlen,hw⟩;dsimp only at hq1 hlen hw⊢;refine av ?_;refine lC (n:=1000465) (aaz:=[.ptr 0 2 0 0,.str fE,.int .i64 ((3:Nat):Int),.bool true]) (ι:=Unit) (fun _=>True) (fun _=>.tup [wT (bI fE 3 true pb),.bool (bI fE 3 true pb).isSome]) 10 (fun _=>[(0,.buf 2 [Ld.D (r.to (dn fE 3 true pb))]),(1,.buf 9 [cD]),(2,.buf 9 [mU nm v ((.sl 3 (N.map aP.D))) (.own 3 3 0 (B).length) (.az)]),(3,.buf 3 (B.map ec.D))]) (fun _ _=>?_) (hc:=fun K' hK=>ud h9465 hp0 hq1 (w:=fE) (n:=3) (op:=true) (by decide) (by decide) ae (hK () trivial)) (hn:=by decide);refine aC ?_;refine dU _ ?_;refine cR ?_;refine aq (fun hc3=>?_) (fun hc3=>?_)
  ·simp only[Bool.not_eq_true']at hc3;have hq:=ic hc3;have hnr:dn fE 3 true pb=pb:=by simp only[dn,hq]
   rw[hnr];have gQ:fQ p=(B,pb):=by rw[hw,p9 hq,List.append_nil]
   have hpl2:=hq1.length_le;refine av ?_;refine eu 3 (hn:=bg (fun _=>rfl) _) (he:=by simp only[jr,fq,fV,ke,k9,bS,Nat.reduceEqDiff,if_true,if_false,and_self,true_and,and_true,false_and,and_false,Nat.zero_add,List.length_map,Nat.le_refl,List.drop_zero,aE,reduceCtorEq,List.length_cons,List.length_nil,Nat.reduceAdd,Nat.reduceLeDiff,Ld.D,cD,mU];exact rfl) (hm:=by simp only[jr,fq,fV,ke,k9,bS,Nat.reduceEqDiff,if_true,if_false,and_self,true_and,and_true,false_and,and_false,Nat.zero_add,List.length_map,Nat.le_refl,List.drop_zero,aE,reduceCtorEq,List.length_cons,List.length_nil,Nat.reduceAdd,Nat.reduceLeDiff,Ld.D,cD,mU];exact rfl) ?_;refine aY hm (ι:=(List bd×List ai)) (fun z=>[⟨true,.ptr 0 2 0 0⟩,⟨true,.ptr 1 9 0 0⟩,⟨true,.bool false⟩,⟨true,.fn 1000465 [.ptr 0 2 0 0]⟩,.un,.un,.un,.un,.un,.un,.un,.un,⟨true,.ptr 2 9 0 0⟩,.un,.un,.un,.un,.un,.un,.un]) (fun z=>[(0,.buf 2 [Ld.D (r.to z.2)]),(1,.buf 9 [cD]),(2,.buf 9 [mU nm v ((.sl 3 (N.map aP.D))) ((.sl 3 (B.map ec.D))) (.own 3 2 0 (z.1).length)]),(3,.buf 2 (z.1.map bd.D))]) 10 (fun z=>z.2<:+r.ls∧z.1.length+z.2.length≤r.ls.length∧cA pb=(z.1++(cA z.2).1,(cA z.2).2)) (fun z=>z.2.length) ([],pb) ⟨hq1,by simpa using hpl2,by simp⟩ (aX.to [(1,1),(2,2)] ae ae dt (by refine aO.eS ae ae ae ?_;refine aO.eS ae ae ae ?_;refine aO.ni 2 ae ae (by exact⟨_,_,rfl,⟨_,rfl,⟨_,_,rfl,⟨rfl,rfl⟩,⟨_,_,rfl,⟨rfl,rfl⟩,⟨_,_,rfl,⟨rfl,rfl⟩,⟨_,_,rfl,⟨rfl,rfl⟩,⟨_,_,rfl,⟨rfl,rfl⟩,⟨_,_,rfl,⟨rfl,rfl⟩,⟨_,_,rfl,⟨rfl,rfl⟩,⟨_,_,rfl,⟨rfl,rfl⟩,⟨_,_,rfl,Or.inr ⟨_,_,_,rfl⟩,rfl⟩⟩⟩⟩⟩⟩⟩⟩⟩⟩,rfl⟩) ?_;refine aO.mt ae ae ae ae ?_;exact aO.nil)) ?_;rintro⟨Z,pf⟩ ⟨hq1,hlen,hw⟩;dsimp only at hq1 hlen hw⊢;refine av ?_;refine lC (n:=1000465) (aaz:=[.ptr 0 2 0 0,.str bQ,.int .i64 ((0:Nat):Int),.bool false]) (ι:=Unit) (fun _=>True) (fun _=>.tup [wT (bI bQ 0 false pf),.bool (bI bQ 0 false pf).isSome]) 10 (fun _=>[(0,.buf 2 [Ld.D (r.to (dn bQ 0 false pf))]),(1,.buf 9 [cD]),(2,.buf 9 [mU nm v ((.sl 3 (N.map aP.D))) ((.sl 3 (B.map ec.D))) (.own 3 2 0 (Z).length)]),(3,.buf 2 (Z.map bd.D))]) (fun _ _=>?_) (hc:=fun K' hK=>ud h9465 hp0 hq1 (w:=bQ) (n:=0) (op:=false) (by decide) (by decide) ae (hK () trivial)) (hn:=by decide);refine aC ?_;refine dU _ ?_;refine cR ?_;refine aq (fun hc4=>?_) (fun hc4=>?_)
   ·simp only[Bool.not_eq_true']at hc4;have hq:=ic hc4;have hnr:dn bQ 0 false pf=pf:=by simp only[dn,hq]
    rw[hnr];have hf2:cA pb=(Z,pf):=by rw[hw,Ag hq,List.append_nil]
    refine av ?_;have hbd:pU nm v q0=(⟨nm,v,N,B,Z⟩,pf):=by simp only[pU,hn2,gQ,hf2]
    rw[hbd];refine eu 3 (hn:=bg (fun _=>rfl) _) (he:=by simp only[jr,fq,fV,ke,k9,bS,Nat.reduceEqDiff,if_true,if_false,and_self,true_and,and_true,false_and,and_false,Nat.zero_add,List.length_map,Nat.le_refl,List.drop_zero,aE,reduceCtorEq,List.length_cons,List.length_nil,Nat.reduceAdd,Nat.reduceLeDiff,Ld.D,cD,mU];exact rfl) (hm:=by simp only[jr,fq,fV,ke,k9,bS,Nat.reduceEqDiff,if_true,if_false,and_self,true_and,and_true,false_and,and_false,Nat.zero_add,List.length_map,Nat.le_refl,List.drop_zero,aE,reduceCtorEq,List.length_cons,List.length_nil,Nat.reduceAdd,Nat.reduceLeDiff,Ld.D,cD,mU];exact rfl) ?_;refine aC ?_;refine cG (d:=Rec.D ⟨nm,v,N,B,Z⟩) ?_;refine aL (Rec.D ⟨nm,v,N,B,Z⟩) (he:=by exact rfl) ?_;refine av ?_;refine fC trivial tK (Eq.trans ae (aF ?_ ?_)) ae ae ae;all_goals rfl
   simp only[Bool.not_eq_false']at hc4;obtain⟨⟨l,q2⟩,hq⟩:=ie hc4;have hnr:dn bQ 0 false pf=q2:=by simp only[dn,hq]
   obtain⟨hl,hlm,hq2,hqp⟩:=mq hp0 hq1 hq;rw[hnr,hq];have hll2:=G5 hp0 hq1 hq;refine aJ ?_;intro u0;refine ar ?_;refine cd (fun hc5=>?_) fun hc5=>?_
   ·refine ar ?_;have hf2:cA pb=(Z,pf):=by rw[hw,EF hq (by omega),List.append_nil]
    obtain⟨t,hpt,_⟩:=cI hq;obtain⟨hab1,hab2⟩:=(hp0.to q2).1;refine av ?_;refine bc (v:=.int .i64 ((r.to q2).at':Nat)) ?_;refine av ?_;refine aL (Ld.D (r.to pf)) (he:=by rw[hpt];exact Ld.back (hpt▸hq1)) ?_;refine ax ?_;have hbd:pU nm v q0=(⟨nm,v,N,B,Z⟩,pf):=by simp only[pU,hn2,gQ,hf2]
    rw[hbd];refine eu 3 (hn:=bg (fun _=>rfl) _) (he:=by simp only[jr,fq,fV,ke,k9,bS,Nat.reduceEqDiff,if_true,if_false,and_self,true_and,and_true,false_and,and_false,Nat.zero_add,List.length_map,Nat.le_refl,List.drop_zero,aE,reduceCtorEq,List.length_cons,List.length_nil,Nat.reduceAdd,Nat.reduceLeDiff,Ld.D,cD,mU];exact rfl) (hm:=by simp only[jr,fq,fV,ke,k9,bS,Nat.reduceEqDiff,if_true,if_false,and_self,true_and,and_true,false_and,and_false,Nat.zero_add,List.length_map,Nat.le_refl,List.drop_zero,aE,reduceCtorEq,List.length_cons,List.length_nil,Nat.reduceAdd,Nat.reduceLeDiff,Ld.D,cD,mU];exact rfl) ?_;refine aC ?_;refine cG (d:=Rec.D ⟨nm,v,N,B,Z⟩) ?_;refine aL (Rec.D ⟨nm,v,N,B,Z⟩) (he:=by exact rfl) ?_;refine av ?_;refine fC trivial tK (Eq.trans ae (aF ?_ ?_)) ae ae ae;all_goals rfl
   refine ar ?_;have h2l:2≤l.length:=by omega
   refine aC ?_;refine bc (v:=.own 3 2 0 Z.length) ?_;refine aC ?_;refine bJ 1 (hb:=fun _=>by omega) ?_;refine bD (v:=.str l[1]!) (hi:=fun _=>by omega) ?_;refine aC ?_;refine rz 2 (hb:=fun _=>by omega) ?_;refine ak (hc:=h469 (l.drop 2) (by rw[List.length_drop];omega)) ?_;refine aW (bd.D ⟨l[1]!,l.drop 2⟩) ?_;refine cx [bd.D ⟨l[1]!,l.drop 2⟩] ?_;refine kM (q:=bd.D) (xs:=Z) (e:=⟨l[1]!,l.drop 2⟩) ?_;refine aC ?_;refine aL (mU nm v (.sl 3 (N.map aP.D)) (.sl 3 (B.map ec.D)) (.own 32 2 0 (Z++[(⟨l[1]!,l.drop 2⟩:bd)]).length)) (he:=by exact rfl) ?_;refine av ?_;have hsl:=Nat.le_refl 0;exact⟨(Z++[⟨l[1]!,l.drop 2⟩],q2),⟨hq2,by simp only[List.length_append,List.length_cons,List.length_nil];omega,by rw[hw,BY hq h2l];simp⟩,by dsimp only;omega,(aX.to [(1,1),(2,2),(32,3)] ae ae dt (by refine aO.eS ae ae ae ?_;refine aO.eS ae ae ae ?_;refine aO.eq 2 ae ae ae ?_;refine aO.nl 32 ae ae rfl (by exact bg (fun _=>rfl) _) ?_;exact aO.nil))⟩
  simp only[Bool.not_eq_false']at hc3;obtain⟨⟨l,q2⟩,hq⟩:=ie hc3;have hnr:dn fE 3 true pb=q2:=by simp only[dn,hq]
  obtain⟨hl,hlm,hq2,hqp⟩:=mq hp0 hq1 hq;rw[hnr,hq];obtain hl:l.length=3:=by rcases hl with h|h;cases h;exact h
  refine av ?_;refine HE (v:=.own 3 3 0 B.length) ?_;refine aC ?_;refine bJ 1 (hb:=fun _=>by omega) ?_;refine HF (v:=.str l[1]!) (hi:=fun _=>by omega) ?_;refine aC ?_;refine bJ 2 (hb:=fun _=>by omega) ?_;refine HF (v:=.str l[2]!) (hi:=fun _=>by omega) ?_;refine aC ?_;refine lu (hc:=zE h468 hp0 hq2) ?_;refine aW (ec.D ⟨l[1]!,l[2]!,(bG q2).1⟩) ?_;refine cx [ec.D ⟨l[1]!,l[2]!,(bG q2).1⟩] ?_;refine kM (q:=ec.D) (xs:=B) (e:=⟨l[1]!,l[2]!,(bG q2).1⟩) ?_;refine aC ?_;refine aL (mU nm v (.sl 3 (N.map aP.D)) (.own 31 3 0 (B++[(⟨l[1]!,l[2]!,(bG q2).1⟩:ec)]).length) .az) (he:=by exact rfl) ?_;refine av ?_;have hsl:=(iM q2).length_le;exact⟨(B++[⟨l[1]!,l[2]!,(bG q2).1⟩],(bG q2).2),⟨(iM q2).trans hq2,by simp only[List.length_append,List.length_cons,List.length_nil];omega,by rw[hw,ux hq];simp⟩,by dsimp only;omega,(aX.to [(1,1),(2,2),(31,3)] ae ae dt (by refine aO.eS ae ae ae ?_;refine aO.eS ae ae ae ?_;refine aO.eq 2 ae ae ae ?_;refine aO.nl 31 ae ae rfl (by exact bg (fun _=>rfl) _) ?_;exact aO.nil))⟩
 simp only[Bool.not_eq_false']at hc2;obtain⟨⟨l,q2⟩,hq⟩:=ie hc2;have hnr:dn dJ 1 false p=q2:=by simp only[dn,hq]
 obtain⟨hl,hlm,hq2,hqp⟩:=mq hp0 hq1 hq;rw[hnr,hq];refine av ?_;refine HE (v:=.own 3 3 0 N.length) ?_;refine aC ?_;refine lu (hc:=Jy h467 hp0 hq2) ?_;refine cx [aP.D (dA q2).1] ?_;refine kM (q:=aP.D) (xs:=N) (e:=(dA q2).1) ?_;refine aC ?_;refine aL (mU nm v (.own 24 3 0 (N++[(dA q2).1]).length) .az .az) (he:=by exact rfl) ?_;refine av ?_;have hsl:=(py q2).length_le;exact⟨(N++[(dA q2).1],(dA q2).2),⟨(py q2).trans hq2,by simp only[List.length_append,List.length_cons,List.length_nil];omega,by rw[hw,td hq];simp⟩,by dsimp only;omega,(aX.to [(1,1),(2,2),(24,3)] ae ae dt (by refine aO.eS ae ae ae ?_;refine aO.eS ae ae ae ?_;refine aO.eq 2 ae ae ae ?_;refine aO.nl 24 ae ae rfl (by exact bg (fun _=>rfl) _) ?_;exact aO.nil))⟩
def Ns (Γ:Ctx):Prop:=∀(r:Ld),(r.sm)→Γ.fp 222 (Ld.D r) []∧Γ.fv 222 (Ld.D r) []=.tup [Rec.D (dX r.rest).1,.bool (mY r.rest).isSome]∧Γ.fs 222 (Ld.D r) []=Ld.D (r.to (dX r.rest).2)
end Go.Abs
end
namespace Go.Abs
def wH (p:List ai):Prop:=∀t∈p,t.length≤1048576
def wH.get {l:List ai}(h:wH l)(i:Nat):l[i]!.length≤1048576:=by
 rcases Nat.lt_or_ge i l.length with hi|hi
 ·exact h _ (bA hi)
 ·simp[hi];exact Nat.zero_le _
def wH.next {p:List ai}(hp:wH p){w:ai}{n:Nat}{op:Bool}{l q:List ai}(h:bI w n op p=some (l,q)):wH l∧wH q∧l.length≤1048577:=by
 obtain⟨t,rfl,ht⟩:=cI h;obtain⟨_,_,h3⟩:=su ht;have h0:=hp t (.head _);refine⟨fun u hu=>?_,fun u hu=>hp u (.tail _ hu), ?_⟩
 ·rw[h3]at hu;have:=Bv hu;omega
 ·have:=yn n op t;rw[h3];omega
def wH.FM {p q:List ai}(hp:wH p)(h:q<:+p):wH q:=fun t ht=>hp t (h.subset ht)
def FB {l:List ai}(h:wH l):(e7 l).sm:=by
 refine⟨⟨h.get 1,h.get 4⟩,fun t ht=>?_⟩;unfold e7 at ht;simp only at ht;split at ht
 ·cases ht
 ·have:=dj _ _ ht;have:=h.get 2;omega
def DS {w:ai}{n:Nat}{op:Bool}{t:ai}{r l:List ai}(h:dd w n op t=some l):bI w n op (t::r)=some (l,r):=by simp only[bI,h]
def wy:∀p:List ai,wH p→∀x∈(bL p).1,x.sm
 |[],_,x,hx=>by simp[bL]at hx
 |t::r,hp,x,hx=>by
  have ih:=wy r (fun u hu=>hp u (.tail _ hu));simp only[bL]at hx;split at hx
  ·rename_i l hl;split at hx
   ·simp only[List.mem_cons]at hx;rcases hx with rfl|hx
    ·exact FB (hp.next (DS (r:=r) hl)).1
    ·exact ih x hx
   ·simp at hx
  ·simp at hx
def Bt {p:List ai}(hp:wH p):(bG p).1.length≤1048576:=by
 unfold bG;split
 ·rename_i h;exact(hp.next h).1.get 1
 ·simp
def JF {p:List ai}(hp:wH p):(mH p).1.length≤1048576:=by
 unfold mH;split
 ·rename_i h;exact(hp.next h).1.get 1
 ·simp
def G3 {p:List ai}(hp:wH p):(dA p).1.sm:=⟨wy p hp,Bt (hp.FM (mz p)),JF ((hp.FM (mz p)).FM (iM _))⟩
def xJ:∀(f:Nat)(p:List ai),wH p→(∀x∈(kL f p).1,x.sm)∧(kL f p).2<:+p
 |0,p,_=>⟨fun x hx=>by simp[kL]at hx,List.suffix_refl _⟩
 |f+1,p,hp=>by
  simp only[kL];split
  ·rename_i l r h;have hr:=(hp.next h).2.1;obtain⟨i1,i2⟩:=xJ f (dA r).2 (hr.FM (py r));refine⟨fun x hx=>?_,i2.trans ((py r).trans (mR h))⟩;simp only[List.mem_cons]at hx;rcases hx with rfl|hx
   ·exact G3 hr
   ·exact i1 x hx
  ·exact⟨fun x hx=>by simp at hx,List.suffix_refl _⟩
def zZ:∀(f:Nat)(p:List ai),wH p→(∀x∈(nK f p).1,x.sm)∧(nK f p).2<:+p
 |0,p,_=>⟨fun x hx=>by simp[nK]at hx,List.suffix_refl _⟩
 |f+1,p,hp=>by
  simp only[nK];split
  ·rename_i l r h;obtain⟨hl,hr,_⟩:=hp.next h;obtain⟨i1,i2⟩:=zZ f (bG r).2 (hr.FM (iM r));refine⟨fun x hx=>?_,i2.trans ((iM r).trans (mR h))⟩;simp only[List.mem_cons]at hx;rcases hx with rfl|hx
   ·exact⟨hl.get 1,hl.get 2,Bt hr⟩
   ·exact i1 x hx
  ·exact⟨fun x hx=>by simp at hx,List.suffix_refl _⟩
def xp:∀(p:List ai),wH p→(∀x∈(cA p).1,x.sm)∧(cA p).2<:+p
 |[],_=>⟨fun x hx=>by simp[cA]at hx,List.suffix_refl _⟩
 |t::r,hp=>by
  obtain⟨i1,i2⟩:=xp r (fun u hu=>hp u (.tail _ hu));simp only[cA];split
  ·rename_i l hl;obtain⟨hlm,_,hll⟩:=hp.next (DS (r:=r) hl);split
   ·refine⟨fun x hx=>?_,i2.trans (List.suffix_cons _ _)⟩;simp only[List.mem_cons]at hx;rcases hx with rfl|hx
    ·refine⟨hlm.get 1, ?_,fun u hu=>hlm u (List.mem_of_mem_drop hu)⟩;simp only[List.length_drop];omega
    ·exact i1 x hx
   ·exact⟨fun x hx=>by simp at hx,List.suffix_refl _⟩
  ·exact⟨fun x hx=>by simp at hx,List.suffix_refl _⟩
def D6:gA ik:=⟨⟨by decide,by decide,by decide⟩,fun n hn=>(by cases hn),fun n hn=>(by cases hn),fun n hn=>(by cases hn)⟩
def D5 {p:List ai}(hp:wH p):gA (dX p).1∧(dX p).2<:+p:=by
 unfold dX mY;cases h:bI cL 3 false p with
 |none=>exact⟨D6,List.suffix_refl _⟩
 |some lq=>
  obtain⟨l,r⟩:=lq;obtain⟨hl,hr,_⟩:=hp.next h;simp only;cases hv:ee l[2]! with
  |none=>exact⟨D6,List.suffix_refl _⟩
  |some v=>
   have hvs:=J0 (hl.get 2);rw[hv]at hvs;obtain⟨n1,n2⟩:=xJ r.length r hr;obtain⟨b1,b2⟩:=zZ (df r).2.length (df r).2 (hr.FM n2);obtain⟨f1,f2⟩:=xp (fQ (df r).2).2 ((hr.FM n2).FM b2);exact⟨⟨⟨hl.get 1,hvs⟩,n1,b1,f1⟩,f2.trans (b2.trans (n2.trans (mR h)))⟩
def c7 (s:ai):Rec×Int×Int:=
 if 4096<s.length then(ik,3,0)
 else
  let ls:=(ah s 10).take ((ah s 10).length-1)
  if(mY ls).isSome=false∨(dX ls).2≠[]∨(ah s 10)[(ah s 10).length-1]! ≠[]then(ik,2,((ls.length-(dX ls).2.length:Nat):Int)+1)
  else if(bX (dX ls).1).1≠0 then(ik,(bX (dX ls).1).1,0)
  else((dX ls).1,0,0)
end Go.Abs
section
namespace Go.Abs
open Go
def AQ:aB:=⟨3,8,[⟨3,none⟩],bO,(sq (rg [gb 9 s0,gm bh] [(5,0),(3,1)]) (sq (.block 0 (sq (r1 [gm s1,gx 208 [l0] bO,ix l1,gm l2] 4 3) (.cond s4 (sq (r1 [gm tA] 3 0) .ret) (sq (r1 [gm s1,gf 0 s5,gd l1,aG l0 l2,gm l3] 6 4) (.cond s6 (sq (r1 [gm B5] 3 0) .ret) (sq (r1 [gm s2,gx 444 [l0] bO,ix l1,gm l2] 7 3) (.cond s7 (sq (r1 [gm tY] 3 0) .ret) .skip))))))) (sq (r1 [gm bh] 3 0) .ret)))⟩
def w211 {Γ:Ctx}(hm:(Γ.at 0).a8)(h208:Iw Γ)(h444:ND Γ)(r:Rec)(name:ai)(rng:ai)  (hp0:rng.length≤1048576):dq Γ AQ (.int .i64 (eL r name rng)) [Rec.D r,.str name,.str rng]:=by
 show bz _ _ _ [⟨_,_⟩,⟨_,_⟩,⟨_,_⟩,_,_,_,_,_] _;refine aj ?_;refine aA ?_;refine ak (hc:=h208 _) ?_;refine av ?_;refine fm (fun hc0=>?_) fun hc0=>?_
 ·refine aJ ?_;refine eB ?_;rw[eL,if_pos hc0]
 refine aV ?_;refine fm (fun hc1=>?_) fun hc1=>?_
 ·refine aJ ?_;refine eB ?_;rw[eL,if_neg (by simp[hc0]),if_pos hc1]
 refine ar ?_;refine ak (hc:=h444 rng hp0) ?_;refine av ?_;refine fm (fun hc2=>?_) fun hc2=>?_
 ·refine aJ ?_;refine eB ?_;rw[eL,if_neg (by simp[hc0]),if_neg hc1,if_pos hc2]
 refine aA ?_;refine eB ?_;rw[eL,if_neg (by simp[hc0]),if_neg hc1,if_neg (by simp[hc2])]
def KK (Γ:Ctx):Prop:=∀(r:Rec)(name:ai)(rng:ai),(rng.length≤1048576)→Γ.pre 211 [Rec.D r,.str name,.str rng]∧Γ.val 211 [Rec.D r,.str name,.str rng]=.int .i64 (eL r name rng)
def AR:aB:=⟨3,16,[⟨3,none⟩],bO,(sq (rg [gb 9 s0,gb 4 s1,gm bh] [(4,0),(5,1),(3,2)]) (sq (sq (r1 [gk 9 true s4,gf 0 s5,gd l1,gf 1 s5,gd l3,gx 211 [l0,l2,l4] [[.a,.a,.a,.a,.a,.a,.sl 3 [.sl 4 [.a,.a,.sl 1 [.a],.a],.a,.a],.sl 3 [.a,.a,.a],.sl 2 [.a,.sl 1 [.a]]],[.a],[.a]],gm l5] 6 6) (sq (r1 [gm s6,bN l0 bh] 7 1) (.cond s7 (sq (r1 [gm s6,gm l0] 3 1) .ret) .skip))) (sq (sq (r1 [gf 2 s5,gd l0,gl l1,cB l2 tY,gm l3,hH 4 2 s5,hY 4 l5,bT 4 (.len l6),bT 4 (dz l7 bh),dH 4 l8,gmt 9 s2,bZ 9 (.un .not l10),yP 4 l9 fI,ea l4 gV] 8 13) (.cond s8 (sq (r1 [gm (i6 11)] 3 0) .ret) .skip)) (sq (sq (rg [gf 2 s5,gd l0,gl l1,gm bh] [(12,1),(10,2),(9,3)]) (.block 0 (.loop (sq (r1 [aN s9 jx] 11 0) (sq (eN mc 0) (sq (.block 1 (sq (rg [gm s9,ga 1 lY s9,gd l1,gm l0,gm l2] [(14,3),(13,4)]) (sq (r1 [gm pP,gx 349 [l0] bO,ix l1,gm l2,dH 3 tn,bT 3 (dz l4 bh),dH 3 l5,kA 6 2 s5,iO 6 l7,gmt 6 tn,bZ 6 (iG l9 bR),bZ 6 (.ia 1 l8 l10),iO 6 fI,gmt 6 pP,bZ 6 (sR gV iQ),yP 3 l6 jt,ea l3 kB] 15 16) (.cond vW (sq (r1 [gm (i6 11)] 3 0) .ret) .skip)))) (r1 [au s9 bR,gm l0] 9 1))))))) (sq (r1 [gm bh] 3 0) .ret)))))⟩
def w443 {Γ:Ctx}(hm:(Γ.at 0).a8)(h211:KK Γ)(h349:BI Γ)(r:Rec)(w:bm)(al:Bool)  (hp0:w.sm):dq Γ AR (.int .i64 (gY r w al)) [Rec.D r,bm.D w,.bool al]:=by
 show bz _ _ _ [⟨_,_⟩,⟨_,_⟩,⟨_,_⟩,_,_,_,_,_,_,_,_,_,_,_,_,_] _;refine aj ?_;refine fM ?_;refine ak (hc:=h211 r w.name w.range hp0.1.2) ?_;refine aV ?_;refine cd (fun hc0=>?_) fun hc0=>?_
 ·refine aA ?_;refine eB ?_;rw[gY,if_pos hc0]
 refine aA ?_;intro u0;refine ax ?_;refine gT ?_;refine aV ?_;refine aq (fun hc1=>?_) (fun hc1=>?_)
 ·have hq:(decide (w.feats.length≤6)&&(al ||decide (w.feats.length=0)))=false:=by rw[←Bool.not_eq_true',←Ij];exact hc1
  refine aJ ?_;refine eB ?_;rw[gY,if_neg (by simp[hc0]),if_pos (by unfold jl;rw[hq];rfl)]
 have hq:(decide (w.feats.length≤6)&&(al ||decide (w.feats.length=0)))=true:=by rw[←Bool.not_eq_false',←Ij];exact hc1
 refine aA ?_;intro u1;refine ar ?_;refine aY hm (ι:=Nat) (fun i=>[.un,.un,⟨true,.bool al⟩,.un,⟨true,.ptr 0 9 0 0⟩,⟨true,.ptr 1 4 0 0⟩,.un,.un,.un,⟨true,.int .i64 (i:Nat)⟩,⟨true,.int .i64 (w.feats.length:Nat)⟩,.un,⟨true,.sl 1 (w.feats.map D.str)⟩,.un,.un,.un]) (fun i=>[(0,.buf 9 [Rec.D r]),(1,.buf 4 [bm.D w])]) 30 (fun i=>i≤w.feats.length∧jl w.feats al=b8 (J1 w.feats) i w.feats.length) (fun i=>w.feats.length-i) 0 ⟨by omega,by unfold jl;rw[hq,Bool.true_and]⟩ (cS [(0,0),(1,1)]) ?_;rintro i ⟨hi,hr⟩;refine av ?_;refine cd (fun hc2=>?_) fun hc2=>?_
 ·refine fM ?_;refine ak (hc:=h349 _) ?_;refine cR ?_;refine bJ (i-1) ?_;refine aA ?_;refine wp_cond (fun hc3=>?_) (fun hc3=>?_)
  ·have hz:J1 w.feats i=false:=by rw[←Bool.not_eq_true',←QL];exact hc3
   refine aA ?_;refine eB ?_;rw[gY,if_neg (by simp[hc0]),if_pos (by rw[hr,aH (by omega),hz];rfl)]
  have hz:J1 w.feats i=true:=by rw[←Bool.not_eq_false',←QL];exact hc3
  refine aV ?_;exact⟨i+1,⟨by omega,by rw[hr,aH (by omega),hz];rfl⟩,by omega,(cS [(0,0),(1,1)])⟩
 refine aA ?_;refine eB ?_;rw[gY,if_neg (by simp[hc0]),if_neg (by rw[hr,bE (by omega)];simp)]
def NC (Γ:Ctx):Prop:=∀(r:Rec)(w:bm)(al:Bool),(w.sm)→Γ.pre 443 [Rec.D r,bm.D w,.bool al]∧Γ.val 443 [Rec.D r,bm.D w,.bool al]=.int .i64 (gY r w al)
def AO:aB:=⟨2,16,[⟨2,none⟩],bO,(sq (rg [gb 9 s0,gb 3 s1,gm bh] [(10,0),(3,1),(2,2)]) (sq (sq (r1 [gf 0 s3,gd l0,gl l1,aG l2 bh] 4 3) (.cond s4 (sq (r1 [gm EM] 2 0) .ret) .skip)) (sq (sq (r1 [gf 0 s3,gd l0,gl l1,cB l2 jG] 5 3) (.cond s5 (sq (r1 [gm jG] 2 0) .ret) .skip)) (sq (sq (rg [gf 0 s3,gd l0,gl l1,gm bh] [(9,1),(7,2),(6,3)]) (.block 0 (.loop (sq (r1 [aN s6 s7] 8 0) (sq (eN s8 0) (sq (.block 1 (sq (r1 [ga 4 s9 s6,gk 4 true l0,gb 4 (.c (.agg [.str [],.str [],.az,.bool false])),gt 4 l2 l1] 11 2) (sq (r1 [gk 9 true jx,gk 4 true mc,gf 0 s3,gd l2,gl l3,aG l4 bR,gx 443 [l0,l1,l5] [[.a,.a,.a,.a,.a,.a,.sl 3 [.sl 4 [.a,.a,.sl 1 [.a],.a],.a,.a],.sl 3 [.a,.a,.a],.sl 2 [.a,.sl 1 [.a]]],[.a,.a,.sl 1 [.a],.a],[.a]],gm l6] 12 7) (sq (r1 [gm lY,bN l0 bh] 13 1) (.cond pP (sq (r1 [gm lY,gm l0] 2 1) .ret) .skip))))) (r1 [au s6 bR,gm l0] 6 1))))))) (sq (sq (r1 [gf 1 s3,gd l0,gx 212 [l1] bO,ix l2] 14 3) (.cond tn (sq (r1 [gm FJ] 2 0) .ret) .skip)) (sq (sq (r1 [gf 2 s3,gd l0,bN l1 cse,gm l2,kA 3 2 s3,iO 3 l4,bZ 3 (.call 349 [l5] bO),bZ 3 (.un .not l6),dZ l3 l7] 15 8) (.cond vW (sq (r1 [gm (i6 14)] 2 0) .ret) .skip)) (sq (r1 [gm bh] 2 0) .ret)))))))⟩
def w210 {Γ:Ctx}(hm:(Γ.at 0).a8)(h212:KL Γ)(h349:BI Γ)(h443:NC Γ)(r:Rec)(n:aP)  (hp0:n.sm):dq Γ AO (.int .i64 (fJ r n)) [Rec.D r,aP.D n]:=by
 show bz _ _ _ [⟨_,_⟩,⟨_,_⟩,_,_,_,_,_,_,_,_,_,_,_,_,_,_] _;refine aj ?_;refine cR ?_;intro u0;refine ar ?_;refine cd (fun hc0=>?_) fun hc0=>?_
 ·refine aJ ?_;refine eB ?_;rw[fJ,if_pos (by omega)]
 refine aA ?_;intro u1;refine ar ?_;refine cd (fun hc1=>?_) fun hc1=>?_
 ·refine aJ ?_;refine eB ?_;rw[fJ,if_neg (by omega),if_pos (by omega)]
 refine aA ?_;intro u2;refine ar ?_;refine aY hm (ι:=Nat) (fun i=>[.un,.un,.un,⟨true,.ptr 1 3 0 0⟩,.un,.un,⟨true,.int .i64 (i:Nat)⟩,⟨true,.int .i64 (n.any.length:Nat)⟩,.un,⟨true,.sl 4 (n.any.map bm.D)⟩,⟨true,.ptr 0 9 0 0⟩,.un,.un,.un,.un,.un]) (fun i=>[(0,.buf 9 [Rec.D r]),(1,.buf 3 [aP.D n])]) 15 (fun i=>i≤n.any.length∧my r n.any=iW (fun i=>gY r n.any[i]! (decide ((n.any.length:Int)=1))) i n.any.length) (fun i=>n.any.length-i) 0 ⟨by omega,rfl⟩ (cS [(0,0),(1,1)]) ?_;rintro i ⟨hi,hr⟩;refine av ?_;refine cd (fun hc2=>?_) fun hc2=>?_
 ·refine ax ?_;first|refine bD (v:=(bm.D _)) ?_|refine dM (v:=(bm.D _)) ?_
  refine aC ?_;refine aL (bm.D n.any[i]!) (he:=by exact rfl) ?_;refine aV ?_;intro u3;refine aC ?_;refine ak (hc:=h443 r n.any[i]! _ (hp0.1 _ (bA (by omega)))) ?_;refine aA ?_;refine fm (fun hc3=>?_) fun hc3=>?_
  ·refine aV ?_;refine eB ?_;have hw:my r n.any=gY r n.any[i]! (decide ((n.any.length:Int)=1)):=by rw[hr,lL (by omega) hc3]
   rw[fJ,if_neg (by omega),if_neg (by omega),if_pos (by rw[hw];exact hc3),hw]
  refine aV ?_;exact⟨i+1,⟨by omega,by rw[hr,pk (by omega) hc3]⟩,by omega,(cS [(0,0),(1,1)])⟩
 refine ax ?_;have hw0:my r n.any=0:=by rw[hr,pj (by omega)]
 refine ar ?_;refine ak (hc:=h212 _) ?_;refine ar ?_;refine aq (fun hc4=>?_) (fun hc4=>?_)
 ·try simp only[gJ]at hc4
  refine aJ ?_;refine eB ?_;rw[fJ,if_neg (by omega),if_neg (by omega),if_neg (by simp[hw0]),if_pos hc4]
 simp only[Bool.not_eq_false']at hc4;refine cR ?_;refine ak (hc:=h349 _) ?_;refine av ?_;refine aq (fun hc5=>?_) (fun hc5=>?_)
 ·try simp only[gJ]at hc5
  refine aJ ?_;refine eB ?_;rw[fJ,if_neg (by omega),if_neg (by omega),if_neg (by simp[hw0]),if_neg (by simp[hc4]),if_pos hc5]
 simp only[Bool.and_eq_false_iff,Bool.not_eq_false',decide_eq_true_eq]at hc5;refine aJ ?_;refine eB ?_;rw[fJ,if_neg (by omega),if_neg (by omega),if_neg (by simp[hw0]),if_neg (by simp[hc4]),if_neg (by rintro⟨g1,g2⟩;rcases hc5 with h|h;exact g1 h;rw[g2]at h;cases h)]
def Nl (Γ:Ctx):Prop:=∀(r:Rec)(n:aP),(n.sm)→Γ.pre 210 [Rec.D r,aP.D n]∧Γ.val 210 [Rec.D r,aP.D n]=.int .i64 (fJ r n)
def AN:aB:=⟨2,15,[⟨2,none⟩],bO,(sq (rg [gb 9 s0,gm bh] [(3,0),(2,1)]) (sq (rg [gm s1,gx 448 [l0] bO,gm l1,ge l2 0,ge l2 1,ge l2 2,gm l3,gm l4,gm l5] [(8,6),(10,7)]) (sq (sq (rg [gf 6 s3,gd l0,gl l1,gm bh] [(7,1),(5,2),(4,3)]) (.block 0 (.loop (sq (r1 [aN s4 s5] 6 0) (sq (eN s6 0) (sq (.block 1 (sq (r1 [ga 3 s7 s4,gk 3 true l0,gb 3 (.c (.agg [.az,.str [],.str []])),gt 3 l2 l1] 9 2) (sq (r1 [gm s8,aG l0 jF,gm l1,kA 2 2 s9,iO 2 l3,gmt 2 jx,bZ 2 (ca l4 l5),dZ l2 l6,gm l7,dH 8 s8,bT 8 (ca l9 jG),dH 8 l10,kA 11 0 s9,iO 11 gV,bZ 11 (.len iQ),bZ 11 (ca jt bR),yP 8 fI kB,dH 8 mE,kA 17 0 s9,iO 17 oB,bZ 17 (.ia 4 pY bh),kA 17 0 ua,iO 17 wP,gmt 17 jx,bZ 17 (ca xA BC),yP 8 nU BD,ea l8 B8] 11 26) (.cond mc (sq (r1 [gm bh] 2 0) .ret) .skip)))) (r1 [au s4 bR,gm l0] 4 1))))))) (sq (sq (r1 [gm s8] 12 0) (.block 2 (sq (r1 [aG lY jF,gm l0] 13 1) (.cond pP (sq (r1 [gm (i6 14)] 2 0) .ret) (sq (r1 [aG lY jG,gm l0] 14 1) (.cond tn (sq (r1 [gm (i6 16)] 2 0) .ret) .skip)))))) (sq (r1 [gm bh] 2 0) .ret)))))⟩
def w214 {Γ:Ctx}(hm:(Γ.at 0).a8)(h448:KQ Γ)(r:Rec)(s:ai)  (hp0:s.length≤1048576):dq Γ AN (.int .i64 (kg r s)) [Rec.D r,.str s]:=by
 show bz _ _ _ [⟨_,_⟩,⟨_,_⟩,_,_,_,_,_,_,_,_,_,_,_,_,_] _;refine aj ?_;refine aJ ?_;refine ak (hc:=h448 s hp0) ?_;refine kv ?_;intro u0;refine ar ?_;refine aY hm (ι:=Nat) (fun i=>[.un,.un,.un,⟨true,.ptr 0 9 0 0⟩,⟨true,.int .i64 (i:Nat)⟩,⟨true,.int .i64 (r.needs.length:Nat)⟩,.un,⟨true,.sl 3 (r.needs.map aP.D)⟩,⟨true,.int .i64 (cg s).1⟩,.un,⟨true,.str (cg s).2.1⟩,.un,.un,.un,.un]) (fun i=>[(0,.buf 9 [Rec.D r])]) 15 (fun i=>i≤r.needs.length∧kg r s=(if(r.needs.drop i).any (Ir (cg s).1 (cg s).2.1)=true then 0 else L4 (cg s).1)) (fun i=>r.needs.length-i) 0 ⟨by omega,GN r s⟩ (cS [(0,0)]) ?_;rintro i ⟨hi,hr⟩;refine av ?_;refine cd (fun hc0=>?_) fun hc0=>?_
 ·refine ax ?_;first|refine bD (v:=(aP.D _)) ?_|refine dM (v:=(aP.D _)) ?_
  refine aC ?_;refine aL (aP.D r.needs[i]!) (he:=by exact rfl) ?_;refine wC ?_;refine gT ?_;refine aJ ?_;refine bJ 0 (hb:=fun h=>by simp only[Bool.true_and,beq_iff_eq,Bool.and_eq_true,decide_eq_true_eq]at h;omega) ?_;refine aC ?_;refine bD (q:=bm.D) (xs:=r.needs[i]!.any) (i:=0) (hi:=fun h=>by simp only[Bool.true_and,beq_iff_eq,Bool.and_eq_true,decide_eq_true_eq]at h;omega) (v:=(.str r.needs[i]!.any[0]!.name)) ?_;refine aJ ?_;refine wp_cond (fun hc1=>?_) (fun hc1=>?_)
  ·have hz:Ir (cg s).1 (cg s).2.1 r.needs[i]! =true:=hc1;refine aA ?_;refine eB ?_;rw[hr,yy (by omega) hz];rfl
  have hz:Ir (cg s).1 (cg s).2.1 r.needs[i]! =false:=hc1;refine aV ?_;exact⟨i+1,⟨by omega,by rw[hr,BM (by omega) hz]⟩,by omega,(cS [(0,0)])⟩
 refine ax ?_;have he:kg r s=L4 (cg s).1:=by rw[hr,yx (by omega)];rfl
 refine aV ?_;refine fm (fun hc2=>?_) fun hc2=>?_
 ·refine aJ ?_;refine eB ?_;rw[he,L4,if_pos hc2]
 refine ax ?_;refine fm (fun hc3=>?_) fun hc3=>?_
 ·refine aJ ?_;refine eB ?_;rw[he,L4,if_neg hc2,if_pos hc3]
 refine aA ?_;refine eB ?_;rw[he,L4,if_neg hc2,if_neg hc3]
def Np (Γ:Ctx):Prop:=∀(r:Rec)(s:ai),(s.length≤1048576)→Γ.pre 214 [Rec.D r,.str s]∧Γ.val 214 [Rec.D r,.str s]=.int .i64 (kg r s)
end Go.Abs
end
section
namespace Go.Abs
open Go
def zh:aB:=⟨1,39,[⟨1,none⟩,⟨2,none⟩],gQ,(sq (rg [gb 9 s0,gm bh,gm bh] [(3,0),(1,1),(2,2)]) (sq (.block 0 (sq (r1 [gf 0 s3,gd l0,gx 208 [l1] bO,ix l2,gm l3] 4 4) (.cond s4 (sq (rg [gm tA,gm bh] [(1,0),(2,1)]) .ret) (sq (r1 [gf 1 s3,gk 5 true l0,gx 209 [l1] EJ,ix l2,gm l3] 5 4) (.cond s5 (sq (rg [gm B4,gm bh] [(1,0),(2,1)]) .ret) (sq (r1 [gf 6 s3,gd l0,gl l1,cB l2 B5,gm l3,hH 4 7 s3,hY 4 l5,bT 4 (.len l6),bT 4 (dz l7 B5),ea l4 l8,gm l9] 6 10) (.cond s6 (sq (rg [gm jG,gm bh] [(1,0),(2,1)]) .ret) .skip))))))) (sq (sq (rg [gf 6 s3,gd l0,gl l1,gm bh] [(10,1),(8,2),(7,3)]) (.block 1 (.loop (sq (r1 [aN s7 s8] 9 0) (sq (eN s9 1) (sq (.block 2 (sq (rg [gm s7,ga 3 jx s7,gk 3 true l1,gb 3 (.c (.agg [.az,.str [],.str []])),gm l0,gt 3 l3 l2] [(11,3),(14,4)]) (sq (r1 [gk 9 true s3,gk 3 true mc,gx 210 [l0,l1] [[.a,.a,.a,.a,.a,.a,.sl 3 [.sl 4 [.a,.a,.sl 1 [.a],.a],.a,.a],.sl 3 [.a,.a,.a],.sl 2 [.a,.sl 1 [.a]]],[.sl 4 [.a,.a,.sl 1 [.a],.a],.a,.a]],gm l2] 12 3) (sq (r1 [gm lY,bN l0 bh] 13 1) (.cond pP (sq (rg [gm lY,gm tn,gm l0,gm l1] [(1,2),(2,3)]) .ret) .skip))))) (r1 [au s7 bR,gm l0] 7 1))))))) (sq (sq (rg [gf 7 s3,gd l0,gl l1,gm bh] [(18,1),(16,2),(15,3)]) (.block 3 (.loop (sq (r1 [aN vW BF] 17 0) (sq (eN Bc 3) (sq (.block 4 (sq (rg [gm vW,ga 3 Fq vW,gk 3 true l1,gb 3 (.c (.agg [.str [],.str [],.str []])),gm l0,gt 3 l3 l2] [(19,3),(22,4)]) (sq (sq (r1 [gk 9 true s3,gf 0 MH,gd l1,gf 1 MH,gd l3,gx 211 [l0,l2,l4] [[.a,.a,.a,.a,.a,.a,.sl 3 [.sl 4 [.a,.a,.sl 1 [.a],.a],.a,.a],.sl 3 [.a,.a,.a],.sl 2 [.a,.sl 1 [.a]]],[.a],[.a]],gm l5] 20 6) (sq (r1 [gm Is,bN l0 bh] 21 1) (.cond s21 (sq (rg [gm Is,gm s22,gm l0,gm l1] [(1,2),(2,3)]) .ret) .skip))) (sq (r1 [gf 2 MH,gd l0,gx 212 [l1] bO,ix l2] 23 3) (.cond s23 (sq (rg [gm s22,gm FJ,gm l0] [(1,1),(2,2)]) .ret) .skip))))) (r1 [au vW bR,gm l0] 15 1))))))) (sq (sq (r1 [gf 8 s3,gd l0,gx 213 [l1] [[.sl 2 [.a,.sl 1 [.a]]]],ix l2] 24 3) (.cond MZ (sq (rg [gm (i6 11),gm bh] [(1,0),(2,1)]) .ret) .skip)) (sq (sq (rg [gf 8 s3,gd l0,gl l1,gm bh] [(28,1),(26,2),(25,3)]) (.block 5 (.loop (sq (r1 [aN M0 Qk] 27 0) (sq (eN s27 5) (sq (.block 6 (sq (rg [gm M0,ga 2 s28 M0,gk 2 true l1,gb 2 (.c (.agg [.str [],.az])),gm l0,gt 2 l3 l2] [(29,3),(37,4)]) (sq (rg [gf 1 s29,gd l0,gl l1,gm bh] [(33,1),(31,2),(30,3)]) (.block 7 (.loop (sq (r1 [aN KD s31] 32 0) (sq (eN s32 7) (sq (.block 8 (sq (r1 [ga 1 s33 KD,gd l0,gm l1] 34 2) (sq (r1 [gk 9 true s3,gm s34,gx 214 [l0,l1] [[.a,.a,.a,.a,.a,.a,.sl 3 [.sl 4 [.a,.a,.sl 1 [.a],.a],.a,.a],.sl 3 [.a,.a,.a],.sl 2 [.a,.sl 1 [.a]]],[.a]],gm l2] 35 3) (sq (r1 [gm s35,bN l0 bh] 36 1) (.cond s36 (sq (rg [gm s35,gm s37,gm l0,gm l1] [(1,2),(2,3)]) .ret) .skip))))) (r1 [au KD bR,gm l0] 30 1))))))))) (r1 [au M0 bR,gm l0] 25 1))))))) (sq (sq (r1 [gk 9 true s3,gx 215 [l0] [[.a,.a,.a,.a,.a,.a,.sl 3 [.sl 4 [.a,.a,.sl 1 [.a],.a],.a,.a],.sl 3 [.a,.a,.a],.sl 2 [.a,.sl 1 [.a]]]],m9 l1,cB l2 (i6 4096)] 38 3) (.cond s38 (sq (rg [gm jG,gm bh] [(1,0),(2,1)]) .ret) .skip)) (sq (rg [gm bh,gm bh] [(1,0),(2,1)]) .ret))))))))⟩
def w70 {Γ:Ctx}(hm:(Γ.at 0).a8)(h208:Iw Γ)(h209:FW Γ)(h210:Nl Γ)(h211:KK Γ)(h212:KL Γ)(h213:Nn Γ)(h214:Np Γ)(h215:KM Γ)(r:Rec)  (hp0:gA r):dq Γ zh (.tup [.int .i64 (bX r).1,.int .i64 (bX r).2]) [Rec.D r]:=by
 show bz _ _ _ (⟨true,Rec.D r⟩::.un::.un::.un::.un::.un::.un::.un::.un::.un::.un::.un::.un::.un::.un::.un::.un::.un::.un::.un::.un::.un::.un::.un::.un::.un::.un::.un::.un::.un::.un::.un::.un::.un::.un::.un::.un::.un::.un::[]) ⟨0,[]⟩;refine aj ?_;refine bB ?_;refine ak (hc:=h208 _) ?_;refine av ?_;refine wp_cond (fun hc0=>?_) (fun hc0=>?_)
 ·try simp only[gJ]at hc0
  refine aA ?_;refine bC (aF (congrArg (D.int .i64) ?_) (congrArg (D.int .i64) ?_));all_goals (have hq:bX r=(4,0):=(by rw[bX,if_pos hc0]);rw[hq];first|done|rfl)
 simp only[Bool.not_eq_false']at hc0;refine ar ?_;refine bc (v:=b7.D r.v) ?_;refine ak (hc:=h209 r.v hp0.1.2) ?_;refine av ?_;refine wp_cond (fun hc1=>?_) (fun hc1=>?_)
 ·try simp only[gJ]at hc1
  refine aA ?_;refine bC (aF (congrArg (D.int .i64) ?_) (congrArg (D.int .i64) ?_));all_goals (have hq:bX r=(5,0):=(by rw[bX,if_neg (by simp[hc0]),if_pos hc1]);rw[hq];first|done|rfl)
 simp only[Bool.not_eq_false']at hc1;refine ax ?_;intro u0;refine ax ?_;refine gT ?_;refine ax ?_;refine fm (fun hc2=>?_) fun hc2=>?_
 ·refine aA ?_;refine bC (aF (congrArg (D.int .i64) ?_) (congrArg (D.int .i64) ?_));all_goals (have hq:bX r=(3,0):=(by rw[bX,if_neg (by simp[hc0]),if_neg (by simp[hc1]),if_pos (by omega)]);rw[hq];first|done|rfl)
 refine aV ?_;intro u1;refine ar ?_;refine aY hm (ι:=Nat) (fun i=>(.un::.un::.un::⟨true,.ptr 0 9 0 0⟩::.un::.un::.un::⟨true,.int .i64 (i:Nat)⟩::⟨true,.int .i64 (r.needs.length:Nat)⟩::.un::⟨true,.sl 3 (r.needs.map aP.D)⟩::.un::.un::.un::.un::.un::.un::.un::.un::.un::.un::.un::.un::.un::.un::.un::.un::.un::.un::.un::.un::.un::.un::.un::.un::.un::.un::.un::.un::[])) (fun i=>[(0,.buf 9 [Rec.D r])]) 28 (fun i=>i≤r.needs.length∧lW r=gr (fun i=>fJ r r.needs[i]!) i r.needs.length) (fun i=>r.needs.length-i) 0 ⟨by omega,rfl⟩ (cS [(0,0)]) ?_;rintro i ⟨hi,hr⟩;refine av ?_;refine cd (fun hc3=>?_) fun hc3=>?_
 ·refine aJ ?_;first|refine bD (v:=(aP.D _)) ?_|refine dM (v:=(aP.D _)) ?_
  refine ar ?_;refine aL (aP.D r.needs[i]!) (he:=by exact rfl) ?_;refine ax ?_;refine ak (hc:=h210 r r.needs[i]! (hp0.2.1 _ (bA (by omega)))) ?_;refine aA ?_;refine fm (fun hc4=>?_) fun hc4=>?_
  ·refine cR ?_;refine bC (aF (congrArg (D.int .i64) ?_) (congrArg (D.int .i64) ?_));all_goals
    have hq:bX r=(fJ r r.needs[i]!,((i:Nat):Int)):=by
     exact mM hc0 hc1 (by omega) (by omega) (AG (by rw[hr,iw (by omega) hc4]) hc4) hc4
    rw[hq];first|done|rfl
  refine aV ?_;exact⟨i+1,⟨by omega,by rw[hr,lz (by omega) hc4]⟩,by omega,(cS [(0,0)])⟩
 refine ax ?_;have hn0:lW r=(0,0):=by rw[hr,lx (by omega)]
 refine av ?_;intro u2;refine ar ?_;refine aY hm (ι:=Nat) (fun i=>(.un::.un::.un::⟨true,.ptr 0 9 0 0⟩::.un::.un::.un::.un::.un::.un::.un::.un::.un::.un::.un::⟨true,.int .i64 (i:Nat)⟩::⟨true,.int .i64 (r.bars.length:Nat)⟩::.un::⟨true,.sl 3 (r.bars.map ec.D)⟩::.un::.un::.un::.un::.un::.un::.un::.un::.un::.un::.un::.un::.un::.un::.un::.un::.un::.un::.un::.un::[])) (fun i=>[(0,.buf 9 [Rec.D r])]) 33 (fun i=>i≤r.bars.length∧qL r=gr (fun i=>nP r r.bars[i]!) i r.bars.length) (fun i=>r.bars.length-i) 0 ⟨by omega,rfl⟩ (cS [(0,0)]) ?_;rintro i ⟨hi,hr⟩;refine av ?_;refine cd (fun hc5=>?_) fun hc5=>?_
 ·refine aJ ?_;first|refine bD (v:=(ec.D _)) ?_|refine dM (v:=(ec.D _)) ?_
  refine ar ?_;refine aL (ec.D r.bars[i]!) (he:=by exact rfl) ?_;refine bB ?_;refine ak (hc:=h211 r r.bars[i]!.name r.bars[i]!.range (hp0.2.2.1 _ (bA (by omega))).2.1) ?_;refine aV ?_;refine aq (fun hc6=>?_) (fun hc6=>?_)
  ·simp only[Bool.not_eq_true',decide_eq_false_iff_not]at hc6;have hbe:nP r r.bars[i]! =eL r r.bars[i]!.name r.bars[i]!.range:=by rw[nP,if_pos hc6]
   refine gF ?_;refine bC (aF (congrArg (D.int .i64) ?_) (congrArg (D.int .i64) ?_));all_goals
    have hq:bX r=(eL r r.bars[i]!.name r.bars[i]!.range,((i:Nat):Int)):=by
     exact mM hc0 hc1 (by omega) (by omega) (vy hn0 (by rw[hr,iw (by omega) (by rw[hbe];exact hc6),hbe]) hc6) hc6
    rw[hq];first|done|rfl
  try simp only[gJ]at hc6
  refine ax ?_;refine ak (hc:=h212 _) ?_;refine ar ?_;refine wp_cond (fun hc7=>?_) (fun hc7=>?_)
  ·simp only[Bool.not_eq_true']at hc7;have hbe:nP r r.bars[i]! =7:=by rw[nP,if_neg (fun h=>h hc6),if_pos hc7]
   refine bB ?_;refine bC (aF (congrArg (D.int .i64) ?_) (congrArg (D.int .i64) ?_));all_goals
    have hq:bX r=((7:Int),((i:Nat):Int)):=by
     exact mM hc0 hc1 (by omega) (by omega) (vy hn0 (by rw[hr,iw (by omega) (by rw[hbe];decide),hbe]) (show(7:Int)≠0 by decide)) (show(7:Int)≠0 by decide)
    rw[hq];first|done|rfl
  simp only[Bool.not_eq_false']at hc7;have hbz:nP r r.bars[i]! =0:=by rw[nP,if_neg (fun h=>h hc6),if_neg (by rw[hc7];simp)]
  refine aV ?_;exact⟨i+1,⟨by omega,by rw[hr,lz (by omega) hbz]⟩,by omega,(cS [(0,0)])⟩
 refine ax ?_;have hb0:qL r=(0,0):=by rw[hr,lx (by omega)]
 refine ar ?_;refine ak (hc:=h213 r.feats hp0.2.2.2) ?_;refine ar ?_;refine aq (fun hc8=>?_) (fun hc8=>?_)
 ·try simp only[gJ]at hc8
  refine aA ?_;refine bC (aF (congrArg (D.int .i64) ?_) (congrArg (D.int .i64) ?_));all_goals
   have hq:bX r=(11,0):=by
    exact mM hc0 hc1 (by omega) (by omega) (AH hn0 hb0 hc8) (by decide)
   rw[hq];first|done|rfl
 simp only[Bool.not_eq_false']at hc8;refine aA ?_;intro u3;refine ar ?_;refine aY hm (ι:=Nat) (fun i=>(.un::.un::.un::⟨true,.ptr 0 9 0 0⟩::.un::.un::.un::.un::.un::.un::.un::.un::.un::.un::.un::.un::.un::.un::.un::.un::.un::.un::.un::.un::.un::⟨true,.int .i64 (i:Nat)⟩::⟨true,.int .i64 (r.feats.length:Nat)⟩::.un::⟨true,.sl 2 (r.feats.map bd.D)⟩::.un::.un::.un::.un::.un::.un::.un::.un::.un::.un::[])) (fun i=>[(0,.buf 9 [Rec.D r])]) 42 (fun i=>i≤r.feats.length∧yL r=gr (fun i=>iY r r.feats[i]!.of) i r.feats.length) (fun i=>r.feats.length-i) 0 ⟨by omega,rfl⟩ (cS [(0,0)]) ?_;rintro i ⟨hi,hr⟩;refine av ?_;refine cd (fun hc9=>?_) fun hc9=>?_
 ·refine aJ ?_;first|refine bD (v:=(bd.D _)) ?_|refine dM (v:=(bd.D _)) ?_
  refine ar ?_;refine aL (bd.D r.feats[i]!) (he:=by exact rfl) ?_;refine aJ ?_;intro u4;refine ar ?_;refine nI hm (ι:=Nat) (fun j=>(.un::.un::.un::⟨true,.ptr 0 9 0 0⟩::.un::.un::.un::.un::.un::.un::.un::.un::.un::.un::.un::.un::.un::.un::.un::.un::.un::.un::.un::.un::.un::⟨true,.int .i64 (i:Nat)⟩::⟨true,.int .i64 (r.feats.length:Nat)⟩::.un::⟨true,.sl 2 (r.feats.map bd.D)⟩::.un::⟨true,.int .i64 (j:Nat)⟩::⟨true,.int .i64 (r.feats[i]!.of.length:Nat)⟩::.un::⟨true,.sl 1 (r.feats[i]!.of.map D.str)⟩::.un::.un::.un::⟨true,.int .i64 (i:Nat)⟩::.un::[])) (fun j=>[(0,.buf 9 [Rec.D r])]) 53 (fun j=>j≤r.feats[i]!.of.length∧iY r r.feats[i]!.of=iW (fun j=>kg r r.feats[i]!.of[j]!) j r.feats[i]!.of.length) (fun j=>r.feats[i]!.of.length-j) 0 ⟨by omega,rfl⟩ (cS [(0,0)]) ?_;rintro j ⟨hj,hjr⟩;refine av ?_;refine cd (fun hc10=>?_) fun hc10=>?_
  ·refine gF ?_;refine ak (hc:=h214 r r.feats[i]!.of[j]! ((hp0.2.2.2 _ (bA (by omega))).2.2 _ (bA (by omega)))) ?_;refine aA ?_;refine fm (fun hc11=>?_) fun hc11=>?_
   ·refine fM ?_;refine bC (aF (congrArg (D.int .i64) ?_) (congrArg (D.int .i64) ?_));all_goals
     have hq:bX r=(kg r r.feats[i]!.of[j]!,((i:Nat):Int)):=by
      have hie:iY r r.feats[i]!.of=kg r r.feats[i]!.of[j]! :=by rw[hjr,lL (by omega) hc11]
      exact mM hc0 hc1 (by omega) (by omega) (rv hn0 hb0 hc8 (by rw[hr,iw (f:=(fun i=>iY r r.feats[i]!.of)) (by omega) (by rw[hie];exact hc11),hie])) hc11
     rw[hq];first|done|rfl
   refine aV ?_;exact⟨j+1,⟨by omega,by rw[hjr,pk (by omega) hc11]⟩,by omega,(cS [(0,0)])⟩
  refine bB ?_;exact⟨i+1,⟨by omega,by rw[hr,lz (f:=(fun i=>iY r r.feats[i]!.of)) (by omega) (by rw[hjr,pj (by omega)])]⟩,by omega,(cS [(0,0)])⟩
 refine ax ?_;have hpz:dh r=(0,0):=rv hn0 hb0 hc8 (by rw[hr,lx (by omega)]);have hgd:pW r:=⟨⟨hc0,hc1⟩,⟨by omega,by omega⟩,hpz⟩;refine aC ?_;refine ak (hc:=h215 r ⟨hgd,hp0⟩) ?_;refine aC ?_;intro u5;refine ar ?_;refine cd (fun hc12=>?_) fun hc12=>?_
 ·refine aA ?_;refine bC (aF (congrArg (D.int .i64) ?_) (congrArg (D.int .i64) ?_));all_goals
   have hq:bX r=(3,0):=by
    rw[qQ hc0 hc1 (by omega) (by omega) hpz,if_pos (by omega)]
   rw[hq];first|done|rfl
 refine aA ?_;refine bC (aF (congrArg (D.int .i64) ?_) (congrArg (D.int .i64) ?_));all_goals
  have hq:bX r=(0,0):=by
   rw[qQ hc0 hc1 (by omega) (by omega) hpz,if_neg (by omega)]
  rw[hq];first|done|rfl
def C70 (Γ:Ctx):Prop:=∀(r:Rec),(gA r)→Γ.pre 70 [Rec.D r]∧Γ.val 70 [Rec.D r]=.tup [.int .i64 (bX r).1,.int .i64 (bX r).2]
end Go.Abs
end
section
namespace Go.Abs
open Go
def zi:aB:=⟨1,12,[⟨1,some (9,true)⟩,⟨2,none⟩,⟨3,none⟩],[[.a,.a,.a,.a,.a,.a,.sl 3 [.sl 4 [.a,.a,.sl 1 [.a],.a],.a,.a],.sl 3 [.a,.a,.a],.sl 2 [.a,.sl 1 [.a]]],[.a],[.a]],(sq (rg [gb 9 (.c (.agg [.str [],.int .i64 0,.int .i64 0,.int .i64 0,.str [],.str [],.az,.az,.az])),gm bh,gm bh] [(1,0),(2,1),(3,2)]) (sq (sq (r1 [gm s0,m9 l0,cB l1 (i6 4096)] 4 2) (.cond s4 (sq (rg [gn (.build [.str [],.int .i64 0,.int .i64 0,.int .i64 0,.str [],.str [],.az,.az,.az] []),gt 9 s1 l0,gm jG,gm bh] [(2,2),(3,3)]) .ret) .skip)) (sq (r1 [gm s0,gx 124 [l0,(cs [10])] gQ,gm l1] 5 2) (sq (r1 [gm s5,gm s5,gl l1,dP l2 bR,gn (.slA 1 l0 none (some l3)),gn (.build [.az,.int .i64 0] [(0,1,l4)]),gb 2 l5,gm l6] 6 7) (sq (rg [gm s6,gn (.callF 222 l0 [] []),gm l1,ge l2 0,ge l2 1,gb 9 (.c (.agg [.str [],.int .i64 0,.int .i64 0,.int .i64 0,.str [],.str [],.az,.az,.az])),gt 9 l5 l3,gm l4] [(9,5),(7,7)]) (sq (sq (r2 [gm s7,ix l0,gm l1,dH 2 s6,bT 2 (.nilck l3),hH 2 1 l4,hY 2 l5,dH 2 s6,bT 2 (.nilck l7),hH 2 0 l8,hY 2 l9,bT 2 (.len l10),bT 2 (pT l6 fI),ea l2 gV,gm iQ,dH 14 s5,dH 14 s5,bT 14 (.len mE),bT 14 (iG nU bR),bT 14 (.ia 1 kB oB),hY 14 pY,bT 14 (dC ua cse),ea jt wP] 8 22) (.cond s8 (sq (rt [gn (.build [.str [],.int .i64 0,.int .i64 0,.int .i64 0,.str [],.str [],.az,.az,.az] []),gm s6,gc l1,gf 1 l2,gn (.ldI 1 false l3),au l4 bR,gt 9 s1 l0,gm jF,gm l5] [(2,7),(3,8)]) .ret) .skip)) (sq (sq (r1 [gk 9 true s9,gx 70 [l0] [[.a,.a,.a,.a,.a,.a,.sl 3 [.sl 4 [.a,.a,.sl 1 [.a],.a],.a,.a],.sl 3 [.a,.a,.a],.sl 2 [.a,.sl 1 [.a]]]],gm l1,ge l2 0,ge l2 1,gm l3,gm l4] 10 5) (sq (r1 [gm jx,bN l0 bh] 11 1) (.cond mc (sq (rg [gn (.build [.str [],.int .i64 0,.int .i64 0,.int .i64 0,.str [],.str [],.az,.az,.az] []),gm jx,gt 9 s1 l0,gm l1,gm bh] [(2,3),(3,4)]) .ret) .skip))) (sq (rg [gk 9 true s9,gt 9 s1 l0,gm bh,gm bh] [(2,2),(3,3)]) .ret))))))))⟩
def w76 {Γ:Ctx}(hm:(Γ.at 0).a8)(h70:C70 Γ)(h124:FV Γ)(h222:Ns Γ)(s:ai)   :dq Γ zi (.tup [Rec.D (c7 s).1,.int .i64 (c7 s).2.1,.int .i64 (c7 s).2.2]) [.str s]:=by
 show bz _ _ _ [⟨_,_⟩,_,_,_,_,_,_,_,_,_,_,_] _;refine aj ?_;refine bB ?_;intro u0;refine ar ?_;refine aq (fun hc0=>?_) (fun hc0=>?_)
 ·simp only[decide_eq_true_eq]at hc0;have hrr:c7 s=(ik,3,0):=by unfold c7;rw[if_pos (by omega)]
  rw[hrr];refine ar ?_;refine aW cD ?_;refine aL cD (he:=by exact rfl) ?_;refine av ?_;refine kY [(0,.buf 9 [Rec.D ik])] (.bf ae (.cons j6 .nil) .nil) ?_;refine aC ?_;refine bC (dK ?_ (congrArg (D.int .i64) ?_) (congrArg (D.int .i64) ?_));all_goals rfl
 simp only[decide_eq_false_iff_not]at hc0;have hsp:=dR 10 s [];have hsp:1≤(ah s 10).length:=hsp;have hsl:=cn s 10;refine av ?_;refine ak (v:=.sl 1 ((ah s 10).map D.str)) (hc:=h124 s 10 (by omega)) ?_;refine aA ?_;intro u1;refine aC ?_;refine oK ((ah s 10).length-1) (hj:=fun _=>by omega) (hb:=fun _=>by omega) ?_;refine aW (Ld.D ⟨((ah s 10).take ((ah s 10).length-1)),0⟩) ?_;refine ax ?_;generalize hLS:((ah s 10).take ((ah s 10).length-1))=LS;have hLl:LS.length=(ah s 10).length-1:=by rw[←hLS,List.length_take];omega
 have hLm:wH LS:=fun t ht=>by
  rw[←hLS]at ht;have:=dj s 10 (List.mem_of_mem_take ht);omega
 have hsm0:(⟨LS,0⟩:Ld).sm:=⟨⟨Nat.zero_le _,by simp only;omega⟩,hLm⟩;obtain⟨hrs,hsf⟩:=D5 hLm;have hsfl:=hsf.length_le;refine aC ?_;refine lu (v:=.tup [Rec.D (dX LS).1,.bool (mY LS).isSome]) (e:=Ld.D ((⟨LS,0⟩:Ld).to (dX LS).2)) (hc:=h222 ⟨LS,0⟩ hsm0) ?_;refine aC ?_;refine dU (Rec.D _) ?_;refine ar ?_;refine aL (Rec.D (dX LS).1) (he:=by exact rfl) ?_;refine gF ?_;refine bc (v:=.int .i64 ((LS.length-(dX LS).2.length:Nat):Int)) ?_;refine av ?_;refine bc (v:=.sl 1 (LS.map D.str)) ?_;refine gT ?_;refine aJ ?_;refine gT ?_;refine aC ?_;refine bJ ((ah s 10).length-1) (hj:=fun _=>by omega) (hb:=fun _=>by omega) ?_;refine bD (v:=.str (ah s 10)[(ah s 10).length-1]!) (hi:=fun _=>by omega) ?_;refine av ?_;refine aq (fun hc1=>?_) (fun hc1=>?_)
 ·simp only[Bool.or_eq_true,Bool.not_eq_true',decide_eq_true_eq,decide_eq_false_iff_not]at hc1;have hrr:c7 s=(ik,2,((LS.length-(dX LS).2.length:Nat):Int)+1):=by
   unfold c7;rw[if_neg (by omega)];simp only[hLS];rw[if_pos];rcases hc1 with(h|h)|h
   ·exact .inl h
   ·refine .inr (.inl fun e=>?_);rw[e]at h;simp only[List.length_nil]at h;omega
   ·exact .inr (.inr h)
  rw[hrr];refine aC ?_;refine eu 15 (he:=by simp only[jr,fq,fV,ke,k9,bS,Nat.reduceEqDiff,if_true,if_false,and_self,true_and,and_true,false_and,and_false,Nat.zero_add,List.length_map,Nat.le_refl,List.drop_zero,aE,reduceCtorEq,List.length_cons,List.length_nil,Nat.reduceAdd,Nat.reduceLeDiff,Ld.D,cD,mU];exact rfl) (hm:=by simp only[jr,fq,fV,ke,k9,bS,Nat.reduceEqDiff,if_true,if_false,and_self,true_and,and_true,false_and,and_false,Nat.zero_add,List.length_map,Nat.le_refl,List.drop_zero,aE,reduceCtorEq,List.length_cons,List.length_nil,Nat.reduceAdd,Nat.reduceLeDiff,Ld.D,cD,Rec.D];exact rfl) ?_;refine aC ?_;refine aW cD ?_;refine av ?_;refine ze (v:=.int .i64 ((LS.length-(dX LS).2.length:Nat):Int)) ?_;refine aC ?_;refine aL cD (he:=by exact rfl) ?_;refine av ?_;refine kY [(0,.buf 9 [Rec.D ik]),(22,.buf 9 [Rec.D (dX LS).1])] (.bf ae (.cons j6 .nil) (.id ae .nil)) ?_;refine aC ?_;refine bC (dK ?_ (congrArg (D.int .i64) ?_) (congrArg (D.int .i64) ?_));all_goals rfl
 simp only[Bool.or_eq_false_iff,Bool.not_eq_false',decide_eq_true_eq,decide_eq_false_iff_not]at hc1;have hrr:c7 s=if(bX (dX LS).1).1≠0 then(ik,(bX (dX LS).1).1,0)else((dX LS).1,0,0):=by
  unfold c7;rw[if_neg (by omega)];simp only[hLS];rw[if_neg];rintro(h|h|h)
  ·rw[hc1.1.1]at h;cases h
  ·exact h (List.eq_nil_of_length_eq_zero (by have:=hc1.1.2;omega))
  ·exact h hc1.2
 rw[hrr];refine av ?_;refine cG (d:=Rec.D (dX LS).1) ?_;refine ak (hc:=h70 (dX LS).1 hrs) ?_;refine fM ?_;refine aq (fun hc2=>?_) (fun hc2=>?_)
 ·simp only[Bool.not_eq_true',decide_eq_false_iff_not]at hc2;rw[if_pos hc2];refine ar ?_;refine aW cD ?_;refine aC ?_;refine aL cD (he:=by exact rfl) ?_;refine av ?_;refine kY [(0,.buf 9 [Rec.D ik]),(15,.buf 2 [Ld.D ((⟨LS,0⟩:Ld).to (dX LS).2)]),(22,.buf 9 [Rec.D (dX LS).1])] (.bf ae (.cons j6 .nil) (.id ae (.id ae .nil))) ?_;refine aC ?_;refine bC (dK ?_ (congrArg (D.int .i64) ?_) (congrArg (D.int .i64) ?_));all_goals rfl
 simp only[Bool.not_eq_false',decide_eq_true_eq]at hc2;rw[if_neg (by rw[hc2];simp)];refine ar ?_;refine cG (d:=Rec.D (dX LS).1) ?_;refine aL (Rec.D (dX LS).1) (he:=by exact rfl) ?_;refine ax ?_;refine bC (dK ?_ (congrArg (D.int .i64) ?_) (congrArg (D.int .i64) ?_));all_goals rfl
def C76 (Γ:Ctx):Prop:=∀(s:ai),Γ.pre 76 [.str s]∧Γ.val 76 [.str s]=.tup [Rec.D (c7 s).1,.int .i64 (c7 s).2.1,.int .i64 (c7 s).2.2]
end Go.Abs
end
namespace Go.Abs
def qA (t:ai)(n:Nat):Bool:=decide (n<(ah t 32).length)&&b8 (fun i=>!decide ((ah t 32)[i]! =[])) 0 n
def ei (t:ai)(n:Nat):List ai×ai×Bool:=if qA t n=true then((ah t 32).take n,aM [32] ((ah t 32).drop n),!decide (aM [32] ((ah t 32).drop n)=[]))else([],[],false)
def rp {l:List ai}{n:Nat}{x:ai}(hn:n≤l.length):x∈l.take n↔∃i,i<n∧l[i]! =x:=by
 constructor
 ·intro h;obtain⟨i,hi,e⟩:=List.mem_iff_getElem.1 h;rw[List.length_take]at hi;refine⟨i,by omega, ?_⟩;rw[List.getElem_take]at e;simp[show i<l.length by omega,e]
 ·rintro⟨i,hi,rfl⟩;have:l[i]! =(l.take n)[i]! :=by simp[hi,show i<l.length by omega]
  rw[this];exact bA (by rw[List.length_take];omega)
def zq (t:ai)(n:Nat):kV t n=if(ei t n).2.2=true then some ((ei t n).1,(ei t n).2.1)else none:=by
 unfold kV ei qA;by_cases h1:n<(ah t 32).length
 ·by_cases h2:[]∉(ah t 32).take n
  ·have h3:b8 (fun i=>!decide ((ah t 32)[i]! =[])) 0 n=true:=by
    rw[dS];intro j _ hj;simp only[Bool.not_eq_true',decide_eq_false_iff_not];intro e;exact h2 ((rp (by omega)).2 ⟨j,hj,e⟩)
   rw[h3,decide_eq_true h1];by_cases h4:aM [32] ((ah t 32).drop n)=[]
   ·simp[h4]
   ·simp[h1,h2,h4]
  ·have h3:b8 (fun i=>!decide ((ah t 32)[i]! =[])) 0 n=false:=by
    rw[Bool.eq_false_iff];intro h;rw[dS]at h;refine h2 (fun hm=>?_);obtain⟨i,hi,e⟩:=(rp (by omega)).1 hm;have:=h i (by omega) hi;simp[e]at this
   rw[h3,if_neg (fun hh=>h2 hh.2.1)];simp
 ·rw[decide_eq_false h1,if_neg (fun hh=>h1 hh.1)];simp
def AB (l:List ai)(n:Nat):rr l n=(decide (l.length=n)&&b8 (fun i=>!decide (l[i]! =[])) 0 l.length):=by
 rw[Bool.eq_iff_iff,mT];simp only[Bool.and_eq_true,decide_eq_true_eq,dS,Bool.not_eq_true',decide_eq_false_iff_not];constructor
 ·rintro⟨h1,h2⟩;exact⟨h1,fun j _ hj e=>h2 (e▸bA hj)⟩
 ·rintro⟨h1,h2⟩;refine⟨h1,fun hm=>?_⟩;obtain⟨i,hi,e⟩:=rl hm;exact h2 i (by omega) hi e
def fA (s:ai):List ai×Bool:=if(ah s 10)[(ah s 10).length-1]! =[]then((ah s 10).take ((ah s 10).length-1),true)else(ah s 10,false)
end Go.Abs
section
namespace Go.Abs
open Go
def CD:aB:=⟨2,11,[⟨2,none⟩,⟨3,none⟩,⟨4,none⟩],[[.sl 1 [.a]],[.a],[.a]],(sq (rg [gm (.c (.az)),gm cse,gm ct] [(2,0),(3,1),(4,2)]) (sq (r1 [gm s0,gx 470 [l0,(i8 32)] gQ,gm l1] 5 2) (sq (sq (r1 [gm s5,gl l0,gm s1,vg l1 l2] 6 3) (.cond s6 (sq (rg [gm (.c (.az)),gm cse,gm ct] [(2,0),(3,1),(4,2)]) .ret) .skip)) (sq (sq (r1 [gm bh] 7 0) (.block 0 (.loop (sq (sq (r1 [gm s7,gm s1,aN l0 l1] 8 2) (eN s8 0)) (sq (.block 1 (sq (r1 [gm s5,gm s7,ga 1 l0 l1,gd l2,aG l3 cse] 9 4) (.cond s9 (sq (rg [gm (.c (.az)),gm cse,gm ct] [(2,0),(3,1),(4,2)]) .ret) .skip))) (r1 [gm s7,au l0 bR,gm l1] 7 2)))))) (sq (r1 [gm s5,gm s1,gn (.slA 1 l0 (some l1) none),gx 249 [l2,(i8 32)] [[.sl 1 [.a]],[.a]],gm l3] 10 4) (sq (rg [gm s5,gm s1,gn (.slA 1 l0 none (some l1)),gm jx,gm jx,bN l4 cse,gm l2,gm l3,gm l5] [(2,6),(3,7),(4,8)]) .ret))))))⟩
def w475 {Γ:Ctx}(hm:(Γ.at 0).a8)(h249:FZ Γ)(h470:uk Γ)(s:ai)(n:Nat)  (hp0:s.length≤1048576)(hp1:n≤100):dq Γ CD (.tup [.sl 1 ((ei s n).1.map D.str),.str (ei s n).2.1,.bool (ei s n).2.2]) [.str s,.int .i64 (n:Nat)]:=by
 show bz _ _ _ [⟨_,_⟩,⟨_,_⟩,_,_,_,_,_,_,_,_,_] _;have hsl:=cn s 32;refine aj ?_;refine aA ?_;refine ak (v:=.sl 1 ((ah s 32).map D.str)) (hc:=h470 s 32 hp0) ?_;refine aA ?_;intro u0;refine av ?_;refine aq (fun hc0=>?_) (fun hc0=>?_)
 ·simp only[decide_eq_true_eq]at hc0;have hrd:ei s n=([],[],false):=by unfold ei qA;rw[decide_eq_false (by omega)];rfl
  rw[hrd];refine aV ?_;refine bC (dK ?_ ?_ ?_);all_goals rfl
 simp only[decide_eq_false_iff_not]at hc0;have hlt:n<(ah s 32).length:=by omega
 refine aJ ?_;refine aY hm (ι:=Nat) (fun i=>[⟨true,.str s⟩,⟨true,.int .i64 (n:Nat)⟩,⟨true,.az⟩,⟨true,.str []⟩,⟨true,.bool false⟩,⟨true,.sl 1 ((ah s 32).map D.str)⟩,.un,⟨true,.int .i64 (i:Nat)⟩,.un,.un,.un]) (fun i=>[]) 11 (fun i=>i≤n∧qA s n=b8 (fun i=>!decide ((ah s 32)[i]! =[])) i n) (fun i=>n-i) 0 ⟨by omega,by unfold qA;rw[decide_eq_true hlt];rfl⟩ (cS []) ?_;rintro i ⟨hi,hr⟩;refine aA ?_;refine cd (fun hc1=>?_) fun hc1=>?_
 ·refine aJ ?_;refine bJ i (hb:=fun _=>by omega) ?_;refine bD (v:=.str (ah s 32)[i]!) (hi:=fun _=>by omega) ?_;refine ar ?_;refine fm (fun hc2=>?_) fun hc2=>?_
  ·refine aC ?_;have hrd:ei s n=([],[],false):=by unfold ei;rw[hr,aH (by omega),decide_eq_true hc2];rfl
   rw[hrd];refine aV ?_;refine bC (dK ?_ ?_ ?_);all_goals rfl
  refine bB ?_;exact⟨i+1,⟨by omega,by rw[hr,aH (by omega),decide_eq_false hc2];rfl⟩,by omega,(cS [])⟩
 refine av ?_;have hro:qA s n=true:=by rw[hr,bE (by omega)]
 have hrd:ei s n=((ah s 32).take n,aM [32] ((ah s 32).drop n),!decide (aM [32] ((ah s 32).drop n)=[])):=by unfold ei;rw[if_pos hro]
 rw[hrd];refine ar ?_;refine rz n (hb:=fun _=>by omega) ?_;refine ak (v:=.str (aM [32] ((ah s 32).drop n))) (hc:=h249 ((ah s 32).drop n) 32 (by have:=lQ 32 (ah s 32) n;rw[iI (b:=32) (x:=32) rfl s]at this;omega)) ?_;refine aJ ?_;refine oK n (hb:=fun _=>by omega) ?_;refine bB ?_;refine bC (dK ?_ ?_ ?_);all_goals rfl
def IB (Γ:Ctx):Prop:=∀(s:ai)(n:Nat),(s.length≤1048576)→(n≤100)→Γ.pre 475 [.str s,.int .i64 (n:Nat)]∧Γ.val 475 [.str s,.int .i64 (n:Nat)]=.tup [.sl 1 ((ei s n).1.map D.str),.str (ei s n).2.1,.bool (ei s n).2.2]
def Fe:aB:=⟨2,7,[⟨2,none⟩],bO,(sq (r1 [gm ct] 2 0) (sq (sq (r1 [gm s0,gl l0,gm s1,bN l1 l2] 3 3) (.cond s3 (sq (r1 [gm ct] 2 0) .ret) .skip)) (sq (sq (r1 [gm bh] 4 0) (.block 0 (.loop (sq (sq (r1 [gm s4,gm s0,gl l1,aN l0 l2] 5 3) (eN s5 0)) (sq (.block 1 (sq (r1 [gm s0,gm s4,ga 1 l0 l1,gd l2,aG l3 cse] 6 4) (.cond s6 (sq (r1 [gm ct] 2 0) .ret) .skip))) (r1 [gm s4,au l0 bR,gm l1] 4 2)))))) (sq (r1 [gm me] 2 0) .ret))))⟩
def w474 {Γ:Ctx}(hm:(Γ.at 0).a8)  (l:List ai)(n:Nat)   :dq Γ Fe (.bool (rr l n)) [.sl 1 (l.map D.str),.int .i64 (n:Nat)]:=by
 show bz _ _ _ [⟨_,_⟩,⟨_,_⟩,_,_,_,_,_] _;refine aj ?_;refine aA ?_;intro u0;refine av ?_;refine cd (fun hc0=>?_) fun hc0=>?_
 ·refine aJ ?_;refine br ?_;rw[AB,decide_eq_false (by omega)];rfl
 refine aJ ?_;refine aY hm (ι:=Nat) (fun i=>[⟨true,.sl 1 (l.map D.str)⟩,⟨true,.int .i64 (n:Nat)⟩,⟨true,.bool false⟩,.un,⟨true,.int .i64 (i:Nat)⟩,.un,.un]) (fun i=>[]) 6 (fun i=>i≤l.length∧rr l n=b8 (fun i=>!decide (l[i]! =[])) i l.length) (fun i=>l.length-i) 0 ⟨by omega,by rw[AB,decide_eq_true (by omega)];rfl⟩ (cS []) ?_;rintro i ⟨hi,hr⟩;refine aJ ?_;intro u1;refine ar ?_;refine cd (fun hc1=>?_) fun hc1=>?_
 ·refine aJ ?_;refine bJ i (hb:=fun _=>by omega) ?_;refine bD (v:=.str l[i]!) (hi:=fun _=>by omega) ?_;refine ar ?_;refine fm (fun hc2=>?_) fun hc2=>?_
  ·refine aA ?_;refine br ?_;rw[hr,aH (by omega),decide_eq_true hc2];rfl
  refine bB ?_;exact⟨i+1,⟨by omega,by rw[hr,aH (by omega),decide_eq_false hc2];rfl⟩,by omega,(cS [])⟩
 refine aA ?_;refine br ?_;rw[hr,bE (by omega)]
def KZ (Γ:Ctx):Prop:=∀(l:List ai)(n:Nat),Γ.pre 474 [.sl 1 (l.map D.str),.int .i64 (n:Nat)]∧Γ.val 474 [.sl 1 (l.map D.str),.int .i64 (n:Nat)]=.bool (rr l n)
def AZ:aB:=⟨1,6,[⟨1,none⟩,⟨2,none⟩],[[.sl 1 [.a]],[.a]],(sq (rg [gm (.c (.az)),gm ct] [(1,0),(2,1)]) (sq (r1 [gm s0,gx 470 [l0,(i8 10)] gQ,gm l1] 3 2) (sq (r1 [gm s3,gl l0,dP l1 bR,gm l2] 4 3) (sq (sq (r1 [gm s3,gm s4,ga 1 l0 l1,gd l2,aG l3 cse] 5 4) (.cond s5 (sq (rg [gm s3,gm s4,gn (.slA 1 l0 none (some l1)),gm l2,gm me] [(1,3),(2,4)]) .ret) .skip)) (sq (rg [gm s3,gm l0,gm ct] [(1,1),(2,2)]) .ret)))))⟩
def w223 {Γ:Ctx}(hm:(Γ.at 0).a8)(h470:uk Γ)(s:ai)  (hp0:s.length≤1048576):dq Γ AZ (.tup [.sl 1 ((fA s).1.map D.str),.bool (fA s).2]) [.str s]:=by
 show bz _ _ _ [⟨_,_⟩,_,_,_,_,_] _;have hsp:1≤(ah s 10).length:=dR 10 s [];have hsl:=cn s 10;refine aj ?_;refine aJ ?_;refine ak (v:=.sl 1 ((ah s 10).map D.str)) (hc:=h470 s 10 hp0) ?_;refine aJ ?_;intro u0;refine aV ?_;refine bJ ((ah s 10).length-1) (hj:=fun _=>by omega) (hb:=fun _=>by omega) ?_;refine bD (v:=.str (ah s 10)[(ah s 10).length-1]!) (hi:=fun _=>by omega) ?_;refine ar ?_;refine cd (fun hc0=>?_) fun hc0=>?_
 ·refine ar ?_;have hlx:fA s=(((ah s 10).take ((ah s 10).length-1)),true):=by unfold fA;rw[if_pos hc0]
  rw[hlx];refine ar ?_;refine oK ((ah s 10).length-1) (hj:=fun _=>by omega) (hb:=fun _=>by omega) ?_;refine ax ?_;refine bC (aF ?_ ?_);all_goals rfl
 refine ar ?_;have hlx:fA s=((ah s 10),false):=by unfold fA;rw[if_neg hc0]
 rw[hlx];refine aJ ?_;refine bC (aF ?_ ?_);all_goals rfl
def Nt (Γ:Ctx):Prop:=∀(s:ai),(s.length≤1048576)→Γ.pre 223 [.str s]∧Γ.val 223 [.str s]=.tup [.sl 1 ((fA s).1.map D.str),.bool (fA s).2]
end Go.Abs
end
section
namespace Go.Abs
def sF (t:ai)(n:Nat)(h:(ei t n).2.2=true):(ei t n).1.length=n:=by
 unfold ei at h⊢;split
 ·rename_i hr;unfold qA at hr;simp only[Bool.and_eq_true,decide_eq_true_eq]at hr;simp only[List.length_take];omega
 ·rename_i hr;rw[if_neg hr]at h;cases h
def vQ (t:ai)(n:Nat):∀w∈(ei t n).1,w.length≤t.length:=by
 unfold ei;split
 ·intro w hw;exact dj t 32 (List.mem_of_mem_take hw)
 ·intro w hw;cases hw
def ju (j:Nat)(n:aP):D:=.agg [.own j 4 0 n.any.length,.str n.when',.str n.option]
def dk (j:Nat):List aP→List D
 |[]=>[]
 |[n]=>[ju j n]
 |a::b::r=>aP.D a::dk j (b::r)
def kD:List aP→List D
 |[]=>[]
 |[n]=>n.any.map bm.N
 |_::b::r=>kD (b::r)
def eH (j:Nat)(n:aP):∀N:List aP,dk j (N++[n])=N.map aP.D++[ju j n]
 |[]=>rfl
 |[a]=>rfl
 |a::b::r=>by
  have:=eH j n (b::r);simp only[List.cons_append,List.map_cons]at this⊢;simp only[dk,this]
def gH (n:aP):∀N:List aP,kD (N++[n])=n.any.map bm.N
 |[]=>rfl
 |[a]=>rfl
 |a::b::r=>by
  have:=gH n (b::r);simp only[List.cons_append]at this⊢;simp only[kD,this]
def pF {α:Type}{l:List α}(h:l≠[]):∃a x,l=a++[x]:=⟨l.dropLast,l.getLast h,(List.dropLast_concat_getLast h).symm⟩
def lP {α:Type}(l:List α)(a d:α)(n:Nat)(h:n=l.length):(l++[a]).getD n d=a:=by subst h;simp[List.getD]
def oR {α:Type}(l:List α)(a b:α)(n:Nat)(h:n=l.length):(l++[a]).set n b=l++[b]:=by subst h;simp
def lE (nm:ai)(v:b7)(a b c:Nat)(st:Int)(j1 j3 j4:Nat):D:=.agg [.str nm,.int .i64 v.major,.int .i64 v.minor,.int .i64 v.patch,.str v.pre,.str v.build,.own j1 3 0 a,.own j3 3 0 b,.own j4 2 0 c,.int .i64 st]
def LG (x:fX)(j0 j1 j2 j3 j4:Nat):List (Nat×bo):=[(j0,.buf 10 [lE x.r.name x.r.v x.r.needs.length x.r.bars.length x.r.feats.length (x.st:Nat) j1 j3 j4]),(j1,.buf 3 (dk j2 x.r.needs)),(j2,.buf 4 (kD x.r.needs)),(j3,.buf 3 (x.r.bars.map ec.D)),(j4,.buf 2 (x.r.feats.map bd.D))]
structure IV (m:List (Nat×bo))(x:fX)(j0 j1 j2 j3 j4:Nat):Prop where
 a0:look m j0=some (.buf 10 [lE x.r.name x.r.v x.r.needs.length x.r.bars.length x.r.feats.length (x.st:Nat) j1 j3 j4])
 a1:look m j1=some (.buf 3 (dk j2 x.r.needs))
 a2:look m j2=some (.buf 4 (kD x.r.needs))
 a3:look m j3=some (.buf 3 (x.r.bars.map ec.D))
 a4:look m j4=some (.buf 2 (x.r.feats.map bd.D))
def qk (a b c d e:Nat):Bool:=!(Nat.beq a b ||Nat.beq a c ||Nat.beq a d ||Nat.beq a e ||Nat.beq b c ||Nat.beq b d ||Nat.beq b e ||Nat.beq c d ||Nat.beq c e ||Nat.beq d e)
def rS (o:Option fX)(j0 L:Nat):List (Nat×bo):=match o with
 |some y=>LG y j0 L (L+1) (L+2) (L+3)
 |none=>[]
def zO (m:List (Nat×bo))(j0 j1 j2 j3 j4:Nat):List (Nat×bo):=bS (bS (bS (bS (bS m j0) j1) j2) j3) j4
def LH (out:Option fX):D→List (Nat×bo)→Prop:=fun d m=>d=.bool out.isSome∧∀y,out=some y→∃j1 j2 j3 j4,qk 0 j1 j2 j3 j4=true∧IV m y 0 j1 j2 j3 j4
def PK (Γ:Ctx)(n:Nat)(aaz:List D)(x:fX)(out:Option fX):Prop:=∀(nx j0 j1 j2 j3 j4:Nat)(m:List (Nat×bo))(K:D→St→Prop),IV m x j0 j1 j2 j3 j4→qk j0 j1 j2 j3 j4=true→(j0<nx∧j1<nx∧j2<nx∧j3<nx∧j4<nx)→
 K (.bool out.isSome) ⟨nx+4,rS out j0 nx++zO m j0 j1 j2 j3 j4⟩→Γ.tr n (.ptr j0 10 0 0::aaz) ⟨nx,m⟩ K
def fX.ok (x:fX):Prop:=(x.st=0→x.r.needs=[]∧x.r.bars=[]∧x.r.feats=[])∧((x.st=2∨x.st=3)→x.r.needs≠[])∧(x.st=5→x.r.bars≠[])
def pZ (l:List aP):Nat:=(l.getLast?.map fun n=>n.any.length).getD 0
def fX.sz (x:fX):Nat:=x.r.needs.length+x.r.bars.length+x.r.feats.length+pZ x.r.needs
def nA (N:List aP)(n:aP):pZ (N++[n])=n.any.length:=by simp[pZ]
def oy (x:fX)(l:List ai):Option fX:=if(l.length=3∧l[0]! =cL)∧l[1]! ≠[]then(match ee l[2]! with
 |some v=>some ⟨⟨l[1]!,v,x.r.needs,x.r.bars,x.r.feats⟩,1⟩
 |none=>none)else none
def Dw {x:fX}(h:x.ok)(h0:x.st=0)(l:List ai):oy x l=uP l:=by
 obtain⟨h1,h2,h3⟩:=h.1 h0;unfold oy uP;rw[h1,h2,h3];by_cases hc:(l.length=3∧l[0]! =cL)∧l[1]! ≠[]
 ·rw[if_pos hc,if_pos hc];cases hv:ee l[2]! <;>simp only[hv]
 ·rw[if_neg hc,if_neg hc]
def jA:∀N:List aP,aT (kD N)=true
 |[]=>rfl
 |[a]=>bg bm.mg _
 |a::b::r=>jA (b::r)
end Go.Abs
namespace Go.Abs
def sn (l k:Nat)(es:List D)(hl:l≠2):∀N:List aP,fV l k es (dk 2 N)=dk 2 N
 |[]=>rfl
 |[n]=>by simp only[dk,ju,fV,fq,show ¬2=l from fun e=>hl e.symm,false_and,if_false]
 |a::b::r=>by
  have:=sn l k es hl (b::r);have ha:fq l k es (aP.D a)=aP.D a:=rfl;simp only[dk,fV,this,ha]
def sb (l k:Nat)(es:List D)(N:List aP):fV l k es (kD N)=kD N:=nu l k es _ (jA N)
def qm (l k:Nat)(es:List D)(B:List ec):fV l k es (B.map ec.D)=B.map ec.D:=nu l k es _ (bg (fun _=>rfl) _)
def qn (l k:Nat)(es:List D)(Z:List bd):fV l k es (Z.map bd.D)=Z.map bd.D:=nu l k es _ (bg (fun _=>rfl) _)
end Go.Abs
end
