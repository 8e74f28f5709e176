/- A part of the proofs of the statements: T14, T15, T16, T17, T18, T19, T20, T21, T22, T23, LPlain4, LPlain5, T24, T25, U2, U3, U4, U5, U6, U7, U8, U8b, U9, U10, U11, U12, U13, U14, U15, U16, U17, UX, U18, U19. -/
import Derived.Test.YtpdlhpamcaocgaaGreatDoorP06
set_option linter.all false
set_option maxRecDepth 4000
section
namespace Go.Abs
open Go
def wY:aB:=⟨1,18,[⟨1,some (5,true)⟩,⟨2,none⟩],[[.a,.a,.a,.a,.a],[.a]],(sq (rg [gb 5 (.c (.agg [.int .i64 0,.int .i64 0,.int .i64 0,.str [],.str []])),gm bh] [(1,0),(2,1)]) (sq (r1 [gb 5 (.c (.agg [.int .i64 0,.int .i64 0,.int .i64 0,.str [],.str []]))] 4 0) (sq (r1 [gm s0,gm l0] 3 1) (sq (r1 [gm s3,gx 675 [l0,(i8 43)] gQ,gm l1,ge l2 0,ge l2 1,gf 4 s4,gt 1 l5 l3,gm l4] 3 7) (sq (r1 [gm s3,gx 675 [l0,(i8 45)] gQ,gm l1,ge l2 0,ge l2 1,gf 3 s4,gt 1 l5 l3,gm l4] 3 7) (sq (r1 [gm s3,gx 533 [l0,(i8 46)] gQ,gm l1] 5 2) (sq (sq (r1 [gm s5,gl l0,bN l1 jG] 6 2) (.cond s6 (sq (r1 [gn (.build [.int .i64 0,.int .i64 0,.int .i64 0,.str [],.str []] []),gt 5 s1 l0,gm B4] 2 2) .ret) .skip)) (sq (r1 [gb 3 (.c (.agg [.int .i64 0,.int .i64 0,.int .i64 0]))] 16 0) (sq (sq (rg [gm s5,gl l0,gm bh] [(10,0),(8,1),(7,2)]) (.block 0 (.loop (sq (r1 [aN s7 s8] 9 0) (sq (eN s9 0) (sq (.block 1 (sq (rg [gm s7,ga 1 jx s7,gd l1,gm l0,gm l2] [(14,3),(11,4)]) (sq (rg [gm mc,gx 658 [l0] bO,gm l1,ge l2 0,ge l2 1,gm l3,gm l4] [(15,5),(12,6)]) (sq (sq (r1 [gm lY,ix l0] 13 1) (.cond pP (sq (r1 [gn (.build [.int .i64 0,.int .i64 0,.int .i64 0,.str [],.str []] []),gt 5 s1 l0,gm B4] 2 2) .ret) .skip)) (rg [gm tn,gm vW,gn (.iaP 3 1 BF l0),gt 1 l2 l1] []))))) (r1 [au s7 bR,gm l0] 7 1))))))) (sq (rt [gn (.iaP 3 1 BF bh),gd l0,gn (.iaP 3 1 BF bR),gn (.ldI 1 false l2),gn (.iaP 3 1 BF jF),gn (.ldI 1 false l4),gf 0 s4,gt 1 l6 l1,gf 1 s4,gt 1 l8 l3,gf 2 s4,gt 1 l10 l5] []) (sq (sq (r1 [gk 5 true s4,gx 209 [l0] EJ,ix l1,gm l2,bT 3 (.ld 5 true s4),bT 3 (.call 451 [l4] EJ),dH 3 s0,bT 3 (dC l5 l6),ea l3 l7] 17 8) (.cond Bc (sq (r1 [gn (.build [.int .i64 0,.int .i64 0,.int .i64 0,.str [],.str []] []),gt 5 s1 l0,gm B4] 2 2) .ret) .skip)) (sq (r1 [gk 5 true s4,gt 5 s1 l0,gm bh] 2 2) .ret))))))))))))⟩
def w466 {Γ:Ctx}(hm:(Γ.at 0).a8)(h209:FW Γ)(h451:KS Γ)(h533:F0 Γ)(h658:IC Γ)(h675:N8 Γ)(s:ai)  (hp0:s.length≤1048576):dq Γ wY (.tup [b7.D ((ee s).getD dY),.int .i64 (kO s)]) [.str s]:=by
 show bz _ _ _ [⟨_,_⟩,_,_,_,_,_,_,_,_,_,_,_,_,_,_,_,_,_] _;have hb1:=iH s 43;have gQ:=iH (aw s 43).2 45;generalize hA:aw s 43=A at hb1 gQ;generalize hB:aw A.2 45=B at gQ;have hsl:=cn B.2 46;generalize hL:ah B.2 46=L at hsl;have hq0:ee s=if L.length=3∧dQ L[0]! =true∧dQ L[1]! =true∧dQ L[2]! =true then(if iF ⟨cT L[0]!,cT L[1]!,cT L[2]!,B.1,A.1⟩=true∧lv ⟨cT L[0]!,cT L[1]!,cT L[2]!,B.1,A.1⟩=s then some ⟨cT L[0]!,cT L[1]!,cT L[2]!,B.1,A.1⟩else none)else none:=by subst hA;subst hB;subst hL;rfl
 refine aj ?_;refine gZ ?_;refine ak (hc:=h675 s 43) ?_;rw[hA];refine ax ?_;refine aL (b7.D ⟨0,0,0,[],A.1⟩) (he:=by exact rfl) ?_;refine ax ?_;refine ak (hc:=h675 A.2 45) ?_;rw[hB];refine ax ?_;refine aL (b7.D ⟨0,0,0,B.1,A.1⟩) (he:=by exact rfl) ?_;refine ax ?_;refine ak (hc:=h533 B.2 46 (by omega)) ?_;rw[hL];refine aA ?_;intro u0;refine ar ?_;refine cd (fun hc0=>?_) fun hc0=>?_
 ·refine ar ?_;refine aW (b7.D dY) ?_;refine ax ?_;refine bC (aF ?_ (congrArg (D.int .i64) ?_));all_goals
   have hq:ee s=none:=by rw[hq0,if_neg (fun h=>by have:=h.1;omega)]
   simp only[kO,hq];rfl
 refine bB ?_;intro u1;refine ar ?_;refine aY hm (ι:=Nat) (fun i=>[⟨true,.str s⟩,⟨true,.ptr 0 5 0 0⟩,.un,.un,⟨true,.ptr 2 5 0 0⟩,.un,.un,⟨true,.int .i64 (i:Nat)⟩,⟨true,.int .i64 (L.length:Nat)⟩,.un,⟨true,.sl 1 (L.map D.str)⟩,.un,.un,.un,.un,.un,⟨true,.ptr 27 3 0 0⟩,.un]) (fun i=>[(0,.buf 5 [b7.D dY]),(2,.buf 5 [b7.D ⟨0,0,0,B.1,A.1⟩]),(27,.buf 3 [EY L i])]) 31 (fun i=>i≤3∧∀j,j<i→dQ L[j]! =true) (fun i=>3-i) 0 ⟨by omega,fun j hj=>by omega⟩ (cS [(0,0),(2,2),(27,27)]) ?_;rintro i ⟨hi,hr⟩;refine av ?_;refine cd (fun hc1=>?_) fun hc1=>?_
 ·refine fM ?_;refine ak (hc:=h658 L[i]!) ?_;refine fM ?_;refine aq (fun hc2=>?_) (fun hc2=>?_)
  ·simp only[Bool.not_eq_true']at hc2;refine ar ?_;refine aW (b7.D dY) ?_;refine aA ?_;refine bC (aF ?_ (congrArg (D.int .i64) ?_));all_goals
    have hq:ee s=none:=by
     rw[hq0,if_neg];rintro⟨_,h1,h2,h3⟩;rcases(show i=0∨i=1∨i=2 by omega)with rfl|rfl|rfl
     ·rw[h1]at hc2;cases hc2
     ·rw[h2]at hc2;cases hc2
     ·rw[h3]at hc2;cases hc2
    simp only[kO,hq];rfl
  simp only[Bool.not_eq_false']at hc2;refine ax ?_;refine vF i ?_;refine aL (EY L (i+1)) (he:=Ax L i (by omega)) ?_;refine aV ?_;have hr2:∀j,j<i+1→dQ L[j]! =true:=by
   intro j hj;rcases Nat.eq_or_lt_of_le (Nat.lt_succ_iff.1 hj)with rfl|h
   ·exact hc2
   ·exact hr j h
  exact⟨i+1,⟨by omega,hr2⟩,by omega,(cS [(0,0),(2,2),(27,27)])⟩
 refine ar ?_;refine eu 27 ?_;refine aC ?_;have h3:i=3:=by omega
 subst h3;refine Cs 0 ?_;refine dM (v:=.int .i64 (cT L[0]!)) ?_;refine Cs 1 ?_;refine ze (v:=.int .i64 (cT L[1]!)) ?_;refine Cs 2 ?_;refine ze (v:=.int .i64 (cT L[2]!)) ?_;refine aC ?_;refine aL (b7.D ⟨cT L[0]!,0,0,B.1,A.1⟩) (he:=by exact rfl) ?_;refine aC ?_;refine aL (b7.D ⟨cT L[0]!,cT L[1]!,0,B.1,A.1⟩) (he:=by exact rfl) ?_;refine aC ?_;refine aL (b7.D ⟨cT L[0]!,cT L[1]!,cT L[2]!,B.1,A.1⟩) (he:=by exact rfl) ?_;refine av ?_;have hsm:b7.sm ⟨cT L[0]!,cT L[1]!,cT L[2]!,B.1,A.1⟩:=⟨by simp only;omega,by simp only;omega⟩;generalize hV:(⟨cT L[0]!,cT L[1]!,cT L[2]!,B.1,A.1⟩:b7)=V at hsm hq0⊢;refine aC ?_;refine ak (hc:=h209 V hsm) ?_;refine av ?_;refine fB (hc:=fun _=>h451 V hsm) ?_;refine ax ?_;refine aq (fun hc3=>?_) (fun hc3=>?_)
 ·simp only[Bool.or_eq_true,Bool.not_eq_true',decide_eq_false_iff_not]at hc3;refine ar ?_;refine aW (b7.D dY) ?_;refine ax ?_;refine bC (aF ?_ (congrArg (D.int .i64) ?_));all_goals
   have hq:ee s=none:=by
    rw[hq0];split
    ·rw[if_neg];rintro⟨h1,h2⟩;rcases hc3 with h|h
     ·rw[h1]at h;cases h
     ·exact h h2
    ·rfl
   simp only[kO,hq];rfl
 simp only[Bool.or_eq_false_iff,Bool.not_eq_false',decide_eq_true_eq]at hc3;refine aV ?_;refine bC (aF ?_ (congrArg (D.int .i64) ?_));all_goals
  have hq:ee s=some V:=by
   rw[hq0,if_pos ⟨by omega,hr 0 (by omega),hr 1 (by omega),hr 2 (by omega)⟩,if_pos hc3]
  simp only[kO,hq];rfl
def NR (Γ:Ctx):Prop:=∀(s:ai),(s.length≤1048576)→Γ.pre 466 [.str s]∧Γ.val 466 [.str s]=.tup [b7.D ((ee s).getD dY),.int .i64 (kO s)]
end Go.Abs
end
section
namespace Go.Abs
open Go
end Go.Abs
end
section
namespace Go.Abs
open Go
end Go.Abs
end
section
namespace Go.Abs
open Go
end Go.Abs
end
section
namespace Go.Abs
open Go
end Go.Abs
end
section
namespace Go.Abs
open Go
end Go.Abs
end
section
namespace Go.Abs
open Go
end Go.Abs
end
section
namespace Go.Abs
open Go
end Go.Abs
end
section
namespace Go.Abs
open Go
end Go.Abs
end
section
namespace Go.Abs
open Go
end Go.Abs
end
namespace Go.Abs
end Go.Abs
section
namespace Go.Abs
open Go
end Go.Abs
end
section
namespace Go.Abs
open Go
end Go.Abs
end
section
namespace Go.Abs
open Go
def Cy:aB:=⟨2,6,[⟨2,none⟩],bO,(sq (r1 [gm bh] 2 0) (sq (sq (r1 [gm bh] 3 0) (.block 0 (.loop (sq (sq (r1 [gm s3,gm s0,gl l1,aN l0 l2] 4 3) (eN s4 0)) (sq (.block 1 (sq (r1 [gm s0,gm s3,ga 2 l0 l1,gf 0 l2,gd l3,gm s1,aG l4 l5] 5 6) (.cond s5 (sq (r1 [gm s3,gm l0] 2 1) .ret) .skip))) (r1 [gm s3,au l0 bR,gm l1] 3 2)))))) (sq (r1 [gn (.mv (.c (.int .i64 (-1))))] 2 0) .ret)))⟩
def w955 {Γ:Ctx}(hm:(Γ.at 0).a8)  (l:List bd)(nm:ai)   :dq Γ Cy (.int .i64 (findF l nm 0)) [.sl 2 (l.map bd.D),.str nm]:=by
 show bz _ _ _ [⟨_,_⟩,⟨_,_⟩,_,_,_,_] _;refine aj ?_;refine aA ?_;refine aY hm (ι:=Nat) (fun i=>[⟨true,.sl 2 (l.map bd.D)⟩,⟨true,.str nm⟩,.un,⟨true,.int .i64 (i:Nat)⟩,.un,.un]) (fun i=>[]) 2 (fun i=>i≤l.length∧findF l nm 0=findF l nm i) (fun i=>l.length-i) 0 ⟨by omega,rfl⟩ (cS []) ?_;rintro i ⟨hi,hr⟩;refine aJ ?_;intro u0;refine ar ?_;refine cd (fun hc0=>?_) fun hc0=>?_
 ·refine fM ?_;refine fm (fun hc1=>?_) fun hc1=>?_
  ·refine aV ?_;refine eB ?_;rw[hr,Ai (by omega) hc1]
  refine bB ?_;exact⟨i+1,⟨by omega,by rw[hr,Aj (by omega) hc1]⟩,by omega,(cS [])⟩
 refine aA ?_;refine eB ?_;rw[hr,xr (by omega)]
def Oy (Γ:Ctx):Prop:=∀(l:List bd)(nm:ai),Γ.pre 955 [.sl 2 (l.map bd.D),.str nm]∧Γ.val 955 [.sl 2 (l.map bd.D),.str nm]=.int .i64 (findF l nm 0)
def yM:aB:=⟨2,10,[⟨2,none⟩],bO,(sq (r1 [gm bh] 2 0) (sq (sq (rg [gm s0,gl l0,gm bh] [(6,0),(4,1),(3,2)]) (.block 0 (.loop (sq (r1 [aN s3 s4] 5 0) (sq (eN s5 0) (sq (.block 1 (sq (rg [gm s3,ga 2 s6 s3,gk 2 true l1,gb 2 (.c (.agg [.str [],.az])),gm l0,gt 2 l3 l2] [(7,3),(9,4)]) (sq (r1 [gf 0 s7,gd l0,gm s1,aG l1 l2] 8 3) (.cond s8 (sq (r1 [gm s9,gm l0] 2 1) .ret) .skip)))) (r1 [au s3 bR,gm l0] 3 1))))))) (sq (r1 [gn (.mv (.c (.int .i64 (-1))))] 2 0) .ret)))⟩
def w663 {Γ:Ctx}(hm:(Γ.at 0).a8)  (l:List bd)(nm:ai)   :dq Γ yM (.int .i64 (findF l nm 0)) [.sl 2 (l.map bd.D),.str nm]:=by
 show bz _ _ _ [⟨_,_⟩,⟨_,_⟩,_,_,_,_,_,_,_,_] _;refine aj ?_;refine aA ?_;intro u0;refine ar ?_;refine aY hm (ι:=Nat) (fun i=>[⟨true,.sl 2 (l.map bd.D)⟩,⟨true,.str nm⟩,.un,⟨true,.int .i64 (i:Nat)⟩,⟨true,.int .i64 (l.length:Nat)⟩,.un,⟨true,.sl 2 (l.map bd.D)⟩,.un,.un,.un]) (fun i=>[]) 4 (fun i=>i≤l.length∧findF l nm 0=findF l nm i) (fun i=>l.length-i) 0 ⟨by omega,rfl⟩ (cS []) ?_;rintro i ⟨hi,hr⟩;refine av ?_;refine cd (fun hc0=>?_) fun hc0=>?_
 ·refine aJ ?_;first|refine bD (v:=(bd.D _)) ?_|refine dM (v:=(bd.D _)) ?_
  refine ar ?_;refine aL (bd.D l[i]!) (he:=by exact rfl) ?_;refine aV ?_;refine fm (fun hc1=>?_) fun hc1=>?_
  ·refine aV ?_;refine eB ?_;rw[hr,Ai (by omega) hc1]
  refine aV ?_;exact⟨i+1,⟨by omega,by rw[hr,Aj (by omega) hc1]⟩,by omega,(cS [])⟩
 refine aA ?_;refine eB ?_;rw[hr,xr (by omega)]
def N1 (Γ:Ctx):Prop:=∀(l:List bd)(nm:ai),Γ.pre 663 [.sl 2 (l.map bd.D),.str nm]∧Γ.val 663 [.sl 2 (l.map bd.D),.str nm]=.int .i64 (findF l nm 0)
def HM:aB:=⟨2,3,[⟨2,none⟩],bO,(sq (r1 [gm ct] 2 0) (sq (r1 [gm s1,aG l0 (cs [100,101,102,97,117,108,116]),gm l1,dH 2 s0,dH 2 s1,bT 2 (.call 955 [l3,l4] [[.sl 2 [.a,.sl 1 [.a]]],[.a]]),bT 2 (sR l5 bh),ea l2 l6,gm l7] 2 8) .ret))⟩
def w816 {Γ:Ctx}(hm:(Γ.at 0).a8)(h955:Oy Γ)(l:List bd)(nm:ai)   :dq Γ HM (.bool (L2 l nm)) [.sl 2 (l.map bd.D),.str nm]:=by
 show bz _ _ _ [⟨_,_⟩,⟨_,_⟩,_] _;refine aj ?_;refine bB ?_;refine ak (hc:=h955 _ _) ?_;refine aJ ?_;exact br rfl
def On (Γ:Ctx):Prop:=∀(l:List bd)(nm:ai),Γ.pre 816 [.sl 2 (l.map bd.D),.str nm]∧Γ.val 816 [.sl 2 (l.map bd.D),.str nm]=.bool (L2 l nm)
def wM:aB:=⟨2,3,[⟨2,none⟩],bO,(sq (r1 [gm ct] 2 0) (sq (r1 [gm s1,aG l0 (cs [100,101,102,97,117,108,116]),gm l1,dH 2 s0,dH 2 s1,bT 2 (.call 663 [l3,l4] [[.sl 2 [.a,.sl 1 [.a]]],[.a]]),bT 2 (sR l5 bh),ea l2 l6,gm l7] 2 8) .ret))⟩
def w449 {Γ:Ctx}(hm:(Γ.at 0).a8)(h663:N1 Γ)(l:List bd)(nm:ai)   :dq Γ wM (.bool (L2 l nm)) [.sl 2 (l.map bd.D),.str nm]:=by
 show bz _ _ _ [⟨_,_⟩,⟨_,_⟩,_] _;refine aj ?_;refine bB ?_;refine ak (hc:=h663 _ _) ?_;refine aJ ?_;exact br rfl
def NI (Γ:Ctx):Prop:=∀(l:List bd)(nm:ai),Γ.pre 449 [.sl 2 (l.map bd.D),.str nm]∧Γ.val 449 [.sl 2 (l.map bd.D),.str nm]=.bool (L2 l nm)
def Cz:aB:=⟨1,8,[⟨1,none⟩,⟨2,none⟩,⟨3,none⟩],Jh,(sq (rg [gm bh,gm cse,gm cse] [(1,0),(2,1),(3,2)]) (sq (sq (r1 [gm s0,gx 357 [l0] bO] 4 1) (.cond s4 (sq (rg [gm s0,gm bR,gm l0,gm cse] [(1,1),(2,2),(3,3)]) .ret) .skip)) (sq (sq (r1 [gm s0,m9 l0,cB l1 bh,gm l2,gmt 3 s0,bZ 3 (.ixS l4 bh),bZ 3 (ca l5 (i8 63)),dZ l3 l6,gm l7,gmt 8 s0,bZ 8 (.slS l9 (some bR) none),bZ 8 (.call 357 [l10] bO),dZ l8 fI] 5 12) (.cond s5 (sq (rt [gm s0,gn (.slS l0 (some bR) none),gm jF,gm l1,gm cse] [(1,2),(2,3),(3,4)]) .ret) .skip)) (sq (r1 [gm s0,gx 470 [l0,(i8 47)] gQ,gm l1] 6 2) (sq (sq (r1 [gm s6,gl l0,aG l1 jF,gm l2,gmt 3 s6,bZ 3 (.ia 1 l4 bh),iO 3 l5,bZ 3 (.call 216 [l6] bO),dZ l3 l7,gm l8,gmt 9 s6,bZ 9 (.ia 1 l10 bR),iO 9 fI,bZ 9 (.call 357 [gV] bO),dZ l9 iQ] 7 14) (.cond s7 (sq (rt [gm s6,ga 1 l0 bh,gd l1,gm s6,ga 1 l3 bR,gd l4,gm jG,gm l2,gm l5] [(1,6),(2,7),(3,8)]) .ret) .skip)) (sq (rg [gm bh,gm cse,gm cse] [(1,0),(2,1),(3,2)]) .ret))))))⟩
def w672 {Γ:Ctx}(hm:(Γ.at 0).a8)(h216:FX Γ)(h357:BJ Γ)(h470:uk Γ)(s:ai)  (hp0:s.length≤1048576):dq Γ Cz (.tup [.int .i64 (cg s).1,.str (cg s).2.1,.str (cg s).2.2]) [.str s]:=by
 show bz _ _ _ [⟨_,_⟩,_,_,_,_,_,_,_] _;refine aj ?_;refine aV ?_;refine ak (hc:=h357 _) ?_;refine aC ?_;refine cd (fun hc0=>?_) fun hc0=>?_
 ·refine bB ?_;refine bC (dK (congrArg (D.int .i64) ?_) (congrArg D.str ?_) (congrArg D.str ?_));all_goals rw[Dz hc0]
 refine aJ ?_;intro u0;refine av ?_;refine mX 0 ?_;refine ax ?_;refine dV 1 (hb:=fun h=>by simp at h;omega) ?_;refine ak (hc:=h357 _) ?_;refine ar ?_;refine cd (fun hc1=>?_) fun hc1=>?_
 ·refine av ?_;refine dV 1 (hb:=fun h=>by omega) ?_;refine aJ ?_;refine bC (dK (congrArg (D.int .i64) ?_) (congrArg D.str ?_) (congrArg D.str ?_));all_goals rw[DA hc0 hc1]
 refine av ?_;refine ak (hc:=h470 _ _ ?_) ?_;rotate_left;first|assumption|omega
 refine aA ?_;intro u1;refine av ?_;refine bJ 0 ?_;refine aC ?_;refine ak (hc:=h216 _) ?_;refine av ?_;refine bJ 1 ?_;refine aC ?_;refine ak (hc:=h357 _) ?_;refine ar ?_;refine cd (fun hc2=>?_) fun hc2=>?_
 ·refine av ?_;refine bJ 0 ?_;refine ar ?_;refine bJ 1 ?_;refine aA ?_;refine bC (dK (congrArg (D.int .i64) ?_) (congrArg D.str ?_) (congrArg D.str ?_));all_goals rw[DB hc0 hc1 hc2]
 refine aV ?_;refine bC (dK (congrArg (D.int .i64) ?_) (congrArg D.str ?_) (congrArg D.str ?_));all_goals rw[Dy hc0 hc1 hc2]
def La (Γ:Ctx):Prop:=∀(s:ai),(s.length≤1048576)→Γ.pre 672 [.str s]∧Γ.val 672 [.str s]=.tup [.int .i64 (cg s).1,.str (cg s).2.1,.str (cg s).2.2]
end Go.Abs
end
section
namespace Go.Abs
open Go
def AX:aB:=⟨2,9,[⟨2,none⟩],bO,(sq (r1 [gm ct] 2 0) (sq (sq (r1 [gm s1,gl l0,cB l1 tY,gm l2,dH 3 s1,bT 3 (.call 815 [l4] [[.sl 1 [.a]]]),bT 3 (.un .not l5),ea l3 l6] 3 7) (.cond s3 (sq (r1 [gm ct] 2 0) .ret) .skip)) (sq (sq (r1 [gm bh] 4 0) (.block 0 (.loop (sq (sq (r1 [gm s4,gm s1,gl l1,aN l0 l2] 5 3) (eN s5 0)) (sq (.block 1 (sq (rg [gm s1,gm s4,ga 1 l0 l1,gd l2,gx 672 [l3] bO,gm l4,ge l5 0,ge l5 1,ge l5 2,gm l6,gm l7,gm l8] [(6,9),(7,10)]) (sq (r1 [gm s6,aG l0 bh,gm l1,dH 2 s6,bT 2 (ca l3 bR),dH 2 l4,gmt 5 s0,gmt 5 s7,bZ 5 (.call 816 [l6,l7] [[.sl 2 [.a,.sl 1 [.a]]],[.a]]),bZ 5 (.un .not l8),yP 2 l5 l9,ea l2 l10] 8 11) (.cond s8 (sq (r1 [gm ct] 2 0) .ret) .skip)))) (r1 [gm s4,au l0 bR,gm l1] 4 2)))))) (sq (r1 [gm me] 2 0) .ret))))⟩
def w671 {Γ:Ctx}(hm:(Γ.at 0).a8)(h672:La Γ)(h815:Li Γ)(h816:On Γ)(l:List bd)(of:List ai)  (hp0:∀t∈of,t.length≤1048576):dq Γ AX (.bool (jJ l of)) [.sl 2 (l.map bd.D),.sl 1 (of.map D.str)]:=by
 show bz _ _ _ [⟨_,_⟩,⟨_,_⟩,_,_,_,_,_,_,_] _;refine aj ?_;refine aA ?_;intro u0;refine av ?_;refine ak (hc:=h815 _) ?_;refine av ?_;refine aq (fun hc0=>?_) (fun hc0=>?_)
 ·simp only[Bool.or_eq_true,decide_eq_true_eq,Bool.not_eq_true']at hc0;refine aJ ?_;refine br ?_;symm;simp only[jJ];rcases hc0 with h|h
  ·rw[decide_eq_false (by omega)];rfl
  ·rw[h,Bool.and_false];rfl
 simp only[Bool.or_eq_false_iff,decide_eq_false_iff_not,Bool.not_eq_false']at hc0;refine aJ ?_;have hb:jJ l of=b8 (fun i=>jI l of[i]!) 0 of.length:=by simp only[jJ,hc0.2];rw[decide_eq_true (by omega)];rfl
 refine aY hm (ι:=Nat) (fun i=>[⟨true,.sl 2 (l.map bd.D)⟩,⟨true,.sl 1 (of.map D.str)⟩,.un,.un,⟨true,.int .i64 (i:Nat)⟩,.un,.un,.un,.un]) (fun i=>[]) 10 (fun i=>i≤of.length∧jJ l of=b8 (fun i=>jI l of[i]!) i of.length) (fun i=>of.length-i) 0 ⟨by omega,hb⟩ (cS []) ?_;rintro i ⟨hi,hr⟩;refine aJ ?_;intro u1;refine ar ?_;refine cd (fun hc1=>?_) fun hc1=>?_
 ·refine aV ?_;refine ak (hc:=h672 of[i]! (hp0 _ (bA (by omega)))) ?_;refine wD ?_;refine ak (hc:=h816 _ _) ?_;refine ax ?_;refine wp_cond (fun hc2=>?_) (fun hc2=>?_)
  ·have hz:jI l of[i]! =false:=by simp only[jI,hc2];rfl
   refine aA ?_;refine br ?_;rw[hr,aH (by omega),hz];rfl
  have hz:jI l of[i]! =true:=by simp only[jI,hc2];rfl
  refine bB ?_;exact⟨i+1,⟨by omega,by rw[hr,aH (by omega),hz];rfl⟩,by omega,(cS [])⟩
 refine aA ?_;refine br ?_;rw[hr,bE (by omega)]
def N5 (Γ:Ctx):Prop:=∀(l:List bd)(of:List ai),(∀t∈of,t.length≤1048576)→Γ.pre 671 [.sl 2 (l.map bd.D),.sl 1 (of.map D.str)]∧Γ.val 671 [.sl 2 (l.map bd.D),.sl 1 (of.map D.str)]=.bool (jJ l of)
def Fb:aB:=⟨1,6,gG,bO,(sq (r1 [gm ct] 1 0) (sq (sq (r1 [gm s0,gl l0,cB l1 B5] 2 2) (lA s2 ct)) (sq (sq (r1 [gm bh] 3 0) (.block 0 (.loop (sq (sq (r1 [gm s3,gm s0,gl l1,aN l0 l2] 4 3) (eN s4 0)) (sq (.block 1 (sq (r2 [gm s0,gm s3,ga 2 l0 l1,gf 0 l2,gd l3,gx 357 [l4] bO,ix l5,gm l6,dH 7 s3,bT 7 (dz l8 bh),dH 7 l9,gmt 10 s0,gmt 10 s3,bZ 10 (iG gV bR),bZ 10 (.ia 2 fI iQ),kA 10 0 jt,iO 10 kB,gmt 10 s0,gmt 10 s3,bZ 10 (.ia 2 nU oB),kA 10 0 pY,iO 10 ua,bZ 10 (sR mE wP),yP 7 l10 xA,ea l7 BC,gm BD,dH 25 s0,dH 25 s0,dH 25 s3,bT 25 (.ia 2 GQ Jt),hH 25 1 Ju,hY 25 L6,bT 25 (.call 671 [FK,MV] [[.sl 2 [.a,.sl 1 [.a]]],[.sl 1 [.a]]]),bT 25 (.un .not MW),ea B8 l33] 5 34) (lA s5 ct))) (r1 [gm s3,au l0 bR,gm l1] 3 2)))))) (uO me))))⟩
def w459 {Γ:Ctx}(hm:(Γ.at 0).a8)(h357:BJ Γ)(h671:N5 Γ)(l:List bd)  (hp0:nr l):dq Γ Fb (.bool (fo l)) [.sl 2 (l.map bd.D)]:=by
 show bz _ _ _ [⟨_,_⟩,_,_,_,_,_] _;refine aj ?_;refine aA ?_;intro u0;refine ar ?_;refine cd (fun hc0=>?_) fun hc0=>?_
 ·refine aJ ?_;refine br ?_;symm;simp only[fo];rw[decide_eq_false (by omega)];rfl
 refine aJ ?_;have hb:fo l=b8 (iv l) 0 l.length:=by simp only[fo];rw[decide_eq_true (by omega)];rfl
 refine aY hm (ι:=Nat) (fun i=>[⟨true,.sl 2 (l.map bd.D)⟩,.un,.un,⟨true,.int .i64 (i:Nat)⟩,.un,.un]) (fun i=>[]) 5 (fun i=>i≤l.length∧fo l=b8 (iv l) i l.length) (fun i=>l.length-i) 0 ⟨by omega,hb⟩ (cS []) ?_;rintro i ⟨hi,hr⟩;refine aJ ?_;intro u1;refine ar ?_;refine cd (fun hc1=>?_) fun hc1=>?_
 ·refine bB ?_;refine ak (hc:=h357 _) ?_;refine bB ?_;refine bJ (i-1) ?_;refine wD ?_;refine ak (hc:=h671 l l[i]!.of (hp0 _ (bA (by omega))).2.2) ?_;refine av ?_;refine fm (fun hc2=>?_) fun hc2=>?_
  ·refine aA ?_;refine br ?_;have hz:iv l i=false:=by
    simp only[iv];revert hc2;generalize bV l[i]!.name=z0;generalize Op.bytesLess l[i-1]!.name l[i]!.name=z1;generalize jJ l l[i]!.of=z2;by_cases e0:0<i<;>cases z0<;>cases z1<;>cases z2<;>simp_all
   rw[hr,aH (by omega),hz];rfl
  refine bB ?_;have hz:iv l i=true:=by
   simp only[iv];revert hc2;generalize bV l[i]!.name=z0;generalize Op.bytesLess l[i-1]!.name l[i]!.name=z1;generalize jJ l l[i]!.of=z2;by_cases e0:0<i<;>cases z0<;>cases z1<;>cases z2<;>simp_all
  exact⟨i+1,⟨by omega,by rw[hr,aH (by omega),hz];rfl⟩,by omega,(cS [])⟩
 refine aA ?_;refine br ?_;rw[hr,bE (by omega)]
def NN (Γ:Ctx):Prop:=∀(l:List bd),(nr l)→Γ.pre 459 [.sl 2 (l.map bd.D)]∧Γ.val 459 [.sl 2 (l.map bd.D)]=.bool (fo l)
def yN:aB:=⟨1,12,[⟨1,none⟩,⟨2,none⟩,⟨3,none⟩],Jh,(sq (rg [gm bh,gm cse,gm cse] [(1,0),(2,1),(3,2)]) (sq (sq (r1 [gm s0,gx 349 [l0] bO] 4 1) (.cond s4 (sq (rg [gm s0,gm bR,gm l0,gm cse] [(1,1),(2,2),(3,3)]) .ret) .skip)) (sq (sq (rg [gm s0,gx 254 [l0,(cs [63])] gQ,gm l1,ge l2 0,ge l2 1,gm l3,gm l4] [(6,5),(5,6)]) (sq (r1 [gm s5,gm l0,gmt 1 s6,bZ 1 (.call 349 [l2] bO),dZ l1 l3] 7 4) (.cond s7 (sq (rg [gm s6,gm jF,gm l0,gm cse] [(1,1),(2,2),(3,3)]) .ret) .skip))) (sq (sq (rg [gm s0,gx 487 [l0,(cs [47])] gQ,gm l1,ge l2 0,ge l2 1,ge l2 2,gm l3,gm l4,gm l5] [(9,6),(10,7),(8,8)]) (sq (r1 [gm s8,gm l0,gmt 1 s9,bZ 1 (.call 208 [l2] bO),dZ l1 l3,gm l4,gmt 5 jx,bZ 5 (.call 349 [l6] bO),dZ l5 l7] 11 8) (.cond mc (sq (rg [gm s9,gm jx,gm jG,gm l0,gm l1] [(1,2),(2,3),(3,4)]) .ret) .skip))) (sq (rg [gm bh,gm cse,gm cse] [(1,0),(2,1),(3,2)]) .ret)))))⟩
def w448 {Γ:Ctx}(hm:(Γ.at 0).a8)(h208:Iw Γ)(h254:Nx Γ)(h349:BI Γ)(h487:NU Γ)(s:ai)  (hp0:s.length≤1048576):dq Γ yN (.tup [.int .i64 (cg s).1,.str (cg s).2.1,.str (cg s).2.2]) [.str s]:=by
 show bz _ _ _ [⟨_,_⟩,_,_,_,_,_,_,_,_,_,_,_] _;refine aj ?_;refine aV ?_;refine ak (hc:=h349 _) ?_;refine aC ?_;refine cd (fun hc0=>?_) fun hc0=>?_
 ·refine bB ?_;refine bC (dK (congrArg (D.int .i64) ?_) (congrArg D.str ?_) (congrArg D.str ?_));all_goals rw[Dz hc0]
 refine ax ?_;refine ak (hc:=h254 s [63] hp0 (by decide)) ?_;refine fM ?_;refine ak (hc:=h349 _) ?_;refine ar ?_;refine cd (fun hc1=>?_) fun hc1=>?_
 ·refine bB ?_;refine bC (dK (congrArg (D.int .i64) ?_) (congrArg D.str ?_) (congrArg D.str ?_));all_goals rw[Jo hc0 hc1]
 refine ax ?_;refine ak (hc:=h487 s 47 hp0) ?_;refine kv ?_;refine ak (hc:=h208 _) ?_;refine av ?_;refine ak (hc:=h349 _) ?_;refine ar ?_;refine cd (fun hc2=>?_) fun hc2=>?_
 ·refine cR ?_;refine bC (dK (congrArg (D.int .i64) ?_) (congrArg D.str ?_) (congrArg D.str ?_));all_goals rw[Jp hc0 hc1 hc2]
 refine aV ?_;refine bC (dK (congrArg (D.int .i64) ?_) (congrArg D.str ?_) (congrArg D.str ?_));all_goals rw[Jn hc0 hc1 hc2]
def KQ (Γ:Ctx):Prop:=∀(s:ai),(s.length≤1048576)→Γ.pre 448 [.str s]∧Γ.val 448 [.str s]=.tup [.int .i64 (cg s).1,.str (cg s).2.1,.str (cg s).2.2]
end Go.Abs
end
section
namespace Go.Abs
open Go
def Ah:aB:=⟨1,18,gG,bO,(sq (r1 [gm ct] 1 0) (sq (sq (r1 [gm s0,gl l0,cB l1 B5] 2 2) (lA s2 ct)) (sq (sq (rg [gm s0,gl l0,gm bh] [(6,0),(4,1),(3,2)]) (.block 0 (.loop (sq (r1 [aN s3 s4] 5 0) (sq (eN s5 0) (sq (.block 1 (sq (rg [gm s3,ga 2 s6 s3,gk 2 true l1,gb 2 (.c (.agg [.str [],.az])),gm l0,gt 2 l3 l2] [(7,3),(8,4)]) (sq (sq (r2 [gf 0 s7,gd l0,gx 349 [l1] bO,ix l2,gm l3,dH 4 s8,bT 4 (dz l5 bh),dH 4 l6,gmt 7 s0,gmt 7 s8,bZ 7 (iG l9 bR),bZ 7 (.ia 2 l8 l10),kA 7 0 fI,iO 7 gV,kA 7 0 s7,iO 7 jt,bZ 7 (sR iQ kB),yP 4 l7 mE,ea l4 nU,gm oB,hH 19 1 s7,hY 19 ua,bT 19 (.len wP),bT 19 (dz xA tY),ea pY BC,gm BD,hH 25 1 s7,hY 25 FK,bT 25 (.call 447 [GQ] [[.sl 1 [.a]]]),bT 25 (.un .not Jt),ea B8 Ju] 9 30) (lA s9 ct)) (sq (rg [gf 1 s7,gd l0,gl l1,gm bh] [(13,1),(11,2),(10,3)]) (.block 2 (.loop (sq (r1 [aN jx mc] 12 0) (sq (eN lY 2) (sq (.block 3 (sq (r1 [ga 1 pP jx,gd l0,gm l1] 14 2) (sq (rg [gm tn,gx 448 [l0] bO,gm l1,ge l2 0,ge l2 1,ge l2 2,gm l3,gm l4,gm l5] [(15,6),(16,7)]) (sq (r1 [gm vW,aG l0 bh,gm l1,dH 2 vW,bT 2 (ca l3 bR),dH 2 l4,gmt 5 s0,gmt 5 BF,bZ 5 (.call 449 [l6,l7] [[.sl 2 [.a,.sl 1 [.a]]],[.a]]),bZ 5 (.un .not l8),yP 2 l5 l9,ea l2 l10] 17 11) (lA Bc ct))))) (r1 [au jx bR,gm l0] 10 1)))))))))) (r1 [au s3 bR,gm l0] 3 1))))))) (uO me))))⟩
def w213 {Γ:Ctx}(hm:(Γ.at 0).a8)(h349:BI Γ)(h447:NH Γ)(h448:KQ Γ)(h449:NI Γ)(l:List bd)  (hp0:nr l):dq Γ Ah (.bool (fo l)) [.sl 2 (l.map bd.D)]:=by
 show bz _ _ _ [⟨_,_⟩,_,_,_,_,_,_,_,_,_,_,_,_,_,_,_,_,_] _;refine aj ?_;refine aA ?_;intro u0;refine ar ?_;refine cd (fun hc0=>?_) fun hc0=>?_
 ·refine aJ ?_;refine br ?_;symm;simp only[fo];rw[decide_eq_false (by omega)];rfl
 refine aJ ?_;intro u1;refine ar ?_;have hb:fo l=b8 (iv l) 0 l.length:=by simp only[fo];rw[decide_eq_true (by omega)];rfl
 refine aY hm (ι:=Nat) (fun i=>[⟨true,.sl 2 (l.map bd.D)⟩,.un,.un,⟨true,.int .i64 (i:Nat)⟩,⟨true,.int .i64 (l.length:Nat)⟩,.un,⟨true,.sl 2 (l.map bd.D)⟩,.un,.un,.un,.un,.un,.un,.un,.un,.un,.un,.un]) (fun i=>[]) 7 (fun i=>i≤l.length∧fo l=b8 (iv l) i l.length) (fun i=>l.length-i) 0 ⟨by omega,hb⟩ (cS []) ?_;rintro i ⟨hi,hr⟩;refine av ?_;refine cd (fun hc1=>?_) fun hc1=>?_
 ·refine aJ ?_;first|refine bD (v:=(bd.D _)) ?_|refine dM (v:=(bd.D _)) ?_
  refine ar ?_;refine aL (bd.D l[i]!) (he:=by exact rfl) ?_;refine aJ ?_;refine ak (hc:=h349 _) ?_;refine bB ?_;refine bJ (i-1) ?_;refine gF ?_;refine gT ?_;refine aJ ?_;refine ak (hc:=h447 _) ?_;refine av ?_;refine aq (fun hc2=>?_) (fun hc2=>?_)
  ·have hfo:=ED hc2;refine aV ?_;refine br ?_;rw[hr,aH (by omega),hfo];rfl
  have hfo:=EE hc2;refine aJ ?_;intro u2;refine ar ?_;refine nI hm (ι:=Nat) (fun j=>[⟨true,.sl 2 (l.map bd.D)⟩,.un,.un,⟨true,.int .i64 (i:Nat)⟩,⟨true,.int .i64 (l.length:Nat)⟩,.un,⟨true,.sl 2 (l.map bd.D)⟩,.un,.un,.un,⟨true,.int .i64 (j:Nat)⟩,⟨true,.int .i64 (l[i]!.of.length:Nat)⟩,.un,⟨true,.sl 1 (l[i]!.of.map D.str)⟩,.un,.un,.un,.un]) (fun j=>[]) 49 (fun j=>j≤l[i]!.of.length∧iv l i=b8 (fun j=>jI l l[i]!.of[j]!) j l[i]!.of.length) (fun j=>l[i]!.of.length-j) 0 ⟨by omega,hfo⟩ (cS []) ?_;rintro j ⟨hj,hjr⟩;refine av ?_;refine cd (fun hc3=>?_) fun hc3=>?_
  ·refine cR ?_;refine ak (hc:=h448 l[i]!.of[j]! ((hp0 _ (bA (by omega))).2.2 _ (bA (by omega)))) ?_;refine wD ?_;refine ak (hc:=h449 _ _) ?_;refine ax ?_;refine wp_cond (fun hc4=>?_) (fun hc4=>?_)
   ·have hz:jI l l[i]!.of[j]! =false:=by simp only[jI,hc4];rfl
    refine bB ?_;refine br ?_;rw[hr,aH (by omega),hjr,aH (by omega),hz];rfl
   have hz:jI l l[i]!.of[j]! =true:=by simp only[jI,hc4];rfl
   refine aV ?_;exact⟨j+1,⟨by omega,by rw[hjr,aH (by omega),hz];rfl⟩,by omega,(cS [])⟩
  refine bB ?_;exact⟨i+1,⟨by omega,by rw[hr,aH (by omega),hjr,bE (by omega)];rfl⟩,by omega,(cS [])⟩
 refine aA ?_;refine br ?_;rw[hr,bE (by omega)]
def Nn (Γ:Ctx):Prop:=∀(l:List bd),(nr l)→Γ.pre 213 [.sl 2 (l.map bd.D)]∧Γ.val 213 [.sl 2 (l.map bd.D)]=.bool (fo l)
end Go.Abs
end
section
namespace Go.Abs
open Go
def Fj:aB:=⟨1,11,gG,bO,(sq (r1 [gm cse] 1 0) (sq (sq (r1 [gm s0] 2 0) (.block 0 (sq (r1 [aG s2 bR,gm l0] 3 1) (.cond s3 (sq (r1 [gm (cs [61])] 1 0) .ret) (sq (r1 [aG s2 jF,gm l0] 4 1) (.cond s4 (sq (r1 [gm (cs [33,61])] 1 0) .ret) (sq (r1 [aG s2 jG,gm l0] 5 1) (.cond s5 (sq (r1 [gm (cs [60])] 1 0) .ret) (sq (r1 [aG s2 tA,gm l0] 6 1) (.cond s6 (sq (r1 [gm (cs [60,61])] 1 0) .ret) (sq (r1 [aG s2 B4,gm l0] 7 1) (.cond s7 (sq (r1 [gm (cs [62])] 1 0) .ret) (sq (r1 [aG s2 tY,gm l0] 8 1) (.cond s8 (sq (r1 [gm (cs [62,61])] 1 0) .ret) (sq (r1 [aG s2 FJ,gm l0] 9 1) (.cond s9 (sq (r1 [gm (cs [94])] 1 0) .ret) (sq (r1 [aG s2 B5,gm l0] 10 1) (.cond jx (sq (r1 [gm (cs [126])] 1 0) .ret) .skip)))))))))))))))))) (uO cse)))⟩
def w678 {Γ:Ctx}(hm:(Γ.at 0).a8)  (op:Int)   :dq Γ Fj (.str (cv op)) [.int .i64 op]:=by
 show bz _ _ _ [⟨_,_⟩,_,_,_,_,_,_,_,_,_,_] _;refine aj ?_;refine fM ?_;refine fm (fun hc0=>?_) fun hc0=>?_
 ·refine aJ ?_;refine ch ?_;unfold cv;simp_all
 refine ax ?_;refine fm (fun hc1=>?_) fun hc1=>?_
 ·refine aJ ?_;refine ch ?_;unfold cv;simp_all
 refine ax ?_;refine fm (fun hc2=>?_) fun hc2=>?_
 ·refine aJ ?_;refine ch ?_;unfold cv;simp_all
 refine ax ?_;refine fm (fun hc3=>?_) fun hc3=>?_
 ·refine aJ ?_;refine ch ?_;unfold cv;simp_all
 refine ax ?_;refine fm (fun hc4=>?_) fun hc4=>?_
 ·refine aJ ?_;refine ch ?_;unfold cv;simp_all
 refine ax ?_;refine fm (fun hc5=>?_) fun hc5=>?_
 ·refine aJ ?_;refine ch ?_;unfold cv;simp_all
 refine ax ?_;refine fm (fun hc6=>?_) fun hc6=>?_
 ·refine aJ ?_;refine ch ?_;unfold cv;simp_all
 refine ax ?_;refine fm (fun hc7=>?_) fun hc7=>?_
 ·refine aJ ?_;refine ch ?_;unfold cv;simp_all
 refine aA ?_;refine ch ?_;unfold cv;simp_all
def Lg (Γ:Ctx):Prop:=∀(op:Int),Γ.pre 678 [.int .i64 op]∧Γ.val 678 [.int .i64 op]=.str (cv op)
def Ez:aB:=⟨1,11,gG,bO,(sq (r1 [gm cse] 1 0) (sq (sq (r1 [gm s0] 2 0) (.block 0 (sq (r1 [aG s2 bR,gm l0] 3 1) (.cond s3 (sq (r1 [gm (cs [61])] 1 0) .ret) (sq (r1 [aG s2 jF,gm l0] 4 1) (.cond s4 (sq (r1 [gm (cs [33,61])] 1 0) .ret) (sq (r1 [aG s2 jG,gm l0] 5 1) (.cond s5 (sq (r1 [gm (cs [60])] 1 0) .ret) (sq (r1 [aG s2 tA,gm l0] 6 1) (.cond s6 (sq (r1 [gm (cs [60,61])] 1 0) .ret) (sq (r1 [aG s2 B4,gm l0] 7 1) (.cond s7 (sq (r1 [gm (cs [62])] 1 0) .ret) (sq (r1 [aG s2 tY,gm l0] 8 1) (.cond s8 (sq (r1 [gm (cs [62,61])] 1 0) .ret) (sq (r1 [aG s2 FJ,gm l0] 9 1) (.cond s9 (sq (r1 [gm (cs [94])] 1 0) .ret) (sq (r1 [aG s2 B5,gm l0] 10 1) (.cond jx (sq (r1 [gm (cs [126])] 1 0) .ret) .skip)))))))))))))))))) (uO cse)))⟩
def w957 {Γ:Ctx}(hm:(Γ.at 0).a8)  (op:Int)   :dq Γ Ez (.str (cv op)) [.int .i64 op]:=by
 show bz _ _ _ [⟨_,_⟩,_,_,_,_,_,_,_,_,_,_] _;refine aj ?_;refine fM ?_;refine fm (fun hc0=>?_) fun hc0=>?_
 ·refine aJ ?_;refine ch ?_;unfold cv;simp_all
 refine ax ?_;refine fm (fun hc1=>?_) fun hc1=>?_
 ·refine aJ ?_;refine ch ?_;unfold cv;simp_all
 refine ax ?_;refine fm (fun hc2=>?_) fun hc2=>?_
 ·refine aJ ?_;refine ch ?_;unfold cv;simp_all
 refine ax ?_;refine fm (fun hc3=>?_) fun hc3=>?_
 ·refine aJ ?_;refine ch ?_;unfold cv;simp_all
 refine ax ?_;refine fm (fun hc4=>?_) fun hc4=>?_
 ·refine aJ ?_;refine ch ?_;unfold cv;simp_all
 refine ax ?_;refine fm (fun hc5=>?_) fun hc5=>?_
 ·refine aJ ?_;refine ch ?_;unfold cv;simp_all
 refine ax ?_;refine fm (fun hc6=>?_) fun hc6=>?_
 ·refine aJ ?_;refine ch ?_;unfold cv;simp_all
 refine ax ?_;refine fm (fun hc7=>?_) fun hc7=>?_
 ·refine aJ ?_;refine ch ?_;unfold cv;simp_all
 refine aA ?_;refine ch ?_;unfold cv;simp_all
def Lq (Γ:Ctx):Prop:=∀(op:Int),Γ.pre 957 [.int .i64 op]∧Γ.val 957 [.int .i64 op]=.str (cv op)
def A6:aB:=⟨2,3,[⟨2,none⟩],bO,(sq (r1 [gm ct] 2 0) (sq (r1 [gm s0,m9 l0,gm s1,m9 l2,gv l1 l3,gm l4,gmt 5 s0,gmt 5 s1,bZ 5 (.lenS l7),bZ 5 (.slS l6 none (some l8)),gmt 5 s1,bZ 5 (ca l9 l10),dZ l5 fI,gm gV] 2 13) .ret))⟩
def QB {Γ:Ctx}(hm:(Γ.at 0).a8)  (s:ai)(w:ai)   :dq Γ A6 (.bool (nQ s w)) [.str s,.str w]:=by
 show bz _ _ _ [⟨_,_⟩,⟨_,_⟩,_] _;refine aj ?_;refine aJ ?_;intro u0;refine ar ?_;intro u1;refine ax ?_;refine gT ?_;refine ko w.length (hj:=fun _=>rfl) (hb:=fun h=>by simp at h;omega) ?_;refine aA ?_;refine br ?_;unfold nQ;rw[show decide ((w.length:Int)≤(s.length:Int))=decide (w.length≤s.length)from decide_eq_decide.2 (by omega)]
def J8 (Γ:Ctx):Prop:=∀(s:ai)(w:ai),Γ.pre 1079 [.str s,.str w]∧Γ.val 1079 [.str s,.str w]=.bool (nQ s w)
def z8:aB:=⟨2,3,[⟨2,none⟩],bO,(sq (r1 [gm ct] 2 0) (sq (r1 [gm s0,m9 l0,gm s1,m9 l2,gv l1 l3,gm l4,gmt 5 s0,gmt 5 s1,bZ 5 (.lenS l7),bZ 5 (.slS l6 none (some l8)),gmt 5 s1,bZ 5 (ca l9 l10),dZ l5 fI,gm gV] 2 13) .ret))⟩
def w956 {Γ:Ctx}(hm:(Γ.at 0).a8)  (s:ai)(w:ai)   :dq Γ z8 (.bool (nQ s w)) [.str s,.str w]:=by
 show bz _ _ _ [⟨_,_⟩,⟨_,_⟩,_] _;refine aj ?_;refine aJ ?_;intro u0;refine ar ?_;intro u1;refine ax ?_;refine gT ?_;refine ko w.length (hj:=fun _=>rfl) (hb:=fun h=>by simp at h;omega) ?_;refine aA ?_;refine br ?_;unfold nQ;rw[show decide ((w.length:Int)≤(s.length:Int))=decide (w.length≤s.length)from decide_eq_decide.2 (by omega)]
def Oz (Γ:Ctx):Prop:=∀(s:ai)(w:ai),Γ.pre 956 [.str s,.str w]∧Γ.val 956 [.str s,.str w]=.bool (nQ s w)
end Go.Abs
end
section
namespace Go.Abs
open Go
def HR:aB:=⟨1,8,gG,bO,(sq (rg [gb 7 s0,gm ct] [(2,0),(1,1)]) (sq (sq (r1 [gf 0 s2,gd l0,aN l1 bR,gm l2,hH 3 0 s2,hY 3 l4,bT 3 (dz l5 EM),ea l3 l6,gm l7,hH 8 2 s2,bT 8 (.ld 5 true l9),bT 8 (.call 217 [l10] EJ),bT 8 (.un .not fI),ea l8 gV,gm iQ,hH 14 2 s2,hH 14 4 kB,hY 14 mE,bT 14 (dC nU cse),ea jt oB] 3 19) (lA s3 ct)) (sq (rg [gm bR,gm jG] [(5,0),(6,1)]) (sq (sq (r1 [gf 0 s2,gd l0,aG l1 EM] 4 2) (.cond s4 (rg [gm bh,gm jF] [(5,0),(6,1)]) .skip)) (sq (sq (r1 [gf 1 s2,gd l0,gm s5,aN l1 l2,gm l3,hH 4 1 s2,hY 4 l5,dH 4 s6,bT 4 (dz l6 l7),ea l4 l8,gm l9,hH 10 1 s2,hY 10 fI,bT 10 (pT gV jG),dH 10 iQ,kA 14 2 s2,kA 14 3 kB,iO 14 mE,bZ 14 (dC nU cse),yP 10 jt oB,ea l10 pY] 7 20) (lA s7 ct)) (sq (r1 [gf 1 s2,gd l0,cB l1 bh,gm l2,hH 3 2 s2,hH 3 0 l4,hY 3 l5,bT 3 (ca l6 bh),ea l3 l7,gm l8,kA 9 1 s2,iO 9 l10,bZ 9 (dz fI bR),gmt 9 gV,hH 13 2 s2,hH 13 1 jt,hY 13 kB,bT 13 (ca mE bh),LZ 9 iQ nU,dZ l9 oB,gm pY,kA 20 1 s2,iO 20 wP,bZ 20 (dz xA jF),gmt 20 BC,hH 24 2 s2,hH 24 2 B8,hY 24 FK,bT 24 (ca GQ bh),LZ 20 BD Jt,dZ ua Ju,gm L6] 1 31) .ret))))))⟩
def w676 {Γ:Ctx}(hm:(Γ.at 0).a8)(h217:FY Γ)(c:cj)  (hp0:c.v.sm):dq Γ HR (.bool (jC c)) [cj.D c]:=by
 show bz _ _ _ [⟨_,_⟩,_,_,_,_,_,_,_] _;refine aj ?_;refine wB ?_;refine bc (v:=b7.D c.v) ?_;refine fB (hc:=fun hf=>h217 c.v hp0) ?_;refine cR ?_;refine aq (fun hc0=>?_) (fun hc0=>?_)
 ·have hq:=z7 hc0;refine aJ ?_;refine br ?_;rw[hq]
 have hy:=xl hc0;refine fM ?_;refine aq (fun hc1=>?_) (fun hc1=>?_)
 ·simp only[decide_eq_true_eq]at hc1;have hz:=pc hy (lo:=0) (hi:=2) (if_pos hc1) (if_pos hc1);refine Ip ?_;refine aq (fun hc2=>?_) (fun hc2=>?_)
  ·rw[hc2]at hz;refine aJ ?_;refine br ?_;rw[hz];rfl
  rw[hc2]at hz;refine KJ ?_;refine br ?_;rw[hz];rfl
 simp only[decide_eq_false_iff_not]at hc1;have hz:=pc hy (lo:=1) (hi:=3) (if_neg hc1) (if_neg hc1);refine KI ?_;refine aq (fun hc2=>?_) (fun hc2=>?_)
 ·rw[hc2]at hz;refine aJ ?_;refine br ?_;rw[hz];rfl
 rw[hc2]at hz;refine KJ ?_;refine br ?_;rw[hz];rfl
def Lb (Γ:Ctx):Prop:=∀(c:cj),(c.v.sm)→Γ.pre 676 [cj.D c]∧Γ.val 676 [cj.D c]=.bool (jC c)
def Gm:aB:=⟨1,14,gG,bO,(sq (rg [gb 7 s0,gm ct] [(2,0),(1,1)]) (sq (sq (r1 [gf 0 s2,gd l0,aN l1 bR,gm l2,hH 3 0 s2,hY 3 l4,bT 3 (dz l5 EM),ea l3 l6,gm l7,hH 8 2 s2,bT 8 (.ld 5 true l9),bT 8 (.call 209 [l10] EJ),bT 8 (.un .not fI),ea l8 gV,gm iQ,hH 14 2 s2,hH 14 4 kB,hY 14 mE,bT 14 (dC nU cse),ea jt oB] 3 19) (lA s3 ct)) (sq (rg [gm bR,gm jG] [(5,0),(6,1)]) (sq (sq (r1 [gf 0 s2,gd l0,aG l1 EM] 4 2) (.cond s4 (rg [gm bh,gm jF] [(5,0),(6,1)]) .skip)) (sq (sq (r1 [gf 1 s2,gd l0,gm s5,aN l1 l2,gm l3,hH 4 1 s2,hY 4 l5,dH 4 s6,bT 4 (dz l6 l7),ea l4 l8,gm l9,hH 10 2 s2,hH 10 3 fI,hY 10 gV,bT 10 (dC iQ cse),dH 10 jt,kA 15 1 s2,iO 15 mE,bZ 15 (pT nU jG),yP 10 kB oB,ea l10 pY] 7 20) (lA s7 ct)) (sq (sq (r1 [gf 1 s2,gd l0] 8 1) (.block 0 (sq (.block 3 (sq (.block 2 (sq (.block 1 (sq (sq (sq (r1 [aG s8 bh,gm l0] 9 1) (.cond s9 (.exit 1) .skip)) (sq (sq (r1 [aG s8 bR,gm l0] 10 1) (.cond jx (.exit 2) .skip)) (sq (r1 [aG s8 jF,gm l0] 11 1) (.cond mc (.exit 3) .skip)))) (.exit 0))) (sq (r1 [gf 2 s2,gf 0 l0,gd l1,bN l2 bh] 12 3) (lA lY ct)))) (sq (r1 [gf 2 s2,gf 1 l0,gd l1,bN l2 bh] 13 3) (lA pP ct)))) (sq (sq (r1 [gf 2 s2,gf 2 l0,gd l1,aG l2 bh,gm l3] 1 4) .ret) (.exit 0))))) (uO me)))))))⟩
def w827 {Γ:Ctx}(hm:(Γ.at 0).a8)(h209:FW Γ)(c:cj)  (hp0:c.v.sm):dq Γ Gm (.bool (jC c)) [cj.D c]:=by
 show bz _ _ _ [⟨_,_⟩,_,_,_,_,_,_,_,_,_,_,_,_,_] _;refine aj ?_;refine wB ?_;refine bc (v:=b7.D c.v) ?_;refine fB (hc:=fun hf=>h209 c.v hp0) ?_;refine cR ?_;refine aq (fun hc0=>?_) (fun hc0=>?_)
 ·have hq:=z7 hc0;refine aJ ?_;refine br ?_;rw[hq]
 have hy:=xl hc0;refine fM ?_;refine aq (fun hc1=>?_) (fun hc1=>?_)
 ·simp only[decide_eq_true_eq]at hc1;have hz:=pc hy (lo:=0) (hi:=2) (if_pos hc1) (if_pos hc1);refine Ip ?_;refine aq (fun hc2=>?_) (fun hc2=>?_)
  ·rw[Bool.and_comm (!decide (c.v.pre=[]))]at hc2;rw[hc2]at hz;refine aJ ?_;refine br ?_;rw[hz];simp[nR]<;>simp_all<;>omega
  rw[Bool.and_comm (!decide (c.v.pre=[]))]at hc2;rw[hc2]at hz;refine wC ?_;refine cd (fun hc3=>?_) fun hc3=>?_
  ·refine bB ?_;refine fm (fun hc6=>?_) fun hc6=>?_
   ·refine aV ?_;refine br ?_;rw[hz];simp[nR]<;>simp_all<;>omega
   refine bB ?_;refine fm (fun hc7=>?_) fun hc7=>?_
   ·refine aA ?_;refine br ?_;rw[hz];simp[nR]<;>simp_all<;>omega
   refine gZ ?_;refine br ?_;rw[hz];simp[nR]<;>simp_all<;>omega
  refine aV ?_;refine cd (fun hc4=>?_) fun hc4=>?_
  ·refine cR ?_;refine fm (fun hc7=>?_) fun hc7=>?_
   ·refine aA ?_;refine br ?_;rw[hz];simp[nR]<;>simp_all<;>omega
   refine gZ ?_;refine br ?_;rw[hz];simp[nR]<;>simp_all<;>omega
  refine aA ?_;refine cd (fun hc5=>?_) fun hc5=>?_
  ·refine p8 ?_;refine br ?_;rw[hz];simp[nR]<;>simp_all<;>omega
  refine gF ?_;refine br ?_;rw[hz];simp[nR]<;>simp_all<;>omega
 simp only[decide_eq_false_iff_not]at hc1;have hz:=pc hy (lo:=1) (hi:=3) (if_neg hc1) (if_neg hc1);refine KI ?_;refine aq (fun hc2=>?_) (fun hc2=>?_)
 ·rw[Bool.and_comm (!decide (c.v.pre=[]))]at hc2;rw[hc2]at hz;refine aJ ?_;refine br ?_;rw[hz];simp[nR]<;>simp_all<;>omega
 rw[Bool.and_comm (!decide (c.v.pre=[]))]at hc2;rw[hc2]at hz;refine wC ?_;refine cd (fun hc3=>?_) fun hc3=>?_
 ·refine bB ?_;refine fm (fun hc6=>?_) fun hc6=>?_
  ·refine aV ?_;refine br ?_;rw[hz];simp[nR]<;>simp_all<;>omega
  refine bB ?_;refine fm (fun hc7=>?_) fun hc7=>?_
  ·refine aA ?_;refine br ?_;rw[hz];simp[nR]<;>simp_all<;>omega
  refine gZ ?_;refine br ?_;rw[hz];simp[nR]<;>simp_all<;>omega
 refine aV ?_;refine cd (fun hc4=>?_) fun hc4=>?_
 ·refine cR ?_;refine fm (fun hc7=>?_) fun hc7=>?_
  ·refine aA ?_;refine br ?_;rw[hz];simp[nR]<;>simp_all<;>omega
  refine gZ ?_;refine br ?_;rw[hz];simp[nR]<;>simp_all<;>omega
 refine aA ?_;refine cd (fun hc5=>?_) fun hc5=>?_
 ·refine p8 ?_;refine br ?_;rw[hz];simp[nR]<;>simp_all<;>omega
 refine gF ?_;refine br ?_;rw[hz];simp[nR]<;>simp_all<;>omega
def IF (Γ:Ctx):Prop:=∀(c:cj),(c.v.sm)→Γ.pre 827 [cj.D c]∧Γ.val 827 [cj.D c]=.bool (jC c)
end Go.Abs
end
section
namespace Go.Abs
open Go
def BW:aB:=⟨1,16,gG,bO,(sq (rg [gb 7 s0,gm cse] [(2,0),(1,1)]) (sq (sq (r1 [gk 7 true s2,gx 827 [l0] Jg,ix l1] 3 2) (lA s3 cse)) (sq (r1 [gf 0 s2,gd l0,gx 957 [l1] bO,gm l2] 11 3) (sq (sq (rg [gf 2 s2,gf 0 l0,gd l1,gf 2 s2,gf 1 l3,gd l4,gf 2 s2,gf 2 l6,gd l7,gn (.bsl 1 (.int .i64 0) 3 [(0,l2),(1,l5),(2,l8)]),gl l9,gm bh] [(7,9),(5,10),(4,11)]) (.block 0 (.loop (sq (r1 [aN s4 s5] 6 0) (sq (eN s6 0) (sq (.block 1 (sq (rg [gm s4,ga 1 s7 s4,gd l1,gm l0,gm l2] [(8,3),(12,4)]) (sq (sq (r1 [gm s8,gf 1 s2,gd l1,gv l0 l2] 9 3) (.cond s9 (.exit 0) .skip)) (sq (sq (r1 [gm s8,cB l0 bh] 10 1) (.cond jx (r1 [gm mc,au l0 (cs [46]),gm l1] 11 2) .skip)) (r1 [gm mc,gm lY,gx 665 [l1] bO,au l0 l2,gm l3] 11 4))))) (r1 [au s4 bR,gm l0] 4 1))))))) (sq (sq (r1 [gf 0 s2,gd l0,aG l1 EM] 13 2) (.cond pP (sq (sq (r1 [gf 1 s2,gd l0,cB l1 bh] 14 2) (.cond tn (r1 [gm mc,au l0 (cs [46]),gm l1] 11 2) .skip)) (sq (r1 [gm mc,au l0 (cs [42]),gm l1] 1 2) .ret)) .skip)) (sq (sq (r1 [gf 2 s2,gf 3 l0,gd l1,bN l2 cse] 15 3) (.cond vW (r1 [gm mc,gf 2 s2,gf 3 l1,gd l2,au (cs [45]) l3,au l0 l4,gm l5] 11 6) .skip)) (sq (r1 [gm mc,gm l0] 1 1) .ret)))))))⟩
def w828 {Γ:Ctx}(hm:(Γ.at 0).a8)(h665:K8 Γ)(h827:IF Γ)(h957:Lq Γ)(c:cj)  (hp0:c.v.sm):dq Γ BW (.str (cP c)) [cj.D c]:=by
 show bz _ _ _ [⟨_,_⟩,_,_,_,_,_,_,_,_,_,_,_,_,_,_,_] _;refine aj ?_;refine aA ?_;refine ak (hc:=h827 _ ?_) ?_;rotate_left;first|assumption|omega
 refine ar ?_;refine aq (fun hc0=>?_) (fun hc0=>?_)
 ·simp only[Bool.not_eq_true']at hc0;refine aJ ?_;refine ch ?_;simp[cP,hc0]
 simp only[Bool.not_eq_false']at hc0;obtain⟨hv,hp1,hp2,hp3,hp4⟩:=mN hc0;have hsl:=sI c.op;have hnl:=pB hv;refine ax ?_;refine ak (hc:=h957 _) ?_;refine kv ?_;refine cx [(.int _ _),(.int _ _),(.int _ _)] ?_;refine aC ?_;intro u0;refine ar ?_;refine eu 18 ?_;refine aY hm (ι:=Nat) (fun i=>[.un,.un,⟨true,.ptr 0 7 0 0⟩,.un,⟨true,.int .i64 (i:Nat)⟩,⟨true,.int .i64 3⟩,.un,⟨true,.sl 1 (c.kl.map (D.int .i64))⟩,.un,.un,.un,⟨true,.str (cv c.op++eI c i)⟩,.un,.un,.un,.un]) (fun i=>[(0,.buf 7 [cj.D c])]) 21 (fun i=>i≤3∧i≤c.parts.toNat) (fun i=>3-i) 0 ⟨by omega,by omega⟩ (aX.to [(0,0)] ae ae (by repeat(first|exact de.nil|refine de.un ?_|refine de.eq ae ?_|refine de.nl (congrArg D.str (by first|(simp only[eI,if_pos hpos,List.append_assoc];done)|(simp only[eI,if_neg hpos,List.append_assoc,List.nil_append];done)|simp[eI])) ae ?_|refine de.nl ae ae ?_)) qy) ?_;rintro i ⟨hi,hip⟩;have hni:=hnl i;have hfit:=oF hv i;have hn3:c.kl.length=3:=rfl;refine av ?_;refine cd (fun hc1=>?_) fun hc1=>?_
 ·refine wC ?_;refine cd (fun hc2=>?_) fun hc2=>?_
  ·refine aJ ?_;obtain rfl:i=c.parts.toNat:=by omega
   refine ax ?_;refine cd (fun hc4=>?_) fun hc4=>?_
   ·refine aV ?_;refine cd (fun hc5=>?_) fun hc5=>?_
    ·refine ar ?_;refine eM ?_;refine aJ ?_;refine eM ?_;refine av ?_;refine ch ?_;simp[cP,j9,jy,hc0, *]
    refine ax ?_;refine eM ?_;refine av ?_;refine ch ?_;simp[cP,j9,jy,hc0, *]
   refine bB ?_;refine cd (fun hc6=>?_) fun hc6=>?_
   ·refine aC ?_;have hpl:=hp0.1;refine ax ?_;refine eM ?_;refine eM ?_;refine aV ?_;refine ch ?_;simp[cP,j9,jy,hc0, *]
   refine aA ?_;refine ch ?_;simp[cP,j9,jy,hc0, *]
  refine aA ?_;refine aq (fun hc3=>?_) (fun hc3=>?_)
  ·simp only[decide_eq_true_eq]at hc3;have hpos:0<i:=by omega
   refine ar ?_;refine eM ?_;refine aJ ?_;refine ak (hc:=h665 (c.kl[i]!) ⟨hfit.1,hfit.2⟩) ?_;have hdl:=dT 4 (c.kl[i]!).toNat (by omega) (by omega);refine eM ?_;refine bB ?_;exact⟨i+1,⟨by omega,by omega⟩,by omega,(aX.to [(0,0)] ae ae (by repeat(first|exact de.nil|refine de.un ?_|refine de.eq ae ?_|refine de.nl (congrArg D.str (by first|(simp only[eI,if_pos hpos,List.append_assoc];done)|(simp only[eI,if_neg hpos,List.append_assoc,List.nil_append];done)|simp[eI])) ae ?_|refine de.nl ae ae ?_)) qy)⟩
  simp only[decide_eq_false_iff_not]at hc3;have hpos:¬0<i:=by omega
  refine ax ?_;refine ak (hc:=h665 (c.kl[i]!) ⟨hfit.1,hfit.2⟩) ?_;have hdl:=dT 4 (c.kl[i]!).toNat (by omega) (by omega);refine eM ?_;refine bB ?_;exact⟨i+1,⟨by omega,by omega⟩,by omega,(aX.to [(0,0)] ae ae (by repeat(first|exact de.nil|refine de.un ?_|refine de.eq ae ?_|refine de.nl (congrArg D.str (by first|(simp only[eI,if_pos hpos,List.append_assoc];done)|(simp only[eI,if_neg hpos,List.append_assoc,List.nil_append];done)|simp[eI])) ae ?_|refine de.nl ae ae ?_)) qy)⟩
 refine ax ?_;obtain rfl:i=c.parts.toNat:=by omega
 refine ax ?_;refine cd (fun hc4=>?_) fun hc4=>?_
 ·refine aV ?_;refine cd (fun hc5=>?_) fun hc5=>?_
  ·refine ar ?_;refine eM ?_;refine aJ ?_;refine eM ?_;refine av ?_;refine ch ?_;simp[cP,j9,jy,hc0, *]
  refine ax ?_;refine eM ?_;refine av ?_;refine ch ?_;simp[cP,j9,jy,hc0, *]
 refine bB ?_;refine cd (fun hc6=>?_) fun hc6=>?_
 ·refine aC ?_;have hpl:=hp0.1;refine ax ?_;refine eM ?_;refine eM ?_;refine aV ?_;refine ch ?_;simp[cP,j9,jy,hc0, *]
 refine aA ?_;refine ch ?_;simp[cP,j9,jy,hc0, *]
def Lj (Γ:Ctx):Prop:=∀(c:cj),(c.v.sm)→Γ.pre 828 [cj.D c]∧Γ.val 828 [cj.D c]=.str (cP c)
end Go.Abs
end
section
namespace Go.Abs
open Go
def sE:aB:=⟨1,4,gG,[[.sl 1 [.a]]],(sq (rg [gb 7 s0,gm (.c (.az))] [(2,0),(1,1)]) (sq (r2 [gf 2 s2,gf 0 l0,gd l1,gx 734 [l2] bO,gf 2 s2,gf 1 l4,gd l5,gx 734 [l6] bO,gf 2 s2,gf 2 l8,gd l9,gx 734 [l10] bO,gn (.bsl 1 (.str []) 3 [(0,l3),(1,l7),(2,fI)]),gm gV] 3 13) (sq (r1 [gm s3,gf 1 s2,gd l1,gn (.slA 1 l0 none (some l2)),gm l3] 1 4) .ret)))⟩
def w677 {Γ:Ctx}(hm:(Γ.at 0).a8)(c:cj)(h734:Lh Γ)(hp0:iF c.v=true∧0≤c.parts∧c.parts≤3):bz (Γ.at 0) sE.body (jn sE (One (.own 14 1 0 c.parts.toNat) [(0,.buf 7 [cj.D c]),(14,.buf 1 [.str (cW c.v.major.toNat),.str (cW c.v.minor.toNat),.str (cW c.v.patch.toNat)])]):Ex→List bx→St→Prop) (ed sE [cj.D c]) ⟨0,[]⟩:=by
 show bz _ _ _ [⟨_,_⟩,_,_,_] _;refine aj ?_;refine aV ?_;refine ak (hc:=h734 c.v.major (oF hp0.1 0)) ?_;refine av ?_;refine ak (hc:=h734 c.v.minor (oF hp0.1 1)) ?_;refine av ?_;refine ak (hc:=h734 c.v.patch (oF hp0.1 2)) ?_;refine cx [.str _,.str _,.str _] ?_;refine aA ?_;refine vG c.parts.toNat (hj:=fun _=>by omega) (hb:=fun _=>by omega) ?_;refine av ?_;refine bq trivial di (Eq.trans ae (?_)) ae (oneq _ _);rfl
def Lc (Γ:Ctx):Prop:=∀(c:cj),(iF c.v=true∧0≤c.parts∧c.parts≤3)→∀(nx:Nat)(m:List (Nat×bo))(K:D→St→Prop),K (.own nx 1 0 c.parts.toNat) ⟨nx+1,(nx,.buf 1 [.str (cW c.v.major.toNat),.str (cW c.v.minor.toNat),.str (cW c.v.patch.toNat)])::m⟩→Γ.tr 677 [cj.D c] ⟨nx,m⟩ K
end Go.Abs
end
section
namespace Go.Abs
open Go
def CR:aB:=⟨1,8,gG,bO,(sq (rg [gb 7 s0,gm cse] [(2,0),(1,1)]) (sq (sq (r1 [gk 7 true s2,gx 676 [l0] Jg,ix l1] 3 2) (lA s3 cse)) (sq (r1 [gk 7 true s2,gn (.callM 677 [l0]),gm l1] 5 2) (sq (sq (r1 [gf 0 s2,gd l0,aG l1 EM] 4 2) (.cond s4 (sq (r1 [gm s5,gf 1 s2,gd l1,gf 1 s2,gd l3,gn (.slX 1 l0 l2 l4),gn (.bsl 1 (.str []) 1 [(0,(cs [42]))]),gn (.app 1 l5 l6),gx 249 [l7,(i8 46)] [[.sl 1 [.a]],[.a]],gm l8] 1 9) .ret) .skip)) (sq (r1 [gf 0 s2,gd l0,gx 678 [l1] bO,gm s5,gx 249 [l3,(i8 46)] [[.sl 1 [.a]],[.a]],au l2 l4,gm l5] 7 6) (sq (sq (r1 [gf 2 s2,gf 3 l0,gd l1,bN l2 cse] 6 3) (.cond s6 (r1 [gm s7,au l0 (cs [45]),gf 2 s2,gf 3 l2,gd l3,au l1 l4,gm l5] 7 6) .skip)) (sq (r1 [gm s7,gm l0] 1 1) .ret)))))))⟩
def w482 {Γ:Ctx}(hm:(Γ.at 0).a8)(h249:FZ Γ)(h676:Lb Γ)(h677:Lc Γ)(h678:Lg Γ)(c:cj)  (hp0:c.v.sm):dq Γ CR (.str (cP c)) [cj.D c]:=by
 show bz _ _ _ [⟨_,_⟩,_,_,_,_,_,_,_] _;refine aj ?_;refine aA ?_;refine ak (hc:=h676 _ ?_) ?_;rotate_left;first|assumption|omega
 refine ar ?_;refine aq (fun hc0=>?_) (fun hc0=>?_)
 ·simp only[Bool.not_eq_true']at hc0;refine aJ ?_;refine ch ?_;simp[cP,hc0]
 simp only[Bool.not_eq_false']at hc0;obtain⟨hv,hp1,hp2,hp3,hp4⟩:=mN hc0;have hsl:=sI c.op;have hnl:=pB hv c.parts.toNat;have htl:=Bm hp2;have hj1:=yk hp2;have hj2:=sN hp1 hp2;have hl2:=congrArg List.length hj2;have hl1:=congrArg List.length hj1;simp only[List.length_append,List.length_singleton]at hl2;have hi2:(if 0<c.parts then([46]:ai)else []).length≤1:=by split<;>simp
 refine av ?_;refine bW (nx':=6) (v:=.own 6 1 0 c.parts.toNat) (m':=[(6,.buf 1 [.str (cW c.v.major.toNat),.str (cW c.v.minor.toNat),.str (cW c.v.patch.toNat)]),(0,.buf 7 [cj.D c])]) (hc:=fun K' hK=>h677 c ⟨hv,hp1,hp2⟩ _ _ K' hK) (hn:=by decide) ?_;refine bB ?_;refine cd (fun hc1=>?_) fun hc1=>?_
 ·refine aV ?_;refine ME c.parts.toNat (hj:=fun _=>by omega) (hb:=fun _=>by omega) ?_;refine cx [.str _] ?_;refine tk ((kq c++[[42]]).map D.str) (n:=(kq c++[[42]]).length) (ha:=by simp;omega) (he:=rQ.own rfl (by simp)) (hz:=by rw[List.drop_zero,wg,List.map_append];rfl) (hn:=by simp;omega) (hb:=by simp;omega) ?_;refine ak (hc:=h249 (kq c++[[42]]) 46 (by rw[hj2];simp only[List.length_append,List.length_singleton];omega)) (ha:=fun _=>congrArg (fun d=>[d,D.int .u8 46]) (rK (q:=D.str) (fun _=>rfl) ae)) (hp:=fun _=>⟨oY (q:=D.str) (fun _=>rfl) ae,rfl,trivial⟩) ?_;refine av ?_;refine ch ?_;rw[cP,if_pos hc0,hj2];simp[j9,jy,hc1,cv]
 refine ax ?_;refine ak (hc:=h678 _) ?_;refine aC ?_;refine ak (hc:=h249 (kq c) 46 (by rw[hj1];omega)) (ha:=fun _=>congrArg (fun d=>[d,D.int .u8 46]) (JZ ae)) (hp:=fun _=>⟨H9 hp2 ae,rfl,trivial⟩) ?_;refine cO (hb:=fun _=>by omega) ?_;refine cR ?_;refine cd (fun hc2=>?_) fun hc2=>?_
 ·refine aC ?_;have hpl:=hp0.1;refine aC ?_;refine eM ?_;refine av ?_;refine eM ?_;refine aV ?_;refine ch ?_;rw[cP,if_pos hc0,hj1];simp[j9,jy,hc1,hc2]
 refine aA ?_;refine ch ?_;rw[cP,if_pos hc0,hj1];simp[j9,jy,hc1,hc2]
def K1 (Γ:Ctx):Prop:=∀(c:cj),(c.v.sm)→Γ.pre 482 [cj.D c]∧Γ.val 482 [cj.D c]=.str (cP c)
end Go.Abs
end
section
namespace Go.Abs
open Go
def HS:aB:=⟨1,6,[⟨1,none⟩,⟨2,none⟩],gQ,(sq (rg [gm cse,gm cse] [(1,0),(2,1)]) (sq (sq (r1 [gm bh] 3 0) (.block 0 (.loop (sq (sq (r1 [gm s3,gm s0,m9 l1,aN l0 l2] 4 3) (eN s4 0)) (sq (.block 1 (sq (r1 [gm s0,gm s3,Dv l0 l1,aG l2 (i8 45)] 5 3) (.cond s5 (sq (rt [gm s0,gm s3,gn (.slS l0 none (some l1)),gm s0,gm s3,au l4 bR,gn (.slS l3 (some l5) none),gm l2,gm l6] [(1,7),(2,8)]) .ret) .skip))) (r1 [gm s3,au l0 bR,gm l1] 3 2)))))) (sq (rg [gm s0,gm l0,gm cse] [(1,1),(2,2)]) .ret)))⟩
def Qt {Γ:Ctx}(hm:(Γ.at 0).a8)  (s:ai)   :dq Γ HS (.tup [.str (fh s 0).1,.str (fh s 0).2]) [.str s]:=by
 show bz _ _ _ [⟨_,_⟩,_,_,_,_,_] _;refine aj ?_;refine aV ?_;refine aY hm (ι:=Nat) (fun i=>[⟨true,.str s⟩,.un,.un,⟨true,.int .i64 (i:Nat)⟩,.un,.un]) (fun i=>[]) 3 (fun i=>i≤s.length∧fh s 0=fh s i) (fun i=>s.length-i) 0 ⟨by omega,rfl⟩ (cS []) ?_;rintro i ⟨hi,hr⟩;refine aJ ?_;intro u0;refine ar ?_;refine cd (fun hc0=>?_) fun hc0=>?_
 ·refine bB ?_;refine fm (fun hc1=>?_) fun hc1=>?_
  ·refine av ?_;refine ko _ ?_;refine av ?_;refine dV (i+1) ?_;refine aA ?_;refine bC (aF (congrArg D.str ?_) (congrArg D.str ?_));all_goals rw[hr,D0 (by omega) hc1]
  refine bB ?_;exact⟨i+1,⟨by omega,by rw[hr,D1 (by omega) hc1]⟩,by omega,(cS [])⟩
 refine bB ?_;refine bC (aF (congrArg D.str ?_) (congrArg D.str ?_));all_goals rw[hr,AJ (by omega)]
def J4 (Γ:Ctx):Prop:=∀(s:ai),Γ.pre 1007 [.str s]∧Γ.val 1007 [.str s]=.tup [.str (fh s 0).1,.str (fh s 0).2]
def CS:aB:=⟨1,9,[⟨1,none⟩,⟨2,none⟩],gQ,(sq (rg [gm bh,gm cse] [(1,0),(2,1)]) (sq (r1 [gn (.bsl 1 (.int .i64 0) 8 [(0,jF),(1,tA),(2,tY),(3,bR),(4,jG),(5,B4),(6,FJ),(7,B5)]),gm l0] 4 1) (sq (sq (r1 [gm bh] 3 0) (.block 0 (.loop (sq (sq (r1 [gm s3,gm s4,gl l1,aN l0 l2] 5 3) (eN s5 0)) (sq (.block 1 (sq (r1 [gm s4,gm s3,ga 1 l0 l1,gd l2,gx 678 [l3] bO,gm l4] 6 5) (sq (r1 [gm s0,gm s6,gx 1079 [l0,l1] gQ] 7 2) (.cond s7 (sq (rt [gm s4,gm s3,ga 1 l0 l1,gd l2,gm s0,gm s6,m9 l5,gn (.slS l4 (some l6) none),gm l3,gm l7] [(1,8),(2,9)]) .ret) .skip)))) (r1 [gm s3,au l0 bR,gm l1] 3 2)))))) (sq (sq (r1 [gm s0,m9 l0,cB l1 bh,gm l2,gmt 3 s0,gmt 3 s0,bZ 3 (.lenS l5),bZ 3 (iG l6 bR),bZ 3 (.ixS l4 l7),bZ 3 (ca l8 (i8 42)),dZ l3 l9] 8 10) (.cond s8 (sq (rg [gm s0,gm EM,gm l0] [(1,1),(2,2)]) .ret) .skip)) (sq (rg [gm s0,gm FJ,gm l0] [(1,1),(2,2)]) .ret)))))⟩
def Qs {Γ:Ctx}(hm:(Γ.at 0).a8)(h678:Lg Γ)(h1079:J8 Γ)(s:ai)   :dq Γ CS (.tup [.int .i64 (eC s).1,.str (eC s).2]) [.str s]:=by
 show bz _ _ _ [⟨_,_⟩,_,_,_,_,_,_,_,_] _;refine aj ?_;refine ax ?_;refine cx [(.int _ _),(.int _ _),(.int _ _),(.int _ _),(.int _ _),(.int _ _),(.int _ _),(.int _ _)] ?_;refine aA ?_;refine eu 2 ?_;refine aY hm (ι:=Nat) (fun i=>[⟨true,.str s⟩,.un,.un,⟨true,.int .i64 (i:Nat)⟩,⟨true,.sl 1 (opsL.map (D.int .i64))⟩,.un,.un,.un,.un]) (fun i=>[]) 5 (fun i=>i≤8∧nC s 0=nC s i) (fun i=>8-i) 0 ⟨by omega,rfl⟩ (cS []) ?_;rintro i ⟨hi,hr⟩;have hn8:opsL.length=8:=rfl;refine aJ ?_;intro u0;refine ar ?_;refine cd (fun hc0=>?_) fun hc0=>?_
 ·refine aV ?_;refine ak (hc:=h678 _) ?_;refine aJ ?_;refine ak (hc:=h1079 _ _) ?_;refine aC ?_;refine wp_cond (fun hc1=>?_) (fun hc1=>?_)
  ·have hbl:(cv opsL[i]!).length≤s.length:=by simp only[nQ,Bool.and_eq_true,decide_eq_true_eq]at hc1;exact hc1.1
   refine aV ?_;refine gT ?_;refine dV (cv opsL[i]!).length (hb:=fun _=>hbl) ?_;refine aA ?_;refine bC (aF (congrArg (D.int .i64) ?_) (congrArg D.str ?_));all_goals simp only[eC,hr,DX (show i<8 by omega) hc1]
  skip
  refine bB ?_;exact⟨i+1,⟨by omega,by rw[hr,DY (by omega) hc1]⟩,by omega,(cS [])⟩
 refine aA ?_;intro u1;refine ax ?_;refine gT ?_;refine aC ?_;refine mX (s.length-1) ?_;refine av ?_;refine cd (fun hc2=>?_) fun hc2=>?_
 ·refine aV ?_;refine bC (aF (congrArg (D.int .i64) ?_) (congrArg D.str ?_));all_goals (have ho:nC s 0=none:=(by rw[hr,vu (by omega)]);simp only[eC,ho,if_pos (show 0<s.length∧at8 s (s.length-1)=42 from⟨by omega,hc2.2⟩)])
 refine aV ?_;refine bC (aF (congrArg (D.int .i64) ?_) (congrArg D.str ?_));all_goals (have ho:nC s 0=none:=(by rw[hr,vu (by omega)]);have hn:¬(0<s.length∧at8 s (s.length-1)=42):=(by rintro⟨h1,h2⟩;rcases hc2 with h|h;exact h (by omega);exact h h2);simp only[eC,ho,if_neg hn])
def J3 (Γ:Ctx):Prop:=∀(s:ai),Γ.pre 1006 [.str s]∧Γ.val 1006 [.str s]=.tup [.int .i64 (eC s).1,.str (eC s).2]
end Go.Abs
end
section
namespace Go.Abs
open Go
def zp:aB:=⟨1,10,[⟨1,some (5,true)⟩,⟨2,none⟩],[[.a,.a,.a,.a,.a],[.a]],(sq (rg [gb 5 (.c (.agg [.int .i64 0,.int .i64 0,.int .i64 0,.str [],.str []])),gm ct] [(1,0),(2,1)]) (sq (r1 [gb 3 (.c (.agg [.int .i64 0,.int .i64 0,.int .i64 0]))] 9 0) (sq (sq (r1 [gm s0,gl l0,cB l1 jG] 3 2) (.cond s3 (sq (r1 [gn (.build [.int .i64 0,.int .i64 0,.int .i64 0,.str [],.str []] []),gt 5 s1 l0,gm ct] 2 2) .ret) .skip)) (sq (sq (r1 [gm bh] 4 0) (.block 0 (.loop (sq (sq (r1 [gm s4,gm s0,gl l1,aN l0 l2] 5 3) (eN s5 0)) (sq (.block 1 (sq (rg [gm s0,gm s4,ga 1 l0 l1,gd l2,gx 667 [l3] bO,gm l4,ge l5 0,ge l5 1,gm l6,gm l7] [(8,8),(6,9)]) (sq (sq (r1 [gm s6,ix l0] 7 1) (.cond s7 (sq (r1 [gn (.build [.int .i64 0,.int .i64 0,.int .i64 0,.str [],.str []] []),gt 5 s1 l0,gm ct] 2 2) .ret) .skip)) (rg [gm s4,gm s8,gn (.iaP 3 1 s9 l0),gt 1 l2 l1] [])))) (r1 [gm s4,au l0 bR,gm l1] 4 2)))))) (sq (r1 [gn (.iaP 3 1 s9 bh),gd l0,gn (.iaP 3 1 s9 bR),gd l2,gn (.iaP 3 1 s9 jF),gd l4,gn (.build [.int .i64 0,.int .i64 0,.int .i64 0,.str [],.str []] [(0,1,l1),(1,1,l3),(2,1,l5)]),gt 5 s1 l6,gm me] 2 8) .ret)))))⟩
def Qu {Γ:Ctx}(hm:(Γ.at 0).a8)(h667:ID Γ)(l:List ai)   :dq Γ zp (.tup [b7.D (tH l),.bool (dL l)]) [.sl 1 (l.map D.str)]:=by
 show bz _ _ _ [⟨_,_⟩,_,_,_,_,_,_,_,_,_] _;refine aj ?_;refine gF ?_;intro u0;refine ar ?_;refine cd (fun hc0=>?_) fun hc0=>?_
 ·refine ar ?_;refine aW (b7.D dY) ?_;refine ax ?_;refine bC (aF ?_ (congrArg D.bool ?_));all_goals (have hq:dL l=false:=(by simp only[dL];rw[decide_eq_false (by omega)];rfl);first|(rw[hq];done)|(simp only[tH,hq,Bool.false_eq_true,if_false,if_true];rfl))
 refine aJ ?_;have hb:dL l=b8 (fun i=>dQ l[i]!) 0 l.length:=by simp only[dL];rw[decide_eq_true (by omega)];rfl
 refine aY hm (ι:=Nat) (fun i=>[⟨true,.sl 1 (l.map D.str)⟩,⟨true,.ptr 0 5 0 0⟩,.un,.un,⟨true,.int .i64 (i:Nat)⟩,.un,.un,.un,.un,⟨true,.ptr 2 3 0 0⟩]) (fun i=>[(0,.buf 5 [b7.D dY]),(2,.buf 3 [EY l i])]) 7 (fun i=>i≤l.length∧dL l=b8 (fun i=>dQ l[i]!) i l.length) (fun i=>l.length-i) 0 ⟨by omega,hb⟩ (cS [(0,0),(2,2)]) ?_;rintro i ⟨hi,hr⟩;refine aJ ?_;intro u1;refine ar ?_;refine cd (fun hc1=>?_) fun hc1=>?_
 ·refine aV ?_;refine ak (hc:=h667 _) ?_;refine fM ?_;refine aq (fun hc2=>?_) (fun hc2=>?_)
  ·simp only[Bool.not_eq_true']at hc2;refine ar ?_;refine aW (b7.D dY) ?_;refine aA ?_;refine bC (aF ?_ (congrArg D.bool ?_));all_goals (have hq:dL l=false:=(by rw[hr,aH (by omega),hc2];rfl);first|(rw[hq];done)|(simp only[tH,hq,Bool.false_eq_true,if_false,if_true];rfl))
  simp only[Bool.not_eq_false']at hc2;refine ax ?_;refine vF i ?_;refine aL (EY l (i+1)) (he:=Ax l i (by omega)) ?_;refine bB ?_;exact⟨i+1,⟨by omega,by rw[hr,aH (by omega),hc2];rfl⟩,by omega,(cS [(0,0),(2,2)])⟩
 refine av ?_;obtain rfl:i=l.length:=by omega
 have hok:dL l=true:=by rw[hr,bE (by omega)]
 refine vF 0 ?_;refine bc (v:=.int .i64 (if 0<l.length then cT l[0]! else 0)) ?_;refine vF 1 ?_;refine bc (v:=.int .i64 (if 1<l.length then cT l[1]! else 0)) ?_;refine vF 2 ?_;refine bc (v:=.int .i64 (if 2<l.length then cT l[2]! else 0)) ?_;refine aW (b7.D (G8 l)) ?_;refine ax ?_;refine bC (aF ?_ (congrArg D.bool ?_));all_goals (have hq:=hok;first|(rw[hq];done)|(simp only[tH,hq,Bool.false_eq_true,if_false,if_true];rfl))
def J5 (Γ:Ctx):Prop:=∀(l:List ai),Γ.pre 1008 [.sl 1 (l.map D.str)]∧Γ.val 1008 [.sl 1 (l.map D.str)]=.tup [b7.D (tH l),.bool (dL l)]
end Go.Abs
end
section
namespace Go.Abs
open Go
def CP:aB:=⟨1,15,[⟨1,some (7,true)⟩,⟨2,none⟩],[[.a,.a,.a,.a,.a,.a,.a],[.a]],(sq (rg [gb 7 (.c (.agg [.int .i64 0,.int .i64 0,.int .i64 0,.int .i64 0,.int .i64 0,.str [],.str []])),gm bh] [(1,0),(2,1)]) (sq (rg [gm s0,gx 1006 [l0] bO,gm l1,ge l2 0,ge l2 1,gm l3,gm l4] [(5,5),(3,6)]) (sq (rg [gm s3,gx 1007 [l0] bO,gm l1,ge l2 0,ge l2 1,gm l3,gm l4] [(4,5),(10,6)]) (sq (r1 [gm s4,gx 470 [l0,(i8 46)] gQ,gm l1] 7 2) (sq (sq (r1 [gm s5,aG l0 EM] 6 1) (.cond s6 (r1 [gm s7,gm s7,gl l1,dP l2 bR,gn (.slA 1 l0 none (some l3)),gm l4] 7 5) .skip)) (sq (rg [gm s7,gx 1008 [l0] [[.sl 1 [.a]]],gm l1,ge l2 0,ge l2 1,gb 5 (.c (.agg [.int .i64 0,.int .i64 0,.int .i64 0,.str [],.str []])),gt 5 l5 l3,gm l4] [(11,5),(8,7)]) (sq (sq (r1 [gm s8,ix l0] 9 1) (.cond s9 (sq (r1 [gn (.build [.int .i64 0,.int .i64 0,.int .i64 0,.int .i64 0,.int .i64 0,.str [],.str []] []),gt 7 s1 l0,gm tY] 2 2) .ret) .skip)) (sq (rg [gm jx,gf 3 mc,gt 1 l1 l0] []) (sq (r1 [gm s5,gm s7,gl l1,gk 5 true mc,gn (.build [.int .i64 0,.int .i64 0,.int .i64 0,.int .i64 0,.int .i64 0,.str [],.str []] [(0,1,l0),(1,1,l2),(2,5,l3)]),gb 7 (.c (.agg [.int .i64 0,.int .i64 0,.int .i64 0,.int .i64 0,.int .i64 0,.str [],.str []])),gt 7 l5 l4] 12 5) (sq (sq (r1 [gk 7 true lY,gx 482 [l0] Jg,gm l1] 13 2) (sq (r1 [gm pP,aG l0 cse,gm l1,dH 2 pP,dH 2 s0,bT 2 (dC l3 l4),dH 2 l5,gmt 6 pP,gmt 6 s0,bZ 6 (Ko (cs [94]) l8),bZ 6 (dC l7 l9),yP 2 l6 l10,ea l2 fI] 14 12) (.cond tn (sq (r1 [gn (.build [.int .i64 0,.int .i64 0,.int .i64 0,.int .i64 0,.int .i64 0,.str [],.str []] []),gt 7 s1 l0,gm tY] 2 2) .ret) .skip))) (sq (r1 [gk 7 true lY,gt 7 s1 l0,gm bh] 2 2) .ret)))))))))))⟩
def w897 {Γ:Ctx}(hm:(Γ.at 0).a8)(h470:uk Γ)(h482:K1 Γ)(h1006:J3 Γ)(h1007:J4 Γ)(h1008:J5 Γ)(s:ai)  (hp0:s.length≤1048576):dq Γ CP (.tup [cj.D ((dc s).getD cZ),.int .i64 (if(dc s).isSome=true then 0 else 6)]) [.str s]:=by
 show bz _ _ _ [⟨_,_⟩,_,_,_,_,_,_,_,_,_,_,_,_,_,_] _;have hsl:=vY s;generalize hO:eC s=O at hsl;have hpl:=vB O.2;generalize hA:fh O.2 0=A at hpl;have hln:=cn A.1 46;have hlp:1≤(ah A.1 46).length:=dR _ _ _;generalize hL:ah A.1 46=L at hln hlp;have hq0:dc s=if tg s O.1 (xU O.1 L) A.2=true then some (eF O.1 (xU O.1 L) A.2)else none:=by subst hO;subst hA;subst hL;rfl
 refine aj ?_;refine aJ ?_;refine ak (hc:=h1006 s) ?_;rw[hO];refine bB ?_;refine ak (hc:=h1007 O.2) ?_;rw[hA];refine bB ?_;refine ak (hc:=h470 A.1 46 (by omega)) ?_;rw[hL];refine aV ?_;refine aq (fun hc0=>?_) (fun hc0=>?_)
 ·simp only[decide_eq_true_eq]at hc0;have hq1:dc s=if tg s O.1 (L.take (L.length-1)) A.2=true then some (eF O.1 (L.take (L.length-1)) A.2)else none:=by rw[hq0];simp only[xU,if_pos hc0]
  refine ax ?_;intro u0;refine aC ?_;refine oK (L.length-1) (hj:=fun _=>by omega) (hb:=fun _=>by omega) ?_;refine ax ?_;refine ak (hc:=h1008 (L.take (L.length-1))) ?_;refine aC ?_;refine dU (b7.D _) ?_;refine ar ?_;refine aL (b7.D (tH (L.take (L.length-1)))) (he:=by exact rfl) ?_;refine aV ?_;refine aq (fun hc1=>?_) (fun hc1=>?_)
  ·simp only[Bool.not_eq_true']at hc1;refine ar ?_;refine aW (cj.D cZ) ?_;refine ax ?_;refine bC (aF ?_ (congrArg (D.int .i64) ?_));all_goals (have hk:tg s O.1 (L.take (L.length-1)) A.2=false:=(by simp only[tg,hc1];rfl);rw[hq1,hk];rfl)
  simp only[Bool.not_eq_false']at hc1;have hnr:tH (L.take (L.length-1))=G8 (L.take (L.length-1)):=by simp only[tH,hc1,if_true]
  rw[hnr];have hsm:(eF O.1 (L.take (L.length-1)) A.2).v.sm:=⟨by show A.2.length≤_;omega,by show([]:ai).length≤_;simp⟩;refine ax ?_;refine aL (b7.D (eF O.1 (L.take (L.length-1)) A.2).v) (he:=by exact rfl) ?_;refine aJ ?_;intro u1;refine cG (d:=b7.D (eF O.1 (L.take (L.length-1)) A.2).v) ?_;refine aW (cj.D (eF O.1 (L.take (L.length-1)) A.2)) ?_;refine aC ?_;refine aL (cj.D (eF O.1 (L.take (L.length-1)) A.2)) (he:=by exact rfl) ?_;refine av ?_;refine cG (d:=cj.D (eF O.1 (L.take (L.length-1)) A.2)) ?_;refine ak (hc:=h482 (eF O.1 (L.take (L.length-1)) A.2) hsm) ?_;refine kv ?_;refine cO (hb:=fun _=>by simp;omega) ?_;refine ax ?_;refine aq (fun hc2=>?_) (fun hc2=>?_)
  ·have hk:tg s O.1 (L.take (L.length-1)) A.2=false:=by simp only[tg,hc1,Bool.true_and];exact congrArg (!·) hc2
   refine ar ?_;refine aW (cj.D cZ) ?_;refine ax ?_;refine bC (aF ?_ (congrArg (D.int .i64) ?_));all_goals (rw[hq1,hk];rfl)
  have hk:tg s O.1 (L.take (L.length-1)) A.2=true:=by simp only[tg,hc1,Bool.true_and];exact congrArg (!·) hc2
  refine ar ?_;refine cG (d:=cj.D (eF O.1 (L.take (L.length-1)) A.2)) ?_;refine ax ?_;refine bC (aF ?_ (congrArg (D.int .i64) ?_));all_goals (rw[hq1,hk];rfl)
 simp only[decide_eq_false_iff_not]at hc0;have hq1:dc s=if tg s O.1 L A.2=true then some (eF O.1 L A.2)else none:=by rw[hq0];simp only[xU,if_neg hc0]
 refine av ?_;refine ak (hc:=h1008 L) ?_;refine aC ?_;refine dU (b7.D _) ?_;refine ar ?_;refine aL (b7.D (tH L)) (he:=by exact rfl) ?_;refine aV ?_;refine aq (fun hc1=>?_) (fun hc1=>?_)
 ·simp only[Bool.not_eq_true']at hc1;refine ar ?_;refine aW (cj.D cZ) ?_;refine ax ?_;refine bC (aF ?_ (congrArg (D.int .i64) ?_));all_goals (have hk:tg s O.1 L A.2=false:=(by simp only[tg,hc1];rfl);rw[hq1,hk];rfl)
 simp only[Bool.not_eq_false']at hc1;have hnr:tH L=G8 L:=by simp only[tH,hc1,if_true]
 rw[hnr];have hsm:(eF O.1 L A.2).v.sm:=⟨by show A.2.length≤_;omega,by show([]:ai).length≤_;simp⟩;refine ax ?_;refine aL (b7.D (eF O.1 L A.2).v) (he:=by exact rfl) ?_;refine aJ ?_;intro u1;refine cG (d:=b7.D (eF O.1 L A.2).v) ?_;refine aW (cj.D (eF O.1 L A.2)) ?_;refine aC ?_;refine aL (cj.D (eF O.1 L A.2)) (he:=by exact rfl) ?_;refine av ?_;refine cG (d:=cj.D (eF O.1 L A.2)) ?_;refine ak (hc:=h482 (eF O.1 L A.2) hsm) ?_;refine kv ?_;refine cO (hb:=fun _=>by simp;omega) ?_;refine ax ?_;refine aq (fun hc2=>?_) (fun hc2=>?_)
 ·have hk:tg s O.1 L A.2=false:=by simp only[tg,hc1,Bool.true_and];exact congrArg (!·) hc2
  refine ar ?_;refine aW (cj.D cZ) ?_;refine ax ?_;refine bC (aF ?_ (congrArg (D.int .i64) ?_));all_goals (rw[hq1,hk];rfl)
 have hk:tg s O.1 L A.2=true:=by simp only[tg,hc1,Bool.true_and];exact congrArg (!·) hc2
 refine ar ?_;refine cG (d:=cj.D (eF O.1 L A.2)) ?_;refine ax ?_;refine bC (aF ?_ (congrArg (D.int .i64) ?_));all_goals (rw[hq1,hk];rfl)
def Ou (Γ:Ctx):Prop:=∀(s:ai),(s.length≤1048576)→Γ.pre 897 [.str s]∧Γ.val 897 [.str s]=.tup [cj.D ((dc s).getD cZ),.int .i64 (if(dc s).isSome=true then 0 else 6)]
end Go.Abs
end
section
namespace Go.Abs
open Go
def Ey:aB:=⟨1,33,[⟨1,some (7,true)⟩,⟨2,none⟩],[[.a,.a,.a,.a,.a,.a,.a],[.a]],(sq (rg [gb 7 (.c (.agg [.int .i64 0,.int .i64 0,.int .i64 0,.int .i64 0,.int .i64 0,.str [],.str []])),gm ct] [(1,0),(2,1)]) (sq (r1 [gn (.build [.int .i64 0,.int .i64 0,.int .i64 0,.int .i64 0,.int .i64 0,.str [],.str []] [(0,1,EM)]),gb 7 (.c (.agg [.int .i64 0,.int .i64 0,.int .i64 0,.int .i64 0,.int .i64 0,.str [],.str []])),gt 7 l1 l0] 9 1) (sq (r1 [gm s0,gm l0] 10 1) (sq (sq (rg [gn (.bsl 1 (.int .i64 0) 8 [(0,jF),(1,tA),(2,tY),(3,bR),(4,jG),(5,B4),(6,FJ),(7,B5)]),gl l0,gm bh] [(6,0),(4,1),(3,2)]) (.block 0 (.loop (sq (r1 [aN s3 s4] 5 0) (sq (eN s5 0) (sq (.block 1 (sq (r1 [ga 1 s6 s3,gd l0,gm l1] 7 2) (sq (r1 [gm s0,gm s7,gx 957 [l1] bO,gx 956 [l0,l2] gQ] 8 3) (.cond s8 (sq (rg [gm s7,gf 0 s9,gt 1 l1 l0] []) (sq (r1 [gm s0,gm s7,gx 957 [l1] bO,m9 l2,gn (.slS l0 (some l3) none),gm l4] 10 5) (.exit 0))) .skip)))) (r1 [au s3 bR,gm l0] 3 1))))))) (sq (sq (rg [gm jx,m9 l0,gm bh] [(12,1),(11,2)]) (.block 2 (.loop (sq (r1 [aN mc lY] 13 0) (sq (eN pP 2) (sq (.block 3 (sq (r1 [gm mc,gm l0] 14 1) (sq (r1 [gm jx,gm tn,Dv l0 l1,aG l2 (i8 45)] 15 3) (.cond vW (sq (rg [gm jx,gm tn,au l1 bR,gn (.slS l0 (some l2) none),gf 2 s9,gf 3 l4,gt 1 l5 l3] []) (sq (r1 [gm jx,gm tn,gn (.slS l0 none (some l1)),gm l2] 10 3) (.exit 2))) .skip)))) (r1 [au mc bR,gm l0] 11 1))))))) (sq (r1 [gm jx,gx 533 [l0,(i8 46)] gQ,gm l1] 17 2) (sq (sq (r1 [gf 0 s9,gd l0,aG l1 EM] 16 2) (.cond BF (sq (sq (r1 [gm Bc,gm Bc,gl l1,dP l2 bR,ga 1 l0 l3,gd l4,bN l5 (cs [42])] 18 6) (.cond Fq (sq (r1 [gn (.build [.int .i64 0,.int .i64 0,.int .i64 0,.int .i64 0,.int .i64 0,.str [],.str []] []),gt 7 s1 l0,gm ct] 2 2) .ret) .skip)) (r1 [gm Bc,gm Bc,gl l1,dP l2 bR,gn (.slA 1 l0 none (some l3)),gm l4] 17 5)) .skip)) (sq (sq (r1 [gm Bc,gl l0,cB l1 jG] 19 2) (.cond MH (sq (r1 [gn (.build [.int .i64 0,.int .i64 0,.int .i64 0,.int .i64 0,.int .i64 0,.str [],.str []] []),gt 7 s1 l0,gm ct] 2 2) .ret) .skip)) (sq (rg [gm Bc,gl l0,gf 1 s9,gt 1 l2 l1] []) (sq (sq (rg [gm Bc,gl l0,gm bh] [(23,0),(21,1),(20,2)]) (.block 4 (.loop (sq (r1 [aN Is s21] 22 0) (sq (eN s22 4) (sq (.block 5 (sq (rg [gm Is,ga 1 s23 Is,gd l1,gm l0,gm l2] [(27,3),(24,4)]) (sq (rg [gm MZ,gx 658 [l0] bO,gm l1,ge l2 0,ge l2 1,gm l3,gm l4] [(30,5),(25,6)]) (sq (sq (r1 [gm M0,ix l0] 26 1) (.cond Qk (sq (r1 [gn (.build [.int .i64 0,.int .i64 0,.int .i64 0,.int .i64 0,.int .i64 0,.str [],.str []] []),gt 7 s1 l0,gm ct] 2 2) .ret) .skip)) (sq (r1 [gm s27] 28 0) (.block 6 (sq (r1 [aG s28 bh,gm l0] 29 1) (.cond s29 (rg [gm KD,gf 2 s9,gf 0 l1,gt 1 l2 l0] []) (sq (r1 [aG s28 bR,gm l0] 31 1) (.cond s31 (rg [gm KD,gf 2 s9,gf 1 l1,gt 1 l2 l0] []) (rg [gm KD,gf 2 s9,gf 2 l1,gt 1 l2 l0] []))))))))))) (r1 [au Is bR,gm l0] 20 1))))))) (sq (sq (r1 [gk 7 true s9,gx 827 [l0] Jg,ix l1,gm l2,bT 3 (.ld 7 true s9),bT 3 (.call 828 [l4] Jg),dH 3 s0,bT 3 (dC l5 l6),ea l3 l7] 32 8) (.cond s32 (sq (r1 [gn (.build [.int .i64 0,.int .i64 0,.int .i64 0,.int .i64 0,.int .i64 0,.str [],.str []] []),gt 7 s1 l0,gm ct] 2 2) .ret) .skip)) (sq (r1 [gk 7 true s9,gt 7 s1 l0,gm me] 2 2) .ret))))))))))))⟩
def w819 {Γ:Ctx}(hm:(Γ.at 0).a8)(h533:F0 Γ)(h658:IC Γ)(h827:IF Γ)(h828:Lj Γ)(h956:Oz Γ)(h957:Lq Γ)(s:ai)  (hp0:s.length≤1048576):dq Γ Ey (.tup [cj.D ((eQ s).getD cZ),.bool (eQ s).isSome]) [.str s]:=by
 show bz _ _ _ (⟨true,.str s⟩::.un::.un::.un::.un::.un::.un::.un::.un::.un::.un::.un::.un::.un::.un::.un::.un::.un::.un::.un::.un::.un::.un::.un::.un::.un::.un::.un::.un::.un::.un::.un::.un::[]) ⟨0,[]⟩;have hol:=E8 s;refine aj ?_;refine ax ?_;refine aW (cj.D ⟨9,0,dY⟩) ?_;refine aC ?_;refine aL (cj.D ⟨9,0,dY⟩) (he:=by exact rfl) ?_;refine aV ?_;refine cx [(.int _ _),(.int _ _),(.int _ _),(.int _ _),(.int _ _),(.int _ _),(.int _ _),(.int _ _)] ?_;refine aC ?_;intro u0;refine ar ?_;refine zG hm (ι:=Unit) (fun _=>(⟨true,.str s⟩::⟨true,.ptr 0 7 0 0⟩::.un::.un::.un::.un::.un::.un::.un::⟨true,.ptr 3 7 0 0⟩::⟨true,.str (cC s).2⟩::.un::.un::.un::.un::.un::.un::.un::.un::.un::.un::.un::.un::.un::.un::.un::.un::.un::.un::.un::.un::.un::.un::[])) (fun _=>[(0,.buf 7 [cj.D cZ]),(3,.buf 7 [cj.D ⟨(cC s).1,0,dY⟩])]) 40 (fun _=>True) ?_ ?_
 ·refine eu 7 ?_;refine nI hm (ι:=Nat) (fun i=>(⟨true,.str s⟩::⟨true,.ptr 0 7 0 0⟩::.un::⟨true,.int .i64 (i:Nat)⟩::⟨true,.int .i64 8⟩::.un::⟨true,.sl 1 (opsL.map (D.int .i64))⟩::.un::.un::⟨true,.ptr 3 7 0 0⟩::⟨true,.str s⟩::.un::.un::.un::.un::.un::.un::.un::.un::.un::.un::.un::.un::.un::.un::.un::.un::.un::.un::.un::.un::.un::.un::[])) (fun i=>[(0,.buf 7 [cj.D cZ]),(3,.buf 7 [cj.D ⟨9,0,dY⟩])]) 10 (fun i=>i≤8∧nC s 0=nC s i) (fun i=>8-i) 0 ⟨by omega,rfl⟩ (cS [(0,0),(3,3)]) ?_;rintro i ⟨hi,hr⟩;have hn8:opsL.length=8:=rfl;refine av ?_;refine cd (fun hc0=>?_) fun hc0=>?_
  ·refine gF ?_;refine ak (hc:=h957 opsL[i]!) ?_;refine ak (hc:=h956 s (cv opsL[i]!)) ?_;refine aC ?_;refine wp_cond (fun hc1=>?_) (fun hc1=>?_)
   ·have hbl:(cv opsL[i]!).length≤s.length:=by simp only[nQ,Bool.and_eq_true,decide_eq_true_eq]at hc1;exact hc1.1
    have hro:cC s=(opsL[i]!,s.drop (cv opsL[i]!).length):=by simp only[cC,hr,DX (show i<8 by omega) hc1]
    refine av ?_;refine aL (cj.D ⟨opsL[i]!,0,dY⟩) (he:=by exact rfl) ?_;refine ax ?_;refine ak (hc:=h957 opsL[i]!) ?_;refine aC ?_;intro u1;refine dV (cv opsL[i]!).length (hb:=fun _=>hbl) ?_;refine aA ?_;simp only[hro];exact⟨(),trivial,(cS [(0,0),(3,3)])⟩
   skip
   refine aV ?_;exact⟨i+1,⟨by omega,by rw[hr,DY (by omega) hc1]⟩,by omega,(cS [(0,0),(3,3)])⟩
  refine av ?_;have hro:cC s=(9,s):=by simp only[cC,hr,vu (show 8≤i by omega)]
  simp only[hro];exact⟨(),trivial,(cS [(0,0),(3,3)])⟩
 ·rintro _-
  refine ax ?_;intro u2;refine ar ?_;refine zG hm (ι:=Unit) (fun _=>(⟨true,.str s⟩::⟨true,.ptr 0 7 0 0⟩::.un::.un::.un::.un::.un::.un::.un::⟨true,.ptr 3 7 0 0⟩::⟨true,.str (dI s).1⟩::.un::.un::.un::.un::.un::.un::.un::.un::.un::.un::.un::.un::.un::.un::.un::.un::.un::.un::.un::.un::.un::.un::[])) (fun _=>[(0,.buf 7 [cj.D cZ]),(3,.buf 7 [cj.D ⟨(cC s).1,0,{dY with pre:=(dI s).2}⟩])]) 60 (fun _=>True) ?_ ?_
  ·refine nI hm (ι:=Nat) (fun i=>(⟨true,.str s⟩::⟨true,.ptr 0 7 0 0⟩::.un::.un::.un::.un::.un::.un::.un::⟨true,.ptr 3 7 0 0⟩::⟨true,.str (cC s).2⟩::⟨true,.int .i64 (i:Nat)⟩::⟨true,.int .i64 ((cC s).2.length:Nat)⟩::.un::.un::.un::.un::.un::.un::.un::.un::.un::.un::.un::.un::.un::.un::.un::.un::.un::.un::.un::.un::[])) (fun i=>[(0,.buf 7 [cj.D cZ]),(3,.buf 7 [cj.D ⟨(cC s).1,0,dY⟩])]) 43 (fun i=>i≤(cC s).2.length∧dI s=fh (cC s).2 i) (fun i=>(cC s).2.length-i) 0 ⟨by omega,rfl⟩ (cS [(0,0),(3,3)]) ?_;rintro i ⟨hi,hr⟩;refine av ?_;refine cd (fun hc2=>?_) fun hc2=>?_
   ·refine gZ ?_;refine wp_cond (fun hc3=>?_) (fun hc3=>?_)
    ·simp only[decide_eq_true_eq]at hc3;have hpr:dI s=((cC s).2.take i,(cC s).2.drop (i+1)):=by rw[hr,D0 (by omega) hc3]
     refine ax ?_;refine dV (i+1) ?_;refine ar ?_;refine aL (cj.D ⟨(cC s).1,0,{dY with pre:=(cC s).2.drop (i+1)}⟩) (he:=by exact rfl) ?_;refine ax ?_;refine ko _ ?_;refine aA ?_;simp only[hpr];exact⟨(),trivial,(cS [(0,0),(3,3)])⟩
    try simp only[gJ]at hc3
    refine aV ?_;exact⟨i+1,⟨by omega,by rw[hr,D1 (by omega) hc3]⟩,by omega,(cS [(0,0),(3,3)])⟩
   refine av ?_;have hpr:dI s=((cC s).2,[]):=by rw[hr,AJ (by omega)]
   simp only[hpr];exact⟨(),trivial,(cS [(0,0),(3,3)])⟩
  ·rintro _-
   have hpl:(dI s).1.length≤s.length∧(dI s).2.length≤s.length:=by
    have:=vB (cC s).2;exact⟨by show(fh _ 0).1.length≤_;omega,by show(fh _ 0).2.length≤_;omega⟩
   have hlp:1≤(ah (dI s).1 46).length:=dR _ _ _;have hln:=cn (dI s).1 46;refine ar ?_;refine ak (hc:=h533 (dI s).1 46 (by omega)) ?_;refine bB ?_;refine zG hm (ι:=Unit) (fun _=>(⟨true,.str s⟩::⟨true,.ptr 0 7 0 0⟩::.un::.un::.un::.un::.un::.un::.un::⟨true,.ptr 3 7 0 0⟩::.un::.un::.un::.un::.un::.un::.un::⟨true,.sl 1 ((dp s).map D.str)⟩::.un::.un::.un::.un::.un::.un::.un::.un::.un::.un::.un::.un::.un::.un::.un::[])) (fun _=>[(0,.buf 7 [cj.D cZ]),(3,.buf 7 [cj.D ⟨(cC s).1,0,{dY with pre:=(dI s).2}⟩])]) 80 (fun _=>ma s) ?_ ?_
   ·refine wp_cond (fun hc4=>?_) (fun hc4=>?_)
    ·try simp only[gJ]at hc4
     refine aJ ?_;intro u3;refine aC ?_;refine bJ ((ah (dI s).1 46).length-1) (hj:=fun _=>by omega) (hb:=fun _=>by omega) ?_;refine av ?_;refine aq (fun hc5=>?_) (fun hc5=>?_)
     ·simp only[Bool.not_eq_true',decide_eq_false_iff_not]at hc5;have hno:=ja (s:=s) (fun h=>hc5 (h.1 hc4));refine ar ?_;refine aW (cj.D cZ) ?_;refine aJ ?_;refine bC (aF ?_ (congrArg D.bool ?_));all_goals (rw[hno];rfl)
     simp only[Bool.not_eq_false',decide_eq_true_eq]at hc5;have hst:ma s:=fun _=>hc5
     have hrl:dp s=(ah (dI s).1 46).take ((ah (dI s).1 46).length-1):=if_pos hc4;refine aJ ?_;intro u4;refine aC ?_;refine oK ((ah (dI s).1 46).length-1) (hj:=fun _=>by omega) (hb:=fun _=>by omega) ?_;refine av ?_;simp only[hrl];exact⟨(),hst,(cS [(0,0),(3,3)])⟩
    simp only[decide_eq_false_iff_not]at hc4;have hst:ma s:=fun h=>absurd h hc4
    have hrl:dp s=(ah (dI s).1 46):=if_neg hc4;refine ar ?_;simp only[hrl];exact⟨(),hst,(cS [(0,0),(3,3)])⟩
   ·rintro _ hst;refine ax ?_;intro u5;refine ar ?_;refine aq (fun hc6=>?_) (fun hc6=>?_)
    ·simp only[decide_eq_true_eq]at hc6;have hno:=ja (s:=s) (fun h=>by have:=h.2.1;simp only[dL,Bool.and_eq_true,decide_eq_true_eq]at this;omega);refine ar ?_;refine aW (cj.D cZ) ?_;refine ax ?_;refine bC (aF ?_ (congrArg D.bool ?_));all_goals (rw[hno];rfl)
    try simp only[gJ]at hc6
    refine ax ?_;intro u6;refine aC ?_;refine aL (cj.D ⟨(cC s).1,((dp s).length:Nat),{dY with pre:=(dI s).2}⟩) (he:=by exact rfl) ?_;refine aJ ?_;intro u7;refine ar ?_;have hb:dL (dp s)=b8 (fun i=>dQ (dp s)[i]!) 0 (dp s).length:=by simp only[dL];rw[decide_eq_true (by omega)];rfl
    refine aY hm (ι:=Nat) (fun i=>(⟨true,.str s⟩::⟨true,.ptr 0 7 0 0⟩::.un::.un::.un::.un::.un::.un::.un::⟨true,.ptr 3 7 0 0⟩::.un::.un::.un::.un::.un::.un::.un::.un::.un::.un::⟨true,.int .i64 (i:Nat)⟩::⟨true,.int .i64 ((dp s).length:Nat)⟩::.un::⟨true,.sl 1 ((dp s).map D.str)⟩::.un::.un::.un::.un::.un::.un::.un::.un::.un::[])) (fun i=>[(0,.buf 7 [cj.D cZ]),(3,.buf 7 [cj.D ⟨(cC s).1,((dp s).length:Nat),{DW (dp s) i with pre:=(dI s).2}⟩])]) 90 (fun i=>i≤(dp s).length∧dL (dp s)=b8 (fun i=>dQ (dp s)[i]!) i (dp s).length) (fun i=>(dp s).length-i) 0 ⟨by omega,hb⟩ (cS [(0,0),(3,3)]) ?_;rintro i ⟨hi,hr⟩;refine av ?_;refine cd (fun hc7=>?_) fun hc7=>?_
    ·refine fM ?_;refine ak (hc:=h658 (dp s)[i]!) ?_;refine fM ?_;refine aq (fun hc8=>?_) (fun hc8=>?_)
     ·simp only[Bool.not_eq_true']at hc8;have hno:=ja (s:=s) (fun h=>by have:=h.2.1;rw[hr,aH (by omega),hc8]at this;cases this);refine ar ?_;refine aW (cj.D cZ) ?_;refine aA ?_;refine bC (aF ?_ (congrArg D.bool ?_));all_goals (rw[hno];rfl)
     simp only[Bool.not_eq_false']at hc8;refine cR ?_;refine wp_cond (fun hc9=>?_) (fun hc9=>?_)
     ·simp only[decide_eq_true_eq]at hc9;have hi0:i=0:=by omega
      refine ax ?_;refine aL (cj.D ⟨(cC s).1,((dp s).length:Nat),{DW (dp s) (i+1)with pre:=(dI s).2}⟩) (he:=by subst hi0;exact rfl) ?_;refine bB ?_;exact⟨i+1,⟨by omega,by rw[hr,aH (by omega),hc8];rfl⟩,by omega,(cS [(0,0),(3,3)])⟩
     try simp only[gJ]at hc9
     refine ax ?_;refine wp_cond (fun hc10=>?_) (fun hc10=>?_)
     ·simp only[decide_eq_true_eq]at hc10;have hi0:i=1:=by omega
      refine ax ?_;refine aL (cj.D ⟨(cC s).1,((dp s).length:Nat),{DW (dp s) (i+1)with pre:=(dI s).2}⟩) (he:=by subst hi0;exact rfl) ?_;refine bB ?_;exact⟨i+1,⟨by omega,by rw[hr,aH (by omega),hc8];rfl⟩,by omega,(cS [(0,0),(3,3)])⟩
     simp only[decide_eq_false_iff_not]at hc10;have hi0:i=2:=by omega
     refine ax ?_;refine aL (cj.D ⟨(cC s).1,((dp s).length:Nat),{DW (dp s) (i+1)with pre:=(dI s).2}⟩) (he:=by subst hi0;exact rfl) ?_;refine bB ?_;exact⟨i+1,⟨by omega,by rw[hr,aH (by omega),hc8];rfl⟩,by omega,(cS [(0,0),(3,3)])⟩
    refine ax ?_;obtain rfl:i=(dp s).length:=by omega
    have hok:dL (dp s)=true:=by rw[hr,bE (by omega)]
    have hsm:(dD s).v.sm:=⟨by show(dI s).2.length≤_;omega,by show([]:ai).length≤_;simp⟩;refine cG (d:=cj.D (dD s)) ?_;refine ak (hc:=h827 (dD s) hsm) ?_;refine ar ?_;refine cG (d:=cj.D (dD s)) ?_;refine fB (hc:=fun _=>h828 (dD s) hsm) ?_;refine ax ?_;refine aq (fun hc11=>?_) (fun hc11=>?_)
    ·simp only[Bool.or_eq_true,Bool.not_eq_true',decide_eq_false_iff_not]at hc11;have hno:=ja (s:=s) (fun h=>by rcases hc11 with h1|h1;rw[h.2.2.1]at h1;cases h1;exact h1 h.2.2.2);refine ar ?_;refine aW (cj.D cZ) ?_;refine ax ?_;refine bC (aF ?_ (congrArg D.bool ?_));all_goals (rw[hno];rfl)
    simp only[Bool.or_eq_false_iff,Bool.not_eq_false',decide_eq_true_eq]at hc11;have hyes:eQ s=some (dD s):=by unfold eQ;rw[if_pos ⟨hst,hok,hc11⟩]
    refine ar ?_;refine cG (d:=cj.D (dD s)) ?_;refine ax ?_;refine bC (aF ?_ (congrArg D.bool ?_));all_goals (rw[hyes];rfl)
def Oo (Γ:Ctx):Prop:=∀(s:ai),(s.length≤1048576)→Γ.pre 819 [.str s]∧Γ.val 819 [.str s]=.tup [cj.D ((eQ s).getD cZ),.bool (eQ s).isSome]
end Go.Abs
end
section
namespace Go.Abs
open Go
def BV:aB:=⟨1,9,[⟨1,some (7,true)⟩,⟨2,none⟩],[[.a,.a,.a,.a,.a,.a,.a],[.a]],(sq (rg [gb 7 (.c (.agg [.int .i64 0,.int .i64 0,.int .i64 0,.int .i64 0,.int .i64 0,.str [],.str []])),gm bh] [(1,0),(2,1)]) (sq (sq (rg [gm s0,gx 819 [l0] bO,gm l1,ge l2 0,ge l2 1,gb 7 (.c (.agg [.int .i64 0,.int .i64 0,.int .i64 0,.int .i64 0,.int .i64 0,.str [],.str []])),gt 7 l5 l3,gm l4] [(5,5),(3,7)]) (sq (r1 [gm s3] 4 0) (.cond s4 (sq (r1 [gk 7 true s5,gt 7 s1 l0,gm bh] 2 2) .ret) .skip))) (sq (sq (rg [gm s0,au (cs [94]) l0,gx 819 [l1] bO,gm l2,ge l3 0,ge l3 1,gb 7 (.c (.agg [.int .i64 0,.int .i64 0,.int .i64 0,.int .i64 0,.int .i64 0,.str [],.str []])),gt 7 l6 l4,gm l5] [(8,6),(6,8)]) (sq (r1 [gm s6] 7 0) (.cond s7 (sq (r1 [gk 7 true s8,gt 7 s1 l0,gm bh] 2 2) .ret) .skip))) (sq (r1 [gn (.build [.int .i64 0,.int .i64 0,.int .i64 0,.int .i64 0,.int .i64 0,.str [],.str []] []),gt 7 s1 l0,gm tY] 2 2) .ret))))⟩
def w682 {Γ:Ctx}(hm:(Γ.at 0).a8)(h819:Oo Γ)(s:ai)  (hp0:s.length≤1048575):dq Γ BV (.tup [cj.D ((jq s).getD cZ),.int .i64 (if(jq s).isSome=true then 0 else 6)]) [.str s]:=by
 show bz _ _ _ [⟨_,_⟩,_,_,_,_,_,_,_,_] _;refine aj ?_;refine aA ?_;refine ak (hc:=h819 s (by omega)) ?_;refine aC ?_;refine dU (cj.D _) ?_;refine ar ?_;refine aL (cj.D ((eQ s).getD cZ)) (he:=by exact rfl) ?_;refine aA ?_;refine cd (fun hc0=>?_) fun hc0=>?_
 ·refine ar ?_;refine cG (d:=cj.D ((eQ s).getD cZ)) ?_;refine ax ?_;refine bC (aF ?_ (congrArg (D.int .i64) ?_));all_goals (have hn:jq s=eQ s:=if_pos hc0;rw[hn];first|rfl|simp only[hc0,if_true])
 refine ax ?_;refine cO (hb:=fun _=>by simp;omega) ?_;refine ak (hc:=h819 (94::s) (by simp;omega)) ?_;refine aC ?_;refine dU (cj.D _) ?_;refine ar ?_;refine aL (cj.D ((eQ (94::s)).getD cZ)) (he:=by exact rfl) ?_;refine aA ?_;refine cd (fun hc1=>?_) fun hc1=>?_
 ·refine ar ?_;refine cG (d:=cj.D ((eQ (94::s)).getD cZ)) ?_;refine ax ?_;refine bC (aF ?_ (congrArg (D.int .i64) ?_));all_goals (have hn:jq s=eQ (94::s):=(by simp only[jq,hc0,Bool.false_eq_true,if_false]);rw[hn];first|rfl|simp only[hc1,if_true])
 refine ar ?_;refine aW (cj.D cZ) ?_;refine ax ?_;refine bC (aF ?_ (congrArg (D.int .i64) ?_));all_goals (have hn:jq s=none:=(by simp only[jq,hc0,Bool.false_eq_true,if_false];exact Option.not_isSome_iff_eq_none.1 (by rw[hc1];simp));rw[hn];rfl)
def N9 (Γ:Ctx):Prop:=∀(s:ai),(s.length≤1048575)→Γ.pre 682 [.str s]∧Γ.val 682 [.str s]=.tup [cj.D ((jq s).getD cZ),.int .i64 (if(jq s).isSome=true then 0 else 6)]
end Go.Abs
end
section
namespace Go.Abs
open Go
def HU:aB:=⟨1,10,gG,bO,(sq (rg [gb 1 s0,gm ct] [(2,0),(1,1)]) (sq (sq (r1 [gf 0 s2,gd l0,gl l1,aN l2 bR,gm l3,hH 4 0 s2,hY 4 l5,bT 4 (.len l6),bT 4 (dz l7 tY),ea l4 l8] 3 9) (lA s3 ct)) (sq (sq (r1 [gm bh] 4 0) (.block 0 (.loop (sq (sq (r1 [gm s4,gf 0 s2,gd l1,gl l2,aN l0 l3] 5 4) (eN s5 0)) (sq (.block 1 (sq (sq (r1 [gf 0 s2,gd l0,gm s4,ga 1 l1 l2,gd l3,gl l4,aN l5 bR,gm l6,hH 7 0 s2,hY 7 l8,dH 7 s4,bT 7 (.ia 1 l9 l10),hY 7 fI,bT 7 (.len gV),bT 7 (dz iQ tY),ea l7 jt] 6 15) (lA s6 ct)) (sq (r1 [gm bh] 7 0) (.block 2 (.loop (sq (sq (r1 [gm s7,gf 0 s2,gd l1,gm s4,ga 1 l2 l3,gd l4,gl l5,aN l0 l6] 8 7) (eN s8 2)) (sq (.block 3 (sq (r1 [gf 0 s2,gd l0,gm s4,ga 1 l1 l2,gd l3,gm s7,ga 7 l4 l5,gk 7 true l6,gx 676 [l7] Jg,ix l8] 9 9) (lA s9 ct))) (r1 [gm s7,au l0 bR,gm l1] 7 2)))))))) (r1 [gm s4,au l0 bR,gm l1] 4 2)))))) (uO me))))⟩
def w899 {Γ:Ctx}(hm:(Γ.at 0).a8)(h676:Lb Γ)(r:pR)  (hp0:fU r):dq Γ HU (.bool (gN r)) [dy r]:=by
 show bz _ _ _ [⟨_,_⟩,_,_,_,_,_,_,_,_,_] _;refine aj ?_;refine bB ?_;intro u0;refine ax ?_;refine gT ?_;refine av ?_;refine cd (fun hc0=>?_) fun hc0=>?_
 ·refine aJ ?_;refine br ?_;symm;simp only[gN];rcases hc0 with h|h
  ·rw[decide_eq_false (by omega)];rfl
  ·rw[decide_eq_false (by omega:¬r.length≤6),Bool.and_false];rfl
 refine aJ ?_;have hb:gN r=b8 (fun i=>iS r[i]!) 0 r.length:=by simp only[gN];rw[decide_eq_true (by omega),decide_eq_true (by omega)];rfl
 refine aY hm (ι:=Nat) (fun i=>[.un,.un,⟨true,.ptr 0 1 0 0⟩,.un,⟨true,.int .i64 (i:Nat)⟩,.un,.un,.un,.un,.un]) (fun i=>[(0,.buf 1 [dy r])]) 13 (fun i=>i≤r.length∧gN r=b8 (fun i=>iS r[i]!) i r.length) (fun i=>r.length-i) 0 ⟨by omega,hb⟩ (cS [(0,0)]) ?_;rintro i ⟨hi,hr⟩;refine aA ?_;intro u1;refine ar ?_;refine cd (fun hc1=>?_) fun hc1=>?_
 ·refine gF ?_;intro u2;refine aV ?_;refine gT ?_;refine av ?_;refine cd (fun hc2=>?_) fun hc2=>?_
  ·refine aV ?_;refine br ?_;rw[hr,aH (by omega)];have:iS r[i]! =false:=by
    simp only[iS];rcases hc2 with h|h
    ·rw[decide_eq_false (by omega)];rfl
    ·rw[decide_eq_false (by omega:¬r[i]!.length≤6),Bool.and_false];rfl
   rw[this];rfl
  refine ax ?_;have hkb:iS r[i]! =b8 (fun k=>jC r[i]![k]!) 0 r[i]!.length:=by simp only[iS];rw[decide_eq_true (by omega),decide_eq_true (by omega)];rfl
  refine nI hm (ι:=Nat) (fun k=>[.un,.un,⟨true,.ptr 0 1 0 0⟩,.un,⟨true,.int .i64 (i:Nat)⟩,.un,.un,⟨true,.int .i64 (k:Nat)⟩,.un,.un]) (fun k=>[(0,.buf 1 [dy r])]) 35 (fun k=>k≤r[i]!.length∧iS r[i]! =b8 (fun k=>jC r[i]![k]!) k r[i]!.length) (fun k=>r[i]!.length-k) 0 ⟨by omega,hkb⟩ (cS [(0,0)]) ?_;rintro k ⟨hk,hkr⟩;refine cR ?_;intro u3;refine ar ?_;refine cd (fun hc3=>?_) fun hc3=>?_
  ·refine gF ?_;first|refine bD (v:=(cj.D _)) ?_|refine dM (v:=(cj.D _)) ?_
   refine ak (hc:=h676 r[i]![k]! (hp0 r[i]! (bA (by omega)) _ (bA (by omega))).sm) ?_;refine ar ?_;refine wp_cond (fun hc4=>?_) (fun hc4=>?_)
   ·simp only[Bool.not_eq_true']at hc4;refine bB ?_;refine br ?_;rw[hr,aH (by omega),hkr,aH (by omega),hc4];rfl
   simp only[Bool.not_eq_false']at hc4;refine bB ?_;exact⟨k+1,⟨by omega,by rw[hkr,aH (by omega),hc4];rfl⟩,by omega,(cS [(0,0)])⟩
  refine cR ?_;exact⟨i+1,⟨by omega,by rw[hr,aH (by omega),hkr,bE (by omega)];rfl⟩,by omega,(cS [(0,0)])⟩
 refine aA ?_;refine br ?_;rw[hr,bE (by omega)]
def Lk (Γ:Ctx):Prop:=∀(r:pR),(fU r)→Γ.pre 899 [dy r]∧Γ.val 899 [dy r]=.bool (gN r)
def Fm:aB:=⟨1,10,gG,bO,(sq (rg [gb 1 s0,gm cse] [(3,0),(1,1)]) (sq (r1 [gm cse] 6 0) (sq (sq (r1 [gm bh] 2 0) (.block 0 (.loop (sq (sq (r1 [gm s2,gf 0 s3,gd l1,gl l2,aN l0 l3] 4 4) (eN s4 0)) (sq (.block 1 (sq (sq (r1 [gm s2,cB l0 bh] 5 1) (.cond s5 (r1 [gm s6,au l0 (cs [32,124,124,32]),gm l1] 6 2) .skip)) (sq (r1 [gm bh] 7 0) (.block 2 (.loop (sq (sq (r1 [gm s7,gf 0 s3,gd l1,gm s2,ga 1 l2 l3,gd l4,gl l5,aN l0 l6] 8 7) (eN s8 2)) (sq (.block 3 (sq (sq (r1 [gm s7,cB l0 bh] 9 1) (.cond s9 (r1 [gm s6,au l0 (cs [44,32]),gm l1] 6 2) .skip)) (r1 [gm s6,gf 0 s3,gd l1,gm s2,ga 1 l2 l3,gd l4,gm s7,ga 7 l5 l6,gk 7 true l7,gx 482 [l8] Jg,au l0 l9,gm l10] 6 11))) (r1 [gm s7,au l0 bR,gm l1] 7 2)))))))) (r1 [gm s2,au l0 bR,gm l1] 2 2)))))) (sq (r1 [gm s6,gm l0] 1 1) .ret))))⟩
def w900 {Γ:Ctx}(hm:(Γ.at 0).a8)(h482:K1 Γ)(r:pR)  (hp0:gN r=true∧fU r):dq Γ Fm (.str (vT r)) [dy r]:=by
 show bz _ _ _ [⟨_,_⟩,_,_,_,_,_,_,_,_,_] _;have hlen:=HX hp0.1 hp0.2;have hjl:=fun i=>pr [32,124,124,32] (r.map hE) i
 have hrl:∀i,(aM [32,124,124,32] ((r.map hE).take i)).length≤40000:=fun i=>Nat.le_trans (hjl i) hlen
 have hpl:∀i,(pO [32,124,124,32] (r.map hE) i).length≤40004:=fun i=>by
  unfold pO;split
  ·have:=hrl i;simp only[List.length_append,List.length_cons,List.length_nil];omega
  ·simp
 refine aj ?_;refine gF ?_;refine aY hm (ι:=Nat) (fun i=>[.un,.un,⟨true,.int .i64 (i:Nat)⟩,⟨true,.ptr 0 1 0 0⟩,.un,.un,⟨true,.str (aM [32,124,124,32] ((r.map hE).take i))⟩,.un,.un,.un]) (fun i=>[(0,.buf 1 [dy r])]) 4 (fun i=>i≤r.length) (fun i=>r.length-i) 0 (by omega) (cS [(0,0)]) ?_;intro i hi;have hil:=hrl i;refine aA ?_;intro u0;refine ar ?_;refine cd (fun hc0=>?_) fun hc0=>?_
 ·refine aV ?_;refine zG hm (ι:=Unit) (fun _=>[.un,.un,⟨true,.int .i64 (i:Nat)⟩,⟨true,.ptr 0 1 0 0⟩,.un,.un,⟨true,.str (pO [32,124,124,32] (r.map hE) i)⟩,.un,.un,.un]) (fun _=>[(0,.buf 1 [dy r])]) 50 (fun _=>True) ?_ ?_
  ·refine fm (fun hc1=>?_) fun hc1=>?_
   ·refine ar ?_;refine cO (hb:=fun _=>by simp only[List.length_cons,List.length_nil];omega) ?_;refine av ?_;rw[show aM [32,124,124,32] ((r.map hE).take i)++[32,124,124,32]=pO [32,124,124,32] (r.map hE) i from(if_pos (by omega)).symm];exact⟨(),trivial,(cS [(0,0)])⟩
   refine ar ?_;rw[Hn [32,124,124,32] (r.map hE) (show ¬0<i by omega)];exact⟨(),trivial,(cS [(0,0)])⟩
  ·rintro _-
   have hpi:=hpl i;have hao:=rT (uI hp0.1 (show i<r.length by omega));have hcl:∀k,k<r[i]!.length→(cP r[i]![k]!).length≤1100:=fun k hk=>uE (hp0.2 r[i]! (bA (by omega)) _ (bA hk))
   have hal:=uq (hp0.2 r[i]! (bA (by omega))) hao.2;have hkl:∀k,(aM [44,32] ((r[i]!.map cP).take k)).length≤6612:=fun k=>Nat.le_trans (pr _ _ _) hal
   refine av ?_;rw[show pO [32,124,124,32] (r.map hE) i=pO [32,124,124,32] (r.map hE) i++aM [44,32] ((r[i]!.map cP).take 0)by simp[aM]];refine nI hm (ι:=Nat) (fun k=>[.un,.un,⟨true,.int .i64 (i:Nat)⟩,⟨true,.ptr 0 1 0 0⟩,.un,.un,⟨true,.str (pO [32,124,124,32] (r.map hE) i++aM [44,32] ((r[i]!.map cP).take k))⟩,⟨true,.int .i64 (k:Nat)⟩,.un,.un]) (fun k=>[(0,.buf 1 [dy r])]) 51 (fun k=>k≤r[i]!.length) (fun k=>r[i]!.length-k) 0 (by omega) (cS [(0,0)]) ?_;intro k hk;have hkk:=hkl k;refine cR ?_;intro u1;refine ar ?_;refine cd (fun hc2=>?_) fun hc2=>?_
   ·refine aV ?_;refine cd (fun hc3=>?_) fun hc3=>?_
    ·refine ar ?_;refine eM ?_;refine av ?_;have hjk:=sf [44,32] (r[i]!.map cP) k (by rw[List.length_map];omega);rw[yW cP r[i]! (show k<r[i]!.length by omega)]at hjk;refine bB ?_;first|refine bD (v:=(cj.D _)) ?_|refine dM (v:=(cj.D _)) ?_
     refine ak (hc:=h482 r[i]![k]! (hp0.2 r[i]! (bA (by omega)) _ (bA (by omega))).sm) ?_;refine cO (hb:=fun _=>by have:=hcl k (by omega);simp only[List.length_append,List.length_cons,List.length_nil];omega) ?_;refine cR ?_;rw[show pO [32,124,124,32] (r.map hE) i++aM [44,32] ((r[i]!.map cP).take k)++[44,32]++cP r[i]![k]! =pO [32,124,124,32] (r.map hE) i++aM [44,32] ((r[i]!.map cP).take (k+1))by rw[hjk,show pO [44,32] (r[i]!.map cP) k=aM [44,32] ((r[i]!.map cP).take k)++[44,32]from if_pos (by omega)];simp only[List.append_assoc]];exact⟨k+1,(by omega),by omega,(cS [(0,0)])⟩
    refine ar ?_;have hjk:=sf [44,32] (r[i]!.map cP) k (by rw[List.length_map];omega);rw[yW cP r[i]! (show k<r[i]!.length by omega)]at hjk;refine bB ?_;first|refine bD (v:=(cj.D _)) ?_|refine dM (v:=(cj.D _)) ?_
    refine ak (hc:=h482 r[i]![k]! (hp0.2 r[i]! (bA (by omega)) _ (bA (by omega))).sm) ?_;refine cO (hb:=fun _=>by have:=hcl k (by omega);simp only[List.length_append,List.length_cons,List.length_nil];omega) ?_;refine cR ?_;rw[show pO [32,124,124,32] (r.map hE) i++aM [44,32] ((r[i]!.map cP).take k)++cP r[i]![k]! =pO [32,124,124,32] (r.map hE) i++aM [44,32] ((r[i]!.map cP).take (k+1))by rw[hjk,Hn [44,32] (r[i]!.map cP) (show ¬0<k by omega)];simp only[List.append_assoc]];exact⟨k+1,(by omega),by omega,(cS [(0,0)])⟩
   refine cR ?_;obtain rfl:k=r[i]!.length:=by omega
   have hji:=sf [32,124,124,32] (r.map hE) i (by rw[List.length_map];omega);rw[yW hE r (show i<r.length by omega)]at hji;rw[show pO [32,124,124,32] (r.map hE) i++aM [44,32] ((r[i]!.map cP).take r[i]!.length)=aM [32,124,124,32] ((r.map hE).take (i+1))by rw[hji,List.take_of_length_le (by rw[List.length_map];exact Nat.le_refl _)];rfl];exact⟨i+1,(by omega),by omega,(cS [(0,0)])⟩
 refine aV ?_;refine ch ?_;rw[List.take_of_length_le (by simp;omega)];rfl
def IG (Γ:Ctx):Prop:=∀(r:pR),(gN r=true∧fU r)→Γ.pre 900 [dy r]∧Γ.val 900 [dy r]=.str (vT r)
def HT:aB:=⟨1,3,gG,bO,(sq (rg [gb 1 s0,gm ct] [(2,0),(1,1)]) (sq (r1 [gk 1 true s2,gx 899 [l0] [[.sl 1 [.sl 7 [.a,.a,.a,.a,.a,.a,.a]]]],gm l1,bZ 2 (.ld 1 true s2),bZ 2 (.call 900 [l3] [[.sl 1 [.sl 7 [.a,.a,.a,.a,.a,.a,.a]]]]),bZ 2 (.lenS l4),bZ 2 (mh l5 (i6 96)),dZ l2 l6,gm l7] 1 8) .ret))⟩
def w901 {Γ:Ctx}(hm:(Γ.at 0).a8)(h899:Lk Γ)(h900:IG Γ)(r:pR)  (hp0:fU r):dq Γ HT (.bool (nW r)) [dy r]:=by
 show bz _ _ _ [⟨_,_⟩,_,_] _;refine aj ?_;refine aJ ?_;refine ak (hc:=h899 r hp0) ?_;refine ar ?_;refine fB (hc:=fun hf=>h900 r ⟨by simpa using hf,hp0⟩) ?_;refine gT ?_;refine aJ ?_;refine br ?_;simp only[nW];congr 1;exact decide_eq_decide.2 (by omega)
def Ox (Γ:Ctx):Prop:=∀(r:pR),(fU r)→Γ.pre 901 [dy r]∧Γ.val 901 [dy r]=.bool (nW r)
def CV:aB:=⟨1,4,gG,bO,(sq (rg [gb 1 s0,gm cse] [(2,0),(1,1)]) (sq (sq (r1 [gk 1 true s2,gx 901 [l0] [[.sl 1 [.sl 7 [.a,.a,.a,.a,.a,.a,.a]]]],ix l1] 3 2) (lA s3 cse)) (sq (r1 [gk 1 true s2,gx 900 [l0] [[.sl 1 [.sl 7 [.a,.a,.a,.a,.a,.a,.a]]]],gm l1] 1 2) .ret)))⟩
def w745 {Γ:Ctx}(hm:(Γ.at 0).a8)(h900:IG Γ)(h901:Ox Γ)(r:pR)  (hp0:fU r):dq Γ CV (.str (oP r)) [dy r]:=by
 show bz _ _ _ [⟨_,_⟩,_,_,_] _;refine aj ?_;refine aA ?_;refine ak (hc:=h901 r hp0) ?_;refine ar ?_;refine aq (fun hc0=>?_) (fun hc0=>?_)
 ·simp only[Bool.not_eq_true']at hc0;refine aJ ?_;refine ch ?_;simp[oP,hc0]
 simp only[Bool.not_eq_false']at hc0;have hfw:gN r=true:=by simp only[nW,Bool.and_eq_true]at hc0;exact hc0.1
 refine av ?_;refine ak (hc:=h900 r ⟨hfw,hp0⟩) ?_;refine av ?_;refine ch ?_;simp[oP,hc0]
def Of (Γ:Ctx):Prop:=∀(r:pR),(fU r)→Γ.pre 745 [dy r]∧Γ.val 745 [dy r]=.str (oP r)
end Go.Abs
end
section
namespace Go.Abs
open Go
def Fl:aB:=⟨1,4,gG,bO,(sq (r1 [gm cse] 1 0) (sq (.block 0 (.loop (sq (sq (r1 [gm s0,m9 l0,cB l1 bh,gm l2,gmt 3 s0,bZ 3 (.ixS l4 bh),bZ 3 (ca l5 (i8 32)),dZ l3 l6] 2 7) (eN s2 0)) (.block 1 (r1 [gm s0,gn (.slS l0 (some bR) none),gm l1] 0 2))))) (sq (.block 2 (.loop (sq (sq (r1 [gm s0,m9 l0,cB l1 bh,gm l2,gmt 3 s0,gmt 3 s0,bZ 3 (.lenS l5),bZ 3 (iG l6 bR),bZ 3 (.ixS l4 l7),bZ 3 (ca l8 (i8 32)),dZ l3 l9] 3 10) (eN s3 2)) (.block 3 (r1 [gm s0,gm s0,m9 l1,dP l2 bR,gn (.slS l0 none (some l3)),gm l4] 0 5))))) (sq (r1 [gm s0,gm l0] 1 1) .ret))))⟩
def w898 {Γ:Ctx}(hm:(Γ.at 0).a8)  (s:ai)   :dq Γ Fl (.str (c9 s)) [.str s]:=by
 show bz _ _ _ [⟨_,_⟩,_,_,_] _;refine aj ?_;refine ar ?_;refine aY hm (ι:=ai) (fun t=>[⟨true,.str t⟩,.un,.un,.un]) (fun t=>[]) 1 (fun t=>iT s=iT t∧t.length≤s.length) (fun t=>t.length) s ⟨rfl,Nat.le_refl _⟩ (cS []) ?_;rintro t ⟨hr,hl⟩;refine ax ?_;intro u0;refine av ?_;refine mX 0 ?_;refine av ?_;refine cd (fun hc0=>?_) fun hc0=>?_
 ·refine ax ?_;refine dV 1 (hb:=fun _=>by omega) ?_;refine ax ?_;exact⟨(t.drop 1),⟨by rw[hr,xg (by omega) hc0.2],by rw[List.length_drop];omega⟩,by rw[List.length_drop];omega,(cS [])⟩
 refine ar ?_;have hbt:c9 s=uw t:=by
  show(iT (iT s).reverse).reverse=_;rw[hr,uv hc0];rfl
 refine aY hm (ι:=ai) (fun u=>[⟨true,.str u⟩,.un,.un,.un]) (fun u=>[]) 9 (fun u=>c9 s=uw u∧u.length≤s.length) (fun u=>u.length) t ⟨hbt,hl⟩ (cS []) ?_;rintro u ⟨hru,hlu⟩;refine ax ?_;intro u1;refine ax ?_;refine gT ?_;refine aC ?_;refine mX (u.length-1) ?_;refine av ?_;refine cd (fun hc1=>?_) fun hc1=>?_
 ·refine aA ?_;intro u2;refine aC ?_;refine ko (u.length-1) (hj:=fun _=>by omega) (hb:=fun _=>by omega) ?_;refine ax ?_;exact⟨(u.take (u.length-1)),⟨by rw[hru,Er (by omega) hc1.2],by rw[List.length_take];omega⟩,by rw[List.length_take];omega,(cS [])⟩
 refine aV ?_;refine ch ?_;rw[hru,BP hc1]
def Ov (Γ:Ctx):Prop:=∀(s:ai),Γ.pre 898 [.str s]∧Γ.val 898 [.str s]=.str (c9 s)
def Fk:aB:=⟨1,7,gG,[[.sl 1 [.a]]],(sq (r1 [gm (.c (.az))] 1 0) (sq (r1 [gm (.c (.az))] 6 0) (sq (r1 [gm bh] 4 0) (sq (sq (r1 [gm bh] 2 0) (.block 0 (.loop (sq (sq (r1 [gm s2,au l0 bR,gm s0,m9 l2,aN l1 l3] 3 4) (eN s3 0)) (sq (.block 1 (sq (r1 [gm s0,gm s2,Dv l0 l1,aG l2 (i8 124),gm l3,gmt 4 s0,gmt 4 s2,bZ 4 (Ko l6 bR),bZ 4 (.ixS l5 l7),bZ 4 (ca l8 (i8 124)),dZ l4 l9,gm l10,gmt 11 s2,gmt 11 s4,bZ 11 (sR gV iQ),dZ fI jt] 5 15) (.cond s5 (sq (r1 [gm s6,gm s0,gm s4,gm s2,gn (.slS l1 (some l2) (some l3)),gn (.bsl 1 (.str []) 1 [(0,l4)]),gn (.app 1 l0 l5),gm l6] 6 7) (r1 [gm s2,au l0 jF,gm l1] 4 2)) .skip))) (r1 [gm s2,au l0 bR,gm l1] 2 2)))))) (sq (r1 [gm s6,gm s0,gm s4,gn (.slS l1 (some l2) none),gn (.bsl 1 (.str []) 1 [(0,l3)]),gn (.app 1 l0 l4),gm l5] 1 6) .ret)))))⟩
def w896 {Γ:Ctx}(hm:(Γ.at 0).a8)  (s:ai)  (hp0:s.length≤1048576):dq Γ Fk (.sl 1 ((ay s []).map D.str)) [.str s]:=by
 show bz _ _ _ [⟨_,_⟩,_,_,_,_,_,_] _;refine aj ?_;refine gZ ?_;refine aY hm (ι:=(Nat×Nat×List ai)) (fun p=>[⟨true,.str s⟩,.un,⟨true,.int .i64 (p.1:Nat)⟩,.un,⟨true,.int .i64 (p.2.1:Nat)⟩,.un,⟨true,.own 0 1 0 p.2.2.length⟩]) (fun p=>[(0,.buf 1 (p.2.2.map D.str))]) 4 (fun p=>p.1≤s.length∧p.2.1≤s.length∧p.2.1≤p.1+1∧p.2.2.length≤p.1∧pS s p.1 p.2.1 p.2.2) (fun p=>s.length-p.1) (0,0,[]) ⟨by simp,by simp,by simp,by simp,by simp[pS]⟩ (aX.to [] ae ae (by repeat(first|exact de.nil|refine de.un ?_|refine de.eq ae ?_|refine de.nl ae ae ?_|refine de.ni (Or.inr ⟨_,_,_,rfl⟩) ?_)) (by repeat(first|exact aO.nil|refine aO.mt ae ae ae ae ?_))) ?_;rintro⟨i,fr,acc⟩ ⟨hi,hf,hfi,ha,hr⟩;dsimp only at hi hf hfi ha hr⊢;refine aA ?_;intro u0;refine ar ?_;refine cd (fun hc0=>?_) fun hc0=>?_
 ·refine aJ ?_;refine mX i ?_;refine aJ ?_;refine mX (i+1) ?_;refine bB ?_;refine fm (fun hc1=>?_) fun hc1=>?_
  ·refine aJ ?_;refine vH fr i (hb:=fun _=>by omega) ?_;refine cx [(.str _)] ?_;refine wB ?_;exact⟨(i+1,i+2,acc++[(s.take i).drop fr]),⟨by dsimp only;omega,by dsimp only;omega,by dsimp only;omega,by simp;omega,Eo hr (by omega) hc1⟩,by dsimp only;omega,(aX.to [(31,0)] ae ae dt (by refine aO.nl 31 ae ae ae cN ?_;exact aO.nil))⟩
  refine bB ?_;exact⟨(i+1,fr,acc),⟨by dsimp only;omega,by dsimp only;omega,by dsimp only;omega,by dsimp only;omega,F8 hr (by omega) hfi hc1⟩,by dsimp only;omega,(aX.to [(0,0)] ae ae dt (by(first|refine aO.eS ae ae cN ?_|refine aO.lg ae ae ae ?_|refine aO.mb ae ae ae ae ?_);exact aO.nil))⟩
 refine aA ?_;refine dV fr (hb:=fun _=>by omega) ?_;refine cx [(.str _)] ?_;refine av ?_;refine eu 14 ?_;refine aC ?_;refine bC (?_);rw[En hr (by omega) hf];rfl
def Ot (Γ:Ctx):Prop:=∀(s:ai),(s.length≤1048576)→Γ.pre 896 [.str s]∧Γ.val 896 [.str s]=.sl 1 ((ay s []).map D.str)
end Go.Abs
end
section
namespace Go.Abs
open Go
def CT:aB:=⟨1,17,[⟨1,some (1,true)⟩,⟨2,none⟩],[[.sl 1 [.sl 7 [.a,.a,.a,.a,.a,.a,.a]]],[.a]],(sq (rg [gb 1 (.c (.agg [.az])),gm bh] [(1,0),(2,1)]) (sq (sq (r1 [gm s0,m9 l0,cB l1 (i6 96)] 3 2) (.cond s3 (sq (r1 [gn (.build [.az] []),gt 1 s1 l0,gm jG] 2 2) .ret) .skip)) (sq (r1 [gb 1 (.c (.agg [.az]))] 14 0) (sq (r1 [gm s0,gx 896 [l0] bO,gm l1] 5 2) (sq (sq (r1 [gm bh] 4 0) (.block 0 (.loop (sq (sq (r1 [gm s4,gm s5,gl l1,aN l0 l2] 6 3) (eN s6 0)) (sq (.block 1 (sq (r1 [gm (.c (.az))] 12 0) (sq (r1 [gm s5,gm s4,ga 1 l0 l1,gd l2,gx 470 [l3,(i8 44)] gQ,gm l4] 8 5) (sq (sq (r1 [gm bh] 7 0) (.block 2 (.loop (sq (sq (r1 [gm s7,gm s8,gl l1,aN l0 l2] 9 3) (eN s9 2)) (sq (.block 3 (sq (rg [gm s8,gm s7,ga 1 l0 l1,gd l2,gx 898 [l3] bO,gx 897 [l4] bO,gm l5,ge l6 0,ge l6 1,gb 7 (.c (.agg [.int .i64 0,.int .i64 0,.int .i64 0,.int .i64 0,.int .i64 0,.str [],.str []])),gt 7 l9 l7,gm l8] [(13,9),(10,11)]) (sq (sq (r1 [gm jx,bN l0 bh] 11 1) (.cond mc (sq (r1 [gn (.build [.az] []),gt 1 s1 l0,gm tY] 2 2) .ret) .skip)) (r1 [gm lY,gk 7 true pP,gn (.bsl 7 (.agg [.int .i64 0,.int .i64 0,.int .i64 0,.int .i64 0,.int .i64 0,.str [],.str []]) 1 [(0,l1)]),gn (.app 7 l0 l2),gm l3] 12 4)))) (r1 [gm s7,au l0 bR,gm l1] 7 2)))))) (rg [gf 0 tn,gd l0,gm lY,gn (.bsl 1 (.az) 1 [(0,l2)]),gn (.app 1 l1 l3),gf 0 tn,gt 1 l5 l4] []))))) (r1 [gm s4,au l0 bR,gm l1] 4 2)))))) (sq (sq (r1 [gk 1 true tn,gx 899 [l0] [[.sl 1 [.sl 7 [.a,.a,.a,.a,.a,.a,.a]]]],ix l1] 15 2) (.cond vW (sq (r1 [gn (.build [.az] []),gt 1 s1 l0,gm tY] 2 2) .ret) .skip)) (sq (sq (r1 [gk 1 true tn,gx 900 [l0] [[.sl 1 [.sl 7 [.a,.a,.a,.a,.a,.a,.a]]]],m9 l1,cB l2 (i6 96)] 16 3) (.cond BF (sq (r1 [gn (.build [.az] []),gt 1 s1 l0,gm jG] 2 2) .ret) .skip)) (sq (r1 [gk 1 true tn,gt 1 s1 l0,gm bh] 2 2) .ret))))))))⟩
def w744 {Γ:Ctx}(hm:(Γ.at 0).a8)(h470:uk Γ)(h896:Ot Γ)(h897:Ou Γ)(h898:Ov Γ)(h899:Lk Γ)(h900:IG Γ)(s:ai)  (hp0:s.length≤1048576):dq Γ CT (.tup [dy (eK s).1,.int .i64 (eK s).2]) [.str s]:=by
 show bz _ _ _ [⟨_,_⟩,_,_,_,_,_,_,_,_,_,_,_,_,_,_,_,_] _;have hdl:=lZ s [];have hgl:∀i,i<(ay s []).length→(ay s [])[i]!.length≤s.length:=fun i hi=>by
  have:=hdl.2 _ (bA hi);simpa using this
 refine aj ?_;refine aV ?_;intro u0;refine ar ?_;refine cd (fun hc0=>?_) fun hc0=>?_
 ·refine ar ?_;refine fT [.az] ?_;refine aL (.agg [.az]) (he:=by exact rfl) ?_;refine av ?_;refine bC (aF ?_ (congrArg (D.int .i64) ?_));all_goals
   have hq:eK s=([],3):=by
    unfold eK;rw[if_pos (by omega)]
   rw[hq];first|done|rfl
 refine aA ?_;refine ak (hc:=h896 s (by omega)) ?_;refine aA ?_;refine aY hm (ι:=Nat) (fun i=>[.un,⟨true,.ptr 0 1 0 0⟩,.un,.un,⟨true,.int .i64 (i:Nat)⟩,⟨true,.sl 1 ((ay s []).map D.str)⟩,.un,.un,.un,.un,.un,.un,.un,.un,⟨true,.ptr 5 1 0 0⟩,.un,.un]) (fun i=>[(0,.buf 1 [.agg [.az]]),(5,.buf 1 [.agg [.own 1 1 0 ((fK s).take i).length]]),(1,.buf 1 (((fK s).take i).map n9))]) 10 (fun i=>i≤(ay s []).length∧vS s=b8 (fun i=>QK (ay s [])[i]!) i (ay s []).length) (fun i=>(ay s []).length-i) 0 ⟨by omega,rfl⟩ (aX.to [(0,0),(5,5)] ae ae dt (by(first|refine aO.eS ae ae cN ?_|refine aO.lg ae ae ae ?_|refine aO.mb ae ae ae ae ?_);refine aO.ni 5 ae ae (by exact⟨_,_,rfl,⟨_,rfl,⟨_,_,rfl,Or.inr ⟨_,_,_,rfl⟩,rfl⟩⟩,rfl⟩) ?_;refine aO.mt ae ae ae ae ?_;exact aO.nil)) ?_;rintro i ⟨hi,hr⟩;have hrt:((fK s).take i).length≤i:=by rw[List.length_take];omega
 refine aJ ?_;intro u1;refine ar ?_;refine cd (fun hc1=>?_) fun hc1=>?_
 ·refine aA ?_;have hgi:=hgl i (by omega);have hsl:=cn (ay s [])[i]! 44;have hsp:1≤(ah (ay s [])[i]! 44).length:=dR _ _ _;refine ax ?_;refine ak (hc:=h470 (ay s [])[i]! 44 (by omega)) ?_;refine aA ?_;refine aY hm (ι:=Nat) (fun k=>[.un,⟨true,.ptr 0 1 0 0⟩,.un,.un,⟨true,.int .i64 (i:Nat)⟩,⟨true,.sl 1 ((ay s []).map D.str)⟩,.un,⟨true,.int .i64 (k:Nat)⟩,⟨true,.sl 1 ((ah (ay s [])[i]! 44).map D.str)⟩,.un,.un,.un,⟨true,.own 2 7 0 ((kC (ay s [])[i]!).take k).length⟩,.un,⟨true,.ptr 5 1 0 0⟩,.un,.un]) (fun k=>[(0,.buf 1 [.agg [.az]]),(5,.buf 1 [.agg [.own 1 1 0 ((fK s).take i).length]]),(1,.buf 1 (((fK s).take i).map n9)),(2,.buf 7 (((kC (ay s [])[i]!).take k).map cj.D))]) 22 (fun k=>k≤(ah (ay s [])[i]! 44).length∧QK (ay s [])[i]! =b8 (fun k=>(dc (c9 (ah (ay s [])[i]! 44)[k]!)).isSome) k (ah (ay s [])[i]! 44).length) (fun k=>(ah (ay s [])[i]! 44).length-k) 0 ⟨by omega,rfl⟩ (aX.to [(0,0),(5,5),(1,1)] ae ae (by repeat(first|exact de.nil|refine de.un ?_|refine de.eq ae ?_|refine de.nl ae ae ?_|refine de.ni (Or.inr ⟨_,_,_,rfl⟩) ?_)) (by(first|refine aO.eS ae ae cN ?_|refine aO.lg ae ae ae ?_|refine aO.mb ae ae ae ae ?_);(first|refine aO.eS ae ae cN ?_|refine aO.lg ae ae ae ?_|refine aO.mb ae ae ae ae ?_);(first|refine aO.eS ae ae cN ?_|refine aO.lg ae ae ae ?_|refine aO.mb ae ae ae ae ?_);refine aO.mt ae ae ae ae ?_;exact aO.nil)) ?_;rintro k ⟨hk,hwk⟩;have htk:((kC (ay s [])[i]!).take k).length≤k:=by rw[List.length_take];omega
  refine aJ ?_;intro u2;refine ar ?_;refine cd (fun hc2=>?_) fun hc2=>?_
  ·refine av ?_;have hwl:=vZ (ay s [])[i]! 44 (show k<(ah (ay s [])[i]! 44).length by omega);have hbl:=rW (ah (ay s [])[i]! 44)[k]!;refine ax ?_;refine ak (hc:=h898 (ah (ay s [])[i]! 44)[k]!) ?_;refine ak (hc:=h897 (c9 (ah (ay s [])[i]! 44)[k]!) (by omega)) ?_;refine aC ?_;refine dU (cj.D _) ?_;refine ar ?_;refine aL (cj.D ((dc (c9 (ah (ay s [])[i]! 44)[k]!)).getD cZ)) (he:=by exact rfl) ?_;refine aV ?_;refine aq (fun hc3=>?_) (fun hc3=>?_)
   ·have hsm:(dc (c9 (ah (ay s [])[i]! 44)[k]!)).isSome=false:=by cases hx:(dc (c9 (ah (ay s [])[i]! 44)[k]!)).isSome with|false=>rfl|true=>rw[hx]at hc3;exact absurd hc3 (by decide)
    refine ar ?_;refine fT [.az] ?_;refine aL (.agg [.az]) (he:=by exact rfl) ?_;refine aV ?_;refine bC (aF ?_ (congrArg (D.int .i64) ?_));all_goals
     have hq:eK s=([],6):=by
      have hno:vS s=false:=by rw[hr,aH (by omega),hwk,aH (by omega),hsm];rfl
      unfold eK;rw[if_neg (by omega),if_pos hno]
     rw[hq];first|done|rfl
   have hsm:(dc (c9 (ah (ay s [])[i]! 44)[k]!)).isSome=true:=by cases hx:(dc (c9 (ah (ay s [])[i]! 44)[k]!)).isSome with|true=>rfl|false=>rw[hx]at hc3;exact absurd hc3 (by decide)
   refine av ?_;refine cG (d:=cj.D ((dc (c9 (ah (ay s [])[i]! 44)[k]!)).getD cZ)) ?_;refine cx [(cj.D _)] ?_;refine gF ?_;have hq:=fO (fun x=>(dc (c9 x)).getD cZ) (ah (ay s [])[i]! 44) (show k<(ah (ay s [])[i]! 44).length by omega);rw[show(fun x=>(dc (c9 x)).getD cZ)=fun x=>(dc (c9 x)).getD cZ from rfl]at hq;have hq:(kC (ay s [])[i]!).take (k+1)=_:=hq;rw[show(kC (ay s [])[i]!).take k++[(dc (c9 (ah (ay s [])[i]! 44)[k]!)).getD cZ]=(kC (ay s [])[i]!).take (k+1)from hq.symm];exact⟨k+1,⟨by omega,by rw[hwk,aH (by omega),hsm];rfl⟩,by omega,(aX.to [(0,0),(5,5),(1,1),(43,2)] ae ae dt (by(first|refine aO.eS ae ae cN ?_|refine aO.lg ae ae ae ?_|refine aO.mb ae ae ae ae ?_);(first|refine aO.eS ae ae cN ?_|refine aO.lg ae ae ae ?_|refine aO.mb ae ae ae ae ?_);(first|refine aO.eS ae ae cN ?_|refine aO.lg ae ae ae ?_|refine aO.mb ae ae ae ae ?_);refine aO.nl 43 ae ae ae cN ?_;exact aO.nil))⟩
  refine ar ?_;refine eu 2 ?_ (he:=by simp only[jr,fq,fV,ke,k9,bS,Nat.reduceEqDiff,if_true,if_false,and_self,true_and,and_true,false_and,and_false,Nat.zero_add,List.length_map,Nat.le_refl,List.drop_zero,aE,reduceCtorEq,List.length_cons,List.length_nil,Nat.reduceAdd,Nat.reduceLeDiff,mi];exact rfl) (hm:=by simp only[jr,fq,fV,ke,k9,bS,Nat.reduceEqDiff,if_true,if_false,and_self,true_and,and_true,false_and,and_false,Nat.zero_add,List.length_map,Nat.le_refl,List.drop_zero,aE,reduceCtorEq,List.length_cons,List.length_nil,Nat.reduceAdd,Nat.reduceLeDiff,mi];exact rfl);refine aC ?_;obtain rfl:k=(ah (ay s [])[i]! 44).length:=by omega
  rw[List.take_of_length_le (show(kC (ay s [])[i]!).length≤(ah (ay s [])[i]! 44).length by simp[kC])];refine aC ?_;refine bc (v:=.own _ _ _ _) ?_;refine aC ?_;refine cx [n9 (kC (ay s [])[i]!)] ?_;refine ar ?_;refine aL (.agg [.own 30 1 0 ((fK s).take i++[kC (ay s [])[i]!]).length]) (he:=by exact rfl) ?_;refine bB ?_;have hq:(fK s).take (i+1)=(fK s).take i++[kC (ay s [])[i]!]:=fO kC (ay s []) (show i<(ay s []).length by omega);rw[←hq];exact⟨i+1,⟨by omega,by rw[hr,aH (by omega),hwk,bE (by omega)];rfl⟩,by omega,(aX.to [(0,0),(5,5),(30,1)] ae ae dt (by(first|refine aO.eS ae ae cN ?_|refine aO.lg ae ae ae ?_|refine aO.mb ae ae ae ae ?_);(first|refine aO.eS ae ae cN ?_|refine aO.lg ae ae ae ?_|refine aO.mb ae ae ae ae ?_);refine aO.nl 30 ae ae ae cN ?_;exact aO.nil))⟩
 refine av ?_;refine eu 1 ?_ (he:=by simp only[jr,fq,fV,ke,k9,bS,Nat.reduceEqDiff,if_true,if_false,and_self,true_and,and_true,false_and,and_false,Nat.zero_add,List.length_map,Nat.le_refl,List.drop_zero,aE,reduceCtorEq,List.length_cons,List.length_nil,Nat.reduceAdd,Nat.reduceLeDiff,mi];exact rfl) (hm:=by simp only[jr,fq,fV,ke,k9,bS,Nat.reduceEqDiff,if_true,if_false,and_self,true_and,and_true,false_and,and_false,Nat.zero_add,List.length_map,Nat.le_refl,List.drop_zero,aE,reduceCtorEq,List.length_cons,List.length_nil,Nat.reduceAdd,Nat.reduceLeDiff,mi];exact rfl);refine aC ?_;obtain rfl:i=(ay s []).length:=by omega
 have hok:vS s=true:=by rw[hr,bE (by omega)]
 rw[List.take_of_length_le (show(fK s).length≤(ay s []).length by simp[fK])];have hrs:=zr (s:=s) (by omega);refine cG (d:=dy (fK s)) ?_;refine ak (hc:=h899 (fK s) hrs) ?_;refine ar ?_;refine aq (fun hc4=>?_) (fun hc4=>?_)
 ·simp only[Bool.not_eq_true']at hc4;refine ar ?_;refine fT [.az] ?_;refine aL (.agg [.az]) (he:=by exact rfl) ?_;refine av ?_;refine bC (aF ?_ (congrArg (D.int .i64) ?_));all_goals
   have hq:eK s=([],6):=by
    unfold eK;rw[if_neg (by omega),if_neg (by rw[hok];simp),if_pos hc4]
   rw[hq];first|done|rfl
 simp only[Bool.not_eq_false']at hc4;refine av ?_;refine cG (d:=dy (fK s)) ?_;refine ak (hc:=h900 (fK s) ⟨hc4,hrs⟩) ?_;refine aC ?_;intro u3;refine ar ?_;refine cd (fun hc5=>?_) fun hc5=>?_
 ·refine ar ?_;refine fT [.az] ?_;refine aL (.agg [.az]) (he:=by exact rfl) ?_;refine av ?_;refine bC (aF ?_ (congrArg (D.int .i64) ?_));all_goals
   have hq:eK s=([],3):=by
    unfold eK;rw[if_neg (by omega),if_neg (by rw[hok];simp),if_neg (by rw[hc4];simp),if_pos (by omega)]
   rw[hq];first|done|rfl
 refine ar ?_;refine cG (d:=dy (fK s)) ?_;refine aL (dy (fK s)) (he:=by exact rfl) ?_;refine av ?_;refine bC (aF ?_ (congrArg (D.int .i64) ?_));all_goals
  have hq:eK s=(fK s,0):=by
   unfold eK;rw[if_neg (by omega),if_neg (by rw[hok];simp),if_neg (by rw[hc4];simp),if_neg (by omega)]
  rw[hq];first|done|rfl
def Oe (Γ:Ctx):Prop:=∀(s:ai),(s.length≤1048576)→Γ.pre 744 [.str s]∧Γ.val 744 [.str s]=.tup [dy (eK s).1,.int .i64 (eK s).2]
def CU:aB:=⟨1,4,gG,bO,(sq (r1 [gm ct] 1 0) (sq (rg [gm s0,gx 744 [l0] bO,gm l1,ge l2 0,ge l2 1,gb 1 (.c (.agg [.az])),gt 1 l5 l3,gm l4] [(3,5),(2,7)]) (sq (r1 [gm s2,aG l0 bh,gm l1,bZ 2 (.ld 1 true s3),bZ 2 (.call 745 [l3] [[.sl 1 [.sl 7 [.a,.a,.a,.a,.a,.a,.a]]]]),gmt 2 s0,bZ 2 (ca l4 l5),dZ l2 l6,gm l7] 1 8) .ret)))⟩
def w572 {Γ:Ctx}(hm:(Γ.at 0).a8)(h744:Oe Γ)(h745:Of Γ)(s:ai)  (hp0:s.length≤1048576):dq Γ CU (.bool (nF s)) [.str s]:=by
 show bz _ _ _ [⟨_,_⟩,_,_,_] _;refine aj ?_;refine ax ?_;refine ak (hc:=h744 s hp0) ?_;refine aC ?_;refine dU (dy _) ?_;refine ar ?_;refine aL (dy (eK s).1) (he:=by exact rfl) ?_;refine aA ?_;refine cG (d:=dy (eK s).1) ?_;refine fB (hc:=fun hf=>h745 (eK s).1 D9.1) ?_;refine aA ?_;exact br rfl
def K3 (Γ:Ctx):Prop:=∀(s:ai),(s.length≤1048576)→Γ.pre 572 [.str s]∧Γ.val 572 [.str s]=.bool (nF s)
end Go.Abs
end
section
namespace Go.Abs
open Go
def CX:aB:=⟨1,19,[⟨1,none⟩,⟨2,none⟩],gQ,(sq (rg [gb 1 s0,gm cse,gm ct] [(3,0),(1,1),(2,2)]) (sq (sq (r1 [gf 0 s3,gd l0,gl l1,aN l2 bR,gm l3,hH 4 0 s3,hY 4 l5,bT 4 (.len l6),bT 4 (dz l7 tY),ea l4 l8] 4 9) (.cond s4 (sq (rg [gm cse,gm ct] [(1,0),(2,1)]) .ret) .skip)) (sq (r1 [gm (.c (.az))] 18 0) (sq (sq (rg [gf 0 s3,gd l0,gl l1,gm bh] [(8,1),(6,2),(5,3)]) (.block 0 (.loop (sq (r1 [aN s5 s6] 7 0) (sq (eN s7 0) (sq (.block 1 (sq (r1 [ga 1 s8 s5,gd l0,gm l1] 9 2) (sq (sq (r1 [gm s9,gl l0,aN l1 bR,gm l2,dH 3 s9,bT 3 (.len l4),bT 3 (dz l5 tY),ea l3 l6] 10 7) (.cond jx (sq (rg [gm cse,gm ct] [(1,0),(2,1)]) .ret) .skip)) (sq (r1 [gm (.c (.az))] 17 0) (sq (sq (rg [gm s9,gl l0,gm bh] [(14,0),(12,1),(11,2)]) (.block 2 (.loop (sq (r1 [aN mc lY] 13 0) (sq (eN pP 2) (sq (.block 3 (sq (r1 [ga 7 tn mc,gk 7 true l0,gb 7 (.c (.agg [.int .i64 0,.int .i64 0,.int .i64 0,.int .i64 0,.int .i64 0,.str [],.str []])),gt 7 l2 l1] 15 2) (sq (sq (r1 [gk 7 true vW,gx 827 [l0] Jg,ix l1] 16 2) (.cond BF (sq (rg [gm cse,gm ct] [(1,0),(2,1)]) .ret) .skip)) (r1 [gm Bc,gk 7 true vW,gx 828 [l1] Jg,gn (.bsl 1 (.str []) 1 [(0,l2)]),gn (.app 1 l0 l3),gm l4] 17 5)))) (r1 [au mc bR,gm l0] 11 1))))))) (r1 [gm Fq,gm Bc,gx 242 [l1,(cs [44,32])] [[.sl 1 [.a]],[.a]],gn (.bsl 1 (.str []) 1 [(0,l2)]),gn (.app 1 l0 l3),gm l4] 18 5)))))) (r1 [au s5 bR,gm l0] 5 1))))))) (sq (rg [gm Fq,gx 242 [l0,(cs [32,124,124,32])] [[.sl 1 [.a]],[.a]],gm l1,gm me] [(1,2),(2,3)]) .ret)))))⟩
def w684 {Γ:Ctx}(hm:(Γ.at 0).a8)(h242:Ix Γ)(h827:IF Γ)(h828:Lj Γ)(r:pR)  (hp0:fU r):dq Γ CX (.tup [.str (if gN r=true then vT r else []),.bool (gN r)]) [dy r]:=by
 show bz _ _ _ [⟨_,_⟩,_,_,_,_,_,_,_,_,_,_,_,_,_,_,_,_,_,_] _;refine aj ?_;refine cR ?_;intro u0;refine ax ?_;refine gT ?_;refine av ?_;refine cd (fun hc0=>?_) fun hc0=>?_
 ·refine aA ?_;refine bC (aF (congrArg D.str ?_) (congrArg D.bool ?_));all_goals
   have hq:gN r=false:=by
    simp only[gN];rcases hc0 with h|h
    ·rw[decide_eq_false (by omega)];rfl
    ·rw[decide_eq_false (by omega:¬r.length≤6),Bool.and_false];rfl
   simp[hq]
 refine cR ?_;intro u1;refine ar ?_;have hb:gN r=b8 (fun i=>iS r[i]!) 0 r.length:=by simp only[gN];rw[decide_eq_true (by omega),decide_eq_true (by omega)];rfl
 refine aY hm (ι:=Nat) (fun i=>[.un,.un,.un,⟨true,.ptr 0 1 0 0⟩,.un,⟨true,.int .i64 (i:Nat)⟩,⟨true,.int .i64 (r.length:Nat)⟩,.un,⟨true,.sl 1 (r.map n9)⟩,.un,.un,.un,.un,.un,.un,.un,.un,.un,⟨true,.own 1 1 0 ((r.map hE).take i).length⟩]) (fun i=>[(0,.buf 1 [dy r]),(1,.buf 1 (((r.map hE).take i).map D.str))]) 18 (fun i=>i≤r.length∧gN r=b8 (fun i=>iS r[i]!) i r.length∧1≤r.length∧r.length≤6) (fun i=>r.length-i) 0 ⟨by omega,hb,by omega,by omega⟩ (aX.to [(0,0)] ae ae (by repeat(first|exact de.nil|refine de.un ?_|refine de.eq ae ?_|refine de.nl ae ae ?_|refine de.ni (Or.inr ⟨_,_,_,rfl⟩) ?_)) (by(first|refine aO.eS ae ae cN ?_|refine aO.lg ae ae ae ?_|refine aO.mb ae ae ae ae ?_);refine aO.mt ae ae ae ae ?_;exact aO.nil)) ?_;rintro i ⟨hi,hr,hr1,hr6⟩;have hti:((r.map hE).take i).length≤i:=by rw[List.length_take];omega
 refine av ?_;refine cd (fun hc1=>?_) fun hc1=>?_
 ·refine fM ?_;intro u2;refine av ?_;refine gT ?_;refine av ?_;refine cd (fun hc2=>?_) fun hc2=>?_
  ·refine bB ?_;refine bC (aF (congrArg D.str ?_) (congrArg D.bool ?_));all_goals
    have hq:gN r=false:=by
     rw[hr,aH (by omega)];have:iS r[i]! =false:=by
      simp only[iS];rcases hc2 with h|h
      ·rw[decide_eq_false (by omega)];rfl
      ·rw[decide_eq_false (by omega:¬r[i]!.length≤6),Bool.and_false];rfl
     rw[this];rfl
    simp[hq]
  refine bB ?_;intro u3;refine ar ?_;have hal:1≤r[i]!.length∧r[i]!.length≤6:=by omega
  have hkb:iS r[i]! =b8 (fun k=>jC r[i]![k]!) 0 r[i]!.length:=by simp only[iS];rw[decide_eq_true (by omega),decide_eq_true (by omega)];rfl
  refine aY hm (ι:=Nat) (fun k=>[.un,.un,.un,⟨true,.ptr 0 1 0 0⟩,.un,⟨true,.int .i64 (i:Nat)⟩,⟨true,.int .i64 (r.length:Nat)⟩,.un,⟨true,.sl 1 (r.map n9)⟩,.un,.un,⟨true,.int .i64 (k:Nat)⟩,⟨true,.int .i64 (r[i]!.length:Nat)⟩,.un,⟨true,.sl 7 (r[i]!.map cj.D)⟩,.un,.un,⟨true,.own 2 1 0 ((r[i]!.map cP).take k).length⟩,⟨true,.own 1 1 0 ((r.map hE).take i).length⟩]) (fun k=>[(0,.buf 1 [dy r]),(1,.buf 1 (((r.map hE).take i).map D.str)),(2,.buf 1 (((r[i]!.map cP).take k).map D.str))]) 34 (fun k=>k≤r[i]!.length∧iS r[i]! =b8 (fun k=>jC r[i]![k]!) k r[i]!.length) (fun k=>r[i]!.length-k) 0 ⟨by omega,hkb⟩ (aX.to [(0,0),(1,1)] ae ae (by repeat(first|exact de.nil|refine de.un ?_|refine de.eq ae ?_|refine de.nl ae ae ?_|refine de.ni (Or.inr ⟨_,_,_,rfl⟩) ?_)) (by(first|refine aO.eS ae ae cN ?_|refine aO.lg ae ae ae ?_|refine aO.mb ae ae ae ae ?_);(first|refine aO.eS ae ae cN ?_|refine aO.lg ae ae ae ?_|refine aO.mb ae ae ae ae ?_);refine aO.mt ae ae ae ae ?_;exact aO.nil)) ?_;rintro k ⟨hk,hkr⟩;have htk:((r[i]!.map cP).take k).length≤k:=by rw[List.length_take];omega
  refine av ?_;refine cd (fun hc3=>?_) fun hc3=>?_
  ·refine ax ?_;first|refine bD (v:=(cj.D _)) ?_|refine dM (v:=(cj.D _)) ?_
   refine aC ?_;refine aL (cj.D r[i]![k]!) (he:=by exact rfl) ?_;refine av ?_;have hlo:=hp0 r[i]! (bA (by omega)) _ (bA (show k<r[i]!.length by omega));refine aC ?_;refine ak (hc:=h827 r[i]![k]! hlo.sm) ?_;refine ar ?_;refine aq (fun hc4=>?_) (fun hc4=>?_)
   ·simp only[Bool.not_eq_true']at hc4;refine gF ?_;refine bC (aF (congrArg D.str ?_) (congrArg D.bool ?_));all_goals
     have hq:gN r=false:=by rw[hr,aH (by omega),hkr,aH (by omega),hc4];rfl
     simp[hq]
   simp only[Bool.not_eq_false']at hc4;refine ax ?_;refine ak (hc:=h828 r[i]![k]! hlo.sm) ?_;refine cx [(.str _)] ?_;refine cR ?_;have hq:=fO cP r[i]! (show k<r[i]!.length by omega);rw[←hq];exact⟨k+1,⟨by omega,by rw[hkr,aH (by omega),hc4];rfl⟩,by omega,(aX.to [(0,0),(1,1),(46,2)] ae ae dt (by(first|refine aO.eS ae ae cN ?_|refine aO.lg ae ae ae ?_|refine aO.mb ae ae ae ae ?_);(first|refine aO.eS ae ae cN ?_|refine aO.lg ae ae ae ?_|refine aO.mb ae ae ae ae ?_);refine aO.nl 46 ae ae ae cN ?_;exact aO.nil))⟩
  refine av ?_;obtain rfl:k=r[i]!.length:=by omega
  have hok:iS r[i]! =true:=by rw[hkr,bE (by omega)]
  rw[List.take_of_length_le (show(r[i]!.map cP).length≤r[i]!.length by rw[List.length_map];exact Nat.le_refl _)];have hj:∀t∈(r[i]!.map cP),t.length≤2097200:=fun t ht=>by
   obtain⟨c,hc,rfl⟩:=List.mem_map.1 ht;exact Nat.le_trans (uE (hp0 r[i]! (bA (by omega)) c hc)) (by decide)
  refine ar ?_;refine ak (hc:=h242 (r[i]!.map cP) [44,32] (by rw[List.length_map];omega) (by simp) hj) (ha:=fun _=>congrArg (fun d=>[d,D.str [44,32]]) (rK (q:=D.str) (fun _=>rfl) ae)) (hp:=fun _=>⟨oY (q:=D.str) (fun _=>rfl) ae,rfl,trivial⟩) ?_;refine cx [.str (hE r[i]!)] ?_;refine cR ?_;have hq:=fO hE r (show i<r.length by omega);rw[←hq];exact⟨i+1,⟨by omega,by rw[hr,aH (by omega),hok];rfl,hr1,hr6⟩,by omega,(aX.to [(0,0),(39,1)] ae ae dt (by(first|refine aO.eS ae ae cN ?_|refine aO.lg ae ae ae ?_|refine aO.mb ae ae ae ae ?_);refine aO.nl 39 ae ae ae cN ?_;exact aO.nil))⟩
 refine av ?_;obtain rfl:i=r.length:=by omega
 have hfw:gN r=true:=by rw[hr,bE (by omega)]
 rw[List.take_of_length_le (show(r.map hE).length≤r.length by rw[List.length_map];exact Nat.le_refl _)];have hj:∀t∈(r.map hE),t.length≤2097200:=fun t ht=>by
  obtain⟨a,ha,rfl⟩:=List.mem_map.1 ht;obtain⟨i,hi,rfl⟩:=List.mem_iff_getElem.1 ha;have h1:=uI hfw hi;rw[show r[i]! =r[i]by simp[hi]]at h1;exact Nat.le_trans (uq (hp0 _ ha) (rT h1).2) (by decide)
 refine aC ?_;refine ak (hc:=h242 (r.map hE) [32,124,124,32] (by rw[List.length_map];omega) (by simp) hj) (ha:=fun _=>congrArg (fun d=>[d,D.str [32,124,124,32]]) (rK (q:=D.str) (fun _=>rfl) ae)) (hp:=fun _=>⟨oY (q:=D.str) (fun _=>rfl) ae,rfl,trivial⟩) ?_;refine ax ?_;refine bC (aF (congrArg D.str ?_) (congrArg D.bool ?_));all_goals (simp only[hfw,if_true];first|done|rfl)
def IE (Γ:Ctx):Prop:=∀(r:pR),(fU r)→Γ.pre 684 [dy r]∧Γ.val 684 [dy r]=.tup [.str (if gN r=true then vT r else []),.bool (gN r)]
def Fs:aB:=⟨1,5,gG,bO,(sq (rg [gb 1 s0,gm ct] [(2,0),(1,1)]) (sq (rg [gk 1 true s2,gx 684 [l0] [[.sl 1 [.sl 7 [.a,.a,.a,.a,.a,.a,.a]]]],gm l1,ge l2 0,ge l2 1,gm l3,gm l4] [(4,5),(3,6)]) (sq (r1 [gm s3,gm l0,gmt 1 s4,bZ 1 (.lenS l2),bZ 1 (mh l3 (i6 96)),dZ l1 l4,gm l5] 1 6) .ret)))⟩
def w685 {Γ:Ctx}(hm:(Γ.at 0).a8)(h684:IE Γ)(r:pR)  (hp0:fU r):dq Γ Fs (.bool (nW r)) [dy r]:=by
 show bz _ _ _ [⟨_,_⟩,_,_,_,_] _;refine aj ?_;refine aJ ?_;refine ak (hc:=h684 r hp0) ?_;refine gF ?_;refine gT ?_;refine aJ ?_;refine br ?_;cases hf:gN r with
 |false=>simp[nW,hf]
 |true=>simp only[nW,hf,if_true,Bool.true_and];exact decide_eq_decide.2 (by omega)
def Ob (Γ:Ctx):Prop:=∀(r:pR),(fU r)→Γ.pre 685 [dy r]∧Γ.val 685 [dy r]=.bool (nW r)
def Be:aB:=⟨1,6,gG,bO,(sq (rg [gb 1 s0,gm cse] [(2,0),(1,1)]) (sq (sq (rg [gk 1 true s2,gx 684 [l0] [[.sl 1 [.sl 7 [.a,.a,.a,.a,.a,.a,.a]]]],gm l1,ge l2 0,ge l2 1,gm l3,gm l4] [(4,5),(3,6)]) (sq (r1 [gm s3,gm l0,gmt 1 s4,bZ 1 (.lenS l2),bZ 1 (mh l3 (i6 96)),dZ l1 l4] 5 5) (.cond s5 (sq (r1 [gm s4,gm l0] 1 1) .ret) .skip))) (uO cse)))⟩
def w496 {Γ:Ctx}(hm:(Γ.at 0).a8)(h684:IE Γ)(r:pR)  (hp0:fU r):dq Γ Be (.str (oP r)) [dy r]:=by
 show bz _ _ _ [⟨_,_⟩,_,_,_,_,_] _;refine aj ?_;refine aA ?_;refine ak (hc:=h684 r hp0) ?_;refine fM ?_;refine gT ?_;refine av ?_;refine aq (fun hc0=>?_) (fun hc0=>?_)
 ·simp only[Bool.and_eq_true,decide_eq_true_eq]at hc0;refine aA ?_;refine ch ?_;have hm:nW r=true:=by simp only[nW,hc0.1,Bool.true_and,decide_eq_true_eq];have:=hc0.2;rw[hc0.1,if_pos rfl]at this;omega
  simp only[oP,hm,hc0.1,if_true]
 skip
 refine aJ ?_;refine ch ?_;have hm:nW r=false:=by
  cases hf:gN r with
  |false=>simp[nW,hf]
  |true=>
   rw[hf]at hc0;simp only[if_true,Bool.true_and,decide_eq_false_iff_not]at hc0;simp only[nW,hf,Bool.true_and,decide_eq_false_iff_not];omega
 simp[oP,hm]
def NX (Γ:Ctx):Prop:=∀(r:pR),(fU r)→Γ.pre 496 [dy r]∧Γ.val 496 [dy r]=.str (oP r)
end Go.Abs
end
section
namespace Go.Abs
open Go
def Kc (Γ:Ctx):Prop:=∀(s:ai),(s.length≤1048576)→Γ.pre 124 [.str s,.str [124,124]]∧Γ.val 124 [.str s,.str [124,124]]=.sl 1 ((ay s []).map D.str)
def Oa (Γ:Ctx):Prop:=∀(s:ai)(b:UInt8),(b=32)→(s.length≤1048576)→Γ.pre 683 [.str s,.str [b]]∧Γ.val 683 [.str s,.str [b]]=.str (c9 s)
def Nr (Γ:Ctx):Prop:=∀(r:Rec),(pW r∧gA r)→Γ.pre 219 [Rec.D r]∧Γ.val 219 [Rec.D r]=.str (nN r)
def KM (Γ:Ctx):Prop:=∀(r:Rec),(pW r∧gA r)→Γ.pre 215 [Rec.D r]∧Γ.val 215 [Rec.D r]=.str (nN r)
end Go.Abs
end
section
namespace Go.Abs
open Go
def Bd:aB:=⟨1,22,[⟨1,some (1,true)⟩,⟨2,none⟩],[[.sl 1 [.sl 7 [.a,.a,.a,.a,.a,.a,.a]]],[.a]],(sq (rg [gb 1 (.c (.agg [.az])),gm bh] [(1,0),(2,1)]) (sq (sq (r1 [gm s0,m9 l0,cB l1 (i6 96)] 3 2) (.cond s3 (sq (r1 [gn (.build [.az] []),gt 1 s1 l0,gm jG] 2 2) .ret) .skip)) (sq (r1 [gb 1 (.c (.agg [.az]))] 18 0) (sq (sq (rg [gm s0,gx 124 [l0,(cs [124,124])] gQ,gl l1,gm bh] [(7,1),(5,2),(4,3)]) (.block 0 (.loop (sq (r1 [aN s4 s5] 6 0) (sq (eN s6 0) (sq (.block 1 (sq (r1 [ga 1 s7 s4,gd l0,gm l1] 8 2) (sq (r1 [gm (.c (.az))] 16 0) (sq (sq (rg [gm s8,gx 124 [l0,(cs [44])] gQ,gl l1,gm bh] [(12,1),(10,2),(9,3)]) (.block 2 (.loop (sq (r1 [aN s9 jx] 11 0) (sq (eN mc 2) (sq (.block 3 (sq (r1 [ga 1 lY s9,gd l0,gm l1] 13 2) (sq (rg [gm pP,gx 683 [l0,(cs [32])] gQ,gx 682 [l1] bO,gm l2,ge l3 0,ge l3 1,gb 7 (.c (.agg [.int .i64 0,.int .i64 0,.int .i64 0,.int .i64 0,.int .i64 0,.str [],.str []])),gt 7 l6 l4,gm l5] [(17,6),(14,8)]) (sq (sq (r1 [gm tn,bN l0 bh] 15 1) (.cond vW (sq (r1 [gn (.build [.az] []),gt 1 s1 l0,gm tY] 2 2) .ret) .skip)) (r1 [gm BF,gk 7 true Bc,gn (.bsl 7 (.agg [.int .i64 0,.int .i64 0,.int .i64 0,.int .i64 0,.int .i64 0,.str [],.str []]) 1 [(0,l1)]),gn (.app 7 l0 l2),gm l3] 16 4))))) (r1 [au s9 bR,gm l0] 9 1))))))) (rg [gf 0 Fq,gd l0,gm BF,gn (.bsl 1 (.az) 1 [(0,l2)]),gn (.app 1 l1 l3),gf 0 Fq,gt 1 l5 l4] []))))) (r1 [au s4 bR,gm l0] 4 1))))))) (sq (sq (r1 [gk 1 true Fq,gx 684 [l0] [[.sl 1 [.sl 7 [.a,.a,.a,.a,.a,.a,.a]]]],gm l1,ge l2 0,ge l2 1,gm l3,gm l4] 19 6) (sq (r1 [gm MH,ix l0] 20 1) (.cond Is (sq (r1 [gn (.build [.az] []),gt 1 s1 l0,gm tY] 2 2) .ret) .skip))) (sq (sq (r1 [gk 1 true Fq,gx 685 [l0] [[.sl 1 [.sl 7 [.a,.a,.a,.a,.a,.a,.a]]]],ix l1] 21 2) (.cond s21 (sq (r1 [gn (.build [.az] []),gt 1 s1 l0,gm jG] 2 2) .ret) .skip)) (sq (r1 [gk 1 true Fq,gt 1 s1 l0,gm bh] 2 2) .ret)))))))⟩
def w495 {Γ:Ctx}(hm:(Γ.at 0).a8)(h124:FV Γ)(h682:N9 Γ)(h683:Oa Γ)(h684:IE Γ)(h685:Ob Γ)(h9124:Kc Γ)(s:ai)  (hp0:s.length≤1048576):dq Γ Bd (.tup [dy (eK s).1,.int .i64 (eK s).2]) [.str s]:=by
 show bz _ _ _ [⟨_,_⟩,_,_,_,_,_,_,_,_,_,_,_,_,_,_,_,_,_,_,_,_,_] _;have hdl:=lZ s [];have hgl:∀i,i<(ay s []).length→(ay s [])[i]!.length≤s.length:=fun i hi=>by
  have:=hdl.2 _ (bA hi);simpa using this
 refine aj ?_;refine aV ?_;intro u0;refine ar ?_;refine cd (fun hc0=>?_) fun hc0=>?_
 ·refine ar ?_;refine fT [.az] ?_;refine aL (.agg [.az]) (he:=by exact rfl) ?_;refine av ?_;refine bC (aF ?_ (congrArg (D.int .i64) ?_));all_goals
   have hq:eK s=([],3):=by
    unfold eK;rw[if_pos (by omega)]
   rw[hq];first|done|rfl
 refine aV ?_;refine ak (hc:=h9124 s (by omega)) ?_;refine aC ?_;intro u1;refine ar ?_;refine aY hm (ι:=Nat) (fun i=>[.un,⟨true,.ptr 0 1 0 0⟩,.un,.un,⟨true,.int .i64 (i:Nat)⟩,⟨true,.int .i64 ((ay s []).length:Nat)⟩,.un,⟨true,.sl 1 ((ay s []).map D.str)⟩,.un,.un,.un,.un,.un,.un,.un,.un,.un,.un,⟨true,.ptr 5 1 0 0⟩,.un,.un,.un]) (fun i=>[(0,.buf 1 [.agg [.az]]),(5,.buf 1 [.agg [.own 1 1 0 ((fK s).take i).length]]),(1,.buf 1 (((fK s).take i).map n9))]) 10 (fun i=>i≤(ay s []).length∧vS s=b8 (fun i=>QK (ay s [])[i]!) i (ay s []).length) (fun i=>(ay s []).length-i) 0 ⟨by omega,rfl⟩ (aX.to [(0,0),(5,5)] ae ae dt (by(first|refine aO.eS ae ae cN ?_|refine aO.lg ae ae ae ?_|refine aO.mb ae ae ae ae ?_);refine aO.ni 5 ae ae (by exact⟨_,_,rfl,⟨_,rfl,⟨_,_,rfl,Or.inr ⟨_,_,_,rfl⟩,rfl⟩⟩,rfl⟩) ?_;refine aO.mt ae ae ae ae ?_;exact aO.nil)) ?_;rintro i ⟨hi,hr⟩;have hrt:((fK s).take i).length≤i:=by rw[List.length_take];omega
 refine av ?_;refine cd (fun hc1=>?_) fun hc1=>?_
 ·refine gZ ?_;have hgi:=hgl i (by omega);have hsl:=cn (ay s [])[i]! 44;have hsp:1≤(ah (ay s [])[i]! 44).length:=dR _ _ _;refine aC ?_;refine ak (v:=.sl 1 ((ah (ay s [])[i]! 44).map D.str)) (hc:=h124 (ay s [])[i]! 44 (by omega)) ?_;refine aC ?_;intro u2;refine ar ?_;refine aY hm (ι:=Nat) (fun k=>[.un,⟨true,.ptr 0 1 0 0⟩,.un,.un,⟨true,.int .i64 (i:Nat)⟩,⟨true,.int .i64 ((ay s []).length:Nat)⟩,.un,⟨true,.sl 1 ((ay s []).map D.str)⟩,.un,⟨true,.int .i64 (k:Nat)⟩,⟨true,.int .i64 ((ah (ay s [])[i]! 44).length:Nat)⟩,.un,⟨true,.sl 1 ((ah (ay s [])[i]! 44).map D.str)⟩,.un,.un,.un,⟨true,.own 2 7 0 ((kC (ay s [])[i]!).take k).length⟩,.un,⟨true,.ptr 5 1 0 0⟩,.un,.un,.un]) (fun k=>[(0,.buf 1 [.agg [.az]]),(5,.buf 1 [.agg [.own 1 1 0 ((fK s).take i).length]]),(1,.buf 1 (((fK s).take i).map n9)),(2,.buf 7 (((kC (ay s [])[i]!).take k).map cj.D))]) 19 (fun k=>k≤(ah (ay s [])[i]! 44).length∧QK (ay s [])[i]! =b8 (fun k=>(dc (c9 (ah (ay s [])[i]! 44)[k]!)).isSome) k (ah (ay s [])[i]! 44).length) (fun k=>(ah (ay s [])[i]! 44).length-k) 0 ⟨by omega,rfl⟩ (aX.to [(0,0),(5,5),(1,1)] ae ae (by repeat(first|exact de.nil|refine de.un ?_|refine de.eq ae ?_|refine de.nl ae ae ?_|refine de.ni (Or.inr ⟨_,_,_,rfl⟩) ?_)) (by(first|refine aO.eS ae ae cN ?_|refine aO.lg ae ae ae ?_|refine aO.mb ae ae ae ae ?_);(first|refine aO.eS ae ae cN ?_|refine aO.lg ae ae ae ?_|refine aO.mb ae ae ae ae ?_);(first|refine aO.eS ae ae cN ?_|refine aO.lg ae ae ae ?_|refine aO.mb ae ae ae ae ?_);refine aO.mt ae ae ae ae ?_;exact aO.nil)) ?_;rintro k ⟨hk,hwk⟩;have htk:((kC (ay s [])[i]!).take k).length≤k:=by rw[List.length_take];omega
  refine av ?_;refine cd (fun hc2=>?_) fun hc2=>?_
  ·refine bB ?_;have hwl:=vZ (ay s [])[i]! 44 (show k<(ah (ay s [])[i]! 44).length by omega);have hbl:=rW (ah (ay s [])[i]! 44)[k]!;refine aC ?_;refine ak (hc:=h683 (ah (ay s [])[i]! 44)[k]! 32 rfl (by omega)) ?_;refine ak (v:=.tup [cj.D ((dc (c9 (ah (ay s [])[i]! 44)[k]!)).getD cZ),.int .i64 (if(dc (c9 (ah (ay s [])[i]! 44)[k]!)).isSome=true then 0 else 6)]) (hc:=by rw[←Gl];exact h682 (c9 (ah (ay s [])[i]! 44)[k]!) (by omega)) ?_;refine aC ?_;refine dU (cj.D _) ?_;refine ar ?_;refine aL (cj.D ((dc (c9 (ah (ay s [])[i]! 44)[k]!)).getD cZ)) (he:=by exact rfl) ?_;refine aV ?_;refine aq (fun hc3=>?_) (fun hc3=>?_)
   ·have hsm:(dc (c9 (ah (ay s [])[i]! 44)[k]!)).isSome=false:=by cases hx:(dc (c9 (ah (ay s [])[i]! 44)[k]!)).isSome with|false=>rfl|true=>rw[hx]at hc3;exact absurd hc3 (by decide)
    refine ar ?_;refine fT [.az] ?_;refine aL (.agg [.az]) (he:=by exact rfl) ?_;refine aV ?_;refine bC (aF ?_ (congrArg (D.int .i64) ?_));all_goals
     have hq:eK s=([],6):=by
      have hno:vS s=false:=by rw[hr,aH (by omega),hwk,aH (by omega),hsm];rfl
      unfold eK;rw[if_neg (by omega),if_pos hno]
     rw[hq];first|done|rfl
   have hsm:(dc (c9 (ah (ay s [])[i]! 44)[k]!)).isSome=true:=by cases hx:(dc (c9 (ah (ay s [])[i]! 44)[k]!)).isSome with|true=>rfl|false=>rw[hx]at hc3;exact absurd hc3 (by decide)
   refine av ?_;refine cG (d:=cj.D ((dc (c9 (ah (ay s [])[i]! 44)[k]!)).getD cZ)) ?_;refine cx [(cj.D _)] ?_;refine cR ?_;have hq:=fO (fun x=>(dc (c9 x)).getD cZ) (ah (ay s [])[i]! 44) (show k<(ah (ay s [])[i]! 44).length by omega);rw[show(fun x=>(dc (c9 x)).getD cZ)=fun x=>(dc (c9 x)).getD cZ from rfl]at hq;have hq:(kC (ay s [])[i]!).take (k+1)=_:=hq;rw[show(kC (ay s [])[i]!).take k++[(dc (c9 (ah (ay s [])[i]! 44)[k]!)).getD cZ]=(kC (ay s [])[i]!).take (k+1)from hq.symm];exact⟨k+1,⟨by omega,by rw[hwk,aH (by omega),hsm];rfl⟩,by omega,(aX.to [(0,0),(5,5),(1,1),(37,2)] ae ae dt (by(first|refine aO.eS ae ae cN ?_|refine aO.lg ae ae ae ?_|refine aO.mb ae ae ae ae ?_);(first|refine aO.eS ae ae cN ?_|refine aO.lg ae ae ae ?_|refine aO.mb ae ae ae ae ?_);(first|refine aO.eS ae ae cN ?_|refine aO.lg ae ae ae ?_|refine aO.mb ae ae ae ae ?_);refine aO.nl 37 ae ae ae cN ?_;exact aO.nil))⟩
  refine ar ?_;refine eu 2 ?_ (he:=by simp only[jr,fq,fV,ke,k9,bS,Nat.reduceEqDiff,if_true,if_false,and_self,true_and,and_true,false_and,and_false,Nat.zero_add,List.length_map,Nat.le_refl,List.drop_zero,aE,reduceCtorEq,List.length_cons,List.length_nil,Nat.reduceAdd,Nat.reduceLeDiff,mi];exact rfl) (hm:=by simp only[jr,fq,fV,ke,k9,bS,Nat.reduceEqDiff,if_true,if_false,and_self,true_and,and_true,false_and,and_false,Nat.zero_add,List.length_map,Nat.le_refl,List.drop_zero,aE,reduceCtorEq,List.length_cons,List.length_nil,Nat.reduceAdd,Nat.reduceLeDiff,mi];exact rfl);refine aC ?_;obtain rfl:k=(ah (ay s [])[i]! 44).length:=by omega
  rw[List.take_of_length_le (show(kC (ay s [])[i]!).length≤(ah (ay s [])[i]! 44).length by simp[kC])];refine aC ?_;refine bc (v:=.own _ _ _ _) ?_;refine aC ?_;refine cx [n9 (kC (ay s [])[i]!)] ?_;refine ar ?_;refine aL (.agg [.own 24 1 0 ((fK s).take i++[kC (ay s [])[i]!]).length]) (he:=by exact rfl) ?_;refine aV ?_;have hq:(fK s).take (i+1)=(fK s).take i++[kC (ay s [])[i]!]:=fO kC (ay s []) (show i<(ay s []).length by omega);rw[←hq];exact⟨i+1,⟨by omega,by rw[hr,aH (by omega),hwk,bE (by omega)];rfl⟩,by omega,(aX.to [(0,0),(5,5),(24,1)] ae ae dt (by(first|refine aO.eS ae ae cN ?_|refine aO.lg ae ae ae ?_|refine aO.mb ae ae ae ae ?_);(first|refine aO.eS ae ae cN ?_|refine aO.lg ae ae ae ?_|refine aO.mb ae ae ae ae ?_);refine aO.nl 24 ae ae ae cN ?_;exact aO.nil))⟩
 refine av ?_;refine eu 1 ?_ (he:=by simp only[jr,fq,fV,ke,k9,bS,Nat.reduceEqDiff,if_true,if_false,and_self,true_and,and_true,false_and,and_false,Nat.zero_add,List.length_map,Nat.le_refl,List.drop_zero,aE,reduceCtorEq,List.length_cons,List.length_nil,Nat.reduceAdd,Nat.reduceLeDiff,mi];exact rfl) (hm:=by simp only[jr,fq,fV,ke,k9,bS,Nat.reduceEqDiff,if_true,if_false,and_self,true_and,and_true,false_and,and_false,Nat.zero_add,List.length_map,Nat.le_refl,List.drop_zero,aE,reduceCtorEq,List.length_cons,List.length_nil,Nat.reduceAdd,Nat.reduceLeDiff,mi];exact rfl);refine aC ?_;obtain rfl:i=(ay s []).length:=by omega
 have hok:vS s=true:=by rw[hr,bE (by omega)]
 rw[List.take_of_length_le (show(fK s).length≤(ay s []).length by simp[fK])];have hrs:=zr (s:=s) (by omega);refine cG (d:=dy (fK s)) ?_;refine ak (hc:=h684 (fK s) hrs) ?_;refine fM ?_;refine aq (fun hc4=>?_) (fun hc4=>?_)
 ·simp only[Bool.not_eq_true']at hc4;refine ar ?_;refine fT [.az] ?_;refine aL (.agg [.az]) (he:=by exact rfl) ?_;refine av ?_;refine bC (aF ?_ (congrArg (D.int .i64) ?_));all_goals
   have hq:eK s=([],6):=by
    unfold eK;rw[if_neg (by omega),if_neg (by rw[hok];simp),if_pos hc4]
   rw[hq];first|done|rfl
 simp only[Bool.not_eq_false']at hc4;refine av ?_;refine cG (d:=dy (fK s)) ?_;refine ak (hc:=h685 (fK s) hrs) ?_;refine ar ?_;refine aq (fun hc5=>?_) (fun hc5=>?_)
 ·simp only[Bool.not_eq_true',nW,hc4,Bool.true_and,decide_eq_false_iff_not]at hc5;refine ar ?_;refine fT [.az] ?_;refine aL (.agg [.az]) (he:=by exact rfl) ?_;refine av ?_;refine bC (aF ?_ (congrArg (D.int .i64) ?_));all_goals
   have hq:eK s=([],3):=by
    unfold eK;rw[if_neg (by omega),if_neg (by rw[hok];simp),if_neg (by rw[hc4];simp),if_pos (by omega)]
   rw[hq];first|done|rfl
 simp only[Bool.not_eq_false',nW,hc4,Bool.true_and,decide_eq_true_eq]at hc5;refine ar ?_;refine cG (d:=dy (fK s)) ?_;refine aL (dy (fK s)) (he:=by exact rfl) ?_;refine av ?_;refine bC (aF ?_ (congrArg (D.int .i64) ?_));all_goals
  have hq:eK s=(fK s,0):=by
   unfold eK;rw[if_neg (by omega),if_neg (by rw[hok];simp),if_neg (by rw[hc4];simp),if_neg (by omega)]
  rw[hq];first|done|rfl
def NW (Γ:Ctx):Prop:=∀(s:ai),(s.length≤1048576)→Γ.pre 495 [.str s]∧Γ.val 495 [.str s]=.tup [dy (eK s).1,.int .i64 (eK s).2]
end Go.Abs
end
section
namespace Go.Abs
open Go
def wW:aB:=⟨1,4,gG,bO,(sq (r1 [gm ct] 1 0) (sq (rg [gm s0,gx 495 [l0] bO,gm l1,ge l2 0,ge l2 1,gb 1 (.c (.agg [.az])),gt 1 l5 l3,gm l4] [(3,5),(2,7)]) (sq (r1 [gm s2,aG l0 bh,gm l1,bZ 2 (.ld 1 true s3),bZ 2 (.call 496 [l3] [[.sl 1 [.sl 7 [.a,.a,.a,.a,.a,.a,.a]]]]),gmt 2 s0,bZ 2 (ca l4 l5),dZ l2 l6,gm l7] 1 8) .ret)))⟩
def w444 {Γ:Ctx}(hm:(Γ.at 0).a8)(h495:NW Γ)(h496:NX Γ)(s:ai)  (hp0:s.length≤1048576):dq Γ wW (.bool (nF s)) [.str s]:=by
 show bz _ _ _ [⟨_,_⟩,_,_,_] _;refine aj ?_;refine ax ?_;refine ak (hc:=h495 s hp0) ?_;refine aC ?_;refine dU (dy _) ?_;refine ar ?_;refine aL (dy (eK s).1) (he:=by exact rfl) ?_;refine aA ?_;refine cG (d:=dy (eK s).1) ?_;refine fB (hc:=fun hf=>h496 (eK s).1 D9.1) ?_;refine aA ?_;exact br rfl
def ND (Γ:Ctx):Prop:=∀(s:ai),(s.length≤1048576)→Γ.pre 444 [.str s]∧Γ.val 444 [.str s]=.bool (nF s)
end Go.Abs
end
