/- A part of the proofs of the statements: U4, U5, U6, U7, U8, U8b, U9, U10, U11, U12, U13, U14, U15, U16, U17, UX, U18, U19, V1, V2. -/
import Derived.Test.YtpdlhpamcaocgaaGreatDoorP06
set_option linter.all false
set_option maxRecDepth 4000
section
namespace Go.Abs
open Go
def yx:az:=⟨1,18,fg,bL,(sq (r1 [gm cH] 1 0) (sq (sq (r1 [gm s0,gl l0,cg l1 AB] 2 2) (jh s2 cH)) (sq (sq (rg [gm s0,gl l0,gm bc] [(6,0),(4,1),(3,2)]) (.block 0 (.loop (sq (r1 [aJ s3 s4] 5 0) (sq (ek s5 0) (sq (.block 1 (sq (rg [gm s3,ga 2 s6 s3,gk 2 true l1,gb 2 (.c (.agg [.str [],.aF])),gm l0,gt 2 l3 l2] [(7,3),(8,4)]) (sq (sq (r2 [gf 0 s7,gd l0,gx 349 [l1] bL,iR l2,gm l3,dt 4 s8,bP 4 (cC l5 bc),dt 4 l6,gmt 7 s0,gmt 7 s8,bR 7 (hZ l9 bV),bR 7 (.ia 2 l8 l10),kX 7 0 gh,jC 7 iq,kX 7 0 s7,jC 7 jZ,bR 7 (rk jD lz),yD 4 l7 mw,dL l4 oC,gm pd,gT 19 1 s7,hJ 19 tt,bP 19 (.len uU),bP 19 (cC vJ tm),dL qk zY,gm zZ,gT 25 1 s7,hJ 25 D8,bP 25 (.call 447 [GC] [[.sl 1 [.a]]]),bP 25 (.un .not HD),dL BW HE] 9 30) (jh s9 cH)) (sq (rg [gf 1 s7,gd l0,gl l1,gm bc] [(13,1),(11,2),(10,3)]) (.block 2 (.loop (sq (r1 [aJ jR lf] 12 0) (sq (ek lE 2) (sq (.block 3 (sq (r1 [ga 1 oO jR,gd l0,gm l1] 14 2) (sq (rg [gm rL,gx 448 [l0] bL,gm l1,ge l2 0,ge l2 1,ge l2 2,gm l3,gm l4,gm l5] [(15,6),(16,7)]) (sq (r1 [gm qU,aH l0 bc,gm l1,dt 2 qU,bP 2 (bY l3 bV),dt 2 l4,gmt 5 s0,gmt 5 z6,bR 5 (.call 449 [l6,l7] [[.sl 2 [.a,.sl 1 [.a]]],[.a]]),bR 5 (.un .not l8),yD 2 l5 l9,dL l2 l10] 17 11) (jh zy cH))))) (r1 [ar jR bV,gm l0] 10 1)))))))))) (r1 [ar s3 bV,gm l0] 3 1))))))) (rU mX))))⟩
def w213 {Γ:Ctx}(hm:(Γ.at 0).aY)(h349:Aa Γ)(h447:LH Γ)(h448:I5 Γ)(h449:LI Γ)(l:List bz)  (hp0:mj l):c7 Γ yx (.bool (eI l)) [.sl 2 (l.map bz.D)]:=by
 show bq _ _ _ [⟨_,_⟩,_,_,_,_,_,_,_,_,_,_,_,_,_,_,_,_,_] _;refine ai ?_;refine aA ?_;intro u0;refine au ?_;refine ca (fun hc0=>?_) fun hc0=>?_
 ·refine aI ?_;refine bp ?_;symm;simp only[eI];rw[decide_eq_false (by omega)];rfl
 refine aI ?_;intro u1;refine au ?_;have hb:eI l=bJ (gJ l) 0 l.length:=by simp only[eI];rw[decide_eq_true (by omega)];rfl
 refine aV hm (ι:=Nat) (fun i=>[⟨true,.sl 2 (l.map bz.D)⟩,.un,.un,⟨true,.int .i64 (i:Nat)⟩,⟨true,.int .i64 (l.length:Nat)⟩,.un,⟨true,.sl 2 (l.map bz.D)⟩,.un,.un,.un,.un,.un,.un,.un,.un,.un,.un,.un]) (fun i=>[]) 7 (fun i=>i≤l.length∧eI l=bJ (gJ l) i l.length) (fun i=>l.length-i) 0 ⟨by omega,hb⟩ (cI []) ?_;rintro i ⟨hi,hr⟩;refine av ?_;refine ca (fun hc1=>?_) fun hc1=>?_
 ·refine aI ?_;first|refine bQ (v:=(bz.D _)) ?_|refine ef (v:=(bz.D _)) ?_
  refine au ?_;refine aR (bz.D l[i]!) (he:=by exact rfl) ?_;refine aI ?_;refine ak (hc:=h349 _) ?_;refine bt ?_;refine bO (i-1) ?_;refine gC ?_;refine hX ?_;refine aI ?_;refine ak (hc:=h447 _) ?_;refine av ?_;refine aq (fun hc2=>?_) (fun hc2=>?_)
  ·have hfo:=C2 hc2;refine aQ ?_;refine bp ?_;rw[hr,aD (by omega),hfo];rfl
  have hfo:=C3 hc2;refine aI ?_;intro u2;refine au ?_;refine ll hm (ι:=Nat) (fun j=>[⟨true,.sl 2 (l.map bz.D)⟩,.un,.un,⟨true,.int .i64 (i:Nat)⟩,⟨true,.int .i64 (l.length:Nat)⟩,.un,⟨true,.sl 2 (l.map bz.D)⟩,.un,.un,.un,⟨true,.int .i64 (j:Nat)⟩,⟨true,.int .i64 (l[i]!.of.length:Nat)⟩,.un,⟨true,.sl 1 (l[i]!.of.map D.str)⟩,.un,.un,.un,.un]) (fun j=>[]) 49 (fun j=>j≤l[i]!.of.length∧gJ l i=bJ (fun j=>iS l l[i]!.of[j]!) j l[i]!.of.length) (fun j=>l[i]!.of.length-j) 0 ⟨by omega,hfo⟩ (cI []) ?_;rintro j ⟨hj,hjr⟩;refine av ?_;refine ca (fun hc3=>?_) fun hc3=>?_
  ·refine cB ?_;refine ak (hc:=h448 l[i]!.of[j]! ((hp0 _ (bw (by omega))).2.2 _ (bw (by omega)))) ?_;refine uL ?_;refine ak (hc:=h449 _ _) ?_;refine ax ?_;refine wp_cond (fun hc4=>?_) (fun hc4=>?_)
   ·have hz:iS l l[i]!.of[j]! =false:=by simp only[iS,hc4];rfl
    refine bt ?_;refine bp ?_;rw[hr,aD (by omega),hjr,aD (by omega),hz];rfl
   have hz:iS l l[i]!.of[j]! =true:=by simp only[iS,hc4];rfl
   refine aQ ?_;exact⟨j+1,⟨by omega,by rw[hjr,aD (by omega),hz];rfl⟩,by omega,(cI [])⟩
  refine bt ?_;exact⟨i+1,⟨by omega,by rw[hr,aD (by omega),hjr,bA (by omega)];rfl⟩,by omega,(cI [])⟩
 refine aA ?_;refine bp ?_;rw[hr,bA (by omega)]
def Lp (Γ:Ctx):Prop:=∀(l:List bz),(mj l)→Γ.pre 213 [.sl 2 (l.map bz.D)]∧Γ.val 213 [.sl 2 (l.map bz.D)]=.bool (eI l)
end Go.Abs
end
section
namespace Go.Abs
open Go
def DI:az:=⟨1,11,fg,bL,(sq (r1 [gm cse] 1 0) (sq (sq (r1 [gm s0] 2 0) (.block 0 (sq (r1 [aH s2 bV,gm l0] 3 1) (.cond s3 (sq (r1 [gm (cs [61])] 1 0) .ret) (sq (r1 [aH s2 lM,gm l0] 4 1) (.cond s4 (sq (r1 [gm (cs [33,61])] 1 0) .ret) (sq (r1 [aH s2 kr,gm l0] 5 1) (.cond s5 (sq (r1 [gm (cs [60])] 1 0) .ret) (sq (r1 [aH s2 tl,gm l0] 6 1) (.cond s6 (sq (r1 [gm (cs [60,61])] 1 0) .ret) (sq (r1 [aH s2 GA,gm l0] 7 1) (.cond s7 (sq (r1 [gm (cs [62])] 1 0) .ret) (sq (r1 [aH s2 tm,gm l0] 8 1) (.cond s8 (sq (r1 [gm (cs [62,61])] 1 0) .ret) (sq (r1 [aH s2 E1,gm l0] 9 1) (.cond s9 (sq (r1 [gm (cs [94])] 1 0) .ret) (sq (r1 [aH s2 AB,gm l0] 10 1) (.cond jR (sq (r1 [gm (cs [126])] 1 0) .ret) .skip)))))))))))))))))) (rU cse)))⟩
def w678 {Γ:Ctx}(hm:(Γ.at 0).aY)  (op:Int)   :c7 Γ DI (.str (cj op)) [.int .i64 op]:=by
 show bq _ _ _ [⟨_,_⟩,_,_,_,_,_,_,_,_,_,_] _;refine ai ?_;refine eB ?_;refine eW (fun hc0=>?_) fun hc0=>?_
 ·refine aI ?_;refine b8 ?_;unfold cj;simp_all
 refine ax ?_;refine eW (fun hc1=>?_) fun hc1=>?_
 ·refine aI ?_;refine b8 ?_;unfold cj;simp_all
 refine ax ?_;refine eW (fun hc2=>?_) fun hc2=>?_
 ·refine aI ?_;refine b8 ?_;unfold cj;simp_all
 refine ax ?_;refine eW (fun hc3=>?_) fun hc3=>?_
 ·refine aI ?_;refine b8 ?_;unfold cj;simp_all
 refine ax ?_;refine eW (fun hc4=>?_) fun hc4=>?_
 ·refine aI ?_;refine b8 ?_;unfold cj;simp_all
 refine ax ?_;refine eW (fun hc5=>?_) fun hc5=>?_
 ·refine aI ?_;refine b8 ?_;unfold cj;simp_all
 refine ax ?_;refine eW (fun hc6=>?_) fun hc6=>?_
 ·refine aI ?_;refine b8 ?_;unfold cj;simp_all
 refine ax ?_;refine eW (fun hc7=>?_) fun hc7=>?_
 ·refine aI ?_;refine b8 ?_;unfold cj;simp_all
 refine aA ?_;refine b8 ?_;unfold cj;simp_all
def Jo (Γ:Ctx):Prop:=∀(op:Int),Γ.pre 678 [.int .i64 op]∧Γ.val 678 [.int .i64 op]=.str (cj op)
def CX:az:=⟨1,11,fg,bL,(sq (r1 [gm cse] 1 0) (sq (sq (r1 [gm s0] 2 0) (.block 0 (sq (r1 [aH s2 bV,gm l0] 3 1) (.cond s3 (sq (r1 [gm (cs [61])] 1 0) .ret) (sq (r1 [aH s2 lM,gm l0] 4 1) (.cond s4 (sq (r1 [gm (cs [33,61])] 1 0) .ret) (sq (r1 [aH s2 kr,gm l0] 5 1) (.cond s5 (sq (r1 [gm (cs [60])] 1 0) .ret) (sq (r1 [aH s2 tl,gm l0] 6 1) (.cond s6 (sq (r1 [gm (cs [60,61])] 1 0) .ret) (sq (r1 [aH s2 GA,gm l0] 7 1) (.cond s7 (sq (r1 [gm (cs [62])] 1 0) .ret) (sq (r1 [aH s2 tm,gm l0] 8 1) (.cond s8 (sq (r1 [gm (cs [62,61])] 1 0) .ret) (sq (r1 [aH s2 E1,gm l0] 9 1) (.cond s9 (sq (r1 [gm (cs [94])] 1 0) .ret) (sq (r1 [aH s2 AB,gm l0] 10 1) (.cond jR (sq (r1 [gm (cs [126])] 1 0) .ret) .skip)))))))))))))))))) (rU cse)))⟩
def w957 {Γ:Ctx}(hm:(Γ.at 0).aY)  (op:Int)   :c7 Γ CX (.str (cj op)) [.int .i64 op]:=by
 show bq _ _ _ [⟨_,_⟩,_,_,_,_,_,_,_,_,_,_] _;refine ai ?_;refine eB ?_;refine eW (fun hc0=>?_) fun hc0=>?_
 ·refine aI ?_;refine b8 ?_;unfold cj;simp_all
 refine ax ?_;refine eW (fun hc1=>?_) fun hc1=>?_
 ·refine aI ?_;refine b8 ?_;unfold cj;simp_all
 refine ax ?_;refine eW (fun hc2=>?_) fun hc2=>?_
 ·refine aI ?_;refine b8 ?_;unfold cj;simp_all
 refine ax ?_;refine eW (fun hc3=>?_) fun hc3=>?_
 ·refine aI ?_;refine b8 ?_;unfold cj;simp_all
 refine ax ?_;refine eW (fun hc4=>?_) fun hc4=>?_
 ·refine aI ?_;refine b8 ?_;unfold cj;simp_all
 refine ax ?_;refine eW (fun hc5=>?_) fun hc5=>?_
 ·refine aI ?_;refine b8 ?_;unfold cj;simp_all
 refine ax ?_;refine eW (fun hc6=>?_) fun hc6=>?_
 ·refine aI ?_;refine b8 ?_;unfold cj;simp_all
 refine ax ?_;refine eW (fun hc7=>?_) fun hc7=>?_
 ·refine aI ?_;refine b8 ?_;unfold cj;simp_all
 refine aA ?_;refine b8 ?_;unfold cj;simp_all
def Jy (Γ:Ctx):Prop:=∀(op:Int),Γ.pre 957 [.int .i64 op]∧Γ.val 957 [.int .i64 op]=.str (cj op)
def zr:az:=⟨2,3,[⟨2,none⟩],bL,(sq (r1 [gm cH] 2 0) (sq (r1 [gm s0,lG l0,gm s1,lG l2,fD l1 l3,gm l4,gmt 5 s0,gmt 5 s1,bR 5 (.lenS l7),bR 5 (.slS l6 none (some l8)),gmt 5 s1,bR 5 (bY l9 l10),dG l5 gh,gm iq] 2 13) .ret))⟩
def Oz {Γ:Ctx}(hm:(Γ.at 0).aY)  (s:ah)(w:ah)   :c7 Γ zr (.bool (mM s w)) [.str s,.str w]:=by
 show bq _ _ _ [⟨_,_⟩,⟨_,_⟩,_] _;refine ai ?_;refine aI ?_;intro u0;refine au ?_;intro u1;refine ax ?_;refine hX ?_;refine lX w.length (hj:=fun _=>rfl) (hb:=fun h=>by simp at h;omega) ?_;refine aA ?_;refine bp ?_;unfold mM;rw[show decide ((w.length:Int)≤(s.length:Int))=decide (w.length≤s.length)from decide_eq_decide.2 (by omega)]
def Ik (Γ:Ctx):Prop:=∀(s:ah)(w:ah),Γ.pre 1079 [.str s,.str w]∧Γ.val 1079 [.str s,.str w]=.bool (mM s w)
def yq:az:=⟨2,3,[⟨2,none⟩],bL,(sq (r1 [gm cH] 2 0) (sq (r1 [gm s0,lG l0,gm s1,lG l2,fD l1 l3,gm l4,gmt 5 s0,gmt 5 s1,bR 5 (.lenS l7),bR 5 (.slS l6 none (some l8)),gmt 5 s1,bR 5 (bY l9 l10),dG l5 gh,gm iq] 2 13) .ret))⟩
def w956 {Γ:Ctx}(hm:(Γ.at 0).aY)  (s:ah)(w:ah)   :c7 Γ yq (.bool (mM s w)) [.str s,.str w]:=by
 show bq _ _ _ [⟨_,_⟩,⟨_,_⟩,_] _;refine ai ?_;refine aI ?_;intro u0;refine au ?_;intro u1;refine ax ?_;refine hX ?_;refine lX w.length (hj:=fun _=>rfl) (hb:=fun h=>by simp at h;omega) ?_;refine aA ?_;refine bp ?_;unfold mM;rw[show decide ((w.length:Int)≤(s.length:Int))=decide (w.length≤s.length)from decide_eq_decide.2 (by omega)]
def Mv (Γ:Ctx):Prop:=∀(s:ah)(w:ah),Γ.pre 956 [.str s,.str w]∧Γ.val 956 [.str s,.str w]=.bool (mM s w)
end Go.Abs
end
section
namespace Go.Abs
open Go
def F2:az:=⟨1,8,fg,bL,(sq (rg [gb 7 s0,gm cH] [(2,0),(1,1)]) (sq (sq (r1 [gf 0 s2,gd l0,aJ l1 bV,gm l2,gT 3 0 s2,hJ 3 l4,bP 3 (cC l5 Db),dL l3 l6,gm l7,gT 8 2 s2,bP 8 (.ld 5 true l9),bP 8 (.call 217 [l10] D7),bP 8 (.un .not gh),dL l8 iq,gm jD,gT 14 2 s2,gT 14 4 lz,hJ 14 mw,bP 14 (eF oC cse),dL jZ pd] 3 19) (jh s3 cH)) (sq (rg [gm bV,gm kr] [(5,0),(6,1)]) (sq (sq (r1 [gf 0 s2,gd l0,aH l1 Db] 4 2) (.cond s4 (rg [gm bc,gm lM] [(5,0),(6,1)]) .skip)) (sq (sq (r1 [gf 1 s2,gd l0,gm s5,aJ l1 l2,gm l3,gT 4 1 s2,hJ 4 l5,dt 4 s6,bP 4 (cC l6 l7),dL l4 l8,gm l9,gT 10 1 s2,hJ 10 gh,bP 10 (pK iq kr),dt 10 jD,kX 14 2 s2,kX 14 3 lz,jC 14 mw,bR 14 (eF oC cse),yD 10 jZ pd,dL l10 qk] 7 20) (jh s7 cH)) (sq (r1 [gf 1 s2,gd l0,cg l1 bc,gm l2,gT 3 2 s2,gT 3 0 l4,hJ 3 l5,bP 3 (bY l6 bc),dL l3 l7,gm l8,kX 9 1 s2,jC 9 l10,bR 9 (cC gh bV),gmt 9 iq,gT 13 2 s2,gT 13 1 jZ,hJ 13 lz,bP 13 (bY mw bc),J0 9 jD oC,dG l9 pd,gm qk,kX 20 1 s2,jC 20 uU,bR 20 (cC vJ lM),gmt 20 zY,gT 24 2 s2,gT 24 2 BW,hJ 24 D8,bP 24 (bY GC bc),J0 20 zZ HD,dG tt HE,gm J7] 1 31) .ret))))))⟩
def w676 {Γ:Ctx}(hm:(Γ.at 0).aY)(h217:GN Γ)(c:b9)  (hp0:c.v.sm):c7 Γ F2 (.bool (iO c)) [b9.D c]:=by
 show bq _ _ _ [⟨_,_⟩,_,_,_,_,_,_,_] _;refine ai ?_;refine uJ ?_;refine cX (v:=dc.D c.v) ?_;refine eK (hc:=fun hf=>h217 c.v hp0) ?_;refine cB ?_;refine aq (fun hc0=>?_) (fun hc0=>?_)
 ·have hq:=yp hc0;refine aI ?_;refine bp ?_;rw[hq]
 have hy:=vx hc0;refine eB ?_;refine aq (fun hc1=>?_) (fun hc1=>?_)
 ·simp only[decide_eq_true_eq]at hc1;have hz:=nX hy (lo:=0) (hi:=2) (if_pos hc1) (if_pos hc1);refine Gy ?_;refine aq (fun hc2=>?_) (fun hc2=>?_)
  ·rw[hc2]at hz;refine aI ?_;refine bp ?_;rw[hz];rfl
  rw[hc2]at hz;refine IZ ?_;refine bp ?_;rw[hz];rfl
 simp only[decide_eq_false_iff_not]at hc1;have hz:=nX hy (lo:=1) (hi:=3) (if_neg hc1) (if_neg hc1);refine IY ?_;refine aq (fun hc2=>?_) (fun hc2=>?_)
 ·rw[hc2]at hz;refine aI ?_;refine bp ?_;rw[hz];rfl
 rw[hc2]at hz;refine IZ ?_;refine bp ?_;rw[hz];rfl
def Jm (Γ:Ctx):Prop:=∀(c:b9),(c.v.sm)→Γ.pre 676 [b9.D c]∧Γ.val 676 [b9.D c]=.bool (iO c)
def EI:az:=⟨1,14,fg,bL,(sq (rg [gb 7 s0,gm cH] [(2,0),(1,1)]) (sq (sq (r1 [gf 0 s2,gd l0,aJ l1 bV,gm l2,gT 3 0 s2,hJ 3 l4,bP 3 (cC l5 Db),dL l3 l6,gm l7,gT 8 2 s2,bP 8 (.ld 5 true l9),bP 8 (.call 209 [l10] D7),bP 8 (.un .not gh),dL l8 iq,gm jD,gT 14 2 s2,gT 14 4 lz,hJ 14 mw,bP 14 (eF oC cse),dL jZ pd] 3 19) (jh s3 cH)) (sq (rg [gm bV,gm kr] [(5,0),(6,1)]) (sq (sq (r1 [gf 0 s2,gd l0,aH l1 Db] 4 2) (.cond s4 (rg [gm bc,gm lM] [(5,0),(6,1)]) .skip)) (sq (sq (r1 [gf 1 s2,gd l0,gm s5,aJ l1 l2,gm l3,gT 4 1 s2,hJ 4 l5,dt 4 s6,bP 4 (cC l6 l7),dL l4 l8,gm l9,gT 10 2 s2,gT 10 3 gh,hJ 10 iq,bP 10 (eF jD cse),dt 10 jZ,kX 15 1 s2,jC 15 mw,bR 15 (pK oC kr),yD 10 lz pd,dL l10 qk] 7 20) (jh s7 cH)) (sq (sq (r1 [gf 1 s2,gd l0] 8 1) (.block 0 (sq (.block 3 (sq (.block 2 (sq (.block 1 (sq (sq (sq (r1 [aH s8 bc,gm l0] 9 1) (.cond s9 (.exit 1) .skip)) (sq (sq (r1 [aH s8 bV,gm l0] 10 1) (.cond jR (.exit 2) .skip)) (sq (r1 [aH s8 lM,gm l0] 11 1) (.cond lf (.exit 3) .skip)))) (.exit 0))) (sq (r1 [gf 2 s2,gf 0 l0,gd l1,bZ l2 bc] 12 3) (jh lE cH)))) (sq (r1 [gf 2 s2,gf 1 l0,gd l1,bZ l2 bc] 13 3) (jh oO cH)))) (sq (sq (r1 [gf 2 s2,gf 2 l0,gd l1,aH l2 bc,gm l3] 1 4) .ret) (.exit 0))))) (rU mX)))))))⟩
def w827 {Γ:Ctx}(hm:(Γ.at 0).aY)(h209:Ei Γ)(c:b9)  (hp0:c.v.sm):c7 Γ EI (.bool (iO c)) [b9.D c]:=by
 show bq _ _ _ [⟨_,_⟩,_,_,_,_,_,_,_,_,_,_,_,_,_] _;refine ai ?_;refine uJ ?_;refine cX (v:=dc.D c.v) ?_;refine eK (hc:=fun hf=>h209 c.v hp0) ?_;refine cB ?_;refine aq (fun hc0=>?_) (fun hc0=>?_)
 ·have hq:=yp hc0;refine aI ?_;refine bp ?_;rw[hq]
 have hy:=vx hc0;refine eB ?_;refine aq (fun hc1=>?_) (fun hc1=>?_)
 ·simp only[decide_eq_true_eq]at hc1;have hz:=nX hy (lo:=0) (hi:=2) (if_pos hc1) (if_pos hc1);refine Gy ?_;refine aq (fun hc2=>?_) (fun hc2=>?_)
  ·rw[Bool.and_comm (!decide (c.v.pre=[]))]at hc2;rw[hc2]at hz;refine aI ?_;refine bp ?_;rw[hz];simp[mN]<;>simp_all<;>omega
  rw[Bool.and_comm (!decide (c.v.pre=[]))]at hc2;rw[hc2]at hz;refine uK ?_;refine ca (fun hc3=>?_) fun hc3=>?_
  ·refine bt ?_;refine eW (fun hc6=>?_) fun hc6=>?_
   ·refine aQ ?_;refine bp ?_;rw[hz];simp[mN]<;>simp_all<;>omega
   refine bt ?_;refine eW (fun hc7=>?_) fun hc7=>?_
   ·refine aA ?_;refine bp ?_;rw[hz];simp[mN]<;>simp_all<;>omega
   refine gD ?_;refine bp ?_;rw[hz];simp[mN]<;>simp_all<;>omega
  refine aQ ?_;refine ca (fun hc4=>?_) fun hc4=>?_
  ·refine cB ?_;refine eW (fun hc7=>?_) fun hc7=>?_
   ·refine aA ?_;refine bp ?_;rw[hz];simp[mN]<;>simp_all<;>omega
   refine gD ?_;refine bp ?_;rw[hz];simp[mN]<;>simp_all<;>omega
  refine aA ?_;refine ca (fun hc5=>?_) fun hc5=>?_
  ·refine uI ?_;refine bp ?_;rw[hz];simp[mN]<;>simp_all<;>omega
  refine gC ?_;refine bp ?_;rw[hz];simp[mN]<;>simp_all<;>omega
 simp only[decide_eq_false_iff_not]at hc1;have hz:=nX hy (lo:=1) (hi:=3) (if_neg hc1) (if_neg hc1);refine IY ?_;refine aq (fun hc2=>?_) (fun hc2=>?_)
 ·rw[Bool.and_comm (!decide (c.v.pre=[]))]at hc2;rw[hc2]at hz;refine aI ?_;refine bp ?_;rw[hz];simp[mN]<;>simp_all<;>omega
 rw[Bool.and_comm (!decide (c.v.pre=[]))]at hc2;rw[hc2]at hz;refine uK ?_;refine ca (fun hc3=>?_) fun hc3=>?_
 ·refine bt ?_;refine eW (fun hc6=>?_) fun hc6=>?_
  ·refine aQ ?_;refine bp ?_;rw[hz];simp[mN]<;>simp_all<;>omega
  refine bt ?_;refine eW (fun hc7=>?_) fun hc7=>?_
  ·refine aA ?_;refine bp ?_;rw[hz];simp[mN]<;>simp_all<;>omega
  refine gD ?_;refine bp ?_;rw[hz];simp[mN]<;>simp_all<;>omega
 refine aQ ?_;refine ca (fun hc4=>?_) fun hc4=>?_
 ·refine cB ?_;refine eW (fun hc7=>?_) fun hc7=>?_
  ·refine aA ?_;refine bp ?_;rw[hz];simp[mN]<;>simp_all<;>omega
  refine gD ?_;refine bp ?_;rw[hz];simp[mN]<;>simp_all<;>omega
 refine aA ?_;refine ca (fun hc5=>?_) fun hc5=>?_
 ·refine uI ?_;refine bp ?_;rw[hz];simp[mN]<;>simp_all<;>omega
 refine gC ?_;refine bp ?_;rw[hz];simp[mN]<;>simp_all<;>omega
def GW (Γ:Ctx):Prop:=∀(c:b9),(c.v.sm)→Γ.pre 827 [b9.D c]∧Γ.val 827 [b9.D c]=.bool (iO c)
end Go.Abs
end
section
namespace Go.Abs
open Go
def As:az:=⟨1,16,fg,bL,(sq (rg [gb 7 s0,gm cse] [(2,0),(1,1)]) (sq (sq (r1 [gk 7 true s2,gx 827 [l0] Hr,iR l1] 3 2) (jh s3 cse)) (sq (r1 [gf 0 s2,gd l0,gx 957 [l1] bL,gm l2] 11 3) (sq (sq (rg [gf 2 s2,gf 0 l0,gd l1,gf 2 s2,gf 1 l3,gd l4,gf 2 s2,gf 2 l6,gd l7,gn (.bsl 1 (.int .i64 0) 3 [(0,l2),(1,l5),(2,l8)]),gl l9,gm bc] [(7,9),(5,10),(4,11)]) (.block 0 (.loop (sq (r1 [aJ s4 s5] 6 0) (sq (ek s6 0) (sq (.block 1 (sq (rg [gm s4,ga 1 s7 s4,gd l1,gm l0,gm l2] [(8,3),(12,4)]) (sq (sq (r1 [gm s8,gf 1 s2,gd l1,fD l0 l2] 9 3) (.cond s9 (.exit 0) .skip)) (sq (sq (r1 [gm s8,cg l0 bc] 10 1) (.cond jR (r1 [gm lf,ar l0 (cs [46]),gm l1] 11 2) .skip)) (r1 [gm lf,gm lE,gx 665 [l1] bL,ar l0 l2,gm l3] 11 4))))) (r1 [ar s4 bV,gm l0] 4 1))))))) (sq (sq (r1 [gf 0 s2,gd l0,aH l1 Db] 13 2) (.cond oO (sq (sq (r1 [gf 1 s2,gd l0,cg l1 bc] 14 2) (.cond rL (r1 [gm lf,ar l0 (cs [46]),gm l1] 11 2) .skip)) (sq (r1 [gm lf,ar l0 (cs [42]),gm l1] 1 2) .ret)) .skip)) (sq (sq (r1 [gf 2 s2,gf 3 l0,gd l1,bZ l2 cse] 15 3) (.cond qU (r1 [gm lf,gf 2 s2,gf 3 l1,gd l2,ar (cs [45]) l3,ar l0 l4,gm l5] 11 6) .skip)) (sq (r1 [gm lf,gm l0] 1 1) .ret)))))))⟩
def w828 {Γ:Ctx}(hm:(Γ.at 0).aY)(h665:Ji Γ)(h827:GW Γ)(h957:Jy Γ)(c:b9)  (hp0:c.v.sm):c7 Γ As (.str (cD c)) [b9.D c]:=by
 show bq _ _ _ [⟨_,_⟩,_,_,_,_,_,_,_,_,_,_,_,_,_,_,_] _;refine ai ?_;refine aA ?_;refine ak (hc:=h827 _ ?_) ?_;rotate_left;first|assumption|omega
 refine au ?_;refine aq (fun hc0=>?_) (fun hc0=>?_)
 ·simp only[Bool.not_eq_true']at hc0;refine aI ?_;refine b8 ?_;simp[cD,hc0]
 simp only[Bool.not_eq_false']at hc0;obtain⟨hv,hp1,hp2,hp3,hp4⟩:=lL hc0;have hsl:=qV c.op;have hnl:=om hv;refine ax ?_;refine ak (hc:=h957 _) ?_;refine kN ?_;refine cF [(.int _ _),(.int _ _),(.int _ _)] ?_;refine aC ?_;intro u0;refine au ?_;refine fM 18 ?_;refine aV hm (ι:=Nat) (fun i=>[.un,.un,⟨true,.ptr 0 7 0 0⟩,.un,⟨true,.int .i64 (i:Nat)⟩,⟨true,.int .i64 3⟩,.un,⟨true,.sl 1 (c.js.map (D.int .i64))⟩,.un,.un,.un,⟨true,.str (cj c.op++dT c i)⟩,.un,.un,.un,.un]) (fun i=>[(0,.buf 7 [b9.D c])]) 21 (fun i=>i≤3∧i≤c.parts.toNat) (fun i=>3-i) 0 ⟨by omega,by omega⟩ (aT.to [(0,0)] ae ae (by repeat(first|exact cS.nil|refine cS.un ?_|refine cS.eq ae ?_|refine cS.nl (congrArg D.str (by first|(simp only[dT,if_pos hpos,List.append_assoc];done)|(simp only[dT,if_neg hpos,List.append_assoc,List.nil_append];done)|simp[dT])) ae ?_|refine cS.nl ae ae ?_)) px) ?_;rintro i ⟨hi,hip⟩;have hni:=hnl i;have hfit:=nF hv i;have hn3:c.js.length=3:=rfl;refine av ?_;refine ca (fun hc1=>?_) fun hc1=>?_
 ·refine uK ?_;refine ca (fun hc2=>?_) fun hc2=>?_
  ·refine aI ?_;obtain rfl:i=c.parts.toNat:=by omega
   refine ax ?_;refine ca (fun hc4=>?_) fun hc4=>?_
   ·refine aQ ?_;refine ca (fun hc5=>?_) fun hc5=>?_
    ·refine au ?_;refine dY ?_;refine aI ?_;refine dY ?_;refine av ?_;refine b8 ?_;simp[cD,jm,iM,hc0, *]
    refine ax ?_;refine dY ?_;refine av ?_;refine b8 ?_;simp[cD,jm,iM,hc0, *]
   refine bt ?_;refine ca (fun hc6=>?_) fun hc6=>?_
   ·refine aC ?_;have hpl:=hp0.1;refine ax ?_;refine dY ?_;refine dY ?_;refine aQ ?_;refine b8 ?_;simp[cD,jm,iM,hc0, *]
   refine aA ?_;refine b8 ?_;simp[cD,jm,iM,hc0, *]
  refine aA ?_;refine aq (fun hc3=>?_) (fun hc3=>?_)
  ·simp only[decide_eq_true_eq]at hc3;have hpos:0<i:=by omega
   refine au ?_;refine dY ?_;refine aI ?_;refine ak (hc:=h665 (c.js[i]!) ⟨hfit.1,hfit.2⟩) ?_;have hdl:=dr 4 (c.js[i]!).toNat (by omega) (by omega);refine dY ?_;refine bt ?_;exact⟨i+1,⟨by omega,by omega⟩,by omega,(aT.to [(0,0)] ae ae (by repeat(first|exact cS.nil|refine cS.un ?_|refine cS.eq ae ?_|refine cS.nl (congrArg D.str (by first|(simp only[dT,if_pos hpos,List.append_assoc];done)|(simp only[dT,if_neg hpos,List.append_assoc,List.nil_append];done)|simp[dT])) ae ?_|refine cS.nl ae ae ?_)) px)⟩
  simp only[decide_eq_false_iff_not]at hc3;have hpos:¬0<i:=by omega
  refine ax ?_;refine ak (hc:=h665 (c.js[i]!) ⟨hfit.1,hfit.2⟩) ?_;have hdl:=dr 4 (c.js[i]!).toNat (by omega) (by omega);refine dY ?_;refine bt ?_;exact⟨i+1,⟨by omega,by omega⟩,by omega,(aT.to [(0,0)] ae ae (by repeat(first|exact cS.nil|refine cS.un ?_|refine cS.eq ae ?_|refine cS.nl (congrArg D.str (by first|(simp only[dT,if_pos hpos,List.append_assoc];done)|(simp only[dT,if_neg hpos,List.append_assoc,List.nil_append];done)|simp[dT])) ae ?_|refine cS.nl ae ae ?_)) px)⟩
 refine ax ?_;obtain rfl:i=c.parts.toNat:=by omega
 refine ax ?_;refine ca (fun hc4=>?_) fun hc4=>?_
 ·refine aQ ?_;refine ca (fun hc5=>?_) fun hc5=>?_
  ·refine au ?_;refine dY ?_;refine aI ?_;refine dY ?_;refine av ?_;refine b8 ?_;simp[cD,jm,iM,hc0, *]
  refine ax ?_;refine dY ?_;refine av ?_;refine b8 ?_;simp[cD,jm,iM,hc0, *]
 refine bt ?_;refine ca (fun hc6=>?_) fun hc6=>?_
 ·refine aC ?_;have hpl:=hp0.1;refine ax ?_;refine dY ?_;refine dY ?_;refine aQ ?_;refine b8 ?_;simp[cD,jm,iM,hc0, *]
 refine aA ?_;refine b8 ?_;simp[cD,jm,iM,hc0, *]
def Jr (Γ:Ctx):Prop:=∀(c:b9),(c.v.sm)→Γ.pre 828 [b9.D c]∧Γ.val 828 [b9.D c]=.str (cD c)
end Go.Abs
end
section
namespace Go.Abs
open Go
def qS:az:=⟨1,4,fg,[[.sl 1 [.a]]],(sq (rg [gb 7 s0,gm (.c (.aF))] [(2,0),(1,1)]) (sq (r2 [gf 2 s2,gf 0 l0,gd l1,gx 734 [l2] bL,gf 2 s2,gf 1 l4,gd l5,gx 734 [l6] bL,gf 2 s2,gf 2 l8,gd l9,gx 734 [l10] bL,gn (.bsl 1 (.str []) 3 [(0,l3),(1,l7),(2,gh)]),gm iq] 3 13) (sq (r1 [gm s3,gf 1 s2,gd l1,gn (.slA 1 l0 none (some l2)),gm l3] 1 4) .ret)))⟩
def w677 {Γ:Ctx}(hm:(Γ.at 0).aY)(c:b9)(h734:Jp Γ)(hp0:iD c.v=true∧0≤c.parts∧c.parts≤3):bq (Γ.at 0) qS.body (kQ qS (One (.own 14 1 0 c.parts.toNat) [(0,.buf 7 [b9.D c]),(14,.buf 1 [.str (cP c.v.major.toNat),.str (cP c.v.minor.toNat),.str (cP c.v.patch.toNat)])]):Ex→List bm→St→Prop) (ei qS [b9.D c]) ⟨0,[]⟩:=by
 show bq _ _ _ [⟨_,_⟩,_,_,_] _;refine ai ?_;refine aQ ?_;refine ak (hc:=h734 c.v.major (nF hp0.1 0)) ?_;refine av ?_;refine ak (hc:=h734 c.v.minor (nF hp0.1 1)) ?_;refine av ?_;refine ak (hc:=h734 c.v.patch (nF hp0.1 2)) ?_;refine cF [.str _,.str _,.str _] ?_;refine aA ?_;refine tY c.parts.toNat (hj:=fun _=>by omega) (hb:=fun _=>by omega) ?_;refine av ?_;refine cl trivial eo (Eq.trans ae (?_)) ae (oneq _ _);rfl
def Jn (Γ:Ctx):Prop:=∀(c:b9),(iD c.v=true∧0≤c.parts∧c.parts≤3)→∀(nx:Nat)(m:List (Nat×bj))(K:D→St→Prop),K (.own nx 1 0 c.parts.toNat) ⟨nx+1,(nx,.buf 1 [.str (cP c.v.major.toNat),.str (cP c.v.minor.toNat),.str (cP c.v.patch.toNat)])::m⟩→Γ.tr 677 [b9.D c] ⟨nx,m⟩ K
end Go.Abs
end
section
namespace Go.Abs
open Go
def Bd:az:=⟨1,8,fg,bL,(sq (rg [gb 7 s0,gm cse] [(2,0),(1,1)]) (sq (sq (r1 [gk 7 true s2,gx 676 [l0] Hr,iR l1] 3 2) (jh s3 cse)) (sq (r1 [gk 7 true s2,gn (.callM 677 [l0]),gm l1] 5 2) (sq (sq (r1 [gf 0 s2,gd l0,aH l1 Db] 4 2) (.cond s4 (sq (r1 [gm s5,gf 1 s2,gd l1,gf 1 s2,gd l3,gn (.slX 1 l0 l2 l4),gn (.bsl 1 (.str []) 1 [(0,(cs [42]))]),gn (.app 1 l5 l6),gx 249 [l7,(i8 46)] [[.sl 1 [.a]],[.a]],gm l8] 1 9) .ret) .skip)) (sq (r1 [gf 0 s2,gd l0,gx 678 [l1] bL,gm s5,gx 249 [l3,(i8 46)] [[.sl 1 [.a]],[.a]],ar l2 l4,gm l5] 7 6) (sq (sq (r1 [gf 2 s2,gf 3 l0,gd l1,bZ l2 cse] 6 3) (.cond s6 (r1 [gm s7,ar l0 (cs [45]),gf 2 s2,gf 3 l2,gd l3,ar l1 l4,gm l5] 7 6) .skip)) (sq (r1 [gm s7,gm l0] 1 1) .ret)))))))⟩
def w482 {Γ:Ctx}(hm:(Γ.at 0).aY)(h249:GP Γ)(h676:Jm Γ)(h677:Jn Γ)(h678:Jo Γ)(c:b9)  (hp0:c.v.sm):c7 Γ Bd (.str (cD c)) [b9.D c]:=by
 show bq _ _ _ [⟨_,_⟩,_,_,_,_,_,_,_] _;refine ai ?_;refine aA ?_;refine ak (hc:=h676 _ ?_) ?_;rotate_left;first|assumption|omega
 refine au ?_;refine aq (fun hc0=>?_) (fun hc0=>?_)
 ·simp only[Bool.not_eq_true']at hc0;refine aI ?_;refine b8 ?_;simp[cD,hc0]
 simp only[Bool.not_eq_false']at hc0;obtain⟨hv,hp1,hp2,hp3,hp4⟩:=lL hc0;have hsl:=qV c.op;have hnl:=om hv c.parts.toNat;have htl:=zI hp2;have hj1:=wA hp2;have hj2:=ra hp1 hp2;have hl2:=congrArg List.length hj2;have hl1:=congrArg List.length hj1;simp only[List.length_append,List.length_singleton]at hl2;have hi2:(if 0<c.parts then([46]:ah)else []).length≤1:=by split<;>simp
 refine av ?_;refine bW (nx':=6) (v:=.own 6 1 0 c.parts.toNat) (m':=[(6,.buf 1 [.str (cP c.v.major.toNat),.str (cP c.v.minor.toNat),.str (cP c.v.patch.toNat)]),(0,.buf 7 [b9.D c])]) (hc:=fun K' hK=>h677 c ⟨hv,hp1,hp2⟩ _ _ K' hK) (hn:=by decide) ?_;refine bt ?_;refine ca (fun hc1=>?_) fun hc1=>?_
 ·refine aQ ?_;refine KJ c.parts.toNat (hj:=fun _=>by omega) (hb:=fun _=>by omega) ?_;refine cF [.str _] ?_;refine tV ((jx c++[[42]]).map D.str) (n:=(jx c++[[42]]).length) (ha:=by simp;omega) (he:=sn.own rfl (by simp)) (hz:=by rw[List.drop_zero,uu,List.map_append];rfl) (hn:=by simp;omega) (hb:=by simp;omega) ?_;refine ak (hc:=h249 (jx c++[[42]]) 46 (by rw[hj2];simp only[List.length_append,List.length_singleton];omega)) (ha:=fun _=>congrArg (fun d=>[d,D.int .u8 46]) (mF (q:=D.str) (fun _=>rfl) ae)) (hp:=fun _=>⟨kM (q:=D.str) (fun _=>rfl) ae,rfl,trivial⟩) ?_;refine av ?_;refine b8 ?_;rw[cD,if_pos hc0,hj2];simp[jm,iM,hc1,cj]
 refine ax ?_;refine ak (hc:=h678 _) ?_;refine aC ?_;refine ak (hc:=h249 (jx c) 46 (by rw[hj1];omega)) (ha:=fun _=>congrArg (fun d=>[d,D.int .u8 46]) (H9 ae)) (hp:=fun _=>⟨Gk hp2 ae,rfl,trivial⟩) ?_;refine cA (hb:=fun _=>by omega) ?_;refine cB ?_;refine ca (fun hc2=>?_) fun hc2=>?_
 ·refine aC ?_;have hpl:=hp0.1;refine aC ?_;refine dY ?_;refine av ?_;refine dY ?_;refine aQ ?_;refine b8 ?_;rw[cD,if_pos hc0,hj1];simp[jm,iM,hc1,hc2]
 refine aA ?_;refine b8 ?_;rw[cD,if_pos hc0,hj1];simp[jm,iM,hc1,hc2]
def Jb (Γ:Ctx):Prop:=∀(c:b9),(c.v.sm)→Γ.pre 482 [b9.D c]∧Γ.val 482 [b9.D c]=.str (cD c)
end Go.Abs
end
section
namespace Go.Abs
open Go
def F3:az:=⟨1,6,[⟨1,none⟩,⟨2,none⟩],gL,(sq (rg [gm cse,gm cse] [(1,0),(2,1)]) (sq (sq (r1 [gm bc] 3 0) (.block 0 (.loop (sq (sq (r1 [gm s3,gm s0,lG l1,aJ l0 l2] 4 3) (ek s4 0)) (sq (.block 1 (sq (r1 [gm s0,gm s3,C7 l0 l1,aH l2 (i8 45)] 5 3) (.cond s5 (sq (rt [gm s0,gm s3,gn (.slS l0 none (some l1)),gm s0,gm s3,ar l4 bV,gn (.slS l3 (some l5) none),gm l2,gm l6] [(1,7),(2,8)]) .ret) .skip))) (r1 [gm s3,ar l0 bV,gm l1] 3 2)))))) (sq (rg [gm s0,gm l0,gm cse] [(1,1),(2,2)]) .ret)))⟩
def On {Γ:Ctx}(hm:(Γ.at 0).aY)  (s:ah)   :c7 Γ F3 (.tup [.str (eE s 0).1,.str (eE s 0).2]) [.str s]:=by
 show bq _ _ _ [⟨_,_⟩,_,_,_,_,_] _;refine ai ?_;refine aQ ?_;refine aV hm (ι:=Nat) (fun i=>[⟨true,.str s⟩,.un,.un,⟨true,.int .i64 (i:Nat)⟩,.un,.un]) (fun i=>[]) 3 (fun i=>i≤s.length∧eE s 0=eE s i) (fun i=>s.length-i) 0 ⟨by omega,rfl⟩ (cI []) ?_;rintro i ⟨hi,hr⟩;refine aI ?_;intro u0;refine au ?_;refine ca (fun hc0=>?_) fun hc0=>?_
 ·refine bt ?_;refine eW (fun hc1=>?_) fun hc1=>?_
  ·refine av ?_;refine lX _ ?_;refine av ?_;refine fI (i+1) ?_;refine aA ?_;refine bC (aE (congrArg D.str ?_) (congrArg D.str ?_));all_goals rw[hr,Cd (by omega) hc1]
  refine bt ?_;exact⟨i+1,⟨by omega,by rw[hr,Ce (by omega) hc1]⟩,by omega,(cI [])⟩
 refine bt ?_;refine bC (aE (congrArg D.str ?_) (congrArg D.str ?_));all_goals rw[hr,y7 (by omega)]
def Ig (Γ:Ctx):Prop:=∀(s:ah),Γ.pre 1007 [.str s]∧Γ.val 1007 [.str s]=.tup [.str (eE s 0).1,.str (eE s 0).2]
def Be:az:=⟨1,9,[⟨1,none⟩,⟨2,none⟩],gL,(sq (rg [gm bc,gm cse] [(1,0),(2,1)]) (sq (r1 [gn (.bsl 1 (.int .i64 0) 8 [(0,lM),(1,tl),(2,tm),(3,bV),(4,kr),(5,GA),(6,E1),(7,AB)]),gm l0] 4 1) (sq (sq (r1 [gm bc] 3 0) (.block 0 (.loop (sq (sq (r1 [gm s3,gm s4,gl l1,aJ l0 l2] 5 3) (ek s5 0)) (sq (.block 1 (sq (r1 [gm s4,gm s3,ga 1 l0 l1,gd l2,gx 678 [l3] bL,gm l4] 6 5) (sq (r1 [gm s0,gm s6,gx 1079 [l0,l1] gL] 7 2) (.cond s7 (sq (rt [gm s4,gm s3,ga 1 l0 l1,gd l2,gm s0,gm s6,lG l5,gn (.slS l4 (some l6) none),gm l3,gm l7] [(1,8),(2,9)]) .ret) .skip)))) (r1 [gm s3,ar l0 bV,gm l1] 3 2)))))) (sq (sq (r1 [gm s0,lG l0,cg l1 bc,gm l2,gmt 3 s0,gmt 3 s0,bR 3 (.lenS l5),bR 3 (hZ l6 bV),bR 3 (.ixS l4 l7),bR 3 (bY l8 (i8 42)),dG l3 l9] 8 10) (.cond s8 (sq (rg [gm s0,gm Db,gm l0] [(1,1),(2,2)]) .ret) .skip)) (sq (rg [gm s0,gm E1,gm l0] [(1,1),(2,2)]) .ret)))))⟩
def Om {Γ:Ctx}(hm:(Γ.at 0).aY)(h678:Jo Γ)(h1079:Ik Γ)(s:ah)   :c7 Γ Be (.tup [.int .i64 (dQ s).1,.str (dQ s).2]) [.str s]:=by
 show bq _ _ _ [⟨_,_⟩,_,_,_,_,_,_,_,_] _;refine ai ?_;refine ax ?_;refine cF [(.int _ _),(.int _ _),(.int _ _),(.int _ _),(.int _ _),(.int _ _),(.int _ _),(.int _ _)] ?_;refine aA ?_;refine fM 2 ?_;refine aV hm (ι:=Nat) (fun i=>[⟨true,.str s⟩,.un,.un,⟨true,.int .i64 (i:Nat)⟩,⟨true,.sl 1 (opsL.map (D.int .i64))⟩,.un,.un,.un,.un]) (fun i=>[]) 5 (fun i=>i≤8∧mA s 0=mA s i) (fun i=>8-i) 0 ⟨by omega,rfl⟩ (cI []) ?_;rintro i ⟨hi,hr⟩;have hn8:opsL.length=8:=rfl;refine aI ?_;intro u0;refine au ?_;refine ca (fun hc0=>?_) fun hc0=>?_
 ·refine aQ ?_;refine ak (hc:=h678 _) ?_;refine aI ?_;refine ak (hc:=h1079 _ _) ?_;refine aC ?_;refine wp_cond (fun hc1=>?_) (fun hc1=>?_)
  ·have hbl:(cj opsL[i]!).length≤s.length:=by simp only[mM,Bool.and_eq_true,decide_eq_true_eq]at hc1;exact hc1.1
   refine aQ ?_;refine hX ?_;refine fI (cj opsL[i]!).length (hb:=fun _=>hbl) ?_;refine aA ?_;refine bC (aE (congrArg (D.int .i64) ?_) (congrArg D.str ?_));all_goals simp only[dQ,hr,Ca (show i<8 by omega) hc1]
  skip
  refine bt ?_;exact⟨i+1,⟨by omega,by rw[hr,Cb (by omega) hc1]⟩,by omega,(cI [])⟩
 refine aA ?_;intro u1;refine ax ?_;refine hX ?_;refine aC ?_;refine lW (s.length-1) ?_;refine av ?_;refine ca (fun hc2=>?_) fun hc2=>?_
 ·refine aQ ?_;refine bC (aE (congrArg (D.int .i64) ?_) (congrArg D.str ?_));all_goals (have ho:mA s 0=none:=(by rw[hr,tI (by omega)]);simp only[dQ,ho,if_pos (show 0<s.length∧at8 s (s.length-1)=42 from⟨by omega,hc2.2⟩)])
 refine aQ ?_;refine bC (aE (congrArg (D.int .i64) ?_) (congrArg D.str ?_));all_goals (have ho:mA s 0=none:=(by rw[hr,tI (by omega)]);have hn:¬(0<s.length∧at8 s (s.length-1)=42):=(by rintro⟨h1,h2⟩;rcases hc2 with h|h;exact h (by omega);exact h h2);simp only[dQ,ho,if_neg hn])
def Ie (Γ:Ctx):Prop:=∀(s:ah),Γ.pre 1006 [.str s]∧Γ.val 1006 [.str s]=.tup [.int .i64 (dQ s).1,.str (dQ s).2]
end Go.Abs
end
section
namespace Go.Abs
open Go
def xG:az:=⟨1,10,[⟨1,some (5,true)⟩,⟨2,none⟩],[[.a,.a,.a,.a,.a],[.a]],(sq (rg [gb 5 (.c (.agg [.int .i64 0,.int .i64 0,.int .i64 0,.str [],.str []])),gm cH] [(1,0),(2,1)]) (sq (r1 [gb 3 (.c (.agg [.int .i64 0,.int .i64 0,.int .i64 0]))] 9 0) (sq (sq (r1 [gm s0,gl l0,cg l1 kr] 3 2) (.cond s3 (sq (r1 [gn (.build [.int .i64 0,.int .i64 0,.int .i64 0,.str [],.str []] []),gt 5 s1 l0,gm cH] 2 2) .ret) .skip)) (sq (sq (r1 [gm bc] 4 0) (.block 0 (.loop (sq (sq (r1 [gm s4,gm s0,gl l1,aJ l0 l2] 5 3) (ek s5 0)) (sq (.block 1 (sq (rg [gm s0,gm s4,ga 1 l0 l1,gd l2,gx 667 [l3] bL,gm l4,ge l5 0,ge l5 1,gm l6,gm l7] [(8,8),(6,9)]) (sq (sq (r1 [gm s6,iR l0] 7 1) (.cond s7 (sq (r1 [gn (.build [.int .i64 0,.int .i64 0,.int .i64 0,.str [],.str []] []),gt 5 s1 l0,gm cH] 2 2) .ret) .skip)) (rg [gm s4,gm s8,gn (.iaP 3 1 s9 l0),gt 1 l2 l1] [])))) (r1 [gm s4,ar l0 bV,gm l1] 4 2)))))) (sq (r1 [gn (.iaP 3 1 s9 bc),gd l0,gn (.iaP 3 1 s9 bV),gd l2,gn (.iaP 3 1 s9 lM),gd l4,gn (.build [.int .i64 0,.int .i64 0,.int .i64 0,.str [],.str []] [(0,1,l1),(1,1,l3),(2,1,l5)]),gt 5 s1 l6,gm mX] 2 8) .ret)))))⟩
def Oo {Γ:Ctx}(hm:(Γ.at 0).aY)(h667:Jj Γ)(l:List ah)   :c7 Γ xG (.tup [dc.D (se l),.bool (dp l)]) [.sl 1 (l.map D.str)]:=by
 show bq _ _ _ [⟨_,_⟩,_,_,_,_,_,_,_,_,_] _;refine ai ?_;refine gC ?_;intro u0;refine au ?_;refine ca (fun hc0=>?_) fun hc0=>?_
 ·refine au ?_;refine bo (dc.D iE) ?_;refine ax ?_;refine bC (aE ?_ (congrArg D.bool ?_));all_goals (have hq:dp l=false:=(by simp only[dp];rw[decide_eq_false (by omega)];rfl);first|(rw[hq];done)|(simp only[se,hq,Bool.false_eq_true,if_false,if_true];rfl))
 refine aI ?_;have hb:dp l=bJ (fun i=>ea l[i]!) 0 l.length:=by simp only[dp];rw[decide_eq_true (by omega)];rfl
 refine aV hm (ι:=Nat) (fun i=>[⟨true,.sl 1 (l.map D.str)⟩,⟨true,.ptr 0 5 0 0⟩,.un,.un,⟨true,.int .i64 (i:Nat)⟩,.un,.un,.un,.un,⟨true,.ptr 2 3 0 0⟩]) (fun i=>[(0,.buf 5 [dc.D iE]),(2,.buf 3 [Dl l i])]) 7 (fun i=>i≤l.length∧dp l=bJ (fun i=>ea l[i]!) i l.length) (fun i=>l.length-i) 0 ⟨by omega,hb⟩ (cI [(0,0),(2,2)]) ?_;rintro i ⟨hi,hr⟩;refine aI ?_;intro u1;refine au ?_;refine ca (fun hc1=>?_) fun hc1=>?_
 ·refine aQ ?_;refine ak (hc:=h667 _) ?_;refine eB ?_;refine aq (fun hc2=>?_) (fun hc2=>?_)
  ·simp only[Bool.not_eq_true']at hc2;refine au ?_;refine bo (dc.D iE) ?_;refine aA ?_;refine bC (aE ?_ (congrArg D.bool ?_));all_goals (have hq:dp l=false:=(by rw[hr,aD (by omega),hc2];rfl);first|(rw[hq];done)|(simp only[se,hq,Bool.false_eq_true,if_false,if_true];rfl))
  simp only[Bool.not_eq_false']at hc2;refine ax ?_;refine tW i ?_;refine aR (Dl l (i+1)) (he:=yR l i (by omega)) ?_;refine bt ?_;exact⟨i+1,⟨by omega,by rw[hr,aD (by omega),hc2];rfl⟩,by omega,(cI [(0,0),(2,2)])⟩
 refine av ?_;obtain rfl:i=l.length:=by omega
 have hok:dp l=true:=by rw[hr,bA (by omega)]
 refine tW 0 ?_;refine cX (v:=.int .i64 (if 0<l.length then dm l[0]! else 0)) ?_;refine tW 1 ?_;refine cX (v:=.int .i64 (if 1<l.length then dm l[1]! else 0)) ?_;refine tW 2 ?_;refine cX (v:=.int .i64 (if 2<l.length then dm l[2]! else 0)) ?_;refine bo (dc.D (Fk l)) ?_;refine ax ?_;refine bC (aE ?_ (congrArg D.bool ?_));all_goals (have hq:=hok;first|(rw[hq];done)|(simp only[se,hq,Bool.false_eq_true,if_false,if_true];rfl))
def Ih (Γ:Ctx):Prop:=∀(l:List ah),Γ.pre 1008 [.sl 1 (l.map D.str)]∧Γ.val 1008 [.sl 1 (l.map D.str)]=.tup [dc.D (se l),.bool (dp l)]
end Go.Abs
end
section
namespace Go.Abs
open Go
def Bc:az:=⟨1,15,[⟨1,some (7,true)⟩,⟨2,none⟩],[[.a,.a,.a,.a,.a,.a,.a],[.a]],(sq (rg [gb 7 (.c (.agg [.int .i64 0,.int .i64 0,.int .i64 0,.int .i64 0,.int .i64 0,.str [],.str []])),gm bc] [(1,0),(2,1)]) (sq (rg [gm s0,gx 1006 [l0] bL,gm l1,ge l2 0,ge l2 1,gm l3,gm l4] [(5,5),(3,6)]) (sq (rg [gm s3,gx 1007 [l0] bL,gm l1,ge l2 0,ge l2 1,gm l3,gm l4] [(4,5),(10,6)]) (sq (r1 [gm s4,gx 470 [l0,(i8 46)] gL,gm l1] 7 2) (sq (sq (r1 [gm s5,aH l0 Db] 6 1) (.cond s6 (r1 [gm s7,gm s7,gl l1,dN l2 bV,gn (.slA 1 l0 none (some l3)),gm l4] 7 5) .skip)) (sq (rg [gm s7,gx 1008 [l0] [[.sl 1 [.a]]],gm l1,ge l2 0,ge l2 1,gb 5 (.c (.agg [.int .i64 0,.int .i64 0,.int .i64 0,.str [],.str []])),gt 5 l5 l3,gm l4] [(11,5),(8,7)]) (sq (sq (r1 [gm s8,iR l0] 9 1) (.cond s9 (sq (r1 [gn (.build [.int .i64 0,.int .i64 0,.int .i64 0,.int .i64 0,.int .i64 0,.str [],.str []] []),gt 7 s1 l0,gm tm] 2 2) .ret) .skip)) (sq (rg [gm jR,gf 3 lf,gt 1 l1 l0] []) (sq (r1 [gm s5,gm s7,gl l1,gk 5 true lf,gn (.build [.int .i64 0,.int .i64 0,.int .i64 0,.int .i64 0,.int .i64 0,.str [],.str []] [(0,1,l0),(1,1,l2),(2,5,l3)]),gb 7 (.c (.agg [.int .i64 0,.int .i64 0,.int .i64 0,.int .i64 0,.int .i64 0,.str [],.str []])),gt 7 l5 l4] 12 5) (sq (sq (r1 [gk 7 true lE,gx 482 [l0] Hr,gm l1] 13 2) (sq (r1 [gm oO,aH l0 cse,gm l1,dt 2 oO,dt 2 s0,bP 2 (eF l3 l4),dt 2 l5,gmt 6 oO,gmt 6 s0,bR 6 (EB (cs [94]) l8),bR 6 (eF l7 l9),yD 2 l6 l10,dL l2 gh] 14 12) (.cond rL (sq (r1 [gn (.build [.int .i64 0,.int .i64 0,.int .i64 0,.int .i64 0,.int .i64 0,.str [],.str []] []),gt 7 s1 l0,gm tm] 2 2) .ret) .skip))) (sq (r1 [gk 7 true lE,gt 7 s1 l0,gm bc] 2 2) .ret)))))))))))⟩
def w897 {Γ:Ctx}(hm:(Γ.at 0).aY)(h470:CB Γ)(h482:Jb Γ)(h1006:Ie Γ)(h1007:Ig Γ)(h1008:Ih Γ)(s:ah)  (hp0:s.length≤1048576):c7 Γ Bc (.tup [b9.D ((cR s).getD cL),.int .i64 (if(cR s).isSome=true then 0 else 6)]) [.str s]:=by
 show bq _ _ _ [⟨_,_⟩,_,_,_,_,_,_,_,_,_,_,_,_,_,_] _;have hsl:=uj s;generalize hO:dQ s=O at hsl;have hpl:=tP O.2;generalize hA:eE O.2 0=A at hpl;have hln:=cG A.1 46;have hlp:1≤(aj A.1 46).length:=eM _ _ _;generalize hL:aj A.1 46=L at hln hlp;have hq0:cR s=if rE s O.1 (v7 O.1 L) A.2=true then some (dS O.1 (v7 O.1 L) A.2)else none:=by subst hO;subst hA;subst hL;rfl
 refine ai ?_;refine aI ?_;refine ak (hc:=h1006 s) ?_;rw[hO];refine bt ?_;refine ak (hc:=h1007 O.2) ?_;rw[hA];refine bt ?_;refine ak (hc:=h470 A.1 46 (by omega)) ?_;rw[hL];refine aQ ?_;refine aq (fun hc0=>?_) (fun hc0=>?_)
 ·simp only[decide_eq_true_eq]at hc0;have hq1:cR s=if rE s O.1 (L.take (L.length-1)) A.2=true then some (dS O.1 (L.take (L.length-1)) A.2)else none:=by rw[hq0];simp only[v7,if_pos hc0]
  refine ax ?_;intro u0;refine aC ?_;refine tX (L.length-1) (hj:=fun _=>by omega) (hb:=fun _=>by omega) ?_;refine ax ?_;refine ak (hc:=h1008 (L.take (L.length-1))) ?_;refine aC ?_;refine eS (dc.D _) ?_;refine au ?_;refine aR (dc.D (se (L.take (L.length-1)))) (he:=by exact rfl) ?_;refine aQ ?_;refine aq (fun hc1=>?_) (fun hc1=>?_)
  ·simp only[Bool.not_eq_true']at hc1;refine au ?_;refine bo (b9.D cL) ?_;refine ax ?_;refine bC (aE ?_ (congrArg (D.int .i64) ?_));all_goals (have hk:rE s O.1 (L.take (L.length-1)) A.2=false:=(by simp only[rE,hc1];rfl);rw[hq1,hk];rfl)
  simp only[Bool.not_eq_false']at hc1;have hnr:se (L.take (L.length-1))=Fk (L.take (L.length-1)):=by simp only[se,hc1,if_true]
  rw[hnr];have hsm:(dS O.1 (L.take (L.length-1)) A.2).v.sm:=⟨by show A.2.length≤_;omega,by show([]:ah).length≤_;simp⟩;refine ax ?_;refine aR (dc.D (dS O.1 (L.take (L.length-1)) A.2).v) (he:=by exact rfl) ?_;refine aI ?_;intro u1;refine cM (d:=dc.D (dS O.1 (L.take (L.length-1)) A.2).v) ?_;refine bo (b9.D (dS O.1 (L.take (L.length-1)) A.2)) ?_;refine aC ?_;refine aR (b9.D (dS O.1 (L.take (L.length-1)) A.2)) (he:=by exact rfl) ?_;refine av ?_;refine cM (d:=b9.D (dS O.1 (L.take (L.length-1)) A.2)) ?_;refine ak (hc:=h482 (dS O.1 (L.take (L.length-1)) A.2) hsm) ?_;refine kN ?_;refine cA (hb:=fun _=>by simp;omega) ?_;refine ax ?_;refine aq (fun hc2=>?_) (fun hc2=>?_)
  ·have hk:rE s O.1 (L.take (L.length-1)) A.2=false:=by simp only[rE,hc1,Bool.true_and];exact congrArg (!·) hc2
   refine au ?_;refine bo (b9.D cL) ?_;refine ax ?_;refine bC (aE ?_ (congrArg (D.int .i64) ?_));all_goals (rw[hq1,hk];rfl)
  have hk:rE s O.1 (L.take (L.length-1)) A.2=true:=by simp only[rE,hc1,Bool.true_and];exact congrArg (!·) hc2
  refine au ?_;refine cM (d:=b9.D (dS O.1 (L.take (L.length-1)) A.2)) ?_;refine ax ?_;refine bC (aE ?_ (congrArg (D.int .i64) ?_));all_goals (rw[hq1,hk];rfl)
 simp only[decide_eq_false_iff_not]at hc0;have hq1:cR s=if rE s O.1 L A.2=true then some (dS O.1 L A.2)else none:=by rw[hq0];simp only[v7,if_neg hc0]
 refine av ?_;refine ak (hc:=h1008 L) ?_;refine aC ?_;refine eS (dc.D _) ?_;refine au ?_;refine aR (dc.D (se L)) (he:=by exact rfl) ?_;refine aQ ?_;refine aq (fun hc1=>?_) (fun hc1=>?_)
 ·simp only[Bool.not_eq_true']at hc1;refine au ?_;refine bo (b9.D cL) ?_;refine ax ?_;refine bC (aE ?_ (congrArg (D.int .i64) ?_));all_goals (have hk:rE s O.1 L A.2=false:=(by simp only[rE,hc1];rfl);rw[hq1,hk];rfl)
 simp only[Bool.not_eq_false']at hc1;have hnr:se L=Fk L:=by simp only[se,hc1,if_true]
 rw[hnr];have hsm:(dS O.1 L A.2).v.sm:=⟨by show A.2.length≤_;omega,by show([]:ah).length≤_;simp⟩;refine ax ?_;refine aR (dc.D (dS O.1 L A.2).v) (he:=by exact rfl) ?_;refine aI ?_;intro u1;refine cM (d:=dc.D (dS O.1 L A.2).v) ?_;refine bo (b9.D (dS O.1 L A.2)) ?_;refine aC ?_;refine aR (b9.D (dS O.1 L A.2)) (he:=by exact rfl) ?_;refine av ?_;refine cM (d:=b9.D (dS O.1 L A.2)) ?_;refine ak (hc:=h482 (dS O.1 L A.2) hsm) ?_;refine kN ?_;refine cA (hb:=fun _=>by simp;omega) ?_;refine ax ?_;refine aq (fun hc2=>?_) (fun hc2=>?_)
 ·have hk:rE s O.1 L A.2=false:=by simp only[rE,hc1,Bool.true_and];exact congrArg (!·) hc2
  refine au ?_;refine bo (b9.D cL) ?_;refine ax ?_;refine bC (aE ?_ (congrArg (D.int .i64) ?_));all_goals (rw[hq1,hk];rfl)
 have hk:rE s O.1 L A.2=true:=by simp only[rE,hc1,Bool.true_and];exact congrArg (!·) hc2
 refine au ?_;refine cM (d:=b9.D (dS O.1 L A.2)) ?_;refine ax ?_;refine bC (aE ?_ (congrArg (D.int .i64) ?_));all_goals (rw[hq1,hk];rfl)
def Mr (Γ:Ctx):Prop:=∀(s:ah),(s.length≤1048576)→Γ.pre 897 [.str s]∧Γ.val 897 [.str s]=.tup [b9.D ((cR s).getD cL),.int .i64 (if(cR s).isSome=true then 0 else 6)]
end Go.Abs
end
section
namespace Go.Abs
open Go
def CW:az:=⟨1,33,[⟨1,some (7,true)⟩,⟨2,none⟩],[[.a,.a,.a,.a,.a,.a,.a],[.a]],(sq (rg [gb 7 (.c (.agg [.int .i64 0,.int .i64 0,.int .i64 0,.int .i64 0,.int .i64 0,.str [],.str []])),gm cH] [(1,0),(2,1)]) (sq (r1 [gn (.build [.int .i64 0,.int .i64 0,.int .i64 0,.int .i64 0,.int .i64 0,.str [],.str []] [(0,1,Db)]),gb 7 (.c (.agg [.int .i64 0,.int .i64 0,.int .i64 0,.int .i64 0,.int .i64 0,.str [],.str []])),gt 7 l1 l0] 9 1) (sq (r1 [gm s0,gm l0] 10 1) (sq (sq (rg [gn (.bsl 1 (.int .i64 0) 8 [(0,lM),(1,tl),(2,tm),(3,bV),(4,kr),(5,GA),(6,E1),(7,AB)]),gl l0,gm bc] [(6,0),(4,1),(3,2)]) (.block 0 (.loop (sq (r1 [aJ s3 s4] 5 0) (sq (ek s5 0) (sq (.block 1 (sq (r1 [ga 1 s6 s3,gd l0,gm l1] 7 2) (sq (r1 [gm s0,gm s7,gx 957 [l1] bL,gx 956 [l0,l2] gL] 8 3) (.cond s8 (sq (rg [gm s7,gf 0 s9,gt 1 l1 l0] []) (sq (r1 [gm s0,gm s7,gx 957 [l1] bL,lG l2,gn (.slS l0 (some l3) none),gm l4] 10 5) (.exit 0))) .skip)))) (r1 [ar s3 bV,gm l0] 3 1))))))) (sq (sq (rg [gm jR,lG l0,gm bc] [(12,1),(11,2)]) (.block 2 (.loop (sq (r1 [aJ lf lE] 13 0) (sq (ek oO 2) (sq (.block 3 (sq (r1 [gm lf,gm l0] 14 1) (sq (r1 [gm jR,gm rL,C7 l0 l1,aH l2 (i8 45)] 15 3) (.cond qU (sq (rg [gm jR,gm rL,ar l1 bV,gn (.slS l0 (some l2) none),gf 2 s9,gf 3 l4,gt 1 l5 l3] []) (sq (r1 [gm jR,gm rL,gn (.slS l0 none (some l1)),gm l2] 10 3) (.exit 2))) .skip)))) (r1 [ar lf bV,gm l0] 11 1))))))) (sq (r1 [gm jR,gx 533 [l0,(i8 46)] gL,gm l1] 17 2) (sq (sq (r1 [gf 0 s9,gd l0,aH l1 Db] 16 2) (.cond z6 (sq (sq (r1 [gm zy,gm zy,gl l1,dN l2 bV,ga 1 l0 l3,gd l4,bZ l5 (cs [42])] 18 6) (.cond DP (sq (r1 [gn (.build [.int .i64 0,.int .i64 0,.int .i64 0,.int .i64 0,.int .i64 0,.str [],.str []] []),gt 7 s1 l0,gm cH] 2 2) .ret) .skip)) (r1 [gm zy,gm zy,gl l1,dN l2 bV,gn (.slA 1 l0 none (some l3)),gm l4] 17 5)) .skip)) (sq (sq (r1 [gm zy,gl l0,cg l1 kr] 19 2) (.cond KL (sq (r1 [gn (.build [.int .i64 0,.int .i64 0,.int .i64 0,.int .i64 0,.int .i64 0,.str [],.str []] []),gt 7 s1 l0,gm cH] 2 2) .ret) .skip)) (sq (rg [gm zy,gl l0,gf 1 s9,gt 1 l2 l1] []) (sq (sq (rg [gm zy,gl l0,gm bc] [(23,0),(21,1),(20,2)]) (.block 4 (.loop (sq (r1 [aJ GD s21] 22 0) (sq (ek s22 4) (sq (.block 5 (sq (rg [gm GD,ga 1 s23 GD,gd l1,gm l0,gm l2] [(27,3),(24,4)]) (sq (rg [gm K1,gx 658 [l0] bL,gm l1,ge l2 0,ge l2 1,gm l3,gm l4] [(30,5),(25,6)]) (sq (sq (r1 [gm K2,iR l0] 26 1) (.cond Od (sq (r1 [gn (.build [.int .i64 0,.int .i64 0,.int .i64 0,.int .i64 0,.int .i64 0,.str [],.str []] []),gt 7 s1 l0,gm cH] 2 2) .ret) .skip)) (sq (r1 [gm s27] 28 0) (.block 6 (sq (r1 [aH s28 bc,gm l0] 29 1) (.cond s29 (rg [gm IQ,gf 2 s9,gf 0 l1,gt 1 l2 l0] []) (sq (r1 [aH s28 bV,gm l0] 31 1) (.cond s31 (rg [gm IQ,gf 2 s9,gf 1 l1,gt 1 l2 l0] []) (rg [gm IQ,gf 2 s9,gf 2 l1,gt 1 l2 l0] []))))))))))) (r1 [ar GD bV,gm l0] 20 1))))))) (sq (sq (r1 [gk 7 true s9,gx 827 [l0] Hr,iR l1,gm l2,bP 3 (.ld 7 true s9),bP 3 (.call 828 [l4] Hr),dt 3 s0,bP 3 (eF l5 l6),dL l3 l7] 32 8) (.cond s32 (sq (r1 [gn (.build [.int .i64 0,.int .i64 0,.int .i64 0,.int .i64 0,.int .i64 0,.str [],.str []] []),gt 7 s1 l0,gm cH] 2 2) .ret) .skip)) (sq (r1 [gk 7 true s9,gt 7 s1 l0,gm mX] 2 2) .ret))))))))))))⟩
def w819 {Γ:Ctx}(hm:(Γ.at 0).aY)(h533:Ek Γ)(h658:GU Γ)(h827:GW Γ)(h828:Jr Γ)(h956:Mv Γ)(h957:Jy Γ)(s:ah)  (hp0:s.length≤1048576):c7 Γ CW (.tup [b9.D ((eg s).getD cL),.bool (eg s).isSome]) [.str s]:=by
 show bq _ _ _ (⟨true,.str s⟩::.un::.un::.un::.un::.un::.un::.un::.un::.un::.un::.un::.un::.un::.un::.un::.un::.un::.un::.un::.un::.un::.un::.un::.un::.un::.un::.un::.un::.un::.un::.un::.un::[]) ⟨0,[]⟩;have hol:=Dx s;refine ai ?_;refine ax ?_;refine bo (b9.D ⟨9,0,iE⟩) ?_;refine aC ?_;refine aR (b9.D ⟨9,0,iE⟩) (he:=by exact rfl) ?_;refine aQ ?_;refine cF [(.int _ _),(.int _ _),(.int _ _),(.int _ _),(.int _ _),(.int _ _),(.int _ _),(.int _ _)] ?_;refine aC ?_;intro u0;refine au ?_;refine xX hm (ι:=Unit) (fun _=>(⟨true,.str s⟩::⟨true,.ptr 0 7 0 0⟩::.un::.un::.un::.un::.un::.un::.un::⟨true,.ptr 3 7 0 0⟩::⟨true,.str (cu s).2⟩::.un::.un::.un::.un::.un::.un::.un::.un::.un::.un::.un::.un::.un::.un::.un::.un::.un::.un::.un::.un::.un::.un::[])) (fun _=>[(0,.buf 7 [b9.D cL]),(3,.buf 7 [b9.D ⟨(cu s).1,0,iE⟩])]) 40 (fun _=>True) ?_ ?_
 ·refine fM 7 ?_;refine ll hm (ι:=Nat) (fun i=>(⟨true,.str s⟩::⟨true,.ptr 0 7 0 0⟩::.un::⟨true,.int .i64 (i:Nat)⟩::⟨true,.int .i64 8⟩::.un::⟨true,.sl 1 (opsL.map (D.int .i64))⟩::.un::.un::⟨true,.ptr 3 7 0 0⟩::⟨true,.str s⟩::.un::.un::.un::.un::.un::.un::.un::.un::.un::.un::.un::.un::.un::.un::.un::.un::.un::.un::.un::.un::.un::.un::[])) (fun i=>[(0,.buf 7 [b9.D cL]),(3,.buf 7 [b9.D ⟨9,0,iE⟩])]) 10 (fun i=>i≤8∧mA s 0=mA s i) (fun i=>8-i) 0 ⟨by omega,rfl⟩ (cI [(0,0),(3,3)]) ?_;rintro i ⟨hi,hr⟩;have hn8:opsL.length=8:=rfl;refine av ?_;refine ca (fun hc0=>?_) fun hc0=>?_
  ·refine gC ?_;refine ak (hc:=h957 opsL[i]!) ?_;refine ak (hc:=h956 s (cj opsL[i]!)) ?_;refine aC ?_;refine wp_cond (fun hc1=>?_) (fun hc1=>?_)
   ·have hbl:(cj opsL[i]!).length≤s.length:=by simp only[mM,Bool.and_eq_true,decide_eq_true_eq]at hc1;exact hc1.1
    have hro:cu s=(opsL[i]!,s.drop (cj opsL[i]!).length):=by simp only[cu,hr,Ca (show i<8 by omega) hc1]
    refine av ?_;refine aR (b9.D ⟨opsL[i]!,0,iE⟩) (he:=by exact rfl) ?_;refine ax ?_;refine ak (hc:=h957 opsL[i]!) ?_;refine aC ?_;intro u1;refine fI (cj opsL[i]!).length (hb:=fun _=>hbl) ?_;refine aA ?_;simp only[hro];exact⟨(),trivial,(cI [(0,0),(3,3)])⟩
   skip
   refine aQ ?_;exact⟨i+1,⟨by omega,by rw[hr,Cb (by omega) hc1]⟩,by omega,(cI [(0,0),(3,3)])⟩
  refine av ?_;have hro:cu s=(9,s):=by simp only[cu,hr,tI (show 8≤i by omega)]
  simp only[hro];exact⟨(),trivial,(cI [(0,0),(3,3)])⟩
 ·rintro _-
  refine ax ?_;intro u2;refine au ?_;refine xX hm (ι:=Unit) (fun _=>(⟨true,.str s⟩::⟨true,.ptr 0 7 0 0⟩::.un::.un::.un::.un::.un::.un::.un::⟨true,.ptr 3 7 0 0⟩::⟨true,.str (dk s).1⟩::.un::.un::.un::.un::.un::.un::.un::.un::.un::.un::.un::.un::.un::.un::.un::.un::.un::.un::.un::.un::.un::.un::[])) (fun _=>[(0,.buf 7 [b9.D cL]),(3,.buf 7 [b9.D ⟨(cu s).1,0,{iE with pre:=(dk s).2}⟩])]) 60 (fun _=>True) ?_ ?_
  ·refine ll hm (ι:=Nat) (fun i=>(⟨true,.str s⟩::⟨true,.ptr 0 7 0 0⟩::.un::.un::.un::.un::.un::.un::.un::⟨true,.ptr 3 7 0 0⟩::⟨true,.str (cu s).2⟩::⟨true,.int .i64 (i:Nat)⟩::⟨true,.int .i64 ((cu s).2.length:Nat)⟩::.un::.un::.un::.un::.un::.un::.un::.un::.un::.un::.un::.un::.un::.un::.un::.un::.un::.un::.un::.un::[])) (fun i=>[(0,.buf 7 [b9.D cL]),(3,.buf 7 [b9.D ⟨(cu s).1,0,iE⟩])]) 43 (fun i=>i≤(cu s).2.length∧dk s=eE (cu s).2 i) (fun i=>(cu s).2.length-i) 0 ⟨by omega,rfl⟩ (cI [(0,0),(3,3)]) ?_;rintro i ⟨hi,hr⟩;refine av ?_;refine ca (fun hc2=>?_) fun hc2=>?_
   ·refine gD ?_;refine wp_cond (fun hc3=>?_) (fun hc3=>?_)
    ·simp only[decide_eq_true_eq]at hc3;have hpr:dk s=((cu s).2.take i,(cu s).2.drop (i+1)):=by rw[hr,Cd (by omega) hc3]
     refine ax ?_;refine fI (i+1) ?_;refine au ?_;refine aR (b9.D ⟨(cu s).1,0,{iE with pre:=(cu s).2.drop (i+1)}⟩) (he:=by exact rfl) ?_;refine ax ?_;refine lX _ ?_;refine aA ?_;simp only[hpr];exact⟨(),trivial,(cI [(0,0),(3,3)])⟩
    try simp only[fo]at hc3
    refine aQ ?_;exact⟨i+1,⟨by omega,by rw[hr,Ce (by omega) hc3]⟩,by omega,(cI [(0,0),(3,3)])⟩
   refine av ?_;have hpr:dk s=((cu s).2,[]):=by rw[hr,y7 (by omega)]
   simp only[hpr];exact⟨(),trivial,(cI [(0,0),(3,3)])⟩
  ·rintro _-
   have hpl:(dk s).1.length≤s.length∧(dk s).2.length≤s.length:=by
    have:=tP (cu s).2;exact⟨by show(eE _ 0).1.length≤_;omega,by show(eE _ 0).2.length≤_;omega⟩
   have hlp:1≤(aj (dk s).1 46).length:=eM _ _ _;have hln:=cG (dk s).1 46;refine au ?_;refine ak (hc:=h533 (dk s).1 46 (by omega)) ?_;refine bt ?_;refine xX hm (ι:=Unit) (fun _=>(⟨true,.str s⟩::⟨true,.ptr 0 7 0 0⟩::.un::.un::.un::.un::.un::.un::.un::⟨true,.ptr 3 7 0 0⟩::.un::.un::.un::.un::.un::.un::.un::⟨true,.sl 1 ((cY s).map D.str)⟩::.un::.un::.un::.un::.un::.un::.un::.un::.un::.un::.un::.un::.un::.un::.un::[])) (fun _=>[(0,.buf 7 [b9.D cL]),(3,.buf 7 [b9.D ⟨(cu s).1,0,{iE with pre:=(dk s).2}⟩])]) 80 (fun _=>kI s) ?_ ?_
   ·refine wp_cond (fun hc4=>?_) (fun hc4=>?_)
    ·try simp only[fo]at hc4
     refine aI ?_;intro u3;refine aC ?_;refine bO ((aj (dk s).1 46).length-1) (hj:=fun _=>by omega) (hb:=fun _=>by omega) ?_;refine av ?_;refine aq (fun hc5=>?_) (fun hc5=>?_)
     ·simp only[Bool.not_eq_true',decide_eq_false_iff_not]at hc5;have hno:=iv (s:=s) (fun h=>hc5 (h.1 hc4));refine au ?_;refine bo (b9.D cL) ?_;refine aI ?_;refine bC (aE ?_ (congrArg D.bool ?_));all_goals (rw[hno];rfl)
     simp only[Bool.not_eq_false',decide_eq_true_eq]at hc5;have hst:kI s:=fun _=>hc5
     have hrl:cY s=(aj (dk s).1 46).take ((aj (dk s).1 46).length-1):=if_pos hc4;refine aI ?_;intro u4;refine aC ?_;refine tX ((aj (dk s).1 46).length-1) (hj:=fun _=>by omega) (hb:=fun _=>by omega) ?_;refine av ?_;simp only[hrl];exact⟨(),hst,(cI [(0,0),(3,3)])⟩
    simp only[decide_eq_false_iff_not]at hc4;have hst:kI s:=fun h=>absurd h hc4
    have hrl:cY s=(aj (dk s).1 46):=if_neg hc4;refine au ?_;simp only[hrl];exact⟨(),hst,(cI [(0,0),(3,3)])⟩
   ·rintro _ hst;refine ax ?_;intro u5;refine au ?_;refine aq (fun hc6=>?_) (fun hc6=>?_)
    ·simp only[decide_eq_true_eq]at hc6;have hno:=iv (s:=s) (fun h=>by have:=h.2.1;simp only[dp,Bool.and_eq_true,decide_eq_true_eq]at this;omega);refine au ?_;refine bo (b9.D cL) ?_;refine ax ?_;refine bC (aE ?_ (congrArg D.bool ?_));all_goals (rw[hno];rfl)
    try simp only[fo]at hc6
    refine ax ?_;intro u6;refine aC ?_;refine aR (b9.D ⟨(cu s).1,((cY s).length:Nat),{iE with pre:=(dk s).2}⟩) (he:=by exact rfl) ?_;refine aI ?_;intro u7;refine au ?_;have hb:dp (cY s)=bJ (fun i=>ea (cY s)[i]!) 0 (cY s).length:=by simp only[dp];rw[decide_eq_true (by omega)];rfl
    refine aV hm (ι:=Nat) (fun i=>(⟨true,.str s⟩::⟨true,.ptr 0 7 0 0⟩::.un::.un::.un::.un::.un::.un::.un::⟨true,.ptr 3 7 0 0⟩::.un::.un::.un::.un::.un::.un::.un::.un::.un::.un::⟨true,.int .i64 (i:Nat)⟩::⟨true,.int .i64 ((cY s).length:Nat)⟩::.un::⟨true,.sl 1 ((cY s).map D.str)⟩::.un::.un::.un::.un::.un::.un::.un::.un::.un::[])) (fun i=>[(0,.buf 7 [b9.D cL]),(3,.buf 7 [b9.D ⟨(cu s).1,((cY s).length:Nat),{B9 (cY s) i with pre:=(dk s).2}⟩])]) 90 (fun i=>i≤(cY s).length∧dp (cY s)=bJ (fun i=>ea (cY s)[i]!) i (cY s).length) (fun i=>(cY s).length-i) 0 ⟨by omega,hb⟩ (cI [(0,0),(3,3)]) ?_;rintro i ⟨hi,hr⟩;refine av ?_;refine ca (fun hc7=>?_) fun hc7=>?_
    ·refine eB ?_;refine ak (hc:=h658 (cY s)[i]!) ?_;refine eB ?_;refine aq (fun hc8=>?_) (fun hc8=>?_)
     ·simp only[Bool.not_eq_true']at hc8;have hno:=iv (s:=s) (fun h=>by have:=h.2.1;rw[hr,aD (by omega),hc8]at this;cases this);refine au ?_;refine bo (b9.D cL) ?_;refine aA ?_;refine bC (aE ?_ (congrArg D.bool ?_));all_goals (rw[hno];rfl)
     simp only[Bool.not_eq_false']at hc8;refine cB ?_;refine wp_cond (fun hc9=>?_) (fun hc9=>?_)
     ·simp only[decide_eq_true_eq]at hc9;have hi0:i=0:=by omega
      refine ax ?_;refine aR (b9.D ⟨(cu s).1,((cY s).length:Nat),{B9 (cY s) (i+1)with pre:=(dk s).2}⟩) (he:=by subst hi0;exact rfl) ?_;refine bt ?_;exact⟨i+1,⟨by omega,by rw[hr,aD (by omega),hc8];rfl⟩,by omega,(cI [(0,0),(3,3)])⟩
     try simp only[fo]at hc9
     refine ax ?_;refine wp_cond (fun hc10=>?_) (fun hc10=>?_)
     ·simp only[decide_eq_true_eq]at hc10;have hi0:i=1:=by omega
      refine ax ?_;refine aR (b9.D ⟨(cu s).1,((cY s).length:Nat),{B9 (cY s) (i+1)with pre:=(dk s).2}⟩) (he:=by subst hi0;exact rfl) ?_;refine bt ?_;exact⟨i+1,⟨by omega,by rw[hr,aD (by omega),hc8];rfl⟩,by omega,(cI [(0,0),(3,3)])⟩
     simp only[decide_eq_false_iff_not]at hc10;have hi0:i=2:=by omega
     refine ax ?_;refine aR (b9.D ⟨(cu s).1,((cY s).length:Nat),{B9 (cY s) (i+1)with pre:=(dk s).2}⟩) (he:=by subst hi0;exact rfl) ?_;refine bt ?_;exact⟨i+1,⟨by omega,by rw[hr,aD (by omega),hc8];rfl⟩,by omega,(cI [(0,0),(3,3)])⟩
    refine ax ?_;obtain rfl:i=(cY s).length:=by omega
    have hok:dp (cY s)=true:=by rw[hr,bA (by omega)]
    have hsm:(dd s).v.sm:=⟨by show(dk s).2.length≤_;omega,by show([]:ah).length≤_;simp⟩;refine cM (d:=b9.D (dd s)) ?_;refine ak (hc:=h827 (dd s) hsm) ?_;refine au ?_;refine cM (d:=b9.D (dd s)) ?_;refine eK (hc:=fun _=>h828 (dd s) hsm) ?_;refine ax ?_;refine aq (fun hc11=>?_) (fun hc11=>?_)
    ·simp only[Bool.or_eq_true,Bool.not_eq_true',decide_eq_false_iff_not]at hc11;have hno:=iv (s:=s) (fun h=>by rcases hc11 with h1|h1;rw[h.2.2.1]at h1;cases h1;exact h1 h.2.2.2);refine au ?_;refine bo (b9.D cL) ?_;refine ax ?_;refine bC (aE ?_ (congrArg D.bool ?_));all_goals (rw[hno];rfl)
    simp only[Bool.or_eq_false_iff,Bool.not_eq_false',decide_eq_true_eq]at hc11;have hyes:eg s=some (dd s):=by unfold eg;rw[if_pos ⟨hst,hok,hc11⟩]
    refine au ?_;refine cM (d:=b9.D (dd s)) ?_;refine ax ?_;refine bC (aE ?_ (congrArg D.bool ?_));all_goals (rw[hyes];rfl)
def Mo (Γ:Ctx):Prop:=∀(s:ah),(s.length≤1048576)→Γ.pre 819 [.str s]∧Γ.val 819 [.str s]=.tup [b9.D ((eg s).getD cL),.bool (eg s).isSome]
end Go.Abs
end
section
namespace Go.Abs
open Go
def Ar:az:=⟨1,9,[⟨1,some (7,true)⟩,⟨2,none⟩],[[.a,.a,.a,.a,.a,.a,.a],[.a]],(sq (rg [gb 7 (.c (.agg [.int .i64 0,.int .i64 0,.int .i64 0,.int .i64 0,.int .i64 0,.str [],.str []])),gm bc] [(1,0),(2,1)]) (sq (sq (rg [gm s0,gx 819 [l0] bL,gm l1,ge l2 0,ge l2 1,gb 7 (.c (.agg [.int .i64 0,.int .i64 0,.int .i64 0,.int .i64 0,.int .i64 0,.str [],.str []])),gt 7 l5 l3,gm l4] [(5,5),(3,7)]) (sq (r1 [gm s3] 4 0) (.cond s4 (sq (r1 [gk 7 true s5,gt 7 s1 l0,gm bc] 2 2) .ret) .skip))) (sq (sq (rg [gm s0,ar (cs [94]) l0,gx 819 [l1] bL,gm l2,ge l3 0,ge l3 1,gb 7 (.c (.agg [.int .i64 0,.int .i64 0,.int .i64 0,.int .i64 0,.int .i64 0,.str [],.str []])),gt 7 l6 l4,gm l5] [(8,6),(6,8)]) (sq (r1 [gm s6] 7 0) (.cond s7 (sq (r1 [gk 7 true s8,gt 7 s1 l0,gm bc] 2 2) .ret) .skip))) (sq (r1 [gn (.build [.int .i64 0,.int .i64 0,.int .i64 0,.int .i64 0,.int .i64 0,.str [],.str []] []),gt 7 s1 l0,gm tm] 2 2) .ret))))⟩
def w682 {Γ:Ctx}(hm:(Γ.at 0).aY)(h819:Mo Γ)(s:ah)  (hp0:s.length≤1048575):c7 Γ Ar (.tup [b9.D ((iK s).getD cL),.int .i64 (if(iK s).isSome=true then 0 else 6)]) [.str s]:=by
 show bq _ _ _ [⟨_,_⟩,_,_,_,_,_,_,_,_] _;refine ai ?_;refine aA ?_;refine ak (hc:=h819 s (by omega)) ?_;refine aC ?_;refine eS (b9.D _) ?_;refine au ?_;refine aR (b9.D ((eg s).getD cL)) (he:=by exact rfl) ?_;refine aA ?_;refine ca (fun hc0=>?_) fun hc0=>?_
 ·refine au ?_;refine cM (d:=b9.D ((eg s).getD cL)) ?_;refine ax ?_;refine bC (aE ?_ (congrArg (D.int .i64) ?_));all_goals (have hn:iK s=eg s:=if_pos hc0;rw[hn];first|rfl|simp only[hc0,if_true])
 refine ax ?_;refine cA (hb:=fun _=>by simp;omega) ?_;refine ak (hc:=h819 (94::s) (by simp;omega)) ?_;refine aC ?_;refine eS (b9.D _) ?_;refine au ?_;refine aR (b9.D ((eg (94::s)).getD cL)) (he:=by exact rfl) ?_;refine aA ?_;refine ca (fun hc1=>?_) fun hc1=>?_
 ·refine au ?_;refine cM (d:=b9.D ((eg (94::s)).getD cL)) ?_;refine ax ?_;refine bC (aE ?_ (congrArg (D.int .i64) ?_));all_goals (have hn:iK s=eg (94::s):=(by simp only[iK,hc0,Bool.false_eq_true,if_false]);rw[hn];first|rfl|simp only[hc1,if_true])
 refine au ?_;refine bo (b9.D cL) ?_;refine ax ?_;refine bC (aE ?_ (congrArg (D.int .i64) ?_));all_goals (have hn:iK s=none:=(by simp only[iK,hc0,Bool.false_eq_true,if_false];exact Option.not_isSome_iff_eq_none.1 (by rw[hc1];simp));rw[hn];rfl)
def Mc (Γ:Ctx):Prop:=∀(s:ah),(s.length≤1048575)→Γ.pre 682 [.str s]∧Γ.val 682 [.str s]=.tup [b9.D ((iK s).getD cL),.int .i64 (if(iK s).isSome=true then 0 else 6)]
end Go.Abs
end
section
namespace Go.Abs
open Go
def F5:az:=⟨1,10,fg,bL,(sq (rg [gb 1 s0,gm cH] [(2,0),(1,1)]) (sq (sq (r1 [gf 0 s2,gd l0,gl l1,aJ l2 bV,gm l3,gT 4 0 s2,hJ 4 l5,bP 4 (.len l6),bP 4 (cC l7 tm),dL l4 l8] 3 9) (jh s3 cH)) (sq (sq (r1 [gm bc] 4 0) (.block 0 (.loop (sq (sq (r1 [gm s4,gf 0 s2,gd l1,gl l2,aJ l0 l3] 5 4) (ek s5 0)) (sq (.block 1 (sq (sq (r1 [gf 0 s2,gd l0,gm s4,ga 1 l1 l2,gd l3,gl l4,aJ l5 bV,gm l6,gT 7 0 s2,hJ 7 l8,dt 7 s4,bP 7 (.ia 1 l9 l10),hJ 7 gh,bP 7 (.len iq),bP 7 (cC jD tm),dL l7 jZ] 6 15) (jh s6 cH)) (sq (r1 [gm bc] 7 0) (.block 2 (.loop (sq (sq (r1 [gm s7,gf 0 s2,gd l1,gm s4,ga 1 l2 l3,gd l4,gl l5,aJ l0 l6] 8 7) (ek s8 2)) (sq (.block 3 (sq (r1 [gf 0 s2,gd l0,gm s4,ga 1 l1 l2,gd l3,gm s7,ga 7 l4 l5,gk 7 true l6,gx 676 [l7] Hr,iR l8] 9 9) (jh s9 cH))) (r1 [gm s7,ar l0 bV,gm l1] 7 2)))))))) (r1 [gm s4,ar l0 bV,gm l1] 4 2)))))) (rU mX))))⟩
def w899 {Γ:Ctx}(hm:(Γ.at 0).aY)(h676:Jm Γ)(r:oJ)  (hp0:fh r):c7 Γ F5 (.bool (fQ r)) [c9 r]:=by
 show bq _ _ _ [⟨_,_⟩,_,_,_,_,_,_,_,_,_] _;refine ai ?_;refine bt ?_;intro u0;refine ax ?_;refine hX ?_;refine av ?_;refine ca (fun hc0=>?_) fun hc0=>?_
 ·refine aI ?_;refine bp ?_;symm;simp only[fQ];rcases hc0 with h|h
  ·rw[decide_eq_false (by omega)];rfl
  ·rw[decide_eq_false (by omega:¬r.length≤6),Bool.and_false];rfl
 refine aI ?_;have hb:fQ r=bJ (fun i=>hY r[i]!) 0 r.length:=by simp only[fQ];rw[decide_eq_true (by omega),decide_eq_true (by omega)];rfl
 refine aV hm (ι:=Nat) (fun i=>[.un,.un,⟨true,.ptr 0 1 0 0⟩,.un,⟨true,.int .i64 (i:Nat)⟩,.un,.un,.un,.un,.un]) (fun i=>[(0,.buf 1 [c9 r])]) 13 (fun i=>i≤r.length∧fQ r=bJ (fun i=>hY r[i]!) i r.length) (fun i=>r.length-i) 0 ⟨by omega,hb⟩ (cI [(0,0)]) ?_;rintro i ⟨hi,hr⟩;refine aA ?_;intro u1;refine au ?_;refine ca (fun hc1=>?_) fun hc1=>?_
 ·refine gC ?_;intro u2;refine aQ ?_;refine hX ?_;refine av ?_;refine ca (fun hc2=>?_) fun hc2=>?_
  ·refine aQ ?_;refine bp ?_;rw[hr,aD (by omega)];have:hY r[i]! =false:=by
    simp only[hY];rcases hc2 with h|h
    ·rw[decide_eq_false (by omega)];rfl
    ·rw[decide_eq_false (by omega:¬r[i]!.length≤6),Bool.and_false];rfl
   rw[this];rfl
  refine ax ?_;have hkb:hY r[i]! =bJ (fun k=>iO r[i]![k]!) 0 r[i]!.length:=by simp only[hY];rw[decide_eq_true (by omega),decide_eq_true (by omega)];rfl
  refine ll hm (ι:=Nat) (fun k=>[.un,.un,⟨true,.ptr 0 1 0 0⟩,.un,⟨true,.int .i64 (i:Nat)⟩,.un,.un,⟨true,.int .i64 (k:Nat)⟩,.un,.un]) (fun k=>[(0,.buf 1 [c9 r])]) 35 (fun k=>k≤r[i]!.length∧hY r[i]! =bJ (fun k=>iO r[i]![k]!) k r[i]!.length) (fun k=>r[i]!.length-k) 0 ⟨by omega,hkb⟩ (cI [(0,0)]) ?_;rintro k ⟨hk,hkr⟩;refine cB ?_;intro u3;refine au ?_;refine ca (fun hc3=>?_) fun hc3=>?_
  ·refine gC ?_;first|refine bQ (v:=(b9.D _)) ?_|refine ef (v:=(b9.D _)) ?_
   refine ak (hc:=h676 r[i]![k]! (hp0 r[i]! (bw (by omega)) _ (bw (by omega))).sm) ?_;refine au ?_;refine wp_cond (fun hc4=>?_) (fun hc4=>?_)
   ·simp only[Bool.not_eq_true']at hc4;refine bt ?_;refine bp ?_;rw[hr,aD (by omega),hkr,aD (by omega),hc4];rfl
   simp only[Bool.not_eq_false']at hc4;refine bt ?_;exact⟨k+1,⟨by omega,by rw[hkr,aD (by omega),hc4];rfl⟩,by omega,(cI [(0,0)])⟩
  refine cB ?_;exact⟨i+1,⟨by omega,by rw[hr,aD (by omega),hkr,bA (by omega)];rfl⟩,by omega,(cI [(0,0)])⟩
 refine aA ?_;refine bp ?_;rw[hr,bA (by omega)]
def Js (Γ:Ctx):Prop:=∀(r:oJ),(fh r)→Γ.pre 899 [c9 r]∧Γ.val 899 [c9 r]=.bool (fQ r)
def DL:az:=⟨1,10,fg,bL,(sq (rg [gb 1 s0,gm cse] [(3,0),(1,1)]) (sq (r1 [gm cse] 6 0) (sq (sq (r1 [gm bc] 2 0) (.block 0 (.loop (sq (sq (r1 [gm s2,gf 0 s3,gd l1,gl l2,aJ l0 l3] 4 4) (ek s4 0)) (sq (.block 1 (sq (sq (r1 [gm s2,cg l0 bc] 5 1) (.cond s5 (r1 [gm s6,ar l0 (cs [32,124,124,32]),gm l1] 6 2) .skip)) (sq (r1 [gm bc] 7 0) (.block 2 (.loop (sq (sq (r1 [gm s7,gf 0 s3,gd l1,gm s2,ga 1 l2 l3,gd l4,gl l5,aJ l0 l6] 8 7) (ek s8 2)) (sq (.block 3 (sq (sq (r1 [gm s7,cg l0 bc] 9 1) (.cond s9 (r1 [gm s6,ar l0 (cs [44,32]),gm l1] 6 2) .skip)) (r1 [gm s6,gf 0 s3,gd l1,gm s2,ga 1 l2 l3,gd l4,gm s7,ga 7 l5 l6,gk 7 true l7,gx 482 [l8] Hr,ar l0 l9,gm l10] 6 11))) (r1 [gm s7,ar l0 bV,gm l1] 7 2)))))))) (r1 [gm s2,ar l0 bV,gm l1] 2 2)))))) (sq (r1 [gm s6,gm l0] 1 1) .ret))))⟩
def w900 {Γ:Ctx}(hm:(Γ.at 0).aY)(h482:Jb Γ)(r:oJ)  (hp0:fQ r=true∧fh r):c7 Γ DL (.str (ug r)) [c9 r]:=by
 show bq _ _ _ [⟨_,_⟩,_,_,_,_,_,_,_,_,_] _;have hlen:=F9 hp0.1 hp0.2;have hjl:=fun i=>oa [32,124,124,32] (r.map fX) i
 have hrl:∀i,(aO [32,124,124,32] ((r.map fX).take i)).length≤40000:=fun i=>Nat.le_trans (hjl i) hlen
 have hpl:∀i,(oE [32,124,124,32] (r.map fX) i).length≤40004:=fun i=>by
  unfold oE;split
  ·have:=hrl i;simp only[List.length_append,List.length_cons,List.length_nil];omega
  ·simp
 refine ai ?_;refine gC ?_;refine aV hm (ι:=Nat) (fun i=>[.un,.un,⟨true,.int .i64 (i:Nat)⟩,⟨true,.ptr 0 1 0 0⟩,.un,.un,⟨true,.str (aO [32,124,124,32] ((r.map fX).take i))⟩,.un,.un,.un]) (fun i=>[(0,.buf 1 [c9 r])]) 4 (fun i=>i≤r.length) (fun i=>r.length-i) 0 (by omega) (cI [(0,0)]) ?_;intro i hi;have hil:=hrl i;refine aA ?_;intro u0;refine au ?_;refine ca (fun hc0=>?_) fun hc0=>?_
 ·refine aQ ?_;refine xX hm (ι:=Unit) (fun _=>[.un,.un,⟨true,.int .i64 (i:Nat)⟩,⟨true,.ptr 0 1 0 0⟩,.un,.un,⟨true,.str (oE [32,124,124,32] (r.map fX) i)⟩,.un,.un,.un]) (fun _=>[(0,.buf 1 [c9 r])]) 50 (fun _=>True) ?_ ?_
  ·refine eW (fun hc1=>?_) fun hc1=>?_
   ·refine au ?_;refine cA (hb:=fun _=>by simp only[List.length_cons,List.length_nil];omega) ?_;refine av ?_;rw[show aO [32,124,124,32] ((r.map fX).take i)++[32,124,124,32]=oE [32,124,124,32] (r.map fX) i from(if_pos (by omega)).symm];exact⟨(),trivial,(cI [(0,0)])⟩
   refine au ?_;rw[FB [32,124,124,32] (r.map fX) (show ¬0<i by omega)];exact⟨(),trivial,(cI [(0,0)])⟩
  ·rintro _-
   have hpi:=hpl i;have hao:=qp (tc hp0.1 (show i<r.length by omega));have hcl:∀k,k<r[i]!.length→(cD r[i]![k]!).length≤1100:=fun k hk=>sX (hp0.2 r[i]! (bw (by omega)) _ (bw hk))
   have hal:=sN (hp0.2 r[i]! (bw (by omega))) hao.2;have hkl:∀k,(aO [44,32] ((r[i]!.map cD).take k)).length≤6612:=fun k=>Nat.le_trans (oa _ _ _) hal
   refine av ?_;rw[show oE [32,124,124,32] (r.map fX) i=oE [32,124,124,32] (r.map fX) i++aO [44,32] ((r[i]!.map cD).take 0)by simp[aO]];refine ll hm (ι:=Nat) (fun k=>[.un,.un,⟨true,.int .i64 (i:Nat)⟩,⟨true,.ptr 0 1 0 0⟩,.un,.un,⟨true,.str (oE [32,124,124,32] (r.map fX) i++aO [44,32] ((r[i]!.map cD).take k))⟩,⟨true,.int .i64 (k:Nat)⟩,.un,.un]) (fun k=>[(0,.buf 1 [c9 r])]) 51 (fun k=>k≤r[i]!.length) (fun k=>r[i]!.length-k) 0 (by omega) (cI [(0,0)]) ?_;intro k hk;have hkk:=hkl k;refine cB ?_;intro u1;refine au ?_;refine ca (fun hc2=>?_) fun hc2=>?_
   ·refine aQ ?_;refine ca (fun hc3=>?_) fun hc3=>?_
    ·refine au ?_;refine dY ?_;refine av ?_;have hjk:=qF [44,32] (r[i]!.map cD) k (by rw[List.length_map];omega);rw[xh cD r[i]! (show k<r[i]!.length by omega)]at hjk;refine bt ?_;first|refine bQ (v:=(b9.D _)) ?_|refine ef (v:=(b9.D _)) ?_
     refine ak (hc:=h482 r[i]![k]! (hp0.2 r[i]! (bw (by omega)) _ (bw (by omega))).sm) ?_;refine cA (hb:=fun _=>by have:=hcl k (by omega);simp only[List.length_append,List.length_cons,List.length_nil];omega) ?_;refine cB ?_;rw[show oE [32,124,124,32] (r.map fX) i++aO [44,32] ((r[i]!.map cD).take k)++[44,32]++cD r[i]![k]! =oE [32,124,124,32] (r.map fX) i++aO [44,32] ((r[i]!.map cD).take (k+1))by rw[hjk,show oE [44,32] (r[i]!.map cD) k=aO [44,32] ((r[i]!.map cD).take k)++[44,32]from if_pos (by omega)];simp only[List.append_assoc]];exact⟨k+1,(by omega),by omega,(cI [(0,0)])⟩
    refine au ?_;have hjk:=qF [44,32] (r[i]!.map cD) k (by rw[List.length_map];omega);rw[xh cD r[i]! (show k<r[i]!.length by omega)]at hjk;refine bt ?_;first|refine bQ (v:=(b9.D _)) ?_|refine ef (v:=(b9.D _)) ?_
    refine ak (hc:=h482 r[i]![k]! (hp0.2 r[i]! (bw (by omega)) _ (bw (by omega))).sm) ?_;refine cA (hb:=fun _=>by have:=hcl k (by omega);simp only[List.length_append,List.length_cons,List.length_nil];omega) ?_;refine cB ?_;rw[show oE [32,124,124,32] (r.map fX) i++aO [44,32] ((r[i]!.map cD).take k)++cD r[i]![k]! =oE [32,124,124,32] (r.map fX) i++aO [44,32] ((r[i]!.map cD).take (k+1))by rw[hjk,FB [44,32] (r[i]!.map cD) (show ¬0<k by omega)];simp only[List.append_assoc]];exact⟨k+1,(by omega),by omega,(cI [(0,0)])⟩
   refine cB ?_;obtain rfl:k=r[i]!.length:=by omega
   have hji:=qF [32,124,124,32] (r.map fX) i (by rw[List.length_map];omega);rw[xh fX r (show i<r.length by omega)]at hji;rw[show oE [32,124,124,32] (r.map fX) i++aO [44,32] ((r[i]!.map cD).take r[i]!.length)=aO [32,124,124,32] ((r.map fX).take (i+1))by rw[hji,List.take_of_length_le (by rw[List.length_map];exact Nat.le_refl _)];rfl];exact⟨i+1,(by omega),by omega,(cI [(0,0)])⟩
 refine aQ ?_;refine b8 ?_;rw[List.take_of_length_le (by simp;omega)];rfl
def GX (Γ:Ctx):Prop:=∀(r:oJ),(fQ r=true∧fh r)→Γ.pre 900 [c9 r]∧Γ.val 900 [c9 r]=.str (ug r)
def F4:az:=⟨1,3,fg,bL,(sq (rg [gb 1 s0,gm cH] [(2,0),(1,1)]) (sq (r1 [gk 1 true s2,gx 899 [l0] [[.sl 1 [.sl 7 [.a,.a,.a,.a,.a,.a,.a]]]],gm l1,bR 2 (.ld 1 true s2),bR 2 (.call 900 [l3] [[.sl 1 [.sl 7 [.a,.a,.a,.a,.a,.a,.a]]]]),bR 2 (.lenS l4),bR 2 (kS l5 (i6 96)),dG l2 l6,gm l7] 1 8) .ret))⟩
def w901 {Γ:Ctx}(hm:(Γ.at 0).aY)(h899:Js Γ)(h900:GX Γ)(r:oJ)  (hp0:fh r):c7 Γ F4 (.bool (mQ r)) [c9 r]:=by
 show bq _ _ _ [⟨_,_⟩,_,_] _;refine ai ?_;refine aI ?_;refine ak (hc:=h899 r hp0) ?_;refine au ?_;refine eK (hc:=fun hf=>h900 r ⟨by simpa using hf,hp0⟩) ?_;refine hX ?_;refine aI ?_;refine bp ?_;simp only[mQ];congr 1;exact decide_eq_decide.2 (by omega)
def Mt (Γ:Ctx):Prop:=∀(r:oJ),(fh r)→Γ.pre 901 [c9 r]∧Γ.val 901 [c9 r]=.bool (mQ r)
def Bh:az:=⟨1,4,fg,bL,(sq (rg [gb 1 s0,gm cse] [(2,0),(1,1)]) (sq (sq (r1 [gk 1 true s2,gx 901 [l0] [[.sl 1 [.sl 7 [.a,.a,.a,.a,.a,.a,.a]]]],iR l1] 3 2) (jh s3 cse)) (sq (r1 [gk 1 true s2,gx 900 [l0] [[.sl 1 [.sl 7 [.a,.a,.a,.a,.a,.a,.a]]]],gm l1] 1 2) .ret)))⟩
def w745 {Γ:Ctx}(hm:(Γ.at 0).aY)(h900:GX Γ)(h901:Mt Γ)(r:oJ)  (hp0:fh r):c7 Γ Bh (.str (nN r)) [c9 r]:=by
 show bq _ _ _ [⟨_,_⟩,_,_,_] _;refine ai ?_;refine aA ?_;refine ak (hc:=h901 r hp0) ?_;refine au ?_;refine aq (fun hc0=>?_) (fun hc0=>?_)
 ·simp only[Bool.not_eq_true']at hc0;refine aI ?_;refine b8 ?_;simp[nN,hc0]
 simp only[Bool.not_eq_false']at hc0;have hfw:fQ r=true:=by simp only[mQ,Bool.and_eq_true]at hc0;exact hc0.1
 refine av ?_;refine ak (hc:=h900 r ⟨hfw,hp0⟩) ?_;refine av ?_;refine b8 ?_;simp[nN,hc0]
def Mg (Γ:Ctx):Prop:=∀(r:oJ),(fh r)→Γ.pre 745 [c9 r]∧Γ.val 745 [c9 r]=.str (nN r)
end Go.Abs
end
section
namespace Go.Abs
open Go
def DK:az:=⟨1,4,fg,bL,(sq (r1 [gm cse] 1 0) (sq (.block 0 (.loop (sq (sq (r1 [gm s0,lG l0,cg l1 bc,gm l2,gmt 3 s0,bR 3 (.ixS l4 bc),bR 3 (bY l5 (i8 32)),dG l3 l6] 2 7) (ek s2 0)) (.block 1 (r1 [gm s0,gn (.slS l0 (some bV) none),gm l1] 0 2))))) (sq (.block 2 (.loop (sq (sq (r1 [gm s0,lG l0,cg l1 bc,gm l2,gmt 3 s0,gmt 3 s0,bR 3 (.lenS l5),bR 3 (hZ l6 bV),bR 3 (.ixS l4 l7),bR 3 (bY l8 (i8 32)),dG l3 l9] 3 10) (ek s3 2)) (.block 3 (r1 [gm s0,gm s0,lG l1,dN l2 bV,gn (.slS l0 none (some l3)),gm l4] 0 5))))) (sq (r1 [gm s0,gm l0] 1 1) .ret))))⟩
def w898 {Γ:Ctx}(hm:(Γ.at 0).aY)  (s:ah)   :c7 Γ DK (.str (cQ s)) [.str s]:=by
 show bq _ _ _ [⟨_,_⟩,_,_,_] _;refine ai ?_;refine au ?_;refine aV hm (ι:=ah) (fun t=>[⟨true,.str t⟩,.un,.un,.un]) (fun t=>[]) 1 (fun t=>ib s=ib t∧t.length≤s.length) (fun t=>t.length) s ⟨rfl,Nat.le_refl _⟩ (cI []) ?_;rintro t ⟨hr,hl⟩;refine ax ?_;intro u0;refine av ?_;refine lW 0 ?_;refine av ?_;refine ca (fun hc0=>?_) fun hc0=>?_
 ·refine ax ?_;refine fI 1 (hb:=fun _=>by omega) ?_;refine ax ?_;exact⟨(t.drop 1),⟨by rw[hr,vr (by omega) hc0.2],by rw[List.length_drop];omega⟩,by rw[List.length_drop];omega,(cI [])⟩
 refine au ?_;have hbt:cQ s=sR t:=by
  show(ib (ib s).reverse).reverse=_;rw[hr,sQ hc0];rfl
 refine aV hm (ι:=ah) (fun u=>[⟨true,.str u⟩,.un,.un,.un]) (fun u=>[]) 9 (fun u=>cQ s=sR u∧u.length≤s.length) (fun u=>u.length) t ⟨hbt,hl⟩ (cI []) ?_;rintro u ⟨hru,hlu⟩;refine ax ?_;intro u1;refine ax ?_;refine hX ?_;refine aC ?_;refine lW (u.length-1) ?_;refine av ?_;refine ca (fun hc1=>?_) fun hc1=>?_
 ·refine aA ?_;intro u2;refine aC ?_;refine lX (u.length-1) (hj:=fun _=>by omega) (hb:=fun _=>by omega) ?_;refine ax ?_;exact⟨(u.take (u.length-1)),⟨by rw[hru,CO (by omega) hc1.2],by rw[List.length_take];omega⟩,by rw[List.length_take];omega,(cI [])⟩
 refine aQ ?_;refine b8 ?_;rw[hru,Ai hc1]
def Ms (Γ:Ctx):Prop:=∀(s:ah),Γ.pre 898 [.str s]∧Γ.val 898 [.str s]=.str (cQ s)
def DJ:az:=⟨1,7,fg,[[.sl 1 [.a]]],(sq (r1 [gm (.c (.aF))] 1 0) (sq (r1 [gm (.c (.aF))] 6 0) (sq (r1 [gm bc] 4 0) (sq (sq (r1 [gm bc] 2 0) (.block 0 (.loop (sq (sq (r1 [gm s2,ar l0 bV,gm s0,lG l2,aJ l1 l3] 3 4) (ek s3 0)) (sq (.block 1 (sq (r1 [gm s0,gm s2,C7 l0 l1,aH l2 (i8 124),gm l3,gmt 4 s0,gmt 4 s2,bR 4 (EB l6 bV),bR 4 (.ixS l5 l7),bR 4 (bY l8 (i8 124)),dG l4 l9,gm l10,gmt 11 s2,gmt 11 s4,bR 11 (rk iq jD),dG gh jZ] 5 15) (.cond s5 (sq (r1 [gm s6,gm s0,gm s4,gm s2,gn (.slS l1 (some l2) (some l3)),gn (.bsl 1 (.str []) 1 [(0,l4)]),gn (.app 1 l0 l5),gm l6] 6 7) (r1 [gm s2,ar l0 lM,gm l1] 4 2)) .skip))) (r1 [gm s2,ar l0 bV,gm l1] 2 2)))))) (sq (r1 [gm s6,gm s0,gm s4,gn (.slS l1 (some l2) none),gn (.bsl 1 (.str []) 1 [(0,l3)]),gn (.app 1 l0 l4),gm l5] 1 6) .ret)))))⟩
def w896 {Γ:Ctx}(hm:(Γ.at 0).aY)  (s:ah)  (hp0:s.length≤1048576):c7 Γ DJ (.sl 1 ((aw s []).map D.str)) [.str s]:=by
 show bq _ _ _ [⟨_,_⟩,_,_,_,_,_,_] _;refine ai ?_;refine gD ?_;refine aV hm (ι:=(Nat×Nat×List ah)) (fun p=>[⟨true,.str s⟩,.un,⟨true,.int .i64 (p.1:Nat)⟩,.un,⟨true,.int .i64 (p.2.1:Nat)⟩,.un,⟨true,.own 0 1 0 p.2.2.length⟩]) (fun p=>[(0,.buf 1 (p.2.2.map D.str))]) 4 (fun p=>p.1≤s.length∧p.2.1≤s.length∧p.2.1≤p.1+1∧p.2.2.length≤p.1∧oK s p.1 p.2.1 p.2.2) (fun p=>s.length-p.1) (0,0,[]) ⟨by simp,by simp,by simp,by simp,by simp[oK]⟩ (aT.to [] ae ae (by repeat(first|exact cS.nil|refine cS.un ?_|refine cS.eq ae ?_|refine cS.nl ae ae ?_|refine cS.ni (Or.inr ⟨_,_,_,rfl⟩) ?_)) (by repeat(first|exact aL.nil|refine aL.mt ae ae ae ae ?_))) ?_;rintro⟨i,fr,acc⟩ ⟨hi,hf,hfi,ha,hr⟩;dsimp only at hi hf hfi ha hr⊢;refine aA ?_;intro u0;refine au ?_;refine ca (fun hc0=>?_) fun hc0=>?_
 ·refine aI ?_;refine lW i ?_;refine aI ?_;refine lW (i+1) ?_;refine bt ?_;refine eW (fun hc1=>?_) fun hc1=>?_
  ·refine aI ?_;refine tZ fr i (hb:=fun _=>by omega) ?_;refine cF [(.str _)] ?_;refine uJ ?_;exact⟨(i+1,i+2,acc++[(s.take i).drop fr]),⟨by dsimp only;omega,by dsimp only;omega,by dsimp only;omega,by simp;omega,CM hr (by omega) hc1⟩,by dsimp only;omega,(aT.to [(31,0)] ae ae c8 (by refine aL.nl 31 ae ae ae cz ?_;exact aL.nil))⟩
  refine bt ?_;exact⟨(i+1,fr,acc),⟨by dsimp only;omega,by dsimp only;omega,by dsimp only;omega,by dsimp only;omega,Ev hr (by omega) hfi hc1⟩,by dsimp only;omega,(aT.to [(0,0)] ae ae c8 (by(first|refine aL.eG ae ae cz ?_|refine aL.j7 ae ae ae ?_|refine aL.kP ae ae ae ae ?_);exact aL.nil))⟩
 refine aA ?_;refine fI fr (hb:=fun _=>by omega) ?_;refine cF [(.str _)] ?_;refine av ?_;refine fM 14 ?_;refine aC ?_;refine bC (?_);rw[CL hr (by omega) hf];rfl
def Mq (Γ:Ctx):Prop:=∀(s:ah),(s.length≤1048576)→Γ.pre 896 [.str s]∧Γ.val 896 [.str s]=.sl 1 ((aw s []).map D.str)
end Go.Abs
end
section
namespace Go.Abs
open Go
def Bf:az:=⟨1,17,[⟨1,some (1,true)⟩,⟨2,none⟩],[[.sl 1 [.sl 7 [.a,.a,.a,.a,.a,.a,.a]]],[.a]],(sq (rg [gb 1 (.c (.agg [.aF])),gm bc] [(1,0),(2,1)]) (sq (sq (r1 [gm s0,lG l0,cg l1 (i6 96)] 3 2) (.cond s3 (sq (r1 [gn (.build [.aF] []),gt 1 s1 l0,gm kr] 2 2) .ret) .skip)) (sq (r1 [gb 1 (.c (.agg [.aF]))] 14 0) (sq (r1 [gm s0,gx 896 [l0] bL,gm l1] 5 2) (sq (sq (r1 [gm bc] 4 0) (.block 0 (.loop (sq (sq (r1 [gm s4,gm s5,gl l1,aJ l0 l2] 6 3) (ek s6 0)) (sq (.block 1 (sq (r1 [gm (.c (.aF))] 12 0) (sq (r1 [gm s5,gm s4,ga 1 l0 l1,gd l2,gx 470 [l3,(i8 44)] gL,gm l4] 8 5) (sq (sq (r1 [gm bc] 7 0) (.block 2 (.loop (sq (sq (r1 [gm s7,gm s8,gl l1,aJ l0 l2] 9 3) (ek s9 2)) (sq (.block 3 (sq (rg [gm s8,gm s7,ga 1 l0 l1,gd l2,gx 898 [l3] bL,gx 897 [l4] bL,gm l5,ge l6 0,ge l6 1,gb 7 (.c (.agg [.int .i64 0,.int .i64 0,.int .i64 0,.int .i64 0,.int .i64 0,.str [],.str []])),gt 7 l9 l7,gm l8] [(13,9),(10,11)]) (sq (sq (r1 [gm jR,bZ l0 bc] 11 1) (.cond lf (sq (r1 [gn (.build [.aF] []),gt 1 s1 l0,gm tm] 2 2) .ret) .skip)) (r1 [gm lE,gk 7 true oO,gn (.bsl 7 (.agg [.int .i64 0,.int .i64 0,.int .i64 0,.int .i64 0,.int .i64 0,.str [],.str []]) 1 [(0,l1)]),gn (.app 7 l0 l2),gm l3] 12 4)))) (r1 [gm s7,ar l0 bV,gm l1] 7 2)))))) (rg [gf 0 rL,gd l0,gm lE,gn (.bsl 1 (.aF) 1 [(0,l2)]),gn (.app 1 l1 l3),gf 0 rL,gt 1 l5 l4] []))))) (r1 [gm s4,ar l0 bV,gm l1] 4 2)))))) (sq (sq (r1 [gk 1 true rL,gx 899 [l0] [[.sl 1 [.sl 7 [.a,.a,.a,.a,.a,.a,.a]]]],iR l1] 15 2) (.cond qU (sq (r1 [gn (.build [.aF] []),gt 1 s1 l0,gm tm] 2 2) .ret) .skip)) (sq (sq (r1 [gk 1 true rL,gx 900 [l0] [[.sl 1 [.sl 7 [.a,.a,.a,.a,.a,.a,.a]]]],lG l1,cg l2 (i6 96)] 16 3) (.cond z6 (sq (r1 [gn (.build [.aF] []),gt 1 s1 l0,gm kr] 2 2) .ret) .skip)) (sq (r1 [gk 1 true rL,gt 1 s1 l0,gm bc] 2 2) .ret))))))))⟩
def w744 {Γ:Ctx}(hm:(Γ.at 0).aY)(h470:CB Γ)(h896:Mq Γ)(h897:Mr Γ)(h898:Ms Γ)(h899:Js Γ)(h900:GX Γ)(s:ah)  (hp0:s.length≤1048576):c7 Γ Bf (.tup [c9 (dV s).1,.int .i64 (dV s).2]) [.str s]:=by
 show bq _ _ _ [⟨_,_⟩,_,_,_,_,_,_,_,_,_,_,_,_,_,_,_,_] _;have hdl:=kH s [];have hgl:∀i,i<(aw s []).length→(aw s [])[i]!.length≤s.length:=fun i hi=>by
  have:=hdl.2 _ (bw hi);simpa using this
 refine ai ?_;refine aQ ?_;intro u0;refine au ?_;refine ca (fun hc0=>?_) fun hc0=>?_
 ·refine au ?_;refine ff [.aF] ?_;refine aR (.agg [.aF]) (he:=by exact rfl) ?_;refine av ?_;refine bC (aE ?_ (congrArg (D.int .i64) ?_));all_goals
   have hq:dV s=([],3):=by
    unfold dV;rw[if_pos (by omega)]
   rw[hq];first|done|rfl
 refine aA ?_;refine ak (hc:=h896 s (by omega)) ?_;refine aA ?_;refine aV hm (ι:=Nat) (fun i=>[.un,⟨true,.ptr 0 1 0 0⟩,.un,.un,⟨true,.int .i64 (i:Nat)⟩,⟨true,.sl 1 ((aw s []).map D.str)⟩,.un,.un,.un,.un,.un,.un,.un,.un,⟨true,.ptr 5 1 0 0⟩,.un,.un]) (fun i=>[(0,.buf 1 [.agg [.aF]]),(5,.buf 1 [.agg [.own 1 1 0 ((eU s).take i).length]]),(1,.buf 1 (((eU s).take i).map na))]) 10 (fun i=>i≤(aw s []).length∧uf s=bJ (fun i=>OJ (aw s [])[i]!) i (aw s []).length) (fun i=>(aw s []).length-i) 0 ⟨by omega,rfl⟩ (aT.to [(0,0),(5,5)] ae ae c8 (by(first|refine aL.eG ae ae cz ?_|refine aL.j7 ae ae ae ?_|refine aL.kP ae ae ae ae ?_);refine aL.ni 5 ae ae (by exact⟨_,_,rfl,⟨_,rfl,⟨_,_,rfl,Or.inr ⟨_,_,_,rfl⟩,rfl⟩⟩,rfl⟩) ?_;refine aL.mt ae ae ae ae ?_;exact aL.nil)) ?_;rintro i ⟨hi,hr⟩;have hrt:((eU s).take i).length≤i:=by rw[List.length_take];omega
 refine aI ?_;intro u1;refine au ?_;refine ca (fun hc1=>?_) fun hc1=>?_
 ·refine aA ?_;have hgi:=hgl i (by omega);have hsl:=cG (aw s [])[i]! 44;have hsp:1≤(aj (aw s [])[i]! 44).length:=eM _ _ _;refine ax ?_;refine ak (hc:=h470 (aw s [])[i]! 44 (by omega)) ?_;refine aA ?_;refine aV hm (ι:=Nat) (fun k=>[.un,⟨true,.ptr 0 1 0 0⟩,.un,.un,⟨true,.int .i64 (i:Nat)⟩,⟨true,.sl 1 ((aw s []).map D.str)⟩,.un,⟨true,.int .i64 (k:Nat)⟩,⟨true,.sl 1 ((aj (aw s [])[i]! 44).map D.str)⟩,.un,.un,.un,⟨true,.own 2 7 0 ((jE (aw s [])[i]!).take k).length⟩,.un,⟨true,.ptr 5 1 0 0⟩,.un,.un]) (fun k=>[(0,.buf 1 [.agg [.aF]]),(5,.buf 1 [.agg [.own 1 1 0 ((eU s).take i).length]]),(1,.buf 1 (((eU s).take i).map na)),(2,.buf 7 (((jE (aw s [])[i]!).take k).map b9.D))]) 22 (fun k=>k≤(aj (aw s [])[i]! 44).length∧OJ (aw s [])[i]! =bJ (fun k=>(cR (cQ (aj (aw s [])[i]! 44)[k]!)).isSome) k (aj (aw s [])[i]! 44).length) (fun k=>(aj (aw s [])[i]! 44).length-k) 0 ⟨by omega,rfl⟩ (aT.to [(0,0),(5,5),(1,1)] ae ae (by repeat(first|exact cS.nil|refine cS.un ?_|refine cS.eq ae ?_|refine cS.nl ae ae ?_|refine cS.ni (Or.inr ⟨_,_,_,rfl⟩) ?_)) (by(first|refine aL.eG ae ae cz ?_|refine aL.j7 ae ae ae ?_|refine aL.kP ae ae ae ae ?_);(first|refine aL.eG ae ae cz ?_|refine aL.j7 ae ae ae ?_|refine aL.kP ae ae ae ae ?_);(first|refine aL.eG ae ae cz ?_|refine aL.j7 ae ae ae ?_|refine aL.kP ae ae ae ae ?_);refine aL.mt ae ae ae ae ?_;exact aL.nil)) ?_;rintro k ⟨hk,hwk⟩;have htk:((jE (aw s [])[i]!).take k).length≤k:=by rw[List.length_take];omega
  refine aI ?_;intro u2;refine au ?_;refine ca (fun hc2=>?_) fun hc2=>?_
  ·refine av ?_;have hwl:=uk (aw s [])[i]! 44 (show k<(aj (aw s [])[i]! 44).length by omega);have hbl:=qt (aj (aw s [])[i]! 44)[k]!;refine ax ?_;refine ak (hc:=h898 (aj (aw s [])[i]! 44)[k]!) ?_;refine ak (hc:=h897 (cQ (aj (aw s [])[i]! 44)[k]!) (by omega)) ?_;refine aC ?_;refine eS (b9.D _) ?_;refine au ?_;refine aR (b9.D ((cR (cQ (aj (aw s [])[i]! 44)[k]!)).getD cL)) (he:=by exact rfl) ?_;refine aQ ?_;refine aq (fun hc3=>?_) (fun hc3=>?_)
   ·have hsm:(cR (cQ (aj (aw s [])[i]! 44)[k]!)).isSome=false:=by cases hx:(cR (cQ (aj (aw s [])[i]! 44)[k]!)).isSome with|false=>rfl|true=>rw[hx]at hc3;exact absurd hc3 (by decide)
    refine au ?_;refine ff [.aF] ?_;refine aR (.agg [.aF]) (he:=by exact rfl) ?_;refine aQ ?_;refine bC (aE ?_ (congrArg (D.int .i64) ?_));all_goals
     have hq:dV s=([],6):=by
      have hno:uf s=false:=by rw[hr,aD (by omega),hwk,aD (by omega),hsm];rfl
      unfold dV;rw[if_neg (by omega),if_pos hno]
     rw[hq];first|done|rfl
   have hsm:(cR (cQ (aj (aw s [])[i]! 44)[k]!)).isSome=true:=by cases hx:(cR (cQ (aj (aw s [])[i]! 44)[k]!)).isSome with|true=>rfl|false=>rw[hx]at hc3;exact absurd hc3 (by decide)
   refine av ?_;refine cM (d:=b9.D ((cR (cQ (aj (aw s [])[i]! 44)[k]!)).getD cL)) ?_;refine cF [(b9.D _)] ?_;refine gC ?_;have hq:=eX (fun x=>(cR (cQ x)).getD cL) (aj (aw s [])[i]! 44) (show k<(aj (aw s [])[i]! 44).length by omega);rw[show(fun x=>(cR (cQ x)).getD cL)=fun x=>(cR (cQ x)).getD cL from rfl]at hq;have hq:(jE (aw s [])[i]!).take (k+1)=_:=hq;rw[show(jE (aw s [])[i]!).take k++[(cR (cQ (aj (aw s [])[i]! 44)[k]!)).getD cL]=(jE (aw s [])[i]!).take (k+1)from hq.symm];exact⟨k+1,⟨by omega,by rw[hwk,aD (by omega),hsm];rfl⟩,by omega,(aT.to [(0,0),(5,5),(1,1),(43,2)] ae ae c8 (by(first|refine aL.eG ae ae cz ?_|refine aL.j7 ae ae ae ?_|refine aL.kP ae ae ae ae ?_);(first|refine aL.eG ae ae cz ?_|refine aL.j7 ae ae ae ?_|refine aL.kP ae ae ae ae ?_);(first|refine aL.eG ae ae cz ?_|refine aL.j7 ae ae ae ?_|refine aL.kP ae ae ae ae ?_);refine aL.nl 43 ae ae ae cz ?_;exact aL.nil))⟩
  refine au ?_;refine fM 2 ?_ (he:=by simp only[lF,gZ,kO,mn,ny,cd,Nat.reduceEqDiff,if_true,if_false,and_self,true_and,and_true,false_and,and_false,Nat.zero_add,List.length_map,Nat.le_refl,List.drop_zero,aP,reduceCtorEq,List.length_cons,List.length_nil,Nat.reduceAdd,Nat.reduceLeDiff,kV];exact rfl) (hm:=by simp only[lF,gZ,kO,mn,ny,cd,Nat.reduceEqDiff,if_true,if_false,and_self,true_and,and_true,false_and,and_false,Nat.zero_add,List.length_map,Nat.le_refl,List.drop_zero,aP,reduceCtorEq,List.length_cons,List.length_nil,Nat.reduceAdd,Nat.reduceLeDiff,kV];exact rfl);refine aC ?_;obtain rfl:k=(aj (aw s [])[i]! 44).length:=by omega
  rw[List.take_of_length_le (show(jE (aw s [])[i]!).length≤(aj (aw s [])[i]! 44).length by simp[jE])];refine aC ?_;refine cX (v:=.own _ _ _ _) ?_;refine aC ?_;refine cF [na (jE (aw s [])[i]!)] ?_;refine au ?_;refine aR (.agg [.own 30 1 0 ((eU s).take i++[jE (aw s [])[i]!]).length]) (he:=by exact rfl) ?_;refine bt ?_;have hq:(eU s).take (i+1)=(eU s).take i++[jE (aw s [])[i]!]:=eX jE (aw s []) (show i<(aw s []).length by omega);rw[←hq];exact⟨i+1,⟨by omega,by rw[hr,aD (by omega),hwk,bA (by omega)];rfl⟩,by omega,(aT.to [(0,0),(5,5),(30,1)] ae ae c8 (by(first|refine aL.eG ae ae cz ?_|refine aL.j7 ae ae ae ?_|refine aL.kP ae ae ae ae ?_);(first|refine aL.eG ae ae cz ?_|refine aL.j7 ae ae ae ?_|refine aL.kP ae ae ae ae ?_);refine aL.nl 30 ae ae ae cz ?_;exact aL.nil))⟩
 refine av ?_;refine fM 1 ?_ (he:=by simp only[lF,gZ,kO,mn,ny,cd,Nat.reduceEqDiff,if_true,if_false,and_self,true_and,and_true,false_and,and_false,Nat.zero_add,List.length_map,Nat.le_refl,List.drop_zero,aP,reduceCtorEq,List.length_cons,List.length_nil,Nat.reduceAdd,Nat.reduceLeDiff,kV];exact rfl) (hm:=by simp only[lF,gZ,kO,mn,ny,cd,Nat.reduceEqDiff,if_true,if_false,and_self,true_and,and_true,false_and,and_false,Nat.zero_add,List.length_map,Nat.le_refl,List.drop_zero,aP,reduceCtorEq,List.length_cons,List.length_nil,Nat.reduceAdd,Nat.reduceLeDiff,kV];exact rfl);refine aC ?_;obtain rfl:i=(aw s []).length:=by omega
 have hok:uf s=true:=by rw[hr,bA (by omega)]
 rw[List.take_of_length_le (show(eU s).length≤(aw s []).length by simp[eU])];have hrs:=xI (s:=s) (by omega);refine cM (d:=c9 (eU s)) ?_;refine ak (hc:=h899 (eU s) hrs) ?_;refine au ?_;refine aq (fun hc4=>?_) (fun hc4=>?_)
 ·simp only[Bool.not_eq_true']at hc4;refine au ?_;refine ff [.aF] ?_;refine aR (.agg [.aF]) (he:=by exact rfl) ?_;refine av ?_;refine bC (aE ?_ (congrArg (D.int .i64) ?_));all_goals
   have hq:dV s=([],6):=by
    unfold dV;rw[if_neg (by omega),if_neg (by rw[hok];simp),if_pos hc4]
   rw[hq];first|done|rfl
 simp only[Bool.not_eq_false']at hc4;refine av ?_;refine cM (d:=c9 (eU s)) ?_;refine ak (hc:=h900 (eU s) ⟨hc4,hrs⟩) ?_;refine aC ?_;intro u3;refine au ?_;refine ca (fun hc5=>?_) fun hc5=>?_
 ·refine au ?_;refine ff [.aF] ?_;refine aR (.agg [.aF]) (he:=by exact rfl) ?_;refine av ?_;refine bC (aE ?_ (congrArg (D.int .i64) ?_));all_goals
   have hq:dV s=([],3):=by
    unfold dV;rw[if_neg (by omega),if_neg (by rw[hok];simp),if_neg (by rw[hc4];simp),if_pos (by omega)]
   rw[hq];first|done|rfl
 refine au ?_;refine cM (d:=c9 (eU s)) ?_;refine aR (c9 (eU s)) (he:=by exact rfl) ?_;refine av ?_;refine bC (aE ?_ (congrArg (D.int .i64) ?_));all_goals
  have hq:dV s=(eU s,0):=by
   unfold dV;rw[if_neg (by omega),if_neg (by rw[hok];simp),if_neg (by rw[hc4];simp),if_neg (by omega)]
  rw[hq];first|done|rfl
def Mf (Γ:Ctx):Prop:=∀(s:ah),(s.length≤1048576)→Γ.pre 744 [.str s]∧Γ.val 744 [.str s]=.tup [c9 (dV s).1,.int .i64 (dV s).2]
def Bg:az:=⟨1,4,fg,bL,(sq (r1 [gm cH] 1 0) (sq (rg [gm s0,gx 744 [l0] bL,gm l1,ge l2 0,ge l2 1,gb 1 (.c (.agg [.aF])),gt 1 l5 l3,gm l4] [(3,5),(2,7)]) (sq (r1 [gm s2,aH l0 bc,gm l1,bR 2 (.ld 1 true s3),bR 2 (.call 745 [l3] [[.sl 1 [.sl 7 [.a,.a,.a,.a,.a,.a,.a]]]]),gmt 2 s0,bR 2 (bY l4 l5),dG l2 l6,gm l7] 1 8) .ret)))⟩
def w572 {Γ:Ctx}(hm:(Γ.at 0).aY)(h744:Mf Γ)(h745:Mg Γ)(s:ah)  (hp0:s.length≤1048576):c7 Γ Bg (.bool (mC s)) [.str s]:=by
 show bq _ _ _ [⟨_,_⟩,_,_,_] _;refine ai ?_;refine ax ?_;refine ak (hc:=h744 s hp0) ?_;refine aC ?_;refine eS (c9 _) ?_;refine au ?_;refine aR (c9 (dV s).1) (he:=by exact rfl) ?_;refine aA ?_;refine cM (d:=c9 (dV s).1) ?_;refine eK (hc:=fun hf=>h745 (dV s).1 Co.1) ?_;refine aA ?_;exact bp rfl
def Jd (Γ:Ctx):Prop:=∀(s:ah),(s.length≤1048576)→Γ.pre 572 [.str s]∧Γ.val 572 [.str s]=.bool (mC s)
end Go.Abs
end
section
namespace Go.Abs
open Go
def Bj:az:=⟨1,19,[⟨1,none⟩,⟨2,none⟩],gL,(sq (rg [gb 1 s0,gm cse,gm cH] [(3,0),(1,1),(2,2)]) (sq (sq (r1 [gf 0 s3,gd l0,gl l1,aJ l2 bV,gm l3,gT 4 0 s3,hJ 4 l5,bP 4 (.len l6),bP 4 (cC l7 tm),dL l4 l8] 4 9) (.cond s4 (sq (rg [gm cse,gm cH] [(1,0),(2,1)]) .ret) .skip)) (sq (r1 [gm (.c (.aF))] 18 0) (sq (sq (rg [gf 0 s3,gd l0,gl l1,gm bc] [(8,1),(6,2),(5,3)]) (.block 0 (.loop (sq (r1 [aJ s5 s6] 7 0) (sq (ek s7 0) (sq (.block 1 (sq (r1 [ga 1 s8 s5,gd l0,gm l1] 9 2) (sq (sq (r1 [gm s9,gl l0,aJ l1 bV,gm l2,dt 3 s9,bP 3 (.len l4),bP 3 (cC l5 tm),dL l3 l6] 10 7) (.cond jR (sq (rg [gm cse,gm cH] [(1,0),(2,1)]) .ret) .skip)) (sq (r1 [gm (.c (.aF))] 17 0) (sq (sq (rg [gm s9,gl l0,gm bc] [(14,0),(12,1),(11,2)]) (.block 2 (.loop (sq (r1 [aJ lf lE] 13 0) (sq (ek oO 2) (sq (.block 3 (sq (r1 [ga 7 rL lf,gk 7 true l0,gb 7 (.c (.agg [.int .i64 0,.int .i64 0,.int .i64 0,.int .i64 0,.int .i64 0,.str [],.str []])),gt 7 l2 l1] 15 2) (sq (sq (r1 [gk 7 true qU,gx 827 [l0] Hr,iR l1] 16 2) (.cond z6 (sq (rg [gm cse,gm cH] [(1,0),(2,1)]) .ret) .skip)) (r1 [gm zy,gk 7 true qU,gx 828 [l1] Hr,gn (.bsl 1 (.str []) 1 [(0,l2)]),gn (.app 1 l0 l3),gm l4] 17 5)))) (r1 [ar lf bV,gm l0] 11 1))))))) (r1 [gm DP,gm zy,gx 242 [l1,(cs [44,32])] [[.sl 1 [.a]],[.a]],gn (.bsl 1 (.str []) 1 [(0,l2)]),gn (.app 1 l0 l3),gm l4] 18 5)))))) (r1 [ar s5 bV,gm l0] 5 1))))))) (sq (rg [gm DP,gx 242 [l0,(cs [32,124,124,32])] [[.sl 1 [.a]],[.a]],gm l1,gm mX] [(1,2),(2,3)]) .ret)))))⟩
def w684 {Γ:Ctx}(hm:(Γ.at 0).aY)(h242:GO Γ)(h827:GW Γ)(h828:Jr Γ)(r:oJ)  (hp0:fh r):c7 Γ Bj (.tup [.str (if fQ r=true then ug r else []),.bool (fQ r)]) [c9 r]:=by
 show bq _ _ _ [⟨_,_⟩,_,_,_,_,_,_,_,_,_,_,_,_,_,_,_,_,_,_] _;refine ai ?_;refine cB ?_;intro u0;refine ax ?_;refine hX ?_;refine av ?_;refine ca (fun hc0=>?_) fun hc0=>?_
 ·refine aA ?_;refine bC (aE (congrArg D.str ?_) (congrArg D.bool ?_));all_goals
   have hq:fQ r=false:=by
    simp only[fQ];rcases hc0 with h|h
    ·rw[decide_eq_false (by omega)];rfl
    ·rw[decide_eq_false (by omega:¬r.length≤6),Bool.and_false];rfl
   simp[hq]
 refine cB ?_;intro u1;refine au ?_;have hb:fQ r=bJ (fun i=>hY r[i]!) 0 r.length:=by simp only[fQ];rw[decide_eq_true (by omega),decide_eq_true (by omega)];rfl
 refine aV hm (ι:=Nat) (fun i=>[.un,.un,.un,⟨true,.ptr 0 1 0 0⟩,.un,⟨true,.int .i64 (i:Nat)⟩,⟨true,.int .i64 (r.length:Nat)⟩,.un,⟨true,.sl 1 (r.map na)⟩,.un,.un,.un,.un,.un,.un,.un,.un,.un,⟨true,.own 1 1 0 ((r.map fX).take i).length⟩]) (fun i=>[(0,.buf 1 [c9 r]),(1,.buf 1 (((r.map fX).take i).map D.str))]) 18 (fun i=>i≤r.length∧fQ r=bJ (fun i=>hY r[i]!) i r.length∧1≤r.length∧r.length≤6) (fun i=>r.length-i) 0 ⟨by omega,hb,by omega,by omega⟩ (aT.to [(0,0)] ae ae (by repeat(first|exact cS.nil|refine cS.un ?_|refine cS.eq ae ?_|refine cS.nl ae ae ?_|refine cS.ni (Or.inr ⟨_,_,_,rfl⟩) ?_)) (by(first|refine aL.eG ae ae cz ?_|refine aL.j7 ae ae ae ?_|refine aL.kP ae ae ae ae ?_);refine aL.mt ae ae ae ae ?_;exact aL.nil)) ?_;rintro i ⟨hi,hr,hr1,hr6⟩;have hti:((r.map fX).take i).length≤i:=by rw[List.length_take];omega
 refine av ?_;refine ca (fun hc1=>?_) fun hc1=>?_
 ·refine eB ?_;intro u2;refine av ?_;refine hX ?_;refine av ?_;refine ca (fun hc2=>?_) fun hc2=>?_
  ·refine bt ?_;refine bC (aE (congrArg D.str ?_) (congrArg D.bool ?_));all_goals
    have hq:fQ r=false:=by
     rw[hr,aD (by omega)];have:hY r[i]! =false:=by
      simp only[hY];rcases hc2 with h|h
      ·rw[decide_eq_false (by omega)];rfl
      ·rw[decide_eq_false (by omega:¬r[i]!.length≤6),Bool.and_false];rfl
     rw[this];rfl
    simp[hq]
  refine bt ?_;intro u3;refine au ?_;have hal:1≤r[i]!.length∧r[i]!.length≤6:=by omega
  have hkb:hY r[i]! =bJ (fun k=>iO r[i]![k]!) 0 r[i]!.length:=by simp only[hY];rw[decide_eq_true (by omega),decide_eq_true (by omega)];rfl
  refine aV hm (ι:=Nat) (fun k=>[.un,.un,.un,⟨true,.ptr 0 1 0 0⟩,.un,⟨true,.int .i64 (i:Nat)⟩,⟨true,.int .i64 (r.length:Nat)⟩,.un,⟨true,.sl 1 (r.map na)⟩,.un,.un,⟨true,.int .i64 (k:Nat)⟩,⟨true,.int .i64 (r[i]!.length:Nat)⟩,.un,⟨true,.sl 7 (r[i]!.map b9.D)⟩,.un,.un,⟨true,.own 2 1 0 ((r[i]!.map cD).take k).length⟩,⟨true,.own 1 1 0 ((r.map fX).take i).length⟩]) (fun k=>[(0,.buf 1 [c9 r]),(1,.buf 1 (((r.map fX).take i).map D.str)),(2,.buf 1 (((r[i]!.map cD).take k).map D.str))]) 34 (fun k=>k≤r[i]!.length∧hY r[i]! =bJ (fun k=>iO r[i]![k]!) k r[i]!.length) (fun k=>r[i]!.length-k) 0 ⟨by omega,hkb⟩ (aT.to [(0,0),(1,1)] ae ae (by repeat(first|exact cS.nil|refine cS.un ?_|refine cS.eq ae ?_|refine cS.nl ae ae ?_|refine cS.ni (Or.inr ⟨_,_,_,rfl⟩) ?_)) (by(first|refine aL.eG ae ae cz ?_|refine aL.j7 ae ae ae ?_|refine aL.kP ae ae ae ae ?_);(first|refine aL.eG ae ae cz ?_|refine aL.j7 ae ae ae ?_|refine aL.kP ae ae ae ae ?_);refine aL.mt ae ae ae ae ?_;exact aL.nil)) ?_;rintro k ⟨hk,hkr⟩;have htk:((r[i]!.map cD).take k).length≤k:=by rw[List.length_take];omega
  refine av ?_;refine ca (fun hc3=>?_) fun hc3=>?_
  ·refine ax ?_;first|refine bQ (v:=(b9.D _)) ?_|refine ef (v:=(b9.D _)) ?_
   refine aC ?_;refine aR (b9.D r[i]![k]!) (he:=by exact rfl) ?_;refine av ?_;have hlo:=hp0 r[i]! (bw (by omega)) _ (bw (show k<r[i]!.length by omega));refine aC ?_;refine ak (hc:=h827 r[i]![k]! hlo.sm) ?_;refine au ?_;refine aq (fun hc4=>?_) (fun hc4=>?_)
   ·simp only[Bool.not_eq_true']at hc4;refine gC ?_;refine bC (aE (congrArg D.str ?_) (congrArg D.bool ?_));all_goals
     have hq:fQ r=false:=by rw[hr,aD (by omega),hkr,aD (by omega),hc4];rfl
     simp[hq]
   simp only[Bool.not_eq_false']at hc4;refine ax ?_;refine ak (hc:=h828 r[i]![k]! hlo.sm) ?_;refine cF [(.str _)] ?_;refine cB ?_;have hq:=eX cD r[i]! (show k<r[i]!.length by omega);rw[←hq];exact⟨k+1,⟨by omega,by rw[hkr,aD (by omega),hc4];rfl⟩,by omega,(aT.to [(0,0),(1,1),(46,2)] ae ae c8 (by(first|refine aL.eG ae ae cz ?_|refine aL.j7 ae ae ae ?_|refine aL.kP ae ae ae ae ?_);(first|refine aL.eG ae ae cz ?_|refine aL.j7 ae ae ae ?_|refine aL.kP ae ae ae ae ?_);refine aL.nl 46 ae ae ae cz ?_;exact aL.nil))⟩
  refine av ?_;obtain rfl:k=r[i]!.length:=by omega
  have hok:hY r[i]! =true:=by rw[hkr,bA (by omega)]
  rw[List.take_of_length_le (show(r[i]!.map cD).length≤r[i]!.length by rw[List.length_map];exact Nat.le_refl _)];have hj:∀t∈(r[i]!.map cD),t.length≤2097200:=fun t ht=>by
   obtain⟨c,hc,rfl⟩:=List.mem_map.1 ht;exact Nat.le_trans (sX (hp0 r[i]! (bw (by omega)) c hc)) (by decide)
  refine au ?_;refine ak (hc:=h242 (r[i]!.map cD) [44,32] (by rw[List.length_map];omega) (by simp) hj) (ha:=fun _=>congrArg (fun d=>[d,D.str [44,32]]) (mF (q:=D.str) (fun _=>rfl) ae)) (hp:=fun _=>⟨kM (q:=D.str) (fun _=>rfl) ae,rfl,trivial⟩) ?_;refine cF [.str (fX r[i]!)] ?_;refine cB ?_;have hq:=eX fX r (show i<r.length by omega);rw[←hq];exact⟨i+1,⟨by omega,by rw[hr,aD (by omega),hok];rfl,hr1,hr6⟩,by omega,(aT.to [(0,0),(39,1)] ae ae c8 (by(first|refine aL.eG ae ae cz ?_|refine aL.j7 ae ae ae ?_|refine aL.kP ae ae ae ae ?_);refine aL.nl 39 ae ae ae cz ?_;exact aL.nil))⟩
 refine av ?_;obtain rfl:i=r.length:=by omega
 have hfw:fQ r=true:=by rw[hr,bA (by omega)]
 rw[List.take_of_length_le (show(r.map fX).length≤r.length by rw[List.length_map];exact Nat.le_refl _)];have hj:∀t∈(r.map fX),t.length≤2097200:=fun t ht=>by
  obtain⟨a,ha,rfl⟩:=List.mem_map.1 ht;obtain⟨i,hi,rfl⟩:=List.mem_iff_getElem.1 ha;have h1:=tc hfw hi;rw[show r[i]! =r[i]by simp[hi]]at h1;exact Nat.le_trans (sN (hp0 _ ha) (qp h1).2) (by decide)
 refine aC ?_;refine ak (hc:=h242 (r.map fX) [32,124,124,32] (by rw[List.length_map];omega) (by simp) hj) (ha:=fun _=>congrArg (fun d=>[d,D.str [32,124,124,32]]) (mF (q:=D.str) (fun _=>rfl) ae)) (hp:=fun _=>⟨kM (q:=D.str) (fun _=>rfl) ae,rfl,trivial⟩) ?_;refine ax ?_;refine bC (aE (congrArg D.str ?_) (congrArg D.bool ?_));all_goals (simp only[hfw,if_true];first|done|rfl)
def GV (Γ:Ctx):Prop:=∀(r:oJ),(fh r)→Γ.pre 684 [c9 r]∧Γ.val 684 [c9 r]=.tup [.str (if fQ r=true then ug r else []),.bool (fQ r)]
def DQ:az:=⟨1,5,fg,bL,(sq (rg [gb 1 s0,gm cH] [(2,0),(1,1)]) (sq (rg [gk 1 true s2,gx 684 [l0] [[.sl 1 [.sl 7 [.a,.a,.a,.a,.a,.a,.a]]]],gm l1,ge l2 0,ge l2 1,gm l3,gm l4] [(4,5),(3,6)]) (sq (r1 [gm s3,gm l0,gmt 1 s4,bR 1 (.lenS l2),bR 1 (kS l3 (i6 96)),dG l1 l4,gm l5] 1 6) .ret)))⟩
def w685 {Γ:Ctx}(hm:(Γ.at 0).aY)(h684:GV Γ)(r:oJ)  (hp0:fh r):c7 Γ DQ (.bool (mQ r)) [c9 r]:=by
 show bq _ _ _ [⟨_,_⟩,_,_,_,_] _;refine ai ?_;refine aI ?_;refine ak (hc:=h684 r hp0) ?_;refine gC ?_;refine hX ?_;refine aI ?_;refine bp ?_;cases hf:fQ r with
 |false=>simp[mQ,hf]
 |true=>simp only[mQ,hf,if_true,Bool.true_and];exact decide_eq_decide.2 (by omega)
def Me (Γ:Ctx):Prop:=∀(r:oJ),(fh r)→Γ.pre 685 [c9 r]∧Γ.val 685 [c9 r]=.bool (mQ r)
def zA:az:=⟨1,6,fg,bL,(sq (rg [gb 1 s0,gm cse] [(2,0),(1,1)]) (sq (sq (rg [gk 1 true s2,gx 684 [l0] [[.sl 1 [.sl 7 [.a,.a,.a,.a,.a,.a,.a]]]],gm l1,ge l2 0,ge l2 1,gm l3,gm l4] [(4,5),(3,6)]) (sq (r1 [gm s3,gm l0,gmt 1 s4,bR 1 (.lenS l2),bR 1 (kS l3 (i6 96)),dG l1 l4] 5 5) (.cond s5 (sq (r1 [gm s4,gm l0] 1 1) .ret) .skip))) (rU cse)))⟩
def w496 {Γ:Ctx}(hm:(Γ.at 0).aY)(h684:GV Γ)(r:oJ)  (hp0:fh r):c7 Γ zA (.str (nN r)) [c9 r]:=by
 show bq _ _ _ [⟨_,_⟩,_,_,_,_,_] _;refine ai ?_;refine aA ?_;refine ak (hc:=h684 r hp0) ?_;refine eB ?_;refine hX ?_;refine av ?_;refine aq (fun hc0=>?_) (fun hc0=>?_)
 ·simp only[Bool.and_eq_true,decide_eq_true_eq]at hc0;refine aA ?_;refine b8 ?_;have hm:mQ r=true:=by simp only[mQ,hc0.1,Bool.true_and,decide_eq_true_eq];have:=hc0.2;rw[hc0.1,if_pos rfl]at this;omega
  simp only[nN,hm,hc0.1,if_true]
 skip
 refine aI ?_;refine b8 ?_;have hm:mQ r=false:=by
  cases hf:fQ r with
  |false=>simp[mQ,hf]
  |true=>
   rw[hf]at hc0;simp only[if_true,Bool.true_and,decide_eq_false_iff_not]at hc0;simp only[mQ,hf,Bool.true_and,decide_eq_false_iff_not];omega
 simp[nN,hm]
def L1 (Γ:Ctx):Prop:=∀(r:oJ),(fh r)→Γ.pre 496 [c9 r]∧Γ.val 496 [c9 r]=.str (nN r)
end Go.Abs
end
section
namespace Go.Abs
open Go
def Ip (Γ:Ctx):Prop:=∀(s:ah),(s.length≤1048576)→Γ.pre 124 [.str s,.str [124,124]]∧Γ.val 124 [.str s,.str [124,124]]=.sl 1 ((aw s []).map D.str)
def Md (Γ:Ctx):Prop:=∀(s:ah)(b:UInt8),(b=32)→(s.length≤1048576)→Γ.pre 683 [.str s,.str [b]]∧Γ.val 683 [.str s,.str [b]]=.str (cQ s)
def I3 (Γ:Ctx):Prop:=∀(r:Rec),(oM r∧dx r)→Γ.pre 219 [Rec.D r]∧Γ.val 219 [Rec.D r]=.str (mJ r)
def I2 (Γ:Ctx):Prop:=∀(r:Rec),(oM r∧dx r)→Γ.pre 215 [Rec.D r]∧Γ.val 215 [Rec.D r]=.str (mJ r)
end Go.Abs
end
section
namespace Go.Abs
open Go
def zz:az:=⟨1,22,[⟨1,some (1,true)⟩,⟨2,none⟩],[[.sl 1 [.sl 7 [.a,.a,.a,.a,.a,.a,.a]]],[.a]],(sq (rg [gb 1 (.c (.agg [.aF])),gm bc] [(1,0),(2,1)]) (sq (sq (r1 [gm s0,lG l0,cg l1 (i6 96)] 3 2) (.cond s3 (sq (r1 [gn (.build [.aF] []),gt 1 s1 l0,gm kr] 2 2) .ret) .skip)) (sq (r1 [gb 1 (.c (.agg [.aF]))] 18 0) (sq (sq (rg [gm s0,gx 124 [l0,(cs [124,124])] gL,gl l1,gm bc] [(7,1),(5,2),(4,3)]) (.block 0 (.loop (sq (r1 [aJ s4 s5] 6 0) (sq (ek s6 0) (sq (.block 1 (sq (r1 [ga 1 s7 s4,gd l0,gm l1] 8 2) (sq (r1 [gm (.c (.aF))] 16 0) (sq (sq (rg [gm s8,gx 124 [l0,(cs [44])] gL,gl l1,gm bc] [(12,1),(10,2),(9,3)]) (.block 2 (.loop (sq (r1 [aJ s9 jR] 11 0) (sq (ek lf 2) (sq (.block 3 (sq (r1 [ga 1 lE s9,gd l0,gm l1] 13 2) (sq (rg [gm oO,gx 683 [l0,(cs [32])] gL,gx 682 [l1] bL,gm l2,ge l3 0,ge l3 1,gb 7 (.c (.agg [.int .i64 0,.int .i64 0,.int .i64 0,.int .i64 0,.int .i64 0,.str [],.str []])),gt 7 l6 l4,gm l5] [(17,6),(14,8)]) (sq (sq (r1 [gm rL,bZ l0 bc] 15 1) (.cond qU (sq (r1 [gn (.build [.aF] []),gt 1 s1 l0,gm tm] 2 2) .ret) .skip)) (r1 [gm z6,gk 7 true zy,gn (.bsl 7 (.agg [.int .i64 0,.int .i64 0,.int .i64 0,.int .i64 0,.int .i64 0,.str [],.str []]) 1 [(0,l1)]),gn (.app 7 l0 l2),gm l3] 16 4))))) (r1 [ar s9 bV,gm l0] 9 1))))))) (rg [gf 0 DP,gd l0,gm z6,gn (.bsl 1 (.aF) 1 [(0,l2)]),gn (.app 1 l1 l3),gf 0 DP,gt 1 l5 l4] []))))) (r1 [ar s4 bV,gm l0] 4 1))))))) (sq (sq (r1 [gk 1 true DP,gx 684 [l0] [[.sl 1 [.sl 7 [.a,.a,.a,.a,.a,.a,.a]]]],gm l1,ge l2 0,ge l2 1,gm l3,gm l4] 19 6) (sq (r1 [gm KL,iR l0] 20 1) (.cond GD (sq (r1 [gn (.build [.aF] []),gt 1 s1 l0,gm tm] 2 2) .ret) .skip))) (sq (sq (r1 [gk 1 true DP,gx 685 [l0] [[.sl 1 [.sl 7 [.a,.a,.a,.a,.a,.a,.a]]]],iR l1] 21 2) (.cond s21 (sq (r1 [gn (.build [.aF] []),gt 1 s1 l0,gm kr] 2 2) .ret) .skip)) (sq (r1 [gk 1 true DP,gt 1 s1 l0,gm bc] 2 2) .ret)))))))⟩
def w495 {Γ:Ctx}(hm:(Γ.at 0).aY)(h124:Eh Γ)(h682:Mc Γ)(h683:Md Γ)(h684:GV Γ)(h685:Me Γ)(h9124:Ip Γ)(s:ah)  (hp0:s.length≤1048576):c7 Γ zz (.tup [c9 (dV s).1,.int .i64 (dV s).2]) [.str s]:=by
 show bq _ _ _ [⟨_,_⟩,_,_,_,_,_,_,_,_,_,_,_,_,_,_,_,_,_,_,_,_,_] _;have hdl:=kH s [];have hgl:∀i,i<(aw s []).length→(aw s [])[i]!.length≤s.length:=fun i hi=>by
  have:=hdl.2 _ (bw hi);simpa using this
 refine ai ?_;refine aQ ?_;intro u0;refine au ?_;refine ca (fun hc0=>?_) fun hc0=>?_
 ·refine au ?_;refine ff [.aF] ?_;refine aR (.agg [.aF]) (he:=by exact rfl) ?_;refine av ?_;refine bC (aE ?_ (congrArg (D.int .i64) ?_));all_goals
   have hq:dV s=([],3):=by
    unfold dV;rw[if_pos (by omega)]
   rw[hq];first|done|rfl
 refine aQ ?_;refine ak (hc:=h9124 s (by omega)) ?_;refine aC ?_;intro u1;refine au ?_;refine aV hm (ι:=Nat) (fun i=>[.un,⟨true,.ptr 0 1 0 0⟩,.un,.un,⟨true,.int .i64 (i:Nat)⟩,⟨true,.int .i64 ((aw s []).length:Nat)⟩,.un,⟨true,.sl 1 ((aw s []).map D.str)⟩,.un,.un,.un,.un,.un,.un,.un,.un,.un,.un,⟨true,.ptr 5 1 0 0⟩,.un,.un,.un]) (fun i=>[(0,.buf 1 [.agg [.aF]]),(5,.buf 1 [.agg [.own 1 1 0 ((eU s).take i).length]]),(1,.buf 1 (((eU s).take i).map na))]) 10 (fun i=>i≤(aw s []).length∧uf s=bJ (fun i=>OJ (aw s [])[i]!) i (aw s []).length) (fun i=>(aw s []).length-i) 0 ⟨by omega,rfl⟩ (aT.to [(0,0),(5,5)] ae ae c8 (by(first|refine aL.eG ae ae cz ?_|refine aL.j7 ae ae ae ?_|refine aL.kP ae ae ae ae ?_);refine aL.ni 5 ae ae (by exact⟨_,_,rfl,⟨_,rfl,⟨_,_,rfl,Or.inr ⟨_,_,_,rfl⟩,rfl⟩⟩,rfl⟩) ?_;refine aL.mt ae ae ae ae ?_;exact aL.nil)) ?_;rintro i ⟨hi,hr⟩;have hrt:((eU s).take i).length≤i:=by rw[List.length_take];omega
 refine av ?_;refine ca (fun hc1=>?_) fun hc1=>?_
 ·refine gD ?_;have hgi:=hgl i (by omega);have hsl:=cG (aw s [])[i]! 44;have hsp:1≤(aj (aw s [])[i]! 44).length:=eM _ _ _;refine aC ?_;refine ak (v:=.sl 1 ((aj (aw s [])[i]! 44).map D.str)) (hc:=h124 (aw s [])[i]! 44 (by omega)) ?_;refine aC ?_;intro u2;refine au ?_;refine aV hm (ι:=Nat) (fun k=>[.un,⟨true,.ptr 0 1 0 0⟩,.un,.un,⟨true,.int .i64 (i:Nat)⟩,⟨true,.int .i64 ((aw s []).length:Nat)⟩,.un,⟨true,.sl 1 ((aw s []).map D.str)⟩,.un,⟨true,.int .i64 (k:Nat)⟩,⟨true,.int .i64 ((aj (aw s [])[i]! 44).length:Nat)⟩,.un,⟨true,.sl 1 ((aj (aw s [])[i]! 44).map D.str)⟩,.un,.un,.un,⟨true,.own 2 7 0 ((jE (aw s [])[i]!).take k).length⟩,.un,⟨true,.ptr 5 1 0 0⟩,.un,.un,.un]) (fun k=>[(0,.buf 1 [.agg [.aF]]),(5,.buf 1 [.agg [.own 1 1 0 ((eU s).take i).length]]),(1,.buf 1 (((eU s).take i).map na)),(2,.buf 7 (((jE (aw s [])[i]!).take k).map b9.D))]) 19 (fun k=>k≤(aj (aw s [])[i]! 44).length∧OJ (aw s [])[i]! =bJ (fun k=>(cR (cQ (aj (aw s [])[i]! 44)[k]!)).isSome) k (aj (aw s [])[i]! 44).length) (fun k=>(aj (aw s [])[i]! 44).length-k) 0 ⟨by omega,rfl⟩ (aT.to [(0,0),(5,5),(1,1)] ae ae (by repeat(first|exact cS.nil|refine cS.un ?_|refine cS.eq ae ?_|refine cS.nl ae ae ?_|refine cS.ni (Or.inr ⟨_,_,_,rfl⟩) ?_)) (by(first|refine aL.eG ae ae cz ?_|refine aL.j7 ae ae ae ?_|refine aL.kP ae ae ae ae ?_);(first|refine aL.eG ae ae cz ?_|refine aL.j7 ae ae ae ?_|refine aL.kP ae ae ae ae ?_);(first|refine aL.eG ae ae cz ?_|refine aL.j7 ae ae ae ?_|refine aL.kP ae ae ae ae ?_);refine aL.mt ae ae ae ae ?_;exact aL.nil)) ?_;rintro k ⟨hk,hwk⟩;have htk:((jE (aw s [])[i]!).take k).length≤k:=by rw[List.length_take];omega
  refine av ?_;refine ca (fun hc2=>?_) fun hc2=>?_
  ·refine bt ?_;have hwl:=uk (aw s [])[i]! 44 (show k<(aj (aw s [])[i]! 44).length by omega);have hbl:=qt (aj (aw s [])[i]! 44)[k]!;refine aC ?_;refine ak (hc:=h683 (aj (aw s [])[i]! 44)[k]! 32 rfl (by omega)) ?_;refine ak (v:=.tup [b9.D ((cR (cQ (aj (aw s [])[i]! 44)[k]!)).getD cL),.int .i64 (if(cR (cQ (aj (aw s [])[i]! 44)[k]!)).isSome=true then 0 else 6)]) (hc:=by rw[←EH];exact h682 (cQ (aj (aw s [])[i]! 44)[k]!) (by omega)) ?_;refine aC ?_;refine eS (b9.D _) ?_;refine au ?_;refine aR (b9.D ((cR (cQ (aj (aw s [])[i]! 44)[k]!)).getD cL)) (he:=by exact rfl) ?_;refine aQ ?_;refine aq (fun hc3=>?_) (fun hc3=>?_)
   ·have hsm:(cR (cQ (aj (aw s [])[i]! 44)[k]!)).isSome=false:=by cases hx:(cR (cQ (aj (aw s [])[i]! 44)[k]!)).isSome with|false=>rfl|true=>rw[hx]at hc3;exact absurd hc3 (by decide)
    refine au ?_;refine ff [.aF] ?_;refine aR (.agg [.aF]) (he:=by exact rfl) ?_;refine aQ ?_;refine bC (aE ?_ (congrArg (D.int .i64) ?_));all_goals
     have hq:dV s=([],6):=by
      have hno:uf s=false:=by rw[hr,aD (by omega),hwk,aD (by omega),hsm];rfl
      unfold dV;rw[if_neg (by omega),if_pos hno]
     rw[hq];first|done|rfl
   have hsm:(cR (cQ (aj (aw s [])[i]! 44)[k]!)).isSome=true:=by cases hx:(cR (cQ (aj (aw s [])[i]! 44)[k]!)).isSome with|true=>rfl|false=>rw[hx]at hc3;exact absurd hc3 (by decide)
   refine av ?_;refine cM (d:=b9.D ((cR (cQ (aj (aw s [])[i]! 44)[k]!)).getD cL)) ?_;refine cF [(b9.D _)] ?_;refine cB ?_;have hq:=eX (fun x=>(cR (cQ x)).getD cL) (aj (aw s [])[i]! 44) (show k<(aj (aw s [])[i]! 44).length by omega);rw[show(fun x=>(cR (cQ x)).getD cL)=fun x=>(cR (cQ x)).getD cL from rfl]at hq;have hq:(jE (aw s [])[i]!).take (k+1)=_:=hq;rw[show(jE (aw s [])[i]!).take k++[(cR (cQ (aj (aw s [])[i]! 44)[k]!)).getD cL]=(jE (aw s [])[i]!).take (k+1)from hq.symm];exact⟨k+1,⟨by omega,by rw[hwk,aD (by omega),hsm];rfl⟩,by omega,(aT.to [(0,0),(5,5),(1,1),(37,2)] ae ae c8 (by(first|refine aL.eG ae ae cz ?_|refine aL.j7 ae ae ae ?_|refine aL.kP ae ae ae ae ?_);(first|refine aL.eG ae ae cz ?_|refine aL.j7 ae ae ae ?_|refine aL.kP ae ae ae ae ?_);(first|refine aL.eG ae ae cz ?_|refine aL.j7 ae ae ae ?_|refine aL.kP ae ae ae ae ?_);refine aL.nl 37 ae ae ae cz ?_;exact aL.nil))⟩
  refine au ?_;refine fM 2 ?_ (he:=by simp only[lF,gZ,kO,mn,ny,cd,Nat.reduceEqDiff,if_true,if_false,and_self,true_and,and_true,false_and,and_false,Nat.zero_add,List.length_map,Nat.le_refl,List.drop_zero,aP,reduceCtorEq,List.length_cons,List.length_nil,Nat.reduceAdd,Nat.reduceLeDiff,kV];exact rfl) (hm:=by simp only[lF,gZ,kO,mn,ny,cd,Nat.reduceEqDiff,if_true,if_false,and_self,true_and,and_true,false_and,and_false,Nat.zero_add,List.length_map,Nat.le_refl,List.drop_zero,aP,reduceCtorEq,List.length_cons,List.length_nil,Nat.reduceAdd,Nat.reduceLeDiff,kV];exact rfl);refine aC ?_;obtain rfl:k=(aj (aw s [])[i]! 44).length:=by omega
  rw[List.take_of_length_le (show(jE (aw s [])[i]!).length≤(aj (aw s [])[i]! 44).length by simp[jE])];refine aC ?_;refine cX (v:=.own _ _ _ _) ?_;refine aC ?_;refine cF [na (jE (aw s [])[i]!)] ?_;refine au ?_;refine aR (.agg [.own 24 1 0 ((eU s).take i++[jE (aw s [])[i]!]).length]) (he:=by exact rfl) ?_;refine aQ ?_;have hq:(eU s).take (i+1)=(eU s).take i++[jE (aw s [])[i]!]:=eX jE (aw s []) (show i<(aw s []).length by omega);rw[←hq];exact⟨i+1,⟨by omega,by rw[hr,aD (by omega),hwk,bA (by omega)];rfl⟩,by omega,(aT.to [(0,0),(5,5),(24,1)] ae ae c8 (by(first|refine aL.eG ae ae cz ?_|refine aL.j7 ae ae ae ?_|refine aL.kP ae ae ae ae ?_);(first|refine aL.eG ae ae cz ?_|refine aL.j7 ae ae ae ?_|refine aL.kP ae ae ae ae ?_);refine aL.nl 24 ae ae ae cz ?_;exact aL.nil))⟩
 refine av ?_;refine fM 1 ?_ (he:=by simp only[lF,gZ,kO,mn,ny,cd,Nat.reduceEqDiff,if_true,if_false,and_self,true_and,and_true,false_and,and_false,Nat.zero_add,List.length_map,Nat.le_refl,List.drop_zero,aP,reduceCtorEq,List.length_cons,List.length_nil,Nat.reduceAdd,Nat.reduceLeDiff,kV];exact rfl) (hm:=by simp only[lF,gZ,kO,mn,ny,cd,Nat.reduceEqDiff,if_true,if_false,and_self,true_and,and_true,false_and,and_false,Nat.zero_add,List.length_map,Nat.le_refl,List.drop_zero,aP,reduceCtorEq,List.length_cons,List.length_nil,Nat.reduceAdd,Nat.reduceLeDiff,kV];exact rfl);refine aC ?_;obtain rfl:i=(aw s []).length:=by omega
 have hok:uf s=true:=by rw[hr,bA (by omega)]
 rw[List.take_of_length_le (show(eU s).length≤(aw s []).length by simp[eU])];have hrs:=xI (s:=s) (by omega);refine cM (d:=c9 (eU s)) ?_;refine ak (hc:=h684 (eU s) hrs) ?_;refine eB ?_;refine aq (fun hc4=>?_) (fun hc4=>?_)
 ·simp only[Bool.not_eq_true']at hc4;refine au ?_;refine ff [.aF] ?_;refine aR (.agg [.aF]) (he:=by exact rfl) ?_;refine av ?_;refine bC (aE ?_ (congrArg (D.int .i64) ?_));all_goals
   have hq:dV s=([],6):=by
    unfold dV;rw[if_neg (by omega),if_neg (by rw[hok];simp),if_pos hc4]
   rw[hq];first|done|rfl
 simp only[Bool.not_eq_false']at hc4;refine av ?_;refine cM (d:=c9 (eU s)) ?_;refine ak (hc:=h685 (eU s) hrs) ?_;refine au ?_;refine aq (fun hc5=>?_) (fun hc5=>?_)
 ·simp only[Bool.not_eq_true',mQ,hc4,Bool.true_and,decide_eq_false_iff_not]at hc5;refine au ?_;refine ff [.aF] ?_;refine aR (.agg [.aF]) (he:=by exact rfl) ?_;refine av ?_;refine bC (aE ?_ (congrArg (D.int .i64) ?_));all_goals
   have hq:dV s=([],3):=by
    unfold dV;rw[if_neg (by omega),if_neg (by rw[hok];simp),if_neg (by rw[hc4];simp),if_pos (by omega)]
   rw[hq];first|done|rfl
 simp only[Bool.not_eq_false',mQ,hc4,Bool.true_and,decide_eq_true_eq]at hc5;refine au ?_;refine cM (d:=c9 (eU s)) ?_;refine aR (c9 (eU s)) (he:=by exact rfl) ?_;refine av ?_;refine bC (aE ?_ (congrArg (D.int .i64) ?_));all_goals
  have hq:dV s=(eU s,0):=by
   unfold dV;rw[if_neg (by omega),if_neg (by rw[hok];simp),if_neg (by rw[hc4];simp),if_neg (by omega)]
  rw[hq];first|done|rfl
def L0 (Γ:Ctx):Prop:=∀(s:ah),(s.length≤1048576)→Γ.pre 495 [.str s]∧Γ.val 495 [.str s]=.tup [c9 (dV s).1,.int .i64 (dV s).2]
end Go.Abs
end
section
namespace Go.Abs
open Go
def va:az:=⟨1,4,fg,bL,(sq (r1 [gm cH] 1 0) (sq (rg [gm s0,gx 495 [l0] bL,gm l1,ge l2 0,ge l2 1,gb 1 (.c (.agg [.aF])),gt 1 l5 l3,gm l4] [(3,5),(2,7)]) (sq (r1 [gm s2,aH l0 bc,gm l1,bR 2 (.ld 1 true s3),bR 2 (.call 496 [l3] [[.sl 1 [.sl 7 [.a,.a,.a,.a,.a,.a,.a]]]]),gmt 2 s0,bR 2 (bY l4 l5),dG l2 l6,gm l7] 1 8) .ret)))⟩
def w444 {Γ:Ctx}(hm:(Γ.at 0).aY)(h495:L0 Γ)(h496:L1 Γ)(s:ah)  (hp0:s.length≤1048576):c7 Γ va (.bool (mC s)) [.str s]:=by
 show bq _ _ _ [⟨_,_⟩,_,_,_] _;refine ai ?_;refine ax ?_;refine ak (hc:=h495 s hp0) ?_;refine aC ?_;refine eS (c9 _) ?_;refine au ?_;refine aR (c9 (dV s).1) (he:=by exact rfl) ?_;refine aA ?_;refine cM (d:=c9 (dV s).1) ?_;refine eK (hc:=fun hf=>h496 (dV s).1 Co.1) ?_;refine aA ?_;exact bp rfl
def LD (Γ:Ctx):Prop:=∀(s:ah),(s.length≤1048576)→Γ.pre 444 [.str s]∧Γ.val 444 [.str s]=.bool (mC s)
end Go.Abs
end
section
namespace Go.Abs
open Go
def Ir (Γ:Ctx)(u:Nat):Prop:=∀(l:List Nd)(i:Int)(b:Bool),(dM l∧l.length≤15∧0≤i∧i<l.length)→2*i.toNat+1<u→Γ.pre 951 [.sl 5 (l.map Nd.D),.int .i64 i,.bool b]∧Γ.val 951 [.sl 5 (l.map Nd.D),.int .i64 i,.bool b]=.str (gY (gS l i) b)
def Mj (Γ:Ctx):Prop:=∀(l:List Nd)(i:Int),(dM l∧l.length≤15∧0≤i∧i<l.length)→Γ.pre 811 [.sl 5 (l.map Nd.D),.int .i64 i]∧Γ.val 811 [.sl 5 (l.map Nd.D),.int .i64 i]=.str (gS l i)
def Em (Γ:Ctx)(u:Nat):Prop:=∀(l:List Nd)(i:Int),(dM l∧l.length≤15∧0≤i∧i<l.length)→2*i.toNat<u→Γ.pre 811 [.sl 5 (l.map Nd.D),.int .i64 i]∧Γ.val 811 [.sl 5 (l.map Nd.D),.int .i64 i]=.str (gS l i)
def AY:az:=⟨1,3,fg,bL,(sq (rg [gb 5 s0,gm cH] [(2,0),(1,1)]) (sq (r1 [gf 0 s2,gd l0,aH l1 bV,gm l2,kX 3 3 s2,jC 3 l4,bR 3 (rk l5 bc),dG l3 l6,gm l7,kX 8 3 s2,jC 8 l9,bR 8 (pK l10 kr),dG l8 gh,gm iq,kX 13 4 s2,jC 13 jZ,bR 13 (.call 357 [lz] bL),dG jD mw,gm oC,kX 18 1 s2,jC 18 qk,bR 18 (bY tt bc),dG pd uU,gm vJ,kX 23 2 s2,jC 23 zZ,bR 23 (bY BW bc),dG zY D8,gm GC] 1 28) .ret))⟩
def OB {Γ:Ctx}(hm:(Γ.at 0).aY)(h357:Ab Γ)(n:Nd)   :c7 Γ AY (.bool (ku n)) [Nd.D n]:=by
 show bq _ _ _ [⟨_,_⟩,_,_] _;refine ai ?_;refine OL ?_;refine ak (hc:=h357 _) ?_;refine uI ?_;refine bp ?_;simp only[ku]
def Il (Γ:Ctx):Prop:=∀(n:Nd),Γ.pre 1098 [Nd.D n]∧Γ.val 1098 [Nd.D n]=.bool (ku n)
def Di:az:=⟨0,1,[⟨0,none⟩],[[.sl 1 [.a]]],(sq (r1 [gm (.c (.aF))] 0 0) (sq (r1 [gn (.bsl 1 (.str []) 3 [(0,(cs [111,115])),(1,(cs [97,114,99,104])),(2,(cs [97,98,105]))]),gm l0] 0 1) .ret))⟩
def w950 {Γ:Ctx}(hm:(Γ.at 0).aY)     :c7 Γ Di (.sl 1 (mI.map D.str)) []:=by
 show bq _ _ _ [_] _;refine ai ?_;refine av ?_;refine cF [(.str _),(.str _),(.str _)] ?_;refine au ?_;refine fM 1 ?_;refine aC ?_;refine bC (?_);rfl
def Ju (Γ:Ctx):Prop:=Γ.pre 950 []∧Γ.val 950 []=.sl 1 (mI.map D.str)
def Dz:az:=⟨1,2,fg,bL,(sq (r1 [gm cse] 1 0) (sq (r1 [gn (.bsl 1 (.str []) 3 [(0,(cs [111,115])),(1,(cs [97,114,99,104])),(2,(cs [97,98,105]))]),gm s0,ga 1 l0 l1,gd l2,gm l3] 1 4) .ret))⟩
def OC {Γ:Ctx}(hm:(Γ.at 0).aY)  (k:Int)  (hp0:0≤k∧k<3):c7 Γ Dz (.str (oB k)) [.int .i64 k]:=by
 show bq _ _ _ [⟨_,_⟩,_] _;refine ai ?_;refine av ?_;refine cF [(.str _),(.str _),(.str _)] ?_;refine aC ?_;refine ju k.toNat ?_;refine N5 (es:=[.str [111,115],.str [97,114,99,104],.str [97,98,105]]) (.str (oB k)) (hi:=fun _=>by simp;omega) (hv:=fun _=>E6 hp0.1 hp0.2) ?_;refine av ?_;exact b8 rfl
def Ee (Γ:Ctx):Prop:=∀(k:Int),(0≤k∧k<3)→Γ.pre 1099 [.int .i64 k]∧Γ.val 1099 [.int .i64 k]=.str (oB k)
def A1:az:=⟨2,4,[⟨2,none⟩],bL,(sq (r1 [gm cse] 2 0) (sq (sq (r1 [gm s1] 3 0) (.cond s3 (sq (r1 [gm s0,ar (cs [40,32]) l0,ar l1 (cs [32,41]),gm l2] 2 3) .ret) .skip)) (sq (r1 [gm s0,gm l0] 2 1) .ret)))⟩
def OD {Γ:Ctx}(hm:(Γ.at 0).aY)  (s:ah)(b:Bool)  (hp0:s.length≤1000000000):c7 Γ A1 (.str (gY s b)) [.str s,.bool b]:=by
 show bq _ _ _ [⟨_,_⟩,⟨_,_⟩,_,_] _;refine ai ?_;refine aA ?_;refine ca (fun hc0=>?_) fun hc0=>?_
 ·refine av ?_;refine dY ?_;refine dY ?_;refine av ?_;refine b8 ?_;simp[gY,hc0]
 refine aA ?_;refine b8 ?_;simp[gY,hc0]
def Im (Γ:Ctx):Prop:=∀(s:ah)(b:Bool),(s.length≤1000000000)→Γ.pre 1100 [.str s,.bool b]∧Γ.val 1100 [.str s,.bool b]=.str (gY s b)
def Dh:az:=⟨3,5,[⟨3,none⟩],bL,(sq (r1 [gm cse] 3 0) (sq (sq (r1 [gm s2] 4 0) (.cond s4 (sq (r1 [gm s0,gm s1,gx 811 [l0,l1] [[.sl 5 [.a,.a,.a,.a,.a]],[.a]],ar (cs [40,32]) l2,ar l3 (cs [32,41]),gm l4] 3 5) .ret) .skip)) (sq (r1 [gm s0,gm s1,gx 811 [l0,l1] [[.sl 5 [.a,.a,.a,.a,.a]],[.a]],gm l2] 3 3) .ret)))⟩
def w951 {Γ:Ctx}(hm:(Γ.at 0).aY)  (l:List Nd)(i:Int)(b:Bool)(h811:Em (Γ.at 0) (2*i.toNat+1))(hp0:dM l∧l.length≤15∧0≤i∧i<l.length):c7 Γ Dh (.str (gY (gS l i) b)) [.sl 5 (l.map Nd.D),.int .i64 i,.bool b]:=by
 show bq _ _ _ [⟨_,_⟩,⟨_,_⟩,⟨_,_⟩,_,_] _;have htl:=nT hp0.1 hp0.2.1 hp0.2.2.1 hp0.2.2.2;refine ai ?_;refine aA ?_;refine ca (fun hc0=>?_) fun hc0=>?_
 ·refine ax ?_;refine ak (hc:=h811 l i hp0 (by omega)) ?_;refine dY ?_;refine dY ?_;refine av ?_;refine b8 ?_;simp[gY,hc0]
 refine ax ?_;refine ak (hc:=h811 l i hp0 (by omega)) ?_;refine av ?_;refine b8 ?_;simp[gY,hc0]
def Dj:az:=⟨2,10,[⟨2,none⟩],bL,(sq (r1 [gm cse] 2 0) (sq (r1 [gm s0,gm s1,ga 5 l0 l1,gk 5 true l2,gb 5 (.c (.agg [.int .i64 0,.int .i64 0,.int .i64 0,.int .i64 0,.str []])),gt 5 l4 l3] 3 4) (sq (sq (r1 [gf 0 s3,gd l0] 4 1) (.block 0 (sq (r1 [aH s4 bV,gm l0] 5 1) (.cond s5 (sq (r2 [gx 950 [] [],gf 3 s3,gd l1,ga 1 l0 l2,gd l3,ar l4 (cs [32,61,32]),gf 4 s3,gd l6,ar l5 l7,gm l8] 2 9) .ret) (sq (r1 [aH s4 lM,gm l0] 6 1) (.cond s6 (sq (r1 [gm s0,gf 1 s3,gd l1,ga 5 l0 l2,gk 5 true l3,gb 5 (.c (.agg [.int .i64 0,.int .i64 0,.int .i64 0,.int .i64 0,.str []])),gt 5 l5 l4] 7 5) (sq (sq (r1 [gf 0 s7,gd l0,aH l1 bV] 8 2) (.cond s8 (sq (r2 [gx 950 [] [],gf 3 s7,gd l1,ga 1 l0 l2,gd l3,ar l4 (cs [32,33,61,32]),gf 4 s7,gd l6,ar l5 l7,gm l8] 2 9) .ret) .skip)) (sq (r1 [gm s0,gf 1 s3,gd l1,gf 0 s7,gd l3,bZ l4 lM,gx 951 [l0,l2,l5] [[.sl 5 [.a,.a,.a,.a,.a]],[.a],[.a]],ar (cs [110,111,116,32]) l6,gm l7] 2 8) .ret))) (sq (r1 [aH s4 kr,gm l0] 9 1) (.cond s9 (sq (r2 [gm s0,gf 1 s3,gd l1,gm s0,gf 1 s3,gd l4,ga 5 l3 l5,gf 0 l6,gd l7,aH l8 tl,gx 951 [l0,l2,l9] [[.sl 5 [.a,.a,.a,.a,.a]],[.a],[.a]],ar l10 (cs [32,97,110,100,32]),gm s0,gf 2 s3,gd jD,gm s0,gf 2 s3,gd mw,ga 5 lz oC,gf 0 pd,gd qk,aH tt tl,gm uU,dt 22 s0,gT 22 2 s3,hJ 22 zZ,bP 22 (.ia 5 zY BW),gT 22 0 D8,hJ 22 GC,bP 22 (bY HD kr),dL vJ HE,gx 951 [iq,jZ,J7] [[.sl 5 [.a,.a,.a,.a,.a]],[.a],[.a]],ar gh NU,gm NV] 2 33) .ret) .skip)))))))) (sq (r2 [gm s0,gf 1 s3,gd l1,gx 811 [l0,l2] [[.sl 5 [.a,.a,.a,.a,.a]],[.a]],ar l3 (cs [32,111,114,32]),gm s0,gf 2 s3,gd l6,gm s0,gf 2 s3,gd l9,ga 5 l8 l10,gf 0 gh,gd iq,aH jD tl,gx 951 [l5,l7,jZ] [[.sl 5 [.a,.a,.a,.a,.a]],[.a],[.a]],ar l4 lz,gm mw] 2 17) .ret))))⟩
def w811 {Γ:Ctx}(hm:(Γ.at 0).aY)(h950:Ju Γ)(l:List Nd)(i:Int)(h811:Em (Γ.at 0) (2*i.toNat))(h951:Ir (Γ.at 0) (2*i.toNat))(hp0:dM l∧l.length≤15∧0≤i∧i<l.length):c7 Γ Dj (.str (gS l i)) [.sl 5 (l.map Nd.D),.int .i64 i]:=by
 show bq _ _ _ [⟨_,_⟩,⟨_,_⟩,_,_,_,_,_,_,_,_] _;obtain⟨hk,hl15,hi0,hi1⟩:=hp0;have htx:=Cw hk hi0 hi1;obtain⟨k1,k2,k3⟩:=hk i.toNat (by omega);refine ai ?_;refine aA ?_;first|refine bQ (v:=(Nd.D _)) ?_|refine ef (v:=(Nd.D _)) ?_
 refine kN ?_;refine wp_cond (fun hc0=>?_) (fun hc0=>?_)
 ·simp only[decide_eq_true_eq]at hc0;have k1:=k1 hc0;have hkl:=lP l[i.toNat]!.key;refine aC ?_;refine ak (hc:=h950) ?_;refine au ?_;refine bO l[i.toNat]!.key.toNat (hb:=fun _=>by show _<3;omega) ?_;refine bQ (q:=D.str) (xs:=mI) (hi:=fun _=>by show _<3;omega) (i:=l[i.toNat]!.key.toNat) (k:=1) (o:=0) (v:=(.str (oB l[i.toNat]!.key))) (hv:=fun _=>congrArg D.str (od k1.1 k1.2.1)) ?_;refine dY ?_;refine au ?_;refine dY ?_;refine ax ?_;refine b8 ?_;rw[htx,if_pos hc0]
 simp only[decide_eq_false_iff_not]at hc0;have ka:=k2 hc0;have hla:=nT hk hl15 (i:=l[i.toNat]!.a) (by omega) (by omega);have hwa:=fun b=>ki (gS l l[i.toNat]!.a) b
 refine ax ?_;refine wp_cond (fun hc1=>?_) (fun hc1=>?_)
 ·simp only[decide_eq_true_eq]at hc1;refine ax ?_;refine bO l[i.toNat]!.a.toNat ?_;first|refine bQ (v:=(Nd.D _)) ?_|refine ef (v:=(Nd.D _)) ?_
  refine cB ?_;refine aq (fun hc2=>?_) (fun hc2=>?_)
  ·simp only[decide_eq_true_eq]at hc2;have k4:=(hk l[i.toNat]!.a.toNat (by omega)).1 hc2;have hkl:=lP l[l[i.toNat]!.a.toNat]!.key;refine au ?_;refine ak (hc:=h950) ?_;refine au ?_;refine bO l[l[i.toNat]!.a.toNat]!.key.toNat (hb:=fun _=>by show _<3;omega) ?_;refine bQ (q:=D.str) (xs:=mI) (hi:=fun _=>by show _<3;omega) (i:=l[l[i.toNat]!.a.toNat]!.key.toNat) (k:=1) (o:=0) (v:=(.str (oB l[l[i.toNat]!.a.toNat]!.key))) (hv:=fun _=>congrArg D.str (od k4.1 k4.2.1)) ?_;refine dY ?_;refine au ?_;refine dY ?_;refine ax ?_;refine b8 ?_;rw[htx,if_neg hc0,if_pos hc1,if_pos hc2]
  try simp only[fo]at hc2
  refine bt ?_;refine ak (hc:=h951 l l[i.toNat]!.a _ ⟨hk,hl15,by omega,by omega⟩ (by omega)) ?_;have hwx:=hwa (!decide (l[l[i.toNat]!.a.toNat]!.op=2));refine dY ?_;refine ax ?_;refine b8 ?_;rw[htx,if_neg hc0,if_pos hc1,if_neg hc2]
 simp only[decide_eq_false_iff_not]at hc1;have kb:=k3 hc0 hc1;have hlb:=nT hk hl15 (i:=l[i.toNat]!.b) (by omega) (by omega);have hwb:=fun b=>ki (gS l l[i.toNat]!.b) b
 refine ax ?_;refine eW (fun hc3=>?_) fun hc3=>?_
 ·refine aQ ?_;refine bO l[i.toNat]!.a.toNat ?_;refine av ?_;refine ak (hc:=h951 l l[i.toNat]!.a _ ⟨hk,hl15,by omega,by omega⟩ (by omega)) ?_;have hwx:=hwa (decide (l[l[i.toNat]!.a.toNat]!.op=4));refine dY ?_;refine aA ?_;refine bO l[i.toNat]!.b.toNat ?_;refine aQ ?_;refine bO l[i.toNat]!.b.toNat ?_;refine ax ?_;refine ak (hc:=h951 l l[i.toNat]!.b _ ⟨hk,hl15,by omega,by omega⟩ (by omega)) ?_;have hwy:=hwb (decide (l[l[i.toNat]!.b.toNat]!.op=4) ||decide (l[l[i.toNat]!.b.toNat]!.op=3));refine dY ?_;refine ax ?_;refine b8 ?_;rw[htx,if_neg hc0,if_neg hc1,if_pos hc3]
 refine aA ?_;refine ak (hc:=h811 l l[i.toNat]!.a ⟨hk,hl15,by omega,by omega⟩ (by omega)) ?_;refine dY ?_;refine aA ?_;refine bO l[i.toNat]!.b.toNat ?_;refine av ?_;refine ak (hc:=h951 l l[i.toNat]!.b _ ⟨hk,hl15,by omega,by omega⟩ (by omega)) ?_;have hwy:=hwb (decide (l[l[i.toNat]!.b.toNat]!.op=4));refine dY ?_;refine av ?_;refine b8 ?_;rw[htx,if_neg hc0,if_neg hc1,if_neg hc3]
end Go.Abs
end
section
namespace Go.Abs
open Go
def Ij (Γ:Ctx):Prop:=∀(l:List Nd)(i:Int),(dM l∧l.length≤15∧0≤i∧i<l.length)→Γ.pre 1036 [.sl 5 (l.map Nd.D),.int .i64 i]∧Γ.val 1036 [.sl 5 (l.map Nd.D),.int .i64 i]=.str (gS l i)
def Ed (Γ:Ctx)(u:Nat):Prop:=∀(l:List Nd)(i:Int),(dM l∧l.length≤15∧0≤i∧i<l.length)→2*i.toNat<u→Γ.pre 1036 [.sl 5 (l.map Nd.D),.int .i64 i]∧Γ.val 1036 [.sl 5 (l.map Nd.D),.int .i64 i]=.str (gS l i)
def AZ:az:=⟨2,12,[⟨2,none⟩],bL,(sq (r1 [gm cse] 2 0) (sq (r1 [gm s0,gm s1,ga 5 l0 l1,gk 5 true l2,gb 5 (.c (.agg [.int .i64 0,.int .i64 0,.int .i64 0,.int .i64 0,.str []])),gt 5 l4 l3] 3 4) (sq (sq (r1 [gf 0 s3,gd l0] 4 1) (.block 0 (sq (r1 [aH s4 bV,gm l0] 5 1) (.cond s5 (sq (r2 [gf 3 s3,gd l0,gx 1099 [l1] bL,ar l2 (cs [32,61,32]),gf 4 s3,gd l4,ar l3 l5,gm l6] 2 7) .ret) (sq (r1 [aH s4 lM,gm l0] 6 1) (.cond s6 (sq (r1 [gm s0,gf 1 s3,gd l1,ga 5 l0 l2,gk 5 true l3,gb 5 (.c (.agg [.int .i64 0,.int .i64 0,.int .i64 0,.int .i64 0,.str []])),gt 5 l5 l4] 7 5) (sq (sq (r1 [gf 0 s7,gd l0,aH l1 bV] 8 2) (.cond s8 (sq (r2 [gf 3 s7,gd l0,gx 1099 [l1] bL,ar l2 (cs [32,33,61,32]),gf 4 s7,gd l4,ar l3 l5,gm l6] 2 7) .ret) .skip)) (sq (r2 [gm s0,gf 1 s3,gd l1,gx 1036 [l0,l2] [[.sl 5 [.a,.a,.a,.a,.a]],[.a]],gf 0 s7,gd l4,bZ l5 lM,gx 1100 [l3,l6] gL,ar (cs [110,111,116,32]) l7,gm l8] 2 9) .ret))) (sq (r1 [aH s4 kr,gm l0] 9 1) (.cond s9 (sq (rt [gm s0,gf 1 s3,gd l1,ga 5 l0 l2,gf 0 l3,gd l4,gm s0,gf 2 s3,gd l7,ga 5 l6 l8,gf 0 l9,gd l10,gm l5,gm gh] [(10,12),(11,13)]) (sq (r2 [gm s0,gf 1 s3,gd l1,gx 1036 [l0,l2] [[.sl 5 [.a,.a,.a,.a,.a]],[.a]],gm jR,aH l4 tl,gx 1100 [l3,l5] gL,ar l6 (cs [32,97,110,100,32]),gm s0,gf 2 s3,gd l9,gx 1036 [l8,l10] [[.sl 5 [.a,.a,.a,.a,.a]],[.a]],gm lf,aH iq tl,gm jD,dt 14 lf,bP 14 (bY lz kr),dL jZ mw,gx 1100 [gh,oC] gL,ar l7 pd,gm qk] 2 20) .ret)) .skip)))))))) (sq (r2 [gm s0,gf 1 s3,gd l1,gx 1036 [l0,l2] [[.sl 5 [.a,.a,.a,.a,.a]],[.a]],ar l3 (cs [32,111,114,32]),gm s0,gf 2 s3,gd l6,gx 1036 [l5,l7] [[.sl 5 [.a,.a,.a,.a,.a]],[.a]],gm s0,gf 2 s3,gd l10,ga 5 l9 gh,gf 0 iq,gd jD,aH jZ tl,gx 1100 [l8,lz] gL,ar l4 mw,gm oC] 2 18) .ret))))⟩
def Oy {Γ:Ctx}(hm:(Γ.at 0).aY)(h1099:Ee Γ)(h1100:Im Γ)(l:List Nd)(i:Int)(h1036:Ed (Γ.at 0) (2*i.toNat))(hp0:dM l∧l.length≤15∧0≤i∧i<l.length):c7 Γ AZ (.str (gS l i)) [.sl 5 (l.map Nd.D),.int .i64 i]:=by
 show bq _ _ _ [⟨_,_⟩,⟨_,_⟩,_,_,_,_,_,_,_,_,_,_] _;obtain⟨hk,hl15,hi0,hi1⟩:=hp0;have htx:=Cw hk hi0 hi1;obtain⟨k1,k2,k3⟩:=hk i.toNat (by omega);refine ai ?_;refine aA ?_;first|refine bQ (v:=(Nd.D _)) ?_|refine ef (v:=(Nd.D _)) ?_
 refine kN ?_;refine wp_cond (fun hc0=>?_) (fun hc0=>?_)
 ·simp only[decide_eq_true_eq]at hc0;have k1:=k1 hc0;have hkl:=lP l[i.toNat]!.key;refine av ?_;refine ak (hc:=h1099 l[i.toNat]!.key ⟨k1.1,k1.2.1⟩) ?_;refine dY ?_;refine au ?_;refine dY ?_;refine ax ?_;refine b8 ?_;rw[htx,if_pos hc0]
 simp only[decide_eq_false_iff_not]at hc0;have ka:=k2 hc0;have hla:=nT hk hl15 (i:=l[i.toNat]!.a) (by omega) (by omega);have hwa:=fun b=>ki (gS l l[i.toNat]!.a) b
 refine ax ?_;refine wp_cond (fun hc1=>?_) (fun hc1=>?_)
 ·simp only[decide_eq_true_eq]at hc1;refine ax ?_;refine bO l[i.toNat]!.a.toNat ?_;first|refine bQ (v:=(Nd.D _)) ?_|refine ef (v:=(Nd.D _)) ?_
  refine cB ?_;refine aq (fun hc2=>?_) (fun hc2=>?_)
  ·simp only[decide_eq_true_eq]at hc2;have k4:=(hk l[i.toNat]!.a.toNat (by omega)).1 hc2;have hkl:=lP l[l[i.toNat]!.a.toNat]!.key;refine ax ?_;refine ak (hc:=h1099 l[l[i.toNat]!.a.toNat]!.key ⟨k4.1,k4.2.1⟩) ?_;refine dY ?_;refine au ?_;refine dY ?_;refine ax ?_;refine b8 ?_;rw[htx,if_neg hc0,if_pos hc1,if_pos hc2]
  try simp only[fo]at hc2
  refine aI ?_;refine ak (hc:=h1036 l l[i.toNat]!.a ⟨hk,hl15,by omega,by omega⟩ (by omega)) ?_;refine av ?_;refine ak (hc:=h1100 (gS l l[i.toNat]!.a) _ (by omega)) ?_;have hwx:=hwa (!decide (l[l[i.toNat]!.a.toNat]!.op=2));refine dY ?_;refine ax ?_;refine b8 ?_;rw[htx,if_neg hc0,if_pos hc1,if_neg hc2]
 simp only[decide_eq_false_iff_not]at hc1;have kb:=k3 hc0 hc1;have hlb:=nT hk hl15 (i:=l[i.toNat]!.b) (by omega) (by omega);have hwb:=fun b=>ki (gS l l[i.toNat]!.b) b
 refine ax ?_;refine eW (fun hc3=>?_) fun hc3=>?_
 ·refine ax ?_;refine bO l[i.toNat]!.a.toNat ?_;refine aI ?_;refine bO l[i.toNat]!.b.toNat ?_;refine cB ?_;refine ak (hc:=h1036 l l[i.toNat]!.a ⟨hk,hl15,by omega,by omega⟩ (by omega)) ?_;refine au ?_;refine ak (hc:=h1100 (gS l l[i.toNat]!.a) _ (by omega)) ?_;have hwx:=hwa (decide (l[l[i.toNat]!.a.toNat]!.op=4));refine dY ?_;refine av ?_;refine ak (hc:=h1036 l l[i.toNat]!.b ⟨hk,hl15,by omega,by omega⟩ (by omega)) ?_;refine aA ?_;refine ak (hc:=h1100 (gS l l[i.toNat]!.b) _ (by omega)) ?_;have hwy:=hwb (decide (l[l[i.toNat]!.b.toNat]!.op=4) ||decide (l[l[i.toNat]!.b.toNat]!.op=3));refine dY ?_;refine ax ?_;refine b8 ?_;rw[htx,if_neg hc0,if_neg hc1,if_pos hc3]
 refine aA ?_;refine ak (hc:=h1036 l l[i.toNat]!.a ⟨hk,hl15,by omega,by omega⟩ (by omega)) ?_;refine dY ?_;refine av ?_;refine ak (hc:=h1036 l l[i.toNat]!.b ⟨hk,hl15,by omega,by omega⟩ (by omega)) ?_;refine av ?_;refine bO l[i.toNat]!.b.toNat ?_;refine av ?_;refine ak (hc:=h1100 (gS l l[i.toNat]!.b) _ (by omega)) ?_;have hwy:=hwb (decide (l[l[i.toNat]!.b.toNat]!.op=4));refine dY ?_;refine av ?_;refine b8 ?_;rw[htx,if_neg hc0,if_neg hc1,if_neg hc3]
def A0:az:=⟨1,11,fg,bL,(sq (r1 [gm cH] 1 0) (sq (r1 [gm (.c (.aF))] 4 0) (sq (sq (r1 [gm bc] 2 0) (.block 0 (.loop (sq (sq (r1 [gm s2,gm s0,gl l1,aJ l0 l2] 3 3) (ek s3 0)) (sq (.block 1 (sq (rg [gm s0,gm s2,ga 5 l0 l1,gk 5 true l2,gm s4,gl l4,gb 5 (.c (.agg [.int .i64 0,.int .i64 0,.int .i64 0,.int .i64 0,.str []])),gt 5 l6 l3,gm l5] [(5,6),(8,8)]) (sq (r1 [gf 3 s5,gd l0,aH l1 bc,gm l2,kX 3 4 s5,jC 3 l4,bR 3 (bY l5 cse),dG l3 l6,gm l7] 7 8) (sq (.block 2 (sq (r1 [gk 5 true s5,gx 1098 [l0] D7,gm l1] 6 2) (.cond s6 .skip (sq (r2 [gf 0 s5,gd l0,aH l1 lM,gm l2,gmt 3 s7,dG l3 l4,gm l5,gmt 6 s8,bR 6 (cC l7 bc),dG l6 l8,gm l9,kX 10 1 s5,jC 10 gh,gmt 10 s4,gmt 10 s8,bR 10 (hZ jZ bV),bR 10 (.ia 1 jD lz),jC 10 mw,bR 10 (bY iq oC),dG l10 pd,gm qk,kX 20 2 s5,jC 20 uU,bR 20 (bY vJ bc),dG tt zY,gm zZ] 9 25) (.cond s9 (r1 [gm s4,gm s8,dN l1 bV,gn (.slA 1 l0 none (some l2)),gm l3] 4 4) (sq (r2 [gf 0 s5,gd l0,aH l1 kr,gm l2,gT 3 0 s5,hJ 3 l4,bP 3 (bY l5 tl),dL l3 l6,gm l7,gmt 8 s7,dG l8 l9,gm l10,gmt 11 s8,bR 11 (cC iq bV),dG gh jD,gm jZ,kX 15 1 s5,jC 15 mw,gmt 15 s4,gmt 15 s8,bR 15 (hZ qk lM),bR 15 (.ia 1 pd tt),jC 15 uU,bR 15 (bY oC vJ),dG lz zY,gm zZ,kX 25 2 s5,jC 25 D8,gmt 25 s4,gmt 25 s8,bR 25 (hZ HE bV),bR 25 (.ia 1 HD J7),jC 25 NU,bR 25 (bY GC NV),dG BW l33,gm l34] 10 35) (.cond jR (r1 [gm s4,gm s8,dN l1 lM,gn (.slA 1 l0 none (some l2)),gm l3] 4 4) (rU cH)))))))) (r1 [gm s4,gm s2,gn (.bsl 1 (.int .i64 0) 1 [(0,l1)]),gn (.app 1 l0 l2),gm l3] 4 4))))) (r1 [gm s2,ar l0 bV,gm l1] 2 2)))))) (sq (r1 [gm s0,gl l0,aH l1 bc,gm l2,dt 3 s4,bP 3 (.len l4),bP 3 (bY l5 bV),dL l3 l6,gm l7] 1 8) .ret))))⟩
def Ox {Γ:Ctx}(hm:(Γ.at 0).aY)(h1098:Il Γ)(l:List Nd)  (hp0:l.length≤15):c7 Γ A0 (.bool (jT l)) [.sl 5 (l.map Nd.D)]:=by
 show bq _ _ _ [⟨_,_⟩,_,_,_,_,_,_,_,_,_,_] _;refine ai ?_;refine cB ?_;refine aV hm (ι:=(Nat×List Int)) (fun p=>[⟨true,.sl 5 (l.map Nd.D)⟩,.un,⟨true,.int .i64 (p.1:Nat)⟩,.un,⟨true,.own 0 1 0 p.2.length⟩,.un,.un,.un,.un,.un,.un]) (fun p=>[(0,.buf 1 (p.2.map (D.int .i64)))]) 3 (fun p=>p.1≤l.length∧p.2.length≤p.1∧jO l 0 []=jO (l.drop p.1) p.1 p.2) (fun p=>l.length-p.1) (0,[]) ⟨by simp,by simp,by simp⟩ (aT.to [] ae ae (by repeat(first|exact cS.nil|refine cS.un ?_|refine cS.eq ae ?_|refine cS.nl ae ae ?_|refine cS.ni (Or.inr ⟨_,_,_,rfl⟩) ?_)) (by repeat(first|exact aL.nil|refine aL.mt ae ae ae ae ?_))) ?_;rintro⟨i,o⟩ ⟨hi,ho,hr⟩;dsimp only at hi ho hr⊢;refine aI ?_;intro u0;refine au ?_;refine ca (fun hc0=>?_) fun hc0=>?_
 ·refine aA ?_;first|refine bQ (v:=(Nd.D _)) ?_|refine ef (v:=(Nd.D _)) ?_
  refine au ?_;intro u1;refine aC ?_;refine aR (Nd.D l[i]!) (he:=by exact rfl) ?_;refine uK ?_;refine ak (hc:=h1098 _) ?_;refine au ?_;refine eW (fun hc1=>?_) fun hc1=>?_
  ·refine aI ?_;refine cF [(.int _ _)] ?_;refine tV ((o++[(i:Int)]).map (D.int .i64)) (n:=(o++[(i:Int)]).length) (ha:=by simp<;>omega) (he:=sn.all (es:=[.int .i64 (i:Nat)]) ae rfl) (hz:=by rw[List.drop_zero,List.take_of_length_le (by simp),List.map_append];rfl) (hn:=by simp<;>omega) (hb:=by simp<;>omega) ?_;refine cB ?_;have hs:fK l[i]! i o=some (o++[(i:Int)]):=by rw[sH,if_pos hc1]
   exact⟨(i+1,(o++[(i:Int)])),⟨by dsimp only;omega,by simp;omega,by rw[hr];exact fF (by omega) hs⟩,by dsimp only;omega,(aT.to [(31,0)] ae ae c8 (by refine aL.nl 31 ae ae ae cz ?_;exact aL.nil))⟩
  refine uL ?_;refine ju (o.length-1) ?_;refine nJ (q:=D.int .i64) (xs:=o) (v:=(.int .i64 o[o.length-1]!)) (hv:=fun _=>by rw[Nat.zero_add];rfl) ?_;refine cB ?_;refine wp_cond (fun hc2=>?_) (fun hc2=>?_)
  ·replace hc2:CR l[i]! o=true:=hc2;have hk1:1≤o.length:=by have hq:=hc2;simp only[CR,Bool.and_eq_true,decide_eq_true_eq]at hq;omega
   refine ax ?_;refine tY (o.length-1) ?_;refine aA ?_;refine cF [(.int _ _)] ?_;refine tV ((o.take (o.length-1)++[(i:Int)]).map (D.int .i64)) (n:=(o.take (o.length-1)++[(i:Int)]).length) (ha:=by simp<;>omega) (he:=sn.all (es:=[.int .i64 (i:Nat)]) ae rfl) (hz:=by rw[List.drop_zero,←List.map_take,List.map_append];rfl) (hn:=by simp<;>omega) (hb:=by simp<;>omega) ?_;refine cB ?_;have hs:fK l[i]! i o=some (o.take (o.length-1)++[(i:Int)]):=by rw[sH,if_neg (by rw[hc1];simp),if_pos hc2]
   exact⟨(i+1,(o.take (o.length-1)++[(i:Int)])),⟨by dsimp only;omega,by simp;omega,by rw[hr];exact fF (by omega) hs⟩,by dsimp only;omega,(aT.to [(62,0)] ae ae c8 (by refine aL.nl 62 ae ae ae cz ?_;exact aL.nil))⟩
  replace hc2:CR l[i]! o=false:=hc2;refine OM ?_;refine ju (o.length-2) ?_;refine nJ (q:=D.int .i64) (xs:=o) (v:=(.int .i64 o[o.length-2]!)) (hv:=fun _=>by rw[Nat.zero_add];rfl) ?_;refine bt ?_;refine ju (o.length-1) ?_;refine nJ (q:=D.int .i64) (xs:=o) (v:=(.int .i64 o[o.length-1]!)) (hv:=fun _=>by rw[Nat.zero_add];rfl) ?_;refine ax ?_;refine wp_cond (fun hc3=>?_) (fun hc3=>?_)
  ·replace hc3:CS l[i]! o=true:=hc3;have hk1:2≤o.length:=by have hq:=hc3;simp only[CS,Bool.and_eq_true,decide_eq_true_eq]at hq;omega
   refine ax ?_;refine tY (o.length-2) ?_;refine aA ?_;refine cF [(.int _ _)] ?_;refine tV ((o.take (o.length-2)++[(i:Int)]).map (D.int .i64)) (n:=(o.take (o.length-2)++[(i:Int)]).length) (ha:=by simp<;>omega) (he:=sn.all (es:=[.int .i64 (i:Nat)]) ae rfl) (hz:=by rw[List.drop_zero,←List.map_take,List.map_append];rfl) (hn:=by simp<;>omega) (hb:=by simp<;>omega) ?_;refine cB ?_;have hs:fK l[i]! i o=some (o.take (o.length-2)++[(i:Int)]):=by rw[sH,if_neg (by rw[hc1];simp),if_neg (by rw[hc2];simp),if_pos hc3]
   exact⟨(i+1,(o.take (o.length-2)++[(i:Int)])),⟨by dsimp only;omega,by simp;omega,by rw[hr];exact fF (by omega) hs⟩,by dsimp only;omega,(aT.to [(98,0)] ae ae c8 (by refine aL.nl 98 ae ae ae cz ?_;exact aL.nil))⟩
  replace hc3:CS l[i]! o=false:=hc3;refine aQ ?_;refine bp ?_;symm;refine zJ ?_;rw[hr];refine ec (by omega) ?_;rw[sH,if_neg (by rw[hc1];simp),if_neg (by rw[hc2];simp),if_neg (by rw[hc3];simp)]
 refine aI ?_;intro u2;refine av ?_;refine hX ?_;refine aI ?_;refine bp ?_;simp only[jT,hr,vV (show l.length≤i by omega)];rw[decide_eq_decide.2 (show((l.length:Nat):Int)=0↔l.length=0 by omega),decide_eq_decide.2 (show((o.length:Nat):Int)=1↔o.length=1 by omega)]
def Ii (Γ:Ctx):Prop:=∀(l:List Nd),(l.length≤15)→Γ.pre 1035 [.sl 5 (l.map Nd.D)]∧Γ.val 1035 [.sl 5 (l.map Nd.D)]=.bool (jT l)
end Go.Abs
end
