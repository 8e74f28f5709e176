/- A part of the proofs. -/
import Derived.Test.YtpdlhpamcaocgaaGreatDoorP06
set_option linter.all false
set_option maxRecDepth 4000
namespace Go.Abs
def IF:aJ:=⟨1,11,jh,ct,(sq (r1 [gm cse] 1 0) (sq (sq (r1 [gm s0] 2 0) (.block 0 (sq (r1 [aO s2 ch,gm l0] 3 1) (.cond s3 (sq (r1 [gm (cs [61])] 1 0) .ret) (sq (r1 [aO s2 jE,gm l0] 4 1) (.cond s4 (sq (r1 [gm (cs [33,61])] 1 0) .ret) (sq (r1 [aO s2 jL,gm l0] 5 1) (.cond s5 (sq (r1 [gm (cs [60])] 1 0) .ret) (sq (r1 [aO s2 sj,gm l0] 6 1) (.cond s6 (sq (r1 [gm (cs [60,61])] 1 0) .ret) (sq (r1 [aO s2 zx,gm l0] 7 1) (.cond s7 (sq (r1 [gm (cs [62])] 1 0) .ret) (sq (r1 [aO s2 uv,gm l0] 8 1) (.cond s8 (sq (r1 [gm (cs [62,61])] 1 0) .ret) (sq (r1 [aO s2 HX,gm l0] 9 1) (.cond s9 (sq (r1 [gm (cs [94])] 1 0) .ret) (sq (r1 [aO s2 EI,gm l0] 10 1) (.cond kZ (sq (r1 [gm (cs [126])] 1 0) .ret) .skip)))))))))))))))))) (xN cse)))⟩
def w678 {Y:Ctx}(hm:(Y.at 0).bz)  (op:Int)   :dV Y IF (.str (dm op)) [.int .i64 op]:=by
 show bX _ _ _ [⟨_,_⟩,_,_,_,_,_,_,_,_,_,_] _;refine au ?_;refine hE ?_;refine gN (fun hc0=>?_) fun hc0=>?_
 ·refine aT ?_;refine cV ?_;unfold dm;simp_all
 refine aG ?_;refine gN (fun hc1=>?_) fun hc1=>?_
 ·refine aT ?_;refine cV ?_;unfold dm;simp_all
 refine aG ?_;refine gN (fun hc2=>?_) fun hc2=>?_
 ·refine aT ?_;refine cV ?_;unfold dm;simp_all
 refine aG ?_;refine gN (fun hc3=>?_) fun hc3=>?_
 ·refine aT ?_;refine cV ?_;unfold dm;simp_all
 refine aG ?_;refine gN (fun hc4=>?_) fun hc4=>?_
 ·refine aT ?_;refine cV ?_;unfold dm;simp_all
 refine aG ?_;refine gN (fun hc5=>?_) fun hc5=>?_
 ·refine aT ?_;refine cV ?_;unfold dm;simp_all
 refine aG ?_;refine gN (fun hc6=>?_) fun hc6=>?_
 ·refine aT ?_;refine cV ?_;unfold dm;simp_all
 refine aG ?_;refine gN (fun hc7=>?_) fun hc7=>?_
 ·refine aT ?_;refine cV ?_;unfold dm;simp_all
 refine aK ?_;refine cV ?_;unfold dm;simp_all
def Pu (Y:Ctx):Prop:=∀(op:Int),Y.pre 678 [.int .i64 op]/\Y.val 678 [.int .i64 op]=.str (dm op)
def Hx:aJ:=⟨1,11,jh,ct,(sq (r1 [gm cse] 1 0) (sq (sq (r1 [gm s0] 2 0) (.block 0 (sq (r1 [aO s2 ch,gm l0] 3 1) (.cond s3 (sq (r1 [gm (cs [61])] 1 0) .ret) (sq (r1 [aO s2 jE,gm l0] 4 1) (.cond s4 (sq (r1 [gm (cs [33,61])] 1 0) .ret) (sq (r1 [aO s2 jL,gm l0] 5 1) (.cond s5 (sq (r1 [gm (cs [60])] 1 0) .ret) (sq (r1 [aO s2 sj,gm l0] 6 1) (.cond s6 (sq (r1 [gm (cs [60,61])] 1 0) .ret) (sq (r1 [aO s2 zx,gm l0] 7 1) (.cond s7 (sq (r1 [gm (cs [62])] 1 0) .ret) (sq (r1 [aO s2 uv,gm l0] 8 1) (.cond s8 (sq (r1 [gm (cs [62,61])] 1 0) .ret) (sq (r1 [aO s2 HX,gm l0] 9 1) (.cond s9 (sq (r1 [gm (cs [94])] 1 0) .ret) (sq (r1 [aO s2 EI,gm l0] 10 1) (.cond kZ (sq (r1 [gm (cs [126])] 1 0) .ret) .skip)))))))))))))))))) (xN cse)))⟩
def w957 {Y:Ctx}(hm:(Y.at 0).bz)  (op:Int)   :dV Y Hx (.str (dm op)) [.int .i64 op]:=by
 show bX _ _ _ [⟨_,_⟩,_,_,_,_,_,_,_,_,_,_] _;refine au ?_;refine hE ?_;refine gN (fun hc0=>?_) fun hc0=>?_
 ·refine aT ?_;refine cV ?_;unfold dm;simp_all
 refine aG ?_;refine gN (fun hc1=>?_) fun hc1=>?_
 ·refine aT ?_;refine cV ?_;unfold dm;simp_all
 refine aG ?_;refine gN (fun hc2=>?_) fun hc2=>?_
 ·refine aT ?_;refine cV ?_;unfold dm;simp_all
 refine aG ?_;refine gN (fun hc3=>?_) fun hc3=>?_
 ·refine aT ?_;refine cV ?_;unfold dm;simp_all
 refine aG ?_;refine gN (fun hc4=>?_) fun hc4=>?_
 ·refine aT ?_;refine cV ?_;unfold dm;simp_all
 refine aG ?_;refine gN (fun hc5=>?_) fun hc5=>?_
 ·refine aT ?_;refine cV ?_;unfold dm;simp_all
 refine aG ?_;refine gN (fun hc6=>?_) fun hc6=>?_
 ·refine aT ?_;refine cV ?_;unfold dm;simp_all
 refine aG ?_;refine gN (fun hc7=>?_) fun hc7=>?_
 ·refine aT ?_;refine cV ?_;unfold dm;simp_all
 refine aK ?_;refine cV ?_;unfold dm;simp_all
def PF (Y:Ctx):Prop:=∀(op:Int),Y.pre 957 [.int .i64 op]/\Y.val 957 [.int .i64 op]=.str (dm op)
def DH:aJ:=⟨2,3,[⟨2,none⟩],ct,(sq (r1 [gm dj] 2 0) (sq (r1 [gm s0,oQ l0,gm s1,oQ l2,jd l1 l3,gm l4,gmt 5 s0,gmt 5 s1,cu 5 (.lenS l7),cu 5 (.slS l6 none (some l8)),gmt 5 s1,cu 5 (cP l9 l10),fg l5 gJ,gm iM] 2 13) .ret))⟩
def UX {Y:Ctx}(hm:(Y.at 0).bz)  (s:aq)(w:aq)   :dV Y DH (.bool (qh s w)) [.str s,.str w]:=by
 show bX _ _ _ [⟨_,_⟩,⟨_,_⟩,_] _;refine au ?_;refine aT ?_;intro u0;refine aA ?_;intro u1;refine aG ?_;refine js ?_;refine kQ w.length (hj:=fun _=>rfl) (hb:=fun h=>by simp at h;omega) ?_;refine aK ?_;refine b7 ?_;unfold qh;rw[show decide ((w.length:Int)<=(s.length:Int))=decide (w.length<=s.length)from ed.2 ae]
def Oc (Y:Ctx):Prop:=∀(s:aq)(w:aq),Y.pre 1079 [.str s,.str w]/\Y.val 1079 [.str s,.str w]=.bool (qh s w)
def Cw:aJ:=⟨2,3,[⟨2,none⟩],ct,(sq (r1 [gm dj] 2 0) (sq (r1 [gm s0,oQ l0,gm s1,oQ l2,jd l1 l3,gm l4,gmt 5 s0,gmt 5 s1,cu 5 (.lenS l7),cu 5 (.slS l6 none (some l8)),gmt 5 s1,cu 5 (cP l9 l10),fg l5 gJ,gm iM] 2 13) .ret))⟩
def w956 {Y:Ctx}(hm:(Y.at 0).bz)  (s:aq)(w:aq)   :dV Y Cw (.bool (qh s w)) [.str s,.str w]:=by
 show bX _ _ _ [⟨_,_⟩,⟨_,_⟩,_] _;refine au ?_;refine aT ?_;intro u0;refine aA ?_;intro u1;refine aG ?_;refine js ?_;refine kQ w.length (hj:=fun _=>rfl) (hb:=fun h=>by simp at h;omega) ?_;refine aK ?_;refine b7 ?_;unfold qh;rw[show decide ((w.length:Int)<=(s.length:Int))=decide (w.length<=s.length)from ed.2 ae]
def SS (Y:Ctx):Prop:=∀(s:aq)(w:aq),Y.pre 956 [.str s,.str w]/\Y.val 956 [.str s,.str w]=.bool (qh s w)
def Lz:aJ:=⟨1,8,jh,ct,(sq (rg [gb 7 s0,gm dj] [(2,0),(1,1)]) (sq (sq (r1 [gf 0 s2,gd l0,a8 l1 ch,gm l2,jK 3 0 s2,jQ 3 l4,cE 3 (eF l5 CT),fF l3 l6,gm l7,jK 8 2 s2,cE 8 (.ld 5 true l9),cE 8 (.call 217 [l10] HU),cE 8 (.un .not gJ),fF l8 iM,gm jN,jK 14 2 s2,jK 14 4 lx,jQ 14 n9,cE 14 (eM pV cse),fF ku qu] 3 19) (nH s3 dj)) (sq (rg [gm ch,gm jL] [(5,0),(6,1)]) (sq (sq (r1 [gf 0 s2,gd l0,aO l1 CT] 4 2) (.cond s4 (rg [gm bL,gm jE] [(5,0),(6,1)]) .skip)) (sq (sq (r1 [gf 1 s2,gd l0,gm s5,a8 l1 l2,gm l3,jK 4 1 s2,jQ 4 l5,eU 4 s6,cE 4 (eF l6 l7),fF l4 l8,gm l9,jK 10 1 s2,jQ 10 gJ,cE 10 (qa iM jL),eU 10 jN,mP 14 2 s2,mP 14 3 lx,kd 14 n9,cu 14 (eM pV cse),Bo 10 ku qu,fF l10 sn] 7 20) (nH s7 dj)) (sq (r1 [gf 1 s2,gd l0,dn l1 bL,gm l2,jK 3 2 s2,jK 3 0 l4,jQ 3 l5,cE 3 (cP l6 bL),fF l3 l7,gm l8,mP 9 1 s2,kd 9 l10,cu 9 (eF gJ ch),gmt 9 iM,jK 13 2 s2,jK 13 1 ku,jQ 13 lx,cE 13 (cP n9 bL),Qj 9 jN pV,fg l9 qu,gm sn,mP 20 1 s2,kd 20 zg,cu 20 (eF Ak jE),gmt 20 Ee,jK 24 2 s2,jK 24 2 EL,jQ 24 Jc,cE 24 (cP Kn bL),Qj 20 Ef Np,fg wv Nq,gm Qp] 1 31) .ret))))))⟩
def w676 {Y:Ctx}(hm:(Y.at 0).bz)(h217:Jo Y)(c:cZ)  (hp0:c.v.sm):dV Y Lz (.bool (lJ c)) [cZ.D c]:=by
 show bX _ _ _ [⟨_,_⟩,_,_,_,_,_,_,_] _;refine au ?_;refine zc ?_;refine bA (v:=cM.D c.v) ?_;refine fT (hc:=fun hf=>h217 c.v hp0) ?_;refine dE ?_;refine aw (fun hc0=>?_) (fun hc0=>?_)
 ·have hq:=Cv hc0;refine aT ?_;refine b7 ?_;rw[hq]
 have hy:=zW hc0;refine hE ?_;refine aw (fun hc1=>?_) (fun hc1=>?_)
 ·simp only[aS]at hc1;have hz:=rM hy (lo:=0) (hi:=2) (av hc1) (av hc1);refine Ma ?_;refine aw (fun hc2=>?_) (fun hc2=>?_)
  ·rw[hc2]at hz;refine aT ?_;refine b7 ?_;rw[hz];rfl
  rw[hc2]at hz;refine OU ?_;refine b7 ?_;rw[hz];rfl
 simp only[bj]at hc1;have hz:=rM hy (lo:=1) (hi:=3) (aj hc1) (aj hc1);refine OT ?_;refine aw (fun hc2=>?_) (fun hc2=>?_)
 ·rw[hc2]at hz;refine aT ?_;refine b7 ?_;rw[hz];rfl
 rw[hc2]at hz;refine OU ?_;refine b7 ?_;rw[hz];rfl
def Ps (Y:Ctx):Prop:=∀(c:cZ),(c.v.sm)->Y.pre 676 [cZ.D c]/\Y.val 676 [cZ.D c]=.bool (lJ c)
def JQ:aJ:=⟨1,14,jh,ct,(sq (rg [gb 7 s0,gm dj] [(2,0),(1,1)]) (sq (sq (r1 [gf 0 s2,gd l0,a8 l1 ch,gm l2,jK 3 0 s2,jQ 3 l4,cE 3 (eF l5 CT),fF l3 l6,gm l7,jK 8 2 s2,cE 8 (.ld 5 true l9),cE 8 (.call 209 [l10] HU),cE 8 (.un .not gJ),fF l8 iM,gm jN,jK 14 2 s2,jK 14 4 lx,jQ 14 n9,cE 14 (eM pV cse),fF ku qu] 3 19) (nH s3 dj)) (sq (rg [gm ch,gm jL] [(5,0),(6,1)]) (sq (sq (r1 [gf 0 s2,gd l0,aO l1 CT] 4 2) (.cond s4 (rg [gm bL,gm jE] [(5,0),(6,1)]) .skip)) (sq (sq (r1 [gf 1 s2,gd l0,gm s5,a8 l1 l2,gm l3,jK 4 1 s2,jQ 4 l5,eU 4 s6,cE 4 (eF l6 l7),fF l4 l8,gm l9,jK 10 2 s2,jK 10 3 gJ,jQ 10 iM,cE 10 (eM jN cse),eU 10 ku,mP 15 1 s2,kd 15 n9,cu 15 (qa pV jL),Bo 10 lx qu,fF l10 sn] 7 20) (nH s7 dj)) (sq (sq (r1 [gf 1 s2,gd l0] 8 1) (.block 0 (sq (.block 3 (sq (.block 2 (sq (.block 1 (sq (sq (sq (r1 [aO s8 bL,gm l0] 9 1) (.cond s9 (.exit 1) .skip)) (sq (sq (r1 [aO s8 ch,gm l0] 10 1) (.cond kZ (.exit 2) .skip)) (sq (r1 [aO s8 jE,gm l0] 11 1) (.cond nQ (.exit 3) .skip)))) (.exit 0))) (sq (r1 [gf 2 s2,gf 0 l0,gd l1,cv l2 bL] 12 3) (nH mQ dj)))) (sq (r1 [gf 2 s2,gf 1 l0,gd l1,cv l2 bL] 13 3) (nH rv dj)))) (sq (sq (r1 [gf 2 s2,gf 2 l0,gd l1,aO l2 bL,gm l3] 1 4) .ret) (.exit 0))))) (xN ou)))))))⟩
def w827 {Y:Ctx}(hm:(Y.at 0).bz)(h209:Jm Y)(c:cZ)  (hp0:c.v.sm):dV Y JQ (.bool (lJ c)) [cZ.D c]:=by
 show bX _ _ _ [⟨_,_⟩,_,_,_,_,_,_,_,_,_,_,_,_,_] _;refine au ?_;refine zc ?_;refine bA (v:=cM.D c.v) ?_;refine fT (hc:=fun hf=>h209 c.v hp0) ?_;refine dE ?_;refine aw (fun hc0=>?_) (fun hc0=>?_)
 ·have hq:=Cv hc0;refine aT ?_;refine b7 ?_;rw[hq]
 have hy:=zW hc0;refine hE ?_;refine aw (fun hc1=>?_) (fun hc1=>?_)
 ·simp only[aS]at hc1;have hz:=rM hy (lo:=0) (hi:=2) (av hc1) (av hc1);refine Ma ?_;refine aw (fun hc2=>?_) (fun hc2=>?_)
  ·rw[Bool.and_comm (!decide (c.v.pre=[]))]at hc2;rw[hc2]at hz;refine aT ?_;refine b7 ?_;rw[hz];simp[qi]<;>simp_all<;>omega
  rw[Bool.and_comm (!decide (c.v.pre=[]))]at hc2;rw[hc2]at hz;refine zd ?_;refine cT (fun hc3=>?_) fun hc3=>?_
  ·refine bY ?_;refine gN (fun hc6=>?_) fun hc6=>?_
   ·refine br ?_;refine b7 ?_;rw[hz];simp[qi]<;>simp_all<;>omega
   refine bY ?_;refine gN (fun hc7=>?_) fun hc7=>?_
   ·refine aK ?_;refine b7 ?_;rw[hz];simp[qi]<;>simp_all<;>omega
   refine jr ?_;refine b7 ?_;rw[hz];simp[qi]<;>simp_all<;>omega
  refine br ?_;refine cT (fun hc4=>?_) fun hc4=>?_
  ·refine dE ?_;refine gN (fun hc7=>?_) fun hc7=>?_
   ·refine aK ?_;refine b7 ?_;rw[hz];simp[qi]<;>simp_all<;>omega
   refine jr ?_;refine b7 ?_;rw[hz];simp[qi]<;>simp_all<;>omega
  refine aK ?_;refine cT (fun hc5=>?_) fun hc5=>?_
  ·refine sI ?_;refine b7 ?_;rw[hz];simp[qi]<;>simp_all<;>omega
  refine iG ?_;refine b7 ?_;rw[hz];simp[qi]<;>simp_all<;>omega
 simp only[bj]at hc1;have hz:=rM hy (lo:=1) (hi:=3) (aj hc1) (aj hc1);refine OT ?_;refine aw (fun hc2=>?_) (fun hc2=>?_)
 ·rw[Bool.and_comm (!decide (c.v.pre=[]))]at hc2;rw[hc2]at hz;refine aT ?_;refine b7 ?_;rw[hz];simp[qi]<;>simp_all<;>omega
 rw[Bool.and_comm (!decide (c.v.pre=[]))]at hc2;rw[hc2]at hz;refine zd ?_;refine cT (fun hc3=>?_) fun hc3=>?_
 ·refine bY ?_;refine gN (fun hc6=>?_) fun hc6=>?_
  ·refine br ?_;refine b7 ?_;rw[hz];simp[qi]<;>simp_all<;>omega
  refine bY ?_;refine gN (fun hc7=>?_) fun hc7=>?_
  ·refine aK ?_;refine b7 ?_;rw[hz];simp[qi]<;>simp_all<;>omega
  refine jr ?_;refine b7 ?_;rw[hz];simp[qi]<;>simp_all<;>omega
 refine br ?_;refine cT (fun hc4=>?_) fun hc4=>?_
 ·refine dE ?_;refine gN (fun hc7=>?_) fun hc7=>?_
  ·refine aK ?_;refine b7 ?_;rw[hz];simp[qi]<;>simp_all<;>omega
  refine jr ?_;refine b7 ?_;rw[hz];simp[qi]<;>simp_all<;>omega
 refine aK ?_;refine cT (fun hc5=>?_) fun hc5=>?_
 ·refine sI ?_;refine b7 ?_;rw[hz];simp[qi]<;>simp_all<;>omega
 refine iG ?_;refine b7 ?_;rw[hz];simp[qi]<;>simp_all<;>omega
def Mt (Y:Ctx):Prop:=∀(c:cZ),(c.v.sm)->Y.pre 827 [cZ.D c]/\Y.val 827 [cZ.D c]=.bool (lJ c)
def Ez:aJ:=⟨1,16,jh,ct,(sq (rg [gb 7 s0,gm cse] [(2,0),(1,1)]) (sq (sq (r1 [gk 7 true s2,gx 827 [l0] Mc,ke l1] 3 2) (nH s3 cse)) (sq (r1 [gf 0 s2,gd l0,gx 957 [l1] ct,gm l2] 11 3) (sq (sq (rg [gf 2 s2,gf 0 l0,gd l1,gf 2 s2,gf 1 l3,gd l4,gf 2 s2,gf 2 l6,gd l7,gn (.bsl 1 (.int .i64 0) 3 [(0,l2),(1,l5),(2,l8)]),gl l9,gm bL] [(7,9),(5,10),(4,11)]) (.block 0 (.loop (sq (r1 [a8 s4 s5] 6 0) (sq (fY s6 0) (sq (.block 1 (sq (rg [gm s4,ga 1 s7 s4,gd l1,gm l0,gm l2] [(8,3),(12,4)]) (sq (sq (r1 [gm s8,gf 1 s2,gd l1,jd l0 l2] 9 3) (.cond s9 (.exit 0) .skip)) (sq (sq (r1 [gm s8,dn l0 bL] 10 1) (.cond kZ (r1 [gm nQ,ay l0 (cs [46]),gm l1] 11 2) .skip)) (r1 [gm nQ,gm mQ,gx 665 [l1] ct,ay l0 l2,gm l3] 11 4))))) (r1 [ay s4 ch,gm l0] 4 1))))))) (sq (sq (r1 [gf 0 s2,gd l0,aO l1 CT] 13 2) (.cond rv (sq (sq (r1 [gf 1 s2,gd l0,dn l1 bL] 14 2) (.cond r8 (r1 [gm nQ,ay l0 (cs [46]),gm l1] 11 2) .skip)) (sq (r1 [gm nQ,ay l0 (cs [42]),gm l1] 1 2) .ret)) .skip)) (sq (sq (r1 [gf 2 s2,gf 3 l0,gd l1,cv l2 cse] 15 3) (.cond wD (r1 [gm nQ,gf 2 s2,gf 3 l1,gd l2,ay (cs [45]) l3,ay l0 l4,gm l5] 11 6) .skip)) (sq (r1 [gm nQ,gm l0] 1 1) .ret)))))))⟩
def w828 {Y:Ctx}(hm:(Y.at 0).bz)(h665:Po Y)(h827:Mt Y)(h957:PF Y)(c:cZ)  (hp0:c.v.sm):dV Y Ez (.str (dN c)) [cZ.D c]:=by
 show bX _ _ _ [⟨_,_⟩,_,_,_,_,_,_,_,_,_,_,_,_,_,_,_] _;refine au ?_;refine aK ?_;refine ar (hc:=h827 _ ?_) ?_;rotate_left;first|assumption|omega
 refine aA ?_;refine aw (fun hc0=>?_) (fun hc0=>?_)
 ·simp only[bn]at hc0;refine aT ?_;refine cV ?_;simp[dN,hc0]
 simp only[bP]at hc0;obtain⟨hv,hp1,hp2,hp3,hp4⟩:=oV hc0;have hsl:=vw c.op;have hnl:=rZ hv;refine aG ?_;refine ar (hc:=h957 _) ?_;refine mO ?_;refine c7 [(.int _ _),(.int _ _),(.int _ _)] ?_;refine aE ?_;intro u0;refine aA ?_;refine eR 18 ?_;refine bw hm (ι:=Nat) (fun i=>[.un,.un,⟨true,.ptr 0 7 0 0⟩,.un,⟨true,.int .i64 (i:Nat)⟩,⟨true,.int .i64 3⟩,.un,⟨true,.sl 1 (c.mG.map (D.int .i64))⟩,.un,.un,.un,⟨true,.str (dm c.op++gD c i)⟩,.un,.un,.un,.un]) (fun i=>[(0,.buf 7 [cZ.D c])]) 21 (fun i=>i<=3/\i<=c.parts.toNat) (fun i=>3-i) 0 ⟨ae,ae⟩ (bg.to [(0,0)] ah ah (by repeat(first|exact dz.nil|refine dz.un ?_|refine dz.eq ah ?_|refine dz.nl (ak D.str (by first|(simp only[gD,av hpos,dG];done)|(simp only[gD,aj hpos,dG,eY];done)|simp[gD])) ah ?_|refine dz.nl ah ah ?_)) rh) ?_;rintro i ⟨hi,hip⟩;have hni:=hnl i;have hfit:=qX hv i;have hn3:c.mG.length=3:=rfl;refine aB ?_;refine cT (fun hc1=>?_) fun hc1=>?_
 ·refine zd ?_;refine cT (fun hc2=>?_) fun hc2=>?_
  ·refine aT ?_;obtain rfl:i=c.parts.toNat:=ae;refine aG ?_;refine cT (fun hc4=>?_) fun hc4=>?_
   ·refine br ?_;refine cT (fun hc5=>?_) fun hc5=>?_
    ·refine aA ?_;refine gG ?_;refine aT ?_;refine gG ?_;refine aB ?_;refine cV ?_;simp[dN,mz,lF,hc0, *]
    refine aG ?_;refine gG ?_;refine aB ?_;refine cV ?_;simp[dN,mz,lF,hc0, *]
   refine bY ?_;refine cT (fun hc6=>?_) fun hc6=>?_
   ·refine aE ?_;have hpl:=hp0.1;refine aG ?_;refine gG ?_;refine gG ?_;refine br ?_;refine cV ?_;simp[dN,mz,lF,hc0, *]
   refine aK ?_;refine cV ?_;simp[dN,mz,lF,hc0, *]
  refine aK ?_;refine aw (fun hc3=>?_) (fun hc3=>?_)
  ·simp only[aS]at hc3;have hpos:0<i:=ae;refine aA ?_;refine gG ?_;refine aT ?_;refine ar (hc:=h665 (c.mG[i]!) ⟨hfit.1,hfit.2⟩) ?_;have hdl:=eG 4 (c.mG[i]!).toNat ae ae;refine gG ?_;refine bY ?_;exact⟨i+1,⟨ae,ae⟩,ae,(bg.to [(0,0)] ah ah (by repeat(first|exact dz.nil|refine dz.un ?_|refine dz.eq ah ?_|refine dz.nl (ak D.str (by first|(simp only[gD,av hpos,dG];done)|(simp only[gD,aj hpos,dG,eY];done)|simp[gD])) ah ?_|refine dz.nl ah ah ?_)) rh)⟩
  simp only[bj]at hc3;have hpos:¬0<i:=ae;refine aG ?_;refine ar (hc:=h665 (c.mG[i]!) ⟨hfit.1,hfit.2⟩) ?_;have hdl:=eG 4 (c.mG[i]!).toNat ae ae;refine gG ?_;refine bY ?_;exact⟨i+1,⟨ae,ae⟩,ae,(bg.to [(0,0)] ah ah (by repeat(first|exact dz.nil|refine dz.un ?_|refine dz.eq ah ?_|refine dz.nl (ak D.str (by first|(simp only[gD,av hpos,dG];done)|(simp only[gD,aj hpos,dG,eY];done)|simp[gD])) ah ?_|refine dz.nl ah ah ?_)) rh)⟩
 refine aG ?_;obtain rfl:i=c.parts.toNat:=ae;refine aG ?_;refine cT (fun hc4=>?_) fun hc4=>?_
 ·refine br ?_;refine cT (fun hc5=>?_) fun hc5=>?_
  ·refine aA ?_;refine gG ?_;refine aT ?_;refine gG ?_;refine aB ?_;refine cV ?_;simp[dN,mz,lF,hc0, *]
  refine aG ?_;refine gG ?_;refine aB ?_;refine cV ?_;simp[dN,mz,lF,hc0, *]
 refine bY ?_;refine cT (fun hc6=>?_) fun hc6=>?_
 ·refine aE ?_;have hpl:=hp0.1;refine aG ?_;refine gG ?_;refine gG ?_;refine br ?_;refine cV ?_;simp[dN,mz,lF,hc0, *]
 refine aK ?_;refine cV ?_;simp[dN,mz,lF,hc0, *]
def Px (Y:Ctx):Prop:=∀(c:cZ),(c.v.sm)->Y.pre 828 [cZ.D c]/\Y.val 828 [cZ.D c]=.str (dN c)
def vt:aJ:=⟨1,4,jh,[[.sl 1 [.a]]],(sq (rg [gb 7 s0,gm (.c (.aC))] [(2,0),(1,1)]) (sq (r2 [gf 2 s2,gf 0 l0,gd l1,gx 734 [l2] ct,gf 2 s2,gf 1 l4,gd l5,gx 734 [l6] ct,gf 2 s2,gf 2 l8,gd l9,gx 734 [l10] ct,gn (.bsl 1 (.str []) 3 [(0,l3),(1,l7),(2,gJ)]),gm iM] 3 13) (sq (r1 [gm s3,gf 1 s2,gd l1,gn (.slA 1 l0 none (some l2)),gm l3] 1 4) .ret)))⟩
def w677 {Y:Ctx}(hm:(Y.at 0).bz)(c:cZ)(h734:Pv Y)(hp0:iW c.v=true/\0<=c.parts/\c.parts<=3):bX (Y.at 0) vt.body (lu vt (One (.own 14 1 0 c.parts.toNat) [(0,.buf 7 [cZ.D c]),(14,.buf 1 [.str (dQ c.v.major.toNat),.str (dQ c.v.minor.toNat),.str (dQ c.v.patch.toNat)])]):Ex->List ca->St->Prop) (fI vt [cZ.D c]) ⟨0,[]⟩:=by
 show bX _ _ _ [⟨_,_⟩,_,_,_] _;refine au ?_;refine br ?_;refine ar (hc:=h734 c.v.major (qX hp0.1 0)) ?_;refine aB ?_;refine ar (hc:=h734 c.v.minor (qX hp0.1 1)) ?_;refine aB ?_;refine ar (hc:=h734 c.v.patch (qX hp0.1 2)) ?_;refine c7 [.str _,.str _,.str _] ?_;refine aK ?_;refine ue c.parts.toNat (hj:=fun _=>ae) (hb:=fun _=>ae) ?_;refine aB ?_;refine bZ trivial ek (bW ah (?_)) ah (oneq _ _);rfl
def Pt (Y:Ctx):Prop:=∀(c:cZ),(iW c.v=true/\0<=c.parts/\c.parts<=3)->∀(nx:Nat)(m:List (Nat×bV))(K:D->St->Prop),K (.own nx 1 0 c.parts.toNat) ⟨nx+1,(nx,.buf 1 [.str (dQ c.v.major.toNat),.str (dQ c.v.minor.toNat),.str (dQ c.v.patch.toNat)])::m⟩->Y.tr 677 [cZ.D c] ⟨nx,m⟩ K
def Fy:aJ:=⟨1,8,jh,ct,(sq (rg [gb 7 s0,gm cse] [(2,0),(1,1)]) (sq (sq (r1 [gk 7 true s2,gx 676 [l0] Mc,ke l1] 3 2) (nH s3 cse)) (sq (r1 [gk 7 true s2,gn (.callM 677 [l0]),gm l1] 5 2) (sq (sq (r1 [gf 0 s2,gd l0,aO l1 CT] 4 2) (.cond s4 (sq (r1 [gm s5,gf 1 s2,gd l1,gf 1 s2,gd l3,gn (.slX 1 l0 l2 l4),gn (.bsl 1 (.str []) 1 [(0,(cs [42]))]),gn (.app 1 l5 l6),gx 249 [l7,(i8 46)] [[.sl 1 [.a]],[.a]],gm l8] 1 9) .ret) .skip)) (sq (r1 [gf 0 s2,gd l0,gx 678 [l1] ct,gm s5,gx 249 [l3,(i8 46)] [[.sl 1 [.a]],[.a]],ay l2 l4,gm l5] 7 6) (sq (sq (r1 [gf 2 s2,gf 3 l0,gd l1,cv l2 cse] 6 3) (.cond s6 (r1 [gm s7,ay l0 (cs [45]),gf 2 s2,gf 3 l2,gd l3,ay l1 l4,gm l5] 7 6) .skip)) (sq (r1 [gm s7,gm l0] 1 1) .ret)))))))⟩
def w482 {Y:Ctx}(hm:(Y.at 0).bz)(h249:Jp Y)(h676:Ps Y)(h677:Pt Y)(h678:Pu Y)(c:cZ)  (hp0:c.v.sm):dV Y Fy (.str (dN c)) [cZ.D c]:=by
 show bX _ _ _ [⟨_,_⟩,_,_,_,_,_,_,_] _;refine au ?_;refine aK ?_;refine ar (hc:=h676 _ ?_) ?_;rotate_left;first|assumption|omega
 refine aA ?_;refine aw (fun hc0=>?_) (fun hc0=>?_)
 ·simp only[bn]at hc0;refine aT ?_;refine cV ?_;simp[dN,hc0]
 simp only[bP]at hc0;obtain⟨hv,hp1,hp2,hp3,hp4⟩:=oV hc0;have hsl:=vw c.op;have hnl:=rZ hv c.parts.toNat;have htl:=DX hp2;have hj1:=AR hp2;have hj2:=vB hp1 hp2;have hl2:=ak List.length hj2;have hl1:=ak List.length hj1;simp only[bE,List.length_singleton]at hl2;have hi2:(if 0<c.parts then([46]:aq)else []).length<=1:=by split<;>simp
 refine aB ?_;refine cI (nx':=6) (v:=.own 6 1 0 c.parts.toNat) (m':=[(6,.buf 1 [.str (dQ c.v.major.toNat),.str (dQ c.v.minor.toNat),.str (dQ c.v.patch.toNat)]),(0,.buf 7 [cZ.D c])]) (hc:=fun K' hK=>h677 c ⟨hv,hp1,hp2⟩ _ _ K' hK) (hn:=aF) ?_;refine bY ?_;refine cT (fun hc1=>?_) fun hc1=>?_
 ·refine br ?_;refine QW c.parts.toNat (hj:=fun _=>ae) (hb:=fun _=>ae) ?_;refine c7 [.str _] ?_;refine vW ((mJ c++[[42]]).map D.str) (n:=(mJ c++[[42]]).length) (ha:=cX) (he:=sJ.own rfl aN) (hz:=by rw[bR,yS,List.map_append];rfl) (hn:=cX) (hb:=cX) ?_;refine ar (hc:=h249 (mJ c++[[42]]) 46 (by rw[hj2];simp only[bE,List.length_singleton];omega)) (ha:=fun _=>ak (fun d=>[d,D.int .u8 46]) (uo (q:=D.str) (fun _=>rfl) ah)) (hp:=fun _=>⟨rJ (q:=D.str) (fun _=>rfl) ah,rfl,trivial⟩) ?_;refine aB ?_;refine cV ?_;rw[dN,av hc0,hj2];simp[mz,lF,hc1,dm]
 refine aG ?_;refine ar (hc:=h678 _) ?_;refine aE ?_;refine ar (hc:=h249 (mJ c) 46 (by rw[hj1];omega)) (ha:=fun _=>ak (fun d=>[d,D.int .u8 46]) (N1 ah)) (hp:=fun _=>⟨LU hp2 ah,rfl,trivial⟩) ?_;refine cY (hb:=fun _=>ae) ?_;refine dE ?_;refine cT (fun hc2=>?_) fun hc2=>?_
 ·refine aE ?_;have hpl:=hp0.1;refine aE ?_;refine gG ?_;refine aB ?_;refine gG ?_;refine br ?_;refine cV ?_;rw[dN,av hc0,hj1];simp[mz,lF,hc1,hc2]
 refine aK ?_;refine cV ?_;rw[dN,av hc0,hj1];simp[mz,lF,hc1,hc2]
def Mp (Y:Ctx):Prop:=∀(c:cZ),(c.v.sm)->Y.pre 482 [cZ.D c]/\Y.val 482 [cZ.D c]=.str (dN c)
def LA:aJ:=⟨1,6,[⟨1,none⟩,⟨2,none⟩],iB,(sq (rg [gm cse,gm cse] [(1,0),(2,1)]) (sq (sq (r1 [gm bL] 3 0) (.block 0 (.loop (sq (sq (r1 [gm s3,gm s0,oQ l1,a8 l0 l2] 4 3) (fY s4 0)) (sq (.block 1 (sq (r1 [gm s0,gm s3,Gi l0 l1,aO l2 (i8 45)] 5 3) (.cond s5 (sq (rt [gm s0,gm s3,gn (.slS l0 none (some l1)),gm s0,gm s3,ay l4 ch,gn (.slS l3 (some l5) none),gm l2,gm l6] [(1,7),(2,8)]) .ret) .skip))) (r1 [gm s3,ay l0 ch,gm l1] 3 2)))))) (sq (rg [gm s0,gm l0,gm cse] [(1,1),(2,2)]) .ret)))⟩
def UO {Y:Ctx}(hm:(Y.at 0).bz)  (s:aq)   :dV Y LA (.tup [.str (hZ s 0).1,.str (hZ s 0).2]) [.str s]:=by
 show bX _ _ _ [⟨_,_⟩,_,_,_,_,_] _;refine au ?_;refine br ?_;refine bw hm (ι:=Nat) (fun i=>[⟨true,.str s⟩,.un,.un,⟨true,.int .i64 (i:Nat)⟩,.un,.un]) (fun i=>[]) 3 (fun i=>i<=s.length/\hZ s 0=hZ s i) (fun i=>s.length-i) 0 ⟨ae,rfl⟩ (dS []) ?_;rintro i ⟨hi,hr⟩;refine aT ?_;intro u0;refine aA ?_;refine cT (fun hc0=>?_) fun hc0=>?_
 ·refine bY ?_;refine gN (fun hc1=>?_) fun hc1=>?_
  ·refine aB ?_;refine kQ _ ?_;refine aB ?_;refine fe (i+1) ?_;refine aK ?_;refine b8 (aU (ak D.str ?_) (ak D.str ?_));all_goals rw[hr,GS ae hc1]
  refine bY ?_;exact⟨i+1,⟨ae,by rw[hr,GU ae hc1]⟩,ae,(dS [])⟩
 refine bY ?_;refine b8 (aU (ak D.str ?_) (ak D.str ?_));all_goals rw[hr,Dj ae]
def N8 (Y:Ctx):Prop:=∀(s:aq),Y.pre 1007 [.str s]/\Y.val 1007 [.str s]=.tup [.str (hZ s 0).1,.str (hZ s 0).2]
def Fz:aJ:=⟨1,9,[⟨1,none⟩,⟨2,none⟩],iB,(sq (rg [gm bL,gm cse] [(1,0),(2,1)]) (sq (r1 [gn (.bsl 1 (.int .i64 0) 8 [(0,jE),(1,sj),(2,uv),(3,ch),(4,jL),(5,zx),(6,HX),(7,EI)]),gm l0] 4 1) (sq (sq (r1 [gm bL] 3 0) (.block 0 (.loop (sq (sq (r1 [gm s3,gm s4,gl l1,a8 l0 l2] 5 3) (fY s5 0)) (sq (.block 1 (sq (r1 [gm s4,gm s3,ga 1 l0 l1,gd l2,gx 678 [l3] ct,gm l4] 6 5) (sq (r1 [gm s0,gm s6,gx 1079 [l0,l1] iB] 7 2) (.cond s7 (sq (rt [gm s4,gm s3,ga 1 l0 l1,gd l2,gm s0,gm s6,oQ l5,gn (.slS l4 (some l6) none),gm l3,gm l7] [(1,8),(2,9)]) .ret) .skip)))) (r1 [gm s3,ay l0 ch,gm l1] 3 2)))))) (sq (sq (r1 [gm s0,oQ l0,dn l1 bL,gm l2,gmt 3 s0,gmt 3 s0,cu 3 (.lenS l5),cu 3 (kq l6 ch),cu 3 (.ixS l4 l7),cu 3 (cP l8 (i8 42)),fg l3 l9] 8 10) (.cond s8 (sq (rg [gm s0,gm CT,gm l0] [(1,1),(2,2)]) .ret) .skip)) (sq (rg [gm s0,gm HX,gm l0] [(1,1),(2,2)]) .ret)))))⟩
def UN {Y:Ctx}(hm:(Y.at 0).bz)(h678:Pu Y)(h1079:Oc Y)(s:aq)   :dV Y Fz (.tup [.int .i64 (gv s).1,.str (gv s).2]) [.str s]:=by
 show bX _ _ _ [⟨_,_⟩,_,_,_,_,_,_,_,_] _;refine au ?_;refine aG ?_;refine c7 [(.int _ _),(.int _ _),(.int _ _),(.int _ _),(.int _ _),(.int _ _),(.int _ _),(.int _ _)] ?_;refine aK ?_;refine eR 2 ?_;refine bw hm (ι:=Nat) (fun i=>[⟨true,.str s⟩,.un,.un,⟨true,.int .i64 (i:Nat)⟩,⟨true,.sl 1 (opsL.map (D.int .i64))⟩,.un,.un,.un,.un]) (fun i=>[]) 5 (fun i=>i<=8/\pY s 0=pY s i) (fun i=>8-i) 0 ⟨ae,rfl⟩ (dS []) ?_;rintro i ⟨hi,hr⟩;have hn8:opsL.length=8:=rfl;refine aT ?_;intro u0;refine aA ?_;refine cT (fun hc0=>?_) fun hc0=>?_
 ·refine br ?_;refine ar (hc:=h678 _) ?_;refine aT ?_;refine ar (hc:=h1079 _ _) ?_;refine aE ?_;refine wp_cond (fun hc1=>?_) (fun hc1=>?_)
  ·have hbl:(dm opsL[i]!).length<=s.length:=by simp only[qh,bh,aS]at hc1;exact hc1.1
   refine br ?_;refine js ?_;refine fe (dm opsL[i]!).length (hb:=fun _=>hbl) ?_;refine aK ?_;refine b8 (aU (ak (D.int .i64) ?_) (ak D.str ?_));all_goals simp only[gv,hr,GP (show i<8 by omega) hc1]
  skip
  refine bY ?_;exact⟨i+1,⟨ae,by rw[hr,GQ ae hc1]⟩,ae,(dS [])⟩
 refine aK ?_;intro u1;refine aG ?_;refine js ?_;refine aE ?_;refine px (s.length-1) ?_;refine aB ?_;refine cT (fun hc2=>?_) fun hc2=>?_
 ·refine br ?_;refine b8 (aU (ak (D.int .i64) ?_) (ak D.str ?_));all_goals (have ho:pY s 0=none:=(by rw[hr,yj ae]);simp only[gv,ho,av (show 0<s.length/\at8 s (s.length-1)=42 from⟨ae,hc2.2⟩)])
 refine br ?_;refine b8 (aU (ak (D.int .i64) ?_) (ak D.str ?_));all_goals (have ho:pY s 0=none:=(by rw[hr,yj ae]);have hn:¬(0<s.length/\at8 s (s.length-1)=42):=(by rintro⟨h1,h2⟩;rcases hc2 with h|h;exact h ae;exact h h2);simp only[gv,ho,aj hn])
def N7 (Y:Ctx):Prop:=∀(s:aq),Y.pre 1006 [.str s]/\Y.val 1006 [.str s]=.tup [.int .i64 (gv s).1,.str (gv s).2]
def BU:aJ:=⟨1,10,[⟨1,some (5,true)⟩,⟨2,none⟩],[[.a,.a,.a,.a,.a],[.a]],(sq (rg [gb 5 (.c (.agg [.int .i64 0,.int .i64 0,.int .i64 0,.str [],.str []])),gm dj] [(1,0),(2,1)]) (sq (r1 [gb 3 (.c (.agg [.int .i64 0,.int .i64 0,.int .i64 0]))] 9 0) (sq (sq (r1 [gm s0,gl l0,dn l1 jL] 3 2) (.cond s3 (sq (r1 [gn (.build [.int .i64 0,.int .i64 0,.int .i64 0,.str [],.str []] []),gt 5 s1 l0,gm dj] 2 2) .ret) .skip)) (sq (sq (r1 [gm bL] 4 0) (.block 0 (.loop (sq (sq (r1 [gm s4,gm s0,gl l1,a8 l0 l2] 5 3) (fY s5 0)) (sq (.block 1 (sq (rg [gm s0,gm s4,ga 1 l0 l1,gd l2,gx 667 [l3] ct,gm l4,ge l5 0,ge l5 1,gm l6,gm l7] [(8,8),(6,9)]) (sq (sq (r1 [gm s6,ke l0] 7 1) (.cond s7 (sq (r1 [gn (.build [.int .i64 0,.int .i64 0,.int .i64 0,.str [],.str []] []),gt 5 s1 l0,gm dj] 2 2) .ret) .skip)) (rg [gm s4,gm s8,gn (.iaP 3 1 s9 l0),gt 1 l2 l1] [])))) (r1 [gm s4,ay l0 ch,gm l1] 4 2)))))) (sq (r1 [gn (.iaP 3 1 s9 bL),gd l0,gn (.iaP 3 1 s9 ch),gd l2,gn (.iaP 3 1 s9 jE),gd l4,gn (.build [.int .i64 0,.int .i64 0,.int .i64 0,.str [],.str []] [(0,1,l1),(1,1,l3),(2,1,l5)]),gt 5 s1 l6,gm ou] 2 8) .ret)))))⟩
def UP {Y:Ctx}(hm:(Y.at 0).bz)(h667:Mr Y)(l:List aq)   :dV Y BU (.tup [cM.D (wA l),.bool (e8 l)]) [.sl 1 (l.map D.str)]:=by
 show bX _ _ _ [⟨_,_⟩,_,_,_,_,_,_,_,_,_] _;refine au ?_;refine iG ?_;intro u0;refine aA ?_;refine cT (fun hc0=>?_) fun hc0=>?_
 ·refine aA ?_;refine bo (cM.D fH) ?_;refine aG ?_;refine b8 (aU ?_ (ak D.bool ?_));all_goals (have hq:e8 l=false:=(by simp only[e8];rw[cJ ae];rfl);first|(rw[hq];done)|(simp only[wA,hq,ey,aI,aH];rfl))
 refine aT ?_;have hb:e8 l=cO (fun i=>fo l[i]!) 0 l.length:=by simp only[e8];rw[bS ae];rfl
 refine bw hm (ι:=Nat) (fun i=>[⟨true,.sl 1 (l.map D.str)⟩,⟨true,.ptr 0 5 0 0⟩,.un,.un,⟨true,.int .i64 (i:Nat)⟩,.un,.un,.un,.un,⟨true,.ptr 2 3 0 0⟩]) (fun i=>[(0,.buf 5 [cM.D fH]),(2,.buf 3 [Ij l i])]) 7 (fun i=>i<=l.length/\e8 l=cO (fun i=>fo l[i]!) i l.length) (fun i=>l.length-i) 0 ⟨ae,hb⟩ (dS [(0,0),(2,2)]) ?_;rintro i ⟨hi,hr⟩;refine aT ?_;intro u1;refine aA ?_;refine cT (fun hc1=>?_) fun hc1=>?_
 ·refine br ?_;refine ar (hc:=h667 _) ?_;refine hE ?_;refine aw (fun hc2=>?_) (fun hc2=>?_)
  ·simp only[bn]at hc2;refine aA ?_;refine bo (cM.D fH) ?_;refine aK ?_;refine b8 (aU ?_ (ak D.bool ?_));all_goals (have hq:e8 l=false:=(by rw[hr,aX ae,hc2];rfl);first|(rw[hq];done)|(simp only[wA,hq,ey,aI,aH];rfl))
  simp only[bP]at hc2;refine aG ?_;refine ri i ?_;refine aR (Ij l (i+1)) (he:=C7 l i ae) ?_;refine bY ?_;exact⟨i+1,⟨ae,by rw[hr,aX ae,hc2];rfl⟩,ae,(dS [(0,0),(2,2)])⟩
 refine aB ?_;obtain rfl:i=l.length:=ae;have hok:e8 l=true:=by rw[hr,cj ae]
 refine ri 0 ?_;refine bA (v:=.int .i64 (if 0<l.length then dU l[0]! else 0)) ?_;refine ri 1 ?_;refine bA (v:=.int .i64 (if 1<l.length then dU l[1]! else 0)) ?_;refine ri 2 ?_;refine bA (v:=.int .i64 (if 2<l.length then dU l[2]! else 0)) ?_;refine bo (cM.D (KJ l)) ?_;refine aG ?_;refine b8 (aU ?_ (ak D.bool ?_));all_goals (have hq:=hok;first|(rw[hq];done)|(simp only[wA,hq,ey,aI,aH];rfl))
def N9 (Y:Ctx):Prop:=∀(l:List aq),Y.pre 1008 [.sl 1 (l.map D.str)]/\Y.val 1008 [.sl 1 (l.map D.str)]=.tup [cM.D (wA l),.bool (e8 l)]
def Fx:aJ:=⟨1,15,[⟨1,some (7,true)⟩,⟨2,none⟩],[[.a,.a,.a,.a,.a,.a,.a],[.a]],(sq (rg [gb 7 (.c (.agg [.int .i64 0,.int .i64 0,.int .i64 0,.int .i64 0,.int .i64 0,.str [],.str []])),gm bL] [(1,0),(2,1)]) (sq (rg [gm s0,gx 1006 [l0] ct,gm l1,ge l2 0,ge l2 1,gm l3,gm l4] [(5,5),(3,6)]) (sq (rg [gm s3,gx 1007 [l0] ct,gm l1,ge l2 0,ge l2 1,gm l3,gm l4] [(4,5),(10,6)]) (sq (r1 [gm s4,gx 470 [l0,(i8 46)] iB,gm l1] 7 2) (sq (sq (r1 [gm s5,aO l0 CT] 6 1) (.cond s6 (r1 [gm s7,gm s7,gl l1,eH l2 ch,gn (.slA 1 l0 none (some l3)),gm l4] 7 5) .skip)) (sq (rg [gm s7,gx 1008 [l0] [[.sl 1 [.a]]],gm l1,ge l2 0,ge l2 1,gb 5 (.c (.agg [.int .i64 0,.int .i64 0,.int .i64 0,.str [],.str []])),gt 5 l5 l3,gm l4] [(11,5),(8,7)]) (sq (sq (r1 [gm s8,ke l0] 9 1) (.cond s9 (sq (r1 [gn (.build [.int .i64 0,.int .i64 0,.int .i64 0,.int .i64 0,.int .i64 0,.str [],.str []] []),gt 7 s1 l0,gm uv] 2 2) .ret) .skip)) (sq (rg [gm kZ,gf 3 nQ,gt 1 l1 l0] []) (sq (r1 [gm s5,gm s7,gl l1,gk 5 true nQ,gn (.build [.int .i64 0,.int .i64 0,.int .i64 0,.int .i64 0,.int .i64 0,.str [],.str []] [(0,1,l0),(1,1,l2),(2,5,l3)]),gb 7 (.c (.agg [.int .i64 0,.int .i64 0,.int .i64 0,.int .i64 0,.int .i64 0,.str [],.str []])),gt 7 l5 l4] 12 5) (sq (sq (r1 [gk 7 true mQ,gx 482 [l0] Mc,gm l1] 13 2) (sq (r1 [gm rv,aO l0 cse,gm l1,eU 2 rv,eU 2 s0,cE 2 (eM l3 l4),eU 2 l5,gmt 6 rv,gmt 6 s0,cu 6 (zQ (cs [94]) l8),cu 6 (eM l7 l9),Bo 2 l6 l10,fF l2 gJ] 14 12) (.cond r8 (sq (r1 [gn (.build [.int .i64 0,.int .i64 0,.int .i64 0,.int .i64 0,.int .i64 0,.str [],.str []] []),gt 7 s1 l0,gm uv] 2 2) .ret) .skip))) (sq (r1 [gk 7 true mQ,gt 7 s1 l0,gm bL] 2 2) .ret)))))))))))⟩
def w897 {Y:Ctx}(hm:(Y.at 0).bz)(h470:xe Y)(h482:Mp Y)(h1006:N7 Y)(h1007:N8 Y)(h1008:N9 Y)(s:aq)  (hp0:s.length<=1048576):dV Y Fx (.tup [cZ.D ((ef s).getD dZ),.int .i64 (if(ef s).isSome=true then 0 else 6)]) [.str s]:=by
 show bX _ _ _ [⟨_,_⟩,_,_,_,_,_,_,_,_,_,_,_,_,_,_] _;have hsl:=yM s;generalize hO:gv s=O at hsl;have hpl:=yq O.2;generalize hA:hZ O.2 0=A at hpl;have hln:=de A.1 46;have hlp:1<=(ai A.1 46).length:=fq _ _ _;generalize hL:ai A.1 46=L at hln hlp;have hq0:ef s=if vU s O.1 (AB O.1 L) A.2=true then some (gA O.1 (AB O.1 L) A.2)else none:=by subst hO;subst hA;subst hL;rfl
 refine au ?_;refine aT ?_;refine ar (hc:=h1006 s) ?_;rw[hO];refine bY ?_;refine ar (hc:=h1007 O.2) ?_;rw[hA];refine bY ?_;refine ar (hc:=h470 A.1 46 ae) ?_;rw[hL];refine br ?_;refine aw (fun hc0=>?_) (fun hc0=>?_)
 ·simp only[aS]at hc0;have hq1:ef s=if vU s O.1 (L.take (L.length-1)) A.2=true then some (gA O.1 (L.take (L.length-1)) A.2)else none:=by rw[hq0];simp only[AB,av hc0]
  refine aG ?_;intro u0;refine aE ?_;refine py (L.length-1) (hj:=fun _=>ae) (hb:=fun _=>ae) ?_;refine aG ?_;refine ar (hc:=h1008 (L.take (L.length-1))) ?_;refine aE ?_;refine fB (cM.D _) ?_;refine aA ?_;refine aR (cM.D (wA (L.take (L.length-1)))) (he:=aZ) ?_;refine br ?_;refine aw (fun hc1=>?_) (fun hc1=>?_)
  ·simp only[bn]at hc1;refine aA ?_;refine bo (cZ.D dZ) ?_;refine aG ?_;refine b8 (aU ?_ (ak (D.int .i64) ?_));all_goals (have hk:vU s O.1 (L.take (L.length-1)) A.2=false:=(by simp only[vU,hc1];rfl);rw[hq1,hk];rfl)
  simp only[bP]at hc1;have hnr:wA (L.take (L.length-1))=KJ (L.take (L.length-1)):=by simp only[wA,hc1,aH]
  rw[hnr];have hsm:(gA O.1 (L.take (L.length-1)) A.2).v.sm:=⟨by show A.2.length<=_;omega,by show([]:aq).length<=_;simp⟩;refine aG ?_;refine aR (cM.D (gA O.1 (L.take (L.length-1)) A.2).v) (he:=aZ) ?_;refine aT ?_;intro u1;refine c8 (d:=cM.D (gA O.1 (L.take (L.length-1)) A.2).v) ?_;refine bo (cZ.D (gA O.1 (L.take (L.length-1)) A.2)) ?_;refine aE ?_;refine aR (cZ.D (gA O.1 (L.take (L.length-1)) A.2)) (he:=aZ) ?_;refine aB ?_;refine c8 (d:=cZ.D (gA O.1 (L.take (L.length-1)) A.2)) ?_;refine ar (hc:=h482 (gA O.1 (L.take (L.length-1)) A.2) hsm) ?_;refine mO ?_;refine cY (hb:=fun _=>cX) ?_;refine aG ?_;refine aw (fun hc2=>?_) (fun hc2=>?_)
  ·have hk:vU s O.1 (L.take (L.length-1)) A.2=false:=by simp only[vU,hc1,fA];exact ak (!·) hc2
   refine aA ?_;refine bo (cZ.D dZ) ?_;refine aG ?_;refine b8 (aU ?_ (ak (D.int .i64) ?_));all_goals (rw[hq1,hk];rfl)
  have hk:vU s O.1 (L.take (L.length-1)) A.2=true:=by simp only[vU,hc1,fA];exact ak (!·) hc2
  refine aA ?_;refine c8 (d:=cZ.D (gA O.1 (L.take (L.length-1)) A.2)) ?_;refine aG ?_;refine b8 (aU ?_ (ak (D.int .i64) ?_));all_goals (rw[hq1,hk];rfl)
 simp only[bj]at hc0;have hq1:ef s=if vU s O.1 L A.2=true then some (gA O.1 L A.2)else none:=by rw[hq0];simp only[AB,aj hc0]
 refine aB ?_;refine ar (hc:=h1008 L) ?_;refine aE ?_;refine fB (cM.D _) ?_;refine aA ?_;refine aR (cM.D (wA L)) (he:=aZ) ?_;refine br ?_;refine aw (fun hc1=>?_) (fun hc1=>?_)
 ·simp only[bn]at hc1;refine aA ?_;refine bo (cZ.D dZ) ?_;refine aG ?_;refine b8 (aU ?_ (ak (D.int .i64) ?_));all_goals (have hk:vU s O.1 L A.2=false:=(by simp only[vU,hc1];rfl);rw[hq1,hk];rfl)
 simp only[bP]at hc1;have hnr:wA L=KJ L:=by simp only[wA,hc1,aH]
 rw[hnr];have hsm:(gA O.1 L A.2).v.sm:=⟨by show A.2.length<=_;omega,by show([]:aq).length<=_;simp⟩;refine aG ?_;refine aR (cM.D (gA O.1 L A.2).v) (he:=aZ) ?_;refine aT ?_;intro u1;refine c8 (d:=cM.D (gA O.1 L A.2).v) ?_;refine bo (cZ.D (gA O.1 L A.2)) ?_;refine aE ?_;refine aR (cZ.D (gA O.1 L A.2)) (he:=aZ) ?_;refine aB ?_;refine c8 (d:=cZ.D (gA O.1 L A.2)) ?_;refine ar (hc:=h482 (gA O.1 L A.2) hsm) ?_;refine mO ?_;refine cY (hb:=fun _=>cX) ?_;refine aG ?_;refine aw (fun hc2=>?_) (fun hc2=>?_)
 ·have hk:vU s O.1 L A.2=false:=by simp only[vU,hc1,fA];exact ak (!·) hc2
  refine aA ?_;refine bo (cZ.D dZ) ?_;refine aG ?_;refine b8 (aU ?_ (ak (D.int .i64) ?_));all_goals (rw[hq1,hk];rfl)
 have hk:vU s O.1 L A.2=true:=by simp only[vU,hc1,fA];exact ak (!·) hc2
 refine aA ?_;refine c8 (d:=cZ.D (gA O.1 L A.2)) ?_;refine aG ?_;refine b8 (aU ?_ (ak (D.int .i64) ?_));all_goals (rw[hq1,hk];rfl)
def SO (Y:Ctx):Prop:=∀(s:aq),(s.length<=1048576)->Y.pre 897 [.str s]/\Y.val 897 [.str s]=.tup [cZ.D ((ef s).getD dZ),.int .i64 (if(ef s).isSome=true then 0 else 6)]
def Hw:aJ:=⟨1,33,[⟨1,some (7,true)⟩,⟨2,none⟩],[[.a,.a,.a,.a,.a,.a,.a],[.a]],(sq (rg [gb 7 (.c (.agg [.int .i64 0,.int .i64 0,.int .i64 0,.int .i64 0,.int .i64 0,.str [],.str []])),gm dj] [(1,0),(2,1)]) (sq (r1 [gn (.build [.int .i64 0,.int .i64 0,.int .i64 0,.int .i64 0,.int .i64 0,.str [],.str []] [(0,1,CT)]),gb 7 (.c (.agg [.int .i64 0,.int .i64 0,.int .i64 0,.int .i64 0,.int .i64 0,.str [],.str []])),gt 7 l1 l0] 9 1) (sq (r1 [gm s0,gm l0] 10 1) (sq (sq (rg [gn (.bsl 1 (.int .i64 0) 8 [(0,jE),(1,sj),(2,uv),(3,ch),(4,jL),(5,zx),(6,HX),(7,EI)]),gl l0,gm bL] [(6,0),(4,1),(3,2)]) (.block 0 (.loop (sq (r1 [a8 s3 s4] 5 0) (sq (fY s5 0) (sq (.block 1 (sq (r1 [ga 1 s6 s3,gd l0,gm l1] 7 2) (sq (r1 [gm s0,gm s7,gx 957 [l1] ct,gx 956 [l0,l2] iB] 8 3) (.cond s8 (sq (rg [gm s7,gf 0 s9,gt 1 l1 l0] []) (sq (r1 [gm s0,gm s7,gx 957 [l1] ct,oQ l2,gn (.slS l0 (some l3) none),gm l4] 10 5) (.exit 0))) .skip)))) (r1 [ay s3 ch,gm l0] 3 1))))))) (sq (sq (rg [gm kZ,oQ l0,gm bL] [(12,1),(11,2)]) (.block 2 (.loop (sq (r1 [a8 nQ mQ] 13 0) (sq (fY rv 2) (sq (.block 3 (sq (r1 [gm nQ,gm l0] 14 1) (sq (r1 [gm kZ,gm r8,Gi l0 l1,aO l2 (i8 45)] 15 3) (.cond wD (sq (rg [gm kZ,gm r8,ay l1 ch,gn (.slS l0 (some l2) none),gf 2 s9,gf 3 l4,gt 1 l5 l3] []) (sq (r1 [gm kZ,gm r8,gn (.slS l0 none (some l1)),gm l2] 10 3) (.exit 2))) .skip)))) (r1 [ay nQ ch,gm l0] 11 1))))))) (sq (r1 [gm kZ,gx 533 [l0,(i8 46)] iB,gm l1] 17 2) (sq (sq (r1 [gf 0 s9,gd l0,aO l1 CT] 16 2) (.cond DN (sq (sq (r1 [gm BY,gm BY,gl l1,eH l2 ch,ga 1 l0 l3,gd l4,cv l5 (cs [42])] 18 6) (.cond IL (sq (r1 [gn (.build [.int .i64 0,.int .i64 0,.int .i64 0,.int .i64 0,.int .i64 0,.str [],.str []] []),gt 7 s1 l0,gm dj] 2 2) .ret) .skip)) (r1 [gm BY,gm BY,gl l1,eH l2 ch,gn (.slA 1 l0 none (some l3)),gm l4] 17 5)) .skip)) (sq (sq (r1 [gm BY,gl l0,dn l1 jL] 19 2) (.cond QZ (sq (r1 [gn (.build [.int .i64 0,.int .i64 0,.int .i64 0,.int .i64 0,.int .i64 0,.str [],.str []] []),gt 7 s1 l0,gm dj] 2 2) .ret) .skip)) (sq (rg [gm BY,gl l0,gf 1 s9,gt 1 l2 l1] []) (sq (sq (rg [gm BY,gl l0,gm bL] [(23,0),(21,1),(20,2)]) (.block 4 (.loop (sq (r1 [a8 Me s21] 22 0) (sq (fY s22 4) (sq (.block 5 (sq (rg [gm Me,ga 1 s23 Me,gd l1,gm l0,gm l2] [(27,3),(24,4)]) (sq (rg [gm Rl,gx 658 [l0] ct,gm l1,ge l2 0,ge l2 1,gm l3,gm l4] [(30,5),(25,6)]) (sq (sq (r1 [gm Rm,ke l0] 26 1) (.cond UF (sq (r1 [gn (.build [.int .i64 0,.int .i64 0,.int .i64 0,.int .i64 0,.int .i64 0,.str [],.str []] []),gt 7 s1 l0,gm dj] 2 2) .ret) .skip)) (sq (r1 [gm s27] 28 0) (.block 6 (sq (r1 [aO s28 bL,gm l0] 29 1) (.cond s29 (rg [gm OO,gf 2 s9,gf 0 l1,gt 1 l2 l0] []) (sq (r1 [aO s28 ch,gm l0] 31 1) (.cond s31 (rg [gm OO,gf 2 s9,gf 1 l1,gt 1 l2 l0] []) (rg [gm OO,gf 2 s9,gf 2 l1,gt 1 l2 l0] []))))))))))) (r1 [ay Me ch,gm l0] 20 1))))))) (sq (sq (r1 [gk 7 true s9,gx 827 [l0] Mc,ke l1,gm l2,cE 3 (.ld 7 true s9),cE 3 (.call 828 [l4] Mc),eU 3 s0,cE 3 (eM l5 l6),fF l3 l7] 32 8) (.cond s32 (sq (r1 [gn (.build [.int .i64 0,.int .i64 0,.int .i64 0,.int .i64 0,.int .i64 0,.str [],.str []] []),gt 7 s1 l0,gm dj] 2 2) .ret) .skip)) (sq (r1 [gk 7 true s9,gt 7 s1 l0,gm ou] 2 2) .ret))))))))))))⟩
def w819 {Y:Ctx}(hm:(Y.at 0).bz)(h533:Jq Y)(h658:Mq Y)(h827:Mt Y)(h828:Px Y)(h956:SS Y)(h957:PF Y)(s:aq)  (hp0:s.length<=1048576):dV Y Hw (.tup [cZ.D ((gM s).getD dZ),.bool (gM s).isSome]) [.str s]:=by
 show bX _ _ _ (⟨true,.str s⟩::.un::.un::.un::.un::.un::.un::.un::.un::.un::.un::.un::.un::.un::.un::.un::.un::.un::.un::.un::.un::.un::.un::.un::.un::.un::.un::.un::.un::.un::.un::.un::.un::[]) ⟨0,[]⟩;have hol:=Iv s;refine au ?_;refine aG ?_;refine bo (cZ.D ⟨9,0,fH⟩) ?_;refine aE ?_;refine aR (cZ.D ⟨9,0,fH⟩) (he:=aZ) ?_;refine br ?_;refine c7 [(.int _ _),(.int _ _),(.int _ _),(.int _ _),(.int _ _),(.int _ _),(.int _ _),(.int _ _)] ?_;refine aE ?_;intro u0;refine aA ?_;refine rI hm (ι:=Unit) (fun _=>(⟨true,.str s⟩::⟨true,.ptr 0 7 0 0⟩::.un::.un::.un::.un::.un::.un::.un::⟨true,.ptr 3 7 0 0⟩::⟨true,.str (dD s).2⟩::.un::.un::.un::.un::.un::.un::.un::.un::.un::.un::.un::.un::.un::.un::.un::.un::.un::.un::.un::.un::.un::.un::[])) (fun _=>[(0,.buf 7 [cZ.D dZ]),(3,.buf 7 [cZ.D ⟨(dD s).1,0,fH⟩])]) 40 (fun _=>True) ?_ ?_
 ·refine eR 7 ?_;refine p8 hm (ι:=Nat) (fun i=>(⟨true,.str s⟩::⟨true,.ptr 0 7 0 0⟩::.un::⟨true,.int .i64 (i:Nat)⟩::⟨true,.int .i64 8⟩::.un::⟨true,.sl 1 (opsL.map (D.int .i64))⟩::.un::.un::⟨true,.ptr 3 7 0 0⟩::⟨true,.str s⟩::.un::.un::.un::.un::.un::.un::.un::.un::.un::.un::.un::.un::.un::.un::.un::.un::.un::.un::.un::.un::.un::.un::[])) (fun i=>[(0,.buf 7 [cZ.D dZ]),(3,.buf 7 [cZ.D ⟨9,0,fH⟩])]) 10 (fun i=>i<=8/\pY s 0=pY s i) (fun i=>8-i) 0 ⟨ae,rfl⟩ (dS [(0,0),(3,3)]) ?_;rintro i ⟨hi,hr⟩;have hn8:opsL.length=8:=rfl;refine aB ?_;refine cT (fun hc0=>?_) fun hc0=>?_
  ·refine iG ?_;refine ar (hc:=h957 opsL[i]!) ?_;refine ar (hc:=h956 s (dm opsL[i]!)) ?_;refine aE ?_;refine wp_cond (fun hc1=>?_) (fun hc1=>?_)
   ·have hbl:(dm opsL[i]!).length<=s.length:=by simp only[qh,bh,aS]at hc1;exact hc1.1
    have hro:dD s=(opsL[i]!,s.drop (dm opsL[i]!).length):=by simp only[dD,hr,GP (show i<8 by omega) hc1]
    refine aB ?_;refine aR (cZ.D ⟨opsL[i]!,0,fH⟩) (he:=aZ) ?_;refine aG ?_;refine ar (hc:=h957 opsL[i]!) ?_;refine aE ?_;intro u1;refine fe (dm opsL[i]!).length (hb:=fun _=>hbl) ?_;refine aK ?_;simp only[hro];exact⟨(),trivial,(dS [(0,0),(3,3)])⟩
   skip
   refine br ?_;exact⟨i+1,⟨ae,by rw[hr,GQ ae hc1]⟩,ae,(dS [(0,0),(3,3)])⟩
  refine aB ?_;have hro:dD s=(9,s):=by simp only[dD,hr,yj (show 8<=i by omega)]
  simp only[hro];exact⟨(),trivial,(dS [(0,0),(3,3)])⟩
 ·rintro _-
  refine aG ?_;intro u2;refine aA ?_;refine rI hm (ι:=Unit) (fun _=>(⟨true,.str s⟩::⟨true,.ptr 0 7 0 0⟩::.un::.un::.un::.un::.un::.un::.un::⟨true,.ptr 3 7 0 0⟩::⟨true,.str (eZ s).1⟩::.un::.un::.un::.un::.un::.un::.un::.un::.un::.un::.un::.un::.un::.un::.un::.un::.un::.un::.un::.un::.un::.un::[])) (fun _=>[(0,.buf 7 [cZ.D dZ]),(3,.buf 7 [cZ.D ⟨(dD s).1,0,{fH with pre:=(eZ s).2}⟩])]) 60 (fun _=>True) ?_ ?_
  ·refine p8 hm (ι:=Nat) (fun i=>(⟨true,.str s⟩::⟨true,.ptr 0 7 0 0⟩::.un::.un::.un::.un::.un::.un::.un::⟨true,.ptr 3 7 0 0⟩::⟨true,.str (dD s).2⟩::⟨true,.int .i64 (i:Nat)⟩::⟨true,.int .i64 ((dD s).2.length:Nat)⟩::.un::.un::.un::.un::.un::.un::.un::.un::.un::.un::.un::.un::.un::.un::.un::.un::.un::.un::.un::.un::[])) (fun i=>[(0,.buf 7 [cZ.D dZ]),(3,.buf 7 [cZ.D ⟨(dD s).1,0,fH⟩])]) 43 (fun i=>i<=(dD s).2.length/\eZ s=hZ (dD s).2 i) (fun i=>(dD s).2.length-i) 0 ⟨ae,rfl⟩ (dS [(0,0),(3,3)]) ?_;rintro i ⟨hi,hr⟩;refine aB ?_;refine cT (fun hc2=>?_) fun hc2=>?_
   ·refine jr ?_;refine wp_cond (fun hc3=>?_) (fun hc3=>?_)
    ·simp only[aS]at hc3;have hpr:eZ s=((dD s).2.take i,(dD s).2.drop (i+1)):=by rw[hr,GS ae hc3]
     refine aG ?_;refine fe (i+1) ?_;refine aA ?_;refine aR (cZ.D ⟨(dD s).1,0,{fH with pre:=(dD s).2.drop (i+1)}⟩) (he:=aZ) ?_;refine aG ?_;refine kQ _ ?_;refine aK ?_;simp only[hpr];exact⟨(),trivial,(dS [(0,0),(3,3)])⟩
    try simp only[iz]at hc3
    refine br ?_;exact⟨i+1,⟨ae,by rw[hr,GU ae hc3]⟩,ae,(dS [(0,0),(3,3)])⟩
   refine aB ?_;have hpr:eZ s=((dD s).2,[]):=by rw[hr,Dj ae]
   simp only[hpr];exact⟨(),trivial,(dS [(0,0),(3,3)])⟩
  ·rintro _-
   have hpl:(eZ s).1.length<=s.length/\(eZ s).2.length<=s.length:=by
    have:=yq (dD s).2;exact⟨by show(hZ _ 0).1.length<=_;omega,by show(hZ _ 0).2.length<=_;omega⟩
   have hlp:1<=(ai (eZ s).1 46).length:=fq _ _ _;have hln:=de (eZ s).1 46;refine aA ?_;refine ar (hc:=h533 (eZ s).1 46 ae) ?_;refine bY ?_;refine rI hm (ι:=Unit) (fun _=>(⟨true,.str s⟩::⟨true,.ptr 0 7 0 0⟩::.un::.un::.un::.un::.un::.un::.un::⟨true,.ptr 3 7 0 0⟩::.un::.un::.un::.un::.un::.un::.un::⟨true,.sl 1 ((eB s).map D.str)⟩::.un::.un::.un::.un::.un::.un::.un::.un::.un::.un::.un::.un::.un::.un::.un::[])) (fun _=>[(0,.buf 7 [cZ.D dZ]),(3,.buf 7 [cZ.D ⟨(dD s).1,0,{fH with pre:=(eZ s).2}⟩])]) 80 (fun _=>ot s) ?_ ?_
   ·refine wp_cond (fun hc4=>?_) (fun hc4=>?_)
    ·try simp only[iz]at hc4
     refine aT ?_;intro u3;refine aE ?_;refine cg ((ai (eZ s).1 46).length-1) (hj:=fun _=>ae) (hb:=fun _=>ae) ?_;refine aB ?_;refine aw (fun hc5=>?_) (fun hc5=>?_)
     ·simp only[bn,bj]at hc5;have hno:=kR (s:=s) (fun h=>hc5 (h.1 hc4));refine aA ?_;refine bo (cZ.D dZ) ?_;refine aT ?_;refine b8 (aU ?_ (ak D.bool ?_));all_goals (rw[hno];rfl)
     simp only[bP,aS]at hc5;have hst:ot s:=fun _=>hc5
     have hrl:eB s=(ai (eZ s).1 46).take ((ai (eZ s).1 46).length-1):=av hc4;refine aT ?_;intro u4;refine aE ?_;refine py ((ai (eZ s).1 46).length-1) (hj:=fun _=>ae) (hb:=fun _=>ae) ?_;refine aB ?_;simp only[hrl];exact⟨(),hst,(dS [(0,0),(3,3)])⟩
    simp only[bj]at hc4;have hst:ot s:=fun h=>absurd h hc4
    have hrl:eB s=(ai (eZ s).1 46):=aj hc4;refine aA ?_;simp only[hrl];exact⟨(),hst,(dS [(0,0),(3,3)])⟩
   ·rintro _ hst;refine aG ?_;intro u5;refine aA ?_;refine aw (fun hc6=>?_) (fun hc6=>?_)
    ·simp only[aS]at hc6;have hno:=kR (s:=s) (fun h=>by have:=h.2.1;simp only[e8,bh,aS]at this;omega);refine aA ?_;refine bo (cZ.D dZ) ?_;refine aG ?_;refine b8 (aU ?_ (ak D.bool ?_));all_goals (rw[hno];rfl)
    try simp only[iz]at hc6
    refine aG ?_;intro u6;refine aE ?_;refine aR (cZ.D ⟨(dD s).1,((eB s).length:Nat),{fH with pre:=(eZ s).2}⟩) (he:=aZ) ?_;refine aT ?_;intro u7;refine aA ?_;have hb:e8 (eB s)=cO (fun i=>fo (eB s)[i]!) 0 (eB s).length:=by simp only[e8];rw[bS ae];rfl
    refine bw hm (ι:=Nat) (fun i=>(⟨true,.str s⟩::⟨true,.ptr 0 7 0 0⟩::.un::.un::.un::.un::.un::.un::.un::⟨true,.ptr 3 7 0 0⟩::.un::.un::.un::.un::.un::.un::.un::.un::.un::.un::⟨true,.int .i64 (i:Nat)⟩::⟨true,.int .i64 ((eB s).length:Nat)⟩::.un::⟨true,.sl 1 ((eB s).map D.str)⟩::.un::.un::.un::.un::.un::.un::.un::.un::.un::[])) (fun i=>[(0,.buf 7 [cZ.D dZ]),(3,.buf 7 [cZ.D ⟨(dD s).1,((eB s).length:Nat),{GO (eB s) i with pre:=(eZ s).2}⟩])]) 90 (fun i=>i<=(eB s).length/\e8 (eB s)=cO (fun i=>fo (eB s)[i]!) i (eB s).length) (fun i=>(eB s).length-i) 0 ⟨ae,hb⟩ (dS [(0,0),(3,3)]) ?_;rintro i ⟨hi,hr⟩;refine aB ?_;refine cT (fun hc7=>?_) fun hc7=>?_
    ·refine hE ?_;refine ar (hc:=h658 (eB s)[i]!) ?_;refine hE ?_;refine aw (fun hc8=>?_) (fun hc8=>?_)
     ·simp only[bn]at hc8;have hno:=kR (s:=s) (fun h=>by have:=h.2.1;rw[hr,aX ae,hc8]at this;cases this);refine aA ?_;refine bo (cZ.D dZ) ?_;refine aK ?_;refine b8 (aU ?_ (ak D.bool ?_));all_goals (rw[hno];rfl)
     simp only[bP]at hc8;refine dE ?_;refine wp_cond (fun hc9=>?_) (fun hc9=>?_)
     ·simp only[aS]at hc9;have hi0:i=0:=ae;refine aG ?_;refine aR (cZ.D ⟨(dD s).1,((eB s).length:Nat),{GO (eB s) (i+1)with pre:=(eZ s).2}⟩) (he:=by subst hi0;exact rfl) ?_;refine bY ?_;exact⟨i+1,⟨ae,by rw[hr,aX ae,hc8];rfl⟩,ae,(dS [(0,0),(3,3)])⟩
     try simp only[iz]at hc9
     refine aG ?_;refine wp_cond (fun hc10=>?_) (fun hc10=>?_)
     ·simp only[aS]at hc10;have hi0:i=1:=ae;refine aG ?_;refine aR (cZ.D ⟨(dD s).1,((eB s).length:Nat),{GO (eB s) (i+1)with pre:=(eZ s).2}⟩) (he:=by subst hi0;exact rfl) ?_;refine bY ?_;exact⟨i+1,⟨ae,by rw[hr,aX ae,hc8];rfl⟩,ae,(dS [(0,0),(3,3)])⟩
     simp only[bj]at hc10;have hi0:i=2:=ae;refine aG ?_;refine aR (cZ.D ⟨(dD s).1,((eB s).length:Nat),{GO (eB s) (i+1)with pre:=(eZ s).2}⟩) (he:=by subst hi0;exact rfl) ?_;refine bY ?_;exact⟨i+1,⟨ae,by rw[hr,aX ae,hc8];rfl⟩,ae,(dS [(0,0),(3,3)])⟩
    refine aG ?_;obtain rfl:i=(eB s).length:=ae;have hok:e8 (eB s)=true:=by rw[hr,cj ae]
    have hsm:(eP s).v.sm:=⟨by show(eZ s).2.length<=_;omega,by show([]:aq).length<=_;simp⟩;refine c8 (d:=cZ.D (eP s)) ?_;refine ar (hc:=h827 (eP s) hsm) ?_;refine aA ?_;refine c8 (d:=cZ.D (eP s)) ?_;refine fT (hc:=fun _=>h828 (eP s) hsm) ?_;refine aG ?_;refine aw (fun hc11=>?_) (fun hc11=>?_)
    ·simp only[cR,bn,bj]at hc11;have hno:=kR (s:=s) (fun h=>by rcases hc11 with h1|h1;rw[h.2.2.1]at h1;cases h1;exact h1 h.2.2.2);refine aA ?_;refine bo (cZ.D dZ) ?_;refine aG ?_;refine b8 (aU ?_ (ak D.bool ?_));all_goals (rw[hno];rfl)
    simp only[c9,bP,aS]at hc11;have hyes:gM s=some (eP s):=by unfold gM;rw[av ⟨hst,hok,hc11⟩]
    refine aA ?_;refine c8 (d:=cZ.D (eP s)) ?_;refine aG ?_;refine b8 (aU ?_ (ak D.bool ?_));all_goals (rw[hyes];rfl)
def SL (Y:Ctx):Prop:=∀(s:aq),(s.length<=1048576)->Y.pre 819 [.str s]/\Y.val 819 [.str s]=.tup [cZ.D ((gM s).getD dZ),.bool (gM s).isSome]
def Ey:aJ:=⟨1,9,[⟨1,some (7,true)⟩,⟨2,none⟩],[[.a,.a,.a,.a,.a,.a,.a],[.a]],(sq (rg [gb 7 (.c (.agg [.int .i64 0,.int .i64 0,.int .i64 0,.int .i64 0,.int .i64 0,.str [],.str []])),gm bL] [(1,0),(2,1)]) (sq (sq (rg [gm s0,gx 819 [l0] ct,gm l1,ge l2 0,ge l2 1,gb 7 (.c (.agg [.int .i64 0,.int .i64 0,.int .i64 0,.int .i64 0,.int .i64 0,.str [],.str []])),gt 7 l5 l3,gm l4] [(5,5),(3,7)]) (sq (r1 [gm s3] 4 0) (.cond s4 (sq (r1 [gk 7 true s5,gt 7 s1 l0,gm bL] 2 2) .ret) .skip))) (sq (sq (rg [gm s0,ay (cs [94]) l0,gx 819 [l1] ct,gm l2,ge l3 0,ge l3 1,gb 7 (.c (.agg [.int .i64 0,.int .i64 0,.int .i64 0,.int .i64 0,.int .i64 0,.str [],.str []])),gt 7 l6 l4,gm l5] [(8,6),(6,8)]) (sq (r1 [gm s6] 7 0) (.cond s7 (sq (r1 [gk 7 true s8,gt 7 s1 l0,gm bL] 2 2) .ret) .skip))) (sq (r1 [gn (.build [.int .i64 0,.int .i64 0,.int .i64 0,.int .i64 0,.int .i64 0,.str [],.str []] []),gt 7 s1 l0,gm uv] 2 2) .ret))))⟩
def w682 {Y:Ctx}(hm:(Y.at 0).bz)(h819:SL Y)(s:aq)  (hp0:s.length<=1048575):dV Y Ey (.tup [cZ.D ((lA s).getD dZ),.int .i64 (if(lA s).isSome=true then 0 else 6)]) [.str s]:=by
 show bX _ _ _ [⟨_,_⟩,_,_,_,_,_,_,_,_] _;refine au ?_;refine aK ?_;refine ar (hc:=h819 s ae) ?_;refine aE ?_;refine fB (cZ.D _) ?_;refine aA ?_;refine aR (cZ.D ((gM s).getD dZ)) (he:=aZ) ?_;refine aK ?_;refine cT (fun hc0=>?_) fun hc0=>?_
 ·refine aA ?_;refine c8 (d:=cZ.D ((gM s).getD dZ)) ?_;refine aG ?_;refine b8 (aU ?_ (ak (D.int .i64) ?_));all_goals (have hn:lA s=gM s:=av hc0;rw[hn];first|rfl|simp only[hc0,aH])
 refine aG ?_;refine cY (hb:=fun _=>cX) ?_;refine ar (hc:=h819 (94::s) cX) ?_;refine aE ?_;refine fB (cZ.D _) ?_;refine aA ?_;refine aR (cZ.D ((gM (94::s)).getD dZ)) (he:=aZ) ?_;refine aK ?_;refine cT (fun hc1=>?_) fun hc1=>?_
 ·refine aA ?_;refine c8 (d:=cZ.D ((gM (94::s)).getD dZ)) ?_;refine aG ?_;refine b8 (aU ?_ (ak (D.int .i64) ?_));all_goals (have hn:lA s=gM (94::s):=(by simp only[lA,hc0,ey,aI]);rw[hn];first|rfl|simp only[hc1,aH])
 refine aA ?_;refine bo (cZ.D dZ) ?_;refine aG ?_;refine b8 (aU ?_ (ak (D.int .i64) ?_));all_goals (have hn:lA s=none:=(by simp only[lA,hc0,ey,aI];exact Option.not_isSome_iff_eq_none.1 (by rw[hc1];simp));rw[hn];rfl)
def Sx (Y:Ctx):Prop:=∀(s:aq),(s.length<=1048575)->Y.pre 682 [.str s]/\Y.val 682 [.str s]=.tup [cZ.D ((lA s).getD dZ),.int .i64 (if(lA s).isSome=true then 0 else 6)]
def LC:aJ:=⟨1,10,jh,ct,(sq (rg [gb 1 s0,gm dj] [(2,0),(1,1)]) (sq (sq (r1 [gf 0 s2,gd l0,gl l1,a8 l2 ch,gm l3,jK 4 0 s2,jQ 4 l5,cE 4 (.len l6),cE 4 (eF l7 uv),fF l4 l8] 3 9) (nH s3 dj)) (sq (sq (r1 [gm bL] 4 0) (.block 0 (.loop (sq (sq (r1 [gm s4,gf 0 s2,gd l1,gl l2,a8 l0 l3] 5 4) (fY s5 0)) (sq (.block 1 (sq (sq (r1 [gf 0 s2,gd l0,gm s4,ga 1 l1 l2,gd l3,gl l4,a8 l5 ch,gm l6,jK 7 0 s2,jQ 7 l8,eU 7 s4,cE 7 (.ia 1 l9 l10),jQ 7 gJ,cE 7 (.len iM),cE 7 (eF jN uv),fF l7 ku] 6 15) (nH s6 dj)) (sq (r1 [gm bL] 7 0) (.block 2 (.loop (sq (sq (r1 [gm s7,gf 0 s2,gd l1,gm s4,ga 1 l2 l3,gd l4,gl l5,a8 l0 l6] 8 7) (fY s8 2)) (sq (.block 3 (sq (r1 [gf 0 s2,gd l0,gm s4,ga 1 l1 l2,gd l3,gm s7,ga 7 l4 l5,gk 7 true l6,gx 676 [l7] Mc,ke l8] 9 9) (nH s9 dj))) (r1 [gm s7,ay l0 ch,gm l1] 7 2)))))))) (r1 [gm s4,ay l0 ch,gm l1] 4 2)))))) (xN ou))))⟩
def w899 {Y:Ctx}(hm:(Y.at 0).bz)(h676:Ps Y)(r:sy)  (hp0:iS r):dV Y LC (.bool (jy r)) [eL r]:=by
 show bX _ _ _ [⟨_,_⟩,_,_,_,_,_,_,_,_,_] _;refine au ?_;refine bY ?_;intro u0;refine aG ?_;refine js ?_;refine aB ?_;refine cT (fun hc0=>?_) fun hc0=>?_
 ·refine aT ?_;refine b7 ?_;symm;simp only[jy];rcases hc0 with h|h
  ·rw[cJ ae];rfl
  ·rw[cJ (by omega:¬r.length<=6),Bool.and_false];rfl
 refine aT ?_;have hb:jy r=cO (fun i=>kI r[i]!) 0 r.length:=by simp only[jy];rw[bS ae,bS ae];rfl
 refine bw hm (ι:=Nat) (fun i=>[.un,.un,⟨true,.ptr 0 1 0 0⟩,.un,⟨true,.int .i64 (i:Nat)⟩,.un,.un,.un,.un,.un]) (fun i=>[(0,.buf 1 [eL r])]) 13 (fun i=>i<=r.length/\jy r=cO (fun i=>kI r[i]!) i r.length) (fun i=>r.length-i) 0 ⟨ae,hb⟩ (dS [(0,0)]) ?_;rintro i ⟨hi,hr⟩;refine aK ?_;intro u1;refine aA ?_;refine cT (fun hc1=>?_) fun hc1=>?_
 ·refine iG ?_;intro u2;refine br ?_;refine js ?_;refine aB ?_;refine cT (fun hc2=>?_) fun hc2=>?_
  ·refine br ?_;refine b7 ?_;rw[hr,aX ae];have:kI r[i]! =false:=by
    simp only[kI];rcases hc2 with h|h
    ·rw[cJ ae];rfl
    ·rw[cJ (by omega:¬r[i]!.length<=6),Bool.and_false];rfl
   rw[this];rfl
  refine aG ?_;have hkb:kI r[i]! =cO (fun k=>lJ r[i]![k]!) 0 r[i]!.length:=by simp only[kI];rw[bS ae,bS ae];rfl
  refine p8 hm (ι:=Nat) (fun k=>[.un,.un,⟨true,.ptr 0 1 0 0⟩,.un,⟨true,.int .i64 (i:Nat)⟩,.un,.un,⟨true,.int .i64 (k:Nat)⟩,.un,.un]) (fun k=>[(0,.buf 1 [eL r])]) 35 (fun k=>k<=r[i]!.length/\kI r[i]! =cO (fun k=>lJ r[i]![k]!) k r[i]!.length) (fun k=>r[i]!.length-k) 0 ⟨ae,hkb⟩ (dS [(0,0)]) ?_;rintro k ⟨hk,hkr⟩;refine dE ?_;intro u3;refine aA ?_;refine cT (fun hc3=>?_) fun hc3=>?_
  ·refine iG ?_;first|refine cb (v:=(cZ.D _)) ?_|refine fk (v:=(cZ.D _)) ?_
   refine ar (hc:=h676 r[i]![k]! (hp0 r[i]! (bM ae) _ (bM ae)).sm) ?_;refine aA ?_;refine wp_cond (fun hc4=>?_) (fun hc4=>?_)
   ·simp only[bn]at hc4;refine bY ?_;refine b7 ?_;rw[hr,aX ae,hkr,aX ae,hc4];rfl
   simp only[bP]at hc4;refine bY ?_;exact⟨k+1,⟨ae,by rw[hkr,aX ae,hc4];rfl⟩,ae,(dS [(0,0)])⟩
  refine dE ?_;exact⟨i+1,⟨ae,by rw[hr,aX ae,hkr,cj ae];rfl⟩,ae,(dS [(0,0)])⟩
 refine aK ?_;refine b7 ?_;rw[hr,cj ae]
def Py (Y:Ctx):Prop:=∀(r:sy),(iS r)->Y.pre 899 [eL r]/\Y.val 899 [eL r]=.bool (jy r)
def II:aJ:=⟨1,10,jh,ct,(sq (rg [gb 1 s0,gm cse] [(3,0),(1,1)]) (sq (r1 [gm cse] 6 0) (sq (sq (r1 [gm bL] 2 0) (.block 0 (.loop (sq (sq (r1 [gm s2,gf 0 s3,gd l1,gl l2,a8 l0 l3] 4 4) (fY s4 0)) (sq (.block 1 (sq (sq (r1 [gm s2,dn l0 bL] 5 1) (.cond s5 (r1 [gm s6,ay l0 (cs [32,124,124,32]),gm l1] 6 2) .skip)) (sq (r1 [gm bL] 7 0) (.block 2 (.loop (sq (sq (r1 [gm s7,gf 0 s3,gd l1,gm s2,ga 1 l2 l3,gd l4,gl l5,a8 l0 l6] 8 7) (fY s8 2)) (sq (.block 3 (sq (sq (r1 [gm s7,dn l0 bL] 9 1) (.cond s9 (r1 [gm s6,ay l0 (cs [44,32]),gm l1] 6 2) .skip)) (r1 [gm s6,gf 0 s3,gd l1,gm s2,ga 1 l2 l3,gd l4,gm s7,ga 7 l5 l6,gk 7 true l7,gx 482 [l8] Mc,ay l0 l9,gm l10] 6 11))) (r1 [gm s7,ay l0 ch,gm l1] 7 2)))))))) (r1 [gm s2,ay l0 ch,gm l1] 2 2)))))) (sq (r1 [gm s6,gm l0] 1 1) .ret))))⟩
def w900 {Y:Ctx}(hm:(Y.at 0).bz)(h482:Mp Y)(r:sy)  (hp0:jy r=true/\iS r):dV Y II (.str (yI r)) [eL r]:=by
 show bX _ _ _ [⟨_,_⟩,_,_,_,_,_,_,_,_,_] _;have hlen:=LG hp0.1 hp0.2;have hjl:=fun i=>rT [32,124,124,32] (r.map jH) i
 have hrl:∀i,(bc [32,124,124,32] ((r.map jH).take i)).length<=40000:=fun i=>cW (hjl i) hlen
 have hpl:∀i,(sw [32,124,124,32] (r.map jH) i).length<=40004:=fun i=>by
  unfold sw;split
  ·have:=hrl i;simp only[bE,ax,az];omega
  ·simp
 refine au ?_;refine iG ?_;refine bw hm (ι:=Nat) (fun i=>[.un,.un,⟨true,.int .i64 (i:Nat)⟩,⟨true,.ptr 0 1 0 0⟩,.un,.un,⟨true,.str (bc [32,124,124,32] ((r.map jH).take i))⟩,.un,.un,.un]) (fun i=>[(0,.buf 1 [eL r])]) 4 (fun i=>i<=r.length) (fun i=>r.length-i) 0 ae (dS [(0,0)]) ?_;intro i hi;have hil:=hrl i;refine aK ?_;intro u0;refine aA ?_;refine cT (fun hc0=>?_) fun hc0=>?_
 ·refine br ?_;refine rI hm (ι:=Unit) (fun _=>[.un,.un,⟨true,.int .i64 (i:Nat)⟩,⟨true,.ptr 0 1 0 0⟩,.un,.un,⟨true,.str (sw [32,124,124,32] (r.map jH) i)⟩,.un,.un,.un]) (fun _=>[(0,.buf 1 [eL r])]) 50 (fun _=>True) ?_ ?_
  ·refine gN (fun hc1=>?_) fun hc1=>?_
   ·refine aA ?_;refine cY (hb:=fun _=>by simp only[ax,az];omega) ?_;refine aB ?_;rw[show bc [32,124,124,32] ((r.map jH).take i)++[32,124,124,32]=sw [32,124,124,32] (r.map jH) i from(av ae).symm];exact⟨(),trivial,(dS [(0,0)])⟩
   refine aA ?_;rw[KZ [32,124,124,32] (r.map jH) (show ¬0<i by omega)];exact⟨(),trivial,(dS [(0,0)])⟩
  ·rintro _-
   have hpi:=hpl i;have hao:=uA (xA hp0.1 (show i<r.length by omega));have hcl:∀k,k<r[i]!.length->(dN r[i]![k]!).length<=1100:=fun k hk=>xw (hp0.2 r[i]! (bM ae) _ (bM hk))
   have hal:=xi (hp0.2 r[i]! (bM ae)) hao.2;have hkl:∀k,(bc [44,32] ((r[i]!.map dN).take k)).length<=6612:=fun k=>cW (rT _ _ _) hal
   refine aB ?_;rw[show sw [32,124,124,32] (r.map jH) i=sw [32,124,124,32] (r.map jH) i++bc [44,32] ((r[i]!.map dN).take 0)by simp[bc]];refine p8 hm (ι:=Nat) (fun k=>[.un,.un,⟨true,.int .i64 (i:Nat)⟩,⟨true,.ptr 0 1 0 0⟩,.un,.un,⟨true,.str (sw [32,124,124,32] (r.map jH) i++bc [44,32] ((r[i]!.map dN).take k))⟩,⟨true,.int .i64 (k:Nat)⟩,.un,.un]) (fun k=>[(0,.buf 1 [eL r])]) 51 (fun k=>k<=r[i]!.length) (fun k=>r[i]!.length-k) 0 ae (dS [(0,0)]) ?_;intro k hk;have hkk:=hkl k;refine dE ?_;intro u1;refine aA ?_;refine cT (fun hc2=>?_) fun hc2=>?_
   ·refine br ?_;refine cT (fun hc3=>?_) fun hc3=>?_
    ·refine aA ?_;refine gG ?_;refine aB ?_;have hjk:=uT [44,32] (r[i]!.map dN) k (by rw[bI];omega);rw[Bv dN r[i]! (show k<r[i]!.length by omega)]at hjk;refine bY ?_;first|refine cb (v:=(cZ.D _)) ?_|refine fk (v:=(cZ.D _)) ?_
     refine ar (hc:=h482 r[i]![k]! (hp0.2 r[i]! (bM ae) _ (bM ae)).sm) ?_;refine cY (hb:=fun _=>by have:=hcl k ae;simp only[bE,ax,az];omega) ?_;refine dE ?_;rw[show sw [32,124,124,32] (r.map jH) i++bc [44,32] ((r[i]!.map dN).take k)++[44,32]++dN r[i]![k]! =sw [32,124,124,32] (r.map jH) i++bc [44,32] ((r[i]!.map dN).take (k+1))by rw[hjk,show sw [44,32] (r[i]!.map dN) k=bc [44,32] ((r[i]!.map dN).take k)++[44,32]from av ae];simp only[dG]];exact⟨k+1,ae,ae,(dS [(0,0)])⟩
    refine aA ?_;have hjk:=uT [44,32] (r[i]!.map dN) k (by rw[bI];omega);rw[Bv dN r[i]! (show k<r[i]!.length by omega)]at hjk;refine bY ?_;first|refine cb (v:=(cZ.D _)) ?_|refine fk (v:=(cZ.D _)) ?_
    refine ar (hc:=h482 r[i]![k]! (hp0.2 r[i]! (bM ae) _ (bM ae)).sm) ?_;refine cY (hb:=fun _=>by have:=hcl k ae;simp only[bE,ax,az];omega) ?_;refine dE ?_;rw[show sw [32,124,124,32] (r.map jH) i++bc [44,32] ((r[i]!.map dN).take k)++dN r[i]![k]! =sw [32,124,124,32] (r.map jH) i++bc [44,32] ((r[i]!.map dN).take (k+1))by rw[hjk,KZ [44,32] (r[i]!.map dN) (show ¬0<k by omega)];simp only[dG]];exact⟨k+1,ae,ae,(dS [(0,0)])⟩
   refine dE ?_;obtain rfl:k=r[i]!.length:=ae;have hji:=uT [32,124,124,32] (r.map jH) i (by rw[bI];omega);rw[Bv jH r (show i<r.length by omega)]at hji;rw[show sw [32,124,124,32] (r.map jH) i++bc [44,32] ((r[i]!.map dN).take r[i]!.length)=bc [32,124,124,32] ((r.map jH).take (i+1))by rw[hji,eK (by rw[bI];exact aM _)];rfl];exact⟨i+1,ae,ae,(dS [(0,0)])⟩
 refine br ?_;refine cV ?_;rw[eK cX];rfl
def Mu (Y:Ctx):Prop:=∀(r:sy),(jy r=true/\iS r)->Y.pre 900 [eL r]/\Y.val 900 [eL r]=.str (yI r)
def LB:aJ:=⟨1,3,jh,ct,(sq (rg [gb 1 s0,gm dj] [(2,0),(1,1)]) (sq (r1 [gk 1 true s2,gx 899 [l0] [[.sl 1 [.sl 7 [.a,.a,.a,.a,.a,.a,.a]]]],gm l1,cu 2 (.ld 1 true s2),cu 2 (.call 900 [l3] [[.sl 1 [.sl 7 [.a,.a,.a,.a,.a,.a,.a]]]]),cu 2 (.lenS l4),cu 2 (ox l5 (i6 96)),fg l2 l6,gm l7] 1 8) .ret))⟩
def w901 {Y:Ctx}(hm:(Y.at 0).bz)(h899:Py Y)(h900:Mu Y)(r:sy)  (hp0:iS r):dV Y LB (.bool (qn r)) [eL r]:=by
 show bX _ _ _ [⟨_,_⟩,_,_] _;refine au ?_;refine aT ?_;refine ar (hc:=h899 r hp0) ?_;refine aA ?_;refine fT (hc:=fun hf=>h900 r ⟨by simpa using hf,hp0⟩) ?_;refine js ?_;refine aT ?_;refine b7 ?_;simp only[qn];congr 1;exact ed.2 ae
def SQ (Y:Ctx):Prop:=∀(r:sy),(iS r)->Y.pre 901 [eL r]/\Y.val 901 [eL r]=.bool (qn r)
def FC:aJ:=⟨1,4,jh,ct,(sq (rg [gb 1 s0,gm cse] [(2,0),(1,1)]) (sq (sq (r1 [gk 1 true s2,gx 901 [l0] [[.sl 1 [.sl 7 [.a,.a,.a,.a,.a,.a,.a]]]],ke l1] 3 2) (nH s3 cse)) (sq (r1 [gk 1 true s2,gx 900 [l0] [[.sl 1 [.sl 7 [.a,.a,.a,.a,.a,.a,.a]]]],gm l1] 1 2) .ret)))⟩
def w745 {Y:Ctx}(hm:(Y.at 0).bz)(h900:Mu Y)(h901:SQ Y)(r:sy)  (hp0:iS r):dV Y FC (.str (ru r)) [eL r]:=by
 show bX _ _ _ [⟨_,_⟩,_,_,_] _;refine au ?_;refine aK ?_;refine ar (hc:=h901 r hp0) ?_;refine aA ?_;refine aw (fun hc0=>?_) (fun hc0=>?_)
 ·simp only[bn]at hc0;refine aT ?_;refine cV ?_;simp[ru,hc0]
 simp only[bP]at hc0;have hfw:jy r=true:=by simp only[qn,bh]at hc0;exact hc0.1
 refine aB ?_;refine ar (hc:=h900 r ⟨hfw,hp0⟩) ?_;refine aB ?_;refine cV ?_;simp[ru,hc0]
def SD (Y:Ctx):Prop:=∀(r:sy),(iS r)->Y.pre 745 [eL r]/\Y.val 745 [eL r]=.str (ru r)
def IH:aJ:=⟨1,4,jh,ct,(sq (r1 [gm cse] 1 0) (sq (.block 0 (.loop (sq (sq (r1 [gm s0,oQ l0,dn l1 bL,gm l2,gmt 3 s0,cu 3 (.ixS l4 bL),cu 3 (cP l5 (i8 32)),fg l3 l6] 2 7) (fY s2 0)) (.block 1 (r1 [gm s0,gn (.slS l0 (some ch) none),gm l1] 0 2))))) (sq (.block 2 (.loop (sq (sq (r1 [gm s0,oQ l0,dn l1 bL,gm l2,gmt 3 s0,gmt 3 s0,cu 3 (.lenS l5),cu 3 (kq l6 ch),cu 3 (.ixS l4 l7),cu 3 (cP l8 (i8 32)),fg l3 l9] 3 10) (fY s3 2)) (.block 3 (r1 [gm s0,gm s0,oQ l1,eH l2 ch,gn (.slS l0 none (some l3)),gm l4] 0 5))))) (sq (r1 [gm s0,gm l0] 1 1) .ret))))⟩
def w898 {Y:Ctx}(hm:(Y.at 0).bz)  (s:aq)   :dV Y IH (.str (ee s)) [.str s]:=by
 show bX _ _ _ [⟨_,_⟩,_,_,_] _;refine au ?_;refine aA ?_;refine bw hm (ι:=aq) (fun t=>[⟨true,.str t⟩,.un,.un,.un]) (fun t=>[]) 1 (fun t=>kJ s=kJ t/\t.length<=s.length) (fun t=>t.length) s ⟨rfl,aM _⟩ (dS []) ?_;rintro t ⟨hr,hl⟩;refine aG ?_;intro u0;refine aB ?_;refine px 0 ?_;refine aB ?_;refine cT (fun hc0=>?_) fun hc0=>?_
 ·refine aG ?_;refine fe 1 (hb:=fun _=>ae) ?_;refine aG ?_;exact⟨(t.drop 1),⟨by rw[hr,zR ae hc0.2],by rw[jn];omega⟩,by rw[jn];omega,(dS [])⟩
 refine aA ?_;have hbt:ee s=xm t:=by
  show(kJ (kJ s).reverse).reverse=_;rw[hr,xl hc0];rfl
 refine bw hm (ι:=aq) (fun u=>[⟨true,.str u⟩,.un,.un,.un]) (fun u=>[]) 9 (fun u=>ee s=xm u/\u.length<=s.length) (fun u=>u.length) t ⟨hbt,hl⟩ (dS []) ?_;rintro u ⟨hru,hlu⟩;refine aG ?_;intro u1;refine aG ?_;refine js ?_;refine aE ?_;refine px (u.length-1) ?_;refine aB ?_;refine cT (fun hc1=>?_) fun hc1=>?_
 ·refine aK ?_;intro u2;refine aE ?_;refine kQ (u.length-1) (hj:=fun _=>ae) (hb:=fun _=>ae) ?_;refine aG ?_;exact⟨(u.take (u.length-1)),⟨by rw[hru,Hq ae hc1.2],by rw[dq];omega⟩,by rw[dq];omega,(dS [])⟩
 refine br ?_;refine cV ?_;rw[hru,Er hc1]
def SP (Y:Ctx):Prop:=∀(s:aq),Y.pre 898 [.str s]/\Y.val 898 [.str s]=.str (ee s)
def IG:aJ:=⟨1,7,jh,[[.sl 1 [.a]]],(sq (r1 [gm (.c (.aC))] 1 0) (sq (r1 [gm (.c (.aC))] 6 0) (sq (r1 [gm bL] 4 0) (sq (sq (r1 [gm bL] 2 0) (.block 0 (.loop (sq (sq (r1 [gm s2,ay l0 ch,gm s0,oQ l2,a8 l1 l3] 3 4) (fY s3 0)) (sq (.block 1 (sq (r1 [gm s0,gm s2,Gi l0 l1,aO l2 (i8 124),gm l3,gmt 4 s0,gmt 4 s2,cu 4 (zQ l6 ch),cu 4 (.ixS l5 l7),cu 4 (cP l8 (i8 124)),fg l4 l9,gm l10,gmt 11 s2,gmt 11 s4,cu 11 (tz iM jN),fg gJ ku] 5 15) (.cond s5 (sq (r1 [gm s6,gm s0,gm s4,gm s2,gn (.slS l1 (some l2) (some l3)),gn (.bsl 1 (.str []) 1 [(0,l4)]),gn (.app 1 l0 l5),gm l6] 6 7) (r1 [gm s2,ay l0 jE,gm l1] 4 2)) .skip))) (r1 [gm s2,ay l0 ch,gm l1] 2 2)))))) (sq (r1 [gm s6,gm s0,gm s4,gn (.slS l1 (some l2) none),gn (.bsl 1 (.str []) 1 [(0,l3)]),gn (.app 1 l0 l4),gm l5] 1 6) .ret)))))⟩
def w896 {Y:Ctx}(hm:(Y.at 0).bz)  (s:aq)  (hp0:s.length<=1048576):dV Y IG (.sl 1 ((aL s []).map D.str)) [.str s]:=by
 show bX _ _ _ [⟨_,_⟩,_,_,_,_,_,_] _;refine au ?_;refine jr ?_;refine bw hm (ι:=(Nat×Nat×List aq)) (fun p=>[⟨true,.str s⟩,.un,⟨true,.int .i64 (p.1:Nat)⟩,.un,⟨true,.int .i64 (p.2.1:Nat)⟩,.un,⟨true,.own 0 1 0 p.2.2.length⟩]) (fun p=>[(0,.buf 1 (p.2.2.map D.str))]) 4 (fun p=>p.1<=s.length/\p.2.1<=s.length/\p.2.1<=p.1+1/\p.2.2.length<=p.1/\sA s p.1 p.2.1 p.2.2) (fun p=>s.length-p.1) (0,0,[]) ⟨aN,aN,aN,aN,by simp[sA]⟩ (bg.to [] ah ah (by repeat(first|exact dz.nil|refine dz.un ?_|refine dz.eq ah ?_|refine dz.nl ah ah ?_|refine dz.ni (Or.inr ⟨_,_,_,rfl⟩) ?_)) (by repeat(first|exact aY.nil|refine aY.mt ah ah ah ah ?_))) ?_;rintro⟨i,fr,acc⟩ ⟨hi,hf,hfi,ha,hr⟩;dsimp only at hi hf hfi ha hr⊢;refine aK ?_;intro u0;refine aA ?_;refine cT (fun hc0=>?_) fun hc0=>?_
 ·refine aT ?_;refine px i ?_;refine aT ?_;refine px (i+1) ?_;refine bY ?_;refine gN (fun hc1=>?_) fun hc1=>?_
  ·refine aT ?_;refine yw fr i (hb:=fun _=>ae) ?_;refine c7 [(.str _)] ?_;refine zc ?_;exact⟨(i+1,i+2,acc++[(s.take i).drop fr]),⟨dP,dP,dP,cX,Ho hr ae hc1⟩,dP,(bg.to [(31,0)] ah ah eC (by refine aY.nl 31 ah ah ah cB ?_;exact aY.nil))⟩
  refine bY ?_;exact⟨(i+1,fr,acc),⟨dP,dP,dP,dP,JA hr ae hfi hc1⟩,dP,(bg.to [(0,0)] ah ah eC (by(first|refine aY.ez ah ah cB ?_|refine aY.lr ah ah ah ?_|refine aY.nI ah ah ah ah ?_);exact aY.nil))⟩
 refine aK ?_;refine fe fr (hb:=fun _=>ae) ?_;refine c7 [(.str _)] ?_;refine aB ?_;refine eR 14 ?_;refine aE ?_;refine b8 (?_);rw[Hn hr ae hf];rfl
def SN (Y:Ctx):Prop:=∀(s:aq),(s.length<=1048576)->Y.pre 896 [.str s]/\Y.val 896 [.str s]=.sl 1 ((aL s []).map D.str)
def FA:aJ:=⟨1,17,[⟨1,some (1,true)⟩,⟨2,none⟩],[[.sl 1 [.sl 7 [.a,.a,.a,.a,.a,.a,.a]]],[.a]],(sq (rg [gb 1 (.c (.agg [.aC])),gm bL] [(1,0),(2,1)]) (sq (sq (r1 [gm s0,oQ l0,dn l1 (i6 96)] 3 2) (.cond s3 (sq (r1 [gn (.build [.aC] []),gt 1 s1 l0,gm jL] 2 2) .ret) .skip)) (sq (r1 [gb 1 (.c (.agg [.aC]))] 14 0) (sq (r1 [gm s0,gx 896 [l0] ct,gm l1] 5 2) (sq (sq (r1 [gm bL] 4 0) (.block 0 (.loop (sq (sq (r1 [gm s4,gm s5,gl l1,a8 l0 l2] 6 3) (fY s6 0)) (sq (.block 1 (sq (r1 [gm (.c (.aC))] 12 0) (sq (r1 [gm s5,gm s4,ga 1 l0 l1,gd l2,gx 470 [l3,(i8 44)] iB,gm l4] 8 5) (sq (sq (r1 [gm bL] 7 0) (.block 2 (.loop (sq (sq (r1 [gm s7,gm s8,gl l1,a8 l0 l2] 9 3) (fY s9 2)) (sq (.block 3 (sq (rg [gm s8,gm s7,ga 1 l0 l1,gd l2,gx 898 [l3] ct,gx 897 [l4] ct,gm l5,ge l6 0,ge l6 1,gb 7 (.c (.agg [.int .i64 0,.int .i64 0,.int .i64 0,.int .i64 0,.int .i64 0,.str [],.str []])),gt 7 l9 l7,gm l8] [(13,9),(10,11)]) (sq (sq (r1 [gm kZ,cv l0 bL] 11 1) (.cond nQ (sq (r1 [gn (.build [.aC] []),gt 1 s1 l0,gm uv] 2 2) .ret) .skip)) (r1 [gm mQ,gk 7 true rv,gn (.bsl 7 (.agg [.int .i64 0,.int .i64 0,.int .i64 0,.int .i64 0,.int .i64 0,.str [],.str []]) 1 [(0,l1)]),gn (.app 7 l0 l2),gm l3] 12 4)))) (r1 [gm s7,ay l0 ch,gm l1] 7 2)))))) (rg [gf 0 r8,gd l0,gm mQ,gn (.bsl 1 (.aC) 1 [(0,l2)]),gn (.app 1 l1 l3),gf 0 r8,gt 1 l5 l4] []))))) (r1 [gm s4,ay l0 ch,gm l1] 4 2)))))) (sq (sq (r1 [gk 1 true r8,gx 899 [l0] [[.sl 1 [.sl 7 [.a,.a,.a,.a,.a,.a,.a]]]],ke l1] 15 2) (.cond wD (sq (r1 [gn (.build [.aC] []),gt 1 s1 l0,gm uv] 2 2) .ret) .skip)) (sq (sq (r1 [gk 1 true r8,gx 900 [l0] [[.sl 1 [.sl 7 [.a,.a,.a,.a,.a,.a,.a]]]],oQ l1,dn l2 (i6 96)] 16 3) (.cond DN (sq (r1 [gn (.build [.aC] []),gt 1 s1 l0,gm jL] 2 2) .ret) .skip)) (sq (r1 [gk 1 true r8,gt 1 s1 l0,gm bL] 2 2) .ret))))))))⟩
def w744 {Y:Ctx}(hm:(Y.at 0).bz)(h470:xe Y)(h896:SN Y)(h897:SO Y)(h898:SP Y)(h899:Py Y)(h900:Mu Y)(s:aq)  (hp0:s.length<=1048576):dV Y FA (.tup [eL (gF s).1,.int .i64 (gF s).2]) [.str s]:=by
 show bX _ _ _ [⟨_,_⟩,_,_,_,_,_,_,_,_,_,_,_,_,_,_,_,_] _;have hdl:=oo s [];have hgl:∀i,i<(aL s []).length->(aL s [])[i]!.length<=s.length:=fun i hi=>by
  have:=hdl.2 _ (bM hi);simpa using this
 refine au ?_;refine br ?_;intro u0;refine aA ?_;refine cT (fun hc0=>?_) fun hc0=>?_
 ·refine aA ?_;refine fj [.aC] ?_;refine aR (.agg [.aC]) (he:=aZ) ?_;refine aB ?_;refine b8 (aU ?_ (ak (D.int .i64) ?_));all_goals
   have hq:gF s=([],3):=by
    unfold gF;rw[av ae]
   rw[hq];first|done|rfl
 refine aK ?_;refine ar (hc:=h896 s ae) ?_;refine aK ?_;refine bw hm (ι:=Nat) (fun i=>[.un,⟨true,.ptr 0 1 0 0⟩,.un,.un,⟨true,.int .i64 (i:Nat)⟩,⟨true,.sl 1 ((aL s []).map D.str)⟩,.un,.un,.un,.un,.un,.un,.un,.un,⟨true,.ptr 5 1 0 0⟩,.un,.un]) (fun i=>[(0,.buf 1 [.agg [.aC]]),(5,.buf 1 [.agg [.own 1 1 0 ((iC s).take i).length]]),(1,.buf 1 (((iC s).take i).map qw))]) 10 (fun i=>i<=(aL s []).length/\yH s=cO (fun i=>U7 (aL s [])[i]!) i (aL s []).length) (fun i=>(aL s []).length-i) 0 ⟨ae,rfl⟩ (bg.to [(0,0),(5,5)] ah ah eC (by(first|refine aY.ez ah ah cB ?_|refine aY.lr ah ah ah ?_|refine aY.nI ah ah ah ah ?_);refine aY.ni 5 ah ah (by exact⟨_,_,rfl,⟨_,rfl,⟨_,_,rfl,Or.inr ⟨_,_,_,rfl⟩,rfl⟩⟩,rfl⟩) ?_;refine aY.mt ah ah ah ah ?_;exact aY.nil)) ?_;rintro i ⟨hi,hr⟩;have hrt:((iC s).take i).length<=i:=by rw[dq];omega
 refine aT ?_;intro u1;refine aA ?_;refine cT (fun hc1=>?_) fun hc1=>?_
 ·refine aK ?_;have hgi:=hgl i ae;have hsl:=de (aL s [])[i]! 44;have hsp:1<=(ai (aL s [])[i]! 44).length:=fq _ _ _;refine aG ?_;refine ar (hc:=h470 (aL s [])[i]! 44 ae) ?_;refine aK ?_;refine bw hm (ι:=Nat) (fun k=>[.un,⟨true,.ptr 0 1 0 0⟩,.un,.un,⟨true,.int .i64 (i:Nat)⟩,⟨true,.sl 1 ((aL s []).map D.str)⟩,.un,⟨true,.int .i64 (k:Nat)⟩,⟨true,.sl 1 ((ai (aL s [])[i]! 44).map D.str)⟩,.un,.un,.un,⟨true,.own 2 7 0 ((mR (aL s [])[i]!).take k).length⟩,.un,⟨true,.ptr 5 1 0 0⟩,.un,.un]) (fun k=>[(0,.buf 1 [.agg [.aC]]),(5,.buf 1 [.agg [.own 1 1 0 ((iC s).take i).length]]),(1,.buf 1 (((iC s).take i).map qw)),(2,.buf 7 (((mR (aL s [])[i]!).take k).map cZ.D))]) 22 (fun k=>k<=(ai (aL s [])[i]! 44).length/\U7 (aL s [])[i]! =cO (fun k=>(ef (ee (ai (aL s [])[i]! 44)[k]!)).isSome) k (ai (aL s [])[i]! 44).length) (fun k=>(ai (aL s [])[i]! 44).length-k) 0 ⟨ae,rfl⟩ (bg.to [(0,0),(5,5),(1,1)] ah ah (by repeat(first|exact dz.nil|refine dz.un ?_|refine dz.eq ah ?_|refine dz.nl ah ah ?_|refine dz.ni (Or.inr ⟨_,_,_,rfl⟩) ?_)) (by(first|refine aY.ez ah ah cB ?_|refine aY.lr ah ah ah ?_|refine aY.nI ah ah ah ah ?_);(first|refine aY.ez ah ah cB ?_|refine aY.lr ah ah ah ?_|refine aY.nI ah ah ah ah ?_);(first|refine aY.ez ah ah cB ?_|refine aY.lr ah ah ah ?_|refine aY.nI ah ah ah ah ?_);refine aY.mt ah ah ah ah ?_;exact aY.nil)) ?_;rintro k ⟨hk,hwk⟩;have htk:((mR (aL s [])[i]!).take k).length<=k:=by rw[dq];omega
  refine aT ?_;intro u2;refine aA ?_;refine cT (fun hc2=>?_) fun hc2=>?_
  ·refine aB ?_;have hwl:=yN (aL s [])[i]! 44 (show k<(ai (aL s [])[i]! 44).length by omega);have hbl:=uD (ai (aL s [])[i]! 44)[k]!;refine aG ?_;refine ar (hc:=h898 (ai (aL s [])[i]! 44)[k]!) ?_;refine ar (hc:=h897 (ee (ai (aL s [])[i]! 44)[k]!) ae) ?_;refine aE ?_;refine fB (cZ.D _) ?_;refine aA ?_;refine aR (cZ.D ((ef (ee (ai (aL s [])[i]! 44)[k]!)).getD dZ)) (he:=aZ) ?_;refine br ?_;refine aw (fun hc3=>?_) (fun hc3=>?_)
   ·have hsm:(ef (ee (ai (aL s [])[i]! 44)[k]!)).isSome=false:=by cases hx:(ef (ee (ai (aL s [])[i]! 44)[k]!)).isSome with|false=>rfl|true=>rw[hx]at hc3;exact absurd hc3 aF
    refine aA ?_;refine fj [.aC] ?_;refine aR (.agg [.aC]) (he:=aZ) ?_;refine br ?_;refine b8 (aU ?_ (ak (D.int .i64) ?_));all_goals
     have hq:gF s=([],6):=by
      have hno:yH s=false:=by rw[hr,aX ae,hwk,aX ae,hsm];rfl
      unfold gF;rw[aj ae,av hno]
     rw[hq];first|done|rfl
   have hsm:(ef (ee (ai (aL s [])[i]! 44)[k]!)).isSome=true:=by cases hx:(ef (ee (ai (aL s [])[i]! 44)[k]!)).isSome with|true=>rfl|false=>rw[hx]at hc3;exact absurd hc3 aF
   refine aB ?_;refine c8 (d:=cZ.D ((ef (ee (ai (aL s [])[i]! 44)[k]!)).getD dZ)) ?_;refine c7 [(cZ.D _)] ?_;refine iG ?_;have hq:=iI (fun x=>(ef (ee x)).getD dZ) (ai (aL s [])[i]! 44) (show k<(ai (aL s [])[i]! 44).length by omega);rw[show(fun x=>(ef (ee x)).getD dZ)=fun x=>(ef (ee x)).getD dZ from rfl]at hq;have hq:(mR (aL s [])[i]!).take (k+1)=_:=hq;rw[show(mR (aL s [])[i]!).take k++[(ef (ee (ai (aL s [])[i]! 44)[k]!)).getD dZ]=(mR (aL s [])[i]!).take (k+1)from hq.symm];exact⟨k+1,⟨ae,by rw[hwk,aX ae,hsm];rfl⟩,ae,(bg.to [(0,0),(5,5),(1,1),(43,2)] ah ah eC (by(first|refine aY.ez ah ah cB ?_|refine aY.lr ah ah ah ?_|refine aY.nI ah ah ah ah ?_);(first|refine aY.ez ah ah cB ?_|refine aY.lr ah ah ah ?_|refine aY.nI ah ah ah ah ?_);(first|refine aY.ez ah ah cB ?_|refine aY.lr ah ah ah ?_|refine aY.nI ah ah ah ah ?_);refine aY.nl 43 ah ah ah cB ?_;exact aY.nil))⟩
  refine aA ?_;refine eR 2 ?_ (he:=by simp only[ll,hY,iK,lO,mU,cD,Nat.reduceEqDiff,aH,aI,cr,bU,b9,cL,cN,bK,bI,aM,bR,aP,reduceCtorEq,ax,az,Nat.reduceAdd,Nat.reduceLeDiff,oy];exact rfl) (hm:=by simp only[ll,hY,iK,lO,mU,cD,Nat.reduceEqDiff,aH,aI,cr,bU,b9,cL,cN,bK,bI,aM,bR,aP,reduceCtorEq,ax,az,Nat.reduceAdd,Nat.reduceLeDiff,oy];exact rfl);refine aE ?_;obtain rfl:k=(ai (aL s [])[i]! 44).length:=ae;rw[eK (show(mR (aL s [])[i]!).length<=(ai (aL s [])[i]! 44).length by simp[mR])];refine aE ?_;refine bA (v:=.own _ _ _ _) ?_;refine aE ?_;refine c7 [qw (mR (aL s [])[i]!)] ?_;refine aA ?_;refine aR (.agg [.own 30 1 0 ((iC s).take i++[mR (aL s [])[i]!]).length]) (he:=aZ) ?_;refine bY ?_;have hq:(iC s).take (i+1)=(iC s).take i++[mR (aL s [])[i]!]:=iI mR (aL s []) (show i<(aL s []).length by omega);rw[<-hq];exact⟨i+1,⟨ae,by rw[hr,aX ae,hwk,cj ae];rfl⟩,ae,(bg.to [(0,0),(5,5),(30,1)] ah ah eC (by(first|refine aY.ez ah ah cB ?_|refine aY.lr ah ah ah ?_|refine aY.nI ah ah ah ah ?_);(first|refine aY.ez ah ah cB ?_|refine aY.lr ah ah ah ?_|refine aY.nI ah ah ah ah ?_);refine aY.nl 30 ah ah ah cB ?_;exact aY.nil))⟩
 refine aB ?_;refine eR 1 ?_ (he:=by simp only[ll,hY,iK,lO,mU,cD,Nat.reduceEqDiff,aH,aI,cr,bU,b9,cL,cN,bK,bI,aM,bR,aP,reduceCtorEq,ax,az,Nat.reduceAdd,Nat.reduceLeDiff,oy];exact rfl) (hm:=by simp only[ll,hY,iK,lO,mU,cD,Nat.reduceEqDiff,aH,aI,cr,bU,b9,cL,cN,bK,bI,aM,bR,aP,reduceCtorEq,ax,az,Nat.reduceAdd,Nat.reduceLeDiff,oy];exact rfl);refine aE ?_;obtain rfl:i=(aL s []).length:=ae;have hok:yH s=true:=by rw[hr,cj ae]
 rw[eK (show(iC s).length<=(aL s []).length by simp[iC])];have hrs:=BW (s:=s) ae;refine c8 (d:=eL (iC s)) ?_;refine ar (hc:=h899 (iC s) hrs) ?_;refine aA ?_;refine aw (fun hc4=>?_) (fun hc4=>?_)
 ·simp only[bn]at hc4;refine aA ?_;refine fj [.aC] ?_;refine aR (.agg [.aC]) (he:=aZ) ?_;refine aB ?_;refine b8 (aU ?_ (ak (D.int .i64) ?_));all_goals
   have hq:gF s=([],6):=by
    unfold gF;rw[aj ae,aj (by rw[hok];simp),av hc4]
   rw[hq];first|done|rfl
 simp only[bP]at hc4;refine aB ?_;refine c8 (d:=eL (iC s)) ?_;refine ar (hc:=h900 (iC s) ⟨hc4,hrs⟩) ?_;refine aE ?_;intro u3;refine aA ?_;refine cT (fun hc5=>?_) fun hc5=>?_
 ·refine aA ?_;refine fj [.aC] ?_;refine aR (.agg [.aC]) (he:=aZ) ?_;refine aB ?_;refine b8 (aU ?_ (ak (D.int .i64) ?_));all_goals
   have hq:gF s=([],3):=by
    unfold gF;rw[aj ae,aj (by rw[hok];simp),aj (by rw[hc4];simp),av ae]
   rw[hq];first|done|rfl
 refine aA ?_;refine c8 (d:=eL (iC s)) ?_;refine aR (eL (iC s)) (he:=aZ) ?_;refine aB ?_;refine b8 (aU ?_ (ak (D.int .i64) ?_));all_goals
  have hq:gF s=(iC s,0):=by
   unfold gF;rw[aj ae,aj (by rw[hok];simp),aj (by rw[hc4];simp),aj ae]
  rw[hq];first|done|rfl
def SC (Y:Ctx):Prop:=∀(s:aq),(s.length<=1048576)->Y.pre 744 [.str s]/\Y.val 744 [.str s]=.tup [eL (gF s).1,.int .i64 (gF s).2]
def FB:aJ:=⟨1,4,jh,ct,(sq (r1 [gm dj] 1 0) (sq (rg [gm s0,gx 744 [l0] ct,gm l1,ge l2 0,ge l2 1,gb 1 (.c (.agg [.aC])),gt 1 l5 l3,gm l4] [(3,5),(2,7)]) (sq (r1 [gm s2,aO l0 bL,gm l1,cu 2 (.ld 1 true s3),cu 2 (.call 745 [l3] [[.sl 1 [.sl 7 [.a,.a,.a,.a,.a,.a,.a]]]]),gmt 2 s0,cu 2 (cP l4 l5),fg l2 l6,gm l7] 1 8) .ret)))⟩
def w572 {Y:Ctx}(hm:(Y.at 0).bz)(h744:SC Y)(h745:SD Y)(s:aq)  (hp0:s.length<=1048576):dV Y FB (.bool (nF s)) [.str s]:=by
 show bX _ _ _ [⟨_,_⟩,_,_,_] _;refine au ?_;refine aG ?_;refine ar (hc:=h744 s hp0) ?_;refine aE ?_;refine fB (eL _) ?_;refine aA ?_;refine aR (eL (gF s).1) (he:=aZ) ?_;refine aK ?_;refine c8 (d:=eL (gF s).1) ?_;refine fT (hc:=fun hf=>h745 (gF s).1 G4.1) ?_;refine aK ?_;exact b7 rfl
def Pj (Y:Ctx):Prop:=∀(s:aq),(s.length<=1048576)->Y.pre 572 [.str s]/\Y.val 572 [.str s]=.bool (nF s)
def FF:aJ:=⟨1,19,[⟨1,none⟩,⟨2,none⟩],iB,(sq (rg [gb 1 s0,gm cse,gm dj] [(3,0),(1,1),(2,2)]) (sq (sq (r1 [gf 0 s3,gd l0,gl l1,a8 l2 ch,gm l3,jK 4 0 s3,jQ 4 l5,cE 4 (.len l6),cE 4 (eF l7 uv),fF l4 l8] 4 9) (.cond s4 (sq (rg [gm cse,gm dj] [(1,0),(2,1)]) .ret) .skip)) (sq (r1 [gm (.c (.aC))] 18 0) (sq (sq (rg [gf 0 s3,gd l0,gl l1,gm bL] [(8,1),(6,2),(5,3)]) (.block 0 (.loop (sq (r1 [a8 s5 s6] 7 0) (sq (fY s7 0) (sq (.block 1 (sq (r1 [ga 1 s8 s5,gd l0,gm l1] 9 2) (sq (sq (r1 [gm s9,gl l0,a8 l1 ch,gm l2,eU 3 s9,cE 3 (.len l4),cE 3 (eF l5 uv),fF l3 l6] 10 7) (.cond kZ (sq (rg [gm cse,gm dj] [(1,0),(2,1)]) .ret) .skip)) (sq (r1 [gm (.c (.aC))] 17 0) (sq (sq (rg [gm s9,gl l0,gm bL] [(14,0),(12,1),(11,2)]) (.block 2 (.loop (sq (r1 [a8 nQ mQ] 13 0) (sq (fY rv 2) (sq (.block 3 (sq (r1 [ga 7 r8 nQ,gk 7 true l0,gb 7 (.c (.agg [.int .i64 0,.int .i64 0,.int .i64 0,.int .i64 0,.int .i64 0,.str [],.str []])),gt 7 l2 l1] 15 2) (sq (sq (r1 [gk 7 true wD,gx 827 [l0] Mc,ke l1] 16 2) (.cond DN (sq (rg [gm cse,gm dj] [(1,0),(2,1)]) .ret) .skip)) (r1 [gm BY,gk 7 true wD,gx 828 [l1] Mc,gn (.bsl 1 (.str []) 1 [(0,l2)]),gn (.app 1 l0 l3),gm l4] 17 5)))) (r1 [ay nQ ch,gm l0] 11 1))))))) (r1 [gm IL,gm BY,gx 242 [l1,(cs [44,32])] [[.sl 1 [.a]],[.a]],gn (.bsl 1 (.str []) 1 [(0,l2)]),gn (.app 1 l0 l3),gm l4] 18 5)))))) (r1 [ay s5 ch,gm l0] 5 1))))))) (sq (rg [gm IL,gx 242 [l0,(cs [32,124,124,32])] [[.sl 1 [.a]],[.a]],gm l1,gm ou] [(1,2),(2,3)]) .ret)))))⟩
def w684 {Y:Ctx}(hm:(Y.at 0).bz)(h242:Mj Y)(h827:Mt Y)(h828:Px Y)(r:sy)  (hp0:iS r):dV Y FF (.tup [.str (if jy r=true then yI r else []),.bool (jy r)]) [eL r]:=by
 show bX _ _ _ [⟨_,_⟩,_,_,_,_,_,_,_,_,_,_,_,_,_,_,_,_,_,_] _;refine au ?_;refine dE ?_;intro u0;refine aG ?_;refine js ?_;refine aB ?_;refine cT (fun hc0=>?_) fun hc0=>?_
 ·refine aK ?_;refine b8 (aU (ak D.str ?_) (ak D.bool ?_));all_goals
   have hq:jy r=false:=by
    simp only[jy];rcases hc0 with h|h
    ·rw[cJ ae];rfl
    ·rw[cJ (by omega:¬r.length<=6),Bool.and_false];rfl
   simp[hq]
 refine dE ?_;intro u1;refine aA ?_;have hb:jy r=cO (fun i=>kI r[i]!) 0 r.length:=by simp only[jy];rw[bS ae,bS ae];rfl
 refine bw hm (ι:=Nat) (fun i=>[.un,.un,.un,⟨true,.ptr 0 1 0 0⟩,.un,⟨true,.int .i64 (i:Nat)⟩,⟨true,.int .i64 (r.length:Nat)⟩,.un,⟨true,.sl 1 (r.map qw)⟩,.un,.un,.un,.un,.un,.un,.un,.un,.un,⟨true,.own 1 1 0 ((r.map jH).take i).length⟩]) (fun i=>[(0,.buf 1 [eL r]),(1,.buf 1 (((r.map jH).take i).map D.str))]) 18 (fun i=>i<=r.length/\jy r=cO (fun i=>kI r[i]!) i r.length/\1<=r.length/\r.length<=6) (fun i=>r.length-i) 0 ⟨ae,hb,ae,ae⟩ (bg.to [(0,0)] ah ah (by repeat(first|exact dz.nil|refine dz.un ?_|refine dz.eq ah ?_|refine dz.nl ah ah ?_|refine dz.ni (Or.inr ⟨_,_,_,rfl⟩) ?_)) (by(first|refine aY.ez ah ah cB ?_|refine aY.lr ah ah ah ?_|refine aY.nI ah ah ah ah ?_);refine aY.mt ah ah ah ah ?_;exact aY.nil)) ?_;rintro i ⟨hi,hr,hr1,hr6⟩;have hti:((r.map jH).take i).length<=i:=by rw[dq];omega
 refine aB ?_;refine cT (fun hc1=>?_) fun hc1=>?_
 ·refine hE ?_;intro u2;refine aB ?_;refine js ?_;refine aB ?_;refine cT (fun hc2=>?_) fun hc2=>?_
  ·refine bY ?_;refine b8 (aU (ak D.str ?_) (ak D.bool ?_));all_goals
    have hq:jy r=false:=by
     rw[hr,aX ae];have:kI r[i]! =false:=by
      simp only[kI];rcases hc2 with h|h
      ·rw[cJ ae];rfl
      ·rw[cJ (by omega:¬r[i]!.length<=6),Bool.and_false];rfl
     rw[this];rfl
    simp[hq]
  refine bY ?_;intro u3;refine aA ?_;have hal:1<=r[i]!.length/\r[i]!.length<=6:=ae;have hkb:kI r[i]! =cO (fun k=>lJ r[i]![k]!) 0 r[i]!.length:=by simp only[kI];rw[bS ae,bS ae];rfl
  refine bw hm (ι:=Nat) (fun k=>[.un,.un,.un,⟨true,.ptr 0 1 0 0⟩,.un,⟨true,.int .i64 (i:Nat)⟩,⟨true,.int .i64 (r.length:Nat)⟩,.un,⟨true,.sl 1 (r.map qw)⟩,.un,.un,⟨true,.int .i64 (k:Nat)⟩,⟨true,.int .i64 (r[i]!.length:Nat)⟩,.un,⟨true,.sl 7 (r[i]!.map cZ.D)⟩,.un,.un,⟨true,.own 2 1 0 ((r[i]!.map dN).take k).length⟩,⟨true,.own 1 1 0 ((r.map jH).take i).length⟩]) (fun k=>[(0,.buf 1 [eL r]),(1,.buf 1 (((r.map jH).take i).map D.str)),(2,.buf 1 (((r[i]!.map dN).take k).map D.str))]) 34 (fun k=>k<=r[i]!.length/\kI r[i]! =cO (fun k=>lJ r[i]![k]!) k r[i]!.length) (fun k=>r[i]!.length-k) 0 ⟨ae,hkb⟩ (bg.to [(0,0),(1,1)] ah ah (by repeat(first|exact dz.nil|refine dz.un ?_|refine dz.eq ah ?_|refine dz.nl ah ah ?_|refine dz.ni (Or.inr ⟨_,_,_,rfl⟩) ?_)) (by(first|refine aY.ez ah ah cB ?_|refine aY.lr ah ah ah ?_|refine aY.nI ah ah ah ah ?_);(first|refine aY.ez ah ah cB ?_|refine aY.lr ah ah ah ?_|refine aY.nI ah ah ah ah ?_);refine aY.mt ah ah ah ah ?_;exact aY.nil)) ?_;rintro k ⟨hk,hkr⟩;have htk:((r[i]!.map dN).take k).length<=k:=by rw[dq];omega
  refine aB ?_;refine cT (fun hc3=>?_) fun hc3=>?_
  ·refine aG ?_;first|refine cb (v:=(cZ.D _)) ?_|refine fk (v:=(cZ.D _)) ?_
   refine aE ?_;refine aR (cZ.D r[i]![k]!) (he:=aZ) ?_;refine aB ?_;have hlo:=hp0 r[i]! (bM ae) _ (bM (show k<r[i]!.length by omega));refine aE ?_;refine ar (hc:=h827 r[i]![k]! hlo.sm) ?_;refine aA ?_;refine aw (fun hc4=>?_) (fun hc4=>?_)
   ·simp only[bn]at hc4;refine iG ?_;refine b8 (aU (ak D.str ?_) (ak D.bool ?_));all_goals
     have hq:jy r=false:=by rw[hr,aX ae,hkr,aX ae,hc4];rfl
     simp[hq]
   simp only[bP]at hc4;refine aG ?_;refine ar (hc:=h828 r[i]![k]! hlo.sm) ?_;refine c7 [(.str _)] ?_;refine dE ?_;have hq:=iI dN r[i]! (show k<r[i]!.length by omega);rw[<-hq];exact⟨k+1,⟨ae,by rw[hkr,aX ae,hc4];rfl⟩,ae,(bg.to [(0,0),(1,1),(46,2)] ah ah eC (by(first|refine aY.ez ah ah cB ?_|refine aY.lr ah ah ah ?_|refine aY.nI ah ah ah ah ?_);(first|refine aY.ez ah ah cB ?_|refine aY.lr ah ah ah ?_|refine aY.nI ah ah ah ah ?_);refine aY.nl 46 ah ah ah cB ?_;exact aY.nil))⟩
  refine aB ?_;obtain rfl:k=r[i]!.length:=ae;have hok:kI r[i]! =true:=by rw[hkr,cj ae]
  rw[eK (show(r[i]!.map dN).length<=r[i]!.length by rw[bI];exact aM _)];have hj:∀t∈(r[i]!.map dN),t.length<=2097200:=fun t ht=>by
   obtain⟨c,hc,rfl⟩:=fQ.1 ht;exact cW (xw (hp0 r[i]! (bM ae) c hc)) aF
  refine aA ?_;refine ar (hc:=h242 (r[i]!.map dN) [44,32] (by rw[bI];omega) aN hj) (ha:=fun _=>ak (fun d=>[d,D.str [44,32]]) (uo (q:=D.str) (fun _=>rfl) ah)) (hp:=fun _=>⟨rJ (q:=D.str) (fun _=>rfl) ah,rfl,trivial⟩) ?_;refine c7 [.str (jH r[i]!)] ?_;refine dE ?_;have hq:=iI jH r (show i<r.length by omega);rw[<-hq];exact⟨i+1,⟨ae,by rw[hr,aX ae,hok];rfl,hr1,hr6⟩,ae,(bg.to [(0,0),(39,1)] ah ah eC (by(first|refine aY.ez ah ah cB ?_|refine aY.lr ah ah ah ?_|refine aY.nI ah ah ah ah ?_);refine aY.nl 39 ah ah ah cB ?_;exact aY.nil))⟩
 refine aB ?_;obtain rfl:i=r.length:=ae;have hfw:jy r=true:=by rw[hr,cj ae]
 rw[eK (show(r.map jH).length<=r.length by rw[bI];exact aM _)];have hj:∀t∈(r.map jH),t.length<=2097200:=fun t ht=>by
  obtain⟨a,ha,rfl⟩:=fQ.1 ht;obtain⟨i,hi,rfl⟩:=List.mem_iff_getElem.1 ha;have h1:=xA hfw hi;rw[show r[i]! =r[i]by simp[hi]]at h1;exact cW (xi (hp0 _ ha) (uA h1).2) aF
 refine aE ?_;refine ar (hc:=h242 (r.map jH) [32,124,124,32] (by rw[bI];omega) aN hj) (ha:=fun _=>ak (fun d=>[d,D.str [32,124,124,32]]) (uo (q:=D.str) (fun _=>rfl) ah)) (hp:=fun _=>⟨rJ (q:=D.str) (fun _=>rfl) ah,rfl,trivial⟩) ?_;refine aG ?_;refine b8 (aU (ak D.str ?_) (ak D.bool ?_));all_goals (simp only[hfw,aH];first|done|rfl)
def Ms (Y:Ctx):Prop:=∀(r:sy),(iS r)->Y.pre 684 [eL r]/\Y.val 684 [eL r]=.tup [.str (if jy r=true then yI r else []),.bool (jy r)]
def IM:aJ:=⟨1,5,jh,ct,(sq (rg [gb 1 s0,gm dj] [(2,0),(1,1)]) (sq (rg [gk 1 true s2,gx 684 [l0] [[.sl 1 [.sl 7 [.a,.a,.a,.a,.a,.a,.a]]]],gm l1,ge l2 0,ge l2 1,gm l3,gm l4] [(4,5),(3,6)]) (sq (r1 [gm s3,gm l0,gmt 1 s4,cu 1 (.lenS l2),cu 1 (ox l3 (i6 96)),fg l1 l4,gm l5] 1 6) .ret)))⟩
def w685 {Y:Ctx}(hm:(Y.at 0).bz)(h684:Ms Y)(r:sy)  (hp0:iS r):dV Y IM (.bool (qn r)) [eL r]:=by
 show bX _ _ _ [⟨_,_⟩,_,_,_,_] _;refine au ?_;refine aT ?_;refine ar (hc:=h684 r hp0) ?_;refine iG ?_;refine js ?_;refine aT ?_;refine b7 ?_;cases hf:jy r with
 |false=>simp[qn,hf]
 |true=>simp only[qn,hf,aH,fA];exact ed.2 ae
def Sz (Y:Ctx):Prop:=∀(r:sy),(iS r)->Y.pre 685 [eL r]/\Y.val 685 [eL r]=.bool (qn r)
def DP:aJ:=⟨1,6,jh,ct,(sq (rg [gb 1 s0,gm cse] [(2,0),(1,1)]) (sq (sq (rg [gk 1 true s2,gx 684 [l0] [[.sl 1 [.sl 7 [.a,.a,.a,.a,.a,.a,.a]]]],gm l1,ge l2 0,ge l2 1,gm l3,gm l4] [(4,5),(3,6)]) (sq (r1 [gm s3,gm l0,gmt 1 s4,cu 1 (.lenS l2),cu 1 (ox l3 (i6 96)),fg l1 l4] 5 5) (.cond s5 (sq (r1 [gm s4,gm l0] 1 1) .ret) .skip))) (xN cse)))⟩
def w496 {Y:Ctx}(hm:(Y.at 0).bz)(h684:Ms Y)(r:sy)  (hp0:iS r):dV Y DP (.str (ru r)) [eL r]:=by
 show bX _ _ _ [⟨_,_⟩,_,_,_,_,_] _;refine au ?_;refine aK ?_;refine ar (hc:=h684 r hp0) ?_;refine hE ?_;refine js ?_;refine aB ?_;refine aw (fun hc0=>?_) (fun hc0=>?_)
 ·simp only[bh,aS]at hc0;refine aK ?_;refine cV ?_;have hm:qn r=true:=by simp only[qn,hc0.1,fA,aS];have:=hc0.2;rw[hc0.1,av rfl]at this;omega
  simp only[ru,hm,hc0.1,aH]
 skip
 refine aT ?_;refine cV ?_;have hm:qn r=false:=by
  cases hf:jy r with
  |false=>simp[qn,hf]
  |true=>
   rw[hf]at hc0;simp only[aH,fA,bj]at hc0;simp only[qn,hf,fA,bj];omega
 simp[ru,hm]
def Sk (Y:Ctx):Prop:=∀(r:sy),(iS r)->Y.pre 496 [eL r]/\Y.val 496 [eL r]=.str (ru r)
def Og (Y:Ctx):Prop:=∀(s:aq),(s.length<=1048576)->Y.pre 124 [.str s,.str [124,124]]/\Y.val 124 [.str s,.str [124,124]]=.sl 1 ((aL s []).map D.str)
def Sy (Y:Ctx):Prop:=∀(s:aq)(b:UInt8),(b=32)->(s.length<=1048576)->Y.pre 683 [.str s,.str [b]]/\Y.val 683 [.str s,.str [b]]=.str (ee s)
def OY (Y:Ctx):Prop:=∀(r:Rec),(qP r/\gV r)->Y.pre 219 [Rec.D r]/\Y.val 219 [Rec.D r]=.str (iT r)
def OX (Y:Ctx):Prop:=∀(r:Rec),(qP r/\gV r)->Y.pre 215 [Rec.D r]/\Y.val 215 [Rec.D r]=.str (iT r)
def DO:aJ:=⟨1,22,[⟨1,some (1,true)⟩,⟨2,none⟩],[[.sl 1 [.sl 7 [.a,.a,.a,.a,.a,.a,.a]]],[.a]],(sq (rg [gb 1 (.c (.agg [.aC])),gm bL] [(1,0),(2,1)]) (sq (sq (r1 [gm s0,oQ l0,dn l1 (i6 96)] 3 2) (.cond s3 (sq (r1 [gn (.build [.aC] []),gt 1 s1 l0,gm jL] 2 2) .ret) .skip)) (sq (r1 [gb 1 (.c (.agg [.aC]))] 18 0) (sq (sq (rg [gm s0,gx 124 [l0,(cs [124,124])] iB,gl l1,gm bL] [(7,1),(5,2),(4,3)]) (.block 0 (.loop (sq (r1 [a8 s4 s5] 6 0) (sq (fY s6 0) (sq (.block 1 (sq (r1 [ga 1 s7 s4,gd l0,gm l1] 8 2) (sq (r1 [gm (.c (.aC))] 16 0) (sq (sq (rg [gm s8,gx 124 [l0,(cs [44])] iB,gl l1,gm bL] [(12,1),(10,2),(9,3)]) (.block 2 (.loop (sq (r1 [a8 s9 kZ] 11 0) (sq (fY nQ 2) (sq (.block 3 (sq (r1 [ga 1 mQ s9,gd l0,gm l1] 13 2) (sq (rg [gm rv,gx 683 [l0,(cs [32])] iB,gx 682 [l1] ct,gm l2,ge l3 0,ge l3 1,gb 7 (.c (.agg [.int .i64 0,.int .i64 0,.int .i64 0,.int .i64 0,.int .i64 0,.str [],.str []])),gt 7 l6 l4,gm l5] [(17,6),(14,8)]) (sq (sq (r1 [gm r8,cv l0 bL] 15 1) (.cond wD (sq (r1 [gn (.build [.aC] []),gt 1 s1 l0,gm uv] 2 2) .ret) .skip)) (r1 [gm DN,gk 7 true BY,gn (.bsl 7 (.agg [.int .i64 0,.int .i64 0,.int .i64 0,.int .i64 0,.int .i64 0,.str [],.str []]) 1 [(0,l1)]),gn (.app 7 l0 l2),gm l3] 16 4))))) (r1 [ay s9 ch,gm l0] 9 1))))))) (rg [gf 0 IL,gd l0,gm DN,gn (.bsl 1 (.aC) 1 [(0,l2)]),gn (.app 1 l1 l3),gf 0 IL,gt 1 l5 l4] []))))) (r1 [ay s4 ch,gm l0] 4 1))))))) (sq (sq (r1 [gk 1 true IL,gx 684 [l0] [[.sl 1 [.sl 7 [.a,.a,.a,.a,.a,.a,.a]]]],gm l1,ge l2 0,ge l2 1,gm l3,gm l4] 19 6) (sq (r1 [gm QZ,ke l0] 20 1) (.cond Me (sq (r1 [gn (.build [.aC] []),gt 1 s1 l0,gm uv] 2 2) .ret) .skip))) (sq (sq (r1 [gk 1 true IL,gx 685 [l0] [[.sl 1 [.sl 7 [.a,.a,.a,.a,.a,.a,.a]]]],ke l1] 21 2) (.cond s21 (sq (r1 [gn (.build [.aC] []),gt 1 s1 l0,gm jL] 2 2) .ret) .skip)) (sq (r1 [gk 1 true IL,gt 1 s1 l0,gm bL] 2 2) .ret)))))))⟩
def w495 {Y:Ctx}(hm:(Y.at 0).bz)(h124:Jl Y)(h682:Sx Y)(h683:Sy Y)(h684:Ms Y)(h685:Sz Y)(h9124:Og Y)(s:aq)  (hp0:s.length<=1048576):dV Y DO (.tup [eL (gF s).1,.int .i64 (gF s).2]) [.str s]:=by
 show bX _ _ _ [⟨_,_⟩,_,_,_,_,_,_,_,_,_,_,_,_,_,_,_,_,_,_,_,_,_] _;have hdl:=oo s [];have hgl:∀i,i<(aL s []).length->(aL s [])[i]!.length<=s.length:=fun i hi=>by
  have:=hdl.2 _ (bM hi);simpa using this
 refine au ?_;refine br ?_;intro u0;refine aA ?_;refine cT (fun hc0=>?_) fun hc0=>?_
 ·refine aA ?_;refine fj [.aC] ?_;refine aR (.agg [.aC]) (he:=aZ) ?_;refine aB ?_;refine b8 (aU ?_ (ak (D.int .i64) ?_));all_goals
   have hq:gF s=([],3):=by
    unfold gF;rw[av ae]
   rw[hq];first|done|rfl
 refine br ?_;refine ar (hc:=h9124 s ae) ?_;refine aE ?_;intro u1;refine aA ?_;refine bw hm (ι:=Nat) (fun i=>[.un,⟨true,.ptr 0 1 0 0⟩,.un,.un,⟨true,.int .i64 (i:Nat)⟩,⟨true,.int .i64 ((aL s []).length:Nat)⟩,.un,⟨true,.sl 1 ((aL s []).map D.str)⟩,.un,.un,.un,.un,.un,.un,.un,.un,.un,.un,⟨true,.ptr 5 1 0 0⟩,.un,.un,.un]) (fun i=>[(0,.buf 1 [.agg [.aC]]),(5,.buf 1 [.agg [.own 1 1 0 ((iC s).take i).length]]),(1,.buf 1 (((iC s).take i).map qw))]) 10 (fun i=>i<=(aL s []).length/\yH s=cO (fun i=>U7 (aL s [])[i]!) i (aL s []).length) (fun i=>(aL s []).length-i) 0 ⟨ae,rfl⟩ (bg.to [(0,0),(5,5)] ah ah eC (by(first|refine aY.ez ah ah cB ?_|refine aY.lr ah ah ah ?_|refine aY.nI ah ah ah ah ?_);refine aY.ni 5 ah ah (by exact⟨_,_,rfl,⟨_,rfl,⟨_,_,rfl,Or.inr ⟨_,_,_,rfl⟩,rfl⟩⟩,rfl⟩) ?_;refine aY.mt ah ah ah ah ?_;exact aY.nil)) ?_;rintro i ⟨hi,hr⟩;have hrt:((iC s).take i).length<=i:=by rw[dq];omega
 refine aB ?_;refine cT (fun hc1=>?_) fun hc1=>?_
 ·refine jr ?_;have hgi:=hgl i ae;have hsl:=de (aL s [])[i]! 44;have hsp:1<=(ai (aL s [])[i]! 44).length:=fq _ _ _;refine aE ?_;refine ar (v:=.sl 1 ((ai (aL s [])[i]! 44).map D.str)) (hc:=h124 (aL s [])[i]! 44 ae) ?_;refine aE ?_;intro u2;refine aA ?_;refine bw hm (ι:=Nat) (fun k=>[.un,⟨true,.ptr 0 1 0 0⟩,.un,.un,⟨true,.int .i64 (i:Nat)⟩,⟨true,.int .i64 ((aL s []).length:Nat)⟩,.un,⟨true,.sl 1 ((aL s []).map D.str)⟩,.un,⟨true,.int .i64 (k:Nat)⟩,⟨true,.int .i64 ((ai (aL s [])[i]! 44).length:Nat)⟩,.un,⟨true,.sl 1 ((ai (aL s [])[i]! 44).map D.str)⟩,.un,.un,.un,⟨true,.own 2 7 0 ((mR (aL s [])[i]!).take k).length⟩,.un,⟨true,.ptr 5 1 0 0⟩,.un,.un,.un]) (fun k=>[(0,.buf 1 [.agg [.aC]]),(5,.buf 1 [.agg [.own 1 1 0 ((iC s).take i).length]]),(1,.buf 1 (((iC s).take i).map qw)),(2,.buf 7 (((mR (aL s [])[i]!).take k).map cZ.D))]) 19 (fun k=>k<=(ai (aL s [])[i]! 44).length/\U7 (aL s [])[i]! =cO (fun k=>(ef (ee (ai (aL s [])[i]! 44)[k]!)).isSome) k (ai (aL s [])[i]! 44).length) (fun k=>(ai (aL s [])[i]! 44).length-k) 0 ⟨ae,rfl⟩ (bg.to [(0,0),(5,5),(1,1)] ah ah (by repeat(first|exact dz.nil|refine dz.un ?_|refine dz.eq ah ?_|refine dz.nl ah ah ?_|refine dz.ni (Or.inr ⟨_,_,_,rfl⟩) ?_)) (by(first|refine aY.ez ah ah cB ?_|refine aY.lr ah ah ah ?_|refine aY.nI ah ah ah ah ?_);(first|refine aY.ez ah ah cB ?_|refine aY.lr ah ah ah ?_|refine aY.nI ah ah ah ah ?_);(first|refine aY.ez ah ah cB ?_|refine aY.lr ah ah ah ?_|refine aY.nI ah ah ah ah ?_);refine aY.mt ah ah ah ah ?_;exact aY.nil)) ?_;rintro k ⟨hk,hwk⟩;have htk:((mR (aL s [])[i]!).take k).length<=k:=by rw[dq];omega
  refine aB ?_;refine cT (fun hc2=>?_) fun hc2=>?_
  ·refine bY ?_;have hwl:=yN (aL s [])[i]! 44 (show k<(ai (aL s [])[i]! 44).length by omega);have hbl:=uD (ai (aL s [])[i]! 44)[k]!;refine aE ?_;refine ar (hc:=h683 (ai (aL s [])[i]! 44)[k]! 32 rfl ae) ?_;refine ar (v:=.tup [cZ.D ((ef (ee (ai (aL s [])[i]! 44)[k]!)).getD dZ),.int .i64 (if(ef (ee (ai (aL s [])[i]! 44)[k]!)).isSome=true then 0 else 6)]) (hc:=by rw[<-JP];exact h682 (ee (ai (aL s [])[i]! 44)[k]!) ae) ?_;refine aE ?_;refine fB (cZ.D _) ?_;refine aA ?_;refine aR (cZ.D ((ef (ee (ai (aL s [])[i]! 44)[k]!)).getD dZ)) (he:=aZ) ?_;refine br ?_;refine aw (fun hc3=>?_) (fun hc3=>?_)
   ·have hsm:(ef (ee (ai (aL s [])[i]! 44)[k]!)).isSome=false:=by cases hx:(ef (ee (ai (aL s [])[i]! 44)[k]!)).isSome with|false=>rfl|true=>rw[hx]at hc3;exact absurd hc3 aF
    refine aA ?_;refine fj [.aC] ?_;refine aR (.agg [.aC]) (he:=aZ) ?_;refine br ?_;refine b8 (aU ?_ (ak (D.int .i64) ?_));all_goals
     have hq:gF s=([],6):=by
      have hno:yH s=false:=by rw[hr,aX ae,hwk,aX ae,hsm];rfl
      unfold gF;rw[aj ae,av hno]
     rw[hq];first|done|rfl
   have hsm:(ef (ee (ai (aL s [])[i]! 44)[k]!)).isSome=true:=by cases hx:(ef (ee (ai (aL s [])[i]! 44)[k]!)).isSome with|true=>rfl|false=>rw[hx]at hc3;exact absurd hc3 aF
   refine aB ?_;refine c8 (d:=cZ.D ((ef (ee (ai (aL s [])[i]! 44)[k]!)).getD dZ)) ?_;refine c7 [(cZ.D _)] ?_;refine dE ?_;have hq:=iI (fun x=>(ef (ee x)).getD dZ) (ai (aL s [])[i]! 44) (show k<(ai (aL s [])[i]! 44).length by omega);rw[show(fun x=>(ef (ee x)).getD dZ)=fun x=>(ef (ee x)).getD dZ from rfl]at hq;have hq:(mR (aL s [])[i]!).take (k+1)=_:=hq;rw[show(mR (aL s [])[i]!).take k++[(ef (ee (ai (aL s [])[i]! 44)[k]!)).getD dZ]=(mR (aL s [])[i]!).take (k+1)from hq.symm];exact⟨k+1,⟨ae,by rw[hwk,aX ae,hsm];rfl⟩,ae,(bg.to [(0,0),(5,5),(1,1),(37,2)] ah ah eC (by(first|refine aY.ez ah ah cB ?_|refine aY.lr ah ah ah ?_|refine aY.nI ah ah ah ah ?_);(first|refine aY.ez ah ah cB ?_|refine aY.lr ah ah ah ?_|refine aY.nI ah ah ah ah ?_);(first|refine aY.ez ah ah cB ?_|refine aY.lr ah ah ah ?_|refine aY.nI ah ah ah ah ?_);refine aY.nl 37 ah ah ah cB ?_;exact aY.nil))⟩
  refine aA ?_;refine eR 2 ?_ (he:=by simp only[ll,hY,iK,lO,mU,cD,Nat.reduceEqDiff,aH,aI,cr,bU,b9,cL,cN,bK,bI,aM,bR,aP,reduceCtorEq,ax,az,Nat.reduceAdd,Nat.reduceLeDiff,oy];exact rfl) (hm:=by simp only[ll,hY,iK,lO,mU,cD,Nat.reduceEqDiff,aH,aI,cr,bU,b9,cL,cN,bK,bI,aM,bR,aP,reduceCtorEq,ax,az,Nat.reduceAdd,Nat.reduceLeDiff,oy];exact rfl);refine aE ?_;obtain rfl:k=(ai (aL s [])[i]! 44).length:=ae;rw[eK (show(mR (aL s [])[i]!).length<=(ai (aL s [])[i]! 44).length by simp[mR])];refine aE ?_;refine bA (v:=.own _ _ _ _) ?_;refine aE ?_;refine c7 [qw (mR (aL s [])[i]!)] ?_;refine aA ?_;refine aR (.agg [.own 24 1 0 ((iC s).take i++[mR (aL s [])[i]!]).length]) (he:=aZ) ?_;refine br ?_;have hq:(iC s).take (i+1)=(iC s).take i++[mR (aL s [])[i]!]:=iI mR (aL s []) (show i<(aL s []).length by omega);rw[<-hq];exact⟨i+1,⟨ae,by rw[hr,aX ae,hwk,cj ae];rfl⟩,ae,(bg.to [(0,0),(5,5),(24,1)] ah ah eC (by(first|refine aY.ez ah ah cB ?_|refine aY.lr ah ah ah ?_|refine aY.nI ah ah ah ah ?_);(first|refine aY.ez ah ah cB ?_|refine aY.lr ah ah ah ?_|refine aY.nI ah ah ah ah ?_);refine aY.nl 24 ah ah ah cB ?_;exact aY.nil))⟩
 refine aB ?_;refine eR 1 ?_ (he:=by simp only[ll,hY,iK,lO,mU,cD,Nat.reduceEqDiff,aH,aI,cr,bU,b9,cL,cN,bK,bI,aM,bR,aP,reduceCtorEq,ax,az,Nat.reduceAdd,Nat.reduceLeDiff,oy];exact rfl) (hm:=by simp only[ll,hY,iK,lO,mU,cD,Nat.reduceEqDiff,aH,aI,cr,bU,b9,cL,cN,bK,bI,aM,bR,aP,reduceCtorEq,ax,az,Nat.reduceAdd,Nat.reduceLeDiff,oy];exact rfl);refine aE ?_;obtain rfl:i=(aL s []).length:=ae;have hok:yH s=true:=by rw[hr,cj ae]
 rw[eK (show(iC s).length<=(aL s []).length by simp[iC])];have hrs:=BW (s:=s) ae;refine c8 (d:=eL (iC s)) ?_;refine ar (hc:=h684 (iC s) hrs) ?_;refine hE ?_;refine aw (fun hc4=>?_) (fun hc4=>?_)
 ·simp only[bn]at hc4;refine aA ?_;refine fj [.aC] ?_;refine aR (.agg [.aC]) (he:=aZ) ?_;refine aB ?_;refine b8 (aU ?_ (ak (D.int .i64) ?_));all_goals
   have hq:gF s=([],6):=by
    unfold gF;rw[aj ae,aj (by rw[hok];simp),av hc4]
   rw[hq];first|done|rfl
 simp only[bP]at hc4;refine aB ?_;refine c8 (d:=eL (iC s)) ?_;refine ar (hc:=h685 (iC s) hrs) ?_;refine aA ?_;refine aw (fun hc5=>?_) (fun hc5=>?_)
 ·simp only[bn,qn,hc4,fA,bj]at hc5;refine aA ?_;refine fj [.aC] ?_;refine aR (.agg [.aC]) (he:=aZ) ?_;refine aB ?_;refine b8 (aU ?_ (ak (D.int .i64) ?_));all_goals
   have hq:gF s=([],3):=by
    unfold gF;rw[aj ae,aj (by rw[hok];simp),aj (by rw[hc4];simp),av ae]
   rw[hq];first|done|rfl
 simp only[bP,qn,hc4,fA,aS]at hc5;refine aA ?_;refine c8 (d:=eL (iC s)) ?_;refine aR (eL (iC s)) (he:=aZ) ?_;refine aB ?_;refine b8 (aU ?_ (ak (D.int .i64) ?_));all_goals
  have hq:gF s=(iC s,0):=by
   unfold gF;rw[aj ae,aj (by rw[hok];simp),aj (by rw[hc4];simp),aj ae]
  rw[hq];first|done|rfl
def Sj (Y:Ctx):Prop:=∀(s:aq),(s.length<=1048576)->Y.pre 495 [.str s]/\Y.val 495 [.str s]=.tup [eL (gF s).1,.int .i64 (gF s).2]
def zF:aJ:=⟨1,4,jh,ct,(sq (r1 [gm dj] 1 0) (sq (rg [gm s0,gx 495 [l0] ct,gm l1,ge l2 0,ge l2 1,gb 1 (.c (.agg [.aC])),gt 1 l5 l3,gm l4] [(3,5),(2,7)]) (sq (r1 [gm s2,aO l0 bL,gm l1,cu 2 (.ld 1 true s3),cu 2 (.call 496 [l3] [[.sl 1 [.sl 7 [.a,.a,.a,.a,.a,.a,.a]]]]),gmt 2 s0,cu 2 (cP l4 l5),fg l2 l6,gm l7] 1 8) .ret)))⟩
def w444 {Y:Ctx}(hm:(Y.at 0).bz)(h495:Sj Y)(h496:Sk Y)(s:aq)  (hp0:s.length<=1048576):dV Y zF (.bool (nF s)) [.str s]:=by
 show bX _ _ _ [⟨_,_⟩,_,_,_] _;refine au ?_;refine aG ?_;refine ar (hc:=h495 s hp0) ?_;refine aE ?_;refine fB (eL _) ?_;refine aA ?_;refine aR (eL (gF s).1) (he:=aZ) ?_;refine aK ?_;refine c8 (d:=eL (gF s).1) ?_;refine fT (hc:=fun hf=>h496 (gF s).1 G4.1) ?_;refine aK ?_;exact b7 rfl
def RY (Y:Ctx):Prop:=∀(s:aq),(s.length<=1048576)->Y.pre 444 [.str s]/\Y.val 444 [.str s]=.bool (nF s)
def Oi (Y:Ctx)(u:Nat):Prop:=∀(l:List Nd)(i:Int)(b:Bool),(gr l/\l.length<=15/\0<=i/\i<l.length)->2*i.toNat+1<u->Y.pre 951 [.sl 5 (l.map Nd.D),.int .i64 i,.bool b]/\Y.val 951 [.sl 5 (l.map Nd.D),.int .i64 i,.bool b]=.str (kE (kp l i) b)
def SG (Y:Ctx):Prop:=∀(l:List Nd)(i:Int),(gr l/\l.length<=15/\0<=i/\i<l.length)->Y.pre 811 [.sl 5 (l.map Nd.D),.int .i64 i]/\Y.val 811 [.sl 5 (l.map Nd.D),.int .i64 i]=.str (kp l i)
def Js (Y:Ctx)(u:Nat):Prop:=∀(l:List Nd)(i:Int),(gr l/\l.length<=15/\0<=i/\i<l.length)->2*i.toNat<u->Y.pre 811 [.sl 5 (l.map Nd.D),.int .i64 i]/\Y.val 811 [.sl 5 (l.map Nd.D),.int .i64 i]=.str (kp l i)
def Fb:aJ:=⟨1,3,jh,ct,(sq (rg [gb 5 s0,gm dj] [(2,0),(1,1)]) (sq (r1 [gf 0 s2,gd l0,aO l1 ch,gm l2,mP 3 3 s2,kd 3 l4,cu 3 (tz l5 bL),fg l3 l6,gm l7,mP 8 3 s2,kd 8 l9,cu 8 (qa l10 jL),fg l8 gJ,gm iM,mP 13 4 s2,kd 13 ku,cu 13 (.call 357 [lx] ct),fg jN n9,gm pV,mP 18 1 s2,kd 18 sn,cu 18 (cP wv bL),fg qu zg,gm Ak,mP 23 2 s2,kd 23 Ef,cu 23 (cP EL bL),fg Ee Jc,gm Kn] 1 28) .ret))⟩
def UZ {Y:Ctx}(hm:(Y.at 0).bz)(h357:Ek Y)(n:Nd)   :dV Y Fb (.bool (oa n)) [Nd.D n]:=by
 show bX _ _ _ [⟨_,_⟩,_,_] _;refine au ?_;refine U9 ?_;refine ar (hc:=h357 _) ?_;refine sI ?_;refine b7 ?_;simp only[oa]
def Od (Y:Ctx):Prop:=∀(n:Nd),Y.pre 1098 [Nd.D n]/\Y.val 1098 [Nd.D n]=.bool (oa n)
def Ie:aJ:=⟨0,1,[⟨0,none⟩],[[.sl 1 [.a]]],(sq (r1 [gm (.c (.aC))] 0 0) (sq (r1 [gn (.bsl 1 (.str []) 3 [(0,(cs [111,115])),(1,(cs [97,114,99,104])),(2,(cs [97,98,105]))]),gm l0] 0 1) .ret))⟩
def w950 {Y:Ctx}(hm:(Y.at 0).bz)     :dV Y Ie (.sl 1 (qf.map D.str)) []:=by
 show bX _ _ _ [_] _;refine au ?_;refine aB ?_;refine c7 [(.str _),(.str _),(.str _)] ?_;refine aA ?_;refine eR 1 ?_;refine aE ?_;refine b8 (?_);rfl
def PA (Y:Ctx):Prop:=Y.pre 950 []/\Y.val 950 []=.sl 1 (qf.map D.str)
def Ix:aJ:=⟨1,2,jh,ct,(sq (r1 [gm cse] 1 0) (sq (r1 [gn (.bsl 1 (.str []) 3 [(0,(cs [111,115])),(1,(cs [97,114,99,104])),(2,(cs [97,98,105]))]),gm s0,ga 1 l0 l1,gd l2,gm l3] 1 4) .ret))⟩
def U0 {Y:Ctx}(hm:(Y.at 0).bz)  (k:Int)  (hp0:0<=k/\k<3):dV Y Ix (.str (sk k)) [.int .i64 k]:=by
 show bX _ _ _ [⟨_,_⟩,_] _;refine au ?_;refine aB ?_;refine c7 [(.str _),(.str _),(.str _)] ?_;refine aE ?_;refine jG k.toNat ?_;refine Lk (es:=[.str [111,115],.str [97,114,99,104],.str [97,98,105]]) (.str (sk k)) (hi:=fun _=>cX) (hv:=fun _=>Km hp0.1 hp0.2) ?_;refine aB ?_;exact cV rfl
def Ji (Y:Ctx):Prop:=∀(k:Int),(0<=k/\k<3)->Y.pre 1099 [.int .i64 k]/\Y.val 1099 [.int .i64 k]=.str (sk k)
def Ff:aJ:=⟨2,4,[⟨2,none⟩],ct,(sq (r1 [gm cse] 2 0) (sq (sq (r1 [gm s1] 3 0) (.cond s3 (sq (r1 [gm s0,ay (cs [40,32]) l0,ay l1 (cs [32,41]),gm l2] 2 3) .ret) .skip)) (sq (r1 [gm s0,gm l0] 2 1) .ret)))⟩
def U1 {Y:Ctx}(hm:(Y.at 0).bz)  (s:aq)(b:Bool)  (hp0:s.length<=1000000000):dV Y Ff (.str (kE s b)) [.str s,.bool b]:=by
 show bX _ _ _ [⟨_,_⟩,⟨_,_⟩,_,_] _;refine au ?_;refine aK ?_;refine cT (fun hc0=>?_) fun hc0=>?_
 ·refine aB ?_;refine gG ?_;refine gG ?_;refine aB ?_;refine cV ?_;simp[kE,hc0]
 refine aK ?_;refine cV ?_;simp[kE,hc0]
def Oe (Y:Ctx):Prop:=∀(s:aq)(b:Bool),(s.length<=1000000000)->Y.pre 1100 [.str s,.bool b]/\Y.val 1100 [.str s,.bool b]=.str (kE s b)
def Ic:aJ:=⟨3,5,[⟨3,none⟩],ct,(sq (r1 [gm cse] 3 0) (sq (sq (r1 [gm s2] 4 0) (.cond s4 (sq (r1 [gm s0,gm s1,gx 811 [l0,l1] [[.sl 5 [.a,.a,.a,.a,.a]],[.a]],ay (cs [40,32]) l2,ay l3 (cs [32,41]),gm l4] 3 5) .ret) .skip)) (sq (r1 [gm s0,gm s1,gx 811 [l0,l1] [[.sl 5 [.a,.a,.a,.a,.a]],[.a]],gm l2] 3 3) .ret)))⟩
def w951 {Y:Ctx}(hm:(Y.at 0).bz)  (l:List Nd)(i:Int)(b:Bool)(h811:Js (Y.at 0) (2*i.toNat+1))(hp0:gr l/\l.length<=15/\0<=i/\i<l.length):dV Y Ic (.str (kE (kp l i) b)) [.sl 5 (l.map Nd.D),.int .i64 i,.bool b]:=by
 show bX _ _ _ [⟨_,_⟩,⟨_,_⟩,⟨_,_⟩,_,_] _;have htl:=rH hp0.1 hp0.2.1 hp0.2.2.1 hp0.2.2.2;refine au ?_;refine aK ?_;refine cT (fun hc0=>?_) fun hc0=>?_
 ·refine aG ?_;refine ar (hc:=h811 l i hp0 ae) ?_;refine gG ?_;refine gG ?_;refine aB ?_;refine cV ?_;simp[kE,hc0]
 refine aG ?_;refine ar (hc:=h811 l i hp0 ae) ?_;refine aB ?_;refine cV ?_;simp[kE,hc0]
def Ig:aJ:=⟨2,10,[⟨2,none⟩],ct,(sq (r1 [gm cse] 2 0) (sq (r1 [gm s0,gm s1,ga 5 l0 l1,gk 5 true l2,gb 5 (.c (.agg [.int .i64 0,.int .i64 0,.int .i64 0,.int .i64 0,.str []])),gt 5 l4 l3] 3 4) (sq (sq (r1 [gf 0 s3,gd l0] 4 1) (.block 0 (sq (r1 [aO s4 ch,gm l0] 5 1) (.cond s5 (sq (r2 [gx 950 [] [],gf 3 s3,gd l1,ga 1 l0 l2,gd l3,ay l4 (cs [32,61,32]),gf 4 s3,gd l6,ay l5 l7,gm l8] 2 9) .ret) (sq (r1 [aO s4 jE,gm l0] 6 1) (.cond s6 (sq (r1 [gm s0,gf 1 s3,gd l1,ga 5 l0 l2,gk 5 true l3,gb 5 (.c (.agg [.int .i64 0,.int .i64 0,.int .i64 0,.int .i64 0,.str []])),gt 5 l5 l4] 7 5) (sq (sq (r1 [gf 0 s7,gd l0,aO l1 ch] 8 2) (.cond s8 (sq (r2 [gx 950 [] [],gf 3 s7,gd l1,ga 1 l0 l2,gd l3,ay l4 (cs [32,33,61,32]),gf 4 s7,gd l6,ay l5 l7,gm l8] 2 9) .ret) .skip)) (sq (r1 [gm s0,gf 1 s3,gd l1,gf 0 s7,gd l3,cv l4 jE,gx 951 [l0,l2,l5] [[.sl 5 [.a,.a,.a,.a,.a]],[.a],[.a]],ay (cs [110,111,116,32]) l6,gm l7] 2 8) .ret))) (sq (r1 [aO s4 jL,gm l0] 9 1) (.cond s9 (sq (r2 [gm s0,gf 1 s3,gd l1,gm s0,gf 1 s3,gd l4,ga 5 l3 l5,gf 0 l6,gd l7,aO l8 sj,gx 951 [l0,l2,l9] [[.sl 5 [.a,.a,.a,.a,.a]],[.a],[.a]],ay l10 (cs [32,97,110,100,32]),gm s0,gf 2 s3,gd jN,gm s0,gf 2 s3,gd n9,ga 5 lx pV,gf 0 qu,gd sn,aO wv sj,gm zg,eU 22 s0,jK 22 2 s3,jQ 22 Ef,cE 22 (.ia 5 Ee EL),jK 22 0 Jc,jQ 22 Kn,cE 22 (cP Np jL),fF Ak Nq,gx 951 [iM,ku,Qp] [[.sl 5 [.a,.a,.a,.a,.a]],[.a],[.a]],ay gJ Rh,gm Ri] 2 33) .ret) .skip)))))))) (sq (r2 [gm s0,gf 1 s3,gd l1,gx 811 [l0,l2] [[.sl 5 [.a,.a,.a,.a,.a]],[.a]],ay l3 (cs [32,111,114,32]),gm s0,gf 2 s3,gd l6,gm s0,gf 2 s3,gd l9,ga 5 l8 l10,gf 0 gJ,gd iM,aO jN sj,gx 951 [l5,l7,ku] [[.sl 5 [.a,.a,.a,.a,.a]],[.a],[.a]],ay l4 lx,gm n9] 2 17) .ret))))⟩
def w811 {Y:Ctx}(hm:(Y.at 0).bz)(h950:PA Y)(l:List Nd)(i:Int)(h811:Js (Y.at 0) (2*i.toNat))(h951:Oi (Y.at 0) (2*i.toNat))(hp0:gr l/\l.length<=15/\0<=i/\i<l.length):dV Y Ig (.str (kp l i)) [.sl 5 (l.map Nd.D),.int .i64 i]:=by
 show bX _ _ _ [⟨_,_⟩,⟨_,_⟩,_,_,_,_,_,_,_,_] _;obtain⟨hk,hl15,hi0,hi1⟩:=hp0;have htx:=Ha hk hi0 hi1;obtain⟨k1,k2,k3⟩:=hk i.toNat ae;refine au ?_;refine aK ?_;first|refine cb (v:=(Nd.D _)) ?_|refine fk (v:=(Nd.D _)) ?_
 refine mO ?_;refine wp_cond (fun hc0=>?_) (fun hc0=>?_)
 ·simp only[aS]at hc0;have k1:=k1 hc0;have hkl:=pd l[i.toNat]!.key;refine aE ?_;refine ar (hc:=h950) ?_;refine aA ?_;refine cg l[i.toNat]!.key.toNat (hb:=fun _=>by show _<3;omega) ?_;refine cb (q:=D.str) (xs:=qf) (hi:=fun _=>by show _<3;omega) (i:=l[i.toNat]!.key.toNat) (k:=1) (o:=0) (v:=(.str (sk l[i.toNat]!.key))) (hv:=fun _=>ak D.str (rV k1.1 k1.2.1)) ?_;refine gG ?_;refine aA ?_;refine gG ?_;refine aG ?_;refine cV ?_;rw[htx,av hc0]
 simp only[bj]at hc0;have ka:=k2 hc0;have hla:=rH hk hl15 (i:=l[i.toNat]!.a) ae ae;have hwa:=fun b=>nU (kp l l[i.toNat]!.a) b
 refine aG ?_;refine wp_cond (fun hc1=>?_) (fun hc1=>?_)
 ·simp only[aS]at hc1;refine aG ?_;refine cg l[i.toNat]!.a.toNat ?_;first|refine cb (v:=(Nd.D _)) ?_|refine fk (v:=(Nd.D _)) ?_
  refine dE ?_;refine aw (fun hc2=>?_) (fun hc2=>?_)
  ·simp only[aS]at hc2;have k4:=(hk l[i.toNat]!.a.toNat ae).1 hc2;have hkl:=pd l[l[i.toNat]!.a.toNat]!.key;refine aA ?_;refine ar (hc:=h950) ?_;refine aA ?_;refine cg l[l[i.toNat]!.a.toNat]!.key.toNat (hb:=fun _=>by show _<3;omega) ?_;refine cb (q:=D.str) (xs:=qf) (hi:=fun _=>by show _<3;omega) (i:=l[l[i.toNat]!.a.toNat]!.key.toNat) (k:=1) (o:=0) (v:=(.str (sk l[l[i.toNat]!.a.toNat]!.key))) (hv:=fun _=>ak D.str (rV k4.1 k4.2.1)) ?_;refine gG ?_;refine aA ?_;refine gG ?_;refine aG ?_;refine cV ?_;rw[htx,aj hc0,av hc1,av hc2]
  try simp only[iz]at hc2
  refine bY ?_;refine ar (hc:=h951 l l[i.toNat]!.a _ ⟨hk,hl15,ae,ae⟩ ae) ?_;have hwx:=hwa (!decide (l[l[i.toNat]!.a.toNat]!.op=2));refine gG ?_;refine aG ?_;refine cV ?_;rw[htx,aj hc0,av hc1,aj hc2]
 simp only[bj]at hc1;have kb:=k3 hc0 hc1;have hlb:=rH hk hl15 (i:=l[i.toNat]!.b) ae ae;have hwb:=fun b=>nU (kp l l[i.toNat]!.b) b
 refine aG ?_;refine gN (fun hc3=>?_) fun hc3=>?_
 ·refine br ?_;refine cg l[i.toNat]!.a.toNat ?_;refine aB ?_;refine ar (hc:=h951 l l[i.toNat]!.a _ ⟨hk,hl15,ae,ae⟩ ae) ?_;have hwx:=hwa (decide (l[l[i.toNat]!.a.toNat]!.op=4));refine gG ?_;refine aK ?_;refine cg l[i.toNat]!.b.toNat ?_;refine br ?_;refine cg l[i.toNat]!.b.toNat ?_;refine aG ?_;refine ar (hc:=h951 l l[i.toNat]!.b _ ⟨hk,hl15,ae,ae⟩ ae) ?_;have hwy:=hwb (decide (l[l[i.toNat]!.b.toNat]!.op=4) ||decide (l[l[i.toNat]!.b.toNat]!.op=3));refine gG ?_;refine aG ?_;refine cV ?_;rw[htx,aj hc0,aj hc1,av hc3]
 refine aK ?_;refine ar (hc:=h811 l l[i.toNat]!.a ⟨hk,hl15,ae,ae⟩ ae) ?_;refine gG ?_;refine aK ?_;refine cg l[i.toNat]!.b.toNat ?_;refine aB ?_;refine ar (hc:=h951 l l[i.toNat]!.b _ ⟨hk,hl15,ae,ae⟩ ae) ?_;have hwy:=hwb (decide (l[l[i.toNat]!.b.toNat]!.op=4));refine gG ?_;refine aB ?_;refine cV ?_;rw[htx,aj hc0,aj hc1,aj hc3]
def Ob (Y:Ctx):Prop:=∀(l:List Nd)(i:Int),(gr l/\l.length<=15/\0<=i/\i<l.length)->Y.pre 1036 [.sl 5 (l.map Nd.D),.int .i64 i]/\Y.val 1036 [.sl 5 (l.map Nd.D),.int .i64 i]=.str (kp l i)
def Jh (Y:Ctx)(u:Nat):Prop:=∀(l:List Nd)(i:Int),(gr l/\l.length<=15/\0<=i/\i<l.length)->2*i.toNat<u->Y.pre 1036 [.sl 5 (l.map Nd.D),.int .i64 i]/\Y.val 1036 [.sl 5 (l.map Nd.D),.int .i64 i]=.str (kp l i)
def Fc:aJ:=⟨2,12,[⟨2,none⟩],ct,(sq (r1 [gm cse] 2 0) (sq (r1 [gm s0,gm s1,ga 5 l0 l1,gk 5 true l2,gb 5 (.c (.agg [.int .i64 0,.int .i64 0,.int .i64 0,.int .i64 0,.str []])),gt 5 l4 l3] 3 4) (sq (sq (r1 [gf 0 s3,gd l0] 4 1) (.block 0 (sq (r1 [aO s4 ch,gm l0] 5 1) (.cond s5 (sq (r2 [gf 3 s3,gd l0,gx 1099 [l1] ct,ay l2 (cs [32,61,32]),gf 4 s3,gd l4,ay l3 l5,gm l6] 2 7) .ret) (sq (r1 [aO s4 jE,gm l0] 6 1) (.cond s6 (sq (r1 [gm s0,gf 1 s3,gd l1,ga 5 l0 l2,gk 5 true l3,gb 5 (.c (.agg [.int .i64 0,.int .i64 0,.int .i64 0,.int .i64 0,.str []])),gt 5 l5 l4] 7 5) (sq (sq (r1 [gf 0 s7,gd l0,aO l1 ch] 8 2) (.cond s8 (sq (r2 [gf 3 s7,gd l0,gx 1099 [l1] ct,ay l2 (cs [32,33,61,32]),gf 4 s7,gd l4,ay l3 l5,gm l6] 2 7) .ret) .skip)) (sq (r2 [gm s0,gf 1 s3,gd l1,gx 1036 [l0,l2] [[.sl 5 [.a,.a,.a,.a,.a]],[.a]],gf 0 s7,gd l4,cv l5 jE,gx 1100 [l3,l6] iB,ay (cs [110,111,116,32]) l7,gm l8] 2 9) .ret))) (sq (r1 [aO s4 jL,gm l0] 9 1) (.cond s9 (sq (rt [gm s0,gf 1 s3,gd l1,ga 5 l0 l2,gf 0 l3,gd l4,gm s0,gf 2 s3,gd l7,ga 5 l6 l8,gf 0 l9,gd l10,gm l5,gm gJ] [(10,12),(11,13)]) (sq (r2 [gm s0,gf 1 s3,gd l1,gx 1036 [l0,l2] [[.sl 5 [.a,.a,.a,.a,.a]],[.a]],gm kZ,aO l4 sj,gx 1100 [l3,l5] iB,ay l6 (cs [32,97,110,100,32]),gm s0,gf 2 s3,gd l9,gx 1036 [l8,l10] [[.sl 5 [.a,.a,.a,.a,.a]],[.a]],gm nQ,aO iM sj,gm jN,eU 14 nQ,cE 14 (cP lx jL),fF ku n9,gx 1100 [gJ,pV] iB,ay l7 qu,gm sn] 2 20) .ret)) .skip)))))))) (sq (r2 [gm s0,gf 1 s3,gd l1,gx 1036 [l0,l2] [[.sl 5 [.a,.a,.a,.a,.a]],[.a]],ay l3 (cs [32,111,114,32]),gm s0,gf 2 s3,gd l6,gx 1036 [l5,l7] [[.sl 5 [.a,.a,.a,.a,.a]],[.a]],gm s0,gf 2 s3,gd l10,ga 5 l9 gJ,gf 0 iM,gd jN,aO ku sj,gx 1100 [l8,lx] iB,ay l4 n9,gm pV] 2 18) .ret))))⟩
def UW {Y:Ctx}(hm:(Y.at 0).bz)(h1099:Ji Y)(h1100:Oe Y)(l:List Nd)(i:Int)(h1036:Jh (Y.at 0) (2*i.toNat))(hp0:gr l/\l.length<=15/\0<=i/\i<l.length):dV Y Fc (.str (kp l i)) [.sl 5 (l.map Nd.D),.int .i64 i]:=by
 show bX _ _ _ [⟨_,_⟩,⟨_,_⟩,_,_,_,_,_,_,_,_,_,_] _;obtain⟨hk,hl15,hi0,hi1⟩:=hp0;have htx:=Ha hk hi0 hi1;obtain⟨k1,k2,k3⟩:=hk i.toNat ae;refine au ?_;refine aK ?_;first|refine cb (v:=(Nd.D _)) ?_|refine fk (v:=(Nd.D _)) ?_
 refine mO ?_;refine wp_cond (fun hc0=>?_) (fun hc0=>?_)
 ·simp only[aS]at hc0;have k1:=k1 hc0;have hkl:=pd l[i.toNat]!.key;refine aB ?_;refine ar (hc:=h1099 l[i.toNat]!.key ⟨k1.1,k1.2.1⟩) ?_;refine gG ?_;refine aA ?_;refine gG ?_;refine aG ?_;refine cV ?_;rw[htx,av hc0]
 simp only[bj]at hc0;have ka:=k2 hc0;have hla:=rH hk hl15 (i:=l[i.toNat]!.a) ae ae;have hwa:=fun b=>nU (kp l l[i.toNat]!.a) b
 refine aG ?_;refine wp_cond (fun hc1=>?_) (fun hc1=>?_)
 ·simp only[aS]at hc1;refine aG ?_;refine cg l[i.toNat]!.a.toNat ?_;first|refine cb (v:=(Nd.D _)) ?_|refine fk (v:=(Nd.D _)) ?_
  refine dE ?_;refine aw (fun hc2=>?_) (fun hc2=>?_)
  ·simp only[aS]at hc2;have k4:=(hk l[i.toNat]!.a.toNat ae).1 hc2;have hkl:=pd l[l[i.toNat]!.a.toNat]!.key;refine aG ?_;refine ar (hc:=h1099 l[l[i.toNat]!.a.toNat]!.key ⟨k4.1,k4.2.1⟩) ?_;refine gG ?_;refine aA ?_;refine gG ?_;refine aG ?_;refine cV ?_;rw[htx,aj hc0,av hc1,av hc2]
  try simp only[iz]at hc2
  refine aT ?_;refine ar (hc:=h1036 l l[i.toNat]!.a ⟨hk,hl15,ae,ae⟩ ae) ?_;refine aB ?_;refine ar (hc:=h1100 (kp l l[i.toNat]!.a) _ ae) ?_;have hwx:=hwa (!decide (l[l[i.toNat]!.a.toNat]!.op=2));refine gG ?_;refine aG ?_;refine cV ?_;rw[htx,aj hc0,av hc1,aj hc2]
 simp only[bj]at hc1;have kb:=k3 hc0 hc1;have hlb:=rH hk hl15 (i:=l[i.toNat]!.b) ae ae;have hwb:=fun b=>nU (kp l l[i.toNat]!.b) b
 refine aG ?_;refine gN (fun hc3=>?_) fun hc3=>?_
 ·refine aG ?_;refine cg l[i.toNat]!.a.toNat ?_;refine aT ?_;refine cg l[i.toNat]!.b.toNat ?_;refine dE ?_;refine ar (hc:=h1036 l l[i.toNat]!.a ⟨hk,hl15,ae,ae⟩ ae) ?_;refine aA ?_;refine ar (hc:=h1100 (kp l l[i.toNat]!.a) _ ae) ?_;have hwx:=hwa (decide (l[l[i.toNat]!.a.toNat]!.op=4));refine gG ?_;refine aB ?_;refine ar (hc:=h1036 l l[i.toNat]!.b ⟨hk,hl15,ae,ae⟩ ae) ?_;refine aK ?_;refine ar (hc:=h1100 (kp l l[i.toNat]!.b) _ ae) ?_;have hwy:=hwb (decide (l[l[i.toNat]!.b.toNat]!.op=4) ||decide (l[l[i.toNat]!.b.toNat]!.op=3));refine gG ?_;refine aG ?_;refine cV ?_;rw[htx,aj hc0,aj hc1,av hc3]
 refine aK ?_;refine ar (hc:=h1036 l l[i.toNat]!.a ⟨hk,hl15,ae,ae⟩ ae) ?_;refine gG ?_;refine aB ?_;refine ar (hc:=h1036 l l[i.toNat]!.b ⟨hk,hl15,ae,ae⟩ ae) ?_;refine aB ?_;refine cg l[i.toNat]!.b.toNat ?_;refine aB ?_;refine ar (hc:=h1100 (kp l l[i.toNat]!.b) _ ae) ?_;have hwy:=hwb (decide (l[l[i.toNat]!.b.toNat]!.op=4));refine gG ?_;refine aB ?_;refine cV ?_;rw[htx,aj hc0,aj hc1,aj hc3]
def Fe:aJ:=⟨1,11,jh,ct,(sq (r1 [gm dj] 1 0) (sq (r1 [gm (.c (.aC))] 4 0) (sq (sq (r1 [gm bL] 2 0) (.block 0 (.loop (sq (sq (r1 [gm s2,gm s0,gl l1,a8 l0 l2] 3 3) (fY s3 0)) (sq (.block 1 (sq (rg [gm s0,gm s2,ga 5 l0 l1,gk 5 true l2,gm s4,gl l4,gb 5 (.c (.agg [.int .i64 0,.int .i64 0,.int .i64 0,.int .i64 0,.str []])),gt 5 l6 l3,gm l5] [(5,6),(8,8)]) (sq (r1 [gf 3 s5,gd l0,aO l1 bL,gm l2,mP 3 4 s5,kd 3 l4,cu 3 (cP l5 cse),fg l3 l6,gm l7] 7 8) (sq (.block 2 (sq (r1 [gk 5 true s5,gx 1098 [l0] HU,gm l1] 6 2) (.cond s6 .skip (sq (r2 [gf 0 s5,gd l0,aO l1 jE,gm l2,gmt 3 s7,fg l3 l4,gm l5,gmt 6 s8,cu 6 (eF l7 bL),fg l6 l8,gm l9,mP 10 1 s5,kd 10 gJ,gmt 10 s4,gmt 10 s8,cu 10 (kq ku ch),cu 10 (.ia 1 jN lx),kd 10 n9,cu 10 (cP iM pV),fg l10 qu,gm sn,mP 20 2 s5,kd 20 zg,cu 20 (cP Ak bL),fg wv Ee,gm Ef] 9 25) (.cond s9 (r1 [gm s4,gm s8,eH l1 ch,gn (.slA 1 l0 none (some l2)),gm l3] 4 4) (sq (r2 [gf 0 s5,gd l0,aO l1 jL,gm l2,jK 3 0 s5,jQ 3 l4,cE 3 (cP l5 sj),fF l3 l6,gm l7,gmt 8 s7,fg l8 l9,gm l10,gmt 11 s8,cu 11 (eF iM ch),fg gJ jN,gm ku,mP 15 1 s5,kd 15 n9,gmt 15 s4,gmt 15 s8,cu 15 (kq sn jE),cu 15 (.ia 1 qu wv),kd 15 zg,cu 15 (cP pV Ak),fg lx Ee,gm Ef,mP 25 2 s5,kd 25 Jc,gmt 25 s4,gmt 25 s8,cu 25 (kq Nq ch),cu 25 (.ia 1 Np Qp),kd 25 Rh,cu 25 (cP Kn Ri),fg EL l33,gm l34] 10 35) (.cond kZ (r1 [gm s4,gm s8,eH l1 jE,gn (.slA 1 l0 none (some l2)),gm l3] 4 4) (xN dj)))))))) (r1 [gm s4,gm s2,gn (.bsl 1 (.int .i64 0) 1 [(0,l1)]),gn (.app 1 l0 l2),gm l3] 4 4))))) (r1 [gm s2,ay l0 ch,gm l1] 2 2)))))) (sq (r1 [gm s0,gl l0,aO l1 bL,gm l2,eU 3 s4,cE 3 (.len l4),cE 3 (cP l5 ch),fF l3 l6,gm l7] 1 8) .ret))))⟩
def UU {Y:Ctx}(hm:(Y.at 0).bz)(h1098:Od Y)(l:List Nd)  (hp0:l.length<=15):dV Y Fe (.bool (nr l)) [.sl 5 (l.map Nd.D)]:=by
 show bX _ _ _ [⟨_,_⟩,_,_,_,_,_,_,_,_,_,_] _;refine au ?_;refine dE ?_;refine bw hm (ι:=(Nat×List Int)) (fun p=>[⟨true,.sl 5 (l.map Nd.D)⟩,.un,⟨true,.int .i64 (p.1:Nat)⟩,.un,⟨true,.own 0 1 0 p.2.length⟩,.un,.un,.un,.un,.un,.un]) (fun p=>[(0,.buf 1 (p.2.map (D.int .i64)))]) 3 (fun p=>p.1<=l.length/\p.2.length<=p.1/\nb l 0 []=nb (l.drop p.1) p.1 p.2) (fun p=>l.length-p.1) (0,[]) ⟨aN,aN,aN⟩ (bg.to [] ah ah (by repeat(first|exact dz.nil|refine dz.un ?_|refine dz.eq ah ?_|refine dz.nl ah ah ?_|refine dz.ni (Or.inr ⟨_,_,_,rfl⟩) ?_)) (by repeat(first|exact aY.nil|refine aY.mt ah ah ah ah ?_))) ?_;rintro⟨i,o⟩ ⟨hi,ho,hr⟩;dsimp only at hi ho hr⊢;refine aT ?_;intro u0;refine aA ?_;refine cT (fun hc0=>?_) fun hc0=>?_
 ·refine aK ?_;first|refine cb (v:=(Nd.D _)) ?_|refine fk (v:=(Nd.D _)) ?_
  refine aA ?_;intro u1;refine aE ?_;refine aR (Nd.D l[i]!) (he:=aZ) ?_;refine zd ?_;refine ar (hc:=h1098 _) ?_;refine aA ?_;refine gN (fun hc1=>?_) fun hc1=>?_
  ·refine aT ?_;refine c7 [(.int _ _)] ?_;refine vW ((o++[(i:Int)]).map (D.int .i64)) (n:=(o++[(i:Int)]).length) (ha:=by simp<;>omega) (he:=sJ.all (es:=[.int .i64 (i:Nat)]) ah rfl) (hz:=by rw[bR,eK aN,List.map_append];rfl) (hn:=by simp<;>omega) (hb:=by simp<;>omega) ?_;refine dE ?_;have hs:jk l[i]! i o=some (o++[(i:Int)]):=by rw[xa,av hc1]
   exact⟨(i+1,(o++[(i:Int)])),⟨dP,cX,by rw[hr];exact je ae hs⟩,dP,(bg.to [(31,0)] ah ah eC (by refine aY.nl 31 ah ah ah cB ?_;exact aY.nil))⟩
  refine ze ?_;refine jG (o.length-1) ?_;refine rj (q:=D.int .i64) (xs:=o) (v:=(.int .i64 o[o.length-1]!)) (hv:=fun _=>by rw[bK];rfl) ?_;refine dE ?_;refine wp_cond (fun hc2=>?_) (fun hc2=>?_)
  ·replace hc2:Hr l[i]! o=true:=hc2;have hk1:1<=o.length:=by have hq:=hc2;simp only[Hr,bh,aS]at hq;omega
   refine aG ?_;refine ue (o.length-1) ?_;refine aK ?_;refine c7 [(.int _ _)] ?_;refine vW ((o.take (o.length-1)++[(i:Int)]).map (D.int .i64)) (n:=(o.take (o.length-1)++[(i:Int)]).length) (ha:=by simp<;>omega) (he:=sJ.all (es:=[.int .i64 (i:Nat)]) ah rfl) (hz:=by rw[bR,<-List.map_take,List.map_append];rfl) (hn:=by simp<;>omega) (hb:=by simp<;>omega) ?_;refine dE ?_;have hs:jk l[i]! i o=some (o.take (o.length-1)++[(i:Int)]):=by rw[xa,aj (by rw[hc1];simp),av hc2]
   exact⟨(i+1,(o.take (o.length-1)++[(i:Int)])),⟨dP,cX,by rw[hr];exact je ae hs⟩,dP,(bg.to [(62,0)] ah ah eC (by refine aY.nl 62 ah ah ah cB ?_;exact aY.nil))⟩
  replace hc2:Hr l[i]! o=false:=hc2;refine OS ?_;refine jG (o.length-2) ?_;refine rj (q:=D.int .i64) (xs:=o) (v:=(.int .i64 o[o.length-2]!)) (hv:=fun _=>by rw[bK];rfl) ?_;refine bY ?_;refine jG (o.length-1) ?_;refine rj (q:=D.int .i64) (xs:=o) (v:=(.int .i64 o[o.length-1]!)) (hv:=fun _=>by rw[bK];rfl) ?_;refine aG ?_;refine wp_cond (fun hc3=>?_) (fun hc3=>?_)
  ·replace hc3:Hs l[i]! o=true:=hc3;have hk1:2<=o.length:=by have hq:=hc3;simp only[Hs,bh,aS]at hq;omega
   refine aG ?_;refine ue (o.length-2) ?_;refine aK ?_;refine c7 [(.int _ _)] ?_;refine vW ((o.take (o.length-2)++[(i:Int)]).map (D.int .i64)) (n:=(o.take (o.length-2)++[(i:Int)]).length) (ha:=by simp<;>omega) (he:=sJ.all (es:=[.int .i64 (i:Nat)]) ah rfl) (hz:=by rw[bR,<-List.map_take,List.map_append];rfl) (hn:=by simp<;>omega) (hb:=by simp<;>omega) ?_;refine dE ?_;have hs:jk l[i]! i o=some (o.take (o.length-2)++[(i:Int)]):=by rw[xa,aj (by rw[hc1];simp),aj (by rw[hc2];simp),av hc3]
   exact⟨(i+1,(o.take (o.length-2)++[(i:Int)])),⟨dP,cX,by rw[hr];exact je ae hs⟩,dP,(bg.to [(98,0)] ah ah eC (by refine aY.nl 98 ah ah ah cB ?_;exact aY.nil))⟩
  replace hc3:Hs l[i]! o=false:=hc3;refine br ?_;refine b7 ?_;symm;refine DY ?_;rw[hr];refine gH ae ?_;rw[xa,aj (by rw[hc1];simp),aj (by rw[hc2];simp),aj (by rw[hc3];simp)]
 refine aT ?_;intro u2;refine aB ?_;refine js ?_;refine aT ?_;refine b7 ?_;simp only[nr,hr,Ax (show l.length<=i by omega)];rw[ed.2 (show((l.length:Nat):Int)=0↔l.length=0 by omega),ed.2 (show((o.length:Nat):Int)=1↔o.length=1 by omega)]
def Oa (Y:Ctx):Prop:=∀(l:List Nd),(l.length<=15)->Y.pre 1035 [.sl 5 (l.map Nd.D)]/\Y.val 1035 [.sl 5 (l.map Nd.D)]=.bool (nr l)
def Ih:aJ:=⟨1,18,jh,ct,(sq (r1 [gm dj] 1 0) (sq (sq (r1 [gm s0,gl l0,dn l1 (i6 15)] 2 2) (nH s2 dj)) (sq (r1 [gm s0,gl l0,gn (.mks 1 (.int .i64 0) l1 l1),gm l2] 7 3) (sq (sq (rg [gm s0,gl l0,gm bL] [(6,0),(4,1),(3,2)]) (.block 0 (.loop (sq (r1 [a8 s3 s4] 5 0) (sq (fY s5 0) (sq (.block 1 (sq (rg [gm s3,ga 5 s6 s3,gk 5 true l1,gb 5 (.c (.agg [.int .i64 0,.int .i64 0,.int .i64 0,.int .i64 0,.str []])),gm l0,gt 5 l3 l2] [(9,3),(8,4)]) (sq (rg [gm s7,gm s8,gm s8,ga 1 l0 l1,gt 1 l3 l2] []) (sq (sq (r1 [gf 0 s9,gd l0] 10 1) (.block 2 (sq (r1 [aO kZ ch,gm l0] 11 1) (.cond nQ (sq (sq (r1 [gf 3 s9,gd l0,a8 l1 bL,gm l2,jK 3 3 s9,jQ 3 l4,cE 3 (tz l5 jL),fF l3 l6,gm l7,jK 8 4 s9,jQ 8 l9,cE 8 (.call 349 [l10] ct),cE 8 (.un .not gJ),fF l8 iM,gm jN,jK 14 1 s9,jQ 14 lx,cE 14 (eM n9 bL),fF ku pV,gm qu,jK 19 2 s9,jQ 19 wv,cE 19 (eM zg bL),fF sn Ak] 12 23) (nH mQ dj)) (.exit 1)) (sq (r1 [aO kZ jE,gm l0] 13 1) (.cond rv (sq (sq (r1 [gm s8,a8 l0 ch,gm l1,jK 2 1 s9,jQ 2 l3,eU 2 s8,cE 2 (kq l5 ch),cE 2 (eM l4 l6),fF l2 l7,gm l8,jK 9 2 s9,jQ 9 l10,cE 9 (eM gJ bL),fF l9 iM] 14 13) (nH r8 dj)) (rg [gm s7,gm s8,gm s7,gm s8,eH l3 ch,ga 1 l2 l4,gd l5,ga 1 l0 l1,gt 1 l7 l6] [])) (sq (sq (r1 [aO kZ jL,gm l0] 15 1) (.cond wD .skip (r1 [aO kZ sj,gm l0] 15 1))) (.cond wD (sq (sq (r2 [gm s8,a8 l0 jE,gm l1,jK 2 2 s9,jQ 2 l3,eU 2 s8,cE 2 (kq l5 ch),cE 2 (eM l4 l6),fF l2 l7,gm l8,eU 9 s7,eU 9 s8,cE 9 (kq gJ ch),cE 9 (.ia 1 l10 iM),jQ 9 jN,cE 9 (qa ku ch),fF l9 lx,gm n9,jK 17 1 s9,jQ 17 qu,eU 17 s7,eU 17 s8,cE 17 (kq zg ch),cE 17 (.ia 1 wv Ak),jQ 17 Ee,cE 17 (kq Ef ch),cE 17 (eM sn EL),fF pV Jc] 16 27) (nH DN dj)) (rg [gm s7,gm s8,gm s7,gf 1 s9,gd l3,ga 1 l2 l4,gd l5,ga 1 l0 l1,gt 1 l7 l6] [])) (xN dj))))))))) (sq (r1 [gf 3 s9,gd l0,cv l1 bL,gm l2,jK 3 4 s9,jQ 3 l4,cE 3 (eM l5 cse),fF l3 l6] 17 7) (nH BY dj)))))) (r1 [ay s3 ch,gm l0] 3 1))))))) (sq (r1 [gm s0,gl l0,aO l1 bL,gm l2,eU 3 s7,eU 3 s0,cE 3 (.len l5),cE 3 (kq l6 ch),cE 3 (.ia 1 l4 l7),jQ 3 l8,cE 3 (cP l9 bL),fF l3 l10,gm gJ] 1 12) .ret)))))⟩
def w810 {Y:Ctx}(hm:(Y.at 0).bz)(h349:Ej Y)(l:List Nd)   :dV Y Ih (.bool (decide (l.length<=15)&&nr l)) [.sl 5 (l.map Nd.D)]:=by
 show bX _ _ _ [⟨_,_⟩,_,_,_,_,_,_,_,_,_,_,_,_,_,_,_,_,_] _;refine au ?_;refine aK ?_;intro u0;refine aA ?_;refine aw (fun hc0=>?_) (fun hc0=>?_)
 ·try simp only[iz]at hc0
  refine aT ?_;refine b7 ?_;rw[show decide (l.length<=15)=false from cJ ae];rfl
 simp only[bj]at hc0;have h15:l.length<=15:=ae;have hd15:decide (l.length<=15)=true:=bS h15;refine aG ?_;intro u1;refine Uw l.length ?_;refine aK ?_;intro u2;refine aA ?_;rw[show List.replicate l.length (D.int .i64 0)=(List.replicate l.length (0:Int)).map (D.int .i64)by simp];refine bw hm (ι:=(Nat×List Int×List Int)) (fun p=>[⟨true,.sl 5 (l.map Nd.D)⟩,.un,.un,⟨true,.int .i64 (p.1:Nat)⟩,⟨true,.int .i64 (l.length:Nat)⟩,.un,⟨true,.sl 5 (l.map Nd.D)⟩,⟨true,.own 0 1 0 l.length⟩,.un,.un,.un,.un,.un,.un,.un,.un,.un,.un]) (fun p=>[(0,.buf 1 (p.2.1.map (D.int .i64)))]) 11 (fun p=>p.1<=l.length/\p.2.1.length=l.length/\Cd p.2.1 (p.1:Nat) p.2.2.reverse/\nb l 0 []=nb (l.drop p.1) p.1 p.2.2) (fun p=>l.length-p.1) (0,List.replicate l.length 0,[]) ⟨aN,aN,rfl,aN⟩ (bg.to [(6,0)] ah ah eC (by refine aY.nl 6 ah ah ah cB ?_;exact aY.nil)) ?_;rintro⟨i,S,o⟩ ⟨hi,hS,hc,hr⟩;dsimp only at hi hS hc hr⊢;refine aB ?_;refine cT (fun hc1=>?_) fun hc1=>?_
 ·refine aT ?_;first|refine cb (v:=(Nd.D _)) ?_|refine fk (v:=(Nd.D _)) ?_
  refine aA ?_;refine aR (Nd.D l[i]!) (he:=aZ) ?_;refine aT ?_;refine jG i ?_;refine uf ((S.set i (i:Int)).map (D.int .i64)) (hi:=cX) (he:=w9 ae _) ?_;have hch:Cd (S.set i (i:Int)) (i:Nat) o.reverse:=Bf (Int.le_refl _) hc;have hSl:(S.set i (i:Int)).length=l.length:=by simp[hS]
  refine bY ?_;obtain⟨t1,t2⟩:=tE hch;obtain⟨u1,u2⟩:=Bg hch;refine aB ?_;refine wp_cond (fun hc2=>?_) (fun hc2=>?_)
  ·simp only[aS]at hc2;have hq1:=hc2;refine mO ?_;refine ar (hc:=h349 _) ?_;refine mO ?_;refine aw (fun hc3=>?_) (fun hc3=>?_)
   ·have hlf:oa l[i]! =false:=by rw[Gw hq1,hc3];rfl
    refine bY ?_;refine b7 ?_;rw[hd15];symm;refine kC ?_;rw[hr];refine gH ae ?_;exact B0 hq1 hlf
   have hlf:oa l[i]! =true:=by rw[Gw hq1,hc3];rfl
   refine dE ?_;have hs:jk l[i]! i o=some (o++[(i:Int)]):=by exact FK hlf
   have hp:Cd (S.set i (i:Int)) ((i+1:Nat):Int) ((o++[(i:Int)])).reverse:=by
    rw[List.reverse_append,List.reverse_singleton,List.singleton_append];exact tD ae ae (Int.le_refl _) hc
   exact⟨(i+1,(S.set i (i:Int)),(o++[(i:Int)])),⟨dP,by simp[hS],hp,by rw[hr];exact je ae hs⟩,dP,(bg.to [(0,0)] ah ah eC (by(first|refine aY.ez ah ah cB ?_|refine aY.lr ah ah ah ?_|refine aY.nI ah ah ah ah ?_);exact aY.nil))⟩
  simp only[bj]at hc2;have hq1:=hc2;refine aG ?_;refine wp_cond (fun hc4=>?_) (fun hc4=>?_)
  ·simp only[aS]at hc4;have hq2:=hc4;refine ze ?_;refine aw (fun hc5=>?_) (fun hc5=>?_)
   ·try simp only[iz]at hc5
    refine bY ?_;refine b7 ?_;rw[hd15];symm;refine kC ?_;rw[hr];refine gH ae ?_;rw[vA hch hq2,aj];rintro⟨⟨g1,g2,g3⟩,g4⟩;omega
   simp only[c9,bj,bP,aS]at hc5;refine br ?_;refine jG (i-1) ?_;refine rj (q:=D.int .i64) (xs:=(S.set i (i:Int))) (v:=(.int .i64 (S.set i (i:Int))[i-1]!)) (hi:=fun _=>ae) (hv:=fun _=>by rw[bK];rfl) ?_;refine jG i ?_;refine uf (((S.set i (i:Int)).set i (S.set i (i:Int))[i-1]!).map (D.int .i64)) (hi:=cX) (he:=w9 ae _) ?_;refine jr ?_;refine wp_cond (fun hc9=>?_) (fun hc9=>?_)
   ·have hb:jD l[i]! =false:=by simp only[cR,bn,bj]at hc9;simp only[jD,dt,bj];exact hc9
    refine aK ?_;refine b7 ?_;rw[hd15];symm;refine kC ?_;rw[hr];refine gH ae ?_;rw[vA hch hq2,aj];rintro⟨⟨g1,g2,g3⟩,g4⟩;rw[hb]at g4;cases g4
   have hb:jD l[i]! =true:=by simp only[c9,bP,aS]at hc9;simp only[jD,hc9.1,hc9.2,decide_true,Bool.and_self]
   refine br ?_;have hs:jk l[i]! i o=some (o.take (o.length-1)++[(i:Int)]):=by rw[vA hch hq2,av ⟨⟨ae,ae,ae⟩,hb⟩]
   have hp:Cd ((S.set i (i:Int)).set i (S.set i (i:Int))[i-1]!) ((i+1:Nat):Int) ((o.take (o.length-1)++[(i:Int)])).reverse:=by
    rw[List.reverse_append,List.reverse_singleton,List.singleton_append];obtain⟨y1,y2,y3,y4⟩:=t2 ae;exact tD ae y2 ae y4
   exact⟨(i+1,((S.set i (i:Int)).set i (S.set i (i:Int))[i-1]!),(o.take (o.length-1)++[(i:Int)])),⟨dP,by simp[hS],hp,by rw[hr];exact je ae hs⟩,dP,(bg.to [(0,0)] ah ah eC (by(first|refine aY.ez ah ah cB ?_|refine aY.lr ah ah ah ?_|refine aY.nI ah ah ah ah ?_);exact aY.nil))⟩
  simp only[bj]at hc4;have hq2:=hc4;refine aT ?_;refine cT (fun hc6=>?_) fun hc6=>?_
  ·refine aE ?_;refine gN (fun hc7=>?_) fun hc7=>?_
   ·refine zc ?_;refine jG (i-1) ?_;refine rj (q:=D.int .i64) (xs:=(S.set i (i:Int))) (v:=(.int .i64 (S.set i (i:Int))[i-1]!)) (hi:=fun h=>by simp at h;omega) (hv:=fun _=>by rw[bK];rfl) ?_;refine bY ?_;refine jG (i-1) ?_;refine rj (q:=D.int .i64) (xs:=(S.set i (i:Int))) (v:=(.int .i64 (S.set i (i:Int))[i-1]!)) (hi:=fun h=>by simp at h;omega) (hv:=fun _=>by rw[bK];rfl) ?_;refine aG ?_;refine aw (fun hc8=>?_) (fun hc8=>?_)
    ·have hq34:l[i]!.op=3\/l[i]!.op=4:=ae;simp only[cR,aS,bn,bj]at hc8;refine bY ?_;refine b7 ?_;rw[hd15];symm;refine kC ?_;rw[hr];refine gH ae ?_;rw[nR hch hq34,aj];rintro⟨⟨g1,g2,g3,g4⟩,g5⟩;omega
    simp only[c9,bj,bP,aS]at hc8;have hq34:l[i]!.op=3\/l[i]!.op=4:=ae;have hk2:=u1.2 ⟨ae,ae⟩;obtain⟨w1,w2,w3,w4⟩:=u2 hk2;obtain⟨y1,y2,y3,y4⟩:=t2 ae;refine br ?_;refine jG l[i]!.a.toNat ?_;refine rj (q:=D.int .i64) (xs:=(S.set i (i:Int))) (v:=(.int .i64 (S.set i (i:Int))[l[i]!.a.toNat]!)) (hi:=fun _=>ae) (hv:=fun _=>by rw[bK];rfl) ?_;refine jG i ?_;refine uf (((S.set i (i:Int)).set i (S.set i (i:Int))[l[i]!.a.toNat]!).map (D.int .i64)) (hi:=cX) (he:=w9 ae _) ?_;refine jr ?_;refine wp_cond (fun hc9=>?_) (fun hc9=>?_)
    ·have hb:jD l[i]! =false:=by simp only[cR,bn,bj]at hc9;simp only[jD,dt,bj];exact hc9
     refine aK ?_;refine b7 ?_;rw[hd15];symm;refine kC ?_;rw[hr];refine gH ae ?_;rw[nR hch hq34,aj];rintro⟨⟨g1,g2,g3,g4⟩,g5⟩;rw[hb]at g5;cases g5
    have hb:jD l[i]! =true:=by simp only[c9,bP,aS]at hc9;simp only[jD,hc9.1,hc9.2,decide_true,Bool.and_self]
    refine br ?_;have hs:jk l[i]! i o=some (o.take (o.length-2)++[(i:Int)]):=by rw[nR hch hq34,av ⟨⟨ae,ae,ae,ae⟩,hb⟩]
    have hp:Cd ((S.set i (i:Int)).set i (S.set i (i:Int))[l[i]!.a.toNat]!) ((i+1:Nat):Int) ((o.take (o.length-2)++[(i:Int)])).reverse:=by
     rw[List.reverse_append,List.reverse_singleton,List.singleton_append];rw[show l[i]!.a=(S.set i (i:Int))[i-1]! -1 by omega];exact tD ae w2 ae w4
    exact⟨(i+1,((S.set i (i:Int)).set i (S.set i (i:Int))[l[i]!.a.toNat]!),(o.take (o.length-2)++[(i:Int)])),⟨dP,by simp[hS],hp,by rw[hr];exact je ae hs⟩,dP,(bg.to [(0,0)] ah ah eC (by(first|refine aY.ez ah ah cB ?_|refine aY.lr ah ah ah ?_|refine aY.nI ah ah ah ah ?_);exact aY.nil))⟩
   refine br ?_;refine b7 ?_;exfalso;omega
  refine aG ?_;refine gN (fun hc7=>?_) fun hc7=>?_
  ·refine zc ?_;refine jG (i-1) ?_;refine rj (q:=D.int .i64) (xs:=(S.set i (i:Int))) (v:=(.int .i64 (S.set i (i:Int))[i-1]!)) (hi:=fun h=>by simp at h;omega) (hv:=fun _=>by rw[bK];rfl) ?_;refine bY ?_;refine jG (i-1) ?_;refine rj (q:=D.int .i64) (xs:=(S.set i (i:Int))) (v:=(.int .i64 (S.set i (i:Int))[i-1]!)) (hi:=fun h=>by simp at h;omega) (hv:=fun _=>by rw[bK];rfl) ?_;refine aG ?_;refine aw (fun hc8=>?_) (fun hc8=>?_)
   ·have hq34:l[i]!.op=3\/l[i]!.op=4:=ae;simp only[cR,aS,bn,bj]at hc8;refine bY ?_;refine b7 ?_;rw[hd15];symm;refine kC ?_;rw[hr];refine gH ae ?_;rw[nR hch hq34,aj];rintro⟨⟨g1,g2,g3,g4⟩,g5⟩;omega
   simp only[c9,bj,bP,aS]at hc8;have hq34:l[i]!.op=3\/l[i]!.op=4:=ae;have hk2:=u1.2 ⟨ae,ae⟩;obtain⟨w1,w2,w3,w4⟩:=u2 hk2;obtain⟨y1,y2,y3,y4⟩:=t2 ae;refine br ?_;refine jG l[i]!.a.toNat ?_;refine rj (q:=D.int .i64) (xs:=(S.set i (i:Int))) (v:=(.int .i64 (S.set i (i:Int))[l[i]!.a.toNat]!)) (hi:=fun _=>ae) (hv:=fun _=>by rw[bK];rfl) ?_;refine jG i ?_;refine uf (((S.set i (i:Int)).set i (S.set i (i:Int))[l[i]!.a.toNat]!).map (D.int .i64)) (hi:=cX) (he:=w9 ae _) ?_;refine jr ?_;refine wp_cond (fun hc9=>?_) (fun hc9=>?_)
   ·have hb:jD l[i]! =false:=by simp only[cR,bn,bj]at hc9;simp only[jD,dt,bj];exact hc9
    refine aK ?_;refine b7 ?_;rw[hd15];symm;refine kC ?_;rw[hr];refine gH ae ?_;rw[nR hch hq34,aj];rintro⟨⟨g1,g2,g3,g4⟩,g5⟩;rw[hb]at g5;cases g5
   have hb:jD l[i]! =true:=by simp only[c9,bP,aS]at hc9;simp only[jD,hc9.1,hc9.2,decide_true,Bool.and_self]
   refine br ?_;have hs:jk l[i]! i o=some (o.take (o.length-2)++[(i:Int)]):=by rw[nR hch hq34,av ⟨⟨ae,ae,ae,ae⟩,hb⟩]
   have hp:Cd ((S.set i (i:Int)).set i (S.set i (i:Int))[l[i]!.a.toNat]!) ((i+1:Nat):Int) ((o.take (o.length-2)++[(i:Int)])).reverse:=by
    rw[List.reverse_append,List.reverse_singleton,List.singleton_append];rw[show l[i]!.a=(S.set i (i:Int))[i-1]! -1 by omega];exact tD ae w2 ae w4
   exact⟨(i+1,((S.set i (i:Int)).set i (S.set i (i:Int))[l[i]!.a.toNat]!),(o.take (o.length-2)++[(i:Int)])),⟨dP,by simp[hS],hp,by rw[hr];exact je ae hs⟩,dP,(bg.to [(0,0)] ah ah eC (by(first|refine aY.ez ah ah cB ?_|refine aY.lr ah ah ah ?_|refine aY.nI ah ah ah ah ?_);exact aY.nil))⟩
  refine br ?_;refine b7 ?_;rw[hd15];symm;refine kC ?_;rw[hr];refine gH ae ?_;exact DT hq1 hq2 ae ae
 refine aB ?_;obtain rfl:i=l.length:=ae;obtain⟨t1,t2⟩:=tE hc;obtain⟨u1,u2⟩:=Bg hc;refine aA ?_;intro u3;refine aG ?_;refine js ?_;refine aE ?_;refine jG (l.length-1) (hj:=fun h=>by have hz:¬l.length=0:=(fun hz=>by simp[hz]at h);omega) (hb:=fun h=>by have hz:¬l.length=0:=(fun hz=>by simp[hz]at h);omega) ?_;refine rj (q:=D.int .i64) (xs:=S) (v:=(.int .i64 S[l.length-1]!)) (hi:=fun h=>by have hz:¬l.length=0:=(fun hz=>by simp[hz]at h);omega) (hv:=fun _=>by rw[bK];rfl) ?_;refine aT ?_;refine b7 ?_;rw[hd15];simp only[nr,hr,Ax (aM l.length),fA];exact(LW t1 t2 u1).symm
def SF (Y:Ctx):Prop:=∀(l:List Nd),Y.pre 810 [.sl 5 (l.map Nd.D)]/\Y.val 810 [.sl 5 (l.map Nd.D)]=.bool (decide (l.length<=15)&&nr l)
end Go.Abs
