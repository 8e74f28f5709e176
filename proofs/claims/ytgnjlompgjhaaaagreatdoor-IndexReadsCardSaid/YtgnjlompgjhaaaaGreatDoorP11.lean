/- A part of the proofs. -/
import Derived.Ground.Names2Prog
import Derived.Ground.SlgnProg
import Derived.KernelRfl
import Derived.Shelf.LaysM
import Derived.Shelf.Slices.Clone
import Derived.Shelf.Slices.SearchI
import Derived.Shelf.SlicesE.Clone
import Derived.Shelf.Small.Strs
import Derived.Shelf.Small.Utf8
import Derived.Shelf.Small.Wraps
import Derived.Shelf.Strconv.Itoa0
import Derived.Shelf.Strconv.Itoa1
import Derived.Shelf.Strconv.Itoa2
import Derived.Shelf.Strconv.Itoa3
import Derived.Shelf.Strings.AsciiSet
import Derived.Shelf.Strings.Builder1
import Derived.Shelf.Strings.Builder2
import Derived.Shelf.Strings.Count
import Derived.Shelf.Strings.Cut
import Derived.Shelf.Strings.Explode
import Derived.Shelf.Strings.OnBuilder
import Derived.Shelf.Strings.Prefix
import Derived.Shelf.Strings.RuneCount
import Derived.Shelf.Strings.Runes
import Derived.Shelf.Strings.Search1
import Derived.Shelf.Strings.Search2
import Derived.Shelf.Strings.Search3
import Derived.Shelf.Strings.Shaped
import Derived.Shelf.Strings.Split
import Derived.Shelf.Strings.SplitShaped
import Derived.Shelf.Strings.Trim
import Derived.Shelf.Unicode.Decode
import Derived.Shelf.Unicode.DecodeAny
import Derived.Shelf.Unicode.DecodeLast
import Derived.Shelf.Unicode.DecodeSlow
import Derived.Shelf.Utf8.RuneCount
import Derived.Test.YtgnjlompgjhaaaaGreatDoorProg
import Derived.Test.YtgnjlompgjhaaaaGreatDoorP10
set_option linter.all false
set_option maxRecDepth 4000
namespace Go.Abs
variable {Y:Ctx}(hm:(Y.at 0).cj)
def Mz:aE:=⟨2,5,[⟨2,none⟩],b8,(sq (r1 [gm bx] 2 0) (sq (.block 0 (sq (r1 [gm s0,gm s1,aX l0 l1,gm l2] 3 3) (.cond s3 (sq (r1 [gn (.mv (.c (.int .i64 (-1))))] 2 0) .ret) (sq (r1 [gm s0,gm s1,dj l0 l1,gm l2] 4 3) (.cond s4 (sq (r1 [gm cl] 2 0) .ret) .skip))))) (sq (r1 [gm bx] 2 0) .ret)))⟩
def w630 {Y:Ctx}(hm:(Y.at 0).cj)  (a:Int)(b:Int)   :dn Y Mz (.int .i64 (fB a b)) [.int .i64 a,.int .i64 b]:=by
 show bP _ _ _ [⟨_,_⟩,⟨_,_⟩,_,_,_] _;refine aq ?_;refine di ?_;refine fP (fun hc0=>?_) fun hc0=>?_
 .refine aI ?_;refine c8 ?_;unfold fB;rw[aw hc0]
 refine aG ?_;refine fP (fun hc1=>?_) fun hc1=>?_
 .refine aI ?_;refine c8 ?_;unfold fB;rw[ak hc0,aw hc1]
 refine aG ?_;refine c8 ?_;unfold fB;rw[ak hc0,ak hc1]
def QR (Y:Ctx):Prop:=yj (bD Y 630)
def H3:aE:=⟨2,5,[⟨2,none⟩],b8,(sq (r1 [gm bx] 2 0) (sq (.block 0 (sq (r1 [gm s0,gm s1,aX l0 l1,gm l2] 3 3) (.cond s3 (sq (r1 [gn (.mv (.c (.int .i64 (-1))))] 2 0) .ret) (sq (r1 [gm s0,gm s1,dj l0 l1,gm l2] 4 3) (.cond s4 (sq (r1 [gm cl] 2 0) .ret) .skip))))) (sq (r1 [gm bx] 2 0) .ret)))⟩
def w927 {Y:Ctx}(hm:(Y.at 0).cj)  (a:au)(b:au)   :dn Y H3 (.int .i64 (AV a b)) [.str a,.str b]:=by
 show bP _ _ _ [⟨_,_⟩,⟨_,_⟩,_,_,_] _;refine aq ?_;refine di ?_;refine fP (fun hc0=>?_) fun hc0=>?_
 .refine aI ?_;refine c8 ?_;simp[AV,hc0]
 refine aG ?_;refine fP (fun hc1=>?_) fun hc1=>?_
 .refine aI ?_;refine c8 ?_;simp_all[AV]
 refine aG ?_;refine c8 ?_;simp_all[AV]
def XN (Y:Ctx):Prop:=yi (bD Y 927)
def PN:aE:=⟨2,10,[⟨2,none⟩],b8,(sq (r1 [gm bx] 2 0) (sq (rg [gm s0,gx 668 [l0] b8,gm s1,gx 668 [l2] b8,gm l1,gm l3] [(3,4),(4,5)]) (sq (.block 0 (sq (r1 [gm s3,gm l0,gmt 1 s4,eX l1 l2,gm l3] 5 4) (.cond s5 (sq (r1 [gm s0,gx 667 [l0] b8,gm l1,ge l2 0,ge l2 1,gm l3,gm l4] 6 5) (sq (r1 [gm s1,gx 667 [l0] b8,gm l1,ge l2 0,ge l2 1,gm l3,gm l4] 7 5) (sq (r1 [gm s6,gm s7,gx 630 [l0,l1] fA,gm l2] 2 3) .ret))) (sq (r1 [gm s3,gm l0] 8 1) (.cond s8 (sq (r1 [gn (.mv (.c (.int .i64 (-1))))] 2 0) .ret) (sq (r1 [gm s4,gm l0] 9 1) (.cond s9 (sq (r1 [gm cl] 2 0) .ret) .skip))))))) (sq (r1 [gm s0,gm s1,gx 927 [l0,l1] fA,gm l2] 2 3) .ret))))⟩
def w783 {Y:Ctx}(hm:(Y.at 0).cj)(h630:QR Y)(h667:Ns Y)(h668:T0 Y)(h927:XN Y)(a:au)(b:au)   :dn Y PN (.int .i64 (sw a b)) [.str a,.str b]:=by
 show bP _ _ _ [⟨_,_⟩,⟨_,_⟩,_,_,_,_,_,_,_,_] _;refine aq ?_;refine aD ?_;refine ar (hc:=h668 _) ?_;refine aH ?_;refine ar (hc:=h668 _) ?_;refine fK ?_;refine fP (fun hc0=>?_) fun hc0=>?_
 .refine ay ?_;refine ar (hc:=h667 _) ?_;refine bU ?_;refine ar (hc:=h667 _) ?_;refine di ?_;refine ar (hc:=h630 _ _) ?_;refine aD ?_;refine c8 ?_;unfold sw;rw[aw hc0]
 refine aD ?_;refine fP (fun hc1=>?_) fun hc1=>?_
 .refine aI ?_;refine c8 ?_;have hn:¬(cW a=true/\cW b=true):=by rintro⟨h1,h2⟩;simp[h1,h2]at hc0
  unfold sw;rw[ak hn];rw[aw hc1]
 refine aD ?_;refine fP (fun hc2=>?_) fun hc2=>?_
 .refine aI ?_;refine c8 ?_;have hn:¬(cW a=true/\cW b=true):=by rintro⟨h1,h2⟩;simp[h1,h2]at hc0
  unfold sw;rw[ak hn];rw[ak (by simp[hc1]),aw hc2]
 refine aI ?_;refine ar (hc:=h927 _ _) ?_;refine aA ?_;refine c8 ?_;have hn:¬(cW a=true/\cW b=true):=by rintro⟨h1,h2⟩;simp[h1,h2]at hc0
 unfold sw;rw[ak hn];rw[ak (by simp[hc1]),ak (by simp[hc2])]
def Xz (Y:Ctx):Prop:=yl (bD Y 783)
def MA:aE:=⟨2,12,[⟨2,none⟩],b8,(sq (r1 [gm bx] 2 0) (sq (.block 0 (sq (r1 [gm s0,gm s1,aL l0 l1,gm l2] 3 3) (.cond s3 (sq (r1 [gm bx] 2 0) .ret) (sq (r1 [gm s0,aL l0 cse,gm l1] 4 2) (.cond s4 (sq (r1 [gm cl] 2 0) .ret) (sq (r1 [gm s1,aL l0 cse,gm l1] 5 2) (.cond s5 (sq (r1 [gn (.mv (.c (.int .i64 (-1))))] 2 0) .ret) .skip))))))) (sq (rg [gm s0,gx 470 [l0,(i8 46)] fA,gm s1,gx 470 [l2,(i8 46)] fA,gm l1,gm l3] [(7,4),(8,5)]) (sq (sq (r1 [gm bx] 6 0) (.block 1 (.loop (sq (sq (r1 [gm s6,gm s7,gl l1,aX l0 l2,gm l3,gmt 4 s6,gmt 4 s8,cr 4 (.len l6),cr 4 (oW l5 l7),eX l4 l8] 9 9) (fC s9 1)) (sq (.block 2 (sq (r2 [gm s7,gm s6,ga 1 l0 l1,gd l2,gm s8,gm s6,ga 1 l4 l5,gd l6,gx 783 [l3,l7] fA,gm l8] 10 9) (sq (r1 [gm ik,bO l0 bx] 11 1) (.cond jR (sq (r1 [gm ik,gm l0] 2 1) .ret) .skip)))) (r1 [gm s6,az l0 cl,gm l1] 6 2)))))) (sq (r1 [gm s7,gl l0,gm s8,gl l2,gx 630 [l1,l3] fA,gm l4] 2 5) .ret)))))⟩
def w631 (h470:sI Y)(h630:QR Y)(h783:Xz Y)(a:au)(b:au)  (hp0:a.length<=1048576/\b.length<=1048576):dn Y MA (.int .i64 (vL a b)) [.str a,.str b]:=by
 show bP _ _ _ [⟨_,_⟩,⟨_,_⟩,_,_,_,_,_,_,_,_,_,_] _;refine aq ?_;refine di ?_;refine fP (fun hc0=>?_) fun hc0=>?_
 .refine aI ?_;refine c8 ?_;unfold vL;rw[aw hc0]
 refine aI ?_;refine fP (fun hc1=>?_) fun hc1=>?_
 .refine aI ?_;refine c8 ?_;unfold vL;rw[ak hc0,aw hc1]
 refine aI ?_;refine fP (fun hc2=>?_) fun hc2=>?_
 .refine aI ?_;refine c8 ?_;unfold vL;rw[ak hc0,ak hc1,aw hc2]
 refine aD ?_;refine ar (hc:=h470 a 46 hp0.1) ?_;refine aH ?_;refine ar (hc:=h470 b 46 hp0.2) ?_;refine ba ?_;refine bh hm (ι:=Nat) (fun i=>[.un,.un,.un,.un,.un,.un,⟨true,.int .i64 (i:Nat)⟩,⟨true,.sl 1 ((ai a 46).map D.str)⟩,⟨true,.sl 1 ((ai b 46).map D.str)⟩,.un,.un,.un]) (fun i=>[]) 18 (fun i=>(i<=(ai a 46).length/\i<=(ai b 46).length)/\vL a b=sF (ai a 46) (ai b 46) i) (fun i=>(ai a 46).length-i) 0 ⟨⟨ae,ae⟩,by unfold vL;rw[ak hc0,ak hc1,ak hc2]⟩ (dy []) ?_;rintro i ⟨hi,hr⟩;refine aI ?_;intro u0;refine aD ?_;refine iJ ?_;refine aA ?_;refine cM (fun hc3=>?_) fun hc3=>?_
 .refine aI ?_;refine bL i (hb:=fun _=>ae) ?_;refine bH (v:=.str (ai a 46)[i]!) (hi:=fun _=>ae) ?_;refine ay ?_;refine bL i (hb:=fun _=>ae) ?_;refine bH (v:=.str (ai b 46)[i]!) (hi:=fun _=>ae) ?_;refine ar (hc:=h783 _ _) ?_;refine aG ?_;refine fP (fun hc4=>?_) fun hc4=>?_
  .refine ba ?_;refine c8 ?_;rw[hr,Ct ae hc4]
  refine bU ?_;exact⟨i+1,⟨⟨ae,ae⟩,by rw[hr,F8 ae hc4]⟩,ae,(dy [])⟩
 refine aI ?_;intro u1;refine ay ?_;intro u2;refine ar (hc:=h630 _ _) ?_;refine aA ?_;refine c8 ?_;rw[hr,Cs ae]
def KH (T:List D->D->Prop):Prop:=∀(a:au) (b:au),(a.length<=1048576/\b.length<=1048576)->T [.str a,.str b] (.int .i64 (vL a b))
def Xd (Y:Ctx):Prop:=KH (bD Y 631)
def Dx:aE:=⟨2,12,[⟨2,none⟩],b8,(sq (rg [gb 5 s0,gb 5 s1,gm bx] [(3,0),(4,1),(2,2)]) (sq (sq (r1 [gk 5 true s3,gx 217 [l0] xA,iY l1,gm l2,cn 3 (.ld 5 true s4),cn 3 (.call 217 [l4] xA),cn 3 (.un .not l5),eW l3 l6] 5 7) (.cond s5 (sq (r1 [gm bx] 2 0) .ret) .skip)) (sq (sq (r1 [gf 0 s3,gd l0,gf 0 s4,gd l2,gx 630 [l1,l3] fA,gm l4] 6 5) (sq (r1 [gm s6,bO l0 bx] 7 1) (.cond s7 (sq (r1 [gm s6,gm l0] 2 1) .ret) .skip))) (sq (sq (r1 [gf 1 s3,gd l0,gf 1 s4,gd l2,gx 630 [l1,l3] fA,gm l4] 8 5) (sq (r1 [gm s8,bO l0 bx] 9 1) (.cond s9 (sq (r1 [gm s8,gm l0] 2 1) .ret) .skip))) (sq (sq (r1 [gf 2 s3,gd l0,gf 2 s4,gd l2,gx 630 [l1,l3] fA,gm l4] 10 5) (sq (r1 [gm ik,bO l0 bx] 11 1) (.cond jR (sq (r1 [gm ik,gm l0] 2 1) .ret) .skip))) (sq (r1 [gf 3 s3,gd l0,gf 3 s4,gd l2,gx 631 [l1,l3] fA,gm l4] 2 5) .ret))))))⟩
def w424 {Y:Ctx}(hm:(Y.at 0).cj)(h217:GQ Y)(h630:QR Y)(h631:Xd Y)(a:cy)(b:cy)  (hp0:a.sm/\b.sm):dn Y Dx (.int .i64 (pP a b)) [cy.D a,cy.D b]:=by
 show bP _ _ _ [⟨_,_⟩,⟨_,_⟩,_,_,_,_,_,_,_,_,_,_] _;refine aq ?_;refine ba ?_;refine ar (hc:=h217 a hp0.1) ?_;refine aA ?_;refine dm (hc:=fun hf=>h217 b hp0.2) ?_;refine aA ?_;refine av (fun hc0=>?_) (fun hc0=>?_)
 .simp only[cS,bg]at hc0;refine aI ?_;refine c8 ?_;unfold pP;rw[aw hc0]
 simp only[dh,bN]at hc0;have hv:¬(fT a=false\/fT b=false):=by simp only[not_or,Bool.not_eq_false];first|exact hc0|exact hc0.1
 refine ba ?_;refine ar (hc:=h630 _ _) ?_;refine ba ?_;refine cM (fun hc1=>?_) fun hc1=>?_
 .refine aG ?_;refine c8 ?_;unfold pP;rw[ak hv,aw hc1]
 refine ba ?_;refine ar (hc:=h630 _ _) ?_;refine ba ?_;refine cM (fun hc2=>?_) fun hc2=>?_
 .refine aG ?_;refine c8 ?_;unfold pP;rw[ak hv,ak (by simpa using hc1),aw hc2]
 refine ba ?_;refine ar (hc:=h630 _ _) ?_;refine ba ?_;refine cM (fun hc3=>?_) fun hc3=>?_
 .refine aG ?_;refine c8 ?_;unfold pP;rw[ak hv,ak (by simpa using hc1),ak (by simpa using hc2),aw hc3]
 refine aG ?_;refine ar (hc:=h631 a.pre b.pre ⟨hp0.1.1,hp0.2.1⟩) ?_;refine aA ?_;refine c8 ?_;unfold pP;rw[ak hv,ak (by simpa using hc1),ak (by simpa using hc2),ak (by simpa using hc3)]
def WB (Y:Ctx):Prop:=xY (bD Y 424)
def Dw:aE:=⟨1,7,ib,b8,(sq (rg [gb 4 s0,gm cse] [(2,0),(1,1)]) (sq (rg [gm (cs [45]),gm (cs [102,117,108,108])] [(5,0),(6,1)]) (sq (sq (r1 [gf 2 s2,gd l0,gl l1,dj l2 bx] 3 3) (.cond s3 (r1 [gf 2 s2,gd l0,gx 249 [l1,(i8 44)] [[.sl 1 [.a]],[.a]],gm l2] 5 3) .skip)) (sq (sq (r1 [gf 3 s2,gd l0] 4 1) (.cond s4 (r1 [gm (cs [98,97,114,101])] 6 0) .skip)) (sq (r1 [gf 0 s2,gd l0,az (cs [97,110,121,32]) l1,az l2 (cs [32]),gm s5,az l3 l4,az l5 (cs [32]),gm s6,az l6 l7,az l8 (cs [32]),gf 1 s2,gd l10,az l9 fZ,az iv (cs [10]),gm jr] 1 14) .ret)))))⟩
def w461 {Y:Ctx}(hm:(Y.at 0).cj)(h249:Lc Y)(w:ch)  (hp0:w.fit):dn Y Dw (.str (jE w)) [ch.D w]:=by
 show bP _ _ _ [⟨_,_⟩,_,_,_,_,_,_] _;have q1:=AF hp0;have q2:=hp0.1.1.1;have q3:=hp0.1.1.2;refine aq ?_;refine hY ?_;intro u0;refine ay ?_;refine cM (fun hc0=>?_) fun hc0=>?_
 .refine aA ?_;refine ar (hc:=h249 w.feats 44 ae) ?_;refine ba ?_;refine cM (fun hc1=>?_) fun hc1=>?_
  .refine aG ?_;refine fW ?_;refine fW ?_;refine aH ?_;refine fW ?_;refine fW ?_;refine aH ?_;refine fW ?_;refine fW ?_;refine ay ?_;refine fW ?_;refine fW ?_;refine aA ?_;refine df ?_;all_goals
    simp only[jE,cw,nj,aV,ic,mH,eh];first|rw[aw (show w.feats.length=0 by omega)]|rw[ak (show ¬w.feats.length=0 by omega)]
    simp[hc1]
  refine aD ?_;refine fW ?_;refine fW ?_;refine aH ?_;refine fW ?_;refine fW ?_;refine aH ?_;refine fW ?_;refine fW ?_;refine ay ?_;refine fW ?_;refine fW ?_;refine aA ?_;refine df ?_;all_goals
   simp only[jE,cw,nj,aV,ic,mH,eh];first|rw[aw (show w.feats.length=0 by omega)]|rw[ak (show ¬w.feats.length=0 by omega)]
   simp[hc1]
 refine aG ?_;refine cM (fun hc1=>?_) fun hc1=>?_
 .refine aG ?_;refine fW ?_;refine fW ?_;refine aH ?_;refine fW ?_;refine fW ?_;refine aH ?_;refine fW ?_;refine fW ?_;refine ay ?_;refine fW ?_;refine fW ?_;refine aA ?_;refine df ?_;all_goals
   simp only[jE,cw,nj,aV,ic,mH,eh];first|rw[aw (show w.feats.length=0 by omega)]|rw[ak (show ¬w.feats.length=0 by omega)]
   simp[hc1]
 refine aD ?_;refine fW ?_;refine fW ?_;refine aH ?_;refine fW ?_;refine fW ?_;refine aH ?_;refine fW ?_;refine fW ?_;refine ay ?_;refine fW ?_;refine fW ?_;refine aA ?_;refine df ?_;all_goals
  simp only[jE,cw,nj,aV,ic,mH,eh];first|rw[aw (show w.feats.length=0 by omega)]|rw[ak (show ¬w.feats.length=0 by omega)]
  simp[hc1]
def Ks (T:List D->D->Prop):Prop:=∀(w:ch),(w.fit)->T [ch.D w] (.str (jE w))
def WS (Y:Ctx):Prop:=Ks (bD Y 461)
def HS:aE:=⟨1,3,ib,b8,(sq (r1 [gm cse] 1 0) (sq (sq (r1 [gm s0,aL l0 cse] 2 1) (m8 s2 cse)) (sq (r1 [gm s0,az (cs [119,104,101,110,32]) l0,az l1 (cs [10]),gm l2] 1 3) .ret)))⟩
def w462 {Y:Ctx}(hm:(Y.at 0).cj)  (s:au)  (hp0:s.length<=1048576):dn Y HS (.str (iW s)) [.str s]:=by
 show bP _ _ _ [⟨_,_⟩,_,_] _;refine aq ?_;refine ba ?_;refine cM (fun hc0=>?_) fun hc0=>?_
 .refine aI ?_;refine df ?_;rw[iW,aw hc0]
 refine aA ?_;refine fW ?_;refine fW ?_;refine aA ?_;refine df ?_;rw[iW,ak hc0];simp[cw,aV,fV]
def Kt (T:List D->D->Prop):Prop:=∀(s:au),(s.length<=1048576)->T [.str s] (.str (iW s))
def WT (Y:Ctx):Prop:=Kt (bD Y 462)
def HR:aE:=⟨1,13,ib,b8,(sq (rg [gb 9 s0,gm cse] [(2,0),(1,1)]) (sq (r2 [gf 0 s2,gd l0,az (cs [112,97,99,107,97,103,101,32]) l1,az l2 (cs [32]),gf 1 s2,gk 5 true l4,gx 316 [l5] xA,az l3 l6,az l7 (cs [10]),gm l8] 5 9) (sq (sq (r1 [gm bx] 3 0) (.block 0 (.loop (sq (sq (r1 [gm s3,gf 6 s2,gd l1,gl l2,aX l0 l3] 4 4) (fC s4 0)) (sq (.block 1 (sq (r1 [gm s5,az l0 (cs [110,101,101,100,10]),gm l1] 5 2) (sq (sq (r1 [gm bx] 6 0) (.block 2 (.loop (sq (sq (r1 [gm s6,gf 6 s2,gd l1,gm s3,ga 3 l2 l3,gf 0 l4,gd l5,gl l6,aX l0 l7] 7 8) (fC s7 2)) (sq (.block 3 (r1 [gm s5,gf 6 s2,gd l1,gm s3,ga 3 l2 l3,gf 0 l4,gd l5,gm s6,ga 4 l6 l7,gk 4 true l8,gx 461 [l9] [[.a,.a,.sl 1 [.a],.a]],az l0 l10,gm fZ] 5 12)) (r1 [gm s6,az l0 cl,gm l1] 6 2)))))) (sq (r1 [gm s5,gf 6 s2,gd l1,gm s3,ga 3 l2 l3,gf 1 l4,gd l5,gx 462 [l6] b8,az l0 l7,gm l8] 5 9) (sq (r1 [gf 6 s2,gd l0,gm s3,ga 3 l1 l2,gf 2 l3,gd l4,bO l5 cse] 8 6) (.cond s8 (r1 [gm s5,az l0 (cs [111,112,116,105,111,110,32]),gf 6 s2,gd l2,gm s3,ga 3 l3 l4,gf 2 l5,gd l6,az l1 l7,az l8 (cs [10]),gm l9] 5 10) .skip)))))) (r1 [gm s3,az l0 cl,gm l1] 3 2)))))) (sq (sq (r1 [gm bx] 9 0) (.block 4 (.loop (sq (sq (r1 [gm s9,gf 7 s2,gd l1,gl l2,aX l0 l3] 10 4) (fC ik 4)) (sq (.block 5 (r2 [gm s5,az l0 (cs [98,97,114,32]),gf 7 s2,gd l2,gm s9,ga 3 l3 l4,gf 0 l5,gd l6,az l1 l7,az l8 (cs [32]),gf 7 s2,gd l10,gm s9,ga 3 fZ iv,gf 1 jr,gd jT,az l9 lg,az nw (cs [10]),gf 7 s2,gd pL,gm s9,ga 3 qx uN,gf 2 xc,gd zm,gx 462 [C6] b8,az oU D5,gm GM] 5 26)) (r1 [gm s9,az l0 cl,gm l1] 9 2)))))) (sq (sq (r1 [gm bx] 11 0) (.block 6 (.loop (sq (sq (r1 [gm jR,gf 8 s2,gd l1,gl l2,aX l0 l3] 12 4) (fC kr 6)) (sq (.block 7 (r2 [gm s5,gf 8 s2,gd l1,gm jR,ga 2 l2 l3,gf 0 l4,gd l5,gn (.bsl 1 (.str []) 2 [(0,(cs [102,101,97,116,117,114,101])),(1,l6)]),gf 8 s2,gd l8,gm jR,ga 2 l9 l10,gf 1 fZ,gd iv,gn (.app 1 l7 jr),gx 249 [jT,(i8 32)] [[.sl 1 [.a]],[.a]],az l0 lg,az nw (cs [10]),gm oU] 5 18)) (r1 [gm jR,az l0 cl,gm l1] 11 2)))))) (sq (r1 [gm s5,gm l0] 1 1) .ret))))))⟩
def w219 (h249:Lc Y)(h316:Wx Y)(h461:WS Y)(h462:WT Y)(r:Rec)  (hp0:zi r/\gW r):dn Y HR (.str (pJ r)) [Rec.D r]:=by
 show bP _ _ _ [⟨_,_⟩,_,_,_,_,_,_,_,_,_,_,_,_] _;have hft:=BF hp0;have q0:=hft.nm;have q00:=Az r.v hft.v;refine aq ?_;refine aG ?_;refine fW ?_;refine fW ?_;refine aH ?_;refine bd (v:=cy.D r.v) ?_;refine ar (hc:=h316 r.v hft.v) ?_;refine fW ?_;refine fW ?_;refine aG ?_;refine bh hm (ι:=Nat) (fun i=>[.un,.un,⟨true,.ptr 0 9 0 0⟩,⟨true,.int .i64 (i:Nat)⟩,.un,⟨true,.str (kC r i)⟩,.un,.un,.un,.un,.un,.un,.un]) (fun i=>[(0,.buf 9 [Rec.D r])]) 13 (fun i=>i<=r.needs.length) (fun i=>r.needs.length-i) 0 ae (br.to [(0,0)] ah ah (by repeat(first|exact eC.nil|refine eC.un ?_|refine eC.eq ah ?_|refine eC.nl (aj D.str (by rw[Qi];simp[qS,cw,aV,ef])) ah ?_)) tn) ?_;intro i hi;have q1:=DM hft i hi;refine aG ?_;intro u0;refine ay ?_;refine cM (fun hc0=>?_) fun hc0=>?_
 .refine aA ?_;have hnf:=hft.n _ (bR (show i<r.needs.length by omega));have hn3:=hnf.1.1;refine aH ?_;refine fW ?_;refine aG ?_;refine bh hm (ι:=Nat) (fun j=>[.un,.un,⟨true,.ptr 0 9 0 0⟩,⟨true,.int .i64 (i:Nat)⟩,.un,⟨true,.str (kC r i++ed r.needs[i]! j)⟩,⟨true,.int .i64 (j:Nat)⟩,.un,.un,.un,.un,.un,.un]) (fun j=>[(0,.buf 9 [Rec.D r])]) 22 (fun j=>j<=r.needs[i]!.any.length) (fun j=>r.needs[i]!.any.length-j) 0 ae (br.to [(0,0)] ah ah (by repeat(first|exact eC.nil|refine eC.un ?_|refine eC.eq ah ?_|refine eC.nl (aj D.str (by rw[RQ])) ah ?_)) tn) ?_;intro j hj;have q2:=BO hnf j ae;refine gv ?_;intro u1;refine ay ?_;refine cM (fun hc1=>?_) fun hc1=>?_
  .refine aA ?_;have hwf:=hnf.1.2 _ (bR (show j<r.needs[i]!.any.length by omega));have q3:=wg hwf;refine di ?_;first|refine bH (v:=(ch.D _)) ?_|refine e8 (v:=(ch.D _)) ?_
   refine ar (hc:=h461 r.needs[i]!.any[j]! hwf) ?_;refine fW ?_;refine di ?_;exact⟨j+1,ae,ae,(br.to [(0,0)] ah ah (by repeat(first|exact eC.nil|refine eC.un ?_|refine eC.eq ah ?_|refine eC.nl (aj D.str (by rw[n5 ae,eU])) ah ?_)) tn)⟩
  refine aA ?_;have q4:=nM hnf.2.1;have q5:=hnf.2.2;refine ba ?_;refine ar (hc:=h462 r.needs[i]!.when' hnf.2.1) ?_;refine fW ?_;refine fK ?_;refine fP (fun hc2=>?_) fun hc2=>?_
  .refine ay ?_;refine fW ?_;refine aG ?_;refine fW ?_;refine fW ?_;refine di ?_;have hq:kC r (i+1)=kC r i++(ed r.needs[i]! j++iW r.needs[i]!.when'++sr r.needs[i]!.option):=by rw[mF ae,vB (j:=j) ae]
   have ho:sr r.needs[i]!.option=[111,112,116,105,111,110,32]++r.needs[i]!.option++[10]:=by rw[sr,ak hc2];simp[cw,aV,dt]
   exact⟨i+1,ae,ae,(br.to [(0,0)] ah ah (by repeat(first|exact eC.nil|refine eC.un ?_|refine eC.eq ah ?_|refine eC.nl (aj D.str (by rw[hq,ho];simp only[eU])) ah ?_)) tn)⟩
  refine bU ?_;have hq:kC r (i+1)=kC r i++(ed r.needs[i]! j++iW r.needs[i]!.when'++sr r.needs[i]!.option):=by rw[mF ae,vB (j:=j) ae]
  have ho:sr r.needs[i]!.option=[]:=by rw[sr,aw hc2]
  exact⟨i+1,ae,ae,(br.to [(0,0)] ah ah (by repeat(first|exact eC.nil|refine eC.un ?_|refine eC.eq ah ?_|refine eC.nl (aj D.str (by rw[hq,ho];simp only[eU,iz])) ah ?_)) tn)⟩
 refine aD ?_;have h33:i=r.needs.length:=ae;subst h33;refine ay ?_;refine bh hm (ι:=Nat) (fun i=>[.un,.un,⟨true,.ptr 0 9 0 0⟩,.un,.un,⟨true,.str (Aw r i)⟩,.un,.un,.un,⟨true,.int .i64 (i:Nat)⟩,.un,.un,.un]) (fun i=>[(0,.buf 9 [Rec.D r])]) 19 (fun i=>i<=r.bars.length) (fun i=>r.bars.length-i) 0 ae (br.to [(0,0)] ah ah (by repeat(first|exact eC.nil|refine eC.un ?_|refine eC.eq ah ?_|refine eC.nl (aj D.str (by rw[Qj])) ah ?_)) tn) ?_;intro i hi;have q1:=DN hft i hi;refine aG ?_;intro u2;refine ay ?_;refine cM (fun hc3=>?_) fun hc3=>?_
 .refine aA ?_;have q4:=hft.b _ (bR (show i<r.bars.length by omega));have q5:=q4.1;have q6:=q4.2.1;have q7:=nM q4.2.2;refine aH ?_;refine fW ?_;refine aG ?_;refine fW ?_;refine fW ?_;refine aG ?_;refine fW ?_;refine fW ?_;refine aG ?_;refine ar (hc:=h462 r.bars[i]!.when' q4.2.2) ?_;refine fW ?_;refine di ?_;have hq:=Gd (r:=r) (i:=i) ae;exact⟨i+1,ae,ae,(br.to [(0,0)] ah ah (by repeat(first|exact eC.nil|refine eC.un ?_|refine eC.eq ah ?_|refine eC.nl (aj D.str (by rw[hq];simp[wW,cw,aV,ie])) ah ?_)) tn)⟩
 refine aD ?_;have h33:i=r.bars.length:=ae;subst h33;refine ay ?_;refine bh hm (ι:=Nat) (fun i=>[.un,.un,⟨true,.ptr 0 9 0 0⟩,.un,.un,⟨true,.str (Cw r i)⟩,.un,.un,.un,.un,.un,⟨true,.int .i64 (i:Nat)⟩,.un]) (fun i=>[(0,.buf 9 [Rec.D r])]) 25 (fun i=>i<=r.feats.length) (fun i=>r.feats.length-i) 0 ae (br.to [(0,0)] ah ah (by repeat(first|exact eC.nil|refine eC.un ?_|refine eC.eq ah ?_|refine eC.nl (aj D.str (by rw[Qk])) ah ?_)) tn) ?_;intro i hi;have q1:=JO hft i hi;refine aG ?_;intro u3;refine ay ?_;refine cM (fun hc4=>?_) fun hc4=>?_
 .refine aA ?_;have q4:=hft.f _ (bR (show i<r.feats.length by omega));have q5:=Bx q4;have q6:=q4.2;simp only[qO,cw,cb,ax,aB]at q5;refine ba ?_;refine dA [(.str _),(.str _)] ?_;refine aG ?_;refine Vm (xs:=[cN,r.feats[i]!.name]) (ys:=r.feats[i]!.of) (he:=uK.sl) (hb:=by simp only[ax,aB];omega) ?_;refine ar (hc:=h249 ([cN,r.feats[i]!.name]++r.feats[i]!.of) 32 ae) (ha:=fun _=>aj (fun d=>[d,D.int .u8 32]) (oM (q:=D.str) (fun _=>rfl) ah)) (hp:=fun _=>⟨mJ (q:=D.str) (fun _=>rfl) ah,rfl,trivial⟩) ?_;refine dQ (hb:=fun _=>by first|omega|(simp only[cb,ax,aB];omega)) ?_;refine dQ (hb:=fun _=>by first|omega|(simp only[cb,ax,aB];omega)) ?_;refine di ?_;have hq:=Gf (r:=r) (i:=i) ae;exact⟨i+1,ae,ae,(br.to [(0,0)] ah ah (by repeat(first|exact eC.nil|refine eC.un ?_|refine eC.eq ah ?_|refine eC.nl (aj D.str (by rw[hq];simp[qO,cw])) ah ?_)) tn)⟩
 refine aA ?_;have h33:i=r.feats.length:=ae;subst h33;refine aD ?_;refine df ?_;exact DO r
def FF:aE:=⟨1,6,[⟨1,none⟩,⟨2,none⟩],fA,(sq (rg [gb 9 s0,gm cse,gm bx] [(3,0),(1,1),(2,2)]) (sq (sq (r1 [gk 9 true s3,gx 71 [l0] [[.a,.a,.a,.a,.a,.a,.sl 3 [.sl 4 [.a,.a,.sl 1 [.a],.a],.a,.a],.sl 3 [.a,.a,.a],.sl 2 [.a,.sl 1 [.a]]]],gm l1,ge l2 0,ge l2 1,gm l3,gm l4] 4 5) (sq (r1 [gm s4,bO l0 bx] 5 1) (.cond s5 (sq (rg [gm s4,gm cse,gm l0] [(1,1),(2,2)]) .ret) .skip))) (sq (rg [gk 9 true s3,gx 219 [l0] [[.a,.a,.a,.a,.a,.a,.sl 3 [.sl 4 [.a,.a,.sl 1 [.a],.a],.a,.a],.sl 3 [.a,.a,.a],.sl 2 [.a,.sl 1 [.a]]]],gm l1,gm bx] [(1,2),(2,3)]) .ret)))⟩
def w73 {Y:Ctx}(hm:(Y.at 0).cj)(h71:C71 Y)(h219:Tx Y)(r:Rec)  (hp0:gW r):dn Y FF (.tup [.str (fu r).1,.int .i64 (fu r).2]) [Rec.D r]:=by
 show bP _ _ _ [⟨_,_⟩,_,_,_,_,_] _;refine aq ?_;refine ba ?_;refine ar (hc:=h71 r hp0) ?_;refine fK ?_;refine cM (fun hc0=>?_) fun hc0=>?_
 .refine ba ?_;refine bI (aK (aj D.str ?_) (aj (D.int .i64) ?_));all_goals
   simp[fu,hc0]
 refine ay ?_;have hgd:=qH hc0;refine aH ?_;refine ar (hc:=h219 r ⟨hgd,hp0⟩) ?_;refine aD ?_;refine bI (aK (aj D.str ?_) (aj (D.int .i64) ?_));all_goals
  simp[fu,hc0]
def C73 (Y:Ctx):Prop:=DY (bD Y 73)
def Ms:aE:=⟨1,7,[⟨1,none⟩,⟨2,none⟩],fA,(sq (rg [gb 9 s0,gm (iu 0),gm bx] [(3,0),(1,1),(2,2)]) (sq (rg [gk 9 true s3,gx 73 [l0] [[.a,.a,.a,.a,.a,.a,.sl 3 [.sl 4 [.a,.a,.sl 1 [.a],.a],.a,.a],.sl 3 [.a,.a,.a],.sl 2 [.a,.sl 1 [.a]]]],gm l1,ge l2 0,ge l2 1,gm l3,gm l4] [(6,5),(4,6)]) (sq (sq (r1 [gm s4,bO l0 bx] 5 1) (.cond s5 (sq (rg [gm s4,gm (iu 0),gm l0] [(1,1),(2,2)]) .ret) .skip)) (sq (rg [gm s6,gn (.s2b l0),gx 221 [l1] [[.sl 1 [.a]]],gm l2,gm bx] [(1,3),(2,4)]) .ret))))⟩
def w75 {Y:Ctx}(hm:(Y.at 0).cj)(h73:C73 Y)(h221:Wg Y)(r:Rec)  (hp0:gW r):dn Y Ms (.tup [.int .u64 (Au r),.int .i64 (fu r).2]) [Rec.D r]:=by
 show bP _ _ _ [⟨_,_⟩,_,_,_,_,_,_] _;refine aq ?_;refine aG ?_;refine ar (hc:=h73 r hp0) ?_;refine fK ?_;refine cM (fun hc0=>?_) fun hc0=>?_
 .refine ba ?_;refine bI (aK (aj (D.int .u64) ?_) (aj (D.int .i64) ?_));all_goals
   simp[Au,hc0]
 refine aD ?_;refine ar (hc:=h221 (fu r).1) (ha:=fun _=>aj (fun d=>[d]) (oM (q:=fun b:UInt8=>D.int .u8 b.toNat) (fun _=>rfl) ah)) (hp:=fun _=>⟨mJ (q:=fun b:UInt8=>D.int .u8 b.toNat) (fun _=>rfl) ah,trivial⟩) ?_;refine aD ?_;refine bI (aK (aj (D.int .u64) ?_) (aj (D.int .i64) ?_));all_goals
  simp[Au,hc0]
def C75 (Y:Ctx):Prop:=DZ (bD Y 75)
def Mv:aE:=⟨2,5,[⟨2,none⟩],b8,(sq (rg [gb 5 s0,gb 5 s1,gm cZ] [(3,0),(4,1),(2,2)]) (sq (r1 [gk 5 true s3,gx 217 [l0] xA,gm l1,cr 2 (.ld 5 true s4),cr 2 (.call 217 [l3] xA),eX l2 l4,gm l5,cr 6 (.ld 5 true s3),cr 6 (.ld 5 true s4),cr 6 (.call 424 [l7,l8] [[.a,.a,.a,.a,.a],[.a,.a,.a,.a,.a]]),cr 6 (cV l9 bx),eX l6 l10,gm fZ] 2 12) .ret))⟩
def w501 {Y:Ctx}(hm:(Y.at 0).cj)(h217:GQ Y)(h424:WB Y)(a:cy)(b:cy)  (hp0:a.sm/\b.sm):dn Y Mv (.bool (Me a b)) [cy.D a,cy.D b]:=by
 show bP _ _ _ [⟨_,_⟩,⟨_,_⟩,_,_,_] _;refine aq ?_;refine aG ?_;refine ar (hc:=h217 a hp0.1) ?_;refine ay ?_;refine dm (hc:=fun hf=>h217 b hp0.2) ?_;refine aD ?_;refine dm (hc:=fun hf=>h424 a b hp0) ?_;refine aI ?_;exact bX rfl
def W5 (Y:Ctx):Prop:=yv (bD Y 501)
def Ab:aE:=⟨2,5,[⟨2,none⟩],b8,(sq (rg [gb 4 s0,gb 4 s1,gm cZ] [(3,0),(4,1),(2,2)]) (sq (r1 [gf 0 s3,gd l0,gf 0 s4,gd l2,aL l1 l3,gm l4,kn 5 1 s3,jM 5 l6,kn 5 1 s4,jM 5 l8,cr 5 (cV l7 l9),eX l5 l10,gm fZ,kn 12 3 s3,jM 12 jr,kn 12 3 s4,jM 12 lg,cr 12 (.eqA false false [.b] jT nw),eX iv oU,gm pL,kn 19 2 s3,jM 19 uN,kn 19 2 s4,jM 19 zm,cr 19 (.call 226 [xc,C6] [[.sl 1 [.a]],[.sl 1 [.a]]]),eX qx D5,gm GM] 2 26) .ret))⟩
def w477 {Y:Ctx}(hm:(Y.at 0).cj)(h226:TA Y)(a:ch)(b:ch)   :dn Y Ab (.bool (decide (a=b))) [ch.D a,ch.D b]:=by
 show bP _ _ _ [⟨_,_⟩,⟨_,_⟩,_,_,_] _;refine aq ?_;refine QC ?_;refine Tf (hb:=UL _ _) ?_;refine aG ?_;refine ar (hc:=h226 _ _) ?_;refine aD ?_;refine bX ?_;rw[ch.wO a b]
def Kz (T:List D->D->Prop):Prop:=∀(a:ch) (b:ch),T [ch.D a,ch.D b] (.bool (decide (a=b)))
def WY (Y:Ctx):Prop:=Kz (bD Y 477)
def Aa:aE:=⟨2,9,[⟨2,none⟩],b8,(sq (rg [gb 3 s0,gb 3 s1,gm cZ] [(3,0),(4,1),(2,2)]) (sq (sq (r1 [gf 1 s3,gd l0,gf 1 s4,gd l2,bO l1 l3,gm l4,ig 5 2 s3,hZ 5 l6,ig 5 2 s4,hZ 5 l8,cn 5 (dS l7 l9),eW l5 l10,gm fZ,ig 12 0 s3,hZ 12 jr,cn 12 (.len jT),ig 12 0 s4,hZ 12 nw,cn 12 (.len oU),cn 12 (dS lg pL),eW iv qx] 5 20) (.cond s5 (sq (r1 [gm cZ] 2 0) .ret) .skip)) (sq (sq (r1 [gm bx] 6 0) (.block 0 (.loop (sq (sq (r1 [gm s6,gf 0 s3,gd l1,gl l2,aX l0 l3] 7 4) (fC s7 0)) (sq (.block 1 (sq (r2 [gf 0 s3,gd l0,gm s6,ga 4 l1 l2,gk 4 true l3,gf 0 s4,gd l5,gm s6,ga 4 l6 l7,gk 4 true l8,gx 477 [l4,l9] [[.a,.a,.sl 1 [.a],.a],[.a,.a,.sl 1 [.a],.a]],iY l10] 8 11) (.cond s8 (sq (r1 [gm cZ] 2 0) .ret) .skip))) (r1 [gm s6,az l0 cl,gm l1] 6 2)))))) (sq (r1 [gm m5] 2 0) .ret))))⟩
def w225 (h477:WY Y)(a:bw)(b:bw)   :dn Y Aa (.bool (decide (a=b))) [bw.D a,bw.D b]:=by
 show bP _ _ _ [⟨_,_⟩,⟨_,_⟩,_,_,_,_,_,_,_] _;refine aq ?_;refine zzz21 ?_;refine iJ ?_;refine ay ?_;refine iJ ?_;refine aA ?_;refine av (fun hc0=>?_) (fun hc0=>?_)
 .simp only[cS,bg,bm]at hc0;refine aI ?_;refine bX ?_;symm;rw[bm];rintro rfl;simp at hc0
 simp only[dh,bN,aT]at hc0;refine aI ?_;have hb:=bw.ZS hc0.1.1 hc0.1.2 ae;refine bh hm (ι:=Nat) (fun i=>[.un,.un,.un,⟨true,.ptr 0 3 0 0⟩,⟨true,.ptr 1 3 0 0⟩,.un,⟨true,.int .i64 (i:Nat)⟩,.un,.un]) (fun i=>[(0,.buf 3 [bw.D a]),(1,.buf 3 [bw.D b])]) 25 (fun i=>i<=a.any.length/\decide (a=b)=cQ (fun i=>decide (a.any[i]! =b.any[i]!)) i a.any.length) (fun i=>a.any.length-i) 0 ⟨ae,hb⟩ (dy [(0,0),(1,1)]) ?_;rintro i ⟨hi,hr⟩;refine aG ?_;intro u0;refine ay ?_;refine cM (fun hc1=>?_) fun hc1=>?_
 .refine ba ?_;first|refine bH (v:=(ch.D _)) ?_|refine e8 (v:=(ch.D _)) ?_
  refine aD ?_;first|refine bH (v:=(ch.D _)) ?_|refine e8 (v:=(ch.D _)) ?_
  refine ar (hc:=h477 _ _) ?_;refine ay ?_;refine wp_cond (fun hc2=>?_) (fun hc2=>?_)
  .simp only[bg,bm]at hc2;refine aG ?_;refine bX ?_;rw[hr,aS ae,cJ hc2];rfl
  simp only[bN,aT]at hc2;refine bU ?_;exact⟨i+1,⟨ae,by rw[hr,aS ae,b9 hc2];rfl⟩,ae,(dy [(0,0),(1,1)])⟩
 refine aG ?_;refine bX ?_;rw[hr,cq ae]
def JY (T:List D->D->Prop):Prop:=∀(a:bw) (b:bw),T [bw.D a,bw.D b] (.bool (decide (a=b)))
def Wi (Y:Ctx):Prop:=JY (bD Y 225)
def HO:aE:=⟨2,15,[⟨2,none⟩],b8,(sq (rg [gb 9 s0,gb 9 s1,gm cZ] [(3,0),(4,1),(2,2)]) (sq (sq (r1 [gf 0 s3,gd l0,gf 0 s4,gd l2,bO l1 l3,gm l4,ig 5 1 s3,cn 5 (.ld 5 true l6),ig 5 1 s4,cn 5 (.ld 5 true l8),cn 5 (.eqA true true [.i .i64,.i .i64,.i .i64,.s,.s] l7 l9),eW l5 l10,gm fZ,ig 12 6 s3,hZ 12 jr,cn 12 (.len jT),ig 12 6 s4,hZ 12 nw,cn 12 (.len oU),cn 12 (dS lg pL),eW iv qx,gm uN,ig 21 7 s3,hZ 21 zm,cn 21 (.len C6),ig 21 7 s4,hZ 21 GM,cn 21 (.len Ng),cn 21 (dS D5 QG),eW xc S8,gm S9,ig 30 8 s3,hZ 30 Zx,cn 30 (.len Zy),ig 30 8 s4,hZ 30 l34,cn 30 (.len l35),cn 30 (dS l33 l36),eW VY l37] 5 38) (.cond s5 (sq (r1 [gm cZ] 2 0) .ret) .skip)) (sq (sq (r1 [gm bx] 6 0) (.block 0 (.loop (sq (sq (r1 [gm s6,gf 6 s3,gd l1,gl l2,aX l0 l3] 7 4) (fC s7 0)) (sq (.block 1 (sq (r2 [gf 6 s3,gd l0,gm s6,ga 3 l1 l2,gk 3 true l3,gf 6 s4,gd l5,gm s6,ga 3 l6 l7,gk 3 true l8,gx 225 [l4,l9] [[.sl 4 [.a,.a,.sl 1 [.a],.a],.a,.a],[.sl 4 [.a,.a,.sl 1 [.a],.a],.a,.a]],iY l10] 8 11) (.cond s8 (sq (r1 [gm cZ] 2 0) .ret) .skip))) (r1 [gm s6,az l0 cl,gm l1] 6 2)))))) (sq (sq (r1 [gm bx] 9 0) (.block 2 (.loop (sq (sq (r1 [gm s9,gf 7 s3,gd l1,gl l2,aX l0 l3] 10 4) (fC ik 2)) (sq (.block 3 (sq (r2 [gf 7 s3,gd l0,gm s9,ga 3 l1 l2,gk 3 true l3,gf 7 s4,gd l5,gm s9,ga 3 l6 l7,gk 3 true l8,gn (.eqA true true [.s,.s,.s] l4 l9)] 11 10) (.cond jR (sq (r1 [gm cZ] 2 0) .ret) .skip))) (r1 [gm s9,az l0 cl,gm l1] 9 2)))))) (sq (sq (r1 [gm bx] 12 0) (.block 4 (.loop (sq (sq (r1 [gm kr,gf 8 s3,gd l1,gl l2,aX l0 l3] 13 4) (fC qb 4)) (sq (.block 5 (sq (r2 [gf 8 s3,gd l0,gm kr,ga 2 l1 l2,gf 0 l3,gd l4,gf 8 s4,gd l6,gm kr,ga 2 l7 l8,gf 0 l9,gd l10,bO l5 fZ,gm iv,ig 13 8 s3,hZ 13 jT,ek 13 kr,cn 13 (.ia 2 lg nw),ig 13 1 oU,hZ 13 pL,ig 13 8 s4,hZ 13 uN,ek 13 kr,cn 13 (.ia 2 xc zm),ig 13 1 C6,hZ 13 D5,cn 13 (.call 226 [qx,GM] [[.sl 1 [.a]],[.sl 1 [.a]]]),cn 13 (.un .not Ng),eW jr QG] 14 28) (.cond tw (sq (r1 [gm cZ] 2 0) .ret) .skip))) (r1 [gm kr,az l0 cl,gm l1] 12 2)))))) (sq (r1 [gm m5] 2 0) .ret))))))⟩
def w78 (h225:Wi Y)(h226:TA Y)(a:Rec)(b:Rec)   :dn Y HO (.bool (decide (a=b))) [Rec.D a,Rec.D b]:=by
 show bP _ _ _ [⟨_,_⟩,⟨_,_⟩,_,_,_,_,_,_,_,_,_,_,_,_,_] _;refine aq ?_;refine lA ?_;refine bd (v:=(cy.D _)) ?_;refine aH ?_;refine bd (v:=(cy.D _)) ?_;refine Jz (hb:=cy.eq _ _) ?_;refine aD ?_;refine iJ ?_;refine ay ?_;refine iJ ?_;refine aI ?_;refine iJ ?_;refine ay ?_;refine iJ ?_;refine aI ?_;refine iJ ?_;refine ay ?_;refine iJ ?_;refine aA ?_;refine av (fun hc0=>?_) (fun hc0=>?_)
 .simp only[cS,bg,bm]at hc0;refine aI ?_;refine bX ?_;symm;rw[bm];rintro rfl;simp at hc0
 simp only[dh,bN,aT]at hc0;refine aI ?_;have hb:=pF (show a.needs.length=b.needs.length by omega);refine bh hm (ι:=Nat) (fun i=>[.un,.un,.un,⟨true,.ptr 0 9 0 0⟩,⟨true,.ptr 1 9 0 0⟩,.un,⟨true,.int .i64 (i:Nat)⟩,.un,.un,.un,.un,.un,.un,.un,.un]) (fun i=>[(0,.buf 9 [Rec.D a]),(1,.buf 9 [Rec.D b])]) 43 (fun i=>i<=a.needs.length/\decide (a.needs=b.needs)=cQ (fun i=>decide (a.needs[i]! =b.needs[i]!)) i a.needs.length) (fun i=>a.needs.length-i) 0 ⟨ae,hb⟩ (dy [(0,0),(1,1)]) ?_;rintro i ⟨hi,hr⟩;refine aG ?_;intro u0;refine ay ?_;refine cM (fun hc1=>?_) fun hc1=>?_
 .refine ba ?_;first|refine bH (v:=(bw.D _)) ?_|refine e8 (v:=(bw.D _)) ?_
  refine aD ?_;first|refine bH (v:=(bw.D _)) ?_|refine e8 (v:=(bw.D _)) ?_
  refine ar (hc:=h225 _ _) ?_;refine ay ?_;refine wp_cond (fun hc2=>?_) (fun hc2=>?_)
  .simp only[bg,bm]at hc2;refine aG ?_;refine bX ?_;have hd:decide (a.needs=b.needs)=false:=by rw[hr,aS ae,cJ hc2];rfl
   rw[Rec.wO a b,hd];simp
  simp only[bN,aT]at hc2;refine bU ?_;exact⟨i+1,⟨ae,by rw[hr,aS ae,b9 hc2];rfl⟩,ae,(dy [(0,0),(1,1)])⟩
 refine aD ?_;have hn:decide (a.needs=b.needs)=true:=by rw[hr,cq ae]
 refine ay ?_;have hb:=pF (show a.bars.length=b.bars.length by omega);refine bh hm (ι:=Nat) (fun i=>[.un,.un,.un,⟨true,.ptr 0 9 0 0⟩,⟨true,.ptr 1 9 0 0⟩,.un,.un,.un,.un,⟨true,.int .i64 (i:Nat)⟩,.un,.un,.un,.un,.un]) (fun i=>[(0,.buf 9 [Rec.D a]),(1,.buf 9 [Rec.D b])]) 49 (fun i=>i<=a.bars.length/\decide (a.bars=b.bars)=cQ (fun i=>decide (a.bars[i]! =b.bars[i]!)) i a.bars.length) (fun i=>a.bars.length-i) 0 ⟨ae,hb⟩ (dy [(0,0),(1,1)]) ?_;rintro i ⟨hi,hr⟩;refine aG ?_;intro u1;refine ay ?_;refine cM (fun hc3=>?_) fun hc3=>?_
 .refine ba ?_;first|refine bH (v:=(fM.D _)) ?_|refine e8 (v:=(fM.D _)) ?_
  refine aD ?_;first|refine bH (v:=(fM.D _)) ?_|refine e8 (v:=(fM.D _)) ?_
  refine Jz (hb:=fM.eq _ _) ?_;refine aH ?_;refine wp_cond (fun hc4=>?_) (fun hc4=>?_)
  .simp only[bg,bm]at hc4;refine aG ?_;refine bX ?_;have hd:decide (a.bars=b.bars)=false:=by rw[hr,aS ae,cJ hc4];rfl
   rw[Rec.wO a b,hd];simp
  simp only[bN,aT]at hc4;refine bU ?_;exact⟨i+1,⟨ae,by rw[hr,aS ae,b9 hc4];rfl⟩,ae,(dy [(0,0),(1,1)])⟩
 refine aD ?_;have hbr:decide (a.bars=b.bars)=true:=by rw[hr,cq ae]
 refine ay ?_;have hb:=pF (show a.feats.length=b.feats.length by omega);refine bh hm (ι:=Nat) (fun i=>[.un,.un,.un,⟨true,.ptr 0 9 0 0⟩,⟨true,.ptr 1 9 0 0⟩,.un,.un,.un,.un,.un,.un,.un,⟨true,.int .i64 (i:Nat)⟩,.un,.un]) (fun i=>[(0,.buf 9 [Rec.D a]),(1,.buf 9 [Rec.D b])]) 55 (fun i=>i<=a.feats.length/\decide (a.feats=b.feats)=cQ (fun i=>decide (a.feats[i]! =b.feats[i]!)) i a.feats.length) (fun i=>a.feats.length-i) 0 ⟨ae,hb⟩ (dy [(0,0),(1,1)]) ?_;rintro i ⟨hi,hr⟩;refine aG ?_;intro u2;refine ay ?_;refine cM (fun hc5=>?_) fun hc5=>?_
 .refine zzz29 ?_;refine ar (hc:=h226 _ _) ?_;refine aA ?_;refine wp_cond (fun hc6=>?_) (fun hc6=>?_)
  .simp only[cS,bg,bm]at hc6;replace hc6:¬a.feats[i]! =b.feats[i]! :=fun e=>by rw[e]at hc6;simp at hc6
   refine aG ?_;refine bX ?_;have hd:decide (a.feats=b.feats)=false:=by rw[hr,aS ae,cJ hc6];rfl
   rw[Rec.wO a b,hd];simp
  simp only[dh,bN,aT]at hc6;replace hc6:a.feats[i]! =b.feats[i]! :=cv.eq2 hc6.1 hc6.2;refine bU ?_;exact⟨i+1,⟨ae,by rw[hr,aS ae,b9 hc6];rfl⟩,ae,(dy [(0,0),(1,1)])⟩
 refine aG ?_;refine bX ?_;have hf:decide (a.feats=b.feats)=true:=by rw[hr,cq ae]
 rw[Rec.wO a b,hn,hbr,hf,b9 hc0.1.1.1.1,b9 hc0.1.1.1.2];rfl
def Qy (T:List D->D->Prop):Prop:=∀(a:Rec) (b:Rec),T [Rec.D a,Rec.D b] (.bool (decide (a=b)))
def C78 (Y:Ctx):Prop:=Qy (bD Y 78)
def xg:aE:=⟨2,5,[⟨2,none⟩],b8,(sq (rg [gb 11 s0,gb 11 s1,gm cZ] [(3,0),(4,1),(2,2)]) (sq (r1 [gf 9 s3,gd l0,gf 9 s4,gd l2,aL l1 l3,gm l4,kn 5 0 s3,cr 5 (.ld 9 true l6),kn 5 0 s4,cr 5 (.ld 9 true l8),cr 5 (.call 78 [l7,l9] [[.a,.a,.a,.a,.a,.a,.sl 3 [.sl 4 [.a,.a,.sl 1 [.a],.a],.a,.a],.sl 3 [.a,.a,.a],.sl 2 [.a,.sl 1 [.a]]],[.a,.a,.a,.a,.a,.a,.sl 3 [.sl 4 [.a,.a,.sl 1 [.a],.a],.a,.a],.sl 3 [.a,.a,.a],.sl 2 [.a,.sl 1 [.a]]]]),eX l5 l10,gm fZ] 2 12) .ret))⟩
def w263 {Y:Ctx}(hm:(Y.at 0).cj)(h78:C78 Y)(a:dk)(b:dk)   :dn Y xg (.bool (decide (a.sum=b.sum)&&decide (a.r=b.r))) [dk.D a,dk.D b]:=by
 show bP _ _ _ [⟨_,_⟩,⟨_,_⟩,_,_,_] _;refine aq ?_;refine aG ?_;refine bd (v:=.int .u64 a.sum) ?_;refine aH ?_;refine bd (v:=.int .u64 b.sum) ?_;refine aA ?_;refine bd (v:=Rec.D a.r) ?_;refine aH ?_;refine bd (v:=Rec.D b.r) ?_;refine dm (hc:=fun hf=>h78 a.r b.r) ?_;refine aD ?_;exact bX rfl
def Kh (T:List D->D->Prop):Prop:=∀(a:dk) (b:dk),T [dk.D a,dk.D b] (.bool (decide (a.sum=b.sum)&&decide (a.r=b.r)))
def Ww (Y:Ctx):Prop:=Kh (bD Y 263)
def HU:aE:=⟨2,9,[⟨2,none⟩],b8,(sq (rg [gb 2 s0,gb 2 s1,gm cZ] [(3,0),(4,1),(2,2)]) (sq (sq (r1 [gf 0 s3,gd l0,gf 0 s4,gd l2,bO l1 l3,gm l4,ig 5 1 s3,hZ 5 l6,cn 5 (.len l7),ig 5 1 s4,hZ 5 l9,cn 5 (.len l10),cn 5 (dS l8 fZ),eW l5 iv] 5 13) (.cond s5 (sq (r1 [gm cZ] 2 0) .ret) .skip)) (sq (sq (r1 [gm bx] 6 0) (.block 0 (.loop (sq (sq (r1 [gm s6,gf 1 s3,gd l1,gl l2,aX l0 l3] 7 4) (fC s7 0)) (sq (.block 1 (sq (r2 [gf 1 s3,gd l0,gm s6,ga 11 l1 l2,gk 11 true l3,gf 1 s4,gd l5,gm s6,ga 11 l6 l7,gk 11 true l8,gx 263 [l4,l9] [[.a,.a,.a,.a,.a,.a,.sl 3 [.sl 4 [.a,.a,.sl 1 [.a],.a],.a,.a],.sl 3 [.a,.a,.a],.sl 2 [.a,.sl 1 [.a]],.a,.a],[.a,.a,.a,.a,.a,.a,.sl 3 [.sl 4 [.a,.a,.sl 1 [.a],.a],.a,.a],.sl 3 [.a,.a,.a],.sl 2 [.a,.sl 1 [.a]],.a,.a]],iY l10,gm fZ,ig 12 1 s3,hZ 12 jr,ek 12 s6,cn 12 (.ia 11 jT lg),ig 12 10 nw,hZ 12 oU,ig 12 1 s4,hZ 12 qx,ek 12 s6,cn 12 (.ia 11 uN xc),ig 12 10 zm,hZ 12 C6,cn 12 (.eqA true false [.b] pL D5),eW iv GM] 8 26) (.cond s8 (sq (r1 [gm cZ] 2 0) .ret) .skip))) (r1 [gm s6,az l0 cl,gm l1] 6 2)))))) (sq (r1 [gm m5] 2 0) .ret))))⟩
def w88 (h263:Ww Y)(a:js)(b:js)   :dn Y HU (.bool (decide (a=b))) [js.D a,js.D b]:=by
 show bP _ _ _ [⟨_,_⟩,⟨_,_⟩,_,_,_,_,_,_,_] _;refine aq ?_;refine ba ?_;refine bd (v:=.str a.name) ?_;refine aH ?_;refine bd (v:=.str b.name) ?_;refine aA ?_;refine bd (v:=.sl 11 (a.es.map dk.D)) ?_;refine iJ ?_;refine aH ?_;refine bd (v:=.sl 11 (b.es.map dk.D)) ?_;refine iJ ?_;refine aA ?_;refine av (fun hc0=>?_) (fun hc0=>?_)
 .simp only[cS,bg,aT,bm]at hc0;refine aI ?_;refine bX ?_;symm;apply cJ;rintro rfl;rcases hc0 with h|h
  .exact h rfl
  .exact h rfl
 simp only[dh,bN,aT,bm,Classical.not_not]at hc0;obtain⟨hnm,hln⟩:=hc0;replace hln:a.es.length=b.es.length:=ae;refine aI ?_;refine bh hm (ι:=Nat) (fun i=>[.un,.un,.un,⟨true,.ptr 0 2 0 0⟩,⟨true,.ptr 1 2 0 0⟩,.un,⟨true,.int .i64 (i:Nat)⟩,.un,.un]) (fun i=>[(0,.buf 2 [js.D a]),(1,.buf 2 [js.D b])]) 18 (fun i=>i<=a.es.length/\∀j,j<i->a.es[j]! =b.es[j]!) (fun i=>a.es.length-i) 0 ⟨ae,fun j h=>ae⟩ (dy [(0,0),(1,1)]) ?_;rintro i ⟨hi,hr⟩;refine aD ?_;refine bd (v:=.sl 11 (a.es.map dk.D)) ?_;refine aH ?_;intro u0;refine ay ?_;refine cM (fun hc1=>?_) fun hc1=>?_
 .refine aD ?_;refine bd (v:=.sl 11 (a.es.map dk.D)) ?_;refine aH ?_;refine bL i (hb:=fun _=>ae) ?_;refine bH (v:=dk.D a.es[i]!) (hi:=fun _=>ae) ?_;refine aH ?_;refine bd (v:=.sl 11 (b.es.map dk.D)) ?_;refine aH ?_;refine bL i (hb:=fun _=>ae) ?_;refine bH (v:=dk.D b.es[i]!) (hi:=fun _=>ae) ?_;refine ar (hc:=h263 a.es[i]! b.es[i]!) ?_;refine rE ?_;refine Jz (hb:=UL _ _) ?_;refine ay ?_;refine wp_cond (fun hc2=>?_) (fun hc2=>?_)
  .simp only[dq]at hc2;refine aG ?_;refine bX ?_;symm;apply cJ;rintro rfl;simp at hc2
  simp only[dq]at hc2;refine bU ?_;exact⟨i+1,⟨ae,fun j h=>(Nat.lt_or_eq_of_le (Nat.le_of_lt_succ h)).elim (hr j) fun e=>e▸UN hc2⟩,ae,(dy [(0,0),(1,1)])⟩
 refine aG ?_;refine bX ?_;symm;exact b9 (VH hnm hln fun j h=>hr j ae)
def QA (T:List D->D->Prop):Prop:=∀(a:js) (b:js),T [js.D a,js.D b] (.bool (decide (a=b)))
def C88 (Y:Ctx):Prop:=QA (bD Y 88)
def Ic:aE:=⟨1,4,ib,b8,(sq (r1 [gm bx] 1 0) (sq (sq (r1 [gm s0,fR l0 (i8 48),gm l1,gmt 2 s0,cr 2 (lj l3 (i8 57)),eX l2 l4] 2 5) (.cond s2 (sq (r1 [gm s0,dV l0 (i8 48),gn (.cvi .i64 l1),gm l2] 1 3) .ret) .skip)) (sq (sq (r1 [gm s0,fR l0 (i8 97),gm l1,gmt 2 s0,cr 2 (lj l3 (i8 102)),eX l2 l4] 3 5) (.cond s3 (sq (r1 [gm s0,dV l0 (i8 97),gn (.cvi .i64 l1),az l2 (i6 10),gm l3] 1 4) .ret) .skip)) (sq (r1 [gn (.mv (.c (.int .i64 (-1))))] 1 0) .ret))))⟩
def w688 {Y:Ctx}(hm:(Y.at 0).cj)  (c:Int)  (hp0:0<=c/\c<256):dn Y Ic (.int .i64 (if nU c=true then sk c else-1)) [.int .u8 c]:=by
 show bP _ _ _ [⟨_,_⟩,_,_,_] _;refine aq ?_;refine fK ?_;refine av (fun hc0=>?_) (fun hc0=>?_)
 .simp only[dq]at hc0;refine aA ?_;refine qa (c-48) (hb:=fun _=>IntWalk.u8_in _ ae) ?_;refine oE (c-48) (hb:=fun _=>wrap_i64 ae ae) ?_;refine aA ?_;refine c8 ?_;have h1:bp c=true:=by unfold bp;simp[hc0.1,hc0.2]
  unfold nU sk;rw[h1];rfl
 simp only[dq]at hc0;refine gv ?_;refine av (fun hc1=>?_) (fun hc1=>?_)
 .simp only[dq]at hc1;refine aA ?_;refine qa (c-97) (hb:=fun _=>IntWalk.u8_in _ ae) ?_;refine oE (c-97) (hb:=fun _=>wrap_i64 ae ae) ?_;refine aD ?_;refine c8 ?_;have h1:bp c=false:=by unfold bp;simp only[dR,bm];omega
  unfold nU sk;rw[h1,b9 hc1.1,b9 hc1.2];simp;omega
 simp only[dq]at hc1;refine aI ?_;refine c8 ?_;have h1:bp c=false:=by unfold bp;simp only[dR,bm];omega
 unfold nU sk;rw[h1,show(decide (97<=c)&&decide (c<=102))=false by simp only[dR,bm];omega];rfl
def KR (T:List D->D->Prop):Prop:=∀(c:Int),(0<=c/\c<256)->T [.int .u8 c] (.int .i64 (if nU c=true then sk c else-1))
def Xp (Y:Ctx):Prop:=KR (bD Y 688)
def MG:aE:=⟨1,9,[⟨1,none⟩,⟨2,none⟩],fA,(sq (rg [gm (iu 0),gm cZ] [(1,0),(2,1)]) (sq (sq (r1 [gm s0,ov l0,bO l1 (i6 16)] 3 2) (.cond s3 (sq (rg [gm (iu 0),gm cZ] [(1,0),(2,1)]) .ret) .skip)) (sq (r1 [gm (iu 0)] 8 0) (sq (sq (r1 [gm bx] 4 0) (.block 0 (.loop (sq (sq (r1 [gm s4,aX l0 (i6 16)] 5 1) (fC s5 0)) (sq (.block 1 (sq (r1 [gm s0,gm s4,GL l0 l1,gx 688 [l2] b8,gm l3] 6 4) (sq (sq (r1 [gm s6,aX l0 bx] 7 1) (.cond s7 (sq (rg [gm (iu 0),gm cZ] [(1,0),(2,1)]) .ret) .skip)) (r1 [gm s8,gn (.bin .shl l0 (iu 4)),gm s6,gn (.cvi .u64 l2),E8 l1 l3,gm l4] 8 5)))) (r1 [gm s4,az l0 cl,gm l1] 4 2)))))) (sq (rg [gm s8,gm l0,gm m5] [(1,1),(2,2)]) .ret)))))⟩
def w500 (h688:Xp Y)(s:au)   :dn Y MG (.tup [.int .u64 (qo s),.bool (jQ s)]) [.str s]:=by
 show bP _ _ _ [⟨_,_⟩,_,_,_,_,_,_,_,_] _;refine aq ?_;refine ba ?_;intro u0;refine ay ?_;refine cM (fun hc0=>?_) fun hc0=>?_
 .refine aG ?_;refine bI (aK (aj (D.int .u64) ?_) (aj D.bool ?_));all_goals
   have:jQ s=false:=by simp only[jQ];rw[cJ (by omega:¬s.length=16)];rfl
   simp[qo,this]
 refine bU ?_;have h16:s.length=16:=ae;have hP:jQ s=cQ (fun i=>nU (at8 s i)) 0 s.length:=by simp only[jQ];rw[b9 h16];rfl
 refine bh hm (ι:=Nat) (fun i=>[⟨true,.str s⟩,.un,.un,.un,⟨true,.int .i64 (i:Nat)⟩,.un,.un,.un,⟨true,.int .u64 (qn (s.take i))⟩]) (fun i=>[]) 7 (fun i=>i<=16/\s.length=16/\jQ s=cQ (fun i=>nU (at8 s i)) i s.length) (fun i=>16-i) 0 ⟨ae,h16,hP⟩ (dy []) ?_;rintro i ⟨hi,h16,hr⟩;refine aI ?_;refine cM (fun hc1=>?_) fun hc1=>?_
 .refine aA ?_;have h256:=Q6 s i;refine aA ?_;refine ar (hc:=h688 (at8 s i) ae) ?_;refine ba ?_;refine av (fun hc2=>?_) (fun hc2=>?_)
  .simp only[dq]at hc2;have hz:nU (at8 s i)=false:=by
    cases hq:nU (at8 s i)with
    |false=>rfl
    |true=>rw[hq,aw rfl]at hc2;have:=EO hq;omega
   refine bU ?_;refine bI (aK (aj (D.int .u64) ?_) (aj D.bool ?_));all_goals
    have:jQ s=false:=by rw[hr,aS ae,hz];rfl
    simp[qo,this]
  simp only[dq]at hc2;have hz:nU (at8 s i)=true:=by
   cases hq:nU (at8 s i)with
   |true=>rfl
   |false=>rw[hq]at hc2;simp at hc2
  have hvv:(if nU (at8 s i)=true then sk (at8 s i)else-1)=sk (at8 s i):=aw hz;have hvb:=EO hz;refine aA ?_;refine Fm (Ao (qn (s.take i)) 4) (hb:=fun _=>by rw[show min (Int.toNat (4:Int)) (IntKind.bits .u64)=4 by simp[IntKind.bits]];rfl) ?_;refine aH ?_;refine oE (sk (at8 s i)) (hb:=fun _=>by rw[hvv,IntKind.wrap_u64];omega) ?_;refine Fl (qn (s.take (i+1))) (hb:=fun _=>by rw[tt s i ae];rfl) ?_;refine di ?_;exact⟨i+1,⟨ae,h16,by rw[hr,aS ae,hz];rfl⟩,ae,(dy [])⟩
 refine bU ?_;refine bI (aK (aj (D.int .u64) ?_) (aj D.bool ?_));all_goals
  have:jQ s=true:=by rw[hr,cq ae]
  have ht:s.take i=s:=ey ae;simp[qo,this,ht]
def W4 (Y:Ctx):Prop:=yh (bD Y 500)
def ES:aE:=⟨1,25,[⟨1,some (2,true)⟩,⟨2,none⟩,⟨3,none⟩],[[.a,.sl 11 [.a,.a,.a,.a,.a,.a,.sl 3 [.sl 4 [.a,.a,.a,.a],.a,.a],.sl 3 [.a,.a,.a],.sl 2 [.a,.sl 1 [.a]],.a,.a]],[.a],[.a]],(sq (rg [gb 2 (.c (.agg [.str [],.aF])),gm bx,gm bx] [(1,0),(2,1),(3,2)]) (sq (sq (r1 [gm s0,ov l0,dj l1 (i6 524288)] 4 2) (.cond s4 (sq (rg [gn (.build [.str [],.aF] []),gt 2 s1 l0,gm kJ,gm bx] [(2,2),(3,3)]) .ret) .skip)) (sq (r1 [gm s0,gx 252 [l0] b8,gm l1] 5 2) (sq (sq (r1 [gm s5,gl l0,aL l1 bx] 6 2) (.cond s6 (sq (rg [gn (.build [.str [],.aF] []),gt 2 s1 l0,gm jC,gm cl] [(2,2),(3,3)]) .ret) .skip)) (sq (rg [gm s5,ga 1 l0 bx,gd l1,gx 253 [l2] b8,gm l3,ge l4 0,ge l4 1,gm l5,gm l6] [(7,7),(8,8)]) (sq (rg [gm s7,gx 254 [l0,(cs [115,104,101,108,102,32])] fA,gm l1,ge l2 0,ge l2 1,gm l3,gm l4] [(10,5),(9,6)]) (sq (sq (r1 [gm s8,iY l0,gm l1,ek 2 s9,cn 2 (.un .not l3),eW l2 l4,gm l5,ek 6 ik,cn 6 (.call 208 [l7] b8),cn 6 (.un .not l8),eW l6 l9] 11 10) (.cond jR (sq (rg [gn (.build [.str [],.aF] []),gt 2 s1 l0,gm jC,gm cl] [(2,2),(3,3)]) .ret) .skip)) (sq (r1 [gm ik,gn (.build [.str [],.aF] [(0,1,l0)]),gb 2 (.c (.agg [.str [],.aF])),gt 2 l2 l1] 20 2) (sq (r1 [gm cl] 12 0) (sq .skip (sq (.block 0 (.loop (sq (sq (r1 [gm kr,gm s5,gl l1,aX l0 l2] 13 3) (fC qb 0)) (.block 1 (sq (rg [gm s5,gm kr,ga 1 l0 l1,gd l2,gx 255 [l3] b8,gm l4,ge l5 0,ge l5 1,ge l5 2,gm l6,gm l7,gm l8] [(22,9),(24,10),(14,11)]) (sq (sq (r1 [gm tw,iY l0] 15 1) (.cond tx (sq (rg [gn (.build [.str [],.aF] []),gm kr,az l1 cl,gt 2 s1 l0,gm jC,gm l2] [(2,4),(3,5)]) .ret) .skip)) (sq (r1 [gm kr,az l0 cl,gm l1] 16 2) (sq (.block 2 (.loop (sq (sq (r1 [gm AQ,gm s5,gl l1,aX l0 l2,gm l3,gmt 4 s5,gmt 4 AQ,cr 4 (.ia 1 l5 l6),jM 4 l7,cr 4 (.call 256 [l8] b8),cr 4 (.un .not l9),eX l4 l10] 17 11) (fC DG 2)) (.block 3 (r1 [gm AQ,az l0 cl,gm l1] 16 2))))) (sq (rg [gm s5,gm kr,az l1 cl,gm AQ,gn (.slA 1 l0 (some l2) (some l3)),gx 242 [l4,cse] [[.sl 1 [.a]],[.a]],gx 76 [l5] b8,gm l6,ge l7 0,ge l7 1,ge l7 2,gb 9 (.c (.agg [.str [],.int .i64 0,.int .i64 0,.int .i64 0,.str [],.str [],.aF,.aF,.aF])),gt 9 fZ l8,gm l9,gm l10] [(21,11),(18,13)]) (sq (sq (r1 [gm D7,aL l0 bx] 19 1) (.cond QH (r1 [gk 2 true Ig,gk 9 true V1,gm V2,gx 257 [l0,l1,l2] [[.a,.sl 11 [.a,.a,.a,.a,.a,.a,.sl 3 [.sl 4 [.a,.a,.a,.a],.a,.a],.sl 3 [.a,.a,.a],.sl 2 [.a,.sl 1 [.a]],.a,.a]],[.a,.a,.a,.a,.a,.a,.sl 3 [.sl 4 [.a,.a,.sl 1 [.a],.a],.a,.a],.sl 3 [.a,.a,.a],.sl 2 [.a,.sl 1 [.a]]],[.a]],gm l3] 18 4) .skip)) (sq (sq (r1 [gm D7,bO l0 bx] 23 1) (.cond s23 (sq (rg [gn (.build [.str [],.aF] []),gm D7,gm kr,az l2 cl,gt 2 s1 l0,gm l1,gm l3] [(2,5),(3,6)]) .ret) .skip)) (sq (rg [gf 1 Ig,gd l0,gk 9 true V1,gm V2,gm VG,gn (.build [.str [],.int .i64 0,.int .i64 0,.int .i64 0,.str [],.str [],.aF,.aF,.aF,.int .u64 0,.bool false] [(0,9,l2),(9,1,l3),(10,1,l4)]),gn (.bsl 11 (.agg [.str [],.int .i64 0,.int .i64 0,.int .i64 0,.str [],.str [],.aF,.aF,.aF,.int .u64 0,.bool false]) 1 [(0,l5)]),gn (.app 11 l1 l6),gf 1 Ig,gt 1 l8 l7] []) (sq (r1 [gm AQ,gm l0] 12 1) (.exit 1)))))))))))))) (sq (rg [gk 2 true Ig,gt 2 s1 l0,gm bx,gm bx] [(2,2),(3,3)]) .ret))))))))))))⟩
def w86 (h76:C76 Y)(h208:La Y)(h242:Nq Y)(h252:Wo Y)(h253:QK Y)(h254:TB Y)(h255:Wp Y)(h256:Wq Y)(h257:Wr Y)(s:au)  (hp0:s.length<=1048576):dn Y ES (.tup [js.D (iH s).1,.int .i64 (iH s).2.1,.int .i64 (iH s).2.2]) [.str s]:=by
 show bP _ _ _ [⟨_,_⟩,_,_,_,_,_,_,_,_,_,_,_,_,_,_,_,_,_,_,_,_,_,_,_,_] _;refine aq ?_;refine bU ?_;intro u0;refine ay ?_;refine av (fun hc0=>?_) (fun hc0=>?_)
 .simp only[dq]at hc0;have hz:=Cd (s:=s) ae;refine ay ?_;refine ea _ ?_;refine aI ?_;refine bI (dc ?_ (aj (D.int .i64) ?_) (aj (D.int .i64) ?_));all_goals
   rw[hz];first|done|rfl
 simp only[dq]at hc0;have g0:¬524288<s.length:=ae;refine aA ?_;refine ar (hc:=h252 s hp0) ?_;refine aG ?_;intro u1;refine ay ?_;refine av (fun hc1=>?_) (fun hc1=>?_)
 .simp only[dq]at hc1;have hz:=Ce g0 ae;refine ay ?_;refine ea _ ?_;refine aI ?_;refine bI (dc ?_ (aj (D.int .i64) ?_) (aj (D.int .i64) ?_));all_goals
   rw[hz];first|done|rfl
 simp only[dq]at hc1;have g1:¬(cE s).length=0:=ae;have g2:=xK (s:=s) (i:=0) ae;have g3:=qh (cE s)[0]!;refine aA ?_;refine bL 0 (hb:=fun _=>ae) ?_;refine bH (v:=.str (cE s)[0]!) (hi:=fun _=>ae) ?_;refine ar (hc:=h253 (cE s)[0]! ae) ?_;refine bU ?_;refine ar (hc:=h254 (bS (cE s)[0]!).1 [115,104,101,108,102,32] ae aM) ?_;refine AK ?_;refine dm (hc:=fun hf=>h208 (cO (bS (cE s)[0]!).1 [115,104,101,108,102,32]).1) ?_;refine aA ?_;refine av (fun hc2=>?_) (fun hc2=>?_)
 .simp only[dq]at hc2;have hz:=MP g0 g1 (by rintro⟨⟨h1,h2⟩,h3⟩;rcases hc2 with(h|h)|h<;>simp_all);refine ay ?_;refine ea _ ?_;refine aI ?_;refine bI (dc ?_ (aj (D.int .i64) ?_) (aj (D.int .i64) ?_));all_goals
   rw[hz];first|done|rfl
 simp only[dq]at hc2;have hz:=MO g0 g1 hc2;rw[B7]at hz;refine aA ?_;refine bA (.agg [.str (cO (bS (cE s)[0]!).1 [115,104,101,108,102,32]).1,.aF]) ?_;refine aH ?_;refine aY (.agg [.str (cO (bS (cE s)[0]!).1 [115,104,101,108,102,32]).1,.aF]) (he:=aZ) ?_;refine aI ?_;refine bh hm (ι:=(List dk×Nat)) (fun p=>[⟨true,.str s⟩,⟨true,.ptr 0 2 0 0⟩,.un,.un,.un,⟨true,.sl 1 ((cE s).map D.str)⟩,.un,.un,.un,.un,.un,.un,⟨true,.int .i64 (p.2:Nat)⟩,.un,.un,.un,.un,.un,.un,.un,⟨true,.ptr 1 2 0 0⟩,.un,.un,.un,.un]) (fun p=>[(0,.buf 2 [.agg [.str [],.aF]]),(1,.buf 2 [.agg [.str (cO (bS (cE s)[0]!).1 [115,104,101,108,102,32]).1,.own 2 11 0 (p.1).length]]),(2,.buf 11 ((p.1).map dk.D))]) 60 (fun p=>(1<=p.2/\p.2<=(cE s).length)/\(∀x∈p.1,x.r.v.sm)/\p.1.length<=64/\iH s=EC (cO (bS (cE s)[0]!).1 [115,104,101,108,102,32]).1 (oc (cE s) p.1 p.2)) (fun p=>(cE s).length-p.2) ([],1) ⟨fq,aR,aR,hz⟩ (br.to [(0,0),(41,1)] ah ah vO (by refine bJ.lE ah ah ah ?_;refine bJ.ni 41 ah ah (by exact⟨_,_,rfl,⟨_,rfl,⟨_,_,rfl,⟨rfl,rfl⟩,⟨_,_,rfl,Or.inr ⟨_,_,_,rfl⟩,rfl⟩⟩⟩,rfl⟩) ?_;refine bJ.mt ah ah ah ah ?_;exact bJ.nil)) ?_;rintro⟨es,k⟩ ⟨hk,hes,he64,hr⟩;dsimp only at hk hes he64 hr⊢;refine aI ?_;intro u2;refine ay ?_;refine cM (fun hc3=>?_) fun hc3=>?_
 .refine aA ?_;have g4:=xK (s:=s) (i:=k) ae;refine ay ?_;refine bL k (hb:=fun _=>ae) ?_;refine bH (v:=.str (cE s)[k]!) (hi:=fun _=>ae) ?_;refine ar (hc:=h255 (cE s)[k]! ae) ?_;refine lA ?_;refine av (fun hc4=>?_) (fun hc4=>?_)
  .simp only[dq]at hc4;have hz2:=Ag (es:=es) (show k<(cE s).length by omega) hc4;refine ay ?_;refine ea _ ?_;refine di ?_;refine bI (dc ?_ (aj (D.int .i64) ?_) (aj (D.int .i64) ?_));all_goals
    rw[hr,hz2,qP aM];first|done|rfl
  simp only[dq]at hc4;have hz2:=B6 (es:=es) (show k<(cE s).length by omega) hc4;refine aG ?_;refine bh hm (ι:=Nat) (fun j=>[⟨true,.str s⟩,⟨true,.ptr 0 2 0 0⟩,.un,.un,.un,⟨true,.sl 1 ((cE s).map D.str)⟩,.un,.un,.un,.un,.un,.un,⟨true,.int .i64 (k:Nat)⟩,.un,.un,.un,⟨true,.int .i64 (j:Nat)⟩,.un,.un,.un,⟨true,.ptr 1 2 0 0⟩,.un,⟨true,.int .u64 (iA (cE s)[k]!).1⟩,.un,⟨true,.bool (iA (cE s)[k]!).2.1⟩]) (fun _=>[(0,.buf 2 [.agg [.str [],.aF]]),(1,.buf 2 [.agg [.str (cO (bS (cE s)[0]!).1 [115,104,101,108,102,32]).1,.own 2 11 0 (es).length]]),(2,.buf 11 ((es).map dk.D))]) 100 (fun j=>(k+1<=j/\j<=(cE s).length)/\vH (cE s) (k+1)=sv (fun j=>vk (cE s)[j]!) j (cE s).length) (fun j=>(cE s).length-j) (k+1) ⟨ae,rfl⟩ (br.to [(0,0),(1,1),(2,2)] ah ah vO (by refine eV ?_;refine eV ?_;refine eV ?_;exact bJ.nil)) ?_;rintro j ⟨hj,hn⟩;refine aI ?_;intro u3;refine aD ?_;refine bL j (hb:=fun hf=>by simp at hf;omega) ?_;refine bH (v:=.str (cE s)[j]!) (hi:=fun hf=>by simp at hf;omega) ?_;refine dm (hc:=fun hf=>h256 (cE s)[j]! (by have:=xK (s:=s) (i:=j) (by simp at hf;omega);omega)) ?_;refine aA ?_;refine av (fun hc5=>?_) (fun hc5=>?_)
  .simp only[dq]at hc5;refine di ?_;exact⟨(j+1),⟨ae,by rw[hn,JG ae hc5.2]⟩,ae,(br.to [(0,0),(1,1),(2,2)] ah ah vO (by refine eV ?_;refine eV ?_;refine eV ?_;exact bJ.nil))⟩
  simp only[dq]at hc5;have hnj:vH (cE s) (k+1)=j:=by
   rw[hn];rcases hc5 with h|h
   .exact uC ae
   .by_cases hjl:j<(cE s).length
    .exact FZ hjl h
    .exact uC ae
  rw[hnj]at hz2;have hsm:=z7 (aV [] (slice (cE s) (k+1) j));refine ba ?_;refine zW (k+1) j ?_;refine ar (v:=.str (aV [] (slice (cE s) (k+1) j))) (hc:=h242 (slice (cE s) (k+1) j) [] (by simp only[slice,mZ,fX];have:=Fj s;omega) aM (fun t ht=>by have:=Ju (Cg ht);omega)) ?_;refine ar (hc:=h76 (aV [] (slice (cE s) (k+1) j))) ?_;refine aH ?_;refine e7 (Rec.D _) ?_;refine aA ?_;refine aY (Rec.D (cF (aV [] (slice (cE s) (k+1) j))).1) (he:=aZ) ?_;refine bU ?_;refine av (fun hc6=>?_) (fun hc6=>?_)
  .simp only[dq]at hc6;refine aH ?_;refine de (d:=.agg [.str (cO (bS (cE s)[0]!).1 [115,104,101,108,102,32]).1,.own 2 11 0 es.length]) ?_;refine de (d:=Rec.D (cF (aV [] (slice (cE s) (k+1) j))).1) ?_;refine aH ?_;refine ar (hc:=h257 ⟨(cO (bS (cE s)[0]!).1 [115,104,101,108,102,32]).1,es⟩ (cF (aV [] (slice (cE s) (k+1) j))).1 (iA (cE s)[k]!).1 ⟨hsm,hes⟩) (ha:=fun _=>aj (fun d=>[d,Rec.D (cF (aV [] (slice (cE s) (k+1) j))).1,D.int .u64 (iA (cE s)[k]!).1]) (VR (nm:=(cO (bS (cE s)[0]!).1 [115,104,101,108,102,32]).1) (es:=es) (fun _=>rfl) ah)) (hp:=fun _=>⟨Sw (nm:=(cO (bS (cE s)[0]!).1 [115,104,101,108,102,32]).1) (es:=es) (fun _=>⟨rfl,rfl,rfl,rfl,rfl,rfl,rfl,rfl,rfl,rfl,rfl,rfl⟩) ah,⟨rfl,rfl,rfl,rfl,rfl,rfl,rfl,rfl,rfl,rfl⟩,rfl,trivial⟩) ?_;refine ba ?_;refine av (fun hc7=>?_) (fun hc7=>?_)
   .simp only[dq]at hc7;rw[nP hc6 hc7]at hz2;refine ay ?_;refine ea _ ?_;refine gv ?_;refine bI (dc ?_ (aj (D.int .i64) ?_) (aj (D.int .i64) ?_));all_goals
     rw[hr,hz2,aw (by assumption),qP (by assumption)];first|done|rfl
   simp only[dq]at hc7;rw[ID hc6 hc7]at hz2;have hlt:=BB hc7;refine aA ?_;refine bd (v:=.own 2 11 0 es.length) ?_;refine de (d:=Rec.D (cF (aV [] (slice (cE s) (k+1) j))).1) ?_;refine ay ?_;refine bA (dk.D (⟨(cF (aV [] (slice (cE s) (k+1) j))).1,(iA (cE s)[k]!).1,(iA (cE s)[k]!).2.1⟩:dk)) ?_;refine dA [dk.D (⟨(cF (aV [] (slice (cE s) (k+1) j))).1,(iA (cE s)[k]!).1,(iA (cE s)[k]!).2.1⟩:dk)] ?_;refine kM (q:=dk.D) (xs:=es) (e:=(⟨(cF (aV [] (slice (cE s) (k+1) j))).1,(iA (cE s)[k]!).1,(iA (cE s)[k]!).2.1⟩:dk)) (hb:=ae) ?_;refine aH ?_;refine aY (.agg [.str (cO (bS (cE s)[0]!).1 [115,104,101,108,102,32]).1,.own 143 11 0 (es++[(⟨(cF (aV [] (slice (cE s) (k+1) j))).1,(iA (cE s)[k]!).1,(iA (cE s)[k]!).2.1⟩:dk)]).length]) (he:=aZ) ?_;refine bU ?_;exact⟨(es++[(⟨(cF (aV [] (slice (cE s) (k+1) j))).1,(iA (cE s)[k]!).1,(iA (cE s)[k]!).2.1⟩:dk)],j),⟨fq,(fun x hx=>(List.mem_append.1 hx).elim (hes x) (fun hx=>by rw[dw.1 hx];exact hsm.1.2)),by simp only[cb,ax,aB];omega,by rw[hr,hz2,ak (fun h=>h rfl)]⟩,fq,(br.to [(0,0),(1,1),(143,2)] ah ah vO (by refine eV ?_;refine bJ.Ou ah ah ah ?_;refine bJ.nl 143 ah ah rfl (bB (fun _=>rfl) _) ?_;exact bJ.nil))⟩
  simp only[dq]at hc6;rw[Eh hc6]at hz2;refine aG ?_;refine av (fun hc7=>?_) (fun hc7=>?_)
  .simp only[dq]at hc7;refine ay ?_;refine ea _ ?_;refine gv ?_;refine bI (dc ?_ (aj (D.int .i64) ?_) (aj (D.int .i64) ?_));all_goals
    rw[hr,hz2,aw (by assumption),qP (by assumption)];first|done|rfl
  simp only[dq]at hc7;exact absurd (by simpa using hc7) hc6
 refine ay ?_;refine fE 2 ?_;refine aH ?_;refine de (d:=js.D ⟨(cO (bS (cE s)[0]!).1 [115,104,101,108,102,32]).1,es⟩) ?_;refine aY (js.D ⟨(cO (bS (cE s)[0]!).1 [115,104,101,108,102,32]).1,es⟩) (he:=aZ) ?_;refine aD ?_;refine bI (dc ?_ (aj (D.int .i64) ?_) (aj (D.int .i64) ?_));all_goals
  rw[hr,B8 ae];first|done|rfl
def D1 (T:List D->D->Prop):Prop:=∀(s:au),(s.length<=1048576)->T [.str s] (.tup [js.D (iH s).1,.int .i64 (iH s).2.1,.int .i64 (iH s).2.2])
def C86 (Y:Ctx):Prop:=D1 (bD Y 86)
def FK:aE:=⟨1,2,ib,b8,(sq (r1 [gm cse] 1 0) (sq (r1 [gm s0,gx 470 [l0,(i8 32)] fA,ga 1 l1 bx,gd l2,gm l3] 1 4) .ret))⟩
def w260 {Y:Ctx}(hm:(Y.at 0).cj)(h470:sI Y)(t:au)  (hp0:t.length<=1048576):dn Y FK (.str (fw t)) [.str t]:=by
 show bP _ _ _ [⟨_,_⟩,_] _;have hsl:=tz t 32;refine aq ?_;refine aD ?_;refine ar (hc:=h470 t 32 hp0) ?_;refine bL 0 (hb:=fun _=>ae) ?_;refine bH (v:=.str (ai t 32)[0]!) (hi:=fun _=>ae) ?_;refine aA ?_;exact df rfl
def Kf (T:List D->D->Prop):Prop:=∀(t:au),(t.length<=1048576)->T [.str t] (.str (fw t))
def Wu (Y:Ctx):Prop:=Kf (bD Y 260)
def HW:aE:=⟨1,5,[⟨1,none⟩,⟨2,none⟩],fA,(sq (rg [gm cse,gm cZ] [(1,0),(2,1)]) (sq (r1 [gm s0,gx 470 [l0,(i8 32)] fA,gm l1] 3 2) (sq (sq (r1 [gm s3,gl l0,bO l1 jC,gm l2,ek 3 s3,cn 3 (.ia 1 l4 bx),hZ 3 l5,cn 3 (dS l6 (cs [115,104,101,108,102])),eW l3 l7,gm l8,ek 9 s3,cn 9 (.ia 1 l10 cl),hZ 9 fZ,cn 9 (.call 216 [iv] b8),cn 9 (.un .not jr),eW l9 jT] 4 15) (.cond s4 (sq (rg [gm cse,gm cZ] [(1,0),(2,1)]) .ret) .skip)) (sq (rg [gm s3,ga 1 l0 cl,gd l1,gm l2,gm m5] [(1,3),(2,4)]) .ret))))⟩
def w258 {Y:Ctx}(hm:(Y.at 0).cj)(h216:Lb Y)(h470:sI Y)(t:au)  (hp0:t.length<=1048576):dn Y HW (.tup [.str ((jj t).getD []),.bool (jj t).isSome]) [.str t]:=by
 show bP _ _ _ [⟨_,_⟩,_,_,_,_] _;have hsl:=tz t 32;refine aq ?_;refine aI ?_;refine ar (hc:=h470 t 32 hp0) ?_;refine aG ?_;intro u0;refine aA ?_;refine bL 0 (hb:=fun hf=>by simp at hf;omega) ?_;refine bH (v:=.str (ai t 32)[0]!) (hi:=fun hf=>by simp at hf;omega) ?_;refine aD ?_;refine bL 1 (hb:=fun hf=>by simp at hf;omega) ?_;refine bH (v:=.str (ai t 32)[1]!) (hi:=fun hf=>by simp at hf;omega) ?_;refine dm (hc:=fun hf=>h216 (ai t 32)[1]!) ?_;refine aA ?_;refine av (fun hc0=>?_) (fun hc0=>?_)
 .simp only[dq]at hc0;have hz:=Rx hc0;refine aG ?_;refine bI (aK (aj D.str ?_) (aj D.bool ?_));all_goals (rw[hz];first|done|rfl)
 simp only[dq]at hc0;obtain⟨hz,hl2⟩:=On hc0;refine aA ?_;refine bL 1 (hb:=fun _=>ae) ?_;refine bH (v:=.str (ai t 32)[1]!) (hi:=fun _=>ae) ?_;refine aD ?_;refine bI (aK (aj D.str ?_) (aj D.bool ?_));all_goals (rw[hz];first|done|rfl)
def Kd (T:List D->D->Prop):Prop:=∀(t:au),(t.length<=1048576)->T [.str t] (.tup [.str ((jj t).getD []),.bool (jj t).isSome])
def Ws (Y:Ctx):Prop:=Kd (bD Y 258)
def FJ:aE:=⟨1,7,[⟨1,some (11,true)⟩,⟨2,none⟩],[[.a,.a,.a,.a,.a,.a,.sl 3 [.sl 4 [.a,.a,.sl 1 [.a],.a],.a,.a],.sl 3 [.a,.a,.a],.sl 2 [.a,.sl 1 [.a]],.a,.a],[.a]],(sq (rg [gb 11 (.c (.agg [.str [],.int .i64 0,.int .i64 0,.int .i64 0,.str [],.str [],.aF,.aF,.aF,.int .u64 0,.bool false])),gm cZ] [(1,0),(2,1)]) (sq (r1 [gm s0,gx 470 [l0,(i8 32)] fA,gm l1] 3 2) (sq (sq (r1 [gm s3,gl l0,bO l1 kJ,gm l2,ek 3 s3,cn 3 (.ia 1 l4 bx),hZ 3 l5,cn 3 (dS l6 (cs [101,110,116,114,121])),eW l3 l7,gm l8,ek 9 s3,cn 9 (.ia 1 l10 jC),hZ 9 fZ,cn 9 (dS iv (cs [111,110])),ek 9 jr,gmt 14 s3,cr 14 (.ia 1 lg jC),jM 14 nw,cr 14 (dS oU (cs [111,102,102])),zf 9 jT pL,eW l9 qx] 4 20) (.cond s4 (sq (r1 [gn (.build [.str [],.int .i64 0,.int .i64 0,.int .i64 0,.str [],.str [],.aF,.aF,.aF,.int .u64 0,.bool false] []),gt 11 s1 l0,gm cZ] 2 2) .ret) .skip)) (sq (rg [gm s3,ga 1 l0 cl,gd l1,gx 500 [l2] b8,gm l3,ge l4 0,ge l4 1,gm l5,gm l6] [(5,7),(6,8)]) (sq (r1 [gm s5,gm s3,ga 1 l1 jC,gd l2,aL l3 (cs [111,102,102]),gn (.build [.str [],.int .i64 0,.int .i64 0,.int .i64 0,.str [],.str [],.aF,.aF,.aF,.int .u64 0,.bool false] [(9,1,l0),(10,1,l4)]),gm s6,gt 11 s1 l5,gm l6] 2 8) .ret)))))⟩
def w259 {Y:Ctx}(hm:(Y.at 0).cj)(h470:sI Y)(h500:W4 Y)(t:au)  (hp0:t.length<=1048576):dn Y FJ (.tup [dk.D (⟨gT,(gy t).1,(gy t).2.1⟩:dk),.bool (gy t).2.2]) [.str t]:=by
 show bP _ _ _ [⟨_,_⟩,_,_,_,_,_,_] _;have hsl:=tz t 32;refine aq ?_;refine aI ?_;refine ar (hc:=h470 t 32 hp0) ?_;refine aG ?_;intro u0;refine aA ?_;refine bL 0 (hb:=fun hf=>by simp at hf;omega) ?_;refine bH (v:=.str (ai t 32)[0]!) (hi:=fun hf=>by simp at hf;omega) ?_;refine aD ?_;refine bL 2 (hb:=fun hf=>by simp at hf;omega) ?_;refine bH (v:=.str (ai t 32)[2]!) (hi:=fun hf=>by simp at hf;omega) ?_;refine aA ?_;refine bL 2 (hb:=fun hf=>by simp at hf;omega) ?_;refine bH (v:=.str (ai t 32)[2]!) (hi:=fun hf=>by simp at hf;omega) ?_;refine aD ?_;refine av (fun hc0=>?_) (fun hc0=>?_)
 .simp only[dq]at hc0;have hz:=Rj hc0;refine ay ?_;refine ea _ ?_;refine aD ?_;refine bI (aK ?_ (aj D.bool ?_));all_goals (rw[hz];first|done|rfl)
 simp only[dq]at hc0;obtain⟨hz,hl3⟩:=N6 hc0;refine aA ?_;refine bL 1 (hb:=fun _=>ae) ?_;refine bH (v:=.str (ai t 32)[1]!) (hi:=fun _=>ae) ?_;refine ar (hc:=h500 (ai t 32)[1]!) ?_;refine di ?_;refine bL 2 (hb:=fun _=>ae) ?_;refine bH (v:=.str (ai t 32)[2]!) (hi:=fun _=>ae) ?_;refine aH ?_;refine ea _ ?_;refine aI ?_;refine bI (aK ?_ (aj D.bool ?_));all_goals (rw[hz];first|done|rfl)
def Ke (T:List D->D->Prop):Prop:=∀(t:au),(t.length<=1048576)->T [.str t] (.tup [dk.D (⟨gT,(gy t).1,(gy t).2.1⟩:dk),.bool (gy t).2.2])
def Wt (Y:Ctx):Prop:=Ke (bD Y 259)
def HV:aE:=⟨2,5,[⟨2,none⟩],b8,(sq (r1 [gm cse] 2 0) (sq (r1 [gm s0,gx 249 [l0,(i8 10)] [[.sl 1 [.a]],[.a]],gm l1] 4 2) (sq (sq (r1 [gm s1,gm l0,gmt 1 s0,cr 1 (.len l2),cr 1 (eG l3 bx),eX l1 l4] 3 5) (.cond s3 (r1 [gm s4,az l0 (cs [10]),gm l1] 4 2) .skip)) (sq (r1 [gm s4,gm l0] 2 1) .ret))))⟩
def w262 {Y:Ctx}(hm:(Y.at 0).cj)(h249:Lc Y)(l:List au)(en:Bool)  (hp0:(aV [10] l).length<=1099511627770):dn Y HV (.str (ki l en)) [.sl 1 (l.map D.str),.bool en]:=by
 show bP _ _ _ [⟨_,_⟩,⟨_,_⟩,_,_,_] _;refine aq ?_;refine aD ?_;refine ar (hc:=h249 l 10 ae) ?_;refine ba ?_;refine iJ ?_;refine aA ?_;refine av (fun hc0=>?_) (fun hc0=>?_)
 .simp only[dq]at hc0;have hne:l≠[]:=fun h=>by rw[h]at hc0;simp at hc0
  refine ay ?_;refine dQ (hb:=fun _=>by simp only[ax,aB];omega) ?_;refine ba ?_;refine df ?_;unfold ki;rw[aw hc0.1];exact join_one hne
 simp only[dq]at hc0;refine aG ?_;refine df ?_;unfold ki;split
 .rename_i he;rcases hc0 with h|h
  .rw[he]at h;cases h
  .rw[lY (show l.length=0 by omega)];rfl
 .rfl
def Kg (T:List D->D->Prop):Prop:=∀(l:List au) (en:Bool),((aV [10] l).length<=1099511627770)->T [.sl 1 (l.map D.str),.bool en] (.str (ki l en))
def Wv (Y:Ctx):Prop:=Kg (bD Y 262)
def vR:aE:=⟨3,14,[⟨3,none⟩],b8,(sq (rg [gb 11 s1,gm bx] [(8,0),(3,1)]) (sq (rg [gm s2,gx 77 [l0] b8,gm l1,ge l2 0,ge l2 1,ge l2 2,gb 9 (.c (.agg [.str [],.int .i64 0,.int .i64 0,.int .i64 0,.str [],.str [],.aF,.aF,.aF])),gt 9 l6 l3,gm l4,gm l5] [(6,6),(4,8)]) (sq (sq (r1 [gm s4,bO l0 bx] 5 1) (.cond s5 (sq (r1 [gm s4,gm l0] 3 1) .ret) .skip)) (sq (r1 [gk 9 true s6,gx 75 [l0] [[.a,.a,.a,.a,.a,.a,.sl 3 [.sl 4 [.a,.a,.sl 1 [.a],.a],.a,.a],.sl 3 [.a,.a,.a],.sl 2 [.a,.sl 1 [.a]]]],gm l1,ge l2 0,ge l2 1,gm l3,gm l4] 7 5) (sq (sq (r1 [gm s7,gf 9 s8,gd l1,bO l0 l2] 9 3) (.cond s9 (sq (r1 [gm (i6 13)] 3 0) .ret) .skip)) (sq (sq (r1 [gm bx] 10 0) (.block 0 (.loop (sq (sq (r1 [gm ik,gm s0,gc l1,gf 1 l2,gd l3,gl l4,aX l0 l5] 11 6) (fC jR 0)) (sq (.block 1 (sq (r2 [gm s0,gc l0,gf 1 l1,gd l2,gm ik,ga 11 l3 l4,gf 0 l5,gf 0 l6,gd l7,gf 0 s6,gd l9,aL l8 l10,gm fZ,gmt 12 s0,cr 12 (.nilck jr),kn 12 1 jT,jM 12 lg,gmt 12 ik,cr 12 (.ia 11 nw oU),kn 12 0 pL,kn 12 1 qx,cr 12 (.ld 5 true uN),kn 12 1 s6,cr 12 (.ld 5 true zm),cr 12 (.call 501 [xc,C6] [[.a,.a,.a,.a,.a],[.a,.a,.a,.a,.a]]),eX iv D5] 12 25) (.cond kr (sq (r1 [gm EP] 3 0) .ret) .skip))) (r1 [gm ik,az l0 cl,gm l1] 10 2)))))) (sq (sq (r1 [gm s0,gc l0,gf 1 l1,gd l2,gl l3,fR l4 (i6 64)] 13 5) (.cond qb (sq (r1 [gm (i6 10)] 3 0) .ret) .skip)) (sq (rg [gk 9 true s6,gf 0 s8,gt 9 l1 l0] []) (sq (rt [gm s0,gm s0,gc l1,gf 1 l2,gd l3,gk 11 true s8,gn (.bsl 11 (.agg [.str [],.int .i64 0,.int .i64 0,.int .i64 0,.str [],.str [],.aF,.aF,.aF,.int .u64 0,.bool false]) 1 [(0,l5)]),gn (.app 11 l4 l6),gc l0,gf 1 l8,gt 1 l9 l7] []) (sq (r1 [gm bx] 3 0) .ret))))))))))⟩
def w261 {Y:Ctx}(hm:(Y.at 2).cj)(nm:au)(es:List dk)(x:dk)(t:au)(h75:C75 (Y.at 2))(h77:C77 (Y.at 2))(h501:W5 (Y.at 2))(hp0:Qo es):bP (Y.at 2) vR.body (kv vR (V8 nm es x t):Ex->List cd->St->Prop) (fH vR [.ptr 0 2 0 0,dk.D x,.str t]) ⟨2,[(0,.buf 2 [.agg [.str nm,.own 1 11 0 es.length]]),(1,.buf 11 (es.map dk.D))]⟩:=by
 show bP _ _ _ [⟨true,.ptr 0 2 0 0⟩,⟨true,dk.D x⟩,⟨true,.str t⟩,.un,.un,.un,.un,.un,.un,.un,.un,.un,.un,.un] ⟨2,[(0,.buf 2 [.agg [.str nm,.own 1 11 0 es.length]]),(1,.buf 11 (es.map dk.D))]⟩;refine aq ?_;refine aI ?_;refine ar (hc:=h77 t) ?_;refine aH ?_;refine e7 (Rec.D _) ?_;refine aA ?_;refine aY (Rec.D (cF t).1) (he:=aZ) ?_;refine bU ?_;refine av (fun hc0=>?_) (fun hc0=>?_)
 .simp only[bg,bm]at hc0;have hz:=Eh (es:=es) (n:=x.sum) (off:=x.off) hc0;refine aG ?_;refine bW trivial ee (bV ah (aj (D.int .i64) ?_)) ah (.inl ⟨by rw[hz];exact hc0,rfl,aZ,aZ⟩);rw[hz]
 simp only[bN,aT]at hc0;have hrv:=B2 hc0;have hrs:=z7 t;refine ay ?_;refine de (d:=Rec.D (cF t).1) ?_;refine ar (hc:=h75 (cF t).1 hrs) ?_;refine gv ?_;refine bd (v:=.int .u64 x.sum) ?_;refine ay ?_;refine av (fun hc1=>?_) (fun hc1=>?_)
 .simp only[bg,bm]at hc1;have hf:kl es (cF t).1 x.sum=13:=aw hc1;refine aI ?_;refine bW trivial ee (bV ah (aj (D.int .i64) ?_)) ah (.inl ⟨by rw[nP hc0 (by rw[hf];decide),hf];decide,rfl,aZ,aZ⟩);rw[nP hc0 (by rw[hf];decide),hf]
 simp only[bN,aT]at hc1;refine aI ?_;refine bh hm (ι:=Nat) (fun i=>[⟨true,.ptr 0 2 0 0⟩,⟨true,dk.D x⟩,⟨true,.str t⟩,.un,.un,.un,⟨true,.ptr 3 9 0 0⟩,.un,⟨true,.ptr 2 11 0 0⟩,.un,⟨true,.int .i64 (i:Nat)⟩,.un,.un,.un]) (fun i=>[(0,.buf 2 [.agg [.str nm,.own 1 11 0 es.length]]),(1,.buf 11 (es.map dk.D)),(2,.buf 11 [dk.D x]),(3,.buf 9 [Rec.D (cF t).1])]) 60 (fun i=>i<=es.length/\tF es (cF t).1=(es.drop i).any (QI (cF t).1)) (fun i=>es.length-i) 0 ⟨ae,rfl⟩ (br.to [(2,2),(10,3)] ah ah et (by first|(refine bJ.Ou ah ah ah ?_;refine bJ.lE ah ah (bB (fun _=>rfl) _) ?_;refine bJ.nl 2 ah ah rfl ah ?_;refine bJ.nl 10 ah ah rfl ah ?_;exact bJ.nil)|(refine bJ.Ou ah ah ah ?_;refine bJ.lE ah ah (bB (fun _=>rfl) _) ?_;refine bJ.lE ah ah ah ?_;refine bJ.lE ah ah ah ?_;exact bJ.nil))) ?_;rintro i ⟨hi,hr⟩;refine aG ?_;refine bd (v:=.own 1 11 0 es.length) ?_;refine aH ?_;intro u0;refine ay ?_;refine cM (fun hc2=>?_) fun hc2=>?_
 .refine aG ?_;refine bd (v:=.own 1 11 0 es.length) ?_;refine aH ?_;refine iD i (hb:=fun _=>ae) ?_;refine ay ?_;refine pB (q:=dk.D) (xs:=es) (v:=.str es[i]!.r.name) (hi:=fun _=>ae) (hv:=fun _=>by rw[bT];rfl) ?_;refine aH ?_;refine bd (v:=.str (cF t).1.name) ?_;refine aI ?_;refine bd (v:=.own 1 11 0 es.length) ?_;refine aH ?_;refine iD i (hb:=fun _=>ae) ?_;refine ay ?_;refine pB (q:=dk.D) (xs:=es) (v:=cy.D es[i]!.r.v) (hi:=fun _=>ae) (hv:=fun _=>by rw[bT];rfl) ?_;refine aH ?_;refine bd (v:=cy.D (cF t).1.v) ?_;refine dm (hc:=fun hf=>h501 es[i]!.r.v (cF t).1.v ⟨(hp0 _ (bR ae)).1,hrs.1.2⟩) ?_;refine ay ?_;refine wp_cond (fun hc3=>?_) (fun hc3=>?_)
  .simp only[dq]at hc3;have htw:QI (cF t).1 es[i]! =true:=by rw[JM (hp0 _ (bR ae)).2 hrv];simpa using hc3
   have htz:tF es (cF t).1=true:=by rw[hr,tL ae htw]
   have hf:kl es (cF t).1 x.sum=8:=by unfold kl;rw[ak (fun h=>h hc1),aw htz]
   refine aG ?_;refine bW trivial ee (bV ah (aj (D.int .i64) ?_)) ah (.inl ⟨by rw[nP hc0 (by rw[hf];decide),hf];decide,rfl,aZ,aZ⟩);rw[nP hc0 (by rw[hf];decide),hf]
  simp only[dq]at hc3;have htw:QI (cF t).1 es[i]! =false:=by rw[JM (hp0 _ (bR ae)).2 hrv];exact hc3.elim (fun h=>by rw[cJ h];rfl) (fun h=>by rw[h,Bool.and_false])
  refine bU ?_;exact⟨i+1,⟨ae,by rw[hr,yH ae htw]⟩,ae,(br.to [(2,2),(3,3)] ah ah et (by first|(refine bJ.Ou ah ah ah ?_;refine bJ.lE ah ah (bB (fun _=>rfl) _) ?_;refine bJ.nl 2 ah ah rfl ah ?_;refine bJ.nl 10 ah ah rfl ah ?_;exact bJ.nil)|(refine bJ.Ou ah ah ah ?_;refine bJ.lE ah ah (bB (fun _=>rfl) _) ?_;refine bJ.lE ah ah ah ?_;refine bJ.lE ah ah ah ?_;exact bJ.nil)))⟩
 refine aD ?_;have htz:tF es (cF t).1=false:=by rw[hr,tK ae]
 refine aA ?_;refine bd (v:=.own 1 11 0 es.length) ?_;refine aH ?_;intro u1;refine ay ?_;refine av (fun hc4=>?_) (fun hc4=>?_)
 .simp only[dq]at hc4;have hf:kl es (cF t).1 x.sum=10:=by unfold kl;rw[ak (fun h=>h hc1),ak (by simp[htz]),aw ae]
  refine aI ?_;refine bW trivial ee (bV ah (aj (D.int .i64) ?_)) ah (.inl ⟨by rw[nP hc0 (by rw[hf];decide),hf];decide,rfl,aZ,aZ⟩);rw[nP hc0 (by rw[hf];decide),hf]
 simp only[dq]at hc4;have hf:kl es (cF t).1 x.sum=0:=by unfold kl;rw[ak (fun h=>h hc1),ak (by simp[htz]),ak ae]
 have hz:=ID (off:=x.off) hc0 hf;refine ay ?_;refine de (d:=Rec.D (cF t).1) ?_;refine aH ?_;refine aY (dk.D (⟨(cF t).1,x.sum,x.off⟩:dk)) (he:=aZ) ?_;refine aG ?_;refine bd (v:=.own 1 11 0 es.length) ?_;refine de (d:=dk.D (⟨(cF t).1,x.sum,x.off⟩:dk)) ?_;refine dA [dk.D (⟨(cF t).1,x.sum,x.off⟩:dk)] ?_;refine kM (q:=dk.D) (xs:=es) (e:=(⟨(cF t).1,x.sum,x.off⟩:dk)) (hb:=ae) ?_;refine ay ?_;refine aY (.agg [.str nm,.own 83 11 0 (es++[(⟨(cF t).1,x.sum,x.off⟩:dk)]).length]) (he:=aZ) ?_;refine aI ?_;refine bW trivial ee (bV ah (aj (D.int .i64) ?_)) ah (.inr ⟨by rw[hz],rfl,83,aM,by rw[hz];exact rfl,by rw[hz];exact rfl⟩);rfl
def TC (Y:Ctx):Prop:=∀(nm:au) (es:List dk) (x:dk) (t:au),Qo es->∀(nx lp ln:Nat) (m:List (Nat×b7)) (K:D->St->Prop),look m lp=some (.buf 2 [.agg [.str nm,.own ln 11 0 es.length]])->look m ln=some (.buf 11 (es.map dk.D))->lp<nx->ln<nx->(¬(iN es t x.sum x.off).1=0->K (.int .i64 (iN es t x.sum x.off).1) ⟨nx,m⟩)->((iN es t x.sum x.off).1=0->K (.int .i64 0) ⟨nx+1,(nx,.buf 11 ((iN es t x.sum x.off).2.map dk.D))::dE (cL m ln) lp (.buf 2 [.agg [.str nm,.own nx 11 0 (iN es t x.sum x.off).2.length]])⟩)->Y.tr 261 [.ptr lp 2 0 0,dk.D x,.str t] ⟨nx,m⟩ K
def FI:aE:=⟨1,21,[⟨1,some (2,true)⟩,⟨2,none⟩,⟨3,none⟩],[[.a,.sl 11 [.a,.a,.a,.a,.a,.a,.sl 3 [.sl 4 [.a,.a,.a,.a],.a,.a],.sl 3 [.a,.a,.a],.sl 2 [.a,.sl 1 [.a]],.a,.a]],[.a],[.a]],(sq (rg [gb 2 (.c (.agg [.str [],.aF])),gm bx,gm bx] [(1,0),(2,1),(3,2)]) (sq (sq (r1 [gm s0,ov l0,dj l1 (i6 524288)] 4 2) (.cond s4 (sq (rg [gn (.build [.str [],.aF] []),gt 2 s1 l0,gm kJ,gm bx] [(2,2),(3,3)]) .ret) .skip)) (sq (rg [gm s0,gx 223 [l0] b8,gm l1,ge l2 0,ge l2 1,gm l3,gm l4] [(5,5),(6,6)]) (sq (sq (r1 [gm s5,gl l0,aL l1 bx,gm l2,ek 3 s5,cn 3 (.len l4),cn 3 (cV l5 cl),ek 3 l6,gmt 7 s6,cr 7 (.un .not l8),zf 3 l7 l9,eW l3 l10] 7 11) (.cond s7 (sq (rg [gn (.build [.str [],.aF] []),gt 2 s1 l0,gm jC,gm cl] [(2,2),(3,3)]) .ret) .skip)) (sq (rg [gm s5,ga 1 l0 bx,gd l1,gx 258 [l2] b8,gm l3,ge l4 0,ge l4 1,gm l5,gm l6] [(10,7),(8,8)]) (sq (sq (r1 [gm s8,iY l0] 9 1) (.cond s9 (sq (rg [gn (.build [.str [],.aF] []),gt 2 s1 l0,gm jC,gm cl] [(2,2),(3,3)]) .ret) .skip)) (sq (r1 [gm ik,gn (.build [.str [],.aF] [(0,1,l0)]),gb 2 (.c (.agg [.str [],.aF])),gt 2 l2 l1] 18 2) (sq (sq (r1 [gm cl] 11 0) (.block 0 (.loop (sq (sq (r1 [gm jR,gm s5,gl l1,aX l0 l2] 12 3) (fC kr 0)) (.block 1 (sq (rg [gm s5,gm jR,ga 1 l0 l1,gd l2,gx 259 [l3] b8,gm l4,ge l5 0,ge l5 1,gb 11 (.c (.agg [.str [],.int .i64 0,.int .i64 0,.int .i64 0,.str [],.str [],.aF,.aF,.aF,.int .u64 0,.bool false])),gt 11 l8 l6,gm l7] [(17,8),(13,10)]) (sq (sq (r1 [gm qb,iY l0,gm l1,ek 2 s6,cn 2 (.un .not l3),ek 2 l4,gmt 5 jR,gmt 5 s5,cr 5 (.len l7),cr 5 (jK l8 cl),cr 5 (cV l6 l9),zf 2 l5 l10,eW l2 fZ] 14 12) (.cond tw (sq (rg [gn (.build [.str [],.aF] []),gm jR,az l1 cl,gt 2 s1 l0,gm jC,gm l2] [(2,4),(3,5)]) .ret) .skip)) (sq (r1 [gm jR,az l0 cl,gm l1] 15 2) (sq (.block 2 (.loop (sq (sq (r1 [gm tx,gm s5,gl l1,aX l0 l2,gm l3,gmt 4 s5,gmt 4 tx,cr 4 (.ia 1 l5 l6),jM 4 l7,cr 4 (.call 260 [l8] b8),cr 4 (dS l9 (cs [101,110,116,114,121])),eX l4 l10] 16 11) (fC AQ 2)) (.block 3 (r1 [gm tx,az l0 cl,gm l1] 15 2))))) (sq (sq (r2 [gk 11 true DG,gm s5,gm jR,az l2 cl,gm tx,gn (.slA 1 l1 (some l3) (some l4)),gm s6,gm l6,ek 7 tx,ek 7 s5,cn 7 (.len l9),cn 7 (oW l8 l10),eW l7 fZ,gx 262 [l5,iv] [[.sl 1 [.a]],[.a]],gn (.callM 261 [D7,l0,jr]),gm jT] 19 15) (sq (r1 [gm QH,bO l0 bx] 20 1) (.cond Ig (sq (rg [gn (.build [.str [],.aF] []),gm QH,gm jR,az l2 cl,gt 2 s1 l0,gm l1,gm l3] [(2,5),(3,6)]) .ret) .skip))) (r1 [gm tx,gm l0] 11 1))))))))))) (sq (rg [gk 2 true D7,gt 2 s1 l0,gm bx,gm bx] [(2,2),(3,3)]) .ret)))))))))⟩
def w87 (h223:Ty Y)(h258:Ws Y)(h259:Wt Y)(h260:Wu Y)(h261:TC Y)(h262:Wv Y)(s:au)  (hp0:s.length<=1048576):dn Y FI (.tup [js.D (iH s).1,.int .i64 (iH s).2.1,.int .i64 (iH s).2.2]) [.str s]:=by
 show bP _ _ _ [⟨_,_⟩,_,_,_,_,_,_,_,_,_,_,_,_,_,_,_,_,_,_,_,_] _;refine aq ?_;refine bU ?_;intro u0;refine ay ?_;refine av (fun hc0=>?_) (fun hc0=>?_)
 .simp only[dq]at hc0;have hz:=Cd (s:=s) ae;refine ay ?_;refine ea _ ?_;refine aI ?_;refine bI (dc ?_ (aj (D.int .i64) ?_) (aj (D.int .i64) ?_));all_goals
   rw[hz];first|done|rfl
 simp only[dq]at hc0;have g0:¬524288<s.length:=ae;refine aA ?_;refine ar (hc:=h223 s hp0) ?_;refine aH ?_;refine e7 (.sl _ _) ?_;refine bU ?_;intro u1;refine aA ?_;refine iJ ?_;refine ba ?_;refine av (fun hc1=>?_) (fun hc1=>?_)
 .simp only[dq]at hc1;have hz:=Pe g0 (by rcases hc1 with h|⟨h,h2⟩;exact .inl ae;exact .inr ⟨ae,h2⟩);refine ay ?_;refine ea _ ?_;refine aI ?_;refine bI (dc ?_ (aj (D.int .i64) ?_) (aj (D.int .i64) ?_));all_goals
   rw[hz];first|done|rfl
 simp only[dq]at hc1;have g1:¬((aC s).1.length=0\/((aC s).1.length=1/\(aC s).2=false)):=by
  rintro(h|⟨h,h2⟩)
  .exact hc1.1 ae
  .rcases hc1.2 with h3|h3
   .exact h3 ae
   .rw[h2]at h3;cases h3
 have hph:=Pd g0 g1;have gl:0<(aC s).1.length:=by
  by_cases h:(aC s).1.length=0
  .exact absurd (.inl h) g1
  .omega
 refine aA ?_;refine bL 0 (hb:=fun _=>ae) ?_;refine bH (v:=.str (aC s).1[0]!) (hi:=fun _=>ae) ?_;refine ar (hc:=h258 (aC s).1[0]! (by have:=um gl;omega)) ?_;refine fK ?_;refine av (fun hc2=>?_) (fun hc2=>?_)
 .simp only[dq]at hc2;have hz:iH s=(An,2,1):=by rw[hph,ak (by rw[hc2];simp)]
  refine ay ?_;refine ea _ ?_;refine aI ?_;refine bI (dc ?_ (aj (D.int .i64) ?_) (aj (D.int .i64) ?_));all_goals
   rw[hz];first|done|rfl
 simp only[dq]at hc2;have hz:iH s=EC ((jj (aC s).1[0]!).getD []) (oc (cE s) [] 1):=by rw[hph,aw hc2]
 refine aA ?_;refine bA (.agg [.str ((jj (aC s).1[0]!).getD []),.aF]) ?_;refine aH ?_;refine aY (.agg [.str ((jj (aC s).1[0]!).getD []),.aF]) (he:=aZ) ?_;refine aI ?_;refine bh hm (ι:=(List dk×Nat)) (fun p=>[⟨true,.str s⟩,⟨true,.ptr 0 2 0 0⟩,.un,.un,.un,⟨true,.sl 1 ((aC s).1.map D.str)⟩,⟨true,.bool (aC s).2⟩,.un,.un,.un,.un,⟨true,.int .i64 (p.2:Nat)⟩,.un,.un,.un,.un,.un,.un,⟨true,.ptr 1 2 0 0⟩,.un,.un]) (fun p=>[(0,.buf 2 [.agg [.str [],.aF]]),(1,.buf 2 [.agg [.str ((jj (aC s).1[0]!).getD []),.own 2 11 0 (p.1).length]]),(2,.buf 11 ((p.1).map dk.D))]) 60 (fun p=>(1<=p.2/\p.2<=(aC s).1.length)/\Qo p.1/\p.1.length<=64/\iH s=EC ((jj (aC s).1[0]!).getD []) (oc (cE s) p.1 p.2)) (fun p=>(aC s).1.length-p.2) ([],1) ⟨fq,(fun _ h=>by cases h),aR,hz⟩ (br.to [(0,0),(38,1)] ah ah vO (by refine bJ.lE ah ah ah ?_;refine bJ.ni 38 ah ah (by exact⟨_,_,rfl,⟨_,rfl,⟨_,_,rfl,⟨rfl,rfl⟩,⟨_,_,rfl,Or.inr ⟨_,_,_,rfl⟩,rfl⟩⟩⟩,rfl⟩) ?_;refine bJ.mt ah ah ah ah ?_;exact bJ.nil)) ?_;rintro⟨es,k⟩ ⟨hk,hes,he64,hr⟩;dsimp only at hk hes he64 hr⊢;refine aI ?_;intro u2;refine ay ?_;refine cM (fun hc3=>?_) fun hc3=>?_
 .refine aA ?_;have g4:=um (s:=s) (i:=k) ae;refine ay ?_;refine bL k (hb:=fun _=>ae) ?_;refine bH (v:=.str (aC s).1[k]!) (hi:=fun _=>ae) ?_;refine ar (hc:=h259 (aC s).1[k]! ae) ?_;refine aH ?_;refine e7 (dk.D _) ?_;refine ay ?_;refine aY (dk.D (⟨gT,(gy (aC s).1[k]!).1,(gy (aC s).1[k]!).2.1⟩:dk)) (he:=aZ) ?_;refine hY ?_;refine iJ ?_;refine aI ?_;refine av (fun hc4=>?_) (fun hc4=>?_)
  .simp only[dq]at hc4;have hz2:=MJ (es:=es) (show k<(aC s).1.length by omega) hc4;refine ay ?_;refine ea _ ?_;refine di ?_;refine bI (dc ?_ (aj (D.int .i64) ?_) (aj (D.int .i64) ?_));all_goals
    rw[hr,hz2,qP aM];first|done|rfl
  simp only[dq]at hc4;refine aG ?_;refine bh hm (ι:=Nat) (fun j=>[⟨true,.str s⟩,⟨true,.ptr 0 2 0 0⟩,.un,.un,.un,⟨true,.sl 1 ((aC s).1.map D.str)⟩,⟨true,.bool (aC s).2⟩,.un,.un,.un,.un,⟨true,.int .i64 (k:Nat)⟩,.un,.un,.un,⟨true,.int .i64 (j:Nat)⟩,.un,⟨true,.ptr 3 11 0 0⟩,⟨true,.ptr 1 2 0 0⟩,.un,.un]) (fun _=>[(0,.buf 2 [.agg [.str [],.aF]]),(1,.buf 2 [.agg [.str ((jj (aC s).1[0]!).getD []),.own 2 11 0 (es).length]]),(2,.buf 11 ((es).map dk.D)),(3,.buf 11 [dk.D (⟨gT,(gy (aC s).1[k]!).1,(gy (aC s).1[k]!).2.1⟩:dk)])]) 100 (fun j=>(k+1<=j/\j<=(aC s).1.length)/\OW (aC s).1 (k+1)=sv (fun j=>decide (fw (aC s).1[j]! =mX)) j (aC s).1.length) (fun j=>(aC s).1.length-j) (k+1) ⟨ae,rfl⟩ (br.to [(0,0),(1,1),(2,2),(72,3)] ah ah vO (by refine eV ?_;refine eV ?_;refine eV ?_;first|(refine bJ.lE ah ah ah ?_;exact bJ.nil)|(refine bJ.nl 72 ah ah rfl ah ?_;exact bJ.nil))) ?_;rintro j ⟨hj,hn⟩;refine aI ?_;intro u3;refine aD ?_;refine bL j (hb:=fun hf=>by simp at hf;omega) ?_;refine bH (v:=.str (aC s).1[j]!) (hi:=fun hf=>by simp at hf;omega) ?_;refine dm (hc:=fun hf=>h260 (aC s).1[j]! (by have:=um (s:=s) (i:=j) (by simp at hf;omega);omega)) ?_;refine aA ?_;refine av (fun hc5=>?_) (fun hc5=>?_)
  .simp only[dq]at hc5;refine di ?_;exact⟨(j+1),⟨ae,by rw[hn,JG ae (cJ hc5.2)]⟩,ae,(br.to [(0,0),(1,1),(2,2),(3,3)] ah ah vO (by refine eV ?_;refine eV ?_;refine eV ?_;first|(refine bJ.lE ah ah ah ?_;exact bJ.nil)|(refine bJ.nl 72 ah ah rfl ah ?_;exact bJ.nil)))⟩
  simp only[dq]at hc5;have hnj:OW (aC s).1 (k+1)=j:=by
   rw[hn];rcases hc5 with h|h
   .exact uC ae
   .by_cases hjl:j<(aC s).1.length
    .exact FZ hjl (b9 h)
    .exact uC ae
  have hz2:=PZ (es:=es) (show k<(aC s).1.length by omega) hc4 hnj;refine aD ?_;by_cases hadd:(iN es (ki (slice (aC s).1 (k+1) j) ((aC s).2 ||decide (j<(aC s).1.length))) (gy (aC s).1[k]!).1 (gy (aC s).1[k]!).2.1).1=0
  .refine de (d:=dk.D (⟨gT,(gy (aC s).1[k]!).1,(gy (aC s).1[k]!).2.1⟩:dk)) ?_;refine aD ?_;refine zW (k+1) j ?_;refine aD ?_;refine iJ ?_;refine ay ?_;refine ar (v:=.str (ki (slice (aC s).1 (k+1) j) ((aC s).2 ||decide (j<(aC s).1.length)))) (hc:=h262 (slice (aC s).1 (k+1) j) ((aC s).2 ||decide (j<(aC s).1.length)) (Jb ae)) (ha:=fun _=>by rw[show decide (j<(aC s).1.length)=decide ((j:Int)<((aC s).1.length:Int))from hJ.2 ae];exact rfl) ?_;refine cz (nx':=113) (v:=.int .i64 0) (m':=[(126,.buf 11 ((iN es (ki (slice (aC s).1 (k+1) j) ((aC s).2 ||decide (j<(aC s).1.length))) (gy (aC s).1[k]!).1 (gy (aC s).1[k]!).2.1).2.map dk.D)),(0,.buf 2 [.agg [.str [],.aF]]),(1,.buf 2 [.agg [.str ((jj (aC s).1[0]!).getD []),.own 126 11 0 (iN es (ki (slice (aC s).1 (k+1) j) ((aC s).2 ||decide (j<(aC s).1.length))) (gy (aC s).1[k]!).1 (gy (aC s).1[k]!).2.1).2.length]]),(3,.buf 11 [dk.D (⟨gT,(gy (aC s).1[k]!).1,(gy (aC s).1[k]!).2.1⟩:dk)])]) (hc:=fun K' hK=>h261 ((jj (aC s).1[0]!).getD []) es (⟨gT,(gy (aC s).1[k]!).1,(gy (aC s).1[k]!).2.1⟩:dk) (ki (slice (aC s).1 (k+1) j) ((aC s).2 ||decide (j<(aC s).1.length))) hes _ 1 2 _ K' ah ah (by simp only[ax,aB];omega) (by simp only[ax,aB];omega) (fun h=>absurd hadd h) (fun _=>hK)) (hn:=aM) ?_;refine ba ?_;refine av (fun hc6=>?_) (fun hc6=>?_)
   .exact absurd hc6 aM
   refine ba ?_;exact⟨((iN es (ki (slice (aC s).1 (k+1) j) ((aC s).2 ||decide (j<(aC s).1.length))) (gy (aC s).1[k]!).1 (gy (aC s).1[k]!).2.1).2,j),⟨fq,(Eg hadd hes).1,(Eg hadd hes).2,by rw[hr,hz2,ak (fun h=>h hadd)]⟩,fq,(br.to [(0,0),(1,1),(126,2)] ah ah vO (by refine eV ?_;refine bJ.Ou ah ah ah ?_;refine bJ.nl 126 ah ah rfl (bB (fun _=>rfl) _) ?_;exact bJ.nil))⟩
  .refine de (d:=dk.D (⟨gT,(gy (aC s).1[k]!).1,(gy (aC s).1[k]!).2.1⟩:dk)) ?_;refine aD ?_;refine zW (k+1) j ?_;refine aD ?_;refine iJ ?_;refine ay ?_;refine ar (v:=.str (ki (slice (aC s).1 (k+1) j) ((aC s).2 ||decide (j<(aC s).1.length)))) (hc:=h262 (slice (aC s).1 (k+1) j) ((aC s).2 ||decide (j<(aC s).1.length)) (Jb ae)) (ha:=fun _=>by rw[show decide (j<(aC s).1.length)=decide ((j:Int)<((aC s).1.length:Int))from hJ.2 ae];exact rfl) ?_;refine cz (nx':=112) (v:=.int .i64 (iN es (ki (slice (aC s).1 (k+1) j) ((aC s).2 ||decide (j<(aC s).1.length))) (gy (aC s).1[k]!).1 (gy (aC s).1[k]!).2.1).1) (m':=[(0,.buf 2 [.agg [.str [],.aF]]),(1,.buf 2 [.agg [.str ((jj (aC s).1[0]!).getD []),.own 2 11 0 (es).length]]),(2,.buf 11 ((es).map dk.D)),(3,.buf 11 [dk.D (⟨gT,(gy (aC s).1[k]!).1,(gy (aC s).1[k]!).2.1⟩:dk)])]) (hc:=fun K' hK=>h261 ((jj (aC s).1[0]!).getD []) es (⟨gT,(gy (aC s).1[k]!).1,(gy (aC s).1[k]!).2.1⟩:dk) (ki (slice (aC s).1 (k+1) j) ((aC s).2 ||decide (j<(aC s).1.length))) hes _ 1 2 _ K' ah ah (by simp only[ax,aB];omega) (by simp only[ax,aB];omega) (fun _=>hK) (fun h=>absurd h hadd)) (hn:=aM) ?_;refine ba ?_;refine av (fun hc6=>?_) (fun hc6=>?_)
   .refine ay ?_;refine ea _ ?_;refine gv ?_;refine bI (dc ?_ (aj (D.int .i64) ?_) (aj (D.int .i64) ?_));all_goals
     rw[hr,hz2,aw hadd,qP hadd];first|done|rfl
   exact absurd (by simpa using hc6) hadd
 refine ay ?_;refine fE 2 ?_;refine aH ?_;refine de (d:=js.D ⟨((jj (aC s).1[0]!).getD []),es⟩) ?_;refine aY (js.D ⟨((jj (aC s).1[0]!).getD []),es⟩) (he:=aZ) ?_;refine aD ?_;refine bI (dc ?_ (aj (D.int .i64) ?_) (aj (D.int .i64) ?_));all_goals
  rw[hr,B8 (by rw[me];omega)];first|done|rfl
def C87 (Y:Ctx):Prop:=D1 (bD Y 87)
def vx:aE:=⟨1,9,ib,b8,(sq (r1 [gm cZ] 1 0) (sq (sq (r1 [gm s0,ov l0,dj l1 (i6 800)] 2 2) (.cond s2 (sq (r1 [gx 85 [] [],gm l0] 1 1) .ret) .skip)) (sq (rg [gm s0,gx 86 [l0] b8,gm l1,ge l2 0,ge l2 1,ge l2 2,gb 2 (.c (.agg [.str [],.aF])),gt 2 l6 l3,gm l4,gm l5] [(3,6),(5,8),(7,9)]) (sq (rg [gm s0,gx 87 [l0] b8,gm l1,ge l2 0,ge l2 1,ge l2 2,gb 2 (.c (.agg [.str [],.aF])),gt 2 l6 l3,gm l4,gm l5] [(4,6),(6,8),(8,9)]) (sq (r1 [gx 85 [] [],gm l0,cr 1 (.ld 2 true s3),cr 1 (.ld 2 true s4),cr 1 (.call 88 [l2,l3] [[.a,.sl 11 [.a,.a,.a,.a,.a,.a,.sl 3 [.sl 4 [.a,.a,.a,.a],.a,.a],.sl 3 [.a,.a,.a],.sl 2 [.a,.sl 1 [.a]],.a,.a]],[.a,.sl 11 [.a,.a,.a,.a,.a,.a,.sl 3 [.sl 4 [.a,.a,.a,.a],.a,.a],.sl 3 [.a,.a,.a],.sl 2 [.a,.sl 1 [.a]],.a,.a]]]),eX l1 l4,gm l5,gmt 6 s5,gmt 6 s6,cr 6 (cV l7 l8),eX l6 l9,gm l10,gmt 11 s7,gmt 11 s8,cr 11 (cV iv jr),eX fZ jT,gm lg] 1 16) .ret)))))⟩
def w15 {Y:Ctx}(hm:(Y.at 0).cj)(h85:C85 Y)(h86:C86 Y)(h87:C87 Y)(h88:C88 Y)(s:au)   :dn Y vx (.bool true) [.str s]:=by
 show bP _ _ _ [⟨_,_⟩,_,_,_,_,_,_,_,_] _;refine aq ?_;refine aG ?_;intro u0;refine ay ?_;refine av (fun hc0=>?_) (fun hc0=>?_)
 .try simp only[dq]at hc0
  refine ay ?_;refine ar (hc:=h85) ?_;refine aA ?_;exact bX rfl
 simp only[dq]at hc0;refine aA ?_;refine ar (hc:=h86 s ae) ?_;refine aH ?_;refine e7 _ ?_;refine aA ?_;refine aY (js.D (iH s).1) (he:=aZ) ?_;refine aI ?_;refine ar (hc:=h87 s ae) ?_;refine aH ?_;refine e7 _ ?_;refine aA ?_;refine aY (js.D (iH s).1) (he:=aZ) ?_;refine aD ?_;refine ar (hc:=h85) ?_;refine aH ?_;refine de (d:=js.D (iH s).1) ?_;refine de (d:=js.D (iH s).1) ?_;refine dm (hc:=fun hf=>h88 (iH s).1 (iH s).1) ?_;refine rE ?_;refine bX ?_;simp
def Qx (T:List D->D->Prop):Prop:=∀(s:au),T [.str s] (.bool true)
def bF {p:Prop}(h:p:=by((repeat intro _);exact V0 G6 (.inl (by assumption)) fun T hT=>(by apply hT<;>assumption))):p:=h
def bo {t:List (Nat×qq)}{key u q:Nat}:((under t key u).at q).cj:=wR t key u q
section
def UF:List D->Nat
 |_::.int _ (.ofNat 4)::_=>3
 |_=>1
def D15:XU (C8 Qx):=G6
def A124 (T:RT):Prop:=JT T/\GC T
def V4 (T:FT):Prop:=∀(r:Ld),(r.sm)->T (Ld.D r) [] (.tup [Rec.D (gz r.rest).1,.bool (pD r.rest).isSome]) (Ld.D (r.to (gz r.rest).2))
def XQ:yE (oR V4):=Rg
def V5 (T:FT):Prop:=∀(r:Ld) (w:au) (n:Nat) (op:Bool),(r.sm)->(n<=1000)->(op=true->1<=n)->T (Ld.D r) [.str w,.int .i64 (n:Nat),.bool op] (.tup [Ba (cD w n op r.rest),.bool (cD w n op r.rest).isSome]) (Ld.D (r.after (cD w n op r.rest)))
def XR:yE (oR V5):=Rg
def V6 (T:FT):Prop:=∀(r:Ld),(r.sm)->T (Ld.D r) [] (bw.D (eY r.rest).1) (Ld.D (r.to (eY r.rest).2))
def XS:yE (oR V6):=Rg
def V7 (T:FT):Prop:=∀(r:Ld),(r.sm)->T (Ld.D r) [] (.str (cB r.rest).1) (Ld.D (r.to (cB r.rest).2))
def XT:yE (oR V7):=Rg
def u811:List D->Nat:=fun ds=>2*(match ds.getD 1 .any with| .int _ i=>i.toNat|_=>0)
def u951:List D->Nat:=fun ds=>2*(match ds.getD 1 .any with| .int _ i=>i.toNat|_=>0)+1
def ZX:List D->Nat:=fun ds=>2*(match ds.getD 1 .any with| .int _ i=>i.toNat|_=>0)
def bc:List (Nat×qq):=[(15,rP 20 Qx),(70,rP 14 DX),(71,rP 14 DX),(72,rP 15 DY),(73,rP 15 DY),(74,rP 16 DZ),(75,rP 16 DZ),(76,rP 15 D0),(77,rP 15 D0),(78,rP 4 Qy),(85,rP 19 Qz),(86,rP 18 D1),(87,rP 18 D1),(88,rP 6 QA),(124,rP 1 A124),(208,rP 1 xR),(209,rP 4 xS),(210,rP 13 xT),(211,rP 11 JU),(212,rP 6 xU),(213,rP 3 yf),(214,rP 3 JV),(215,rP 6 xW),(216,rP 2 xR),(217,rP 4 xS),(218,rP 13 JW),(219,rP 6 xW),(220,rP 2 xX),(221,rP 2 xX),(222,rF 7 V4),(223,rP 2 JX),(224,rG 7 Tz),(225,rP 3 JY),(226,rP 1 JZ),(239,rP 2 J0),(242,rP 1 J1),(244,rP 1 J2),(245,rP 1 J3),(246,rP 2 J4),(249,rP 1 J5),(251,rP 18 J6),(252,rP 3 J7),(253,rP 2 J8),(254,rP 1 J9),(255,rP 3 Ka),(256,rP 3 Kb),(257,rP 17 Kc),(258,rP 3 Kd),(259,rP 3 Ke),(260,rP 2 Kf),(261,rG 17 TC),(262,rP 2 Kg),(263,rP 5 Kh),(295,rP 5 xY),(316,rP 5 ye),(331,rP 1 Ki),(336,rP 1 sf),(349,rP 1 xZ),(353,rP 17 Kj),(357,rP 2 xZ),(424,rP 5 xY),(440,rP 1 ya),(441,rP 3 Kk),(442,rP 2 Kl),(443,rP 12 yb),(444,rP 10 ym),(445,rP 5 yc),(446,rP 5 yd),(447,rP 1 yz),(448,rP 2 yr),(449,rP 2 yA),(450,rG 2 TG),(451,rP 5 ye),(452,rG 1 QL),(453,rP 1 Km),(454,rP 1 Kn),(455,rP 1 ya),(456,rP 3 Ko),(457,rP 12 xT),(458,rP 11 Kq),(459,rP 5 yf),(460,rP 4 Kr),(461,rP 2 Ks),(462,rP 1 Kt),(463,rP 1 Ku),(464,rP 1 Kv),(465,rFG 3 V5 Iz),(466,rP 6 yg),(467,rF 5 V6),(468,rF 4 V7),(469,rP 1 Kw),(470,rP 1 yk),(471,rG 6 TK),(472,rG 3 TL),(473,rG 3 TM),(474,rP 1 Kx),(475,rP 2 Ky),(476,rG 2 TO),(477,rP 2 Kz),(482,rP 6 yB),(487,rP 1 KA),(489,rG 1 QQ),(494,rP 1 KB),(495,rP 9 yw),(496,rP 8 yx),(497,rP 2 KC),(499,rP 1 yh),(500,rP 2 yh),(501,rP 6 yv),(511,rP 9 KD),(516,rP 2 yi),(530,rP 1 KE),(531,rP 1 KF),(532,rP 2 yj),(533,rP 1 yk),(534,rP 3 yl),(554,rP 3 KG),(568,rP 5 yg),(572,rP 10 ym),(630,rP 1 yj),(631,rP 4 KH),(658,rP 1 yn),(659,rP 1 yo),(660,rG 4 TV (Db fun _=>4)),(661,rP 4 yp),(662,rP 3 yq),(663,rP 1 yD),(664,rG 1 TY),(665,rP 2 sf),(666,rP 1 KI),(667,rP 2 yn),(668,rP 1 yo),(669,rP 11 yb),(670,rP 7 xU),(671,rP 4 KJ),(672,rP 3 yr),(673,rP 1 KK),(674,rP 1 KL),(675,rP 1 KM),(676,rP 5 yt),(677,rG 3 T4),(678,rP 1 yu),(682,rP 8 KN),(683,rP 1 KO),(684,rP 7 KP),(685,rP 8 yC),(686,rP 1 KQ),(688,rP 1 KR),(699,rP 8 KS),(700,rP 7 KT),(701,rP 6 yv),(704,rP 1 KU),(714,rP 1 KV),(734,rP 2 sf),(741,rP 1 KW),(742,rP 3 KX),(744,rP 8 yw),(745,rP 9 yx),(783,rP 3 yl),(808,rG 4 C808 (Db UF)),(809,rG 4 C809 (Db fun _=>2)),(810,rP 2 KY),(811,rP 2 yy u811),(812,rP 3 KZ),(813,rP 6 yc),(814,rP 6 yd),(815,rP 1 yz),(816,rP 2 yA),(819,rP 7 K0),(827,rP 5 yt),(828,rP 6 yB),(882,rP 1 K1),(896,rP 1 K2),(897,rP 7 K3),(898,rP 1 K4),(899,rP 6 K5),(900,rP 7 K6),(901,rP 8 yC),(927,rP 1 yi),(946,rP 1 K7),(947,rG 2 Lh),(948,rG 1 Nv),(949,rG 4 C949 (Db fun _=>0)),(950,rP 1 K8),(951,rP 2 Sx u951),(952,rG 4 Uc (Db fun _=>2)),(953,rP 5 yp),(954,rP 3 yq),(955,rP 1 yD),(956,rP 1 uJ),(957,rP 1 yu),(1006,rP 2 Gv),(1007,rP 1 Gw),(1008,rP 3 Gx),(1031,rG 3 Ni),(1032,rG 4 V9 (Db fun _=>1)),(1033,rG 1 D8),(1034,rG 1 Bj),(1035,rP 4 Gy),(1036,rP 2 yy ZX),(1079,rP 1 uJ),(1097,rG 4 Wa (Db fun _=>0)),(1098,rP 3 Gz),(1099,rP 1 GA),(1100,rP 1 GB),(1126,rG 3 Nn),(1141,rG 1 Np)]
variable {k u v:Nat}
def G70 (hk:14<k:=by decide):C70 (under bc k u):=bF
def G71 (hk:14<k:=by decide):C71 (under bc k u):=bF
def G72 (hk:15<k:=by decide):C72 (under bc k u):=bF
def G73 (hk:15<k:=by decide):C73 (under bc k u):=bF
def G74 (hk:16<k:=by decide):C74 (under bc k u):=bF
def G75 (hk:16<k:=by decide):C75 (under bc k u):=bF
def G76 (hk:15<k:=by decide):C76 (under bc k u):=bF
def G77 (hk:15<k:=by decide):C77 (under bc k u):=bF
def G78 (hk:4<k:=by decide):C78 (under bc k u):=bF
def G85 (hk:19<k:=by decide):C85 (under bc k u):=bF
def G86 (hk:18<k:=by decide):C86 (under bc k u):=bF
def YK (hk:18<k:=by decide):SH (under bc k u):=fun s h1 _=>G86 hk s h1
def G87 (hk:18<k:=by decide):C87 (under bc k u):=bF
def G88 (hk:6<k:=by decide):C88 (under bc k u):=bF
def Ny (hk:1<k:=by decide):K9 (under bc k u):=fun s b hp=>V0 G6 (.inl hk) fun T h=>h.1 s b hp
def YL (hk:1<k:=by decide):SI (under bc k u):=fun s hp=>V0 G6 (.inl hk) fun T h=>h.2 s hp
def Nz (hk:1<k:=by decide):La (under bc k u):=bF
def Lk (hk:4<k:=by decide):GP (under bc k u):=bF
def G210 (hk:13<k:=by decide):Wb (under bc k u):=bF
def X8 (hk:11<k:=by decide):Tu (under bc k u):=bF
def X9 (hk:6<k:=by decide):Tv (under bc k u):=bF
def G213 (hk:3<k:=by decide):Wc (under bc k u):=bF
def G214 (hk:3<k:=by decide):Wd (under bc k u):=bF
def Ya (hk:6<k:=by decide):Tw (under bc k u):=bF
def NA (hk:2<k:=by decide):Lb (under bc k u):=bF
def Ll (hk:4<k:=by decide):GQ (under bc k u):=bF
def G218 (hk:13<k:=by decide):We (under bc k u):=bF
def Yb (hk:6<k:=by decide):Tx (under bc k u):=bF
def G220 (hk:2<k:=by decide):Wf (under bc k u):=bF
def G221 (hk:2<k:=by decide):Wg (under bc k u):=bF
def G222 (hk:7<k:=by decide):Wh (under bc k u):=fun r hp0=>okf XQ hk fun T h=>h r hp0
def Yc (hk:2<k:=by decide):Ty (under bc k u):=bF
def G224 (hk:7<k:=by decide):Tz (under bc k u):=fun x t hp0 hp1 hp2 nx j0 j1 j2 j3 j4 m K h1 h2 h3 hK=>uu (.inl hk) fun T _ h=>h x t hp0 hp1 hp2 nx j0 j1 j2 j3 j4 m K h1 h2 h3 hK
def G225 (hk:3<k:=by decide):Wi (under bc k u):=bF
def Yd (hk:1<k:=by decide):TA (under bc k u):=bF
def G239 (hk:2<k:=by decide):Wj (under bc k u):=bF
def QV (hk:1<k:=by decide):Nq (under bc k u):=bF
def G244 (hk:1<k:=by decide):Wk (under bc k u):=bF
def Ye (hk:1<k:=by decide):Wl (under bc k u):=bF
def Yf (hk:2<k:=by decide):Wm (under bc k u):=bF
def NB (hk:1<k:=by decide):Lc (under bc k u):=bF
def G251 (hk:18<k:=by decide):Wn (under bc k u):=bF
def G252 (hk:3<k:=by decide):Wo (under bc k u):=bF
def Ui (hk:2<k:=by decide):QK (under bc k u):=bF
def Yg (hk:1<k:=by decide):TB (under bc k u):=bF
def G255 (hk:3<k:=by decide):Wp (under bc k u):=bF
def G256 (hk:3<k:=by decide):Wq (under bc k u):=bF
def G257 (hk:17<k:=by decide):Wr (under bc k u):=bF
def G258 (hk:3<k:=by decide):Ws (under bc k u):=bF
def G259 (hk:3<k:=by decide):Wt (under bc k u):=bF
def G260 (hk:2<k:=by decide):Wu (under bc k u):=bF
def G261 (hk:17<k:=by decide):TC (under bc k u):=fun nm es y t hp0 nx lp ln m K h1 h2 h3 h4 hK1 hK2=>uu (.inl hk) fun T _ h=>h nm es y t hp0 nx lp ln m K h1 h2 h3 h4 hK1 hK2
def G262 (hk:2<k:=by decide):Wv (under bc k u):=bF
def G263 (hk:5<k:=by decide):Ww (under bc k u):=bF
def Yh (hk:5<k:=by decide):TD (under bc k u):=bF
def G316 (hk:5<k:=by decide):Wx (under bc k u):=bF
def G331 (hk:1<k:=by decide):Wy (under bc k u):=bF
def G336 (hk:1<k:=by decide):Wz (under bc k u):=bF
def Lm (hk:1<k:=by decide):GR (under bc k u):=bF
def G353 (hk:17<k:=by decide):WA (under bc k u):=bF
def Ln (hk:2<k:=by decide):GS (under bc k u):=bF
def G424 (hk:5<k:=by decide):WB (under bc k u):=bF
def G440 (hk:1<k:=by decide):WC (under bc k u):=bF
def G441 (hk:3<k:=by decide):WD (under bc k u):=bF
def Yi (hk:2<k:=by decide):TE (under bc k u):=bF
def G443 (hk:12<k:=by decide):WE (under bc k u):=bF
def G444 (hk:10<k:=by decide):WG (under bc k u):=bF
def G445 (hk:5<k:=by decide):WH (under bc k u):=bF
def G446 (hk:5<k:=by decide):WI (under bc k u):=bF
def G447 (hk:1<k:=by decide):WJ (under bc k u):=bF
def Yj (hk:2<k:=by decide):TF (under bc k u):=bF
def G449 (hk:2<k:=by decide):WK (under bc k u):=bF
def G450 (hk:2<k:=by decide):TG (under bc k u):=fun ws t l lw nx m K h1 h2 h3 h4 h5 hK=>uu (.inl hk) fun T _ h=>h ws t l lw nx m K h1 h2 h3 h4 h5 hK
def Yk (hk:5<k:=by decide):TH (under bc k u):=bF
def Yl (hk:1<k:=by decide):QL (under bc k u):=fun ds st K h1=>uu (.inl hk) fun T _ h=>h ds st K h1
def Ym (hk:1<k:=by decide):TI (under bc k u):=bF
def Uj (hk:1<k:=by decide):QM (under bc k u):=bF
def G455 (hk:1<k:=by decide):WL (under bc k u):=bF
def G456 (hk:3<k:=by decide):WM (under bc k u):=bF
def G457 (hk:12<k:=by decide):WN (under bc k u):=bF
def G458 (hk:11<k:=by decide):WO (under bc k u):=bF
def G459 (hk:5<k:=by decide):WQ (under bc k u):=bF
def G460 (hk:4<k:=by decide):WR (under bc k u):=bF
def G461 (hk:2<k:=by decide):WS (under bc k u):=bF
def G462 (hk:1<k:=by decide):WT (under bc k u):=bF
def G463 (hk:1<k:=by decide):WU (under bc k u):=bF
def G464 (hk:1<k:=by decide):WV (under bc k u):=bF
def Yn (hk:3<k:=by decide):QN (under bc k u):=fun r w n op hp0 hp1 hp2=>okf XR hk fun T h=>h r w n op hp0 hp1 hp2
def YM (hk:3<k:=by decide):Iz (under bc k u):=fun r w n op l nx m K h1 h2 h3 h4 hK=>uu (.inl hk) fun T _ h=>h r w n op l nx m K h1 h2 h3 h4 hK
def G466 (hk:6<k:=by decide):WW (under bc k u):=bF
def G467 (hk:5<k:=by decide):TJ (under bc k u):=fun r hp0=>okf XS hk fun T h=>h r hp0
def Yo (hk:4<k:=by decide):QO (under bc k u):=fun r hp0=>okf XT hk fun T h=>h r hp0
def G469 (hk:1<k:=by decide):WX (under bc k u):=bF
def tH (hk:1<k:=by decide):sI (under bc k u):=bF
def G471 (hk:6<k:=by decide):TK (under bc k u):=fun x l hp0 nx j0 j1 j2 j3 j4 m K h1 h2 h3 hK=>uu (.inl hk) fun T _ h=>h x l hp0 nx j0 j1 j2 j3 j4 m K h1 h2 h3 hK
def G472 (hk:3<k:=by decide):TL (under bc k u):=fun x t hp0 hp1 hp2 hp3 nx j0 j1 j2 j3 j4 m K h1 h2 h3 hK=>uu (.inl hk) fun T _ h=>h x t hp0 hp1 hp2 hp3 nx j0 j1 j2 j3 j4 m K h1 h2 h3 hK
def G473 (hk:3<k:=by decide):TM (under bc k u):=fun x t hp0 hp1 hp2 hp3 hp4 nx j0 j1 j2 j3 j4 m K h1 h2 h3 hK=>uu (.inl hk) fun T _ h=>h x t hp0 hp1 hp2 hp3 hp4 nx j0 j1 j2 j3 j4 m K h1 h2 h3 hK
def Yp (hk:1<k:=by decide):TN (under bc k u):=bF
def Uk (hk:2<k:=by decide):QP (under bc k u):=bF
def G476 (hk:2<k:=by decide):TO (under bc k u):=fun x l hp0 hp1 nx j0 j1 j2 j3 j4 m K h1 h2 h3 hK=>uu (.inl hk) fun T _ h=>h x l hp0 hp1 nx j0 j1 j2 j3 j4 m K h1 h2 h3 hK
def G477 (hk:2<k:=by decide):WY (under bc k u):=bF
def Yq (hk:6<k:=by decide):TP (under bc k u):=bF
def Yr (hk:1<k:=by decide):TQ (under bc k u):=bF
def Ys (hk:1<k:=by decide):QQ (under bc k u):=fun ds st K h1=>uu (.inl hk) fun T _ h=>h ds st K h1
def G494 (hk:1<k:=by decide):WZ (under bc k u):=bF
def G495 (hk:9<k:=by decide):W0 (under bc k u):=bF
def G496 (hk:8<k:=by decide):W1 (under bc k u):=bF
def G497 (hk:2<k:=by decide):W2 (under bc k u):=bF
def G499 (hk:1<k:=by decide):W3 (under bc k u):=bF
def G500 (hk:2<k:=by decide):W4 (under bc k u):=bF
def G501 (hk:6<k:=by decide):W5 (under bc k u):=bF
def G511 (hk:9<k:=by decide):W6 (under bc k u):=bF
def G516 (hk:2<k:=by decide):W7 (under bc k u):=bF
def G530 (hk:1<k:=by decide):W8 (under bc k u):=bF
def G531 (hk:1<k:=by decide):W9 (under bc k u):=bF
def Yt (hk:2<k:=by decide):TR (under bc k u):=bF
def NC (hk:1<k:=by decide):Lg (under bc k u):=bF
def G534 (hk:3<k:=by decide):Xa (under bc k u):=bF
def G554 (hk:3<k:=by decide):Xb (under bc k u):=bF
def G568 (hk:5<k:=by decide):Xc (under bc k u):=bF
def Yu (hk:10<k:=by decide):TS (under bc k u):=bF
def Ul (hk:1<k:=by decide):QR (under bc k u):=bF
def G631 (hk:4<k:=by decide):Xd (under bc k u):=bF
def QW (hk:1<k:=by decide):Nr (under bc k u):=bF
def Yv (hk:1<k:=by decide):TU (under bc k u):=bF
def G660 (hk:4<k:=by decide):TV (under bc k u):=fun w nd hp0 nx lp ln m K h1 h2 h3 h4 hK=>uu (.inl hk) fun T _ h=>h w nd hp0 nx lp ln m K h1 h2 h3 h4 hK
def Yw (hv:v<=u):SG (under bc 4 u) v:=fun w nd hp0 hu nx lp ln m K h1 h2 h3 h4 hK=>uu (.inr ⟨rfl,by rw[show(lk bc 660 ng).muE=Db fun _=>4 from rfl,nZ h1];exact fj hu hv⟩) fun T _ h=>h w nd hp0 nx lp ln m K h1 h2 h3 h4 hK
def Yx (hk:4<k:=by decide):TW (under bc k u):=bF
def Yy (hk:3<k:=by decide):TX (under bc k u):=bF
def G663 (hk:1<k:=by decide):Xe (under bc k u):=bF
def G664 (hk:1<k:=by decide):TY (under bc k u):=fun ds st K h1=>uu (.inl hk) fun T _ h=>h ds st K h1
def Yz (hk:2<k:=by decide):TZ (under bc k u):=bF
def G666 (hk:1<k:=by decide):Xf (under bc k u):=bF
def QX (hk:2<k:=by decide):Ns (under bc k u):=bF
def YA (hk:1<k:=by decide):T0 (under bc k u):=bF
def G669 (hk:11<k:=by decide):Xg (under bc k u):=bF
def YB (hk:7<k:=by decide):T1 (under bc k u):=bF
def G671 (hk:4<k:=by decide):Xh (under bc k u):=bF
def YC (hk:3<k:=by decide):T2 (under bc k u):=bF
def G673 (hk:1<k:=by decide):Xi (under bc k u):=bF
def G674 (hk:1<k:=by decide):Xj (under bc k u):=bF
def G675 (hk:1<k:=by decide):Xk (under bc k u):=bF
def YD (hk:5<k:=by decide):T3 (under bc k u):=bF
def G677 (hk:3<k:=by decide):T4 (under bc k u):=fun c hp0 nx m K hK=>uu (.inl hk) fun T _ h=>h c hp0 nx m K hK
def YE (hk:1<k:=by decide):T5 (under bc k u):=bF
def G682 (hk:8<k:=by decide):Xl (under bc k u):=bF
def G683 (hk:1<k:=by decide):Xm (under bc k u):=bF
def Um (hk:7<k:=by decide):QS (under bc k u):=bF
def G685 (hk:8<k:=by decide):Xn (under bc k u):=bF
def G686 (hk:1<k:=by decide):Xo (under bc k u):=bF
def G688 (hk:1<k:=by decide):Xp (under bc k u):=bF
def G699 (hk:8<k:=by decide):Xq (under bc k u):=bF
def G700 (hk:7<k:=by decide):Xr (under bc k u):=bF
def G701 (hk:6<k:=by decide):Xs (under bc k u):=bF
def G704 (hk:1<k:=by decide):Xt (under bc k u):=bF
def G714 (hk:1<k:=by decide):Xu (under bc k u):=bF
def YF (hk:2<k:=by decide):T6 (under bc k u):=bF
def G741 (hk:1<k:=by decide):Xv (under bc k u):=bF
def G742 (hk:3<k:=by decide):Xw (under bc k u):=bF
def G744 (hk:8<k:=by decide):Xx (under bc k u):=bF
def G745 (hk:9<k:=by decide):Xy (under bc k u):=bF
def G783 (hk:3<k:=by decide):Xz (under bc k u):=bF
def SN (hv:v<=u):Nt (under bc 4 u) v:=⟨fun w nd hp0 hu nx lp ln m K h1 h2 h3 h4 hK=>uu (.inr ⟨rfl,by rw[show(lk bc 808 ng).muE=Db UF from rfl,nZ h1];exact fj hu hv⟩) fun T _ h=>h.1 w nd hp0 nx lp ln m K h1 h2 h3 h4 hK,fun w nd hp0 hu nx lp ln m K h1 h2 h3 h4 hK=>uu (.inr ⟨rfl,by rw[show(lk bc 808 ng).muE=Db UF from rfl,nZ h1];exact fj hu hv⟩) fun T _ h=>h.2 w nd hp0 nx lp ln m K h1 h2 h3 h4 hK⟩
def YG (hv:v<=u):XA (under bc 4 u) v:=fun w nd hp0 hu nx lp ln m K h1 h2 h3 h4 hK=>uu (.inr ⟨rfl,by rw[show(lk bc 809 ng).muE=Db fun _=>2 from rfl,nZ h1];exact fj hu hv⟩) fun T _ h=>h w nd hp0 nx lp ln m K h1 h2 h3 h4 hK
def G810 (hk:2<k:=by decide):XB (under bc k u):=bF
def G811 (hk:2<k:=by decide):XC (under bc k u):=bF
def SO (hv:v<=u):Nu (under bc 2 u) v:=fun l i hp0 hu=>V0 G6 (.inr ⟨rfl,fj hu hv⟩) fun T hT=>hT l i hp0
def G812 (hk:3<k:=by decide):XD (under bc k u):=bF
def G813 (hk:6<k:=by decide):XE (under bc k u):=bF
def G814 (hk:6<k:=by decide):XF (under bc k u):=bF
def YH (hk:1<k:=by decide):T7 (under bc k u):=bF
def G816 (hk:2<k:=by decide):XG (under bc k u):=bF
def G819 (hk:7<k:=by decide):XH (under bc k u):=bF
def Un (hk:5<k:=by decide):QT (under bc k u):=bF
def YI (hk:6<k:=by decide):T8 (under bc k u):=bF
def G882 (hk:1<k:=by decide):XI (under bc k u):=bF
def G896 (hk:1<k:=by decide):XJ (under bc k u):=bF
def G897 (hk:7<k:=by decide):XK (under bc k u):=bF
def G898 (hk:1<k:=by decide):XL (under bc k u):=bF
def YJ (hk:6<k:=by decide):T9 (under bc k u):=bF
def Uo (hk:7<k:=by decide):QU (under bc k u):=bF
def G901 (hk:8<k:=by decide):XM (under bc k u):=bF
def G927 (hk:1<k:=by decide):XN (under bc k u):=bF
def Up (hk:1<k:=by decide):Ua (under bc k u):=bF
def QY (hk:2<k:=by decide):Lh (under bc k u):=fun w nd b nx lp ln m K h1 h2 h3 h4 hK=>uu (.inl hk) fun T _ h=>h w nd b nx lp ln m K h1 h2 h3 h4 hK
def QZ (hk:1<k:=by decide):Nv (under bc k u):=fun x w nd b hp0 nx lp ln m K h1 h2 h3 h4 hK=>uu (.inl hk) fun T _ h=>h x w nd b hp0 nx lp ln m K h1 h2 h3 h4 hK
def SP (hv:v<=u):SJ (under bc 4 u) v:=fun w nd hp0 hu nx lp ln m K h1 h2 h3 h4 hK=>uu (.inr ⟨rfl,by rw[show(lk bc 949 ng).muE=Db fun _=>0 from rfl,nZ h1];exact fj hu hv⟩) fun T _ h=>h w nd hp0 nx lp ln m K h1 h2 h3 h4 hK
def YN (hk:1<k:=by decide):Ub (under bc k u):=bF
def YO (hv:v<=u):SK (under bc 2 u) v:=fun l i b hp0 hu=>V0 G6 (.inr ⟨rfl,fj hu hv⟩) fun T hT=>hT l i b hp0
def G952 (hk:4<k:=by decide):Uc (under bc k u):=fun W w nd hp0 hp1 nx lp ln m K h1 h2 h3 h4 hK=>uu (.inl hk) fun T _ h=>h W w nd hp0 hp1 nx lp ln m K h1 h2 h3 h4 hK
def YP (hv:v<=u):SL (under bc 4 u) v:=fun W w nd hp0 hp1 hu nx lp ln m K h1 h2 h3 h4 hK=>uu (.inr ⟨rfl,by rw[show(lk bc 952 ng).muE=Db fun _=>2 from rfl,tg hp0.1 h1];exact fj hu hv⟩) fun T _ h=>h W w nd hp0 hp1 nx lp ln m K h1 h2 h3 h4 hK
def YQ (hk:5<k:=by decide):Ud (under bc k u):=bF
def YR (hk:3<k:=by decide):Ue (under bc k u):=bF
def G955 (hk:1<k:=by decide):XO (under bc k u):=bF
def G956 (hk:1<k:=by decide):XP (under bc k u):=bF
def YS (hk:1<k:=by decide):Uf (under bc k u):=bF
def XX (hk:2<k:=by decide):Sy (under bc k u):=bF
def XY (hk:1<k:=by decide):Sz (under bc k u):=bF
def XZ (hk:3<k:=by decide):SA (under bc k u):=bF
def X0 (hk:3<k:=by decide):Ni (under bc k u):=fun k w nd b hp0 nx lp ln m K h1 h2 h3 h4 hK=>uu (.inl hk) fun T _ h=>h k w nd b hp0 nx lp ln m K h1 h2 h3 h4 hK
def Ug (hv:v<=u):Nj (under bc 4 u) v:=fun W w nd hp0 hp1 hu nx lp ln m K h1 h2 h3 h4 hK=>uu (.inr ⟨rfl,by rw[show(lk bc 1032 ng).muE=Db fun _=>1 from rfl,tg hp0.1 h1];exact fj hu hv⟩) fun T _ h=>h W w nd hp0 hp1 nx lp ln m K h1 h2 h3 h4 hK
def Nw (hk:1<k:=by decide):D8 (under bc k u):=fun s W w nd b hp0 nx lp ln m K h1 h2 h3 h4 hK=>uu (.inl hk) fun T _ h=>h s W w nd b hp0 nx lp ln m K h1 h2 h3 h4 hK
def IA (hk:1<k:=by decide):Bj (under bc k u):=fun x W w nd b hp0 nx lp ln m K h1 h2 h3 h4 hK=>uu (.inl hk) fun T _ h=>h x W w nd b hp0 nx lp ln m K h1 h2 h3 h4 hK
def X1 (hk:4<k:=by decide):SB (under bc k u):=bF
def X2 (hk:2<k:=by decide):SC (under bc k u):=bF
def Uh (hv:v<=u):Nk (under bc 2 u) v:=fun l i hp0 hu=>V0 G6 (.inr ⟨rfl,fj hu hv⟩) fun T hT=>hT l i hp0
def X3 (hk:1<k:=by decide):SD (under bc k u):=bF
def Nx (hv:v<=u):GO (under bc 4 u) v:=fun W w nd hp0 hp1 hu nx lp ln m K h1 h2 h3 h4 hK=>uu (.inr ⟨rfl,by rw[show(lk bc 1097 ng).muE=Db fun _=>0 from rfl,tg hp0.1 h1];exact fj hu hv⟩) fun T _ h=>h W w nd hp0 hp1 nx lp ln m K h1 h2 h3 h4 hK
def X4 (hk:3<k:=by decide):SE (under bc k u):=bF
def SM (hk:1<k:=by decide):Nl (under bc k u):=bF
def X5 (hk:1<k:=by decide):SF (under bc k u):=bF
def X6 (hk:3<k:=by decide):Nn (under bc k u):=fun W w nd hp0 hp1 nx lp ln m K h1 h2 h3 h4 hK=>uu (.inl hk) fun T _ h=>h W w nd hp0 hp1 nx lp ln m K h1 h2 h3 h4 hK
def X7 (hk:1<k:=by decide):Np (under bc k u):=fun W w nd b hp0 nx lp ln m K h1 h2 h3 h4 hK=>uu (.inl hk) fun T _ h=>h W w nd b hp0 nx lp ln m K h1 h2 h3 h4 hK
end
def xe:List (Nat×Nat):=[(4,15),(10,85),(11,251),(13,86),(14,87),(15,88),(20,353),(21,489),(22,72),(23,497),(24,452),(26,73),(28,252),(29,253),(30,254),(31,208),(32,255),(33,256),(34,76),(35,242),(36,257),(37,223),(38,258),(39,259),(40,260),(41,261),(42,262),(43,263),(46,74),(47,511),(56,70),(57,215),(58,686),(59,216),(60,75),(62,71),(63,219),(64,239),(65,244),(67,124),(68,499),(69,487),(70,222),(72,295),(73,470),(74,500),(75,77),(76,501),(77,249),(78,78),(80,220),(81,699),(82,700),(83,701),(86,469),(91,482),(94,209),(95,210),(96,211),(97,212),(98,213),(99,214),(100,450),(101,451),(102,453),(103,454),(104,221),(105,217),(106,218),(107,316),(108,461),(109,462),(110,331),(114,465),(115,466),(116,467),(117,468),(119,530),(120,531),(121,532),(122,533),(123,534),(124,688),(125,224),(126,424),(127,225),(128,226),(129,463),(130,676),(131,677),(132,678),(133,440),(134,441),(135,442),(136,443),(137,349),(138,444),(139,445),(140,446),(141,447),(142,448),(143,449),(144,664),(145,665),(146,464),(147,455),(148,456),(149,457),(150,458),(151,459),(152,460),(153,554),(159,245),(160,246),(161,675),(162,658),(164,714),(165,659),(166,516),(167,471),(168,472),(169,473),(170,474),(171,475),(172,476),(173,630),(174,631),(175,477),(176,734),(177,495),(178,496),(179,660),(180,661),(181,662),(182,663),(183,336),(184,666),(185,667),(186,668),(187,669),(188,670),(189,357),(190,572),(191,671),(192,672),(193,673),(194,674),(202,494),(203,704),(204,568),(205,783),(206,882),(207,682),(208,683),(209,684),(210,685),(211,808),(212,809),(213,810),(214,811),(216,812),(217,813),(218,814),(219,744),(220,745),(221,815),(222,816),(226,741),(227,742),(228,927),(229,819),(237,827),(238,828),(239,946),(240,947),(241,948),(242,949),(243,950),(244,951),(246,952),(247,953),(248,954),(249,896),(250,897),(251,898),(252,899),(253,900),(254,901),(255,955),(256,956),(257,957),(261,1031),(266,1032),(267,1033),(268,1034),(269,1035),(270,1036),(271,1006),(272,1007),(273,1008),(281,1097),(282,1098),(283,1099),(284,1100),(285,1079),(290,1126),(291,1141)]
def N5:List Nat:=[219,1091,1354,1894,1896,1616,1320,1618,1898,2062,2066,2282,2068,2252,2194,2064,1904,900,931,937,935,445,978,1328,904,942,944,946,952,448,522,1008,1000000060]
def bn:(Go.Proofs.Tryz.prog).follows .mixedOrders=true:=ou
abbrev Ow [dI](f n:Nat):Prop:=VT Go.Proofs.Tryz.prog xe N5 bc f n
abbrev Cp (f:Nat)(a:aE):Prop:=Li Go.Proofs.Tryz.prog xe N5 f a
def ck {f:Nat}{a:aE}(h:((Go.Proofs.Tryz.prog).funcs[f]?).map (fun f=>(compile Go.Proofs.Tryz.prog xe N5 f,f.name== "runtime.NumGoroutine"))=some (some a,false):=by kernel_rfl):Cp f a:=h
end Go.Abs
section
namespace Go.Proofs
open Go.Shelf
def Tryz.Q9:Go.Shelf.Ren:=⟨fun|166=>21|167=>144|169=>24|240=>55|276=>93|n=>n,fun|70=>58|9=>9|0=>0|72=>60|37=>39|3=>3|5=>5|4=>4|20=>20|75=>62|80=>67|164=>146|127=>104|n=>n,fun|n=>n⟩
def Tryz.IH:Go.Proofs.Lays.n166 Tryz.prog Tryz.Q9:={
 mixed:=by kernel_rfl
 f166:=Tryz.func21.trans (congrArg some (by kernel_rfl))
 f240:=Tryz.func55.trans (congrArg some (by kernel_rfl))
 f276:=Tryz.func93.trans (congrArg some (by kernel_rfl))
 t0:=Tryz.underlying0
 a0:=Tryz.isAgg0
 z0:=Tryz.sizeOf0
 v0:=Tryz.zeroValue0
 t3:=Tryz.underlying3
 a3:=Tryz.isAgg3
 z3:=Tryz.sizeOf3
 v3:=Tryz.zeroValue3
 t4:=Tryz.underlying4
 a4:=Tryz.isAgg4
 z4:=Tryz.sizeOf4
 v4:=Tryz.zeroValue4
 t9:=Tryz.underlying9
 a9:=Tryz.isAgg9
 z9:=Tryz.sizeOf9
 v9:=Tryz.zeroValue9
 t20:=Tryz.underlying20
 a20:=Tryz.isAgg20
 z20:=Tryz.sizeOf20
 v20:=Tryz.zeroValue20
 t37:=Tryz.underlying39
 a37:=Tryz.isAgg39
 z37:=Tryz.sizeOf39
 v37:=Tryz.zeroValue39
 t70:=Tryz.underlying58
 a70:=Tryz.isAgg58
 z70:=Tryz.sizeOf58
 v70:=Tryz.zeroValue58
 t72:=Tryz.underlying60
 a72:=Tryz.isAgg60
 z72:=Tryz.sizeOf60
 v72:=Tryz.zeroValue60
 t75:=Tryz.underlying62
 a75:=Tryz.isAgg62
 z75:=Tryz.sizeOf62
 v75:=Tryz.zeroValue62
 t164:=Tryz.underlying146
 a164:=Tryz.isAgg146
 z164:=Tryz.sizeOf146
 v164:=Tryz.zeroValue146}
def Tryz.II:Go.Proofs.Lays.n167 Tryz.prog Tryz.Q9:={
 mixed:=by kernel_rfl
 f167:=Tryz.func144.trans (congrArg some (by kernel_rfl))
 f240:=Tryz.func55.trans (congrArg some (by kernel_rfl))
 f276:=Tryz.func93.trans (congrArg some (by kernel_rfl))
 t0:=Tryz.underlying0
 a0:=Tryz.isAgg0
 z0:=Tryz.sizeOf0
 v0:=Tryz.zeroValue0
 t4:=Tryz.underlying4
 a4:=Tryz.isAgg4
 z4:=Tryz.sizeOf4
 v4:=Tryz.zeroValue4
 t5:=Tryz.underlying5
 a5:=Tryz.isAgg5
 z5:=Tryz.sizeOf5
 v5:=Tryz.zeroValue5
 t9:=Tryz.underlying9
 a9:=Tryz.isAgg9
 z9:=Tryz.sizeOf9
 v9:=Tryz.zeroValue9
 t20:=Tryz.underlying20
 a20:=Tryz.isAgg20
 z20:=Tryz.sizeOf20
 v20:=Tryz.zeroValue20
 t37:=Tryz.underlying39
 a37:=Tryz.isAgg39
 z37:=Tryz.sizeOf39
 v37:=Tryz.zeroValue39
 t70:=Tryz.underlying58
 a70:=Tryz.isAgg58
 z70:=Tryz.sizeOf58
 v70:=Tryz.zeroValue58
 t72:=Tryz.underlying60
 a72:=Tryz.isAgg60
 z72:=Tryz.sizeOf60
 v72:=Tryz.zeroValue60
 t75:=Tryz.underlying62
 a75:=Tryz.isAgg62
 z75:=Tryz.sizeOf62
 v75:=Tryz.zeroValue62
 t164:=Tryz.underlying146
 a164:=Tryz.isAgg146
 z164:=Tryz.sizeOf146
 v164:=Tryz.zeroValue146}
def Tryz.IJ:Go.Proofs.Lays.n169 Tryz.prog Tryz.Q9:={
 mixed:=by kernel_rfl
 f169:=Tryz.func24.trans (congrArg some (by kernel_rfl))
 t0:=Tryz.underlying0
 a0:=Tryz.isAgg0
 z0:=Tryz.sizeOf0
 v0:=Tryz.zeroValue0
 t3:=Tryz.underlying3
 a3:=Tryz.isAgg3
 z3:=Tryz.sizeOf3
 v3:=Tryz.zeroValue3
 t9:=Tryz.underlying9
 a9:=Tryz.isAgg9
 z9:=Tryz.sizeOf9
 v9:=Tryz.zeroValue9
 t37:=Tryz.underlying39
 a37:=Tryz.isAgg39
 z37:=Tryz.sizeOf39
 v37:=Tryz.zeroValue39
 t70:=Tryz.underlying58
 a70:=Tryz.isAgg58
 z70:=Tryz.sizeOf58
 v70:=Tryz.zeroValue58
 t72:=Tryz.underlying60
 a72:=Tryz.isAgg60
 z72:=Tryz.sizeOf60
 v72:=Tryz.zeroValue60
 t127:=Tryz.underlying104
 a127:=Tryz.isAgg104
 z127:=Tryz.sizeOf104
 v127:=Tryz.zeroValue104}
def Tryz.UE:Builder.Extra Tryz.prog Tryz.Q9:={
 sizeBuilder:=by kernel_rfl
 liesBuilder:=by kernel_rfl
 t5:=Tryz.underlying5
 a5:=Tryz.isAgg5
 z5:=Tryz.sizeOf5
 v5:=Tryz.zeroValue5
 infoByte:=by kernel_rfl
 cellsByte:=by kernel_rfl
 sizeByte:=by kernel_rfl
 neB5:=by decide}
end Go.Proofs
end
section
namespace Go.Proofs
open Go.Shelf
def Tryz.lays156_ren:Go.Shelf.Ren:=⟨fun|156=>35|165=>71|166=>21|169=>24|240=>55|241=>118|276=>93|277=>163|n=>n,fun|31=>68|9=>9|3=>3|4=>4|0=>0|20=>20|72=>60|76=>63|70=>58|37=>39|75=>62|127=>104|164=>146|5=>5|80=>67|n=>n,fun|n=>n⟩
def Tryz.lays156:Go.Proofs.Lays.n156 Tryz.prog Tryz.lays156_ren:={
 mixed:=by kernel_rfl
 f156:=cK Tryz.func35
 f165:=cK Tryz.func71
 f166:=cK Tryz.func21
 f169:=cK Tryz.func24
 f240:=cK Tryz.func55
 f241:=cK Tryz.func118
 f276:=cK Tryz.func93
 f277:=cK Tryz.func163
 t0:=Tryz.underlying0
 a0:=Tryz.isAgg0
 z0:=Tryz.sizeOf0
 v0:=Tryz.zeroValue0
 t3:=Tryz.underlying3
 a3:=Tryz.isAgg3
 z3:=Tryz.sizeOf3
 v3:=Tryz.zeroValue3
 t4:=Tryz.underlying4
 a4:=Tryz.isAgg4
 z4:=Tryz.sizeOf4
 v4:=Tryz.zeroValue4
 t9:=Tryz.underlying9
 a9:=Tryz.isAgg9
 z9:=Tryz.sizeOf9
 v9:=Tryz.zeroValue9
 t20:=Tryz.underlying20
 a20:=Tryz.isAgg20
 z20:=Tryz.sizeOf20
 v20:=Tryz.zeroValue20
 t31:=Tryz.underlying68
 a31:=Tryz.isAgg68
 z31:=Tryz.sizeOf68
 v31:=Tryz.zeroValue68
 t37:=Tryz.underlying39
 a37:=Tryz.isAgg39
 z37:=Tryz.sizeOf39
 v37:=Tryz.zeroValue39
 t70:=Tryz.underlying58
 a70:=Tryz.isAgg58
 z70:=Tryz.sizeOf58
 v70:=Tryz.zeroValue58
 t72:=Tryz.underlying60
 a72:=Tryz.isAgg60
 z72:=Tryz.sizeOf60
 v72:=Tryz.zeroValue60
 t75:=Tryz.underlying62
 a75:=Tryz.isAgg62
 z75:=Tryz.sizeOf62
 v75:=Tryz.zeroValue62
 t76:=Tryz.underlying63
 a76:=Tryz.isAgg63
 z76:=Tryz.sizeOf63
 v76:=Tryz.zeroValue63
 t127:=Tryz.underlying104
 a127:=Tryz.isAgg104
 z127:=Tryz.sizeOf104
 v127:=Tryz.zeroValue104
 t164:=Tryz.underlying146
 a164:=Tryz.isAgg146
 z164:=Tryz.sizeOf146
 v164:=Tryz.zeroValue146}
def Tryz.Builder_Extra_156:Builder.Extra Tryz.prog Tryz.lays156_ren:={
 sizeBuilder:=by kernel_rfl
 liesBuilder:=by kernel_rfl
 t5:=Tryz.underlying5
 a5:=Tryz.isAgg5
 z5:=Tryz.sizeOf5
 v5:=Tryz.zeroValue5
 infoByte:=by kernel_rfl
 cellsByte:=by kernel_rfl
 sizeByte:=by kernel_rfl
 neB5:=by decide}
open Go.RowKit in
theorem Tryz.strings_Join_none (a:Option Addr)(c:Nat)(sep:ByteArray)(w:World):
  Calls Tryz.prog 35 #[.slice a 0 c,.string sep] w fun e w'=>e=.returned (.string ⟨#[]⟩)∧w'=w:=Any.strings_Join_none Tryz.lays156 Tryz.Builder_Extra_156 a c sep w
open Go.RowKit in
theorem Tryz.strings_Join (bk o c:Nat)(xs:List ByteArray)(sep:ByteArray)(w:World)(hcells:∀(j:Nat) x,xs[j]? =some x→w.cell? ⟨bk,o+j,none⟩=some (.string x))(hbk:bk<w.heap.size)(hN:xs.length≤140737488355328)(hcap:xs.length≤c)(hlen:(Lib.join (xs.map (·.data.toList)) sep.data.toList).length≤140737488355328):
  Calls Tryz.prog 35 #[.slice (some ⟨bk,o,none⟩) xs.length c,.string sep] w fun e w'=>e=.returned (.string ⟨(Lib.join (xs.map (·.data.toList)) sep.data.toList).toArray⟩)∧Below w.heap.size w w':=Any.strings_Join Tryz.lays156 Tryz.Builder_Extra_156 bk o c xs sep w hcells hbk hN hcap hlen
def Tryz.lays160_ren:Go.Shelf.Ren:=⟨fun|160=>208|232=>231|231=>230|227=>232|234=>234|233=>233|236=>236|235=>235|228=>258|271=>260|151=>259|197=>196|120=>275|152=>274|260=>223|137=>286|119=>287|224=>200|225=>199|217=>198|266=>224|n=>n,fun|9=>9|4=>4|3=>3|5=>5|117=>247|116=>246|0=>0|124=>250|21=>21|105=>221|46=>105|119=>260|139=>263|138=>262|n=>n,fun|3=>1|4=>2|n=>n⟩
def Tryz.lays160:Go.Proofs.Lays.n160 Tryz.prog Tryz.lays160_ren:={
 mixed:=by kernel_rfl
 f119:=cK Tryz.func287
 f120:=cK Tryz.func275
 f137:=cK Tryz.func286
 f151:=cK Tryz.func259
 f152:=cK Tryz.func274
 f160:=cK Tryz.func208
 f197:=cK Tryz.func196
 f217:=cK Tryz.func198
 f224:=cK Tryz.func200
 f225:=cK Tryz.func199
 f227:=cK Tryz.func232
 f228:=cK Tryz.func258
 f231:=cK Tryz.func230
 f232:=cK Tryz.func231
 f233:=cK Tryz.func233
 f234:=cK Tryz.func234
 f235:=cK Tryz.func235
 f236:=cK Tryz.func236
 f260:=cK Tryz.func223
 f266:=cK Tryz.func224
 f271:=cK Tryz.func260
 t0:=Tryz.underlying0
 a0:=Tryz.isAgg0
 z0:=Tryz.sizeOf0
 v0:=Tryz.zeroValue0
 t3:=Tryz.underlying3
 a3:=Tryz.isAgg3
 z3:=Tryz.sizeOf3
 v3:=Tryz.zeroValue3
 t4:=Tryz.underlying4
 a4:=Tryz.isAgg4
 z4:=Tryz.sizeOf4
 v4:=Tryz.zeroValue4
 t5:=Tryz.underlying5
 a5:=Tryz.isAgg5
 z5:=Tryz.sizeOf5
 v5:=Tryz.zeroValue5
 t9:=Tryz.underlying9
 a9:=Tryz.isAgg9
 z9:=Tryz.sizeOf9
 v9:=Tryz.zeroValue9
 t21:=Tryz.underlying21
 a21:=Tryz.isAgg21
 z21:=Tryz.sizeOf21
 v21:=Tryz.zeroValue21
 t46:=Tryz.underlying105
 a46:=Tryz.isAgg105
 z46:=Tryz.sizeOf105
 v46:=Tryz.zeroValue105
 t105:=Tryz.underlying221
 a105:=Tryz.isAgg221
 z105:=Tryz.sizeOf221
 v105:=Tryz.zeroValue221
 t116:=Tryz.underlying246
 a116:=Tryz.isAgg246
 z116:=Tryz.sizeOf246
 t117:=Tryz.underlying247
 a117:=Tryz.isAgg247
 z117:=Tryz.sizeOf247
 v117:=Tryz.zeroValue247
 t119:=Tryz.underlying260
 a119:=Tryz.isAgg260
 z119:=Tryz.sizeOf260
 t124:=Tryz.underlying250
 a124:=Tryz.isAgg250
 z124:=Tryz.sizeOf250
 v124:=Tryz.zeroValue250
 t138:=Tryz.underlying262
 a138:=Tryz.isAgg262
 z138:=Tryz.sizeOf262
 v138:=Tryz.zeroValue262
 t139:=Tryz.underlying263
 a139:=Tryz.isAgg263
 z139:=Tryz.sizeOf263
 v139:=Tryz.zeroValue263
 g3:=by kernel_rfl
 g4:=by kernel_rfl}
open Go.RowKit in
theorem Tryz.strings_Trim_one (s:ByteArray)(c:UInt8)(hc:c.toNat<128)(w:World)(hs:s.size≤9223372036854775807):
  Calls Tryz.prog 208 #[.string s,.string ⟨#[c]⟩] w fun e w'=>e=.returned (.string ⟨(Lib.trimB s.data.toList c).toArray⟩)∧(w'=w∨w'=w.drew):=Any.strings_Trim_one Tryz.lays160 s c hc w hs
def Tryz.lays103_ren:Go.Shelf.Ren:=⟨fun|103=>30|210=>66|206=>112|n=>n,fun|9=>9|4=>4|24=>70|3=>3|n=>n,fun|n=>n⟩
def Tryz.lays103:Go.Proofs.Lays.n103 Tryz.prog Tryz.lays103_ren:={
 mixed:=by kernel_rfl
 f103:=cK Tryz.func30
 f206:=cK Tryz.func112
 f210:=cK Tryz.func66
 t3:=Tryz.underlying3
 a3:=Tryz.isAgg3
 z3:=Tryz.sizeOf3
 v3:=Tryz.zeroValue3
 t4:=Tryz.underlying4
 a4:=Tryz.isAgg4
 z4:=Tryz.sizeOf4
 v4:=Tryz.zeroValue4
 t9:=Tryz.underlying9
 a9:=Tryz.isAgg9
 z9:=Tryz.sizeOf9
 v9:=Tryz.zeroValue9
 t24:=Tryz.underlying70
 a24:=Tryz.isAgg70
 z24:=Tryz.sizeOf70
 v24:=Tryz.zeroValue70}
open Go.RowKit in
theorem Tryz.strings_CutPrefix (s p:ByteArray)(w:World):
  Calls Tryz.prog 30 #[.string s,.string p] w fun e w'=>e=.returned (.tuple #[.string ⟨(Lib.trimPrefix s.data.toList p.data.toList).toArray⟩,.bool (Lib.hasPrefix s.data.toList p.data.toList)])∧w'=w:=Any.strings_CutPrefix Tryz.lays103 s p w
def Tryz.lays104_ren:Go.Shelf.Ren:=⟨fun|104=>65|211=>111|207=>157|n=>n,fun|9=>9|4=>4|24=>70|3=>3|n=>n,fun|n=>n⟩
def Tryz.lays104:Go.Proofs.Lays.n104 Tryz.prog Tryz.lays104_ren:={
 mixed:=by kernel_rfl
 f104:=cK Tryz.func65
 f207:=cK Tryz.func157
 f211:=cK Tryz.func111
 t3:=Tryz.underlying3
 a3:=Tryz.isAgg3
 z3:=Tryz.sizeOf3
 v3:=Tryz.zeroValue3
 t4:=Tryz.underlying4
 a4:=Tryz.isAgg4
 z4:=Tryz.sizeOf4
 v4:=Tryz.zeroValue4
 t9:=Tryz.underlying9
 a9:=Tryz.isAgg9
 z9:=Tryz.sizeOf9
 v9:=Tryz.zeroValue9
 t24:=Tryz.underlying70
 a24:=Tryz.isAgg70
 z24:=Tryz.sizeOf70
 v24:=Tryz.zeroValue70}
open Go.RowKit in
theorem Tryz.strings_CutSuffix (s p:ByteArray)(w:World)(hs:s.size≤9223372036854775807):
  Calls Tryz.prog 65 #[.string s,.string p] w fun e w'=>e=.returned (.tuple #[.string ⟨(Lib.trimSuffix s.data.toList p.data.toList).toArray⟩,.bool (Lib.hasSuffix s.data.toList p.data.toList)])∧w'=w:=Any.strings_CutSuffix Tryz.lays104 s p w hs
def Tryz.laysM171_ren:Go.Shelf.Ren:=⟨fun|171=>183|243=>215|246=>245|283=>262|284=>263|285=>264|286=>265|129=>277|317=>276|318=>278|319=>279|320=>280|337=>288|338=>289|n=>n,fun|3=>3|9=>9|2=>2|4=>4|171=>265|0=>0|53=>52|37=>39|5=>5|173=>268|212=>275|51=>237|20=>20|213=>276|46=>105|232=>282|233=>283|n=>n,fun|17=>3|18=>4|19=>5|n=>n⟩
def Tryz.laysM171:Go.Proofs.LaysM.n171 Tryz.prog Tryz.laysM171_ren:={
 mixed:=by kernel_rfl
 f129:=cK Tryz.func277
 f171:=cK Tryz.func183
 f243:=cK Tryz.func215
 f246:=cK Tryz.func245
 f283:=cK Tryz.func262
 f284:=cK Tryz.func263
 f285:=cK Tryz.func264
 f286:=cK Tryz.func265
 f317:=cK Tryz.func276
 f318:=cK Tryz.func278
 f319:=cK Tryz.func279
 f320:=cK Tryz.func280
 f337:=cK Tryz.func288
 f338:=cK Tryz.func289
 t0:=Tryz.underlying0
 a0:=Tryz.isAgg0
 z0:=Tryz.sizeOf0
 v0:=Tryz.zeroValue0
 t2:=Tryz.underlying2
 a2:=Tryz.isAgg2
 z2:=Tryz.sizeOf2
 v2:=Tryz.zeroValue2
 t3:=Tryz.underlying3
 a3:=Tryz.isAgg3
 z3:=Tryz.sizeOf3
 v3:=Tryz.zeroValue3
 t4:=Tryz.underlying4
 a4:=Tryz.isAgg4
 z4:=Tryz.sizeOf4
 v4:=Tryz.zeroValue4
 t5:=Tryz.underlying5
 a5:=Tryz.isAgg5
 z5:=Tryz.sizeOf5
 v5:=Tryz.zeroValue5
 t9:=Tryz.underlying9
 a9:=Tryz.isAgg9
 z9:=Tryz.sizeOf9
 v9:=Tryz.zeroValue9
 t20:=Tryz.underlying20
 a20:=Tryz.isAgg20
 z20:=Tryz.sizeOf20
 v20:=Tryz.zeroValue20
 t37:=Tryz.underlying39
 a37:=Tryz.isAgg39
 z37:=Tryz.sizeOf39
 v37:=Tryz.zeroValue39
 t46:=Tryz.underlying105
 a46:=Tryz.isAgg105
 z46:=Tryz.sizeOf105
 v46:=Tryz.zeroValue105
 t51:=Tryz.underlying237
 a51:=Tryz.isAgg237
 z51:=Tryz.sizeOf237
 v51:=Tryz.zeroValue237
 t53:=Tryz.underlying52
 a53:=Tryz.isAgg52
 z53:=Tryz.sizeOf52
 v53:=Tryz.zeroValue52
 t171:=Tryz.underlying265
 a171:=Tryz.isAgg265
 z171:=Tryz.sizeOf265
 v171:=Tryz.zeroValue265
 t173:=Tryz.underlying268
 a173:=Tryz.isAgg268
 z173:=Tryz.sizeOf268
 v173:=Tryz.zeroValue268
 t212:=Tryz.underlying275
 a212:=Tryz.isAgg275
 z212:=Tryz.sizeOf275
 v212:=Tryz.zeroValue275
 t213:=Tryz.underlying276
 a213:=Tryz.isAgg276
 z213:=Tryz.sizeOf276
 t232:=Tryz.underlying282
 a232:=Tryz.isAgg282
 z232:=Tryz.sizeOf282
 v232:=Tryz.zeroValue282
 t233:=Tryz.underlying283
 a233:=Tryz.isAgg283
 z233:=Tryz.sizeOf283
 v233:=Tryz.zeroValue283
 g17:=by kernel_rfl
 g18:=by kernel_rfl
 g19:=by kernel_rfl
 i0:=by kernel_rfl
 i2:=by kernel_rfl
 i3:=by kernel_rfl
 i4:=by kernel_rfl
 i5:=by kernel_rfl
 i9:=by kernel_rfl
 i20:=by kernel_rfl
 i37:=by kernel_rfl
 i46:=by kernel_rfl
 i51:=by kernel_rfl
 i53:=by kernel_rfl
 i171:=by kernel_rfl
 i173:=by kernel_rfl
 i212:=by kernel_rfl
 i232:=by kernel_rfl
 i233:=by kernel_rfl
 m17:=by kernel_rfl
 m18:=by kernel_rfl
 m19:=by kernel_rfl}
open Go.RowKit Go.Sort Go.Lib in
theorem Tryz.strconv_Itoa (n:Int)(h0:-9223372036854775808≤n)(h1:n≤9223372036854775807)(w:World)(htab:Lib.TabIs Tryz.prog w "internal/strconv.uint64pow10" .u64 Lib.pow10Tab):
  Calls Tryz.prog 183 #[.int .i64 n] w fun e w'=>e=.returned (.string ⟨(Lib.itoa n).toArray⟩)∧∃k os,w'=grow (w.drewN k) os:=Any.strconv_Itoa Tryz.laysM171 n h0 h1 w htab
def Tryz.lays145_ren:Go.Shelf.Ren:=⟨fun|145=>69|220=>113|219=>158|217=>198|225=>199|224=>200|267=>201|266=>224|314=>225|n=>n,fun|9=>9|4=>4|59=>109|3=>3|5=>5|46=>105|146=>238|51=>237|n=>n,fun|1=>0|n=>n⟩
def Tryz.lays145:Go.Proofs.Lays.n145 Tryz.prog Tryz.lays145_ren:={
 mixed:=by kernel_rfl
 f145:=cK Tryz.func69
 f217:=cK Tryz.func198
 f219:=cK Tryz.func158
 f220:=cK Tryz.func113
 f224:=cK Tryz.func200
 f225:=cK Tryz.func199
 f266:=cK Tryz.func224
 f267:=cK Tryz.func201
 f314:=cK Tryz.func225
 t3:=Tryz.underlying3
 a3:=Tryz.isAgg3
 z3:=Tryz.sizeOf3
 v3:=Tryz.zeroValue3
 t4:=Tryz.underlying4
 a4:=Tryz.isAgg4
 z4:=Tryz.sizeOf4
 v4:=Tryz.zeroValue4
 t5:=Tryz.underlying5
 a5:=Tryz.isAgg5
 z5:=Tryz.sizeOf5
 v5:=Tryz.zeroValue5
 t9:=Tryz.underlying9
 a9:=Tryz.isAgg9
 z9:=Tryz.sizeOf9
 v9:=Tryz.zeroValue9
 t46:=Tryz.underlying105
 a46:=Tryz.isAgg105
 z46:=Tryz.sizeOf105
 v46:=Tryz.zeroValue105
 t51:=Tryz.underlying237
 a51:=Tryz.isAgg237
 z51:=Tryz.sizeOf237
 v51:=Tryz.zeroValue237
 t59:=Tryz.underlying109
 a59:=Tryz.isAgg109
 z59:=Tryz.sizeOf109
 v59:=Tryz.zeroValue109
 t146:=Tryz.underlying238
 a146:=Tryz.isAgg238
 z146:=Tryz.sizeOf238
 v146:=Tryz.zeroValue238
 g1:=by kernel_rfl}
open Go.RowKit Go.Lib in
theorem Tryz.strings_Cut (s sep:ByteArray)(m:Int)(w:World)(hs:s.size<4294967281)(hm:w.cell? ⟨0,0,none⟩=some (.int .i64 m)):
  Calls Tryz.prog 69 #[.string s,.string sep] w fun e w'=>e=.returned (.tuple #[.string ⟨(Lib.cut s.data.toList sep.data.toList).1.toArray⟩,.string ⟨(Lib.cut s.data.toList sep.data.toList).2.1.toArray⟩,.bool (Lib.cut s.data.toList sep.data.toList).2.2])∧∃n,w'=w.drewN n:=Any.strings_Cut Tryz.lays145 s sep m w hs hm
def Tryz.lays221_ren:Go.Shelf.Ren:=⟨fun|221=>110|268=>154|138=>155|143=>156|195=>195|197=>196|218=>197|219=>158|260=>223|217=>198|225=>199|224=>200|267=>201|266=>224|314=>225|n=>n,fun|9=>9|3=>3|31=>68|4=>4|0=>0|105=>221|21=>21|5=>5|46=>105|119=>260|139=>263|138=>262|146=>238|51=>237|n=>n,fun|1=>0|3=>1|4=>2|n=>n⟩
def Tryz.lays221:Go.Proofs.Lays.n221 Tryz.prog Tryz.lays221_ren:={
 mixed:=by kernel_rfl
 f138:=cK Tryz.func155
 f143:=cK Tryz.func156
 f195:=cK Tryz.func195
 f197:=cK Tryz.func196
 f217:=cK Tryz.func198
 f218:=cK Tryz.func197
 f219:=cK Tryz.func158
 f221:=cK Tryz.func110
 f224:=cK Tryz.func200
 f225:=cK Tryz.func199
 f260:=cK Tryz.func223
 f266:=cK Tryz.func224
 f267:=cK Tryz.func201
 f268:=cK Tryz.func154
 f314:=cK Tryz.func225
 t0:=Tryz.underlying0
 a0:=Tryz.isAgg0
 z0:=Tryz.sizeOf0
 v0:=Tryz.zeroValue0
 t3:=Tryz.underlying3
 a3:=Tryz.isAgg3
 z3:=Tryz.sizeOf3
 v3:=Tryz.zeroValue3
 t4:=Tryz.underlying4
 a4:=Tryz.isAgg4
 z4:=Tryz.sizeOf4
 v4:=Tryz.zeroValue4
 t5:=Tryz.underlying5
 a5:=Tryz.isAgg5
 z5:=Tryz.sizeOf5
 v5:=Tryz.zeroValue5
 t9:=Tryz.underlying9
 a9:=Tryz.isAgg9
 z9:=Tryz.sizeOf9
 v9:=Tryz.zeroValue9
 t21:=Tryz.underlying21
 a21:=Tryz.isAgg21
 z21:=Tryz.sizeOf21
 v21:=Tryz.zeroValue21
 t31:=Tryz.underlying68
 a31:=Tryz.isAgg68
 z31:=Tryz.sizeOf68
 v31:=Tryz.zeroValue68
 t46:=Tryz.underlying105
 a46:=Tryz.isAgg105
 z46:=Tryz.sizeOf105
 v46:=Tryz.zeroValue105
 t51:=Tryz.underlying237
 a51:=Tryz.isAgg237
 z51:=Tryz.sizeOf237
 v51:=Tryz.zeroValue237
 t105:=Tryz.underlying221
 a105:=Tryz.isAgg221
 z105:=Tryz.sizeOf221
 v105:=Tryz.zeroValue221
 t119:=Tryz.underlying260
 a119:=Tryz.isAgg260
 z119:=Tryz.sizeOf260
 t138:=Tryz.underlying262
 a138:=Tryz.isAgg262
 z138:=Tryz.sizeOf262
 v138:=Tryz.zeroValue262
 t139:=Tryz.underlying263
 a139:=Tryz.isAgg263
 z139:=Tryz.sizeOf263
 v139:=Tryz.zeroValue263
 t146:=Tryz.underlying238
 a146:=Tryz.isAgg238
 z146:=Tryz.sizeOf238
 v146:=Tryz.zeroValue238
 g1:=by kernel_rfl
 g3:=by kernel_rfl
 g4:=by kernel_rfl}
def Tryz.lays146_ren:Go.Shelf.Ren:=⟨fun|146=>67|221=>110|268=>154|138=>155|143=>156|195=>195|197=>196|218=>197|219=>158|260=>223|217=>198|225=>199|224=>200|267=>201|266=>224|314=>225|n=>n,fun|9=>9|31=>68|3=>3|4=>4|0=>0|105=>221|21=>21|5=>5|46=>105|119=>260|139=>263|138=>262|146=>238|51=>237|n=>n,fun|1=>0|3=>1|4=>2|n=>n⟩
def Tryz.lays146:Go.Proofs.Lays.n146 Tryz.prog Tryz.lays146_ren:={
 mixed:=by kernel_rfl
 f138:=cK Tryz.func155
 f143:=cK Tryz.func156
 f146:=cK Tryz.func67
 f195:=cK Tryz.func195
 f197:=cK Tryz.func196
 f217:=cK Tryz.func198
 f218:=cK Tryz.func197
 f219:=cK Tryz.func158
 f221:=cK Tryz.func110
 f224:=cK Tryz.func200
 f225:=cK Tryz.func199
 f260:=cK Tryz.func223
 f266:=cK Tryz.func224
 f267:=cK Tryz.func201
 f268:=cK Tryz.func154
 f314:=cK Tryz.func225
 t0:=Tryz.underlying0
 a0:=Tryz.isAgg0
 z0:=Tryz.sizeOf0
 v0:=Tryz.zeroValue0
 t3:=Tryz.underlying3
 a3:=Tryz.isAgg3
 z3:=Tryz.sizeOf3
 v3:=Tryz.zeroValue3
 t4:=Tryz.underlying4
 a4:=Tryz.isAgg4
 z4:=Tryz.sizeOf4
 v4:=Tryz.zeroValue4
 t5:=Tryz.underlying5
 a5:=Tryz.isAgg5
 z5:=Tryz.sizeOf5
 v5:=Tryz.zeroValue5
 t9:=Tryz.underlying9
 a9:=Tryz.isAgg9
 z9:=Tryz.sizeOf9
 v9:=Tryz.zeroValue9
 t21:=Tryz.underlying21
 a21:=Tryz.isAgg21
 z21:=Tryz.sizeOf21
 v21:=Tryz.zeroValue21
 t31:=Tryz.underlying68
 a31:=Tryz.isAgg68
 z31:=Tryz.sizeOf68
 v31:=Tryz.zeroValue68
 t46:=Tryz.underlying105
 a46:=Tryz.isAgg105
 z46:=Tryz.sizeOf105
 v46:=Tryz.zeroValue105
 t51:=Tryz.underlying237
 a51:=Tryz.isAgg237
 z51:=Tryz.sizeOf237
 v51:=Tryz.zeroValue237
 t105:=Tryz.underlying221
 a105:=Tryz.isAgg221
 z105:=Tryz.sizeOf221
 v105:=Tryz.zeroValue221
 t119:=Tryz.underlying260
 a119:=Tryz.isAgg260
 z119:=Tryz.sizeOf260
 t138:=Tryz.underlying262
 a138:=Tryz.isAgg262
 z138:=Tryz.sizeOf262
 v138:=Tryz.zeroValue262
 t139:=Tryz.underlying263
 a139:=Tryz.isAgg263
 z139:=Tryz.sizeOf263
 v139:=Tryz.zeroValue263
 t146:=Tryz.underlying238
 a146:=Tryz.isAgg238
 z146:=Tryz.sizeOf238
 v146:=Tryz.zeroValue238
 g1:=by kernel_rfl
 g3:=by kernel_rfl
 g4:=by kernel_rfl}
open Go.RowKit Go.Lib in
theorem Tryz.strings_Split (s sep:ByteArray)(m:Int)(w:World)(hs:s.size<4294967281)(hm:w.cell? ⟨0,0,none⟩=some (.int .i64 m))(h1:1≤sep.size):
  Calls Tryz.prog 67 #[.string s,.string sep] w fun e w'=>
   e=.returned (.slice (some ⟨w.heap.size,0,none⟩) (Lib.countB s sep+1) (Lib.countB s sep+1))∧w'=w.alloc (.cells ((Lib.splitB sep 0 (Lib.countB s sep) s).map Value.string).toArray 9):=Any.strings_Split Tryz.lays146 (by kernel_rfl) s sep m w hs hm h1
def Tryz.lays147_ren:Go.Shelf.Ren:=⟨fun|147=>159|221=>110|268=>154|138=>155|143=>156|195=>195|197=>196|218=>197|219=>158|260=>223|217=>198|225=>199|224=>200|267=>201|266=>224|314=>225|n=>n,fun|9=>9|3=>3|31=>68|4=>4|0=>0|105=>221|21=>21|5=>5|46=>105|119=>260|139=>263|138=>262|146=>238|51=>237|n=>n,fun|1=>0|3=>1|4=>2|n=>n⟩
def Tryz.lays147:Go.Proofs.Lays.n147 Tryz.prog Tryz.lays147_ren:={
 mixed:=by kernel_rfl
 f138:=cK Tryz.func155
 f143:=cK Tryz.func156
 f147:=cK Tryz.func159
 f195:=cK Tryz.func195
 f197:=cK Tryz.func196
 f217:=cK Tryz.func198
 f218:=cK Tryz.func197
 f219:=cK Tryz.func158
 f221:=cK Tryz.func110
 f224:=cK Tryz.func200
 f225:=cK Tryz.func199
 f260:=cK Tryz.func223
 f266:=cK Tryz.func224
 f267:=cK Tryz.func201
 f268:=cK Tryz.func154
 f314:=cK Tryz.func225
 t0:=Tryz.underlying0
 a0:=Tryz.isAgg0
 z0:=Tryz.sizeOf0
 v0:=Tryz.zeroValue0
 t3:=Tryz.underlying3
 a3:=Tryz.isAgg3
 z3:=Tryz.sizeOf3
 v3:=Tryz.zeroValue3
 t4:=Tryz.underlying4
 a4:=Tryz.isAgg4
 z4:=Tryz.sizeOf4
 v4:=Tryz.zeroValue4
 t5:=Tryz.underlying5
 a5:=Tryz.isAgg5
 z5:=Tryz.sizeOf5
 v5:=Tryz.zeroValue5
 t9:=Tryz.underlying9
 a9:=Tryz.isAgg9
 z9:=Tryz.sizeOf9
 v9:=Tryz.zeroValue9
 t21:=Tryz.underlying21
 a21:=Tryz.isAgg21
 z21:=Tryz.sizeOf21
 v21:=Tryz.zeroValue21
 t31:=Tryz.underlying68
 a31:=Tryz.isAgg68
 z31:=Tryz.sizeOf68
 v31:=Tryz.zeroValue68
 t46:=Tryz.underlying105
 a46:=Tryz.isAgg105
 z46:=Tryz.sizeOf105
 v46:=Tryz.zeroValue105
 t51:=Tryz.underlying237
 a51:=Tryz.isAgg237
 z51:=Tryz.sizeOf237
 v51:=Tryz.zeroValue237
 t105:=Tryz.underlying221
 a105:=Tryz.isAgg221
 z105:=Tryz.sizeOf221
 v105:=Tryz.zeroValue221
 t119:=Tryz.underlying260
 a119:=Tryz.isAgg260
 z119:=Tryz.sizeOf260
 t138:=Tryz.underlying262
 a138:=Tryz.isAgg262
 z138:=Tryz.sizeOf262
 v138:=Tryz.zeroValue262
 t139:=Tryz.underlying263
 a139:=Tryz.isAgg263
 z139:=Tryz.sizeOf263
 v139:=Tryz.zeroValue263
 t146:=Tryz.underlying238
 a146:=Tryz.isAgg238
 z146:=Tryz.sizeOf238
 v146:=Tryz.zeroValue238
 g1:=by kernel_rfl
 g3:=by kernel_rfl
 g4:=by kernel_rfl}
open Go.RowKit Go.Lib in
theorem Tryz.strings_SplitN (s sep:ByteArray)(n:Nat)(m:Int)(w:World)(hs:s.size<4294967281)(hm:w.cell? ⟨0,0,none⟩=some (.int .i64 m))(h1:1≤sep.size)(hn:1≤n)(hn63:n≤9223372036854775807):
  Calls Tryz.prog 159 #[.string s,.string sep,.int .i64 n] w fun e w'=>
   e=.returned (.slice (some ⟨w.heap.size,0,none⟩) (Lib.splitB sep 0 (min n (s.size+1) -1) s).length (min n (s.size+1)))∧w'=w.alloc (.cells (Lib.cellsOf (Lib.splitB sep 0 (min n (s.size+1) -1) s) (min n (s.size+1))) 9):=Any.strings_SplitN Tryz.lays147 (by kernel_rfl) s sep n m w hs hm h1 hn hn63
def Tryz.laysNm216_ren:Go.Shelf.Ren:=⟨fun|16=>86|n=>n,fun|24=>68|9=>9|4=>4|n=>n,fun|n=>n⟩
def Tryz.laysNm216:Go.Proofs.Lays2.n16 Tryz.prog Tryz.laysNm216_ren:={
 mixed:=by kernel_rfl
 f16:=cK Tryz.func86
 t4:=Tryz.underlying4
 a4:=Tryz.isAgg4
 z4:=Tryz.sizeOf4
 v4:=Tryz.zeroValue4
 t9:=Tryz.underlying9
 a9:=Tryz.isAgg9
 z9:=Tryz.sizeOf9
 v9:=Tryz.zeroValue9
 t24:=Tryz.underlying68
 a24:=Tryz.isAgg68
 z24:=Tryz.sizeOf68
 v24:=Tryz.zeroValue68
 i9:=by kernel_rfl}
open Go.RowKit Go.Lib in
theorem Tryz.slices_Clone_string (b off n c:Nat)(zs:List ByteArray)(w:World)(hz:n≤zs.length)(hbig:n*16≤140737488355328)(hc:∀j,j<zs.length→w.cell? ⟨b,off+j,none⟩=some (.string (zs.getD j ByteArray.empty))):
  Calls Tryz.prog 86 #[.slice (some ⟨b,off,none⟩) n c] w fun e w'=>∃v',e=.returned v'∧w'.ownsRow w.heap.size 9 1 v' n ((zs.take n).map (Value.string))∧v'≠.slice none 0 0∧Below w.heap.size w w':=Any.slices_Clone_string Tryz.laysNm216 b off n c zs w hz hbig hc
open Go.RowKit Go.Lib in
theorem Tryz.slices_Clone_string_nil (n c:Nat)(w:World):
  Calls Tryz.prog 86 #[.slice none n c] w fun e w'=>e=.returned (.slice none 0 0)∧w'=w:=Any.slices_Clone_string_nil Tryz.laysNm216 n c w
open Go.RowKit Go.Lib in
theorem Tryz.slices_Clone_string_zero (a:Addr)(c:Nat)(w:World):
  Calls Tryz.prog 86 #[.slice (some a) 0 c] w fun e w'=>∃v',e=.returned v'∧w'.ownsRow w.heap.size 9 1 v' 0 []∧v'≠.slice none 0 0∧Below w.heap.size w w':=Any.slices_Clone_string_zero Tryz.laysNm216 a c w
end Go.Proofs
end
namespace Go.Abs
variable {Y:Ctx}(hm:(Y.at 0).cj)
def Ml {s:au}(h:s.findIdx? (fun c=>c==10)=none):jB s=[s]:=by
 have hs:ai s 10=[s]:=by have:=pH 10 s [] h;simpa[ai]using this
 unfold jB nW te;rw[hs];rfl
def Pf {s:au}{j:Nat}(h:s.findIdx? (fun c=>c==10)=some j):jB s=s.take (j+1)::jB (s.drop (j+1)):=by
 have hs:ai s 10=s.take j::ai (s.drop (j+1)) 10:=by have:=om 10 s [] j h;simpa[ai]using this
 obtain⟨h1,h2,_⟩:=List.findIdx?_eq_some_iff_getElem.1 h;have ht:s.take (j+1)=s.take j++[10]:=by
  rw[List.take_add_one,List.getElem?_eq_getElem h1]
  grind
 obtain⟨A,b,hb⟩:∃A b,ai (s.drop (j+1)) 10=A++[b]:=⟨_,_,(List.dropLast_concat_getLast (nJ _ _)).symm⟩
 grind [jB]
def NH:∀(k:Nat) (s:ByteArray),Lib.countB s ⟨⟨[10]⟩⟩=k->(Lib.splitB ⟨⟨[10]⟩⟩ 1 k s).map (fun t=>t.data.toList)=jB s.data.toList:=by
 intro k;induction k with
 |zero=>
  intro s h;rw[Lib.splitB_zero];have hi:Lib.indexB s ⟨⟨[10]⟩⟩=S6 (s.data.toList.findIdx? (fun c=>c==10)):=sZ _ 10;cases hq:s.data.toList.findIdx? (fun c=>c==10)with
  |none=>rw[Ml hq];rfl
  |some j=>
   rw[hq]at hi;have:=Lib.countB_hit s ⟨⟨[10]⟩⟩ j (aQ 1) hi;omega
 |succ k ih=>
  intro s h;have hi:Lib.indexB s ⟨⟨[10]⟩⟩=S6 (s.data.toList.findIdx? (fun c=>c==10)):=sZ _ 10;cases hq:s.data.toList.findIdx? (fun c=>c==10)with
  |none=>
   rw[hq]at hi;have:=Lib.countB_miss s ⟨⟨[10]⟩⟩ hi;omega
  |some j=>
   rw[hq]at hi;have hc:=Lib.countB_hit s ⟨⟨[10]⟩⟩ j (aQ 1) hi;have hl:(⟨⟨[10]⟩⟩:ByteArray).size=1:=rfl;rw[Lib.splitB_hit _ _ _ _ j hi,List.map_cons,ih _ ae,Pf hq,Lib.extract_from_zero,Lib.extract_to_end];rfl
def R4 (s:au):(jB s).length<=s.length+1/\∀t∈jB s,t.length<=s.length+1:=by
 have hl:=dd s 10;have hp:=eE 10 s [];refine⟨?_,fun t h1=>?_⟩
 .unfold jB
  grind
 .unfold jB at h1;rcases List.mem_append.1 h1 with h2|h2
  .obtain⟨u,hu,rfl⟩:=gD.1 h2;have:=dK s 10 (lf hu);simp;omega
  grind [qd,ai]
def MW (s:au):(Lib.trimSuffix s [10],Lib.hasSuffix s [10])=bS s:=by
 unfold Lib.trimSuffix Lib.hasSuffix bS;cases hq:s.getLast? with
 |none=>
  grind
 |some c=>
  obtain⟨r,rfl⟩:∃r,s=r++[c]:=by
   have hne:s≠[]:=by rintro rfl;cases hq
   refine⟨s.dropLast, ?_⟩;have:=List.dropLast_concat_getLast hne
   grind
  have e:([10]:au).isSuffixOf (r++[c])=decide (c=10):=by
   rw[Bool.eq_iff_iff,List.isSuffixOf_iff_suffix,aT];constructor
   .rintro⟨q,hq⟩
    grind
   .rintro rfl;exact⟨r,rfl⟩
  rw[e];by_cases h:c=10
  .subst h;simp
  .simp[h]
end Go.Abs
