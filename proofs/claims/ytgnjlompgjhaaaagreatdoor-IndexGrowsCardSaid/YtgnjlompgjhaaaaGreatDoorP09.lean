/- A part of the proofs. -/
import Derived.Lib.CountLaws
import Derived.Lib.IndexMore
import Derived.Lib.ItoaNum
import Derived.Lib.Join
import Derived.Lib.Split
import Derived.Lib.SplitLaws
import Derived.Lib.Strings
import Derived.Lib.TrimByte
import Derived.Shelf.Strings.Split
import Derived.Test.YtgnjlompgjhaaaaGreatDoorP08
set_option linter.all false
set_option maxRecDepth 4000
namespace Go.Abs
variable {Y:Ctx}(hm:(Y.at 0).bU)
def zm:aD:=⟨2,6,[⟨2,none⟩],bR,(sq (r1 [gm dJ] 2 0) (sq (sq (r1 [gm bm] 3 0) (.block 0 (.loop (sq (sq (r1 [gm s3,gm s0,gl l1,aP l0 l2] 4 3) (eO s4 0)) (sq (.block 1 (sq (r1 [gm s0,gm s3,ga 1 l0 l1,gd l2,gx 357 [l3] bR,kD l4] 5 5) (.cond s5 (sq (r1 [gm dJ] 2 0) .ret) .skip))) (r1 [gm s3,av l0 b7,gm l1] 3 2)))))) (sq (r1 [gm s0,gl l0,Cg l1 uE,gm l2,gmt 3 s0,bT 3 (.call 815 [l4] [[.sl 1 [.a]]]),ei l3 l5,gm l6,gmt 7 s1,gmt 7 l8,eW 9 s0,cF 9 (.len l10),cF 9 (cB gF bm),UK 7 l9 iU,ei l7 jR,gm kE] 2 15) .ret)))⟩
def w812 (h357:FN Y)(h815:TR Y)(l:List au)(al:Bool)   :cZ Y zm (.bool (iS l al)) [.sl 1 (l.map D.str),.bool al]:=by
 show bB _ _ _ [⟨_,_⟩,⟨_,_⟩,_,_,_,_] _;refine ak ?_;refine aH ?_;refine bc hm (ι:=Nat) (fun i=>[⟨true,.sl 1 (l.map D.str)⟩,⟨true,.bool al⟩,.un,⟨true,.int .i64 (i:Nat)⟩,.un,.un]) (fun i=>[]) 2 (fun i=>i<=l.length/\iS l al=(cI (fun i=>cu l[i]!) i l.length&&((decide (l.length<=6)&&rising l)&&(al ||decide (l.length=0))))) (fun i=>l.length-i) 0 ⟨ae,(wf_2 l al).symm⟩ (dF []) ?_;rintro i ⟨hi,hr⟩;refine aJ ?_;intro u0;refine ay ?_;refine cC (fun hc0=>?_) fun hc0=>?_
 .refine aW ?_;refine aj (hc:=h357 _) ?_;refine ay ?_;refine wp_cond (fun hc1=>?_) (fun hc1=>?_)
  .simp only[bK]at hc1;refine aH ?_;refine bQ ?_;rw[hr,aR ae,hc1];rfl
  simp only[ct]at hc1;refine bM ?_;exact⟨i+1,⟨ae,by rw[hr,aR ae,hc1];rfl⟩,ae,(dF [])⟩
 refine aJ ?_;intro u1;refine aB ?_;refine aj (hc:=h815 _) ?_;refine aJ ?_;refine lL ?_;refine aH ?_;refine bQ ?_;rw[hr,ch ae,fB,gY.2 (show((l.length:Nat):Int)<=6↔l.length<=6 by omega),gY.2 (show((l.length:Nat):Int)=0↔l.length=0 by omega)]
def Ke (T:List D->D->Prop):Prop:=∀(l:List au) (al:Bool),T [.sl 1 (l.map D.str),.bool al] (.bool (iS l al))
def Xj (Y:Ctx):Prop:=Ke (bq Y 812)
def G8:aD:=⟨3,10,[⟨3,none⟩],bR,(sq (rg [gb 9 s0,gb 4 s1,gm bm] [(6,0),(4,1),(3,2)]) (sq (.block 0 (sq (r1 [gf 0 s4,gd l0,gx 216 [l1] bR,kD l2,gm l3] 5 4) (.cond s5 (sq (r1 [gm rX] 3 0) .ret) (sq (r1 [gf 0 s4,gd l0,gf 0 s6,gd l2,aL l1 l3,gm l4] 7 5) (.cond s7 (sq (r1 [gm C7] 3 0) .ret) (sq (r1 [gf 1 s4,gd l0,gx 572 [l1] bR,kD l2,gm l3] 8 4) (.cond s8 (sq (r1 [gm uE] 3 0) .ret) (sq (r1 [gf 2 s4,gd l0,gm s2,gx 812 [l1,l2] [[.sl 1 [.a]],[.a]],kD l3,gm l4] 9 5) (.cond s9 (sq (r1 [gm (i6 11)] 3 0) .ret) .skip))))))))) (sq (r1 [gm bm] 3 0) .ret)))⟩
def w669 {Y:Ctx}(hm:(Y.at 0).bU)(h216:Kr Y)(h572:TA Y)(h812:Xj Y)(r:Rec)(w:cg)(al:Bool)  (hp0:w.sm):cZ Y G8 (.int .i64 (iW r w al)) [Rec.D r,cg.D w,.bool al]:=by
 show bB _ _ _ [⟨_,_⟩,⟨_,_⟩,⟨_,_⟩,_,_,_,_,_,_,_] _;refine ak ?_;refine bM ?_;refine aj (hc:=h216 _) ?_;refine aB ?_;refine eV (fun hc0=>?_) fun hc0=>?_
 .refine aJ ?_;refine cN ?_;have hw:eU r w.name w.range=4:=by rw[eU,ax hc0]
  rw[iW,ax (by rw[hw];decide),hw]
 refine bM ?_;refine eV (fun hc1=>?_) fun hc1=>?_
 .refine aJ ?_;refine cN ?_;have hw:eU r w.name w.range=8:=by rw[eU,ai (by simp[hc0]),ax hc1]
  rw[iW,ax (by rw[hw];decide),hw]
 refine aB ?_;refine aj (hc:=h572 w.range hp0.1.2) ?_;refine aB ?_;refine wp_cond (fun hc2=>?_) (fun hc2=>?_)
 .try simp only[eh]at hc2
  refine aJ ?_;refine cN ?_;have hw:eU r w.name w.range=6:=by rw[eU,ai (by simp[hc0]),ai hc1,ax hc2]
  rw[iW,ax (by rw[hw];decide),hw]
 simp only[ct]at hc2;have hw0:eU r w.name w.range=0:=by rw[eU,ai (by simp[hc0]),ai hc1,ai (by simp[hc2])]
 refine aF ?_;refine aj (hc:=h812 w.feats al) ?_;refine aB ?_;refine eV (fun hc3=>?_) fun hc3=>?_
 .refine aJ ?_;refine cN ?_;rw[iW,ai (by simp[hw0]),ax hc3]
 refine aH ?_;refine cN ?_;rw[iW,ai (by simp[hw0]),ai (by simp[hc3])]
def W0 (Y:Ctx):Prop:=xp (bq Y 669)
def G5:aD:=⟨2,13,[⟨2,none⟩],bR,(sq (rg [gb 9 s0,gb 3 s1,gm bm] [(8,0),(3,1),(2,2)]) (sq (sq (r1 [gf 0 s3,gd l0,gl l1,aL l2 bm] 4 3) (.cond s4 (sq (r1 [gm C8] 2 0) .ret) .skip)) (sq (sq (r1 [gf 0 s3,gd l0,gl l1,cR l2 k9] 5 3) (.cond s5 (sq (r1 [gm k9] 2 0) .ret) .skip)) (sq (sq (r1 [gm bm] 6 0) (.block 0 (.loop (sq (sq (r1 [gm s6,gf 0 s3,gd l1,gl l2,aP l0 l3] 7 4) (eO s7 0)) (sq (.block 1 (sq (r2 [gk 9 true s8,gf 0 s3,gd l1,gm s6,ga 4 l2 l3,gk 4 true l4,gf 0 s3,gd l6,gl l7,aL l8 b7,gx 669 [l0,l5,l9] [[.a,.a,.a,.a,.a,.a,.sl 3 [.sl 4 [.a,.a,.sl 1 [.a],.a],.a,.a],.sl 3 [.a,.a,.a],.sl 2 [.a,.sl 1 [.a]]],[.a,.a,.sl 1 [.a],.a],[.a]],gm l10] 9 11) (sq (r1 [gm s9,cj l0 bm] 10 1) (.cond iQ (sq (r1 [gm s9,gm l0] 2 1) .ret) .skip)))) (r1 [gm s6,av l0 b7,gm l1] 6 2)))))) (sq (sq (r1 [gf 1 s3,gd l0,gx 670 [l1] bR,kD l2] 11 3) (.cond kH (sq (r1 [gm MO] 2 0) .ret) .skip)) (sq (sq (r1 [gf 2 s3,gd l0,cj l1 cse,gm l2,m4 3 2 s3,kZ 3 l4,bT 3 (.call 357 [l5] bR),bT 3 (.un .not l6),ei l3 l7] 12 8) (.cond mS (sq (r1 [gm (i6 14)] 2 0) .ret) .skip)) (sq (r1 [gm bm] 2 0) .ret)))))))⟩
def w457 (h357:FN Y)(h669:W0 Y)(h670:TJ Y)(r:Rec)(n:bS)  (hp0:n.sm):cZ Y G5 (.int .i64 (il r n)) [Rec.D r,bS.D n]:=by
 show bB _ _ _ [⟨_,_⟩,⟨_,_⟩,_,_,_,_,_,_,_,_,_,_,_] _;refine ak ?_;refine cU ?_;intro u0;refine ay ?_;refine cC (fun hc0=>?_) fun hc0=>?_
 .refine aJ ?_;refine cN ?_;rw[il,ax ae]
 refine aH ?_;intro u1;refine ay ?_;refine cC (fun hc1=>?_) fun hc1=>?_
 .refine aJ ?_;refine cN ?_;rw[il,ai ae,ax ae]
 refine aJ ?_;refine bc hm (ι:=Nat) (fun i=>[.un,.un,.un,⟨true,.ptr 1 3 0 0⟩,.un,.un,⟨true,.int .i64 (i:Nat)⟩,.un,⟨true,.ptr 0 9 0 0⟩,.un,.un,.un,.un]) (fun i=>[(0,.buf 9 [Rec.D r]),(1,.buf 3 [bS.D n])]) 12 (fun i=>i<=n.any.length/\lg r n.any=eJ (fun i=>iW r n.any[i]! (decide ((n.any.length:Int)=1))) i n.any.length) (fun i=>n.any.length-i) 0 ⟨ae,rfl⟩ (dF [(0,0),(1,1)]) ?_;rintro i ⟨hi,hr⟩;refine aH ?_;intro u2;refine ay ?_;refine cC (fun hc2=>?_) fun hc2=>?_
 .refine aW ?_;refine cM i ?_;first|refine cE (v:=(cg.D _)) ?_|refine fe (v:=(cg.D _)) ?_
  refine ay ?_;refine lL ?_;refine aE ?_;refine aj (hc:=h669 r n.any[i]! _ (hp0.1 _ (bw ae))) ?_;refine aH ?_;refine eV (fun hc3=>?_) fun hc3=>?_
  .refine aW ?_;refine cN ?_;have hw:lg r n.any=iW r n.any[i]! (decide ((n.any.length:Int)=1)):=by rw[hr,kN ae hc3]
   rw[il,ai ae,ai ae,ax (by rw[hw];exact hc3),hw]
  refine bM ?_;exact⟨i+1,⟨ae,by rw[hr,mI ae hc3]⟩,ae,(dF [(0,0),(1,1)])⟩
 refine aF ?_;have hw0:lg r n.any=0:=by rw[hr,mH ae]
 refine ay ?_;refine aj (hc:=h670 _) ?_;refine ay ?_;refine aw (fun hc4=>?_) (fun hc4=>?_)
 .try simp only[eh]at hc4
  refine aJ ?_;refine cN ?_;rw[il,ai ae,ai ae,ai (by simp[hw0]),ax hc4]
 simp only[ct]at hc4;refine cU ?_;refine aj (hc:=h357 _) ?_;refine aB ?_;refine aw (fun hc5=>?_) (fun hc5=>?_)
 .try simp only[eh]at hc5
  refine aJ ?_;refine cN ?_;rw[il,ai ae,ai ae,ai (by simp[hw0]),ai (by simp[hc4]),ax hc5]
 simp only[dI,ct,aY]at hc5;refine aJ ?_;refine cN ?_;rw[il,ai ae,ai ae,ai (by simp[hw0]),ai (by simp[hc4]),ai (by rintro⟨g1,g2⟩;rcases hc5 with h|h;exact g1 h;rw[g2]at h;cases h)]
def Wx (Y:Ctx):Prop:=xh (bq Y 457)
def L4:aD:=⟨2,9,[⟨2,none⟩],bR,(sq (rg [gb 9 s0,gb 3 s1,gm bm] [(5,0),(3,1),(2,2)]) (sq (.block 0 (sq (r1 [gf 0 s3,gd l0,gx 216 [l1] bR,kD l2,gm l3] 4 4) (.cond s4 (sq (r1 [gm rX] 2 0) .ret) (sq (r1 [gf 0 s3,gd l0,gf 0 s5,gd l2,aL l1 l3,gm l4] 6 5) (.cond s6 (sq (r1 [gm C7] 2 0) .ret) (sq (r1 [gf 1 s3,gd l0,gx 572 [l1] bR,kD l2,gm l3] 7 4) (.cond s7 (sq (r1 [gm uE] 2 0) .ret) (sq (r1 [gf 2 s3,gd l0,gx 670 [l1] bR,kD l2,gm l3] 8 4) (.cond s8 (sq (r1 [gm MO] 2 0) .ret) .skip))))))))) (sq (r1 [gm bm] 2 0) .ret)))⟩
def w458 {Y:Ctx}(hm:(Y.at 0).bU)(h216:Kr Y)(h572:TA Y)(h670:TJ Y)(r:Rec)(b:iT)  (hp0:b.sm):cZ Y L4 (.int .i64 (n4 r b)) [Rec.D r,iT.D b]:=by
 show bB _ _ _ [⟨_,_⟩,⟨_,_⟩,_,_,_,_,_,_,_] _;refine ak ?_;refine bM ?_;refine aj (hc:=h216 _) ?_;refine aB ?_;refine eV (fun hc0=>?_) fun hc0=>?_
 .refine aJ ?_;refine cN ?_;have hw:eU r b.name b.range=4:=by rw[eU,ax hc0]
  rw[n4,ax (by rw[hw];decide),hw]
 refine bM ?_;refine eV (fun hc1=>?_) fun hc1=>?_
 .refine aJ ?_;refine cN ?_;have hw:eU r b.name b.range=8:=by rw[eU,ai (by simp[hc0]),ax hc1]
  rw[n4,ax (by rw[hw];decide),hw]
 refine aB ?_;refine aj (hc:=h572 b.range hp0.2.1) ?_;refine aB ?_;refine wp_cond (fun hc2=>?_) (fun hc2=>?_)
 .try simp only[eh]at hc2
  refine aJ ?_;refine cN ?_;have hw:eU r b.name b.range=6:=by rw[eU,ai (by simp[hc0]),ai hc1,ax hc2]
  rw[n4,ax (by rw[hw];decide),hw]
 simp only[ct]at hc2;have hw0:eU r b.name b.range=0:=by rw[eU,ai (by simp[hc0]),ai hc1,ai (by simp[hc2])]
 refine aB ?_;refine aj (hc:=h670 _) ?_;refine aB ?_;refine eV (fun hc3=>?_) fun hc3=>?_
 .refine aJ ?_;refine cN ?_;rw[n4,ai (by simp[hw0]),ax hc3]
 refine aH ?_;refine cN ?_;rw[n4,ai (by simp[hw0]),ai (by simp[hc3])]
def JF (T:List D->D->Prop):Prop:=∀(r:Rec) (b:iT),(b.sm)->T [Rec.D r,iT.D b] (.int .i64 (n4 r b))
def Wy (Y:Ctx):Prop:=JF (bq Y 458)
def CB:aD:=⟨2,7,[⟨2,none⟩],bR,(sq (rg [gb 9 s0,gm dJ] [(4,0),(2,1)]) (sq (sq (r1 [gm bm] 3 0) (.block 0 (.loop (sq (sq (r1 [gm s3,gf 6 s4,gd l1,gl l2,aP l0 l3] 5 4) (eO s5 0)) (sq (.block 1 (sq (r1 [gf 6 s4,gd l0,gm s3,ga 3 l1 l2,gf 2 l3,gd l4,gm s1,aL l5 l6] 6 7) (.cond s6 (sq (r1 [gm rV] 2 0) .ret) .skip))) (r1 [gm s3,av l0 b7,gm l1] 3 2)))))) (sq (r1 [gm dJ] 2 0) .ret)))⟩
def w673  (r:Rec)(x:au)   :cZ Y CB (.bool (Eh r.needs x)) [Rec.D r,.str x]:=by
 show bB _ _ _ [⟨_,_⟩,⟨_,_⟩,_,_,_,_,_] _;refine ak ?_;refine aW ?_;refine bc hm (ι:=Nat) (fun i=>[.un,⟨true,.str x⟩,.un,⟨true,.int .i64 (i:Nat)⟩,⟨true,.ptr 0 9 0 0⟩,.un,.un]) (fun i=>[(0,.buf 9 [Rec.D r])]) 3 (fun i=>i<=r.needs.length/\Eh r.needs x=(r.needs.drop i).any (fun n=>decide (n.option=x))) (fun i=>r.needs.length-i) 0 ⟨ae,rfl⟩ (dF [(0,0)]) ?_;rintro i ⟨hi,hr⟩;refine aH ?_;intro u0;refine ay ?_;refine cC (fun hc0=>?_) fun hc0=>?_
 .refine aH ?_;refine cM i ?_;refine aJ ?_;refine eV (fun hc1=>?_) fun hc1=>?_
  .refine aH ?_;refine bQ ?_;rw[hr,BL (c:=fun n:bS=>decide (n.option=x)) ae (cv hc1)]
  refine bM ?_;exact⟨i+1,⟨ae,by rw[hr,FU (c:=fun n:bS=>decide (n.option=x)) ae (dr hc1)]⟩,ae,(dF [(0,0)])⟩
 refine aH ?_;refine bQ ?_;rw[hr,BK ae]
def J2 (T:List D->D->Prop):Prop:=∀(r:Rec) (x:au),T [Rec.D r,.str x] (.bool (Eh r.needs x))
def W2 (Y:Ctx):Prop:=J2 (bq Y 673)
def CD:aD:=⟨2,7,[⟨2,none⟩],bR,(sq (rg [gb 9 s0,gm dJ] [(4,0),(2,1)]) (sq (sq (r1 [gm bm] 3 0) (.block 0 (.loop (sq (sq (r1 [gm s3,gf 6 s4,gd l1,gl l2,aP l0 l3] 5 4) (eO s5 0)) (sq (.block 1 (sq (r1 [gf 6 s4,gd l0,gm s3,ga 3 l1 l2,gf 0 l3,gd l4,gl l5,aL l6 b7,gm l7,m4 8 6 s4,kZ 8 l9,gmt 8 s3,bT 8 (.ia 3 l10 gF),m4 8 0 iU,kZ 8 jR,bT 8 (.ia 4 kE bm),m4 8 0 me,kZ 8 nC,gmt 8 s1,bT 8 (cB rF sY),ei l8 uc] 6 20) (.cond s6 (sq (r1 [gm rV] 2 0) .ret) .skip))) (r1 [gm s3,av l0 b7,gm l1] 3 2)))))) (sq (r1 [gm dJ] 2 0) .ret)))⟩
def w674  (r:Rec)(x:au)   :cZ Y CD (.bool (vW r.needs x)) [Rec.D r,.str x]:=by
 show bB _ _ _ [⟨_,_⟩,⟨_,_⟩,_,_,_,_,_] _;refine ak ?_;refine aW ?_;refine bc hm (ι:=Nat) (fun i=>[.un,⟨true,.str x⟩,.un,⟨true,.int .i64 (i:Nat)⟩,⟨true,.ptr 0 9 0 0⟩,.un,.un]) (fun i=>[(0,.buf 9 [Rec.D r])]) 3 (fun i=>i<=r.needs.length/\vW r.needs x=(r.needs.drop i).any (fun n=>decide (n.any.length=1)&&decide (n.any[0]!.name=x))) (fun i=>r.needs.length-i) 0 ⟨ae,rfl⟩ (dF [(0,0)]) ?_;rintro i ⟨hi,hr⟩;refine aH ?_;intro u0;refine ay ?_;refine cC (fun hc0=>?_) fun hc0=>?_
 .refine aH ?_;refine cM i ?_;refine aB ?_;intro u1;refine aJ ?_;refine cM i (hb:=fun _=>ae) ?_;refine aE ?_;refine cE (q:=bS.D) (xs:=r.needs) (i:=i) (hi:=fun _=>ae) (v:=(.sl 4 (r.needs[i]!.any.map cg.D))) ?_;refine cM 0 (hb:=fun h=>by simp only[fB,beq_iff_eq,bp,aY]at h;omega) ?_;refine aE ?_;refine cE (q:=cg.D) (xs:=r.needs[i]!.any) (i:=0) (hi:=fun h=>by simp only[fB,beq_iff_eq,bp,aY]at h;omega) (v:=(.str r.needs[i]!.any[0]!.name)) ?_;refine aF ?_;refine wp_cond (fun hc1=>?_) (fun hc1=>?_)
  .rw[gY.2 (show((r.needs[i]!.any.length:Nat):Int)=1↔r.needs[i]!.any.length=1 by omega)]at hc1;have hz:=hc1;refine aH ?_;refine bQ ?_;rw[hr,BL ae hz]
  rw[gY.2 (show((r.needs[i]!.any.length:Nat):Int)=1↔r.needs[i]!.any.length=1 by omega)]at hc1;have hz:=hc1;refine bM ?_;exact⟨i+1,⟨ae,by rw[hr,FU ae hz]⟩,ae,(dF [(0,0)])⟩
 refine aH ?_;refine bQ ?_;rw[hr,BK ae]
def J3 (T:List D->D->Prop):Prop:=∀(r:Rec) (x:au),T [Rec.D r,.str x] (.bool (vW r.needs x))
def W3 (Y:Ctx):Prop:=J3 (bq Y 674)
def EE:aD:=⟨2,10,[⟨2,none⟩],bR,(sq (rg [gb 9 s0,gm bm] [(6,0),(2,1)]) (sq (sq (r1 [gm bm] 3 0) (.block 0 (.loop (sq (sq (r1 [gm s3,gm s1,gl l1,aP l0 l2] 4 3) (eO s4 0)) (sq (.block 1 (sq (rg [gm s1,gm s3,ga 1 l0 l1,gd l2,gx 672 [l3] bR,gm l4,ge l5 0,ge l5 1,ge l5 2,gm l6,gm l7,gm l8] [(5,9),(7,10)]) (sq (sq (r1 [gm s5,aL l0 lQ,gm l1,bT 2 (.ld 9 true s6),gmt 2 s7,bT 2 (.call 673 [l3,l4] [[.a,.a,.a,.a,.a,.a,.sl 3 [.sl 4 [.a,.a,.sl 1 [.a],.a],.a,.a],.sl 3 [.a,.a,.a],.sl 2 [.a,.sl 1 [.a]]],[.a]]),bT 2 (.un .not l5),ei l2 l6] 8 7) (.cond s8 (sq (r1 [gm (i6 14)] 2 0) .ret) .skip)) (sq (r1 [gm s5,aL l0 k9,gm l1,bT 2 (.ld 9 true s6),gmt 2 s7,bT 2 (.call 674 [l3,l4] [[.a,.a,.a,.a,.a,.a,.sl 3 [.sl 4 [.a,.a,.sl 1 [.a],.a],.a,.a],.sl 3 [.a,.a,.a],.sl 2 [.a,.sl 1 [.a]]],[.a]]),bT 2 (.un .not l5),ei l2 l6] 9 7) (.cond s9 (sq (r1 [gm (i6 16)] 2 0) .ret) .skip))))) (r1 [gm s3,av l0 b7,gm l1] 3 2)))))) (sq (r1 [gm bm] 2 0) .ret)))⟩
def w460 (h672:TK Y)(h673:W2 Y)(h674:W3 Y)(r:Rec)(of:List au)  (hp0:∀t∈of,t.length<=1048576):cZ Y EE (.int .i64 (j2 r of)) [Rec.D r,.sl 1 (of.map D.str)]:=by
 show bB _ _ _ [⟨_,_⟩,⟨_,_⟩,_,_,_,_,_,_,_,_] _;refine ak ?_;refine aW ?_;refine bc hm (ι:=Nat) (fun i=>[.un,⟨true,.sl 1 (of.map D.str)⟩,.un,⟨true,.int .i64 (i:Nat)⟩,.un,.un,⟨true,.ptr 0 9 0 0⟩,.un,.un,.un]) (fun i=>[(0,.buf 9 [Rec.D r])]) 3 (fun i=>i<=of.length/\j2 r of=eJ (fun i=>jh r of[i]!) i of.length) (fun i=>of.length-i) 0 ⟨ae,rfl⟩ (dF [(0,0)]) ?_;rintro i ⟨hi,hr⟩;refine aJ ?_;intro u0;refine ay ?_;refine cC (fun hc0=>?_) fun hc0=>?_
 .refine aW ?_;refine aj (hc:=h672 of[i]! (hp0 _ (bw ae))) ?_;refine wj ?_;refine aj (hc:=h673 r (dd of[i]!).2.1) ?_;refine aB ?_;refine aw (fun hc1=>?_) (fun hc1=>?_)
  .try simp only[eh]at hc1
   refine aW ?_;refine cN ?_;have he:jh r of[i]! =14:=by rw[jh,ax hc1]
   rw[hr,kN ae (by rw[he];decide),he]
  have hn1:¬((dd of[i]!).1=2/\Eh r.needs (dd of[i]!).2.1=false):=by rintro⟨g1,g2⟩;rw[g1,g2]at hc1;cases hc1
  refine aW ?_;refine aj (hc:=h674 r (dd of[i]!).2.1) ?_;refine aB ?_;refine wp_cond (fun hc2=>?_) (fun hc2=>?_)
  .try simp only[eh]at hc2
   refine aH ?_;refine cN ?_;have he:jh r of[i]! =16:=by rw[jh,ai hn1,ax hc2]
   rw[hr,kN ae (by rw[he];decide),he]
  have hn2:¬((dd of[i]!).1=3/\vW r.needs (dd of[i]!).2.1=false):=by rintro⟨g1,g2⟩;rw[g1,g2]at hc2;cases hc2
  refine bM ?_;exact⟨i+1,⟨ae,by rw[hr,mI ae (by rw[jh,ai hn1,ai hn2])]⟩,ae,(dF [(0,0)])⟩
 refine aH ?_;refine cN ?_;rw[hr,mH ae]
def JG (T:List D->D->Prop):Prop:=∀(r:Rec) (of:List au),(∀t∈of,t.length<=1048576)->T [Rec.D r,.sl 1 (of.map D.str)] (.int .i64 (j2 r of))
def WA (Y:Ctx):Prop:=JG (bq Y 460)
def EF:aD:=⟨1,17,[⟨1,none⟩,⟨2,none⟩],gA,(sq (rg [gb 9 s0,gm bm,gm bm] [(4,0),(1,1),(2,2)]) (sq (sq (r1 [gm bm] 3 0) (.block 0 (.loop (sq (sq (r1 [gm s3,gf 6 s4,gd l1,gl l2,aP l0 l3] 5 4) (eO s5 0)) (sq (.block 1 (sq (r2 [gk 9 true s4,gf 6 s4,gd l1,gm s3,ga 3 l2 l3,gk 3 true l4,gx 457 [l0,l5] [[.a,.a,.a,.a,.a,.a,.sl 3 [.sl 4 [.a,.a,.sl 1 [.a],.a],.a,.a],.sl 3 [.a,.a,.a],.sl 2 [.a,.sl 1 [.a]]],[.sl 4 [.a,.a,.sl 1 [.a],.a],.a,.a]],gm l6] 6 7) (sq (r1 [gm s6,cj l0 bm] 7 1) (.cond s7 (sq (rg [gm s6,gm s3,gm l0,gm l1] [(1,2),(2,3)]) .ret) .skip)))) (r1 [gm s3,av l0 b7,gm l1] 3 2)))))) (sq (sq (r1 [gm bm] 8 0) (.block 2 (.loop (sq (sq (r1 [gm s8,gf 7 s4,gd l1,gl l2,aP l0 l3] 9 4) (eO s9 2)) (sq (.block 3 (sq (r2 [gk 9 true s4,gf 7 s4,gd l1,gm s8,ga 3 l2 l3,gk 3 true l4,gx 458 [l0,l5] [[.a,.a,.a,.a,.a,.a,.sl 3 [.sl 4 [.a,.a,.sl 1 [.a],.a],.a,.a],.sl 3 [.a,.a,.a],.sl 2 [.a,.sl 1 [.a]]],[.a,.a,.a]],gm l6] 10 7) (sq (r1 [gm iQ,cj l0 bm] 11 1) (.cond kH (sq (rg [gm iQ,gm s8,gm l0,gm l1] [(1,2),(2,3)]) .ret) .skip)))) (r1 [gm s8,av l0 b7,gm l1] 8 2)))))) (sq (sq (r1 [gf 8 s4,gd l0,gx 459 [l1] [[.sl 2 [.a,.sl 1 [.a]]]],kD l2] 12 3) (.cond mS (sq (rg [gm (i6 11),gm bm] [(1,0),(2,1)]) .ret) .skip)) (sq (sq (r1 [gm bm] 13 0) (.block 4 (.loop (sq (sq (r1 [gm rJ,gf 8 s4,gd l1,gl l2,aP l0 l3] 14 4) (eO rK 4)) (sq (.block 5 (sq (r2 [gk 9 true s4,gf 8 s4,gd l1,gm rJ,ga 2 l2 l3,gf 1 l4,gd l5,gx 460 [l0,l6] [[.a,.a,.a,.a,.a,.a,.sl 3 [.sl 4 [.a,.a,.sl 1 [.a],.a],.a,.a],.sl 3 [.a,.a,.a],.sl 2 [.a,.sl 1 [.a]]],[.sl 1 [.a]]],gm l7] 15 8) (sq (r1 [gm xa,cj l0 bm] 16 1) (.cond FI (sq (rg [gm xa,gm rJ,gm l0,gm l1] [(1,2),(2,3)]) .ret) .skip)))) (r1 [gm rJ,av l0 b7,gm l1] 13 2)))))) (sq (rg [gm bm,gm bm] [(1,0),(2,1)]) .ret))))))⟩
def w218 (h457:Wx Y)(h458:Wy Y)(h459:Wz Y)(h460:WA Y)(r:Rec)  (hp0:ew r):cZ Y EF (.tup [.int .i64 (eg r).1,.int .i64 (eg r).2]) [Rec.D r]:=by
 show bB _ _ _ [⟨_,_⟩,_,_,_,_,_,_,_,_,_,_,_,_,_,_,_,_] _;refine ak ?_;refine bM ?_;refine bc hm (ι:=Nat) (fun i=>[.un,.un,.un,⟨true,.int .i64 (i:Nat)⟩,⟨true,.ptr 0 9 0 0⟩,.un,.un,.un,.un,.un,.un,.un,.un,.un,.un,.un,.un]) (fun i=>[(0,.buf 9 [Rec.D r])]) 4 (fun i=>i<=r.needs.length/\kR r=gQ (fun i=>il r r.needs[i]!) i r.needs.length) (fun i=>r.needs.length-i) 0 ⟨ae,rfl⟩ (dF [(0,0)]) ?_;rintro i ⟨hi,hr⟩;refine aH ?_;intro u0;refine ay ?_;refine cC (fun hc0=>?_) fun hc0=>?_
 .refine aW ?_;refine cM i ?_;first|refine cE (v:=(bS.D _)) ?_|refine fe (v:=(bS.D _)) ?_
  refine aj (hc:=h457 r r.needs[i]! (hp0.2.1 _ (bw ae))) ?_;refine aH ?_;refine eV (fun hc1=>?_) fun hc1=>?_
  .refine cU ?_;refine bE (aN (ar (D.int .i64) ?_) (ar (D.int .i64) ?_));all_goals
    have hq:eg r=(il r r.needs[i]!,((i:Nat):Int)):=by
     exact Ej (by rw[hr,jr ae hc1]) hc1
    rw[hq];first|done|rfl
  refine bM ?_;exact⟨i+1,⟨ae,by rw[hr,kM ae hc1]⟩,ae,(dF [(0,0)])⟩
 refine aF ?_;have hn0:kR r=(0,0):=by rw[hr,kL ae]
 refine ay ?_;refine bc hm (ι:=Nat) (fun i=>[.un,.un,.un,.un,⟨true,.ptr 0 9 0 0⟩,.un,.un,.un,⟨true,.int .i64 (i:Nat)⟩,.un,.un,.un,.un,.un,.un,.un,.un]) (fun i=>[(0,.buf 9 [Rec.D r])]) 10 (fun i=>i<=r.bars.length/\rT r=gQ (fun i=>n4 r r.bars[i]!) i r.bars.length) (fun i=>r.bars.length-i) 0 ⟨ae,rfl⟩ (dF [(0,0)]) ?_;rintro i ⟨hi,hr⟩;refine aH ?_;intro u1;refine ay ?_;refine cC (fun hc2=>?_) fun hc2=>?_
 .refine aW ?_;refine cM i ?_;first|refine cE (v:=(iT.D _)) ?_|refine fe (v:=(iT.D _)) ?_
  refine aj (hc:=h458 r r.bars[i]! (hp0.2.2.1 _ (bw ae))) ?_;refine aH ?_;refine eV (fun hc3=>?_) fun hc3=>?_
  .refine cU ?_;refine bE (aN (ar (D.int .i64) ?_) (ar (D.int .i64) ?_));all_goals
    have hq:eg r=(n4 r r.bars[i]!,((i:Nat):Int)):=by
     exact y5 hn0 (by rw[hr,jr ae hc3]) hc3
    rw[hq];first|done|rfl
  refine bM ?_;exact⟨i+1,⟨ae,by rw[hr,kM ae hc3]⟩,ae,(dF [(0,0)])⟩
 refine aF ?_;have hb0:rT r=(0,0):=by rw[hr,kL ae]
 refine ay ?_;refine aj (hc:=h459 r.feats hp0.2.2.2) ?_;refine ay ?_;refine aw (fun hc4=>?_) (fun hc4=>?_)
 .try simp only[eh]at hc4
  refine aH ?_;refine bE (aN (ar (D.int .i64) ?_) (ar (D.int .i64) ?_));all_goals
   have hq:eg r=(11,0):=by
    exact Ek hn0 hb0 hc4
   rw[hq];first|done|rfl
 simp only[ct]at hc4;refine aJ ?_;refine bc hm (ι:=Nat) (fun i=>[.un,.un,.un,.un,⟨true,.ptr 0 9 0 0⟩,.un,.un,.un,.un,.un,.un,.un,.un,⟨true,.int .i64 (i:Nat)⟩,.un,.un,.un]) (fun i=>[(0,.buf 9 [Rec.D r])]) 20 (fun i=>i<=r.feats.length/\sg r=gQ (fun i=>j2 r r.feats[i]!.of) i r.feats.length) (fun i=>r.feats.length-i) 0 ⟨ae,rfl⟩ (dF [(0,0)]) ?_;rintro i ⟨hi,hr⟩;refine aH ?_;intro u2;refine ay ?_;refine cC (fun hc5=>?_) fun hc5=>?_
 .refine aW ?_;refine cM i ?_;refine ay ?_;refine aj (hc:=h460 r r.feats[i]!.of (hp0.2.2.2 _ (bw ae)).2.2) ?_;refine aH ?_;refine eV (fun hc6=>?_) fun hc6=>?_
  .refine cU ?_;refine bE (aN (ar (D.int .i64) ?_) (ar (D.int .i64) ?_));all_goals
    have hq:eg r=(j2 r r.feats[i]!.of,((i:Nat):Int)):=by
     exact qk hn0 hb0 hc4 (by rw[hr,jr (f:=(fun i=>j2 r r.feats[i]!.of)) ae hc6])
    rw[hq];first|done|rfl
  refine bM ?_;exact⟨i+1,⟨ae,by rw[hr,kM (f:=(fun i=>j2 r r.feats[i]!.of)) ae hc6]⟩,ae,(dF [(0,0)])⟩
 refine aW ?_;refine bE (aN (ar (D.int .i64) ?_) (ar (D.int .i64) ?_));all_goals
  have hq:eg r=(0,0):=by
   exact qk hn0 hb0 hc4 (by rw[hr,kL ae])
  rw[hq];first|done|rfl
def Jj (T:List D->D->Prop):Prop:=∀(r:Rec),(ew r)->T [Rec.D r] (.tup [.int .i64 (eg r).1,.int .i64 (eg r).2])
def V7 (Y:Ctx):Prop:=Jj (bq Y 218)
def EC:aD:=⟨1,11,[⟨1,none⟩,⟨2,none⟩],gA,(sq (rg [gb 9 s0,gm bm,gm bm] [(3,0),(1,1),(2,2)]) (sq (.block 0 (sq (r1 [gf 0 s3,gd l0,gx 216 [l1] bR,kD l2,gm l3] 4 4) (.cond s4 (sq (rg [gm rX,gm bm] [(1,0),(2,1)]) .ret) (sq (r1 [gf 1 s3,gk 5 true l0,gx 217 [l1] zZ,kD l2,gm l3] 5 4) (.cond s5 (sq (rg [gm Lg,gm bm] [(1,0),(2,1)]) .ret) (sq (r1 [gf 6 s3,gd l0,gl l1,cR l2 C7,gm l3,jQ 4 7 s3,lN 4 l5,cF 4 (.len l6),cF 4 (dY l7 C7),fC l4 l8,gm l9] 6 10) (.cond s6 (sq (rg [gm k9,gm bm] [(1,0),(2,1)]) .ret) .skip))))))) (sq (sq (rg [gk 9 true s3,gx 218 [l0] [[.a,.a,.a,.a,.a,.a,.sl 3 [.sl 4 [.a,.a,.sl 1 [.a],.a],.a,.a],.sl 3 [.a,.a,.a],.sl 2 [.a,.sl 1 [.a]]]],gm l1,ge l2 0,ge l2 1,gm l3,gm l4] [(7,5),(9,6)]) (sq (r1 [gm s7,cj l0 bm] 8 1) (.cond s8 (sq (rg [gm s7,gm s9,gm l0,gm l1] [(1,2),(2,3)]) .ret) .skip))) (sq (sq (r1 [gk 9 true s3,gx 219 [l0] [[.a,.a,.a,.a,.a,.a,.sl 3 [.sl 4 [.a,.a,.sl 1 [.a],.a],.a,.a],.sl 3 [.a,.a,.a],.sl 2 [.a,.sl 1 [.a]]]],px l1,cR l2 (i6 4096)] 10 3) (.cond iQ (sq (rg [gm k9,gm bm] [(1,0),(2,1)]) .ret) .skip)) (sq (rg [gm bm,gm bm] [(1,0),(2,1)]) .ret)))))⟩
def w71 {Y:Ctx}(hm:(Y.at 0).bU)(h216:Kr Y)(h217:Ks Y)(h218:V7 Y)(h219:Tk Y)(r:Rec)  (hp0:ew r):cZ Y EC (.tup [.int .i64 (cw r).1,.int .i64 (cw r).2]) [Rec.D r]:=by
 show bB _ _ _ [⟨_,_⟩,_,_,_,_,_,_,_,_,_,_] _;refine ak ?_;refine bM ?_;refine aj (hc:=h216 _) ?_;refine aB ?_;refine wp_cond (fun hc0=>?_) (fun hc0=>?_)
 .try simp only[eh]at hc0
  refine aH ?_;refine bE (aN (ar (D.int .i64) ?_) (ar (D.int .i64) ?_));all_goals (have hq:cw r=(4,0):=(by rw[cw,ax hc0]);rw[hq];first|done|rfl)
 simp only[ct]at hc0;refine ay ?_;refine bD (v:=c9.D r.v) ?_;refine aj (hc:=h217 r.v hp0.1.2) ?_;refine aB ?_;refine wp_cond (fun hc1=>?_) (fun hc1=>?_)
 .try simp only[eh]at hc1
  refine aH ?_;refine bE (aN (ar (D.int .i64) ?_) (ar (D.int .i64) ?_));all_goals (have hq:cw r=(5,0):=(by rw[cw,ai (by simp[hc0]),ax hc1]);rw[hq];first|done|rfl)
 simp only[ct]at hc1;refine aF ?_;intro u0;refine aF ?_;refine lL ?_;refine aF ?_;refine eV (fun hc2=>?_) fun hc2=>?_
 .refine aH ?_;refine bE (aN (ar (D.int .i64) ?_) (ar (D.int .i64) ?_));all_goals (have hq:cw r=(3,0):=(by rw[cw,ai (by simp[hc0]),ai (by simp[hc1]),ax ae]);rw[hq];first|done|rfl)
 refine aJ ?_;refine aj (hc:=h218 r hp0) ?_;refine fW ?_;refine aw (fun hc3=>?_) (fun hc3=>?_)
 .try simp only[eh]at hc3
  refine bM ?_;refine bE (aN (ar (D.int .i64) ?_) (ar (D.int .i64) ?_));all_goals
   have hq:cw r=eg r:=by
    exact n7 hc0 hc1 ae ae rfl hc3
   rw[hq];first|done|rfl
 simp only[ct,aY]at hc3;have hpz:eg r=(0,0):=El hc3;have hgd:vQ r:=⟨⟨hc0,hc1⟩,⟨ae,ae⟩,hpz⟩;refine aF ?_;refine aj (hc:=h219 r ⟨hgd,hp0⟩) ?_;refine aE ?_;intro u1;refine ay ?_;refine cC (fun hc4=>?_) fun hc4=>?_
 .refine aH ?_;refine bE (aN (ar (D.int .i64) ?_) (ar (D.int .i64) ?_));all_goals
   have hq:cw r=(3,0):=by
    rw[pS hc0 hc1 ae ae hpz,ax ae]
   rw[hq];first|done|rfl
 refine aH ?_;refine bE (aN (ar (D.int .i64) ?_) (ar (D.int .i64) ?_));all_goals
  have hq:cw r=(0,0):=by
   rw[pS hc0 hc1 ae ae hpz,ai ae]
  rw[hq];first|done|rfl
def C71 (Y:Ctx):Prop:=C1 (bq Y 71)
end Go.Abs
section
namespace Go.Abs
variable {Y:Ctx}(hm:(Y.at 0).bU)
structure dm where
 r:Rec
 sum:Int
 off:Bool
 deriving Inhabited,DecidableEq
def dm.D (x:dm):D:=.agg [.str x.r.name,.int .i64 x.r.v.major,.int .i64 x.r.v.minor,.int .i64 x.r.v.patch,.str x.r.v.pre,.str x.r.v.build,.sl 3 (x.r.needs.map bS.D),.sl 3 (x.r.bars.map iT.D),.sl 2 (x.r.feats.map bW.D),.int .u64 x.sum,.bool x.off]
structure fm where
 name:au
 es:List dm
 deriving Inhabited,DecidableEq
def fm.D (s:fm):D:=.agg [.str s.name,.sl 11 (s.es.map dm.D)]
def eG (a b:Int):Int:=if a<b then-1 else if b<a then 1 else 0
def zS (a b:au):Int:=if Op.bytesLess a b=true then-1 else if a=b then 0 else 1
def rL (a b:au):Int:=if cD a=true/\cD b=true then eG (jL a) (jL b)else if cD a=true then-1 else if cD b=true then 1 else zS a b
def E4 (l m:List au):Nat->Nat->Int
 |_,0=>eG l.length m.length
 |i,k+1=>if rL l[i]! m[i]! ≠0 then rL l[i]! m[i]! else E4 l m (i+1) k
def r5 (l m:List au)(i:Nat):Int:=E4 l m i (min l.length m.length-i)
def Bu {l m:List au}{i:Nat}(h:i<l.length/\i<m.length)(hn:rL l[i]! m[i]! ≠0):r5 l m i=rL l[i]! m[i]! :=by
 unfold r5;rw[show min l.length m.length-i=(min l.length m.length-(i+1))+1 by omega,E4,ax hn]
def E3 {l m:List au}{i:Nat}(h:i<l.length/\i<m.length)(hn:rL l[i]! m[i]! =0):r5 l m i=r5 l m (i+1):=by
 unfold r5;rw[show min l.length m.length-i=(min l.length m.length-(i+1))+1 by omega,E4,ai (by rw[hn];simp)]
def Bt {l m:List au}{i:Nat}(h:l.length<=i\/m.length<=i):r5 l m i=eG l.length m.length:=by
 unfold r5;rw[show min l.length m.length-i=0 by omega,E4]
def uX (a b:au):Int:=if a=b then 0 else if a=[]then 1 else if b=[]then-1 else r5 (aq a 46) (aq b 46) 0
def oP (a b:c9):Int:=if eH a=false\/eH b=false then 0 else
 if eG a.major b.major≠0 then eG a.major b.major else if eG a.minor b.minor≠0 then eG a.minor b.minor else
 if eG a.patch b.patch≠0 then eG a.patch b.patch else uX a.pre b.pre
def vH (v:c9):c9:=⟨v.major,v.minor,v.patch,v.pre,[]⟩
theorem KI (a:Int):eG a a=0:=by simp[eG]
def uk {a b:Int}:eG a b=0↔a=b:=by
 grind [eG]
def Az {a b:c9}(h:vH a=vH b):oP a b=0:=by
 grind [vH,oP,uX,KI]
theorem NU (x y z:Int):eJ (fun i=>[x,y,z][i]!) 0 [x,y,z].length=if x≠0 then x else if y≠0 then y else z:=by
 grind [eJ,sj]
def NW {x y z:Int}(h:eJ (fun i=>[x,y,z][i]!) 0 [x,y,z].length=0):x=0/\y=0/\z=0:=by
 grind [NU]
def NV {a b:c9}(hv:¬(eH a=false\/eH b=false))(h:¬eJ (fun i=>[eG a.major b.major,eG a.minor b.minor,eG a.patch b.patch][i]!) 0 [eG a.major b.major,eG a.minor b.minor,eG a.patch b.patch].length=0):
  eJ (fun i=>[eG a.major b.major,eG a.minor b.minor,eG a.patch b.patch][i]!) 0 [eG a.major b.major,eG a.minor b.minor,eG a.patch b.patch].length=oP a b:=by
 grind [NU,oP]
def NA {a b:c9}(hv:¬(eH a=false\/eH b=false))(h1:eG a.major b.major=0)(h2:eG a.minor b.minor=0)(h3:eG a.patch b.patch=0):oP a b=uX a.pre b.pre:=by
 grind [oP]
def QT {a b:c9}(h1:eG a.major b.major=0)(h2:eG a.minor b.minor=0)(h3:eG a.patch b.patch=0)(h4:a.pre=b.pre):vH a=vH b:=by
 unfold vH;rw[uk.1 h1,uk.1 h2,uk.1 h3,h4]
def KJ (a:c9):oP a a=0:=Az rfl
def Cn (a b:c9):Bool:=eH a&&eH b&&decide (oP a b=0)
def LJ {v:c9}(h:eH v=true):Cn v v=true:=by simp[Cn,h,KJ]
def DV (nm:au)(v:c9)(x:dm):Bool:=decide (x.r.name=nm)&&Cn x.r.v v
def UO {nm:au}{v:c9}{x:dm}(h:¬x.r.name=nm\/Cn x.r.v v=false):DV nm v x=false:=by
 grind [DV]
def Ro {nm:au}{v:c9}{x:dm}(h:x.r.name=nm/\Cn x.r.v v=true):DV nm v x=true:=by
 grind [DV]
def qn (l:List dm)(nm:au)(v:c9)(i:Nat):Int:=match(l.drop i).findIdx? (DV nm v)with
 |some k=>((i+k:Nat):Int)
 |none=>-1
def Pa {l:List dm}{nm:au}{v:c9}{i:Nat}(h:i<l.length)(he:DV nm v l[i]! =true):qn l nm v i=(i:Nat):=by
 unfold qn;rw[kW h,List.findIdx?_cons]
 grind
def Pc {l:List dm}{nm:au}{v:c9}{i:Nat}(h:i<l.length)(he:DV nm v l[i]! =false):qn l nm v i=qn l nm v (i+1):=by
 unfold qn;have:DV nm v l[i]=false:=by simpa[h]using he
 rw[kW h,List.findIdx?_cons]
 grind
def Iy {l:List dm}{nm:au}{v:c9}{i:Nat}(h:l.length<=i):qn l nm v i=-1:=by
 unfold qn;rw[nr h];rfl
def nQ (l:List dm)(i:Nat):Bool:=decide ((cL l[i]!.r).2=0)&&decide (ju l[i]!.r=l[i]!.sum)&&decide (qn (l.take i) l[i]!.r.name l[i]!.r.v 0<0)
def iR (s:fm):Bool:=(du s.name&&decide (s.es.length<=64))&&cI (nQ s.es) 0 s.es.length
theorem zd {r:Rec}(h:(cL r).2=0):eH r.v=true:=by
 grind [cw,cL,lj]
theorem Pb {l:List dm}{nm:au}{v:c9}:qn l nm v 0<0↔∀x∈l,DV nm v x=false:=by
 grind [qn,DV]
theorem A5 {l:List dm}{i:Nat}(h:i<l.length)(hv:eH l[i]!.r.v=true):decide (qn l l[i]!.r.name l[i]!.r.v 0=(i:Nat))=decide (qn (l.take i) l[i]!.r.name l[i]!.r.v 0<0):=by
 have hi:DV l[i]!.r.name l[i]!.r.v l[i]! =true:=by unfold DV;rw[LJ hv,cv rfl];rfl
 apply gY.2;rw[Pb];constructor
 .intro he x hx;obtain⟨j,hj,rfl⟩:=List.mem_take_iff_getElem.1 hx;have hj2:j<i:=ae;unfold qn at he;rw[de]at he;cases hf:l.findIdx? (DV l[i]!.r.name l[i]!.r.v)with
  |none=>rw[hf]at he;simp only at he;omega
  |some k=>
   rw[hf]at he;obtain⟨h1,h2,h3⟩:=List.findIdx?_eq_some_iff_getElem.1 hf;have hk:k=i:=by simp only at he;omega
   subst hk;have:=h3 j hj2;simpa using this
 .intro hx;unfold qn;rw[de];have:l.findIdx? (DV l[i]!.r.name l[i]!.r.v)=some i:=by
   rw[List.findIdx?_eq_some_iff_getElem];refine⟨h,by simpa[h]using hi,fun j hj=>?_⟩;have:=hx l[j] (List.mem_take_iff_getElem.2 ⟨j,ae,rfl⟩);rw[this];decide
  rw[this];simp
def NL {l:List dm}{i:Nat}(h:i<l.length)(h1:(cL l[i]!.r).2=0)(h2:ju l[i]!.r=l[i]!.sum)(h3:qn l l[i]!.r.name l[i]!.r.v 0=(i:Nat)):nQ l i=true:=by
 grind [A5,zd,nQ]
def QW {l:List dm}{i:Nat}(h:i<l.length)(h1:(¬(cL l[i]!.r).2=0\/¬ju l[i]!.r=l[i]!.sum)\/¬qn l l[i]!.r.name l[i]!.r.v 0=(i:Nat)):nQ l i=false:=by
 grind [nQ,cL,ju,A5,zd]
def fg:au:=[115,104,101,108,102]
def iK:au:=[101,110,116,114,121]
def S8:au:=[111,110]
def zE:au:=[111,102,102]
def rA (x:dm):List au:=[iK,fU x.sum,if x.off=true then zE else S8]
def zV (x:dm):au:=bV (rA x)++(cL x.r).1
def gH (s:fm):au:=bV [fg,s.name]++(s.es.map zV).flatten
def gp (s:fm):au×Int:=if iR s=false then([],1)else(gH s,0)
end Go.Abs
namespace Go.Abs
variable {Y:Ctx}(hm:(Y.at 0).bU)
def ud (s:fm)(i:Nat):au:=bV [fg,s.name]++((s.es.take i).map zV).flatten
def S7 (s:fm):ud s 0=fg++[32]++s.name++[10]:=by simp[ud,bV,aT]
theorem Fb {s:fm}{i:Nat}(h:i<s.es.length):ud s (i+1)=ud s i++zV s.es[i]! :=by
 unfold ud;have e:s.es.take (i+1)=s.es.take i++[s.es[i]!]:=by
  rw[List.take_add_one,List.getElem?_eq_getElem h];simp[h]
 rw[e];simp
def I6 (s:fm):ud s s.es.length=gH s:=by simp[ud,gH]
theorem zc (r:Rec):(cL r).1.length<=4096:=by
 grind [cL,cw,fq]
theorem B0 (x:dm):zV x=iK++[32]++fU x.sum++(if x.off=true then [32]++zE++[10]else [32]++S8++[10])++(cL x.r).1:=by
 unfold zV rA bV;cases x.off<;>simp[aT]
theorem NM (x:dm):(zV x).length<=4200:=by
 grind [zc,jF,B0,iK,S8,zE]
def CT {s:fm}(hn:s.name.length<=100):∀{i:Nat},i<=s.es.length->(ud s i).length<=200+i*4200
 |0,_=>by rw[S7];simp[fg];omega
 |i+1,h=>by
  have h1:=CT hn (i:=i) ae
  grind [NM,Fb]
def IZ {s:fm}(h:iR s=true):s.name.length<=16/\s.es.length<=64:=by
 grind [iR,du]
end Go.Abs
end
namespace Go.Abs
variable {Y:Ctx}(hm:(Y.at 0).bU)
def Y3 (a b:dm):dm.D a=dm.D b↔a=b:=by
 obtain⟨⟨n,⟨v1,v2,v3,v4,v5⟩,x,y,z⟩,s,o⟩:=a;obtain⟨⟨n',⟨w1,w2,w3,w4,w5⟩,x',y',z'⟩,s',o'⟩:=b;simp[dm.D,Gq,Od,Gp,and_assoc]
def SR (a b:List dm):a.map dm.D=b.map dm.D↔a=b:=uN Y3 a b
def iShf (a b:fm):fm.D a=fm.D b↔a=b:=by cases a;cases b;simp[fm.D,SR]
def F8 {A:RT->Prop}(h:A (fun ds d=>A fun ds' d'=>ds'=ds->d=d'):=by
 (repeat' first|apply And.intro|intro _)
 all_goals rename_i e
 all_goals (try simp only[vA,D.str.injEq,D.int.injEq,D.bool.injEq,D.sl.injEq,D.ref.injEq,D.agg.injEq,D.fn.injEq,Rn,iInt,iByt,iVer,SV,Oe,SU,Gq,Y1,Od,SS,Gp,iRec,SR,iShf,Y3,Y2,SQ,iNd,Y5,UM,iRng,Y0,iMrk,iPr,iU8,je,Y4,dT,dS,reduceCtorEq,fQ,fP]at e)
 all_goals first|rfl|(simp only[e];done)|simp_all):Xx (Cd A):=Uz h
def Vc [dt]{P:Program}{ν:List (Nat×Nat)}{cJ:List Nat}{t:List (Nat×pM)}{fid n:Nat}(hr:lk t n nt=nt):YN P ν cJ t fid n:=by
 refine⟨?_, ?_, ?_⟩<;>rw[hr]
 .exact fun _ _ h=>h.elim
 .exact Cj
 .exact fun _ _ _ h=>h.elim
def pre1 (b c:UInt8)(r:au):([b]:au).isPrefixOf (c::r)=(b==c):=by simp[List.isPrefixOf]
def SW:Option Nat->Int
 |some k=>(k:Int)
 |none=>-1
theorem uG:∀(s:au) (b:UInt8),Lib.index s [b]=SW (s.findIdx? (fun c=>c==b))
 |[],b=>rfl
 |c::r,b=>by
  unfold Lib.index;rw[pre1,List.findIdx?_cons,uG r b];by_cases h:c=b
  .subst h;simp[SW]
  .have h1:(b==c)=false:=by simp[Ne.symm h]
   have h2:(c==b)=false:=by simp[h]
   simp only[h1,h2,gX,br];cases r.findIdx? (fun c=>c==b)with
   |none=>rfl
   |some k=>
    grind [SW]
def Ux (s:au)(b:UInt8):Lib.cut s [b]=gO s b:=by
 unfold Lib.cut gO
 grind [uG,SW]
def KO (s p:au):(Lib.trimPrefix s p,Lib.hasPrefix s p)=cQ s p:=by
 unfold Lib.trimPrefix Lib.hasPrefix cQ
 grind
def DY (b:au):∀l,aT b l=Lib.join l b
 |[]=>rfl
 |[t]=>(Lib.join_one t b).symm
 |t::u::r=>by
  rw[gS _ _ _ aQ,DY b (u::r),Lib.join_cons,Lib.join_cons];simp[Lib.joinTail]
def decDigits_eq (n:Nat):Lib.decDigits n=dp n:=by
 induction n using Nat.strongRecOn with
 |_ n ih=>
  rw[Lib.decDigits];by_cases h:n<10
  .rw[dif_pos h,mw h];rfl
  .rw[dif_neg h,ny ae,ih (n/10) ae];rfl
def Rs {n:Int}(h:0<=n):Lib.itoa n=dp n.toNat:=by
 unfold Lib.itoa;rw[ai ae,decDigits_eq]
def rr (b:UInt8):∀(s cur:au),s.findIdx? (fun c=>c==b)=none->ca b.toNat s cur=[cur++s]
 |[],cur,_=>by simp[ca]
 |c::r,cur,h=>by
  rw[List.findIdx?_cons]at h;split at h
  .cases h
  .rename_i hc;have hr:r.findIdx? (fun c=>c==b)=none:=by
    cases hq:r.findIdx? (fun c=>c==b)with
    |none=>rfl
    |some k=>rw[hq]at h;cases h
   have hne:¬((c.toNat:Int)=(b.toNat:Int)):=fun e=>hc (by
    have:c.toNat=b.toNat:=ae;simp[je.1 this])
   simp only[ca,ai hne];rw[rr b r (cur++[c]) hr];simp
def ph (b:UInt8):∀(s cur:au) (k:Nat),s.findIdx? (fun c=>c==b)=some k->ca b.toNat s cur=(cur++s.take k)::ca b.toNat (s.drop (k+1)) []
 |[],cur,k,h=>by simp at h
 |c::r,cur,k,h=>by
  rw[List.findIdx?_cons]at h;split at h
  .grind [ca]
  .rename_i hc;have hne:¬((c.toNat:Int)=(b.toNat:Int)):=fun e=>hc (by
    have:c.toNat=b.toNat:=ae;simp[je.1 this])
   cases hq:r.findIdx? (fun c=>c==b)with
   |none=>rw[hq]at h;cases h
   |some j=>
    rw[hq]at h;have hk:k=j+1:=by simpa using h.symm
    subst hk;simp only[ca,ai hne];rw[ph b r (cur++[c]) j hq];simp
def Mx (b:UInt8):∀(k:Nat) (s:ByteArray),Lib.countB s ⟨⟨[b]⟩⟩=k->(Lib.splitB ⟨⟨[b]⟩⟩ 0 k s).map (fun t=>t.data.toList)=aq s.data.toList b.toNat:=by
 intro k;induction k with
 |zero=>
  intro s h;rw[Lib.splitB_zero];have hi:Lib.indexB s ⟨⟨[b]⟩⟩=SW (s.data.toList.findIdx? (fun c=>c==b)):=uG _ b;cases hq:s.data.toList.findIdx? (fun c=>c==b)with
  |none=>simp[aq,rr b _ [] hq]
  |some j=>
   rw[hq]at hi;have:=Lib.countB_hit s ⟨⟨[b]⟩⟩ j (aS 1) hi;omega
 |succ k ih=>
  intro s h;have hi:Lib.indexB s ⟨⟨[b]⟩⟩=SW (s.data.toList.findIdx? (fun c=>c==b)):=uG _ b;cases hq:s.data.toList.findIdx? (fun c=>c==b)with
  |none=>
   rw[hq]at hi;have:=Lib.countB_miss s ⟨⟨[b]⟩⟩ hi;omega
  |some j=>
   rw[hq]at hi;have h1:1<=(⟨⟨[b]⟩⟩:ByteArray).size:=aS 1;have hc:=Lib.countB_hit s ⟨⟨[b]⟩⟩ j h1 hi;rw[Lib.splitB_hit _ _ _ _ j hi];simp only[List.map_cons];rw[ih _ ae];have e1:(s.extract 0 (j+0)).data.toList=s.data.toList.take j:=by
    rw[Lib.extract_data];simp
   have e2:(s.extract (j+(⟨⟨[b]⟩⟩:ByteArray).size) s.size).data.toList=s.data.toList.drop (j+1):=by
    rw[Lib.extract_data];exact dM (by rw[qN,Lib.size_eq];exact aS _)
   rw[e1,e2];simp only[aq];rw[ph b _ [] j hq];simp
end Go.Abs
section
namespace Go.Abs
variable {Y:Ctx}(hm:(Y.at 0).bU)
open Go.Proofs
def oW (b:UInt8):∀(s cur:au),aT [b] (ca b.toNat s cur)=cur++s
 |[],cur=>by simp[ca,aT]
 |c::r,cur=>by
  unfold ca;split
  .rename_i h;have hc:c=b:=by
    have:c.toNat=b.toNat:=by omega
    exact UInt8.toNat_inj.1 this
   have hne:ca b.toNat r []≠[]:=Bi r b.toNat;rw[gS _ _ _ hne,oW b r [],hc];simp
  .rw[oW b r (cur++[c])];simp
def Zf (c d:UInt8)(r:au):([124,124]:au).isPrefixOf (c::d::r)=(decide (c=124)&&decide (d=124)):=by
 grind
theorem Bh:∀(s cur:au),Lib.index s [124,124]=-1->aI s cur=[cur++s]
 |[],cur,_=>by simp[aI]
 |[c],cur,_=>rfl
 |c::d::r,cur,h=>by
  unfold Lib.index at h;rw[Zf]at h;by_cases h2:c=124/\d=124
  .simp[h2.1,h2.2]at h
  .have h3:(decide (c=124)&&decide (d=124))=false:=by rw[<-Bool.decide_and];exact decide_eq_false h2
   rw[h3,if_neg (by simp)]at h;have h4:Lib.index (d::r) [124,124]=-1:=by
    have:=Lib.index_ge (d::r) [124,124]
    grind
   rw[aI,if_neg h2,Bh (d::r) _ h4];simp
def Bg:∀(s cur:au) (i:Nat),Lib.index s [124,124]=i->aI s cur=(cur++s.take i)::aI (s.drop (i+2)) []
 |[],cur,i,h=>by simp[Lib.index]at h
 |[c],cur,i,h=>by simp[Lib.index,List.isPrefixOf]at h
 |c::d::r,cur,i,h=>by
  unfold Lib.index at h;rw[Zf]at h;by_cases h2:c=124/\d=124
  .rw[h2.1,h2.2]at h;have hi:i=0:=by simp at h;omega
   subst hi;rw[aI,if_pos h2];simp
  .have h3:(decide (c=124)&&decide (d=124))=false:=by rw[<-Bool.decide_and];exact decide_eq_false h2
   rw[h3,if_neg (by simp)]at h;split at h
   .omega
   .obtain⟨j,rfl⟩:∃j,i=j+1:=⟨i-1,by
     have:=Lib.index_ge (d::r) [124,124];rename_i h5;have:Lib.index (d::r) [124,124]≠-1:=fun e=>h5 (beq_iff_eq.2 e)
     omega⟩
    rw[aI,if_neg h2,Bg (d::r) _ j (by omega)];simp
def My:∀(k:Nat) (s:ByteArray),Lib.countB s ⟨⟨[124,124]⟩⟩=k->(Lib.splitB ⟨⟨[124,124]⟩⟩ 0 k s).map (fun t=>t.data.toList)=aI s.data.toList []:=by
 intro k;induction k with
 |zero=>
  intro s h;rcases Lib.indexB_cases s ⟨⟨[124,124]⟩⟩with hi|⟨i,hi,_⟩
  .rw[Lib.splitB_zero]
   grind [Bh]
  .have:=Lib.countB_hit s ⟨⟨[124,124]⟩⟩ i (by decide) hi;omega
 |succ k ih=>
  intro s h;rcases Lib.indexB_cases s ⟨⟨[124,124]⟩⟩with hi|⟨i,hi,_⟩
  .rw[Lib.countB_miss _ _ hi]at h;omega
  .have hc:=Lib.countB_hit s ⟨⟨[124,124]⟩⟩ i (by decide) hi;rw[Lib.splitB_hit _ _ _ _ i hi,List.map_cons,ih _ (by omega),Bg _ _ i (show Lib.index s.data.toList [124,124]=i from hi),Lib.extract_from_zero,Lib.extract_to_end];rfl
def Bv {p:UInt8->Bool}:∀(l:au),∀x∈l.takeWhile p,p x=true
 |[],x,h=>by cases h
 |a::r,x,h=>by
  rw[List.takeWhile_cons]at h;split at h
  .rename_i ha;rcases List.mem_cons.1 h with rfl|h
   .exact ha
   .exact Bv r x h
  .cases h
theorem uq {p:UInt8->Bool}:∀(l:au),(∀x∈l,p x=true)->l.dropWhile p=[]
 |[],_=>rfl
 |a::r,h=>by
  rw[List.dropWhile_cons,if_pos (h a (.head _))];exact uq r fun x hx=>h x (.tail _ hx)
def x8:∀s,jV s=s.dropWhile (· ==32)
 |[]=>rfl
 |c::r=>by
  unfold jV;by_cases h:c=32
  .rw[if_pos h,x8 r];simp[h]
  .rw[if_neg h,List.dropWhile_cons,if_neg (by simpa using h)]
def Nu (s:au):Lib.trimB s 32=dZ s:=by
 unfold Lib.trimB Lib.trimLeftB Lib.trimRightB dZ;rw[x8,x8];generalize hp:(fun c:UInt8=>c==32)=p;have hs:s=s.takeWhile p++s.dropWhile p:=(List.takeWhile_append_dropWhile).symm;generalize ha:s.takeWhile p=a at hs;generalize hm:s.dropWhile p=m at hs;have hall:∀x∈a,p x=true:=by rw[<-ha];exact Bv s
 subst hs;rw[List.reverse_append,List.dropWhile_append];cases m with
 |nil=>
  grind [uq]
 |cons c r=>
  have hc:p c=false:=by
   have:=List.head_dropWhile_not p (l:=a++c::r) (by rw[hm];simp);simpa[hm]using this
  have hne:((c::r).reverse.dropWhile p)≠[]:=by
   rw[List.reverse_cons,List.dropWhile_append];split
   .simp[hc]
   .simp
  rw[if_neg (by simpa using hne),List.reverse_append,List.reverse_reverse,List.dropWhile_append,uq _ hall];simp only[List.isEmpty_nil,if_true];rw[List.reverse_cons,List.dropWhile_append];split
  .simp[hc]
  .simp[hc]
end Go.Abs
namespace Go.Proofs
open Go.Shelf Go.RowKit Go.Lib
end Go.Proofs
end
section
namespace Go.Abs
variable {Y:Ctx}(hm:(Y.at 0).bU)
def mE:fm:=⟨[],[]⟩
def bP (t:au):au×Bool:=if t.getLast? =some 10 then(t.dropLast,true)else(t,false)
def iP (s:au):List au:=(S0 s).map (· ++[10])++[yM s]
def eE (s:au):List au:=if yM s=[]then(S0 s).map (· ++[10])else iP s
def vK (l:List au):Bool:=(decide (l.length=3)&&decide (l[0]! =iK))&&(decide (l[2]! =S8) ||decide (l[2]! =zE))
def rC (t:au):Int×Bool×Bool:=if(bP t).2=true/\vK (aq (bP t).1 32)=true then(tR (aq (bP t).1 32)[1]!,decide ((aq (bP t).1 32)[2]! =zE),mi (aq (bP t).1 32)[1]!)else(0,false,false)
def Gg (t:au):Bool:=decide ((gO (bP t).1 32).1=iK)
def qB (p:Nat->Bool):Nat->Nat->Nat
 |k,0=>k
 |k,f+1=>if p k=true then k else qB p (k+1) f
def sM (p:Nat->Bool)(k n:Nat):Nat:=qB p k (n-k)
theorem PW {p:Nat->Bool}{k n:Nat}(h:k<n)(hp:p k=true):sM p k n=k:=by
 unfold sM;rw[show n-k=(n-(k+1))+1 by omega,qB,ax hp]
theorem R6 {p:Nat->Bool}{k n:Nat}(h:k<n)(hp:p k=false):sM p k n=sM p (k+1) n:=by
 unfold sM;rw[show n-k=(n-(k+1))+1 by omega,qB,ai (by simp[hp])]
theorem PV {p:Nat->Bool}{k n:Nat}(h:n<=k):sM p k n=k:=by
 unfold sM;rw[show n-k=0 by omega,qB]
theorem zr (p:Nat->Bool):∀f k,k<=qB p k f/\qB p k f<=k+f
 |0,k=>⟨aS _,aS _⟩
 |f+1,k=>by
  have:=zr p f (k+1);unfold qB;split<;>omega
def IX (p:Nat->Bool)(k n:Nat):k<=sM p k n:=(zr p _ k).1
def R5 (p:Nat->Bool){k n:Nat}(h:k<=n):sM p k n<=n:=by
 grind [zr,sM]
def v8 {p q:Nat->Bool}:∀f k,(∀j,k<=j->j<k+f->p j=q j)->qB p k f=qB q k f
 |0,_,_=>rfl
 |f+1,k,h=>by
  unfold qB;rw[h k (aS _) ae,v8 f (k+1) fun j h1 h2=>h j ae ae]
theorem Ho {p q:Nat->Bool}{k n:Nat}(h:∀j,k<=j->j<n->p j=q j):sM p k n=sM q k n:=v8 _ _ fun j h1 h2=>h j h1 ae
def Hx (es:List dm)(r:Rec):Bool:=es.any fun x=>decide (x.r.name=r.name)&&decide (oP x.r.v r.v=0)
def AI (es:List dm)(r:Rec)(n:Int):Int:=if ¬ju r=n then 13 else if Hx es r=true then 8 else if 64<=es.length then 10 else 0
def Dl (es:List dm)(t:au)(n:Int)(off:Bool):Int×List dm:=if ¬(zl t).2.1=0 then((zl t).2.1,[])else if ¬AI es (zl t).1 n=0 then(AI es (zl t).1 n,[])else(0,es++[⟨(zl t).1,n,off⟩])
def ON (P:List au)(k:Nat):Nat:=sM (fun j=>Gg P[j]!) k P.length
def slice {α:Type}(l:List α)(a b:Nat):List α:=(l.take b).drop a
def uF (P:List au):Nat->List dm->Nat->List dm×Int×Int
 |0,es,_=>(es,0,0)
 |f+1,es,at'=>if at'<P.length then
   (if(rC P[at']!).2.2=false then([],2,(at':Int)+1)
   else
    let q:=Dl es (aT [] (slice P (at'+1) (ON P (at'+1)))) (rC P[at']!).1 (rC P[at']!).2.1
    if ¬q.1=0 then([],q.1,(at':Int)+1)else uF P f q.2 (ON P (at'+1)))
  else(es,0,0)
def DL (t:au):Option au:=if(bP t).2=true/\(cQ (bP t).1 (fg++[32])).2=true/\du (cQ (bP t).1 (fg++[32])).1=true then some (cQ (bP t).1 (fg++[32])).1 else none
def Gd (nm:au)(q:List dm×Int×Int):fm×Int×Int:=if ¬q.2.1=0 then(mE,q.2.1,q.2.2)else(⟨nm,q.1⟩,0,0)
def nv (s:au):fm×Int×Int:=if 524288<s.length then(mE,3,0)else if(eE s).length=0 then(mE,2,1)else match DL (eE s)[0]! with
 |none=>(mE,2,1)
 |some nm=>Gd nm (uF (eE s) (eE s).length [] 1)
def Ga (t:au):Int×Bool×Bool:=if vK (aq t 32)=true then(tR (aq t 32)[1]!,decide ((aq t 32)[2]! =zE),mi (aq t 32)[1]!)else(0,false,false)
def nY (L:List au)(en:Bool)(i:Nat):Bool:=en ||decide (i+1<L.length)
def Ef (L:List au)(k:Nat):Nat:=sM (fun j=>decide (fw L[j]! =iK)) k L.length
def Av (l:List au)(en:Bool):au:=if en=true then iM l else aT [10] l
def wz (L:List au)(en:Bool):Nat->List dm->Nat->List dm×Int×Int
 |0,es,_=>(es,0,0)
 |f+1,es,at'=>if at'<L.length then
   (if(Ga L[at']!).2.2=false\/nY L en at'=false then([],2,(at':Int)+1)
   else
    let q:=Dl es (Av (slice L (at'+1) (Ef L (at'+1))) (en ||decide (Ef L (at'+1)<L.length))) (Ga L[at']!).1 (Ga L[at']!).2.1
    if ¬q.1=0 then([],q.1,(at':Int)+1)else wz L en f q.2 (Ef L (at'+1)))
  else(es,0,0)
def AM (t:au):Option au:=if((aq t 32).length=2/\(aq t 32)[0]! =fg)/\du (aq t 32)[1]! =true then some (aq t 32)[1]! else none
def PY (s:au):fm×Int×Int:=if 524288<s.length then(mE,3,0)else if(cr s).1.length=0\/((cr s).1.length=1/\(cr s).2=false)then(mE,2,1)else match AM (cr s).1[0]! with
 |none=>(mE,2,1)
 |some nm=>Gd nm (wz (cr s).1 (cr s).2 (cr s).1.length [] 1)
def y6 (s:au):(∃A,cr s=(A,true)/\eE s=A.map (· ++[10]))\/∃A b,cr s=(A++[b],false)/\eE s=A.map (· ++[10])++[b]:=by
 rcases GG s with⟨h1,h2,h3⟩|⟨h1,h2,h3⟩
 .grind [eE]
 .exact .inr ⟨S0 s,yM s,Prod.ext h3 h1,by unfold eE;rw[ai h2];rfl⟩
theorem Cs (s:au):(eE s).length=(cr s).1.length:=by
 rcases y6 s with⟨A,h1,h2⟩|⟨A,b,h1,h2⟩<;>rw[h1,h2]<;>simp
def GW {s:au}{i:Nat}(h:i<(cr s).1.length):(eE s)[i]! =(cr s).1[i]! ++(if nY (cr s).1 (cr s).2 i=true then [10]else []):=by
 rcases y6 s with⟨A,h1,h2⟩|⟨A,b,h1,h2⟩
 .grind [nY]
 grind [nY]
theorem qE:∀(s cur:au),(∀c∈cur,c≠10)->∀t∈ca 10 s cur,∀c∈t,c≠10
 |[],cur,h,t,ht=>by
  grind [ca]
 |a::r,cur,h,t,ht=>by
  unfold ca at ht;split at ht
  .rcases bZ.1 ht with rfl|ht
   .exact h
   .exact qE r [] aQ t ht
  .rename_i hn;refine qE r (cur++[a]) (fun c hc=>?_) t ht;rcases List.mem_append.1 hc with hc|hc
   .exact h c hc
   .rw[cz.1 hc];rintro rfl;exact hn rfl
def sy {s t:au}(h:t∈(cr s).1):∀c∈t,c≠10:=by
 grind [aq,qE,cr]
def vx {t:au}(h:∀c∈t,c≠10)(b:Bool):bP (t++(if b=true then [10]else []))=(t,b):=by
 grind [bP]
def Uy (t:au):(gO t 32).1=fw t:=by
 unfold fw gO;cases hq:t.findIdx? (fun c=>c==32)with
 |none=>
  have hs:aq t 32=[t]:=by have:=rr 32 t [] hq;simpa[aq]using this
  rw[hs];rfl
 |some j=>
  have hs:aq t 32=t.take j::aq (t.drop (j+1)) 32:=by have:=ph 32 t [] j hq;simpa[aq]using this
  rw[hs];rfl
def QX {s:au}{i:Nat}(h:i<(cr s).1.length):rC (eE s)[i]! =if nY (cr s).1 (cr s).2 i=true then Ga (cr s).1[i]! else(0,false,false):=by
 unfold rC Ga;rw[GW h,vx (sy (bw h))]
 grind
theorem KY {s:au}{i:Nat}(h:i<(cr s).1.length):Gg (eE s)[i]! =decide (fw (cr s).1[i]! =iK):=by
 unfold Gg;rw[GW h,vx (sy (bw h))];dsimp only;rw[Uy]
def U4 (s:au)(k:Nat):ON (eE s) k=Ef (cr s).1 k:=by
 grind [ON,Ef,Cs,Ho,KY]
def AQ:∀l:List au,aT [] l=l.flatten
 |[]=>rfl
 |[t]=>by simp[aT]
 |t::u::r=>by
  have:=AQ (u::r);simp only[aT,this];simp
def AR (t:au):∀l:List au,aT [10] (l++[t])=iM l++t
 |[]=>rfl
 |[u]=>by simp[aT,iM]
 |u::v::r=>by
  have:=AR t (v::r)
  grind [aT,iM]
def Mv {α β:Type}(f:α->β)(l:List α)(a b:Nat):slice (l.map f) a b=(slice l a b).map f:=by simp[slice]
def QR {s:au}{a b:Nat}(ha:a<=b)(hb:b<=(cr s).1.length):aT [] (slice (eE s) a b)=Av (slice (cr s).1 a b) ((cr s).2 ||decide (b<(cr s).1.length)):=by
 rw[AQ];rcases y6 s with⟨A,h1,h2⟩|⟨A,d,h1,h2⟩
 .rw[h1,h2,Mv];simp only[Bool.true_or,Av,bo];rfl
 .rw[h1]at hb⊢;rw[h2];simp only[bJ,az,aC,Bool.false_or]at hb⊢;by_cases hl:b<A.length+(0+1)
  .have e1:slice (A.map (· ++[10])++[d]) a b=(slice A a b).map (· ++[10]):=by
    unfold slice;rw[List.take_append_of_le_length (by simp only[cb];omega)];simp
   have e2:slice (A++[d]) a b=slice A a b:=by
    unfold slice;rw[List.take_append_of_le_length ae]
   rw[e1,e2,Av,ax (cv hl)];rfl
  .have hq:b=A.length+1:=ae;rw[Av,ai (by simpa using hl)];by_cases h4:a=b
   .have e1:∀l:List au,l.length<=b->slice l a b=[]:=fun l hl=>nr cA
    rw[e1 _ cA,e1 _ cA];rfl
   .have ha2:a<=A.length:=ae;have e1:slice (A.map (· ++[10])++[d]) a b=(A.drop a).map (· ++[10])++[d]:=by
     unfold slice;rw[dM cA,List.drop_append_of_le_length (by simpa using ha2),List.map_drop]
    have e2:slice (A++[d]) a b=A.drop a++[d]:=by
     unfold slice;rw[dM cA,List.drop_append_of_le_length ha2]
    rw[e1,e2,AR];simp[iM]
theorem idx_eq (s:au):∀(f:Nat) (es:List dm) (i:Nat),uF (eE s) f es i=wz (cr s).1 (cr s).2 f es i
 |0,_,_=>rfl
 |f+1,es,i=>by
  unfold uF wz;rw[Cs];by_cases h:i<(cr s).1.length
  .rw[ax h,ax h,QX h,U4];have h1:i+1<=Ef (cr s).1 (i+1):=IX _ _ _;have h2:Ef (cr s).1 (i+1)<=(cr s).1.length:=R5 _ ae;rw[QR h1 h2];cases hw:nY (cr s).1 (cr s).2 i with
   |false=>simp
   |true=>
    simp only[bo,Bool.true_eq_false,or_false];rw[idx_eq s f]
  .rw[ai h,ai h]
theorem Im {nm:au}(h:du nm=true):bN nm:=⟨(wZ h).1,GM (wZ h).2.2⟩
theorem EX:bN fg:=by unfold bN;decide
theorem Ri {s:au}(h:0<(cr s).1.length):DL (eE s)[0]! =if nY (cr s).1 (cr s).2 0=true then AM (cr s).1[0]! else none:=by
 unfold DL AM;rw[GW h,vx (sy (bw h))];dsimp only;cases nY (cr s).1 (cr s).2 0 with
 |false=>simp
 |true=>
  simp only[dS,bo];generalize (cr s).1[0]! =t;by_cases h1:((aq t 32).length=2/\(aq t 32)[0]! =fg)/\du (aq t 32)[1]! =true
  .rw[ax h1];have hj:aT [32] (aq t 32)=t:=by
    have:=oW 32 t [];simpa[aq]using this
   obtain⟨⟨ha,hb⟩,hc⟩:=h1
   match hq:aq t 32,ha,hb,hc with
   |[x,y],_,hb,hc=>
    rw[hq]at hj;simp at hb hc;subst hb;have ht:t=fg++[32]++y:=by rw[<-hj];rfl
    have hp:cQ t (fg++[32])=(y,true):=by
     subst ht;unfold cQ;rw[ax (by simp[fg,List.isPrefixOf])];simp[fg]
    rw[hp];simp[hc]
  .rw[ai h1,ai];rintro⟨h2,h3⟩;unfold cQ at h2 h3;split at h2
   .rename_i h4;rw[ax h4]at h3;simp only at h3;have ht:t=aT [32] [fg,t.drop 6]:=by
     obtain⟨r,hr⟩:=List.isPrefixOf_iff_prefix.1 h4;rw[<-hr];simp[fg,aT]
    have hs:aq t 32=[fg,t.drop 6]:=by
     have:=jE (l:=[fg,t.drop 6]) aQ (by
      intro w hw;simp only[bZ,dX,or_false]at hw;rcases hw with rfl|rfl
      .exact EX
      .exact Im h3)
     rw[er,<-ht]at this;exact this
    apply h1;rw[hs];exact⟨⟨rfl,rfl⟩,by simpa[fg]using h3⟩
   .cases h2
def RW (s:au):nv s=PY s:=by
 grind [nv,PY,Cs,cr,Ri,nY,AM,idx_eq]
end Go.Abs
namespace Go.Abs
variable {Y:Ctx}(hm:(Y.at 0).bU)
def O7 (s:au):1<=(iP s).length:=by unfold iP;simp
def O8 (s:au):eE s=if(iP s)[(iP s).length-1]! =[]then(iP s).take ((iP s).length-1)else iP s:=by
 grind [iP,eE]
def sU (s:au):(bP s).1.length<=s.length:=by
 grind [bP]
def UB {s:au}(h:(((bP s).2=false\/¬((aq (bP s).1 32).length:Int)=3)\/¬(aq (bP s).1 32)[0]! =iK)\/¬(aq (bP s).1 32)[2]! =S8/\¬(aq (bP s).1 32)[2]! =zE):¬((bP s).2=true/\vK (aq (bP s).1 32)=true):=by
 grind [vK]
def QY {s:au}(h:(((bP s).2=true/\((aq (bP s).1 32).length:Int)=3)/\(aq (bP s).1 32)[0]! =iK)/\((aq (bP s).1 32)[2]! =S8\/(aq (bP s).1 32)[2]! =zE)):((bP s).2=true/\vK (aq (bP s).1 32)=true)/\(aq (bP s).1 32).length=3:=by
 grind [aq,bP,vK]
end Go.Abs
namespace Go.Abs
variable {Y:Ctx}(hm:(Y.at 0).bU)
def noE (s:au):Prop:=∀i,1<=i->i<(eE s).length->(rC (eE s)[i]!).2.2=false
def RP {s t:au}(h:t∈eE s):t.length<=s.length+1:=by
 have h1:t∈iP s:=by
  grind [eE,iP]
 unfold iP at h1;rcases List.mem_append.1 h1 with h2|h2
 .obtain⟨u,hu,rfl⟩:=dN.1 h2;have:=iI s 10 (qP hu);simp;omega
 grind [ff,pg,aq]
def Ix {s:au}{i:Nat}(h:i<(eE s).length):(eE s)[i]!.length<=s.length+1:=RP (bw h)
def Ms {s:au}(h:524288<s.length):nv s=(mE,3,0):=by unfold nv;rw[ax h]
def Mt {s:au}(h:¬524288<s.length)(h1:(eE s).length=0):nv s=(mE,2,1):=by unfold nv;rw[ai h,ax h1]
theorem DM (t:au):DL t=if((bP t).2=true/\(cQ (bP t).1 [115,104,101,108,102,32]).2=true)/\du (cQ (bP t).1 [115,104,101,108,102,32]).1=true then some (cQ (bP t).1 [115,104,101,108,102,32]).1 else none:=by
 grind [DL,fg]
def Mr {s:au}(h:¬524288<s.length)(h1:¬(eE s).length=0)(h2:¬(((bP (eE s)[0]!).2=true/\(cQ (bP (eE s)[0]!).1 [115,104,101,108,102,32]).2=true)/\du (cQ (bP (eE s)[0]!).1 [115,104,101,108,102,32]).1=true)):nv s=(mE,2,1):=by
 grind [nv,DM]
def Mq {s:au}(h:¬524288<s.length)(h1:¬(eE s).length=0)(h2:((bP (eE s)[0]!).2=true/\(cQ (bP (eE s)[0]!).1 [115,104,101,108,102,32]).2=true)/\du (cQ (bP (eE s)[0]!).1 [115,104,101,108,102,32]).1=true):
  nv s=Gd (cQ (bP (eE s)[0]!).1 [115,104,101,108,102,32]).1 (uF (eE s) (eE s).length [] 1):=by
 grind [nv,DM]
def EO (P:List au)(es:List dm)(i:Nat):List dm×Int×Int:=uF P (P.length-i) es i
def AO (P:List au):∀(f g:Nat) (es:List dm) (i:Nat),P.length<=i+f->P.length<=i+g->uF P f es i=uF P g es i
 |0,0,_,_,_,_=>rfl
 |0,g+1,es,i,h,_=>by unfold uF;rw[ai ae]
 |f+1,0,es,i,_,h=>by unfold uF;rw[ai ae]
 |f+1,g+1,es,i,h1,h2=>by
  have hn:i+1<=ON P (i+1):=IX _ _ _;unfold uF;dsimp only;rw[AO P f g _ _ ae ae]
def Mj (P:List au):uF P P.length [] 1=EO P [] 1:=AO P _ _ _ _ ae ae
def Mk {P:List au}{es:List dm}{i:Nat}(h:P.length<=i):EO P es i=(es,0,0):=by
 unfold EO;rw[show P.length-i=0 by omega];rfl
def Hk {P:List au}{es:List dm}{i:Nat}(h:i<P.length)(h1:(rC P[i]!).2.2=false):EO P es i=([],2,(i:Int)+1):=by
 unfold EO;obtain⟨f,hf⟩:∃f,P.length-i=f+1:=⟨P.length-i-1,ae⟩
 grind [uF]
def NT {nm:au}{es:List dm}{e k:Int}(h:¬e=0):Gd nm (es,e,k)=(mE,e,k):=by unfold Gd;rw[ax h]
end Go.Abs
namespace Go.Abs
variable {Y:Ctx}(hm:(Y.at 0).bU)
end Go.Abs
namespace Go.Abs
variable {Y:Ctx}(hm:(Y.at 0).bU)
end Go.Abs
end
section
namespace Go.Abs
variable {Y:Ctx}(hm:(Y.at 0).bU)
def ey (s:fm)(r:Rec):fm×Int:=if iR s=false then(mE,1)else if ¬(cL r).2=0 then(mE,(cL r).2)else if 0<=qn s.es r.name r.v 0 then(mE,8)else if 64<=s.es.length then(mE,10)else(⟨s.name,s.es++[⟨r,ju r,false⟩]⟩,0)
theorem KR {es:List dm}{x:dm}{i:Nat}(h:i<es.length):nQ (es++[x]) i=nQ es i:=by
 grind [nQ]
theorem KQ {es:List dm}{x:dm}:nQ (es++[x]) es.length=(decide ((cL x.r).2=0)&&decide (ju x.r=x.sum)&&decide (qn es x.r.name x.r.v 0<0)):=by
 grind [nQ]
theorem Be {nm:au}{es:List dm}{x:dm}(h:iR ⟨nm,es⟩=true)(h1:(cL x.r).2=0)(h2:ju x.r=x.sum)(h3:qn es x.r.name x.r.v 0<0)(h4:es.length<64):iR ⟨nm,es++[x]⟩=true:=by
 grind [iR,eo,KR,KQ]
def P5 {es:List dm}{r:Rec}(hr:eH r.v=true)(h:∀x∈es,eH x.r.v=true):Hx es r=decide (0<=qn es r.name r.v 0):=by
 grind [Hx,DV,Cn,Pb,qn]
def og (l:List Int)(i:Int)(k:Nat):Rec:=yB l (i+1+82*(k:Nat)) (1+eY l (i+1+82*(k:Nat)+80) 4)
def YW (l:List Int)(i:Int)(k:Nat):Bool:=decide (eY l (i+1+82*(k:Nat)+81) 9=1)
def wx (l:List Int)(i:Int):Nat->List dm
 |0=>[]
 |k+1=>if 0<=qn (wx l i k) (og l i k).name (og l i k).v 0 then wx l i k else wx l i k++[⟨og l i k,ju (og l i k),YW l i k⟩]
def Qn (l:List Int)(i:Int)(nm:au)(most:Nat):fm:=⟨nm,wx l i (eY l i ((most:Int)+1)).toNat⟩
theorem tD (l:List Int)(i:Int):∀k,(wx l i k).length<=k
 |0=>by simp[wx]
 |k+1=>by
  have:=tD l i k
  grind [wx]
theorem B4 (l:List Int)(i:Int)(k:Nat):(cL (og l i k)).2=0/\Df (og l i k)/\cw (og l i k)=(0,0)/\(fq (og l i k)).length<=800/\ew (og l i k):=by
 have h:=tF l (i+1+82*(k:Nat)) (1+eY l (i+1+82*(k:Nat)+80) 4);have hp:=h.print;exact⟨by unfold og;rw[hp],UJ _ _ _,h.check,h.len,h.sm⟩
structure xW (x:dm):Prop where
 w:Df x.r
 c:cw x.r=(0,0)
 l:(fq x.r).length<=800
 s:ju x.r=x.sum
 m:ew x.r
def wS (l:List Int)(i:Int):∀k,∀x∈wx l i k,xW x
 |0,x,h=>by cases h
 |k+1,x,h=>by
  unfold wx at h;split at h
  .exact wS l i k x h
  .rcases List.mem_append.1 h with h|h
   .exact wS l i k x h
   .rw[cz.1 h];obtain⟨_,h2,h3,h4,h5⟩:=B4 l i k;exact⟨h2,h3,h4,rfl,h5⟩
def B5 {nm:au}(hn:du nm=true)(l:List Int)(i:Int):∀k,k<=64->iR ⟨nm,wx l i k⟩=true
 |0,_=>by simp[iR,wx,hn,ch]
 |k+1,h=>by
  have ih:=B5 hn l i k ae
  grind [tD,wx,Be,B4,qn,og]
def ij (x:dm):List au:=er (rA x)::iD x.r
theorem NN {x:dm}(h:cw x.r=(0,0)):zV x=iM (ij x):=by
 grind [zV,ij,cL,fq,sS,mG,rj]
def e8 (es:List dm):List au:=(es.map ij).flatten
def AD:∀{es:List dm},(∀x∈es,cw x.r=(0,0))->(es.map zV).flatten=iM (e8 es)
 |[],_=>rfl
 |x::r,h=>by
  have:=AD (es:=r) fun y hy=>h y (.tail _ hy)
  grind [e8,pX,NN]
def Hv (n:Int):bN (fU n):=by
 refine⟨fun e=>(by have:=jF n;rw[e]at this;cases this),fun c hc=>?_⟩;unfold fU at hc;obtain⟨j,_,rfl⟩:=dN.1 hc;have:∀k,k<16->rE k≠32/\rE k≠10:=aG
 exact this _ (yS _ _)
def yk:bN iK/\bN S8/\bN zE:=by unfold bN;decide
def Gb (x:dm):∀w∈rA x,bN w:=by
 intro w hw;simp only[rA,bZ,dX,or_false]at hw;rcases hw with rfl|rfl|rfl
 .exact yk.1
 .exact Hv _
 .split
  .exact yk.2.2
  .exact yk.2.1
def UA {x:dm}(h:0<=x.sum/\x.sum<18446744073709551616):Ga (er (rA x))=(x.sum,x.off,true):=by
 unfold Ga;rw[jE (by simp[rA]) (Gb x)];have h1:vK (rA x)=true:=by
  unfold vK rA;cases x.off<;>simp
 rw[ax h1];have e1:(rA x)[1]! =fU x.sum:=rfl;have e2:decide ((rA x)[2]! =zE)=x.off:=by
  unfold rA;cases x.off<;>simp[S8,zE]
 grind [mi,fU,zi,GX]
def fw_E (x:dm):fw (er (rA x))=iK:=by
 unfold fw;rw[jE (by simp[rA]) (Gb x)];rfl
def OH {l:List bS}(h:∀n∈l,Dd n):∀t∈m9 l,fw t≠iK:=by
 intro t ht;unfold m9 at ht;obtain⟨x,hx,ht⟩:=List.mem_flatten.1 ht;obtain⟨n,hn,rfl⟩:=dN.1 hx;have hw:=h n hn;unfold uP at ht;rcases bZ.1 ht with rfl|ht
 .rw[od oO aQ];decide
 rcases List.mem_append.1 ht with ht|ht
 .unfold kq at ht;obtain⟨w,hw2,rfl⟩:=dN.1 ht;rw[zG,sn uj (sV (hw.a w hw2))];decide
 rcases List.mem_append.1 ht with ht|ht
 .unfold jJ at ht;split at ht
  .cases ht
  .rw[cz.1 ht,show([ir,n.when']:List au)=ir::([]++[n.when'])from rfl,sn mY aQ];decide
 .unfold mg at ht;split at ht
  .cases ht
  .rw[cz.1 ht,show([eQ,n.option]:List au)=eQ::([]++[n.option])from rfl,sn qU aQ];decide
def QO {l:List iT}(h:∀b∈l,MR b):∀t∈ma l,fw t≠iK:=by
 intro t ht;unfold ma at ht;obtain⟨x,hx,ht⟩:=List.mem_flatten.1 ht;obtain⟨b,hb,rfl⟩:=dN.1 hx;have hw:=h b hb;unfold Ap at ht;rcases bZ.1 ht with rfl|ht
 .rw[show([jO,b.name,b.range]:List au)=jO::([b.name]++[b.range])from rfl,sn qT (by intro x hx;rw[cz.1 hx];exact hw.nm)];decide
 .unfold jJ at ht;split at ht
  .cases ht
  .rw[cz.1 ht,show([ir,b.when']:List au)=ir::([]++[b.when'])from rfl,sn mY aQ];decide
def Vy {r:Rec}(h:Df r):∀t∈iD r,fw t≠iK:=by
 intro t ht;unfold iD at ht;rcases bZ.1 ht with rfl|ht
 .rw[od sc (by
   intro x hx;simp only[bZ,dX,or_false]at hx;rcases hx with rfl|rfl
   .exact h.nm
   .exact vv h.v)];decide
 unfold qx at ht;rcases List.mem_append.1 ht with ht|ht
 .exact OH h.n t ht
 rcases List.mem_append.1 ht with ht|ht
 .exact QO h.b t ht
 .obtain⟨f,hf,rfl⟩:=dN.1 ht;have hw:=h.f f hf;rw[j0,show([dC,f.name]++f.of:List au)=dC::(f.name::f.of)from rfl,od oN (by
   intro x hx;rcases bZ.1 hx with rfl|hx
   .exact hw.nm
   .exact hw.o x hx)];decide
def R7 {p:Nat->Bool}{k m n:Nat}(h1:k<=m)(h2:m<=n)(h3:∀j,k<=j->j<m->p j=false)(h4:m=n\/p m=true):sM p k n=m:=by
 obtain⟨d,rfl⟩:∃d,m=k+d:=⟨m-k,ae⟩
 induction d generalizing k with
 |zero=>
  grind [PV,PW]
 |succ d ih=>
  grind [R6]
def Mw {α:Type}(a b c:List α):slice (a++(b++c)) a.length (a.length+b.length)=b:=by
 grind [slice]
def H0 {α:Type} [Inhabited α](a b c:List α)(j:Nat)(h:j<b.length):(a++(b++c))[a.length+j]! =b[j]! :=by
 grind
def Of {L pre R:List au}{x:dm}(hL:L=pre++(ij x++R))(hR:R=[]\/fw R[0]! =iK)(hx:Df x.r)(hs:0<=x.sum/\x.sum<18446744073709551616)(f:Nat)(es:List dm):
  wz L true (f+1) es pre.length=if ¬(Dl es (fq x.r) x.sum x.off).1=0 then([],(Dl es (fq x.r) x.sum x.off).1,(pre.length:Int)+1)else wz L true f (Dl es (fq x.r) x.sum x.off).2 (pre++ij x).length:=by
 have hl:(ij x).length=(iD x.r).length+1:=rfl;have hlen:L.length=pre.length+((ij x).length+R.length):=by rw[hL];simp
 have h0:L[pre.length]! =er (rA x):=by
  have:=H0 pre (ij x) R 0 ae;rw[hL];rw[Nat.add_zero]at this;rw[this];rfl
 have hn:Ef L (pre.length+1)=pre.length+(ij x).length:=by
  refine R7 ae ae (fun j h1 h2=>?_) ?_
  .obtain⟨d,rfl⟩:∃d,j=pre.length+(d+1):=⟨j-pre.length-1,ae⟩
   have:=H0 pre (ij x) R (d+1) ae;rw[hL,this];have hd:(ij x)[d+1]! =(iD x.r)[d]! :=by simp[ij]
   rw[hd];exact dr (Vy hx _ (bw ae))
  grind
 have hb:slice L (pre.length+1) (pre.length+(ij x).length)=iD x.r:=by
  have:=Mw (pre++[er (rA x)]) (iD x.r) R
  grind [ij,iD]
 rw[wz,ax ae,h0,UA hs,hn,hb];simp only[nY,Bool.true_or,Av,bo,<-sS,Bool.true_eq_false,or_self,br,bJ]
def xW.sZ {x:dm}(h:xW x):0<=x.sum/\x.sum<18446744073709551616:=by
 rw[<-h.s];unfold ju;split
 .decide
 .exact Ht _
def Nf {es:List dm}{x:dm}(h:xW x):Dl es (fq x.r) x.sum x.off=if ¬AI es x.r x.sum=0 then(AI es x.r x.sum,[])else(0,es++[x]):=by
 unfold Dl;rw[LX h.w h.c];simp
def H4:∀{rest:List dm}{L pre R:List au}{es:List dm}{nm:au} (f:Nat),(∀x∈es++rest,xW x)->iR ⟨nm,es++rest⟩=true->L=pre++(e8 rest++R)->(R=[]\/fw R[0]! =iK)->
  wz L true (rest.length+f) es pre.length=wz L true f (es++rest) (pre++e8 rest).length
 |[],L,pre,R,es,nm,f,_,_,_,_=>by simp[e8]
 |x::r,L,pre,R,es,nm,f,hg,hs,hL,hR=>by
  have hx:=hg x aQ;have hL2:L=pre++(ij x++(e8 r++R)):=by rw[hL];simp[e8]
  have hR2:e8 r++R=[]\/fw (e8 r++R)[0]! =iK:=by
   match r with
   |[]=>simpa[e8]using hR
   |y::q=>right;simp only[e8,List.map_cons,List.flatten_cons,ij,eN];exact fw_E y
  have hfit:AI es x.r x.sum=0:=by
   have h1:=hs;unfold iR at h1;simp only[bp,aY,eo,bJ,az]at h1;have h2:=h1.2 es.length ae ae;unfold nQ at h2;have e1:(es++x::r)[es.length]! =x:=aQ;rw[e1,List.take_left' rfl]at h2;simp only[bp,aY]at h2;unfold AI;rw[ai (by rw[h2.1.2];simp),ai,ai ae];rw[P5 hx.w.v (fun y hy=>(hg y (List.mem_append_left _ hy)).w.v)];simp only[aY];omega
  have ha:Dl es (fq x.r) x.sum x.off=(0,es++[x]):=by rw[Nf hx,ai (fun h=>h hfit)]
  rw[show(x::r).length+f=(r.length+f)+1 by simp;omega,Of hL2 hR2 hx.w hx.sZ,ha,ai (fun h=>h rfl)];have:=H4 (rest:=r) (L:=L) (pre:=pre++ij x) (R:=R) (es:=es++[x]) (nm:=nm) f (by simpa using hg) (by simpa using hs) (by rw[hL2];simp) hR;rw[this];simp[e8]
def Rx {es:List dm}(h:∀x∈es,xW x):∀t∈e8 es,jo t:=by
 intro t ht;unfold e8 at ht;obtain⟨y,hy,ht⟩:=List.mem_flatten.1 ht;obtain⟨x,hx,rfl⟩:=dN.1 hy;rcases bZ.1 ht with rfl|ht
 .exact fG fun w hw=>FF (Gb x w hw)
 .exact vR (h x hx).w t ht
def pz (nm:au):au:=er [fg,nm]
theorem Ob {nm:au}(h:du nm=true):∀w∈[fg,nm],bN w:=by
 grind [EX,Im]
theorem Ou {L:List au}(h:∀t∈L,jo t):cr (iM L)=(L,true):=by
 grind [we,cr]
def E6 {nm:au}{es:List dm}(h:∀x∈es,xW x):gH ⟨nm,es⟩=iM (pz nm::e8 es):=by
 unfold gH pz;rw[mG,AD fun x hx=>(h x hx).c];rfl
def LY {nm:au}(hn:du nm=true){L:List au}(hL:∀t∈L,jo t)(hl:(iM (pz nm::L)).length<=524288):PY (iM (pz nm::L))=Gd nm (wz (pz nm::L) true (L.length+1) [] 1):=by
 have hc:∀t∈pz nm::L,jo t:=by
  intro t ht;rcases bZ.1 ht with rfl|ht
  .exact fG fun w hw=>FF (Ob hn w hw)
  .exact hL t ht
 have hh:AM (pz nm)=some nm:=by
  grind [AM,pz,jE,Ob]
 grind [PY,Ou]
def Hp {nm:au}{es:List dm}(h:∀x∈es,xW x)(hs:iR ⟨nm,es⟩=true)(hl:(gH ⟨nm,es⟩).length<=524288):PY (gH ⟨nm,es⟩)=(⟨nm,es⟩,0,0):=by
 have hn:du nm=true:=by
  grind [iR]
 rw[E6 h]at hl⊢;rw[LY hn (Rx h) hl];have hk:es.length<=(e8 es).length+1:=by
  have:∀es:List dm,es.length<=(e8 es).length:=by
   intro es;induction es with
   |nil=>exact aS _
   |cons x r ih=>simp only[e8,List.map_cons,List.flatten_cons,bJ,az,ij]at ih⊢;omega
  have:=this es;omega
 obtain⟨f,hf⟩:∃f,(e8 es).length+1=es.length+f:=⟨(e8 es).length+1-es.length,ae⟩
 have:=H4 (rest:=es) (L:=pz nm::e8 es) (pre:=[pz nm]) (R:=[]) (es:=[]) (nm:=nm) f (by simpa using h) (by simpa using hs) aQ (.inl rfl);simp only[az,aC,eS]at this;rw[hf,this];have he:wz (pz nm::e8 es) true f es ([pz nm]++e8 es).length=(es,0,0):=by
  cases f with
  |zero=>rfl
  |succ f=>rw[wz,ai aQ]
 rw[he];simp[Gd]
end Go.Abs
namespace Go.Abs
variable {Y:Ctx}(hm:(Y.at 0).bU)
def uT:au:=[111,110,101]
def KE:au:=[115,104,101,108,102,32,111,110,101,10]
def FW:au:=[115,104,101,108,102,32,111,110,101,10,101,110,116,114,121,32,48,32,111,110,10]
def YU:gp ⟨uT,[]⟩=(KE,0):=by decide+kernel
def YT:nv KE=(⟨uT,[]⟩,0,0):=by decide+kernel
def SK:(nv FW).2=(2,2):=by decide+kernel
def Ur:(eE KE).length=1:=by decide+kernel
def Nn:(eE FW).length=2/\(rC (eE FW)[1]!).2.2=false:=by decide+kernel
def Us:noE KE:=fun i h1 h2=>by rw[Ur]at h2;omega
def Ut:noE FW:=fun i h1 h2=>by
 rw[Nn.1]at h2;obtain rfl:i=1:=ae;exact Nn.2
end Go.Abs
end
namespace Go.Abs
variable {Y:Ctx}(hm:(Y.at 0).bU)
def j4 (s:fm)(r:Rec):List dm:=s.es++[⟨r,ju r,false⟩]
def YO (s:fm)(r:Rec):D->List (Nat×bG)->Prop:=fun d m=>(¬(ey s r).2=0/\d=.tup [.agg [.str [],.aA],.int .i64 (ey s r).2])\/
 ((ey s r).2=0/\∃j,d=.tup [.agg [.str s.name,.own j 11 0 (j4 s r).length],.int .i64 0]/\look m j=some (.buf 11 ((j4 s r).map dm.D)))
def N4 {nm:au}(hn:du nm=true)(l:List Int)(i:Int){k:Nat}(hk:k<64):(ey ⟨nm,wx l i k⟩ (og l i k)).2=if 0<=qn (wx l i k) (og l i k).name (og l i k).v 0 then 8 else 0:=by
 have h1:=B5 hn l i k ae;have h2:=(B4 l i k).1;have h3:=tD l i k;unfold ey;rw[ai (by rw[h1];simp),ai (fun h=>h h2)];split
 .rfl
 .rw[ai (show ¬64<=(wx l i k).length by omega)]
def Ra {nm:au}(hn:du nm=true){l:List Int}{i:Int}{k:Nat}(hk:k<64)(h:(ey ⟨nm,wx l i k⟩ (og l i k)).2=0):wx l i (k+1)=wx l i k++[⟨og l i k,ju (og l i k),YW l i k⟩]:=by
 rw[N4 hn l i hk]at h;split at h
 .cases h
 .rename_i h1;rw[wx,ai h1]
def UI {nm:au}(hn:du nm=true){l:List Int}{i:Int}{k:Nat}(hk:k<64)(h:¬(ey ⟨nm,wx l i k⟩ (og l i k)).2=0):wx l i (k+1)=wx l i k:=by
 rw[N4 hn l i hk]at h;split at h
 .rename_i h1;rw[wx,ax h1]
 .exact absurd rfl h
def stY (es:List dm)(x:dm)(b:Bool):((es++[x]).map dm.D).set es.length (qG (((es++[x]).map dm.D).getD es.length .any) 11 1 10 (.bool b))=(es++[{x with off:=b}]).map dm.D:=by
 rw[List.map_append,List.map_cons,List.map_nil,N7 _ _ _ _ aQ,PX _ _ _ _ aQ,List.map_append];rfl
def wU {l:List Int}{i:Int}{nm:au}{n:Nat}:∀x∈(Qn l i nm n).es,xW x:=wS l i _
def HX {l:List Int}{i:Int}{nm:au}{n:Nat}:(Qn l i nm n).es.length<=n:=by
 have h1:=tD l i (eY l i ((n:Int)+1)).toNat;have h2:=dh l i ((n:Int)+1) ae;show(wx l i _).length<=n;omega
def ra {l:List Int}{i:Int}{nm:au}{n:Nat}(hn:du nm=true)(h:n<=64):iR (Qn l i nm n)=true:=by
 have h2:=dh l i ((n:Int)+1) ae;exact B5 hn l i _ ae
def A6 {s:fm}(h:iR s=true):gp s=(gH s,0):=by unfold gp;rw[ai (by rw[h];simp)]
def vo {s:fm}(h:iR s=true):(gH s).length<=524288:=by
 obtain⟨h1,h2⟩:=IZ h;have:=CT (s:=s) ae (aS _);rw[I6]at this;omega
def N6 {l:List Int}{i:Int}{nm:au}{n:Nat}(hn:du nm=true)(h:n<=64):nv (gH (Qn l i nm n))=(Qn l i nm n,0,0):=by
 rw[RW];exact Hp (nm:=nm) (es:=(Qn l i nm n).es) (wU (nm:=nm)) (ra hn h) (vo (ra hn h))
def uU:du uT=true:=by decide+kernel
structure ShG (s:fm)(n:Nat):Prop where
 b:iR s=true
 m:∀x∈s.es,ew x.r
 p:gp s=(gH s,0)
 r:nv (gH s)=(s,0,0)
 l:(gH s).length<=524288
 n:s.es.length<=n
 o:s.name=uT
def YY (l:List Int)(i:Int){n:Nat}(h:n<=64):ShG (Qn l i uT n) n:=
 ⟨ra uU h,fun x hx=>(wU (nm:=uT) x hx).m,A6 (ra uU h),N6 uU h,vo (ra uU h),HX,rfl⟩
def join_one {l:List au}(h:l≠[]):aT [10] l++[10]=iM l:=by
 rw[<-yF];induction l with
 |nil=>exact absurd rfl h
 |cons a r ih=>
  match r with
  |[]=>simp[aT]
  |b::q=>
   have:=ih aQ;simp only[eN,aT,dx]at this⊢;rw[this]
def Jz (T:List D->D->Prop):Prop:=∀(s:au),(s.length<=1048576)->T [.str s,.str [10],.int .i64 1,.int .i64 (-1)] (.sl 1 ((iP s).map D.str))
def Wi (Y:Ctx):Prop:=Jz (bq Y 331)
def Js (T:List D->D->Prop):Prop:=∀(s:au),(s.length<=1048576)->T [.str s,.str [10]] (.tup [.str (bP s).1,.bool (bP s).2])
def Wd (Y:Ctx):Prop:=Js (bq Y 244)
def Fz (T:List D->D->Prop):Prop:=∀(s:au),(s.length<=1048576)->(noE s)->T [.str s] (.tup [fm.D (nv s).1,.int .i64 (nv s).2.1,.int .i64 (nv s).2.2])
def Sv (Y:Ctx):Prop:=Fz (bq Y 86)
section
section
variable [dt] {P:Program} {ν:List (Nat×Nat)} {cJ:List Nat} {t:List (Nat×pM)} {fid n key u k:Nat} {af:aD} {ai9:List D} {nx:Nat} {m:List (Nat×bG)} {K:D->St->Prop}
def MD {a:D}{k q i:Nat}{es:List D}{m1:List (Nat×bG)}(ha:a.bF=true)(hes:bx es=true)(hmix:P.follows .mixedOrders=true)(hC:MM P ν cJ fid af)(hnp:1=af.np)
  (hl:look m1 q=some (.buf k es)) (hK:K (.own nx k 0 i) ⟨nx+1,(nx,.buf k es)::m⟩) (hw:bB ((under t key u).at 0) af.body (jT af (One (.own q k 0 i) m1)) (fM af [a]) ⟨0,[]⟩):pK P ν cJ (under t key u) fid [a] ⟨nx,m⟩ K:=by
 refine yC (σi:=[]) (m0:=[]) (cs:=[a]) (fun q=>wg t key u q) hmix hC rfl ?_ hnp rfl (fun _ _ h=>by cases h) (fun _ _ h=>by cases h) hw ?_
 .intro i hi
  match i,hi with
  |0,_=>exact .inl ⟨rfl,ha⟩
 .rintro d m2 ⟨rfl,rfl⟩;refine⟨[(q,nx)],q+1,_,.own nx k 0 i,⟨rfl, ?_,Nat.le_succ _,(fun _ _ h=>by cases h), ?_,(fun _ _ h=>by cases h), ?_⟩,.inr (.inl (by simp[qA,CJ,mC])),hK⟩
  .simp[ix]
  .grind
  .intro l bb h;simp only[look]at h;split at h
   .rename_i e;subst e;obtain rfl:=bY h;exact .inl ⟨q,_,.head _,hl,rfl,.inl ⟨rfl,hes⟩⟩
   .rename_i hn;exact .inr ⟨by simp only[lR,ai hn],(fun _ h=>by cases h),h⟩
end
end
section
section
variable [dt] {P:Program} {ν:List (Nat×Nat)} {cJ:List Nat} {t:List (Nat×pM)} {fid n key u k:Nat} {af:aD} {nx:Nat} {m:List (Nat×bG)} {K:D->St->Prop}
def Pl {s:fm}{r:Rec}(hmix:P.follows .mixedOrders=true)(hC:MM P ν cJ fid af)(hnp:2=af.np)
  (hK1:¬(ey s r).2=0->K (.tup [.agg [.str [],.aA],.int .i64 (ey s r).2]) ⟨nx,m⟩)
  (hK2:(ey s r).2=0->K (.tup [.agg [.str s.name,.own nx 11 0 (j4 s r).length],.int .i64 0]) ⟨nx+1,(nx,.buf 11 ((j4 s r).map dm.D))::m⟩)
  (hw:bB ((under t key u).at 0) af.body (jT af (YO s r)) (fM af [s.D,r.D]) ⟨0,[]⟩):pK P ν cJ (under t key u) fid [s.D,r.D] ⟨nx,m⟩ K:=by
 refine yC (σi:=[]) (m0:=[]) (cs:=[s.D,r.D]) (fun q=>wg t key u q) hmix hC rfl ?_ hnp rfl (fun _ _ h=>by cases h) (fun _ _ h=>by cases h) hw ?_
 .intro i hi
  match i,hi with
  |0,_=>exact .inl ⟨rfl,rfl⟩
  |1,_=>exact .inl ⟨rfl,rfl⟩
 .rintro d m1 (⟨h,rfl⟩|⟨h,j,rfl,hj⟩)
  .exact⟨[],0,_,_,⟨rfl,rfl,aS _,(fun _ _ h=>by cases h),(fun _ _ h=>by cases h),(fun _ _ h=>by cases h),fun l b h=>.inr ⟨rfl,(fun _ h=>by cases h),h⟩⟩,.inl ⟨rfl,rfl⟩,hK1 h⟩
  .refine⟨[(j,nx)],j+1,_,_,⟨rfl, ?_,Nat.le_succ _,(fun _ _ h=>by cases h), ?_,(fun _ _ h=>by cases h), ?_⟩,.inr (.inl (by simp[qA,nu,CJ,mC])),hK2 h⟩
   .simp[ix]
   .intro i l h;obtain⟨rfl,rfl⟩:=Prod.mk.inj (cz.1 h);exact .inr (aS _)
   .intro l bb h;simp only[look]at h;split at h
    .rename_i e;subst e;obtain rfl:=bY h;exact .inl ⟨j,_,.head _,hj,rfl,.inl ⟨rfl,bH (fun _=>rfl) _⟩⟩
    .rename_i hn;exact .inr ⟨by simp only[lR,ai hn],(fun _ h=>by cases h),h⟩
def tL {a:D}{dv:Nat->D}{kk:Nat}{es:List D}{Q:D->List (Nat×bG)->Prop}(hmix:P.follows .mixedOrders=true)(hC:MM P ν cJ fid af)(hnp:1=af.np)(ha:a.bF=true)(hes:bx es=true)
  (hd:∀j,qA 0 [(j,nx)] (dv j)=some (dv nx)) (hQ:∀d m,Q d m->∃j,d=dv j/\look m j=some (.buf kk es)) (hK:K (dv nx) ⟨nx+1,(nx,.buf kk es)::m⟩)
  (hw:bB ((under t key u).at 0) af.body (jT af Q) (fM af [a]) ⟨0,[]⟩):pK P ν cJ (under t key u) fid [a] ⟨nx,m⟩ K:=by
 refine yC (σi:=[]) (m0:=[]) (cs:=[a]) (fun q=>wg t key u q) hmix hC rfl ?_ hnp rfl (fun _ _ h=>by cases h) (fun _ _ h=>by cases h) hw ?_
 .intro i hi
  match i,hi with
  |0,_=>exact .inl ⟨rfl,ha⟩
 .intro d m1 h;obtain⟨j,rfl,hj⟩:=hQ d m1 h;refine⟨[(j,nx)],j+1,_,_,⟨rfl, ?_,Nat.le_succ _,(fun _ _ h=>by cases h), ?_,(fun _ _ h=>by cases h), ?_⟩,.inr (.inl (hd j)),hK⟩
  .simp[ix]
  .intro i l h;obtain⟨rfl,rfl⟩:=Prod.mk.inj (cz.1 h);exact .inr (aS _)
  .intro l bb h;simp only[look]at h;split at h
   .rename_i e;subst e;obtain rfl:=bY h;exact .inl ⟨j,_,.head _,hj,rfl,.inl ⟨rfl,hes⟩⟩
   .rename_i hn;exact .inr ⟨by simp only[lR,ai hn],(fun _ h=>by cases h),h⟩
end
end
def Gx:aD:=⟨2,5,[⟨2,none⟩],bR,(sq (r1 [gm bm] 2 0) (sq (r1 [gm s0,gm s1,gn (.bin .rem l0 l1),gm l2] 3 3) (sq (sq (r1 [gm s3,aP l0 bm] 4 1) (.cond s4 (r1 [gm s3,gm s1,av l0 l1,gm l2] 3 3) .skip)) (sq (r1 [gm s3,gm l0] 2 1) .ret))))⟩
def w478 {Y:Ctx}(hm:(Y.at 0).bU)  (v:Int)(n:Int)  (hp0:0<n/\n<=9223372036854775807):cZ Y Gx (.int .i64 (v%n)) [.int .i64 v,.int .i64 n]:=by
 show bB _ _ _ [⟨_,_⟩,⟨_,_⟩,_,_,_] _;refine ak ?_;refine aJ ?_;refine II (v.tmod n) (hn:=by intro _;omega) (hb:=fun _=>rfl) ?_;have ht:=Hw v n ae;refine aW ?_;refine cC (fun hc0=>?_) fun hc0=>?_
 .refine fW ?_;refine cN ?_;exact RQ hp0.1 hc0
 refine aH ?_;refine cN ?_;exact RR hp0.1 hc0
def JM (T:List D->D->Prop):Prop:=∀(v:Int) (n:Int),(0<n/\n<=9223372036854775807)->T [.int .i64 v,.int .i64 n] (.int .i64 (v%n))
def MY (Y:Ctx):Prop:=JM (bq Y 478)
def Rw:aD:=⟨2,4,[⟨2,none⟩],bR,(sq (r1 [gm bm] 2 0) (sq (sq (r1 [gm s1,aP l0 bm,gm l1,eW 2 s1,eW 2 s0,cF 2 (.len l4),cF 2 (rS l3 l5),fC l2 l6] 3 7) (.cond s3 (sq (r1 [gm bm] 2 0) .ret) .skip)) (sq (r1 [gm s0,gm s1,ga 1 l0 l1,gd l2,gm l3] 2 4) .ret)))⟩
def w479 {Y:Ctx}(hm:(Y.at 0).bU)  (l:List Int)(i:Int)   :cZ Y Rw (.int .i64 (jP l i)) [.sl 1 (l.map (D.int .i64)),.int .i64 i]:=by
 show bB _ _ _ [⟨_,_⟩,⟨_,_⟩,_,_] _;refine ak ?_;refine cU ?_;refine lL ?_;refine aB ?_;refine cC (fun hc0=>?_) fun hc0=>?_
 .refine aJ ?_;refine cN ?_;simp only[jP];rw[ax hc0]
 refine aF ?_;refine Pr ?_;refine aF ?_;refine cN ?_;simp only[jP];rw[ai ae]
def JN (T:List D->D->Prop):Prop:=∀(l:List Int) (i:Int),T [.sl 1 (l.map (D.int .i64)),.int .i64 i] (.int .i64 (jP l i))
def Qx (Y:Ctx):Prop:=JN (bq Y 479)
def Ll:aD:=⟨3,4,[⟨3,none⟩],bR,(sq (r1 [gm bm] 3 0) (sq (r1 [gm s0,gm s1,gx 479 [l0,l1] [[.sl 1 [.a]],[.a]],gm s2,gx 478 [l2,l3] gA,gm l4] 3 5) .ret))⟩
def w228 {Y:Ctx}(hm:(Y.at 0).bU)(h478:MY Y)(h479:Qx Y)(l:List Int)(i:Int)(n:Int)  (hp0:0<n/\n<=9223372036854775807):cZ Y Ll (.int .i64 (eY l i n)) [.sl 1 (l.map (D.int .i64)),.int .i64 i,.int .i64 n]:=by
 show bB _ _ _ [⟨_,_⟩,⟨_,_⟩,⟨_,_⟩,_] _;refine ak ?_;refine aJ ?_;refine aj (hc:=h479 l i) ?_;refine aE ?_;refine aj (hc:=h478 _ n hp0) ?_;refine aB ?_;exact cN rfl
def Jl (T:List D->D->Prop):Prop:=∀(l:List Int) (i:Int) (n:Int),(0<n/\n<=9223372036854775807)->T [.sl 1 (l.map (D.int .i64)),.int .i64 i,.int .i64 n] (.int .i64 (eY l i n))
def FL (Y:Ctx):Prop:=Jl (bq Y 228)
def Lm:aD:=⟨1,2,fY,bR,(sq (r1 [gm cse] 1 0) (sq (r1 [gn (.build [.str [],.str [],.str [],.str [],.str []] [(0,1,(cs [97,112,112])),(1,1,(cs [98])),(2,1,(cs [99])),(3,1,(cs [100])),(4,1,(cs [101,45,50]))]),gm s0,gx 478 [l1,Lg] gA,gn (.ixA 5 1 false l0 l2),gm l3] 1 4) .ret))⟩
def w227 {Y:Ctx}(hm:(Y.at 0).bU)(h478:MY Y)(n:Int)   :cZ Y Lm (.str (ep n)) [.int .i64 n]:=by
 show bB _ _ _ [⟨_,_⟩,_] _;refine ak ?_;refine aB ?_;have hr:=mO n 5 aG;refine cW (OJ.map D.str) ?_;refine aE ?_;refine aj (hc:=h478 n 5 aG) ?_;refine IG (n%5).toNat (.str OJ[(n%5).toNat]!) (hj:=fun _=>ae) (hb:=fun _=>ae) (hv:=fun _=>tn OJ (by show _<5;omega)) ?_;refine aB ?_;exact cG rfl
def Jk (T:List D->D->Prop):Prop:=∀(n:Int),T [.int .i64 n] (.str (ep n))
def Tl (Y:Ctx):Prop:=Jk (bq Y 227)
def Lq:aD:=⟨1,2,fY,bR,(sq (r1 [gm cse] 1 0) (sq (r1 [gn (.build [.str [],.str [],.str [],.str []] [(0,1,(cs [120])),(1,1,(cs [121])),(2,1,(cs [122])),(3,1,(cs [119,95,49]))]),gm s0,gx 478 [l1,rX] gA,gn (.ixA 4 1 false l0 l2),gm l3] 1 4) .ret))⟩
def w481 {Y:Ctx}(hm:(Y.at 0).bU)(h478:MY Y)(n:Int)   :cZ Y Lq (.str (lz n)) [.int .i64 n]:=by
 show bB _ _ _ [⟨_,_⟩,_] _;refine ak ?_;refine aB ?_;have hr:=mO n 4 aG;refine cW (Sd.map D.str) ?_;refine aE ?_;refine aj (hc:=h478 n 4 aG) ?_;refine IG (n%4).toNat (.str Sd[(n%4).toNat]!) (hj:=fun _=>ae) (hb:=fun _=>ae) (hv:=fun _=>tn Sd (by show _<4;omega)) ?_;refine aB ?_;exact cG rfl
def JP (T:List D->D->Prop):Prop:=∀(n:Int),T [.int .i64 n] (.str (lz n))
def Tw (Y:Ctx):Prop:=JP (bq Y 481)
def Oo:aD:=⟨2,6,[⟨2,none⟩],bR,(sq (r1 [gm cse] 2 0) (sq (r1 [gn (.build [.int .i64 0,.int .i64 0,.int .i64 0,.int .i64 0,.int .i64 0,.int .i64 0] [(0,1,C8),(1,1,MO),(2,1,uE),(3,1,k9),(4,1,b7),(5,1,lQ)]),gb 6 (.c (.agg [.int .i64 0,.int .i64 0,.int .i64 0,.int .i64 0,.int .i64 0,.int .i64 0])),gt 6 l1 l0] 3 1) (sq (r2 [gm s0,gm s1,gx 228 [l0,l1,uE] [[.sl 1 [.a]],[.a],[.a]],gn (.iaP 6 1 s3 l2),gd l3,gm s0,gm s1,av l6 b7,gx 228 [l5,l7,k9] [[.sl 1 [.a]],[.a],[.a]],gm s0,gm s1,av l10 lQ,gx 228 [l9,gF,lQ] [[.sl 1 [.a]],[.a],[.a]],gn (.build [.int .i64 0,.int .i64 0,.int .i64 0,.str [],.str []] [(0,1,l8),(1,1,iU)]),gn (.build [.int .i64 0,.int .i64 0,.int .i64 0,.int .i64 0,.int .i64 0,.str [],.str []] [(0,1,l4),(1,1,k9),(2,5,jR)]),gb 7 (.c (.agg [.int .i64 0,.int .i64 0,.int .i64 0,.int .i64 0,.int .i64 0,.str [],.str []])),gt 7 me kE] 4 15) (sq (sq (r1 [gf 0 s4,gd l0,aL l1 C8] 5 2) (.cond s5 (sq (r1 [gm (cs [42])] 2 0) .ret) .skip)) (sq (r1 [gk 7 true s4,gx 482 [l0] Qo,gm l1] 2 2) .ret)))))⟩
def w230 {Y:Ctx}(hm:(Y.at 0).bU)(h228:FL Y)(h482:Qy Y)(l:List Int)(i:Int)  (hp0:0<=i/\i<=4000000):cZ Y Oo (.str (su l i)) [.sl 1 (l.map (D.int .i64)),.int .i64 i]:=by
 show bB _ _ _ [⟨_,_⟩,⟨_,_⟩,_,_,_,_] _;refine ak ?_;refine aB ?_;refine cW (GU.map (D.int .i64)) ?_;refine aE ?_;refine a7 (.agg (GU.map (D.int .i64))) (he:=bg) ?_;refine ay ?_;have hr:=dh l i 6 aG;refine ay ?_;refine aj (hc:=h228 l (i) 6 aG) ?_;refine sF (eY l i 6).toNat (hj:=fun _=>ae) (hb:=fun _=>ae) ?_;refine bD (v:=.int .i64 GU[(eY l i 6).toNat]!) (hv:=fun _=>GB GU (by show _<6;omega) rfl) (ho:=ae) ?_;refine aB ?_;refine aj (hc:=h228 l (i+1) 3 aG) ?_;refine aB ?_;refine aj (hc:=h228 l (i+2) 2 aG) ?_;refine bI (c9.D (wv l i).v) ?_;refine bI (dc.D (wv l i)) ?_;refine aE ?_;refine a7 (dc.D (wv l i)) (he:=bg) ?_;refine aF ?_;refine bD (v:=.int .i64 (wv l i).op) ?_;refine ay ?_;refine cC (fun hc0=>?_) fun hc0=>?_
 .refine aJ ?_;refine cG ?_;unfold su;rw[ax hc0]
 refine ay ?_;refine cH (d:=dc.D (wv l i)) ?_;refine aj (hc:=h482 (wv l i) (QZ l i)) ?_;refine aB ?_;refine cG ?_;unfold su;rw[ai hc0]
def Jn (T:List D->D->Prop):Prop:=∀(l:List Int) (i:Int),(0<=i/\i<=4000000)->T [.sl 1 (l.map (D.int .i64)),.int .i64 i] (.str (su l i))
def Tm (Y:Ctx):Prop:=Jn (bq Y 230)
def Lo:aD:=⟨2,5,[⟨2,none⟩],bR,(sq (r1 [gm cse] 2 0) (sq (r1 [gm s0,gm s1,gx 228 [l0,l1,uE] [[.sl 1 [.a]],[.a],[.a]],gm l2] 3 3) (sq (sq (r1 [gm s3,cR l0 lQ] 4 1) (.cond s4 (sq (r1 [gm cse] 2 0) .ret) .skip)) (sq (r2 [gn (.build [.str [],.str [],.str []] [(0,1,(cs [111,115])),(1,1,(cs [97,114,99,104])),(2,1,(cs [97,98,105]))]),gm s3,gn (.ixA 3 1 false l0 l1),gn (.build [.str [],.str []] [(0,1,(cs [32,61,32])),(1,1,(cs [32,33,61,32]))]),gm s0,gm s1,av l5 b7,gx 228 [l4,l6,lQ] [[.sl 1 [.a]],[.a],[.a]],gn (.ixA 2 1 false l3 l7),av l2 l8,gm s0,gm s1,av gF b7,gx 228 [l10,iU,k9] [[.sl 1 [.a]],[.a],[.a]],av b7 jR,gx 481 [kE] bR,av l9 me,gm nC] 2 17) .ret))))⟩
def w231 {Y:Ctx}(hm:(Y.at 0).bU)(h228:FL Y)(h481:Tw Y)(l:List Int)(i:Int)  (hp0:0<=i/\i<=4000000):cZ Y Lo (.str (lv l i)) [.sl 1 (l.map (D.int .i64)),.int .i64 i]:=by
 show bB _ _ _ [⟨_,_⟩,⟨_,_⟩,_,_,_] _;refine ak ?_;refine aJ ?_;refine aj (hc:=h228 l (i) 6 aG) ?_;refine aW ?_;refine aw (fun hc0=>?_) (fun hc0=>?_)
 .try simp only[eh]at hc0
  refine aJ ?_;refine cG ?_;unfold lv;rw[ax hc0]
 simp only[bA]at hc0;have hr:=dh l i 6 aG;have hr2:=dh l (i+1) 2 aG;have hr3:=dh l (i+1) 3 aG;have hw:=uC (1+eY l (i+1) 3);have hk:=Lj (eY l i 6).toNat ae;have he:=NP (eY l (i+1) 2).toNat ae;refine ay ?_;refine cW (AU.map D.str) ?_;refine aE ?_;refine IG (eY l i 6).toNat (.str AU[(eY l i 6).toNat]!) (hj:=fun _=>ae) (hb:=fun _=>ae) (hv:=fun _=>tn AU (by show _<3;omega)) ?_;refine cW (KS.map D.str) ?_;refine aB ?_;refine aj (hc:=h228 l (i+1) 2 aG) ?_;refine IG (eY l (i+1) 2).toNat (.str KS[(eY l (i+1) 2).toNat]!) (hj:=fun _=>ae) (hb:=fun _=>ae) (hv:=fun _=>tn KS (by show _<2;omega)) ?_;refine cP (hb:=fun _=>ae) ?_;refine aB ?_;refine aj (hc:=h228 l (i+1) 3 aG) ?_;refine aE ?_;refine aj (hc:=h481 _) ?_;refine cP (hb:=fun _=>by simp only[bJ];omega) ?_;refine aB ?_;refine cG ?_;unfold lv;rw[ai hc0]
def Jo (T:List D->D->Prop):Prop:=∀(l:List Int) (i:Int),(0<=i/\i<=4000000)->T [.sl 1 (l.map (D.int .i64)),.int .i64 i] (.str (lv l i))
def Tn (Y:Ctx):Prop:=Jo (bq Y 231)
def Lp:aD:=⟨4,8,[⟨4,some (4,true)⟩],[[.a,.a,.sl 1 [.a],.a]],(sq (r1 [gb 4 (.c (.agg [.str [],.str [],.aA,.bool false]))] 4 0) (sq (r1 [gm s2,av l0 b7,gm s0,gm s1,gx 228 [l2,l3,rX] [[.sl 1 [.a]],[.a],[.a]],av l1 l4,gx 227 [l5] bR,gm s0,gm s1,av l8 b7,gx 230 [l7,l9] [[.sl 1 [.a]],[.a]],gm s0,gm s1,av iU rX,gx 228 [gF,jR,k9] [[.sl 1 [.a]],[.a],[.a]],aL kE bm,gn (.build [.str [],.str [],.aA,.bool false] [(0,1,l6),(1,1,l10),(3,1,me)]),gb 4 (.c (.agg [.str [],.str [],.aA,.bool false])),gt 4 rF nC] 7 17) (sq (sq (r1 [gm s0,gm s1,av l1 Lg,gx 228 [l0,l2,Lg] [[.sl 1 [.a]],[.a],[.a]],gm l3] 5 4) (sq (r1 [gm s3,gm l0,gmt 1 s5,bT 1 (dY l2 lQ),ei l1 l3] 6 4) (.cond s6 (rg [gn (.bsl 1 (.str []) 2 [(0,(cs [120])),(1,(cs [121]))]),gm s5,ek l1 lQ,gn (.slA 1 l0 none (some l2)),gf 2 s7,gt 1 l4 l3] []) .skip))) (sq (rg [gk 4 true s7,gt 4 s4 l0] []) .ret))))⟩
def w480 {Y:Ctx}(hm:(Y.at 0).bU)(h227:Tl Y)(h228:FL Y)(h230:Tm Y)(l:List Int)(i:Int)(own:Int)(alone:Bool)  (hp0:0<=i/\i<=3000000)(hp1:0<=own/\own<=1000000):cZ Y Lp (cg.D (lx l i own alone)) [.sl 1 (l.map (D.int .i64)),.int .i64 i,.int .i64 own,.bool alone]:=by
 show bB _ _ _ [⟨_,_⟩,⟨_,_⟩,⟨_,_⟩,⟨_,_⟩,_,_,_,_] _;refine ak ?_;refine aB ?_;have hr:=dh l i 4 aG;refine aF ?_;refine aj (hc:=h228 l (i) 4 aG) ?_;refine aE ?_;refine aj (hc:=h227 (own+1+eY l i 4)) ?_;refine aB ?_;refine aj (hc:=h230 l (i+1) ae) ?_;refine aB ?_;refine aj (hc:=h228 l (i+4) 3 aG) ?_;refine aE ?_;refine bI (.agg [.str (ep (own+1+eY l i 4)),.str (su l (i+1)),.aA,.bool (decide (eY l (i+4) 3=0))]) ?_;refine aE ?_;refine a7 (.agg [.str (ep (own+1+eY l i 4)),.str (su l (i+1)),.aA,.bool (decide (eY l (i+4) 3=0))]) (he:=bg) ?_;refine aH ?_;refine aj (hc:=h228 l (i+5) 5 aG) ?_;refine aF ?_;have hr5:=dh l (i+5) 5 aG;refine aH ?_;refine cC (fun hc0=>?_) fun hc0=>?_
 .refine aE ?_;refine cS (zJ.map D.str) ?_;refine ay ?_;refine tO (eY l (i+5) 5-2).toNat (hj:=fun _=>ae) (hb:=fun _=>ae) ?_;refine aE ?_;refine a7 (.agg [.str (ep (own+1+eY l i 4)),.str (su l (i+1)),(.own 30 1 0 (eY l (i+5) 5-2).toNat),.bool (decide (eY l (i+4) 3=0))]) (he:=bg) ?_;refine aE ?_;have hk:(eY l (i+5) 5-2).toNat<=zJ.length:=by show _<=2;omega
  refine fV 30 ?_ (he:=by simp only[sX,mJ,oe,uy,yu,dy,Nat.reduceEqDiff,bo,br,fR,dS,dT,fP,fQ,cd,cb,aS,de,bX,reduceCtorEq,az,aC,Nat.reduceAdd,Nat.reduceLeDiff,hk,<-List.map_take];exact rfl) (hm:=by simp only[sX,mJ,oe,uy,yu,dy,Nat.reduceEqDiff,bo,br,fR,dS,dT,fP,fQ,cd,cb,aS,de,bX,reduceCtorEq,az,aC,Nat.reduceAdd,Nat.reduceLeDiff,hk,<-List.map_take];exact rfl);refine aE ?_;refine cH (d:=(.agg [.str (ep (own+1+eY l i 4)),.str (su l (i+1)),(.sl 1 ((zJ.take (eY l (i+5) 5-2).toNat).map D.str)),.bool (decide (eY l (i+4) 3=0))])) ?_;refine a7 (.agg [.str (ep (own+1+eY l i 4)),.str (su l (i+1)),(.sl 1 ((zJ.take (eY l (i+5) 5-2).toNat).map D.str)),.bool (decide (eY l (i+4) 3=0))]) (he:=bg) ?_;refine ay ?_;refine bE (?_);simp only[cg.D,lx,nR];rw[ax hc0];rfl
 refine aE ?_;have hf:nR l i alone=[]:=ai (by rintro⟨h1,h2⟩;rcases hc0 with h|h;rw[h]at h1;cases h1;exact h h2);refine Jd [(0,.buf 4 [.agg [.str [],.str [],.aA,.bool false]]),(18,.buf 4 [cg.D (lx l i own alone)])] (.id ah (.bf ah (.cons (by simp only[cg.D,lx,hf];exact .ag (.cons (.refl _) (.cons (.refl _) (.cons (.nil 1) (.cons (.refl _) .nil))))) .nil) .nil)) ?_;refine aE ?_;refine cH (d:=(cg.D (lx l i own alone))) ?_;refine a7 (cg.D (lx l i own alone)) (he:=bg) ?_;refine ay ?_;refine bE (?_);rfl
def JO (T:List D->D->Prop):Prop:=∀(l:List Int) (i:Int) (own:Int) (alone:Bool),(0<=i/\i<=3000000)->(0<=own/\own<=1000000)->T [.sl 1 (l.map (D.int .i64)),.int .i64 i,.int .i64 own,.bool alone] (cg.D (lx l i own alone))
def WH (Y:Ctx):Prop:=JO (bq Y 480)
def Ln:aD:=⟨3,10,[⟨3,some (3,true)⟩],[[.sl 4 [.a,.a,.sl 1 [.a],.a],.a,.a]],(sq (r1 [gb 3 (.c (.agg [.aA,.str [],.str []]))] 3 0) (sq (r1 [gb 3 (.c (.agg [.aA,.str [],.str []]))] 8 0) (sq (r1 [gm b7] 6 0) (sq (sq (r1 [gm s0,gm s1,gx 228 [l0,l1,Lg] [[.sl 1 [.a]],[.a],[.a]],aL l2 b7] 4 3) (.cond s4 (r1 [gm lQ] 6 0) .skip)) (sq (sq (r1 [gm bm] 5 0) (.block 0 (.loop (sq (sq (r1 [gm s5,gm s6,aP l0 l1] 7 2) (eO s7 0)) (sq (.block 1 (rt [gf 0 s8,gd l0,gm s0,gm s1,av l3 b7,gm s5,gn (.bin .mul uE l5),av l4 l6,gm s2,gm s6,aL l9 b7,gx 480 [l2,l7,l8,l10] [[.sl 1 [.a]],[.a],[.a],[.a]],gn (.bsl 4 (.agg [.str [],.str [],.aA,.bool false]) 1 [(0,gF)]),gn (.app 4 l1 iU),gf 0 s8,gt 1 kE jR] [])) (r1 [gm s5,av l0 b7,gm l1] 5 2)))))) (sq (rg [gm s0,gm s1,av l1 (i6 14),gx 231 [l0,l2] [[.sl 1 [.a]],[.a]],gf 1 s8,gt 1 l4 l3] []) (sq (sq (r1 [gm s0,gm s1,av l1 (i6 16),gx 228 [l0,l2,rX] [[.sl 1 [.a]],[.a],[.a]],aL l3 b7] 9 4) (.cond s9 (rg [gm s0,gm s1,av l1 (i6 17),gx 479 [l0,l2] [[.sl 1 [.a]],[.a]],gx 481 [l3] bR,gf 2 s8,gt 1 l5 l4] []) .skip)) (sq (rg [gk 3 true s8,gt 3 s3 l0] []) .ret))))))))⟩
def w229 (h228:FL Y)(h231:Tn Y)(h479:Qx Y)(h480:WH Y)(h481:Tw Y)(l:List Int)(i:Int)(own:Int)  (hp0:0<=i/\i<=2000000)(hp1:0<=own/\own<=1000000):cZ Y Ln (bS.D (gD l i own)) [.sl 1 (l.map (D.int .i64)),.int .i64 i,.int .i64 own]:=by
 show bB _ _ _ [⟨_,_⟩,⟨_,_⟩,⟨_,_⟩,_,_,_,_,_,_,_] _;refine ak ?_;refine gJ ?_;refine aj (hc:=h228 l (i) 5 aG) ?_;refine ay ?_;refine qL hm (ι:=Unit) (fun _=>[⟨true,.sl 1 (l.map (D.int .i64))⟩,⟨true,.int .i64 i⟩,⟨true,.int .i64 own⟩,⟨true,.ptr 0 3 0 0⟩,.un,.un,⟨true,.int .i64 (e7 l i:Nat)⟩,.un,⟨true,.ptr 1 3 0 0⟩,.un]) (fun _=>[(0,.buf 3 [.agg [.aA,.str [],.str []]]),(1,.buf 3 [.agg [.aA,.str [],.str []]])]) 20 (fun _=>True) ?_ ?_
 .refine eV (fun hc0=>?_) fun hc0=>?_
  .refine aF ?_;have hmn:((e7 l i:Nat):Int)=2:=by simp[e7,hc0]
   exact⟨(),trivial,(aU.to [(0,0),(1,1)] ah ah (by repeat(first|exact dn.nil|refine dn.un ?_|refine dn.eq ah ?_|refine dn.nl (ar (D.int .i64) hmn) ah ?_)) qt)⟩
  refine ay ?_;have hmn:((e7 l i:Nat):Int)=1:=by simp[e7,hc0]
  exact⟨(),trivial,(aU.to [(0,0),(1,1)] ah ah (by repeat(first|exact dn.nil|refine dn.un ?_|refine dn.eq ah ?_|refine dn.nl (ar (D.int .i64) hmn) ah ?_)) qt)⟩
 .rintro _-
  have hml:=yz l i;refine aF ?_;refine bc hm (ι:=(Nat×List cg)) (fun p=>[⟨true,.sl 1 (l.map (D.int .i64))⟩,⟨true,.int .i64 i⟩,⟨true,.int .i64 own⟩,⟨true,.ptr 0 3 0 0⟩,.un,⟨true,.int .i64 (p.1:Nat)⟩,⟨true,.int .i64 (e7 l i:Nat)⟩,.un,⟨true,.ptr 1 3 0 0⟩,.un]) (fun p=>[(0,.buf 3 [.agg [.aA,.str [],.str []]]),(1,.buf 3 [(.agg [.own 2 4 0 p.2.length,.str [],.str []])]),(2,.buf 4 (p.2.map cg.D))]) 40 (fun p=>p.1<=e7 l i/\p.2=sr l i own p.1) (fun p=>e7 l i-p.1) (0,[]) ⟨dP,rfl⟩ (aU.to [(0,0),(1,1)] ah ah nW (by refine fj ?_;refine bh.ni 1 ah ah (by exact⟨_,_,rfl,⟨_,rfl,⟨_,_,rfl,Or.inr ⟨_,_,_,rfl⟩,⟨_,_,rfl,⟨rfl,rfl⟩,⟨_,_,rfl,⟨rfl,rfl⟩,rfl⟩⟩⟩⟩,rfl⟩) ?_;refine bh.mt ah ah ah ah ?_;exact bh.nil)) ?_;rintro⟨k,ws⟩ ⟨hk,hw⟩;dsimp only at hk hw⊢;have hwl:ws.length=k:=by rw[hw];simp[sr]
  refine aH ?_;refine aw (fun hc1=>?_) (fun hc1=>?_)
  .try simp only[eh]at hc1
   refine cU ?_;refine nH ?_;refine aF ?_;refine aj (hc:=h480 l (i+1+6*(k:Nat)) own (decide ((e7 l i:Int)=1)) ae hp1) ?_;refine cS [cg.D (lx l (i+1+6*(k:Nat)) own (decide ((e7 l i:Int)=1)))] ?_;refine nb (q:=cg.D) (xs:=ws) (e:=lx l (i+1+6*(k:Nat)) own (decide ((e7 l i:Int)=1))) ?_;refine aE ?_;refine a7 (.agg [.own 56 4 0 (ws++[lx l (i+1+6*(k:Nat)) own (decide ((e7 l i:Int)=1))]).length,.str [],.str []]) (he:=bg) ?_;refine bM ?_;exact⟨(k+1,ws++[lx l (i+1+6*(k:Nat)) own (decide ((e7 l i:Int)=1))]),⟨dP,by dsimp only;rw[K2,hw]⟩,dP,(aU.to [(0,0),(1,1),(56,2)] ah ah nW (by refine fj ?_;refine bh.C9 ah ah ah ?_;refine bh.nl 56 ah ah rfl (bH (fun _=>rfl) _) ?_;exact bh.nil))⟩
  simp only[bA]at hc1;obtain rfl:k=e7 l i:=ae;refine aH ?_;refine aj (hc:=h231 l (i+14) ae) ?_;refine aE ?_;refine a7 (.agg [.own 2 4 0 ws.length,.str (lv l (i+14)),.str []]) (he:=bg) ?_;refine aH ?_;refine aj (hc:=h228 l (i+16) 4 aG) ?_;refine ay ?_;refine cC (fun hc2=>?_) fun hc2=>?_
  .refine aF ?_;refine aj (hc:=h479 l (i+17)) ?_;refine aj (hc:=h481 _) ?_;refine aE ?_;refine a7 (.agg [.own 2 4 0 ws.length,.str (lv l (i+14)),.str (lz (jP l (i+17)))]) (he:=bg) ?_;refine aE ?_;refine fV 2 ?_;refine aE ?_;refine cH (d:=(.agg [.sl 4 (ws.map cg.D),.str (lv l (i+14)),.str (lz (jP l (i+17)))])) ?_;refine a7 (.agg [.sl 4 (ws.map cg.D),.str (lv l (i+14)),.str (lz (jP l (i+17)))]) (he:=bg) ?_;refine ay ?_;refine bE (?_);simp only[bS.D,gD];rw[ax hc2,<-hw];rfl
  refine aE ?_;refine fV 2 ?_;refine aE ?_;refine cH (d:=(.agg [.sl 4 (ws.map cg.D),.str (lv l (i+14)),.str []])) ?_;refine a7 (.agg [.sl 4 (ws.map cg.D),.str (lv l (i+14)),.str []]) (he:=bg) ?_;refine ay ?_;refine bE (?_);simp only[bS.D,gD];rw[ai hc2,<-hw];rfl
def Jm (T:List D->D->Prop):Prop:=∀(l:List Int) (i:Int) (own:Int),(0<=i/\i<=2000000)->(0<=own/\own<=1000000)->T [.sl 1 (l.map (D.int .i64)),.int .i64 i,.int .i64 own] (bS.D (gD l i own))
def Wa (Y:Ctx):Prop:=Jm (bq Y 229)
def Oq:aD:=⟨2,6,[⟨2,none⟩],[[.sl 1 [.a]]],(sq (r1 [gm (.c (.aA))] 2 0) (sq (r1 [gm bm] 3 0) (sq (.block 0 (.loop (sq (sq (r1 [gm s3,gm s0,gl l1,aP l0 l2,gm l3,gmt 4 s0,gmt 4 s3,bT 4 (.ia 1 l5 l6),kZ 4 l7,gmt 4 s1,bT 4 (po l8 l9),ei l4 l10] 4 11) (eO s4 0)) (.block 1 (r1 [gm s3,av l0 b7,gm l1] 3 2))))) (sq (sq (r1 [gm s3,gm s0,gl l1,aP l0 l2,gm l3,gmt 4 s0,gmt 4 s3,bT 4 (.ia 1 l5 l6),kZ 4 l7,gmt 4 s1,bT 4 (cB l8 l9),ei l4 l10] 5 11) (.cond s5 (sq (r1 [gm s0,gm l0] 2 1) .ret) .skip)) (sq (r2 [gm s0,gm s3,gn (.slA 1 l0 none (some l1)),gn (.appN 1 l2),gm s1,gn (.bsl 1 (.str []) 1 [(0,l4)]),gn (.app 1 l3 l5),gm s0,gm s3,gn (.slA 1 l7 (some l8) none),gn (.app 1 l6 l9),gm l10] 2 11) .ret)))))⟩
def w483  (l:List au)(s:au)  (hp0:l.length<=1000):cZ Y Oq (.sl 1 ((gr l s).map D.str)) [.sl 1 (l.map D.str),.str s]:=by
 show bB _ _ _ [⟨_,_⟩,⟨_,_⟩,_,_,_,_] _;refine ak ?_;refine aJ ?_;refine bc hm (ι:=Nat) (fun i=>[⟨true,.sl 1 (l.map D.str)⟩,⟨true,.str s⟩,.un,⟨true,.int .i64 (i:Nat)⟩,.un,.un]) (fun i=>[]) 2 (fun i=>i<=kT s l) (fun i=>l.length-i) 0 (Nat.zero_le _) (dF []) ?_;rintro i hi;have hpl:=Ct s l;refine aJ ?_;intro u0;refine aF ?_;refine cM i ?_;refine cE (v:=.str l[i]!) ?_;refine aF ?_;refine aw (fun hc0=>?_) (fun hc0=>?_)
 .simp only[bp,aY]at hc0;have hip:i+1<=kT s l:=by
   by_cases he:i=kT s l
   .have h1:=va s l ae;rw[<-he,hc0.2]at h1;cases h1
   .omega
  refine cU ?_;exact⟨i+1,ae,ae,(dF [])⟩
 simp only[dI,bA]at hc0;obtain rfl:i=kT s l:=by
  by_cases he:i<kT s l
  .have h1:=Cu s l i he;rcases hc0 with h|h
   .omega
   .rw[h1]at h;cases h
  .omega
 refine aW ?_;intro u1;refine aF ?_;refine cM (kT s l) ?_;refine cE (v:=.str l[kT s l]!) ?_;refine aF ?_;refine cC (fun hc1=>?_) fun hc1=>?_
 .refine aH ?_;refine bE (?_);rw[gr,ax ⟨ae,hc1.2⟩];rfl
 refine aF ?_;refine tN (kT s l) ?_;refine IC (he:=pJ.sl) (n:=(l.take (kT s l)).length) (hn:=aQ) (hb:=by simp only[fA];omega) ?_;refine aE ?_;refine cS [.str s] ?_;refine nb (q:=D.str) (xs:=l.take (kT s l)) (e:=s) (hb:=by simp only[fA];omega) ?_;refine ay ?_;refine En (kT s l) ?_;refine Po (xs:=l.take (kT s l)++[s]) (ys:=l.drop (kT s l)) (he:=pJ.sl) (hb:=by simp only[bJ,fA,qN,az,aC];omega) ?_;refine ay ?_;refine fV 36 ?_;refine aE ?_;refine bE (?_);rw[gr,ai (by rintro⟨h1,h2⟩;rcases hc1 with h|h;omega;exact h h2)];rfl
def JQ (T:List D->D->Prop):Prop:=∀(l:List au) (s:au),(l.length<=1000)->T [.sl 1 (l.map D.str),.str s] (.sl 1 ((gr l s).map D.str))
def WI (Y:Ctx):Prop:=JQ (bq Y 483)
def Ab:aD:=⟨3,18,[⟨3,none⟩],[[.sl 2 [.a,.sl 1 [.a]]]],(sq (rg [gb 9 s2,gm (.c (.aA))] [(10,0),(3,1)]) (sq (r1 [gm (.c (.aA))] 17 0) (sq (r1 [gn (.build [.str [],.str [],.str [],.str []] [(0,1,(cs [100,101,102,97,117,108,116])),(1,1,(cs [120])),(2,1,(cs [121])),(3,1,(cs [122]))]),gb 4 (.c (.agg [.str [],.str [],.str [],.str []])),gt 4 l1 l0] 8 1) (sq (sq (r1 [gm bm] 4 0) (.block 0 (.loop (sq (sq (r1 [gm s4,aP l0 rX] 5 1) (eO s5 0)) (sq (.block 1 (sq (r1 [gm s0,gm s1,gm s4,av l1 l2,gx 479 [l0,l3] [[.sl 1 [.a]],[.a]],gm l4] 6 5) (sq (sq (r1 [gm s6,gx 478 [l0,k9] gA,aL l1 bm] 7 2) (.cond s7 (.exit 1) .skip)) (sq (r1 [gm s4,gn (.iaP 4 1 s8 l0),gd l1,gn (.build [.str [],.aA] [(0,1,l2)]),gb 2 (.c (.agg [.str [],.aA])),gt 2 l4 l3] 14 4) (sq (sq (r1 [gm bm] 9 0) (.block 2 (.loop (sq (sq (r1 [gm s9,gf 6 iQ,gd l1,gl l2,aP l0 l3,gm l4,gmt 5 s9,bT 5 (po l6 lQ),ei l5 l7] 11 8) (eO kH 2)) (sq (.block 3 (sq (r1 [gf 6 iQ,gd l0,gm s9,ga 3 l1 l2,gk 3 true l3,gb 3 (.c (.agg [.aA,.str [],.str []])),gt 3 l5 l4] 12 5) (sq (sq (r1 [gf 2 mS,gd l0,cj l1 cse,gm l2,gmt 3 s6,gmt 3 s9,bT 3 (vE k9 l5),bT 3 (.cvi .u64 l6),bT 3 (.bin .shr l4 l7),bT 3 (Np l8 b7),bT 3 (cB l9 b7),ei l3 l10] 13 11) (.cond rJ (rg [gf 1 rK,gd l0,gf 2 mS,gd l2,av (cs [63]) l3,gx 483 [l1,l4] [[.sl 1 [.a]],[.a]],gf 1 rK,gt 1 l6 l5] []) .skip)) (sq (r1 [gf 0 mS,gd l0,gl l1,aL l2 b7,gm l3,gmt 4 s6,gmt 4 s9,bT 4 (vE Lg l6),bT 4 (.cvi .u64 l7),bT 4 (.bin .shr l5 l8),bT 4 (Np l9 b7),bT 4 (cB l10 b7),ei l4 gF] 15 12) (.cond xa (rt [gf 1 rK,gd l0,gf 0 mS,gd l2,ga 4 l3 bm,gf 0 l4,gd l5,av l6 (cs [47]),av l7 (cs [120]),gx 483 [l1,l8] [[.sl 1 [.a]],[.a]],gf 1 rK,gt 1 l10 l9] []) .skip))))) (r1 [gm s9,av l0 b7,gm l1] 9 2)))))) (sq (sq (r1 [gm s4,aP l0 k9,gm l1,gmt 2 s6,bT 2 (.bin .shr l3 (iu 7)),bT 2 (Np l4 b7),bT 2 (cB l5 b7),ei l2 l6,gm l7,gmt 8 s0,gmt 8 s1,gmt 8 s4,bT 8 (vE l10 gF),bT 8 (vE iU b7),bT 8 (.call 479 [l9,jR] [[.sl 1 [.a]],[.a]]),bT 8 (.call 478 [kE,k9] gA),bT 8 (fo me bm),ei l8 nC] 16 17) (.cond FI (rt [gf 1 rK,gd l0,gm s4,av l2 b7,gn (.iaP 4 1 s8 l3),gd l4,gx 483 [l1,l5] [[.sl 1 [.a]],[.a]],gf 1 rK,gt 1 l7 l6] []) .skip)) (r1 [gm ET,gk 2 true rK,gn (.bsl 2 (.agg [.str [],.aA]) 1 [(0,l1)]),gn (.app 2 l0 l2),gm l3] 17 4))))))) (r1 [gm s4,av l0 b7,gm l1] 4 2)))))) (sq (r1 [gm ET,gm l0] 3 1) .ret)))))⟩
def w232 (h478:MY Y)(h479:Qx Y)(h483:WI Y)(l:List Int)(i:Int)(r:Rec)  (hp0:0<=i/\i<=2000000)(hp1:∀j:Nat,j<r.needs.length->r.needs[j]!.option.length<=100/\(r.needs[j]!.any.length=1->r.needs[j]!.any[0]!.name.length<=100)):cZ Y Ab (.sl 2 ((js l i r).map bW.D)) [.sl 1 (l.map (D.int .i64)),.int .i64 i,Rec.D r]:=by
 show bB _ _ _ [⟨_,_⟩,⟨_,_⟩,⟨_,_⟩,_,_,_,_,_,_,_,_,_,_,_,_,_,_,_] _;refine ak ?_;refine aW ?_;refine cW (mA.map D.str) ?_;refine aE ?_;refine a7 (.agg (mA.map D.str)) (he:=bg) ?_;refine aJ ?_;refine bc hm (ι:=(Nat×List bW)) (fun p=>[⟨true,.sl 1 (l.map (D.int .i64))⟩,⟨true,.int .i64 i⟩,.un,.un,⟨true,.int .i64 (p.1:Nat)⟩,.un,.un,.un,⟨true,.ptr 4 4 0 0⟩,.un,⟨true,.ptr 0 9 0 0⟩,.un,.un,.un,.un,.un,.un,⟨true,.own 1 2 0 p.2.length⟩]) (fun p=>[(0,.buf 9 [Rec.D r]),(4,.buf 4 [.agg (mA.map D.str)]),(1,.buf 2 (p.2.map bW.D))]) 30 (fun p=>p.1<=4/\p.2=N1 l i r p.1) (fun p=>4-p.1) (0,[]) ⟨dP,rfl⟩ (aU.to [(0,0),(4,4)] ah ah (by repeat(first|exact dn.nil|refine dn.un ?_|refine dn.eq ah ?_|refine dn.ni (Or.inr ⟨_,_,_,rfl⟩) ?_)) (by refine bh.gE ah ah dW ?_;refine bh.gE ah ah dW ?_;refine bh.mt ah ah ah ah ?_;exact bh.nil)) ?_;rintro⟨k,fs⟩ ⟨hk,hf⟩;dsimp only at hk hf⊢;have hfl:fs.length<=k:=by
  rw[hf];unfold N1;exact cT (List.length_filterMap_le _ _) aQ
 refine aJ ?_;refine aw (fun hc0=>?_) (fun hc0=>?_)
 .try simp only[eh]at hc0
  refine aW ?_;refine aj (hc:=h479 l (i+(k:Nat))) ?_;refine aJ ?_;refine aj (hc:=h478 _ 3 aG) ?_;refine ay ?_;refine cC (fun hc1=>?_) fun hc1=>?_
  .refine bM ?_;exact⟨(k+1,fs),⟨dP,by dsimp only;rw[hf,UF hc1]⟩,dP,(aU.to [(0,0),(4,4),(1,1)] ah ah nW (by refine bh.gE ah ah dW ?_;refine bh.gE ah ah dW ?_;refine bh.gE ah ah dW ?_;exact bh.nil))⟩
  refine aB ?_;refine sF k (hb:=fun _=>ae) ?_;refine bD (v:=.str mA[k]!) (hv:=fun _=>GB mA (by show _<4;omega) rfl) (ho:=ae) ?_;refine bI (.agg [.str mA[k]!,.aA]) ?_;refine aE ?_;refine a7 (.agg [.str mA[k]!,.aA]) (he:=bg) ?_;refine aE ?_;refine Jd [(0,.buf 9 [Rec.D r]),(4,.buf 4 [.agg (mA.map D.str)]),(1,.buf 2 (fs.map bW.D)),(45,.buf 2 [(.agg [.str mA[k]!,.sl 1 ((([]:List au)).map D.str)])])] (.id ah (.id ah (.id ah (.bf ah (.cons (.ag (.cons (.refl _) (.cons (.nil 1) .nil))) .nil) .nil)))) ?_;refine aF ?_;refine bc hm (ι:=(Nat×List au)) (fun p=>[⟨true,.sl 1 (l.map (D.int .i64))⟩,⟨true,.int .i64 i⟩,.un,.un,⟨true,.int .i64 (k:Nat)⟩,.un,⟨true,.int .i64 (jP l (i+(k:Nat)))⟩,.un,⟨true,.ptr 4 4 0 0⟩,⟨true,.int .i64 (p.1:Nat)⟩,⟨true,.ptr 0 9 0 0⟩,.un,.un,.un,⟨true,.ptr 2 2 0 0⟩,.un,.un,⟨true,.own 1 2 0 fs.length⟩]) (fun p=>[(0,.buf 9 [Rec.D r]),(4,.buf 4 [.agg (mA.map D.str)]),(1,.buf 2 (fs.map bW.D)),(2,.buf 2 [.agg [.str mA[k]!,.sl 1 (p.2.map D.str)]])]) 60 (fun p=>p.1<=min r.needs.length 2/\p.2=pF r (jP l (i+(k:Nat))) p.1) (fun p=>2-p.1) (0,[]) ⟨dP,rfl⟩ (aU.to [(0,0),(4,4),(1,1),(45,2)] ah ah nW (by refine bh.gE ah ah dW ?_;refine bh.gE ah ah dW ?_;refine bh.gE ah ah dW ?_;refine bh.nl 45 ah ah rfl ah ?_;exact bh.nil)) ?_;rintro⟨j,of⟩ ⟨hj,ho⟩;dsimp only at hj ho⊢;have hol:of.length<=4:=by
   have:=B3 r (jP l (i+(k:Nat))) j;rw[ho];omega
  refine aF ?_;refine bD (v:=.sl 3 (r.needs.map bS.D)) ?_;refine aE ?_;intro u0;refine aH ?_;refine aw (fun hc2=>?_) (fun hc2=>?_)
  .simp only[bp,aY]at hc2;obtain⟨hpo,hpn⟩:=hp1 j ae;refine aF ?_;refine bD (v:=.sl 3 (r.needs.map bS.D)) ?_;refine aE ?_;refine cM j (hb:=fun _=>ae) ?_;refine cE (v:=bS.D r.needs[j]!) (hi:=fun _=>ae) ?_;refine aE ?_;refine a7 (bS.D r.needs[j]!) (he:=bg) ?_;refine iw ?_;refine nF (3+(j:Nat)) (hb:=fun _=>by rw[IntKind.wrap_u64];omega) ?_;refine tM _ (hb:=fun _=>rfl) ?_;refine vb (F1 (jP l (i+(k:Nat))) (3+(j:Nat))) (hb:=fun _=>rfl) ?_;refine aB ?_;refine cC (fun hc3=>?_) fun hc3=>?_
   .refine ay ?_;refine bD (v:=.sl 1 (of.map D.str)) ?_;refine aE ?_;refine bD (v:=.str r.needs[j]!.option) ?_;refine cP (hb:=fun _=>by simp only[az,aC];omega) ?_;refine aj (hc:=h483 of ([63]++r.needs[j]!.option) ae) ?_;refine aE ?_;refine a7 (.agg [.str mA[k]!,.sl 1 ((gr of ([63]++r.needs[j]!.option)).map D.str)]) (he:=bg) ?_;refine aJ ?_;intro u1;refine aJ ?_;refine nF (5+(j:Nat)) (hb:=fun _=>by rw[IntKind.wrap_u64];omega) ?_;refine tM _ (hb:=fun _=>rfl) ?_;refine vb (F1 (jP l (i+(k:Nat))) (5+(j:Nat))) (hb:=fun _=>rfl) ?_;refine aB ?_;refine eV (fun hc4=>?_) fun hc4=>?_
    .refine aE ?_;have hpl:=qp of ([63]++r.needs[j]!.option);refine aE ?_;refine bD (v:=.sl 1 (((gr of ([63]++r.needs[j]!.option))).map D.str)) ?_;refine aE ?_;refine bD (v:=.sl 4 (r.needs[j]!.any.map cg.D)) ?_;refine cM 0 (hb:=fun _=>ae) ?_;refine aE ?_;refine cE (v:=.str r.needs[j]!.any[0]!.name) (hi:=fun _=>ae) ?_;refine cP (hb:=fun _=>by have:=hpn ae;simp only[az,aC];omega) ?_;refine cP (hb:=fun _=>by have:=hpn ae;simp only[bJ,az,aC];omega) ?_;refine aj (hc:=h483 (gr of ([63]++r.needs[j]!.option)) (r.needs[j]!.any[0]!.name++[47]++[120]) ae) ?_;refine aE ?_;refine a7 (.agg [.str mA[k]!,.sl 1 ((gr (gr of ([63]++r.needs[j]!.option)) (r.needs[j]!.any[0]!.name++[47]++[120])).map D.str)]) (he:=bg) ?_;refine bM ?_;have hA:N0 r (jP l (i+(k:Nat))) of j=gr of ([63]++r.needs[j]!.option):=ax hc3;have hB:SN r (jP l (i+(k:Nat))) (gr of ([63]++r.needs[j]!.option)) j=gr (gr of ([63]++r.needs[j]!.option)) (r.needs[j]!.any[0]!.name++[47]++[120]):=ax ⟨ae,hc4.2⟩;have hJ:pF r (jP l (i+(k:Nat))) (j+1)=(gr (gr of ([63]++r.needs[j]!.option)) (r.needs[j]!.any[0]!.name++[47]++[120])):=by rw[oc,SO,<-ho,hA,hB]
     exact⟨(j+1,(gr (gr of ([63]++r.needs[j]!.option)) (r.needs[j]!.any[0]!.name++[47]++[120]))),⟨dP,hJ.symm⟩,dP,(aU.to [(0,0),(4,4),(1,1),(2,2)] ah ah nW (by refine bh.gE ah ah dW ?_;refine bh.gE ah ah dW ?_;refine bh.gE ah ah dW ?_;refine bh.gE ah ah dW ?_;exact bh.nil))⟩
    refine bM ?_;have hA:N0 r (jP l (i+(k:Nat))) of j=gr of ([63]++r.needs[j]!.option):=ax hc3;have hB:SN r (jP l (i+(k:Nat))) (gr of ([63]++r.needs[j]!.option)) j=(gr of ([63]++r.needs[j]!.option)):=ai (by rintro⟨h1,h2⟩;rcases hc4 with h|h;omega;exact h h2);have hJ:pF r (jP l (i+(k:Nat))) (j+1)=(gr of ([63]++r.needs[j]!.option)):=by rw[oc,SO,<-ho,hA,hB]
    exact⟨(j+1,(gr of ([63]++r.needs[j]!.option))),⟨dP,hJ.symm⟩,dP,(aU.to [(0,0),(4,4),(1,1),(2,2)] ah ah nW (by refine bh.gE ah ah dW ?_;refine bh.gE ah ah dW ?_;refine bh.gE ah ah dW ?_;refine bh.gE ah ah dW ?_;exact bh.nil))⟩
   refine aJ ?_;intro u1;refine aJ ?_;refine nF (5+(j:Nat)) (hb:=fun _=>by rw[IntKind.wrap_u64];omega) ?_;refine tM _ (hb:=fun _=>rfl) ?_;refine vb (F1 (jP l (i+(k:Nat))) (5+(j:Nat))) (hb:=fun _=>rfl) ?_;refine aB ?_;refine eV (fun hc4=>?_) fun hc4=>?_
   .refine aE ?_;have hpl:=qp of ([63]++r.needs[j]!.option);refine aE ?_;refine bD (v:=.sl 1 ((of).map D.str)) ?_;refine aE ?_;refine bD (v:=.sl 4 (r.needs[j]!.any.map cg.D)) ?_;refine cM 0 (hb:=fun _=>ae) ?_;refine aE ?_;refine cE (v:=.str r.needs[j]!.any[0]!.name) (hi:=fun _=>ae) ?_;refine cP (hb:=fun _=>by have:=hpn ae;simp only[az,aC];omega) ?_;refine cP (hb:=fun _=>by have:=hpn ae;simp only[bJ,az,aC];omega) ?_;refine aj (hc:=h483 of (r.needs[j]!.any[0]!.name++[47]++[120]) ae) ?_;refine aE ?_;refine a7 (.agg [.str mA[k]!,.sl 1 ((gr of (r.needs[j]!.any[0]!.name++[47]++[120])).map D.str)]) (he:=bg) ?_;refine bM ?_;have hA:N0 r (jP l (i+(k:Nat))) of j=of:=ai (by rintro⟨h1,h2⟩;rcases hc3 with h|h;exact h1 h;exact h h2);have hB:SN r (jP l (i+(k:Nat))) of j=gr of (r.needs[j]!.any[0]!.name++[47]++[120]):=ax ⟨ae,hc4.2⟩;have hJ:pF r (jP l (i+(k:Nat))) (j+1)=(gr of (r.needs[j]!.any[0]!.name++[47]++[120])):=by rw[oc,SO,<-ho,hA,hB]
    exact⟨(j+1,(gr of (r.needs[j]!.any[0]!.name++[47]++[120]))),⟨dP,hJ.symm⟩,dP,(aU.to [(0,0),(4,4),(1,1),(2,2)] ah ah nW (by refine bh.gE ah ah dW ?_;refine bh.gE ah ah dW ?_;refine bh.gE ah ah dW ?_;refine bh.gE ah ah dW ?_;exact bh.nil))⟩
   refine bM ?_;have hA:N0 r (jP l (i+(k:Nat))) of j=of:=ai (by rintro⟨h1,h2⟩;rcases hc3 with h|h;exact h1 h;exact h h2);have hB:SN r (jP l (i+(k:Nat))) of j=of:=ai (by rintro⟨h1,h2⟩;rcases hc4 with h|h;omega;exact h h2);have hJ:pF r (jP l (i+(k:Nat))) (j+1)=of:=by rw[oc,SO,<-ho,hA,hB]
   exact⟨(j+1,of),⟨dP,hJ.symm⟩,dP,(aU.to [(0,0),(4,4),(1,1),(2,2)] ah ah nW (by refine bh.gE ah ah dW ?_;refine bh.gE ah ah dW ?_;refine bh.gE ah ah dW ?_;refine bh.gE ah ah dW ?_;exact bh.nil))⟩
  simp only[dI,bA]at hc2;obtain rfl:j=min r.needs.length 2:=ae;subst ho;refine bM ?_;refine tM _ (hb:=fun _=>rfl) ?_;refine vb (F1 (jP l (i+(k:Nat))) 7) (hb:=fun _=>rfl) ?_;refine bM ?_;refine df (hc:=fun hf=>h479 l (i+(k:Nat)+1)) ?_;refine df (hc:=fun hf=>h478 _ 3 aG) ?_;refine aB ?_;refine cC (fun hc5=>?_) fun hc5=>?_
  .refine ay ?_;refine bD (v:=.sl 1 ((pF r (jP l (i+(k:Nat))) (min r.needs.length 2)).map D.str)) ?_;refine ay ?_;refine sF (k+1) (hb:=fun _=>ae) ?_;refine bD (v:=.str mA[k+1]!) (hv:=fun _=>GB mA (by show _<4;omega) rfl) (ho:=ae) ?_;refine aj (hc:=h483 (pF r (jP l (i+(k:Nat))) (min r.needs.length 2)) mA[k+1]! ae) ?_;refine aE ?_;refine a7 (.agg [.str mA[k]!,.sl 1 ((gr (pF r (jP l (i+(k:Nat))) (min r.needs.length 2)) mA[k+1]!).map D.str)]) (he:=bg) ?_;refine aB ?_;refine cH (d:=bW.D ⟨mA[k]!,gr (pF r (jP l (i+(k:Nat))) (min r.needs.length 2)) mA[k+1]!⟩) ?_;refine cS [bW.D ⟨mA[k]!,gr (pF r (jP l (i+(k:Nat))) (min r.needs.length 2)) mA[k+1]!⟩] ?_;refine nb (q:=bW.D) (xs:=fs) (e:=⟨mA[k]!,gr (pF r (jP l (i+(k:Nat))) (min r.needs.length 2)) mA[k+1]!⟩) ?_;refine cU ?_;have hC:Q9 l i (jP l (i+(k:Nat))) k (pF r (jP l (i+(k:Nat))) (min r.needs.length 2))=gr (pF r (jP l (i+(k:Nat))) (min r.needs.length 2)) mA[k+1]! :=ax ⟨⟨ae,hc5.1.2⟩,by rw[show i+(k:Nat)+1=i+(k:Int)+1 by omega];exact hc5.2⟩;exact⟨(k+1,fs++[⟨mA[k]!,gr (pF r (jP l (i+(k:Nat))) (min r.needs.length 2)) mA[k+1]!⟩]),⟨dP,by dsimp only;rw[hf];exact(HV hc1 hC).symm⟩,dP,(aU.to [(0,0),(4,4),(99,1)] ah ah (by repeat(first|exact dn.nil|refine dn.un ?_|refine dn.eq ah ?_|refine dn.ni (Or.inr ⟨_,_,_,rfl⟩) ?_)) (by refine bh.gE ah ah dW ?_;refine bh.gE ah ah dW ?_;refine bh.nl 99 ah ah rfl (bH (fun _=>rfl) _) ?_;exact bh.nil))⟩
  refine aB ?_;refine cH (d:=bW.D ⟨mA[k]!,(pF r (jP l (i+(k:Nat))) (min r.needs.length 2))⟩) ?_;refine cS [bW.D ⟨mA[k]!,(pF r (jP l (i+(k:Nat))) (min r.needs.length 2))⟩] ?_;refine nb (q:=bW.D) (xs:=fs) (e:=⟨mA[k]!,(pF r (jP l (i+(k:Nat))) (min r.needs.length 2))⟩) ?_;refine cU ?_;have hC:Q9 l i (jP l (i+(k:Nat))) k (pF r (jP l (i+(k:Nat))) (min r.needs.length 2))=(pF r (jP l (i+(k:Nat))) (min r.needs.length 2)):=ai (by rintro⟨⟨h1,h2⟩,h3⟩;rcases hc5 with(h|h)|h;omega;exact h h2;exact h3 h);exact⟨(k+1,fs++[⟨mA[k]!,(pF r (jP l (i+(k:Nat))) (min r.needs.length 2))⟩]),⟨dP,by dsimp only;rw[hf];exact(HV hc1 hC).symm⟩,dP,(aU.to [(0,0),(4,4),(90,1)] ah ah (by repeat(first|exact dn.nil|refine dn.un ?_|refine dn.eq ah ?_|refine dn.ni (Or.inr ⟨_,_,_,rfl⟩) ?_)) (by refine bh.gE ah ah dW ?_;refine bh.gE ah ah dW ?_;refine bh.nl 90 ah ah rfl (bH (fun _=>rfl) _) ?_;exact bh.nil))⟩
 simp only[bA]at hc0;obtain rfl:k=4:=ae;refine aH ?_;refine fV 1 ?_;refine aE ?_;refine bE (?_);rw[hf];rfl
def Jp (T:List D->D->Prop):Prop:=∀(l:List Int) (i:Int) (r:Rec),(0<=i/\i<=2000000)->(∀j:Nat,j<r.needs.length->r.needs[j]!.option.length<=100/\(r.needs[j]!.any.length=1->r.needs[j]!.any[0]!.name.length<=100))->T [.sl 1 (l.map (D.int .i64)),.int .i64 i,Rec.D r] (.sl 2 ((js l i r).map bW.D))
def Wb (Y:Ctx):Prop:=Jp (bq Y 232)
def D0:aD:=⟨3,10,[⟨3,some (9,true)⟩],[[.a,.a,.a,.a,.a,.a,.sl 3 [.sl 4 [.a,.a,.sl 1 [.a],.a],.a,.a],.sl 3 [.a,.a,.a],.sl 2 [.a,.sl 1 [.a]]]],(sq (r1 [gb 9 (.c (.agg [.str [],.int .i64 0,.int .i64 0,.int .i64 0,.str [],.str [],.aA,.aA,.aA]))] 3 0) (sq (r1 [gm s2,gx 227 [l0] bR,gm s0,gm s1,gx 228 [l2,l3,k9] [[.sl 1 [.a]],[.a],[.a]],gm s0,gm s1,av l6 b7,gx 228 [l5,l7,lQ] [[.sl 1 [.a]],[.a],[.a]],gn (.build [.int .i64 0,.int .i64 0,.int .i64 0,.str [],.str []] [(0,1,l4),(1,1,l8)]),gn (.build [.str [],.int .i64 0,.int .i64 0,.int .i64 0,.str [],.str [],.aA,.aA,.aA] [(0,1,l1),(1,5,l9)]),gb 9 (.c (.agg [.str [],.int .i64 0,.int .i64 0,.int .i64 0,.str [],.str [],.aA,.aA,.aA])),gt 9 gF l10] 5 11) (sq (sq (r1 [gm s0,gm s1,av l1 lQ,gx 228 [l0,l2,C8] [[.sl 1 [.a]],[.a],[.a]],aL l3 b7] 4 4) (.cond s4 (rg [gf 1 s5,gf 3 l0,gt 1 l1 (cs [114,99,46,49])] []) .skip)) (sq (sq (r1 [gm s0,gm s1,av l1 lQ,gx 228 [l0,l2,C8] [[.sl 1 [.a]],[.a],[.a]],aL l3 lQ] 6 4) (.cond s6 (rg [gf 1 s5,gf 4 l0,gt 1 l1 (cs [55])] []) .skip)) (sq (sq (r1 [gm s0,gm s1,av l1 k9,gx 228 [l0,l2,rX] [[.sl 1 [.a]],[.a],[.a]],gn (.bin .rem l3 k9),gm l4] 7 5) (.block 0 (.loop (sq (sq (r1 [gm s7,cR l0 bm] 8 1) (eO s8 0)) (sq (.block 1 (rt [gf 6 s5,gd l0,gm s0,gm s1,av l3 rX,gm s7,gn (.bin .mul (i6 20) l5),av l4 l6,ek l7 (i6 20),gm s2,gx 229 [l2,l8,l9] [[.sl 1 [.a]],[.a],[.a]],gn (.bsl 3 (.agg [.aA,.str [],.str []]) 1 [(0,l10)]),gn (.app 3 l1 gF),gf 6 s5,gt 1 jR iU] [])) (r1 [gm s7,ek l0 b7,gm l1] 7 2)))))) (sq (sq (r1 [gm s0,gm s1,av l1 (i6 45),gx 228 [l0,l2,Lg] [[.sl 1 [.a]],[.a],[.a]],aL l3 b7] 9 4) (.cond s9 (rt [gf 7 s5,gd l0,gm s2,av l2 b7,gm s0,gm s1,av l5 (i6 46),gx 228 [l4,l6,rX] [[.sl 1 [.a]],[.a],[.a]],av l3 l7,gx 227 [l8] bR,gm s0,gm s1,av gF (i6 47),gx 230 [l10,iU] [[.sl 1 [.a]],[.a]],gm s0,gm s1,av me (i6 50),gx 231 [kE,nC] [[.sl 1 [.a]],[.a]],gn (.build [.str [],.str [],.str []] [(0,1,l9),(1,1,jR),(2,1,rF)]),gn (.bsl 3 (.agg [.str [],.str [],.str []]) 1 [(0,sY)]),gn (.app 3 l1 uc),gf 7 s5,gt 1 AV zO] []) .skip)) (sq (rg [gm s0,gm s1,av l1 (i6 52),gk 9 true s5,gx 232 [l0,l2,l3] [[.sl 1 [.a]],[.a],[.a,.a,.a,.a,.a,.a,.sl 3 [.sl 4 [.a,.a,.sl 1 [.a],.a],.a,.a],.sl 3 [.a,.a,.a],.sl 2 [.a,.sl 1 [.a]]]],gf 8 s5,gt 1 l5 l4] []) (sq (rg [gk 9 true s5,gt 9 s3 l0] []) .ret))))))))⟩
def w79 (h227:Tl Y)(h228:FL Y)(h229:Wa Y)(h230:Tm Y)(h231:Tn Y)(h232:Wb Y)(l:List Int)(i:Int)(own:Int)  (hp0:0<=i/\i<=1000000)(hp1:0<=own/\own<=100000):cZ Y D0 (Rec.D (yB l i own)) [.sl 1 (l.map (D.int .i64)),.int .i64 i,.int .i64 own]:=by
 show bB _ _ _ [⟨_,_⟩,⟨_,_⟩,⟨_,_⟩,_,_,_,_,_,_,_] _;refine ak ?_;refine aF ?_;refine aj (hc:=h227 own) ?_;refine ay ?_;refine aj (hc:=h228 l (i) 3 aG) ?_;refine aB ?_;refine aj (hc:=h228 l (i+1) 2 aG) ?_;refine bI (c9.D ⟨eY l i 3,eY l (i+1) 2,0,[],[]⟩) ?_;refine bI (.agg [.str (ep own),.int .i64 (eY l i 3),.int .i64 (eY l (i+1) 2),.int .i64 0,.str [],.str [],.aA,.aA,.aA]) ?_;refine aE ?_;refine a7 (.agg [.str (ep own),.int .i64 (eY l i 3),.int .i64 (eY l (i+1) 2),.int .i64 0,.str [],.str [],.aA,.aA,.aA]) (he:=bg) ?_;refine aH ?_;refine aj (hc:=h228 l (i+2) 9 aG) ?_;refine ay ?_;refine qL hm (ι:=Unit) (fun _=>[⟨true,.sl 1 (l.map (D.int .i64))⟩,⟨true,.int .i64 i⟩,⟨true,.int .i64 own⟩,⟨true,.ptr 0 9 0 0⟩,.un,⟨true,.ptr 12 9 0 0⟩,.un,.un,.un,.un]) (fun _=>[(0,.buf 9 [Ep]),(12,.buf 9 [(.agg [.str (ep own),.int .i64 (eY l i 3),.int .i64 (eY l (i+1) 2),.int .i64 0,.str (sv l i),.str [],.aA,.aA,.aA])])]) 30 (fun _=>True) ?_ ?_
 .refine eV (fun hc0=>?_) fun hc0=>?_
  .refine aB ?_;refine a7 (.agg [.str (ep own),.int .i64 (eY l i 3),.int .i64 (eY l (i+1) 2),.int .i64 0,.str Pz,.str [],.aA,.aA,.aA]) (he:=bg) ?_;refine ay ?_;have hp:sv l i=Pz:=ax hc0;rw[hp];exact⟨(),trivial,(aU.to [(0,0),(12,12)] ah ah nW (by repeat(first|exact bh.nil|refine bh.gE ah ah dW ?_|refine bh.C9 ah ah ah ?_)))⟩
  refine ay ?_;have hp:sv l i=[]:=ai hc0;rw[hp];exact⟨(),trivial,(aU.to [(0,0),(12,12)] ah ah nW (by repeat(first|exact bh.nil|refine bh.gE ah ah dW ?_|refine bh.C9 ah ah ah ?_)))⟩
 .rintro _-
  refine aJ ?_;refine aj (hc:=h228 l (i+2) 9 aG) ?_;refine ay ?_;refine qL hm (ι:=Unit) (fun _=>[⟨true,.sl 1 (l.map (D.int .i64))⟩,⟨true,.int .i64 i⟩,⟨true,.int .i64 own⟩,⟨true,.ptr 0 9 0 0⟩,.un,⟨true,.ptr 12 9 0 0⟩,.un,.un,.un,.un]) (fun _=>[(0,.buf 9 [Ep]),(12,.buf 9 [(.agg [.str (ep own),.int .i64 (eY l i 3),.int .i64 (eY l (i+1) 2),.int .i64 0,.str (sv l i),.str (yx l i),.aA,.aA,.aA])])]) 40 (fun _=>True) ?_ ?_
  .refine eV (fun hc1=>?_) fun hc1=>?_
   .refine aB ?_;refine a7 (.agg [.str (ep own),.int .i64 (eY l i 3),.int .i64 (eY l (i+1) 2),.int .i64 0,.str (sv l i),.str [55],.aA,.aA,.aA]) (he:=bg) ?_;refine ay ?_;have hp:yx l i=[55]:=ax hc1;rw[hp];exact⟨(),trivial,(aU.to [(0,0),(12,12)] ah ah nW (by repeat(first|exact bh.nil|refine bh.gE ah ah dW ?_|refine bh.C9 ah ah ah ?_)))⟩
   refine ay ?_;have hp:yx l i=[]:=ai hc1;rw[hp];exact⟨(),trivial,(aU.to [(0,0),(12,12)] ah ah nW (by repeat(first|exact bh.nil|refine bh.gE ah ah dW ?_|refine bh.C9 ah ah ah ?_)))⟩
  .rintro _-
   have hK:=SP l i;refine aJ ?_;refine aj (hc:=h228 l (i+3) 4 aG) ?_;refine II ((gK l i:Nat):Int) (hn:=by intro _;omega) (hb:=fun _=>YX l i) ?_;refine ay ?_;refine bc hm (ι:=(Nat×List bS)) (fun p=>[⟨true,.sl 1 (l.map (D.int .i64))⟩,⟨true,.int .i64 i⟩,⟨true,.int .i64 own⟩,⟨true,.ptr 0 9 0 0⟩,.un,⟨true,.ptr 12 9 0 0⟩,.un,⟨true,.int .i64 (p.1:Nat)⟩,.un,.un]) (fun p=>[(0,.buf 9 [Ep]),(12,.buf 9 [(.agg [.str (ep own),.int .i64 (eY l i 3),.int .i64 (eY l (i+1) 2),.int .i64 0,.str (sv l i),.str (yx l i),.own 1 3 0 p.2.length,.aA,.aA])]),(1,.buf 3 (p.2.map bS.D))]) 60 (fun p=>p.1<=gK l i/\p.2=DI l i own (gK l i-p.1)) (fun p=>p.1) (gK l i,[]) ⟨aS _,by dsimp only;rw[Nat.sub_self];rfl⟩ (aU.to [(0,0),(12,12)] ah ah nW (by refine bh.gE ah ah dW ?_;refine bh.ni 12 ah ah (by exact⟨_,_,rfl,⟨_,rfl,⟨_,_,rfl,⟨rfl,rfl⟩,⟨_,_,rfl,⟨rfl,rfl⟩,⟨_,_,rfl,⟨rfl,rfl⟩,⟨_,_,rfl,⟨rfl,rfl⟩,⟨_,_,rfl,⟨rfl,rfl⟩,⟨_,_,rfl,⟨rfl,rfl⟩,⟨_,_,rfl,Or.inr ⟨_,_,_,rfl⟩,⟨_,_,rfl,Or.inl rfl,⟨_,_,rfl,Or.inl rfl,rfl⟩⟩⟩⟩⟩⟩⟩⟩⟩⟩,rfl⟩) ?_;refine bh.mt ah ah ah ah ?_;exact bh.nil)) ?_;rintro⟨k,ns⟩ ⟨hk,hn⟩;dsimp only at hk hn⊢;have hnl:ns.length<=3:=by rw[hn];simp[DI];omega
   refine aJ ?_;refine aw (fun hc2=>?_) (fun hc2=>?_)
   .try simp only[eh]at hc2
    refine cU ?_;refine nH ?_;refine aB ?_;refine aj (hc:=h229 l (i+4+20*(k:Int) -20) own ae ae) ?_;refine cS [bS.D (gD l (i+4+20*(k:Int) -20) own)] ?_;refine nb (q:=bS.D) (xs:=ns) (e:=gD l (i+4+20*(k:Int) -20) own) ?_;refine aE ?_;refine a7 (.agg [.str (ep own),.int .i64 (eY l i 3),.int .i64 (eY l (i+1) 2),.int .i64 0,.str (sv l i),.str (yx l i),.own 74 3 0 (ns++[gD l (i+4+20*(k:Int) -20) own]).length,.aA,.aA]) (he:=bg) ?_;refine bM ?_;exact⟨(k-1,ns++[gD l (i+4+20*(k:Int) -20) own]),⟨dP,by dsimp only;rw[N5 hk ae,hn]⟩,dP,(aU.to [(0,0),(12,12),(74,1)] ah ah (by repeat(first|exact dn.nil|refine dn.un ?_|refine dn.eq ah ?_|refine dn.nl (ar (D.int .i64) (show((k-1:Nat):Int)=(k:Int) -1 by omega)) ah ?_)) (by refine bh.gE ah ah dW ?_;refine bh.C9 ah ah ah ?_;refine bh.nl 74 ah ah rfl (bH (fun _=>rfl) _) ?_;exact bh.nil))⟩
   simp only[bA]at hc2;obtain rfl:k=0:=ae;obtain rfl:ns=p9 l i own:=by rw[hn];rfl
   refine aB ?_;refine fV 1 ?_;refine aF ?_;refine aj (hc:=h228 l (i+45) 5 aG) ?_;refine ay ?_;refine qL hm (ι:=Unit) (fun _=>[⟨true,.sl 1 (l.map (D.int .i64))⟩,⟨true,.int .i64 i⟩,⟨true,.int .i64 own⟩,⟨true,.ptr 0 9 0 0⟩,.un,⟨true,.ptr 12 9 0 0⟩,.un,.un,.un,.un]) (fun _=>[(0,.buf 9 [Ep]),(12,.buf 9 [(.agg [.str (ep own),.int .i64 (eY l i 3),.int .i64 (eY l (i+1) 2),.int .i64 0,.str (sv l i),.str (yx l i),(.sl 3 ((p9 l i own).map bS.D)),(.own 2 3 0 (p7 l i own).length),.aA])]),(2,.buf 3 ((p7 l i own).map iT.D))]) 100 (fun _=>True) ?_ ?_
   .refine eV (fun hc3=>?_) fun hc3=>?_
    .refine aE ?_;have hr46:=dh l (i+46) 4 aG;refine aE ?_;refine bD (v:=.aA) ?_;refine aJ ?_;refine aj (hc:=h228 l (i+46) 4 aG) ?_;refine aE ?_;refine aj (hc:=h227 (own+1+eY l (i+46) 4)) ?_;refine aB ?_;refine aj (hc:=h230 l (i+47) ae) ?_;refine aB ?_;refine aj (hc:=h231 l (i+50) ae) ?_;refine bI (iT.D (yw l i own)) ?_;refine cS [iT.D (yw l i own)] ?_;refine Vf (n:=1) (ys:=[iT.D (yw l i own)]) (he:=pJ.all ah rfl) (hn:=rfl) ?_;refine aE ?_;refine a7 (.agg [.str (ep own),.int .i64 (eY l i 3),.int .i64 (eY l (i+1) 2),.int .i64 0,.str (sv l i),.str (yx l i),(.sl 3 ((p9 l i own).map bS.D)),(.own 87 3 0 1),.aA]) (he:=bg) ?_;refine ay ?_;have hb:p7 l i own=[yw l i own]:=ax hc3;rw[hb];exact⟨(),trivial,(aU.to [(0,0),(12,12),(87,2)] ah ah nW (by refine bh.gE ah ah dW ?_;refine bh.C9 ah ah ah ?_;refine bh.nl 87 ah ah ah ah ?_;exact bh.nil))⟩
    refine ay ?_;have hb:p7 l i own=[]:=ai hc3;rw[hb];exact⟨(),trivial,(aU.to [(0,0),(12,12)] ah ah nW (by refine bh.gE ah ah dW ?_;refine bh.ni 12 ah ah (by exact⟨_,_,rfl,⟨_,rfl,⟨_,_,rfl,⟨rfl,rfl⟩,⟨_,_,rfl,⟨rfl,rfl⟩,⟨_,_,rfl,⟨rfl,rfl⟩,⟨_,_,rfl,⟨rfl,rfl⟩,⟨_,_,rfl,⟨rfl,rfl⟩,⟨_,_,rfl,⟨rfl,rfl⟩,⟨_,_,rfl,⟨rfl,rfl⟩,⟨_,_,rfl,Or.inr ⟨_,_,_,rfl⟩,⟨_,_,rfl,Or.inl rfl,rfl⟩⟩⟩⟩⟩⟩⟩⟩⟩⟩,rfl⟩) ?_;refine bh.mt ah ah ah ah ?_;exact bh.nil))⟩
   .rintro _-
    refine fV 2 ?_;refine Jd [(0,.buf 9 [Ep]),(12,.buf 9 [Rec.D (oo l i own)])] (.id ah (.bf ah (.cons (.ag (.cons (.refl _) (.cons (.refl _) (.cons (.refl _) (.cons (.refl _) (.cons (.refl _) (.cons (.refl _) (.cons (.refl _) (.cons (.refl _) (.cons (.nil 2) .nil)))))))))) .nil) .nil)) ?_;refine aF ?_;refine cH (d:=Rec.D (oo l i own)) ?_;refine aj (hc:=h232 l (i+52) (oo l i own) ae (K6 l i own)) ?_;refine aE ?_;refine a7 (Rec.D (yB l i own)) (he:=bg) ?_;refine ay ?_;refine cH (d:=Rec.D (yB l i own)) ?_;refine a7 (Rec.D (yB l i own)) (he:=bg) ?_;refine ay ?_;refine bE (?_);rfl
def Qj (T:List D->D->Prop):Prop:=∀(l:List Int) (i:Int) (own:Int),(0<=i/\i<=1000000)->(0<=own/\own<=100000)->T [.sl 1 (l.map (D.int .i64)),.int .i64 i,.int .i64 own] (Rec.D (yB l i own))
def C79 (Y:Ctx):Prop:=Qj (bq Y 79)
def cmp_isNaN_int:aD:=⟨1,2,fY,bR,(sq (r1 [gm dJ] 1 0) (sq (r1 [gm s0,gm s0,cj l0 l1,gm l2] 1 3) .ret))⟩
def w714 {Y:Ctx}(hm:(Y.at 0).bU)  (x:Int)   :cZ Y cmp_isNaN_int (.bool false) [.int .i64 x]:=by
 show bB _ _ _ [⟨_,_⟩,_] _;refine ak ?_;refine cU ?_;refine bQ ?_;simp
def Kb (T:List D->D->Prop):Prop:=∀(x:Int),T [.int .i64 x] (.bool false)
def Xc (Y:Ctx):Prop:=Kb (bq Y 714)
def zT:aD:=⟨1,2,fY,bR,(sq (r1 [gm dJ] 1 0) (sq (r1 [gm s0,gm s0,cj l0 l1,gm l2] 1 3) .ret))⟩
def w704 {Y:Ctx}(hm:(Y.at 0).bU)  (x:au)   :cZ Y zT (.bool false) [.str x]:=by
 show bB _ _ _ [⟨_,_⟩,_] _;refine ak ?_;refine cU ?_;refine bQ ?_;simp
def Ka (T:List D->D->Prop):Prop:=∀(x:au),T [.str x] (.bool false)
def Xb (Y:Ctx):Prop:=Ka (bq Y 704)
def cmp_Compare_int:aD:=⟨2,10,[⟨2,none⟩],bR,(sq (r1 [gm bm] 2 0) (sq (r1 [gm s0,gx 714 [l0] bR,gm l1] 3 2) (sq (r1 [gm s1,gx 714 [l0] bR,gm l1] 5 2) (sq (sq (r1 [gm s3] 4 0) (.cond s4 (sq (sq (r1 [gm s5] 6 0) (.cond s6 (sq (r1 [gm bm] 2 0) .ret) .skip)) (sq (r1 [gn (.mv (.c (.int .i64 (-1))))] 2 0) .ret)) .skip)) (sq (sq (r1 [gm s5] 7 0) (.cond s7 (sq (r1 [gm b7] 2 0) .ret) .skip)) (sq (sq (r1 [gm s0,gm s1,aP l0 l1] 8 2) (.cond s8 (sq (r1 [gn (.mv (.c (.int .i64 (-1))))] 2 0) .ret) .skip)) (sq (sq (r1 [gm s0,gm s1,cR l0 l1] 9 2) (.cond s9 (sq (r1 [gm b7] 2 0) .ret) .skip)) (sq (r1 [gm bm] 2 0) .ret))))))))⟩
def w532 {Y:Ctx}(hm:(Y.at 0).bU)(h714:Xc Y)(a:Int)(b:Int)   :cZ Y cmp_Compare_int (.int .i64 (eG a b)) [.int .i64 a,.int .i64 b]:=by
 show bB _ _ _ [⟨_,_⟩,⟨_,_⟩,_,_,_,_,_,_,_,_] _;refine ak ?_;refine aF ?_;refine aj (hc:=h714 _) ?_;refine aF ?_;refine aj (hc:=h714 _) ?_;refine aH ?_;refine aw (t:=false) (fun h=>by cases h) (fun _=>?_);refine aJ ?_;refine aw (t:=false) (fun h=>by cases h) (fun _=>?_);refine aW ?_;refine cC (fun hc3=>?_) fun hc3=>?_
 .refine aJ ?_;refine cN ?_;simp[eG,hc3]
 refine aW ?_;refine cC (fun hc4=>?_) fun hc4=>?_
 .refine aJ ?_;refine cN ?_;unfold eG;rw[ai hc3,ax hc4]
 refine aJ ?_;refine cN ?_;unfold eG;rw[ai hc3,ai hc4]
def xy (T:List D->D->Prop):Prop:=∀(a:Int) (b:Int),T [.int .i64 a,.int .i64 b] (.int .i64 (eG a b))
def Tz (Y:Ctx):Prop:=xy (bq Y 532)
def wu:aD:=⟨2,10,[⟨2,none⟩],bR,(sq (r1 [gm bm] 2 0) (sq (r1 [gm s0,gx 704 [l0] bR,gm l1] 3 2) (sq (r1 [gm s1,gx 704 [l0] bR,gm l1] 5 2) (sq (sq (r1 [gm s3] 4 0) (.cond s4 (sq (sq (r1 [gm s5] 6 0) (.cond s6 (sq (r1 [gm bm] 2 0) .ret) .skip)) (sq (r1 [gn (.mv (.c (.int .i64 (-1))))] 2 0) .ret)) .skip)) (sq (sq (r1 [gm s5] 7 0) (.cond s7 (sq (r1 [gm b7] 2 0) .ret) .skip)) (sq (sq (r1 [gm s0,gm s1,aP l0 l1] 8 2) (.cond s8 (sq (r1 [gn (.mv (.c (.int .i64 (-1))))] 2 0) .ret) .skip)) (sq (sq (r1 [gm s0,gm s1,cR l0 l1] 9 2) (.cond s9 (sq (r1 [gm b7] 2 0) .ret) .skip)) (sq (r1 [gm bm] 2 0) .ret))))))))⟩
def w516 {Y:Ctx}(hm:(Y.at 0).bU)(h704:Xb Y)(a:au)(b:au)   :cZ Y wu (.int .i64 (zS a b)) [.str a,.str b]:=by
 show bB _ _ _ [⟨_,_⟩,⟨_,_⟩,_,_,_,_,_,_,_,_] _;refine ak ?_;refine aF ?_;refine aj (hc:=h704 _) ?_;refine aF ?_;refine aj (hc:=h704 _) ?_;refine aH ?_;refine aw (t:=false) (fun h=>by cases h) (fun _=>?_);refine aJ ?_;refine aw (t:=false) (fun h=>by cases h) (fun _=>?_);refine aW ?_;refine cC (fun hc3=>?_) fun hc3=>?_
 .refine aJ ?_;refine cN ?_;simp[zS,hc3]
 refine aW ?_;refine cC (fun hc4=>?_) fun hc4=>?_
 .refine aJ ?_;refine cN ?_;simp_all[zS]
 refine aJ ?_;refine cN ?_;simp_all[zS]
def xx (T:List D->D->Prop):Prop:=∀(a:au) (b:au),T [.str a,.str b] (.int .i64 (zS a b))
def WQ (Y:Ctx):Prop:=xx (bq Y 516)
def Uw:aD:=⟨1,9,fY,bR,(sq (r1 [gm bm] 1 0) (sq (r1 [gm bm] 7 0) (sq (sq (rg [gm s0,gl l0,gm bm] [(5,0),(3,1),(2,2)]) (.block 0 (.loop (sq (r1 [aP s2 s3] 4 0) (sq (eO s4 0) (sq (.block 1 (sq (r1 [ga 1 s5 s2,gd l0,gm l1] 6 2) (sq (r1 [gm s6,gm s7,cj l0 l1] 8 2) (.cond s8 (sq (r1 [gm s6,gm l0] 1 1) .ret) .skip)))) (r1 [av s2 b7,gm l0] 2 1))))))) (sq (r1 [gm s7,gm l0] 1 1) .ret))))⟩
def w531  (l:List Int)   :cZ Y Uw (.int .i64 (eJ (fun i=>l[i]!) 0 l.length)) [.sl 1 (l.map (D.int .i64))]:=by
 show bB _ _ _ [⟨_,_⟩,_,_,_,_,_,_,_,_] _;refine ak ?_;refine cU ?_;intro u0;refine ay ?_;refine bc hm (ι:=Nat) (fun i=>[.un,.un,⟨true,.int .i64 (i:Nat)⟩,⟨true,.int .i64 (l.length:Nat)⟩,.un,⟨true,.sl 1 (l.map (D.int .i64))⟩,.un,⟨true,.int .i64 0⟩,.un]) (fun i=>[]) 5 (fun i=>i<=l.length/\eJ (fun i=>l[i]!) 0 l.length=eJ (fun i=>l[i]!) i l.length) (fun i=>l.length-i) 0 ⟨ae,rfl⟩ (dF []) ?_;rintro i ⟨hi,hr⟩;refine aB ?_;refine cC (fun hc0=>?_) fun hc0=>?_
 .refine aB ?_;refine cM i ?_;refine cE (v:=.int .i64 l[i]!) ?_;refine aW ?_;refine eV (fun hc1=>?_) fun hc1=>?_
  .refine aW ?_;refine cN ?_;rw[hr,kN ae hc1]
  refine aW ?_;exact⟨i+1,⟨ae,by rw[hr,mI ae hc1]⟩,ae,(dF [])⟩
 refine aW ?_;refine cN ?_;rw[hr,mH ae]
def JV (T:List D->D->Prop):Prop:=∀(l:List Int),T [.sl 1 (l.map (D.int .i64))] (.int .i64 (eJ (fun i=>l[i]!) 0 l.length))
def WS (Y:Ctx):Prop:=JV (bq Y 531)
def CW:aD:=⟨1,3,[⟨1,some (5,true)⟩],zZ,(sq (rg [gb 5 s0,gb 5 (.c (.agg [.int .i64 0,.int .i64 0,.int .i64 0,.str [],.str []]))] [(2,0),(1,1)]) (sq (rg [gf 4 s2,gt 1 l0 cse] []) (sq (rg [gk 5 true s2,gt 5 s1 l0] []) .ret)))⟩
def w530 {Y:Ctx}(hm:(Y.at 0).bU)  (v:c9)   :cZ Y CW (c9.D (vH v)) [c9.D v]:=by
 show bB _ _ _ [⟨_,_⟩,_,_] _;refine ak ?_;refine aJ ?_;refine a7 _ (he:=bg) ?_;refine aH ?_;refine bE (?_);rfl
def JU (T:List D->D->Prop):Prop:=∀(v:c9),T [c9.D v] (c9.D (vH v))
def WR (Y:Ctx):Prop:=JU (bq Y 530)
def Fg:aD:=⟨2,10,[⟨2,none⟩],bR,(sq (r1 [gm bm] 2 0) (sq (rg [gm s0,gx 659 [l0] bR,gm s1,gx 659 [l2] bR,gm l1,gm l3] [(3,4),(4,5)]) (sq (sq (r1 [gm s3,gm l0,gmt 1 s4,ei l1 l2] 5 3) (.cond s5 (sq (r1 [gm s0,gx 658 [l0] bR,gm l1,ge l2 0,ge l2 1,gm l3,gm l4] 6 5) (sq (r1 [gm s1,gx 658 [l0] bR,gm l1,ge l2 0,ge l2 1,gm l3,gm l4] 7 5) (sq (r1 [gm s6,gm s7,gx 532 [l0,l1] gA,gm l2] 2 3) .ret))) .skip)) (sq (sq (r1 [gm s3,gm s4,gn (.eqA true false [.b] l0 l1)] 8 2) (.cond s8 (sq (sq (r1 [gm s3] 9 0) (.cond s9 (sq (r1 [gn (.mv (.c (.int .i64 (-1))))] 2 0) .ret) .skip)) (sq (r1 [gm b7] 2 0) .ret)) .skip)) (sq (r1 [gm s0,gm s1,gx 516 [l0,l1] gA,gm l2] 2 3) .ret)))))⟩
def w534 {Y:Ctx}(hm:(Y.at 0).bU)(h516:WQ Y)(h532:Tz Y)(h658:QB Y)(h659:TC Y)(a:au)(b:au)   :cZ Y Fg (.int .i64 (rL a b)) [.str a,.str b]:=by
 show bB _ _ _ [⟨_,_⟩,⟨_,_⟩,_,_,_,_,_,_,_,_] _;refine ak ?_;refine aF ?_;refine aj (hc:=h659 _) ?_;refine aE ?_;refine aj (hc:=h659 _) ?_;refine iw ?_;refine cC (fun hc0=>?_) fun hc0=>?_
 .refine aB ?_;refine aj (hc:=h658 _) ?_;refine cU ?_;refine aj (hc:=h658 _) ?_;refine iw ?_;refine aj (hc:=h532 _ _) ?_;refine aB ?_;refine cN ?_;unfold rL;rw[ax hc0]
 refine aJ ?_;refine Zi (hb:=eqBb _ _) ?_;refine aE ?_;refine aw (fun hc1=>?_) (fun hc1=>?_)
 .simp only[bK,bA]at hc1;refine aJ ?_;refine cC (fun hc2=>?_) fun hc2=>?_
  .refine aJ ?_;refine cN ?_;have hn:¬(cD a=true/\cD b=true):=by rintro⟨h1,h2⟩;simp[h1,h2]at hc0
   unfold rL;rw[ai hn];rw[ax hc2]
  refine aH ?_;refine cN ?_;have hn:¬(cD a=true/\cD b=true):=by rintro⟨h1,h2⟩;simp[h1,h2]at hc0
  unfold rL;rw[ai hn];rw[ai (by simp[hc2]),ax (by cases h:cD b with|true=>rfl|false=>exact absurd (hc2.trans h.symm) hc1)]
 simp only[ct,aY]at hc1;refine aF ?_;refine aj (hc:=h516 _ _) ?_;refine aB ?_;refine cN ?_;have hn:¬(cD a=true/\cD b=true):=by rintro⟨h1,h2⟩;simp[h1,h2]at hc0
 unfold rL;rw[ai hn];have h1:cD a=false:=by cases h:cD a with|false=>rfl|true=>exact absurd ⟨h,hc1▸h⟩ hn
 rw[ai (by simp[h1]),ai (by rw[<-hc1];simp[h1])]
def xA (T:List D->D->Prop):Prop:=∀(a:au) (b:au),T [.str a,.str b] (.int .i64 (rL a b))
def WT (Y:Ctx):Prop:=xA (bq Y 534)
def wF:aD:=⟨2,16,[⟨2,none⟩],bR,(sq (rg [gb 5 s0,gb 5 s1,gm bm] [(3,0),(4,1),(2,2)]) (sq (sq (r2 [gk 5 true s3,gx 209 [l0] zZ,kD l1,gm l2,cF 3 (.ld 5 true s4),cF 3 (.call 209 [l4] zZ),cF 3 (.un .not l5),fC l3 l6,gm l7,cF 8 (.ld 5 true s3),cF 8 (.call 530 [l9] zZ),cF 8 (.ld 5 true s4),cF 8 (.call 530 [gF] zZ),cF 8 (.eqA false true [.i .i64,.i .i64,.i .i64,.s,.s] l10 iU),fC l8 jR] 5 14) (.cond s5 (sq (r1 [gm bm] 2 0) .ret) .skip)) (sq (sq (r2 [gf 0 s3,gd l0,gf 0 s4,gd l2,gx 532 [l1,l3] gA,gf 1 s3,gd l5,gf 1 s4,gd l7,gx 532 [l6,l8] gA,gf 2 s3,gd l10,gf 2 s4,gd iU,gx 532 [gF,jR] gA,gn (.bsl 1 (.int .i64 0) 3 [(0,l4),(1,l9),(2,kE)]),gx 531 [me] [[.sl 1 [.a]]],gm nC] 6 17) (sq (r1 [gm s6,cj l0 bm] 7 1) (.cond s7 (sq (r1 [gm s6,gm l0] 2 1) .ret) .skip))) (sq (sq (r1 [gf 3 s3,gd l0,aL l1 cse] 8 2) (.cond s8 (sq (r1 [gm b7] 2 0) .ret) .skip)) (sq (sq (r1 [gf 3 s4,gd l0,aL l1 cse] 9 2) (.cond s9 (sq (r1 [gn (.mv (.c (.int .i64 (-1))))] 2 0) .ret) .skip)) (sq (rt [gf 3 s3,gd l0,gx 533 [l1,(i8 46)] gA,gf 3 s4,gd l3,gx 533 [l4,(i8 46)] gA,gm l2,gm l5] [(11,6),(12,7)]) (sq (sq (r1 [gm bm] 10 0) (.block 0 (.loop (sq (sq (r1 [gm iQ,gm kH,gl l1,aP l0 l2,gm l3,gmt 4 iQ,gmt 4 mS,bT 4 (.len l6),bT 4 (po l5 l7),ei l4 l8] 13 9) (eO rJ 0)) (sq (.block 1 (sq (r2 [gm kH,gm iQ,ga 1 l0 l1,gd l2,gm mS,gm iQ,ga 1 l4 l5,gd l6,gx 534 [l3,l7] gA,gm l8] 14 9) (sq (r1 [gm rK,cj l0 bm] 15 1) (.cond xa (sq (r1 [gm rK,gm l0] 2 1) .ret) .skip)))) (r1 [gm iQ,av l0 b7,gm l1] 10 2)))))) (sq (r1 [gm kH,gl l0,gm mS,gl l2,gx 532 [l1,l3] gA,gm l4] 2 5) .ret))))))))⟩
def w295 (h209:Kq Y)(h530:WR Y)(h531:WS Y)(h532:Tz Y)(h533:MZ Y)(h534:WT Y)(a:c9)(b:c9)  (hp0:a.sm/\b.sm):cZ Y wF (.int .i64 (oP a b)) [c9.D a,c9.D b]:=by
 show bB _ _ _ [⟨_,_⟩,⟨_,_⟩,_,_,_,_,_,_,_,_,_,_,_,_,_,_] _;refine ak ?_;refine aW ?_;refine aj (hc:=h209 a hp0.1) ?_;refine aB ?_;refine df (hc:=fun hf=>h209 b hp0.2) ?_;refine aF ?_;refine df (hc:=fun hf=>h530 a) ?_;refine aE ?_;refine df (hc:=fun hf=>h530 b) ?_;refine Zj (hb:=c9.eq _ _) ?_;refine ay ?_;refine aw (fun hc0=>?_) (fun hc0=>?_)
 .simp only[c8,bK,aY]at hc0;refine aJ ?_;refine cN ?_;rcases hc0 with hc0|hc0
  .unfold oP;rw[ax hc0]
  .exact(Az hc0).symm
 simp only[dR,ct,bA]at hc0;have hv:¬(eH a=false\/eH b=false):=by simp only[not_or,Bool.not_eq_false];first|exact hc0|exact hc0.1
 refine aW ?_;refine aj (hc:=h532 _ _) ?_;refine aF ?_;refine aj (hc:=h532 _ _) ?_;refine aF ?_;refine aj (hc:=h532 _ _) ?_;refine cS ([eG a.major b.major,eG a.minor b.minor,eG a.patch b.patch].map (D.int .i64)) ?_;refine aj (hc:=h531 [eG a.major b.major,eG a.minor b.minor,eG a.patch b.patch]) (ha:=fun _=>ar (fun d=>[d]) (nL (q:=D.int .i64) (xs:=[eG a.major b.major,eG a.minor b.minor,eG a.patch b.patch]) (fun _=>rfl) ah)) (hp:=fun _=>⟨lK (q:=D.int .i64) (xs:=[eG a.major b.major,eG a.minor b.minor,eG a.patch b.patch]) (fun _=>rfl) ah,trivial⟩) ?_;refine aW ?_;refine aw (fun hc1=>?_) (fun hc1=>?_)
 .simp only[bK,bA]at hc1;refine aH ?_;refine cN ?_;exact NV hv hc1
 simp only[ct,aY]at hc1;obtain⟨z1,z2,z3⟩:=NW hc1;refine aB ?_;have hcp:=NA hv z1 z2 z3;have hpn:¬a.pre=b.pre:=fun e=>hc0.2 (QT z1 z2 z3 e)
 refine aF ?_;refine cC (fun hc2=>?_) fun hc2=>?_
 .refine aJ ?_;refine cN ?_;rw[hcp];unfold uX;rw[ai hpn,ax hc2]
 refine aW ?_;refine cC (fun hc3=>?_) fun hc3=>?_
 .refine aJ ?_;refine cN ?_;rw[hcp];unfold uX;rw[ai hpn,ai hc2,ax hc3]
 refine aF ?_;refine aj (hc:=h533 a.pre 46 hp0.1.1) ?_;refine ay ?_;refine aj (hc:=h533 b.pre 46 hp0.2.1) ?_;refine aW ?_;refine bc hm (ι:=Nat) (fun i=>[.un,.un,.un,⟨true,.ptr 0 5 0 0⟩,⟨true,.ptr 1 5 0 0⟩,.un,.un,.un,.un,.un,⟨true,.int .i64 (i:Nat)⟩,⟨true,.sl 1 ((aq a.pre 46).map D.str)⟩,⟨true,.sl 1 ((aq b.pre 46).map D.str)⟩,.un,.un,.un]) (fun i=>[(0,.buf 5 [c9.D a]),(1,.buf 5 [c9.D b])]) 53 (fun i=>(i<=(aq a.pre 46).length/\i<=(aq b.pre 46).length)/\oP a b=r5 (aq a.pre 46) (aq b.pre 46) i) (fun i=>(aq a.pre 46).length-i) 0 ⟨⟨ae,ae⟩,by rw[hcp];unfold uX;rw[ai hpn,ai hc2,ai hc3]⟩ (dF [(0,0),(1,1)]) ?_;rintro i ⟨hi,hr⟩;refine aJ ?_;intro u0;refine aF ?_;refine lL ?_;refine aB ?_;refine cC (fun hc4=>?_) fun hc4=>?_
 .refine aJ ?_;refine cM i (hb:=fun _=>ae) ?_;refine cE (v:=.str (aq a.pre 46)[i]!) (hi:=fun _=>ae) ?_;refine ay ?_;refine cM i (hb:=fun _=>ae) ?_;refine cE (v:=.str (aq b.pre 46)[i]!) (hi:=fun _=>ae) ?_;refine aj (hc:=h534 _ _) ?_;refine aH ?_;refine eV (fun hc5=>?_) fun hc5=>?_
  .refine aW ?_;refine cN ?_;rw[hr,Bu ae hc5]
  refine bM ?_;exact⟨i+1,⟨⟨ae,ae⟩,by rw[hr,E3 ae hc5]⟩,ae,(dF [(0,0),(1,1)])⟩
 refine aJ ?_;intro u1;refine ay ?_;intro u2;refine aj (hc:=h532 _ _) ?_;refine aB ?_;refine cN ?_;rw[hr,Bt ae]
def xl (T:List D->D->Prop):Prop:=∀(a:c9) (b:c9),(a.sm/\b.sm)->T [c9.D a,c9.D b] (.int .i64 (oP a b))
def Wg (Y:Ctx):Prop:=xl (bq Y 295)
def CA:aD:=⟨1,6,[⟨1,none⟩,⟨2,none⟩],gA,(sq (rg [gb 9 s0,gm cse,gm bm] [(3,0),(1,1),(2,2)]) (sq (sq (r1 [gk 9 true s3,gx 70 [l0] [[.a,.a,.a,.a,.a,.a,.sl 3 [.sl 4 [.a,.a,.sl 1 [.a],.a],.a,.a],.sl 3 [.a,.a,.a],.sl 2 [.a,.sl 1 [.a]]]],gm l1,ge l2 0,ge l2 1,gm l3,gm l4] 4 5) (sq (r1 [gm s4,cj l0 bm] 5 1) (.cond s5 (sq (rg [gm s4,gm cse,gm l0] [(1,1),(2,2)]) .ret) .skip))) (sq (rg [gk 9 true s3,gx 215 [l0] [[.a,.a,.a,.a,.a,.a,.sl 3 [.sl 4 [.a,.a,.sl 1 [.a],.a],.a,.a],.sl 3 [.a,.a,.a],.sl 2 [.a,.sl 1 [.a]]]],gm l1,gm bm] [(1,2),(2,3)]) .ret)))⟩
def w72 {Y:Ctx}(hm:(Y.at 0).bU)(h70:C70 Y)(h215:Tj Y)(r:Rec)  (hp0:ew r):cZ Y CA (.tup [.str (cL r).1,.int .i64 (cL r).2]) [Rec.D r]:=by
 show bB _ _ _ [⟨_,_⟩,_,_,_,_,_] _;refine ak ?_;refine aW ?_;refine aj (hc:=h70 r hp0) ?_;refine fW ?_;refine cC (fun hc0=>?_) fun hc0=>?_
 .refine aW ?_;refine bE (aN (ar D.str ?_) (ar (D.int .i64) ?_));all_goals
   simp[cL,hc0]
 refine ay ?_;have hgd:=lj hc0;refine aE ?_;refine aj (hc:=h215 r ⟨hgd,hp0⟩) ?_;refine aF ?_;refine bE (aN (ar D.str ?_) (ar (D.int .i64) ?_));all_goals
  simp[cL,hc0]
def C2 (T:List D->D->Prop):Prop:=∀(r:Rec),(ew r)->T [Rec.D r] (.tup [.str (cL r).1,.int .i64 (cL r).2])
def C72 (Y:Ctx):Prop:=C2 (bq Y 72)
def GY:aD:=⟨1,7,[⟨1,none⟩,⟨2,none⟩],gA,(sq (rg [gb 9 s0,gm (iu 0),gm bm] [(3,0),(1,1),(2,2)]) (sq (rg [gk 9 true s3,gx 72 [l0] [[.a,.a,.a,.a,.a,.a,.sl 3 [.sl 4 [.a,.a,.sl 1 [.a],.a],.a,.a],.sl 3 [.a,.a,.a],.sl 2 [.a,.sl 1 [.a]]]],gm l1,ge l2 0,ge l2 1,gm l3,gm l4] [(6,5),(4,6)]) (sq (sq (r1 [gm s4,cj l0 bm] 5 1) (.cond s5 (sq (rg [gm s4,gm (iu 0),gm l0] [(1,1),(2,2)]) .ret) .skip)) (sq (rg [gm s6,gn (.s2b l0),gx 220 [l1] [[.sl 1 [.a]]],gm l2,gm bm] [(1,3),(2,4)]) .ret))))⟩
def w74 {Y:Ctx}(hm:(Y.at 0).bU)(h72:C72 Y)(h220:V8 Y)(r:Rec)  (hp0:ew r):cZ Y GY (.tup [.int .u64 (ju r),.int .i64 (cL r).2]) [Rec.D r]:=by
 show bB _ _ _ [⟨_,_⟩,_,_,_,_,_,_] _;refine ak ?_;refine aH ?_;refine aj (hc:=h72 r hp0) ?_;refine fW ?_;refine cC (fun hc0=>?_) fun hc0=>?_
 .refine aW ?_;refine bE (aN (ar (D.int .u64) ?_) (ar (D.int .i64) ?_));all_goals
   simp[ju,hc0]
 refine aF ?_;refine aj (hc:=h220 (cL r).1) (ha:=fun _=>ar (fun d=>[d]) (nL (q:=fun b:UInt8=>D.int .u8 b.toNat) (fun _=>rfl) ah)) (hp:=fun _=>⟨lK (q:=fun b:UInt8=>D.int .u8 b.toNat) (fun _=>rfl) ah,trivial⟩) ?_;refine aF ?_;refine bE (aN (ar (D.int .u64) ?_) (ar (D.int .i64) ?_));all_goals
  simp[ju,hc0]
def C3 (T:List D->D->Prop):Prop:=∀(r:Rec),(ew r)->T [Rec.D r] (.tup [.int .u64 (ju r),.int .i64 (cL r).2])
def C74 (Y:Ctx):Prop:=C3 (bq Y 74)
end Go.Abs
