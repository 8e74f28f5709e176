/- A part of the proofs. -/
import Derived.Lib.CountLaws
import Derived.Lib.IndexMore
import Derived.Lib.ItoaNum
import Derived.Lib.Join
import Derived.Lib.Split
import Derived.Lib.SplitLaws
import Derived.Lib.Strings
import Derived.Lib.TrimByte
import Derived.Shelf.Strings.Split
import Derived.Test.YtgnjlompgjhaaaaGreatDoorP09
set_option linter.all false
set_option maxRecDepth 4000
namespace Go.Abs
variable {Y:Ctx}(hm:(Y.at 0).cj)
def z8:aE:=⟨2,6,[⟨2,none⟩],b8,(sq (r1 [gm cZ] 2 0) (sq (sq (r1 [gm bx] 3 0) (.block 0 (.loop (sq (sq (r1 [gm s3,gm s0,gl l1,aX l0 l2] 4 3) (fC s4 0)) (sq (.block 1 (sq (r1 [gm s0,gm s3,ga 1 l0 l1,gd l2,gx 357 [l3] b8,iY l4] 5 5) (.cond s5 (sq (r1 [gm cZ] 2 0) .ret) .skip))) (r1 [gm s3,az l0 cl,gm l1] 3 2)))))) (sq (r1 [gm s0,gl l0,zx l1 xB,gm l2,gmt 3 s0,cr 3 (.call 815 [l4] [[.sl 1 [.a]]]),eX l3 l5,gm l6,gmt 7 s1,gmt 7 l8,ek 9 s0,cn 9 (.len l10),cn 9 (cV fZ bx),US 7 l9 iv,eX l7 jr,gm jT] 2 15) .ret)))⟩
def w812 (h357:GS Y)(h815:T7 Y)(l:List au)(al:Bool)   :dn Y z8 (.bool (mh l al)) [.sl 1 (l.map D.str),.bool al]:=by
 show bP _ _ _ [⟨_,_⟩,⟨_,_⟩,_,_,_,_] _;refine aq ?_;refine aG ?_;refine bh hm (ι:=Nat) (fun i=>[⟨true,.sl 1 (l.map D.str)⟩,⟨true,.bool al⟩,.un,⟨true,.int .i64 (i:Nat)⟩,.un,.un]) (fun i=>[]) 2 (fun i=>i<=l.length/\mh l al=(cQ (fun i=>c9 l[i]!) i l.length&&((decide (l.length<=6)&&rising l)&&(al ||decide (l.length=0))))) (fun i=>l.length-i) 0 ⟨ae,(wf_2 l al).symm⟩ (dy []) ?_;rintro i ⟨hi,hr⟩;refine aI ?_;intro u0;refine ay ?_;refine cM (fun hc0=>?_) fun hc0=>?_
 .refine ba ?_;refine ar (hc:=h357 _) ?_;refine ay ?_;refine wp_cond (fun hc1=>?_) (fun hc1=>?_)
  .simp only[bg]at hc1;refine aG ?_;refine bX ?_;rw[hr,aS ae,hc1];rfl
  simp only[bN]at hc1;refine bU ?_;exact⟨i+1,⟨ae,by rw[hr,aS ae,hc1];rfl⟩,ae,(dy [])⟩
 refine aI ?_;intro u1;refine aA ?_;refine ar (hc:=h815 _) ?_;refine aI ?_;refine iJ ?_;refine aG ?_;refine bX ?_;rw[hr,cq ae,gC,hJ.2 (show((l.length:Nat):Int)<=6↔l.length<=6 by omega),hJ.2 (show((l.length:Nat):Int)=0↔l.length=0 by omega)]
def KZ (T:List D->D->Prop):Prop:=∀(l:List au) (al:Bool),T [.sl 1 (l.map D.str),.bool al] (.bool (mh l al))
def XD (Y:Ctx):Prop:=KZ (bD Y 812)
def HT:aE:=⟨3,10,[⟨3,none⟩],b8,(sq (rg [gb 9 s0,gb 4 s1,gm bx] [(6,0),(4,1),(3,2)]) (sq (.block 0 (sq (r1 [gf 0 s4,gd l0,gx 216 [l1] b8,iY l2,gm l3] 5 4) (.cond s5 (sq (r1 [gm wC] 3 0) .ret) (sq (r1 [gf 0 s4,gd l0,gf 0 s6,gd l2,aL l1 l3,gm l4] 7 5) (.cond s7 (sq (r1 [gm EP] 3 0) .ret) (sq (r1 [gf 1 s4,gd l0,gx 572 [l1] b8,iY l2,gm l3] 8 4) (.cond s8 (sq (r1 [gm xB] 3 0) .ret) (sq (r1 [gf 2 s4,gd l0,gm s2,gx 812 [l1,l2] [[.sl 1 [.a]],[.a]],iY l3,gm l4] 9 5) (.cond s9 (sq (r1 [gm (i6 11)] 3 0) .ret) .skip))))))))) (sq (r1 [gm bx] 3 0) .ret)))⟩
def w669 {Y:Ctx}(hm:(Y.at 0).cj)(h216:Lb Y)(h572:TS Y)(h812:XD Y)(r:Rec)(w:ch)(al:Bool)  (hp0:w.sm):dn Y HT (.int .i64 (kZ r w al)) [Rec.D r,ch.D w,.bool al]:=by
 show bP _ _ _ [⟨_,_⟩,⟨_,_⟩,⟨_,_⟩,_,_,_,_,_,_,_] _;refine aq ?_;refine bU ?_;refine ar (hc:=h216 _) ?_;refine aA ?_;refine fP (fun hc0=>?_) fun hc0=>?_
 .refine aI ?_;refine c8 ?_;have hw:gR r w.name w.range=4:=by rw[gR,aw hc0]
  rw[kZ,aw (by rw[hw];decide),hw]
 refine bU ?_;refine fP (fun hc1=>?_) fun hc1=>?_
 .refine aI ?_;refine c8 ?_;have hw:gR r w.name w.range=8:=by rw[gR,ak (by simp[hc0]),aw hc1]
  rw[kZ,aw (by rw[hw];decide),hw]
 refine aA ?_;refine ar (hc:=h572 w.range hp0.1.2) ?_;refine aA ?_;refine wp_cond (fun hc2=>?_) (fun hc2=>?_)
 .try simp only[dq]at hc2
  refine aI ?_;refine c8 ?_;have hw:gR r w.name w.range=6:=by rw[gR,ak (by simp[hc0]),ak hc1,aw hc2]
  rw[kZ,aw (by rw[hw];decide),hw]
 simp only[bN]at hc2;have hw0:gR r w.name w.range=0:=by rw[gR,ak (by simp[hc0]),ak hc1,ak (by simp[hc2])]
 refine aD ?_;refine ar (hc:=h812 w.feats al) ?_;refine aA ?_;refine fP (fun hc3=>?_) fun hc3=>?_
 .refine aI ?_;refine c8 ?_;rw[kZ,ak (by simp[hw0]),aw hc3]
 refine aG ?_;refine c8 ?_;rw[kZ,ak (by simp[hw0]),ak (by simp[hc3])]
def Xg (Y:Ctx):Prop:=yb (bD Y 669)
def HP:aE:=⟨2,13,[⟨2,none⟩],b8,(sq (rg [gb 9 s0,gb 3 s1,gm bx] [(8,0),(3,1),(2,2)]) (sq (sq (r1 [gf 0 s3,gd l0,gl l1,aL l2 bx] 4 3) (.cond s4 (sq (r1 [gm LY] 2 0) .ret) .skip)) (sq (sq (r1 [gf 0 s3,gd l0,gl l1,dj l2 kJ] 5 3) (.cond s5 (sq (r1 [gm kJ] 2 0) .ret) .skip)) (sq (sq (r1 [gm bx] 6 0) (.block 0 (.loop (sq (sq (r1 [gm s6,gf 0 s3,gd l1,gl l2,aX l0 l3] 7 4) (fC s7 0)) (sq (.block 1 (sq (r2 [gk 9 true s8,gf 0 s3,gd l1,gm s6,ga 4 l2 l3,gk 4 true l4,gf 0 s3,gd l6,gl l7,aL l8 cl,gx 669 [l0,l5,l9] [[.a,.a,.a,.a,.a,.a,.sl 3 [.sl 4 [.a,.a,.sl 1 [.a],.a],.a,.a],.sl 3 [.a,.a,.a],.sl 2 [.a,.sl 1 [.a]]],[.a,.a,.sl 1 [.a],.a],[.a]],gm l10] 9 11) (sq (r1 [gm s9,bO l0 bx] 10 1) (.cond ik (sq (r1 [gm s9,gm l0] 2 1) .ret) .skip)))) (r1 [gm s6,az l0 cl,gm l1] 6 2)))))) (sq (sq (r1 [gf 1 s3,gd l0,gx 670 [l1] b8,iY l2] 11 3) (.cond jR (sq (r1 [gm Nf] 2 0) .ret) .skip)) (sq (sq (r1 [gf 2 s3,gd l0,bO l1 cse,gm l2,kn 3 2 s3,jM 3 l4,cr 3 (.call 357 [l5] b8),cr 3 (.un .not l6),eX l3 l7] 12 8) (.cond kr (sq (r1 [gm (i6 14)] 2 0) .ret) .skip)) (sq (r1 [gm bx] 2 0) .ret)))))))⟩
def w457 (h357:GS Y)(h669:Xg Y)(h670:T1 Y)(r:Rec)(n:bw)  (hp0:n.sm):dn Y HP (.int .i64 (jD r n)) [Rec.D r,bw.D n]:=by
 show bP _ _ _ [⟨_,_⟩,⟨_,_⟩,_,_,_,_,_,_,_,_,_,_,_] _;refine aq ?_;refine di ?_;intro u0;refine ay ?_;refine cM (fun hc0=>?_) fun hc0=>?_
 .refine aI ?_;refine c8 ?_;rw[jD,aw ae]
 refine aG ?_;intro u1;refine ay ?_;refine cM (fun hc1=>?_) fun hc1=>?_
 .refine aI ?_;refine c8 ?_;rw[jD,ak ae,aw ae]
 refine aI ?_;refine bh hm (ι:=Nat) (fun i=>[.un,.un,.un,⟨true,.ptr 1 3 0 0⟩,.un,.un,⟨true,.int .i64 (i:Nat)⟩,.un,⟨true,.ptr 0 9 0 0⟩,.un,.un,.un,.un]) (fun i=>[(0,.buf 9 [Rec.D r]),(1,.buf 3 [bw.D n])]) 12 (fun i=>i<=n.any.length/\oK r n.any=fQ (fun i=>kZ r n.any[i]! (decide ((n.any.length:Int)=1))) i n.any.length) (fun i=>n.any.length-i) 0 ⟨ae,rfl⟩ (dy [(0,0),(1,1)]) ?_;rintro i ⟨hi,hr⟩;refine aG ?_;intro u2;refine ay ?_;refine cM (fun hc2=>?_) fun hc2=>?_
 .refine ba ?_;refine bL i ?_;first|refine bH (v:=(ch.D _)) ?_|refine e8 (v:=(ch.D _)) ?_
  refine ay ?_;refine iJ ?_;refine aH ?_;refine ar (hc:=h669 r n.any[i]! _ (hp0.1 _ (bR ae))) ?_;refine aG ?_;refine fP (fun hc3=>?_) fun hc3=>?_
  .refine ba ?_;refine c8 ?_;have hw:oK r n.any=kZ r n.any[i]! (decide ((n.any.length:Int)=1)):=by rw[hr,lD ae hc3]
   rw[jD,ak ae,ak ae,aw (by rw[hw];exact hc3),hw]
  refine bU ?_;exact⟨i+1,⟨ae,by rw[hr,pe ae hc3]⟩,ae,(dy [(0,0),(1,1)])⟩
 refine aD ?_;have hw0:oK r n.any=0:=by rw[hr,pd ae]
 refine ay ?_;refine ar (hc:=h670 _) ?_;refine ay ?_;refine av (fun hc4=>?_) (fun hc4=>?_)
 .try simp only[dq]at hc4
  refine aI ?_;refine c8 ?_;rw[jD,ak ae,ak ae,ak (by simp[hw0]),aw hc4]
 simp only[bN]at hc4;refine di ?_;refine ar (hc:=h357 _) ?_;refine aA ?_;refine av (fun hc5=>?_) (fun hc5=>?_)
 .try simp only[dq]at hc5
  refine aI ?_;refine c8 ?_;rw[jD,ak ae,ak ae,ak (by simp[hw0]),ak (by simp[hc4]),aw hc5]
 simp only[dR,bN,aT]at hc5;refine aI ?_;refine c8 ?_;rw[jD,ak ae,ak ae,ak (by simp[hw0]),ak (by simp[hc4]),ak (by rintro⟨g1,g2⟩;rcases hc5 with h|h;exact g1 h;rw[g2]at h;cases h)]
def WN (Y:Ctx):Prop:=xT (bD Y 457)
def Mt:aE:=⟨2,9,[⟨2,none⟩],b8,(sq (rg [gb 9 s0,gb 3 s1,gm bx] [(5,0),(3,1),(2,2)]) (sq (.block 0 (sq (r1 [gf 0 s3,gd l0,gx 216 [l1] b8,iY l2,gm l3] 4 4) (.cond s4 (sq (r1 [gm wC] 2 0) .ret) (sq (r1 [gf 0 s3,gd l0,gf 0 s5,gd l2,aL l1 l3,gm l4] 6 5) (.cond s6 (sq (r1 [gm EP] 2 0) .ret) (sq (r1 [gf 1 s3,gd l0,gx 572 [l1] b8,iY l2,gm l3] 7 4) (.cond s7 (sq (r1 [gm xB] 2 0) .ret) (sq (r1 [gf 2 s3,gd l0,gx 670 [l1] b8,iY l2,gm l3] 8 4) (.cond s8 (sq (r1 [gm Nf] 2 0) .ret) .skip))))))))) (sq (r1 [gm bx] 2 0) .ret)))⟩
def w458 {Y:Ctx}(hm:(Y.at 0).cj)(h216:Lb Y)(h572:TS Y)(h670:T1 Y)(r:Rec)(b:fM)  (hp0:b.sm):dn Y Mt (.int .i64 (qt r b)) [Rec.D r,fM.D b]:=by
 show bP _ _ _ [⟨_,_⟩,⟨_,_⟩,_,_,_,_,_,_,_] _;refine aq ?_;refine bU ?_;refine ar (hc:=h216 _) ?_;refine aA ?_;refine fP (fun hc0=>?_) fun hc0=>?_
 .refine aI ?_;refine c8 ?_;have hw:gR r b.name b.range=4:=by rw[gR,aw hc0]
  rw[qt,aw (by rw[hw];decide),hw]
 refine bU ?_;refine fP (fun hc1=>?_) fun hc1=>?_
 .refine aI ?_;refine c8 ?_;have hw:gR r b.name b.range=8:=by rw[gR,ak (by simp[hc0]),aw hc1]
  rw[qt,aw (by rw[hw];decide),hw]
 refine aA ?_;refine ar (hc:=h572 b.range hp0.2.1) ?_;refine aA ?_;refine wp_cond (fun hc2=>?_) (fun hc2=>?_)
 .try simp only[dq]at hc2
  refine aI ?_;refine c8 ?_;have hw:gR r b.name b.range=6:=by rw[gR,ak (by simp[hc0]),ak hc1,aw hc2]
  rw[qt,aw (by rw[hw];decide),hw]
 simp only[bN]at hc2;have hw0:gR r b.name b.range=0:=by rw[gR,ak (by simp[hc0]),ak hc1,ak (by simp[hc2])]
 refine aA ?_;refine ar (hc:=h670 _) ?_;refine aA ?_;refine fP (fun hc3=>?_) fun hc3=>?_
 .refine aI ?_;refine c8 ?_;rw[qt,ak (by simp[hw0]),aw hc3]
 refine aG ?_;refine c8 ?_;rw[qt,ak (by simp[hw0]),ak (by simp[hc3])]
def Kq (T:List D->D->Prop):Prop:=∀(r:Rec) (b:fM),(b.sm)->T [Rec.D r,fM.D b] (.int .i64 (qt r b))
def WO (Y:Ctx):Prop:=Kq (bD Y 458)
def Du:aE:=⟨2,7,[⟨2,none⟩],b8,(sq (rg [gb 9 s0,gm cZ] [(4,0),(2,1)]) (sq (sq (r1 [gm bx] 3 0) (.block 0 (.loop (sq (sq (r1 [gm s3,gf 6 s4,gd l1,gl l2,aX l0 l3] 5 4) (fC s5 0)) (sq (.block 1 (sq (r1 [gf 6 s4,gd l0,gm s3,ga 3 l1 l2,gf 2 l3,gd l4,gm s1,aL l5 l6] 6 7) (.cond s6 (sq (r1 [gm m5] 2 0) .ret) .skip))) (r1 [gm s3,az l0 cl,gm l1] 3 2)))))) (sq (r1 [gm cZ] 2 0) .ret)))⟩
def w673  (r:Rec)(x:au)   :dn Y Du (.bool (Mi r.needs x)) [Rec.D r,.str x]:=by
 show bP _ _ _ [⟨_,_⟩,⟨_,_⟩,_,_,_,_,_] _;refine aq ?_;refine ba ?_;refine bh hm (ι:=Nat) (fun i=>[.un,⟨true,.str x⟩,.un,⟨true,.int .i64 (i:Nat)⟩,⟨true,.ptr 0 9 0 0⟩,.un,.un]) (fun i=>[(0,.buf 9 [Rec.D r])]) 3 (fun i=>i<=r.needs.length/\Mi r.needs x=(r.needs.drop i).any (fun n=>decide (n.option=x))) (fun i=>r.needs.length-i) 0 ⟨ae,rfl⟩ (dy [(0,0)]) ?_;rintro i ⟨hi,hr⟩;refine aG ?_;intro u0;refine ay ?_;refine cM (fun hc0=>?_) fun hc0=>?_
 .refine aG ?_;refine bL i ?_;refine aI ?_;refine fP (fun hc1=>?_) fun hc1=>?_
  .refine aG ?_;refine bX ?_;rw[hr,tL (c:=fun n:bw=>decide (n.option=x)) ae (b9 hc1)]
  refine bU ?_;exact⟨i+1,⟨ae,by rw[hr,yH (c:=fun n:bw=>decide (n.option=x)) ae (cJ hc1)]⟩,ae,(dy [(0,0)])⟩
 refine aG ?_;refine bX ?_;rw[hr,tK ae]
def KK (T:List D->D->Prop):Prop:=∀(r:Rec) (x:au),T [Rec.D r,.str x] (.bool (Mi r.needs x))
def Xi (Y:Ctx):Prop:=KK (bD Y 673)
def Dv:aE:=⟨2,7,[⟨2,none⟩],b8,(sq (rg [gb 9 s0,gm cZ] [(4,0),(2,1)]) (sq (sq (r1 [gm bx] 3 0) (.block 0 (.loop (sq (sq (r1 [gm s3,gf 6 s4,gd l1,gl l2,aX l0 l3] 5 4) (fC s5 0)) (sq (.block 1 (sq (r1 [gf 6 s4,gd l0,gm s3,ga 3 l1 l2,gf 0 l3,gd l4,gl l5,aL l6 cl,gm l7,kn 8 6 s4,jM 8 l9,gmt 8 s3,cr 8 (.ia 3 l10 fZ),kn 8 0 iv,jM 8 jr,cr 8 (.ia 4 jT bx),kn 8 0 lg,jM 8 nw,gmt 8 s1,cr 8 (cV oU pL),eX l8 qx] 6 20) (.cond s6 (sq (r1 [gm m5] 2 0) .ret) .skip))) (r1 [gm s3,az l0 cl,gm l1] 3 2)))))) (sq (r1 [gm cZ] 2 0) .ret)))⟩
def w674  (r:Rec)(x:au)   :dn Y Dv (.bool (B0 r.needs x)) [Rec.D r,.str x]:=by
 show bP _ _ _ [⟨_,_⟩,⟨_,_⟩,_,_,_,_,_] _;refine aq ?_;refine ba ?_;refine bh hm (ι:=Nat) (fun i=>[.un,⟨true,.str x⟩,.un,⟨true,.int .i64 (i:Nat)⟩,⟨true,.ptr 0 9 0 0⟩,.un,.un]) (fun i=>[(0,.buf 9 [Rec.D r])]) 3 (fun i=>i<=r.needs.length/\B0 r.needs x=(r.needs.drop i).any (fun n=>decide (n.any.length=1)&&decide (n.any[0]!.name=x))) (fun i=>r.needs.length-i) 0 ⟨ae,rfl⟩ (dy [(0,0)]) ?_;rintro i ⟨hi,hr⟩;refine aG ?_;intro u0;refine ay ?_;refine cM (fun hc0=>?_) fun hc0=>?_
 .refine aG ?_;refine bL i ?_;refine aA ?_;intro u1;refine aI ?_;refine bL i (hb:=fun _=>ae) ?_;refine aH ?_;refine bH (q:=bw.D) (xs:=r.needs) (i:=i) (hi:=fun _=>ae) (v:=(.sl 4 (r.needs[i]!.any.map ch.D))) ?_;refine bL 0 (hb:=fun h=>by simp only[gC,beq_iff_eq,bG,aT]at h;omega) ?_;refine aH ?_;refine bH (q:=ch.D) (xs:=r.needs[i]!.any) (i:=0) (hi:=fun h=>by simp only[gC,beq_iff_eq,bG,aT]at h;omega) (v:=(.str r.needs[i]!.any[0]!.name)) ?_;refine aD ?_;refine wp_cond (fun hc1=>?_) (fun hc1=>?_)
  .rw[hJ.2 (show((r.needs[i]!.any.length:Nat):Int)=1↔r.needs[i]!.any.length=1 by omega)]at hc1;have hz:=hc1;refine aG ?_;refine bX ?_;rw[hr,tL ae hz]
  rw[hJ.2 (show((r.needs[i]!.any.length:Nat):Int)=1↔r.needs[i]!.any.length=1 by omega)]at hc1;have hz:=hc1;refine bU ?_;exact⟨i+1,⟨ae,by rw[hr,yH ae hz]⟩,ae,(dy [(0,0)])⟩
 refine aG ?_;refine bX ?_;rw[hr,tK ae]
def KL (T:List D->D->Prop):Prop:=∀(r:Rec) (x:au),T [Rec.D r,.str x] (.bool (B0 r.needs x))
def Xj (Y:Ctx):Prop:=KL (bD Y 674)
def FG:aE:=⟨2,10,[⟨2,none⟩],b8,(sq (rg [gb 9 s0,gm bx] [(6,0),(2,1)]) (sq (sq (r1 [gm bx] 3 0) (.block 0 (.loop (sq (sq (r1 [gm s3,gm s1,gl l1,aX l0 l2] 4 3) (fC s4 0)) (sq (.block 1 (sq (rg [gm s1,gm s3,ga 1 l0 l1,gd l2,gx 672 [l3] b8,gm l4,ge l5 0,ge l5 1,ge l5 2,gm l6,gm l7,gm l8] [(5,9),(7,10)]) (sq (sq (r1 [gm s5,aL l0 jC,gm l1,cr 2 (.ld 9 true s6),gmt 2 s7,cr 2 (.call 673 [l3,l4] [[.a,.a,.a,.a,.a,.a,.sl 3 [.sl 4 [.a,.a,.sl 1 [.a],.a],.a,.a],.sl 3 [.a,.a,.a],.sl 2 [.a,.sl 1 [.a]]],[.a]]),cr 2 (.un .not l5),eX l2 l6] 8 7) (.cond s8 (sq (r1 [gm (i6 14)] 2 0) .ret) .skip)) (sq (r1 [gm s5,aL l0 kJ,gm l1,cr 2 (.ld 9 true s6),gmt 2 s7,cr 2 (.call 674 [l3,l4] [[.a,.a,.a,.a,.a,.a,.sl 3 [.sl 4 [.a,.a,.sl 1 [.a],.a],.a,.a],.sl 3 [.a,.a,.a],.sl 2 [.a,.sl 1 [.a]]],[.a]]),cr 2 (.un .not l5),eX l2 l6] 9 7) (.cond s9 (sq (r1 [gm (i6 16)] 2 0) .ret) .skip))))) (r1 [gm s3,az l0 cl,gm l1] 3 2)))))) (sq (r1 [gm bx] 2 0) .ret)))⟩
def w460 (h672:T2 Y)(h673:Xi Y)(h674:Xj Y)(r:Rec)(of:List au)  (hp0:∀t∈of,t.length<=1048576):dn Y FG (.int .i64 (lH r of)) [Rec.D r,.sl 1 (of.map D.str)]:=by
 show bP _ _ _ [⟨_,_⟩,⟨_,_⟩,_,_,_,_,_,_,_,_] _;refine aq ?_;refine ba ?_;refine bh hm (ι:=Nat) (fun i=>[.un,⟨true,.sl 1 (of.map D.str)⟩,.un,⟨true,.int .i64 (i:Nat)⟩,.un,.un,⟨true,.ptr 0 9 0 0⟩,.un,.un,.un]) (fun i=>[(0,.buf 9 [Rec.D r])]) 3 (fun i=>i<=of.length/\lH r of=fQ (fun i=>m9 r of[i]!) i of.length) (fun i=>of.length-i) 0 ⟨ae,rfl⟩ (dy [(0,0)]) ?_;rintro i ⟨hi,hr⟩;refine aI ?_;intro u0;refine ay ?_;refine cM (fun hc0=>?_) fun hc0=>?_
 .refine ba ?_;refine ar (hc:=h672 of[i]! (hp0 _ (bR ae))) ?_;refine AJ ?_;refine ar (hc:=h673 r (dU of[i]!).2.1) ?_;refine aA ?_;refine av (fun hc1=>?_) (fun hc1=>?_)
  .try simp only[dq]at hc1
   refine ba ?_;refine c8 ?_;have he:m9 r of[i]! =14:=by rw[m9,aw hc1]
   rw[hr,lD ae (by rw[he];decide),he]
  have hn1:¬((dU of[i]!).1=2/\Mi r.needs (dU of[i]!).2.1=false):=by rintro⟨g1,g2⟩;rw[g1,g2]at hc1;cases hc1
  refine ba ?_;refine ar (hc:=h674 r (dU of[i]!).2.1) ?_;refine aA ?_;refine wp_cond (fun hc2=>?_) (fun hc2=>?_)
  .try simp only[dq]at hc2
   refine aG ?_;refine c8 ?_;have he:m9 r of[i]! =16:=by rw[m9,ak hn1,aw hc2]
   rw[hr,lD ae (by rw[he];decide),he]
  have hn2:¬((dU of[i]!).1=3/\B0 r.needs (dU of[i]!).2.1=false):=by rintro⟨g1,g2⟩;rw[g1,g2]at hc2;cases hc2
  refine bU ?_;exact⟨i+1,⟨ae,by rw[hr,pe ae (by rw[m9,ak hn1,ak hn2])]⟩,ae,(dy [(0,0)])⟩
 refine aG ?_;refine c8 ?_;rw[hr,pd ae]
def Kr (T:List D->D->Prop):Prop:=∀(r:Rec) (of:List au),(∀t∈of,t.length<=1048576)->T [Rec.D r,.sl 1 (of.map D.str)] (.int .i64 (lH r of))
def WR (Y:Ctx):Prop:=Kr (bD Y 460)
def FH:aE:=⟨1,17,[⟨1,none⟩,⟨2,none⟩],fA,(sq (rg [gb 9 s0,gm bx,gm bx] [(4,0),(1,1),(2,2)]) (sq (sq (r1 [gm bx] 3 0) (.block 0 (.loop (sq (sq (r1 [gm s3,gf 6 s4,gd l1,gl l2,aX l0 l3] 5 4) (fC s5 0)) (sq (.block 1 (sq (r2 [gk 9 true s4,gf 6 s4,gd l1,gm s3,ga 3 l2 l3,gk 3 true l4,gx 457 [l0,l5] [[.a,.a,.a,.a,.a,.a,.sl 3 [.sl 4 [.a,.a,.sl 1 [.a],.a],.a,.a],.sl 3 [.a,.a,.a],.sl 2 [.a,.sl 1 [.a]]],[.sl 4 [.a,.a,.sl 1 [.a],.a],.a,.a]],gm l6] 6 7) (sq (r1 [gm s6,bO l0 bx] 7 1) (.cond s7 (sq (rg [gm s6,gm s3,gm l0,gm l1] [(1,2),(2,3)]) .ret) .skip)))) (r1 [gm s3,az l0 cl,gm l1] 3 2)))))) (sq (sq (r1 [gm bx] 8 0) (.block 2 (.loop (sq (sq (r1 [gm s8,gf 7 s4,gd l1,gl l2,aX l0 l3] 9 4) (fC s9 2)) (sq (.block 3 (sq (r2 [gk 9 true s4,gf 7 s4,gd l1,gm s8,ga 3 l2 l3,gk 3 true l4,gx 458 [l0,l5] [[.a,.a,.a,.a,.a,.a,.sl 3 [.sl 4 [.a,.a,.sl 1 [.a],.a],.a,.a],.sl 3 [.a,.a,.a],.sl 2 [.a,.sl 1 [.a]]],[.a,.a,.a]],gm l6] 10 7) (sq (r1 [gm ik,bO l0 bx] 11 1) (.cond jR (sq (rg [gm ik,gm s8,gm l0,gm l1] [(1,2),(2,3)]) .ret) .skip)))) (r1 [gm s8,az l0 cl,gm l1] 8 2)))))) (sq (sq (r1 [gf 8 s4,gd l0,gx 459 [l1] [[.sl 2 [.a,.sl 1 [.a]]]],iY l2] 12 3) (.cond kr (sq (rg [gm (i6 11),gm bx] [(1,0),(2,1)]) .ret) .skip)) (sq (sq (r1 [gm bx] 13 0) (.block 4 (.loop (sq (sq (r1 [gm qb,gf 8 s4,gd l1,gl l2,aX l0 l3] 14 4) (fC tw 4)) (sq (.block 5 (sq (r2 [gk 9 true s4,gf 8 s4,gd l1,gm qb,ga 2 l2 l3,gf 1 l4,gd l5,gx 460 [l0,l6] [[.a,.a,.a,.a,.a,.a,.sl 3 [.sl 4 [.a,.a,.sl 1 [.a],.a],.a,.a],.sl 3 [.a,.a,.a],.sl 2 [.a,.sl 1 [.a]]],[.sl 1 [.a]]],gm l7] 15 8) (sq (r1 [gm tx,bO l0 bx] 16 1) (.cond AQ (sq (rg [gm tx,gm qb,gm l0,gm l1] [(1,2),(2,3)]) .ret) .skip)))) (r1 [gm qb,az l0 cl,gm l1] 13 2)))))) (sq (rg [gm bx,gm bx] [(1,0),(2,1)]) .ret))))))⟩
def w218 (h457:WN Y)(h458:WO Y)(h459:WQ Y)(h460:WR Y)(r:Rec)  (hp0:gW r):dn Y FH (.tup [.int .i64 (eQ r).1,.int .i64 (eQ r).2]) [Rec.D r]:=by
 show bP _ _ _ [⟨_,_⟩,_,_,_,_,_,_,_,_,_,_,_,_,_,_,_,_] _;refine aq ?_;refine bU ?_;refine bh hm (ι:=Nat) (fun i=>[.un,.un,.un,⟨true,.int .i64 (i:Nat)⟩,⟨true,.ptr 0 9 0 0⟩,.un,.un,.un,.un,.un,.un,.un,.un,.un,.un,.un,.un]) (fun i=>[(0,.buf 9 [Rec.D r])]) 4 (fun i=>i<=r.needs.length/\n7 r=ji (fun i=>jD r r.needs[i]!) i r.needs.length) (fun i=>r.needs.length-i) 0 ⟨ae,rfl⟩ (dy [(0,0)]) ?_;rintro i ⟨hi,hr⟩;refine aG ?_;intro u0;refine ay ?_;refine cM (fun hc0=>?_) fun hc0=>?_
 .refine ba ?_;refine bL i ?_;first|refine bH (v:=(bw.D _)) ?_|refine e8 (v:=(bw.D _)) ?_
  refine ar (hc:=h457 r r.needs[i]! (hp0.2.1 _ (bR ae))) ?_;refine aG ?_;refine fP (fun hc1=>?_) fun hc1=>?_
  .refine di ?_;refine bI (aK (aj (D.int .i64) ?_) (aj (D.int .i64) ?_));all_goals
    have hq:eQ r=(jD r r.needs[i]!,((i:Nat):Int)):=by
     exact Fg (by rw[hr,j5 ae hc1]) hc1
    rw[hq];first|done|rfl
  refine bU ?_;exact⟨i+1,⟨ae,by rw[hr,nD ae hc1]⟩,ae,(dy [(0,0)])⟩
 refine aD ?_;have hn0:n7 r=(0,0):=by rw[hr,nC ae]
 refine ay ?_;refine bh hm (ι:=Nat) (fun i=>[.un,.un,.un,.un,⟨true,.ptr 0 9 0 0⟩,.un,.un,.un,⟨true,.int .i64 (i:Nat)⟩,.un,.un,.un,.un,.un,.un,.un,.un]) (fun i=>[(0,.buf 9 [Rec.D r])]) 10 (fun i=>i<=r.bars.length/\tO r=ji (fun i=>qt r r.bars[i]!) i r.bars.length) (fun i=>r.bars.length-i) 0 ⟨ae,rfl⟩ (dy [(0,0)]) ?_;rintro i ⟨hi,hr⟩;refine aG ?_;intro u1;refine ay ?_;refine cM (fun hc2=>?_) fun hc2=>?_
 .refine ba ?_;refine bL i ?_;first|refine bH (v:=(fM.D _)) ?_|refine e8 (v:=(fM.D _)) ?_
  refine ar (hc:=h458 r r.bars[i]! (hp0.2.2.1 _ (bR ae))) ?_;refine aG ?_;refine fP (fun hc3=>?_) fun hc3=>?_
  .refine di ?_;refine bI (aK (aj (D.int .i64) ?_) (aj (D.int .i64) ?_));all_goals
    have hq:eQ r=(qt r r.bars[i]!,((i:Nat):Int)):=by
     exact zK hn0 (by rw[hr,j5 ae hc3]) hc3
    rw[hq];first|done|rfl
  refine bU ?_;exact⟨i+1,⟨ae,by rw[hr,nD ae hc3]⟩,ae,(dy [(0,0)])⟩
 refine aD ?_;have hb0:tO r=(0,0):=by rw[hr,nC ae]
 refine ay ?_;refine ar (hc:=h459 r.feats hp0.2.2.2) ?_;refine ay ?_;refine av (fun hc4=>?_) (fun hc4=>?_)
 .try simp only[dq]at hc4
  refine aG ?_;refine bI (aK (aj (D.int .i64) ?_) (aj (D.int .i64) ?_));all_goals
   have hq:eQ r=(11,0):=by
    exact Fh hn0 hb0 hc4
   rw[hq];first|done|rfl
 simp only[bN]at hc4;refine aI ?_;refine bh hm (ι:=Nat) (fun i=>[.un,.un,.un,.un,⟨true,.ptr 0 9 0 0⟩,.un,.un,.un,.un,.un,.un,.un,.un,⟨true,.int .i64 (i:Nat)⟩,.un,.un,.un]) (fun i=>[(0,.buf 9 [Rec.D r])]) 20 (fun i=>i<=r.feats.length/\yY r=ji (fun i=>lH r r.feats[i]!.of) i r.feats.length) (fun i=>r.feats.length-i) 0 ⟨ae,rfl⟩ (dy [(0,0)]) ?_;rintro i ⟨hi,hr⟩;refine aG ?_;intro u2;refine ay ?_;refine cM (fun hc5=>?_) fun hc5=>?_
 .refine ba ?_;refine bL i ?_;refine ay ?_;refine ar (hc:=h460 r r.feats[i]!.of (hp0.2.2.2 _ (bR ae)).2.2) ?_;refine aG ?_;refine fP (fun hc6=>?_) fun hc6=>?_
  .refine di ?_;refine bI (aK (aj (D.int .i64) ?_) (aj (D.int .i64) ?_));all_goals
    have hq:eQ r=(lH r r.feats[i]!.of,((i:Nat):Int)):=by
     exact uv hn0 hb0 hc4 (by rw[hr,j5 (f:=(fun i=>lH r r.feats[i]!.of)) ae hc6])
    rw[hq];first|done|rfl
  refine bU ?_;exact⟨i+1,⟨ae,by rw[hr,nD (f:=(fun i=>lH r r.feats[i]!.of)) ae hc6]⟩,ae,(dy [(0,0)])⟩
 refine ba ?_;refine bI (aK (aj (D.int .i64) ?_) (aj (D.int .i64) ?_));all_goals
  have hq:eQ r=(0,0):=by
   exact uv hn0 hb0 hc4 (by rw[hr,nC ae])
  rw[hq];first|done|rfl
def JW (T:List D->D->Prop):Prop:=∀(r:Rec),(gW r)->T [Rec.D r] (.tup [.int .i64 (eQ r).1,.int .i64 (eQ r).2])
def We (Y:Ctx):Prop:=JW (bD Y 218)
def FC:aE:=⟨1,11,[⟨1,none⟩,⟨2,none⟩],fA,(sq (rg [gb 9 s0,gm bx,gm bx] [(3,0),(1,1),(2,2)]) (sq (.block 0 (sq (r1 [gf 0 s3,gd l0,gx 216 [l1] b8,iY l2,gm l3] 4 4) (.cond s4 (sq (rg [gm wC,gm bx] [(1,0),(2,1)]) .ret) (sq (r1 [gf 1 s3,gk 5 true l0,gx 217 [l1] xA,iY l2,gm l3] 5 4) (.cond s5 (sq (rg [gm Hj,gm bx] [(1,0),(2,1)]) .ret) (sq (r1 [gf 6 s3,gd l0,gl l1,dj l2 EP,gm l3,ig 4 7 s3,hZ 4 l5,cn 4 (.len l6),cn 4 (eG l7 EP),eW l4 l8,gm l9] 6 10) (.cond s6 (sq (rg [gm kJ,gm bx] [(1,0),(2,1)]) .ret) .skip))))))) (sq (sq (rg [gk 9 true s3,gx 218 [l0] [[.a,.a,.a,.a,.a,.a,.sl 3 [.sl 4 [.a,.a,.sl 1 [.a],.a],.a,.a],.sl 3 [.a,.a,.a],.sl 2 [.a,.sl 1 [.a]]]],gm l1,ge l2 0,ge l2 1,gm l3,gm l4] [(7,5),(9,6)]) (sq (r1 [gm s7,bO l0 bx] 8 1) (.cond s8 (sq (rg [gm s7,gm s9,gm l0,gm l1] [(1,2),(2,3)]) .ret) .skip))) (sq (sq (r1 [gk 9 true s3,gx 219 [l0] [[.a,.a,.a,.a,.a,.a,.sl 3 [.sl 4 [.a,.a,.sl 1 [.a],.a],.a,.a],.sl 3 [.a,.a,.a],.sl 2 [.a,.sl 1 [.a]]]],ov l1,dj l2 (i6 4096)] 10 3) (.cond ik (sq (rg [gm kJ,gm bx] [(1,0),(2,1)]) .ret) .skip)) (sq (rg [gm bx,gm bx] [(1,0),(2,1)]) .ret)))))⟩
def w71 {Y:Ctx}(hm:(Y.at 0).cj)(h216:Lb Y)(h217:GQ Y)(h218:We Y)(h219:Tx Y)(r:Rec)  (hp0:gW r):dn Y FC (.tup [.int .i64 (c7 r).1,.int .i64 (c7 r).2]) [Rec.D r]:=by
 show bP _ _ _ [⟨_,_⟩,_,_,_,_,_,_,_,_,_,_] _;refine aq ?_;refine bU ?_;refine ar (hc:=h216 _) ?_;refine aA ?_;refine wp_cond (fun hc0=>?_) (fun hc0=>?_)
 .try simp only[dq]at hc0
  refine aG ?_;refine bI (aK (aj (D.int .i64) ?_) (aj (D.int .i64) ?_));all_goals (have hq:c7 r=(4,0):=(by rw[c7,aw hc0]);rw[hq];first|done|rfl)
 simp only[bN]at hc0;refine ay ?_;refine bd (v:=cy.D r.v) ?_;refine ar (hc:=h217 r.v hp0.1.2) ?_;refine aA ?_;refine wp_cond (fun hc1=>?_) (fun hc1=>?_)
 .try simp only[dq]at hc1
  refine aG ?_;refine bI (aK (aj (D.int .i64) ?_) (aj (D.int .i64) ?_));all_goals (have hq:c7 r=(5,0):=(by rw[c7,ak (by simp[hc0]),aw hc1]);rw[hq];first|done|rfl)
 simp only[bN]at hc1;refine aD ?_;intro u0;refine aD ?_;refine iJ ?_;refine aD ?_;refine fP (fun hc2=>?_) fun hc2=>?_
 .refine aG ?_;refine bI (aK (aj (D.int .i64) ?_) (aj (D.int .i64) ?_));all_goals (have hq:c7 r=(3,0):=(by rw[c7,ak (by simp[hc0]),ak (by simp[hc1]),aw ae]);rw[hq];first|done|rfl)
 refine aI ?_;refine ar (hc:=h218 r hp0) ?_;refine fK ?_;refine av (fun hc3=>?_) (fun hc3=>?_)
 .try simp only[dq]at hc3
  refine bU ?_;refine bI (aK (aj (D.int .i64) ?_) (aj (D.int .i64) ?_));all_goals
   have hq:c7 r=eQ r:=by
    exact o9 hc0 hc1 ae ae rfl hc3
   rw[hq];first|done|rfl
 simp only[bN,aT]at hc3;have hpz:eQ r=(0,0):=Fi hc3;have hgd:zi r:=⟨⟨hc0,hc1⟩,⟨ae,ae⟩,hpz⟩;refine aD ?_;refine ar (hc:=h219 r ⟨hgd,hp0⟩) ?_;refine aH ?_;intro u1;refine ay ?_;refine cM (fun hc4=>?_) fun hc4=>?_
 .refine aG ?_;refine bI (aK (aj (D.int .i64) ?_) (aj (D.int .i64) ?_));all_goals
   have hq:c7 r=(3,0):=by
    rw[tT hc0 hc1 ae ae hpz,aw ae]
   rw[hq];first|done|rfl
 refine aG ?_;refine bI (aK (aj (D.int .i64) ?_) (aj (D.int .i64) ?_));all_goals
  have hq:c7 r=(0,0):=by
   rw[tT hc0 hc1 ae ae hpz,ak ae]
  rw[hq];first|done|rfl
def C71 (Y:Ctx):Prop:=DX (bD Y 71)
def FE:aE:=⟨1,14,[⟨1,some (9,true)⟩,⟨2,none⟩,⟨3,none⟩],[[.a,.a,.a,.a,.a,.a,.sl 3 [.sl 4 [.a,.a,.sl 1 [.a],.a],.a,.a],.sl 3 [.a,.a,.a],.sl 2 [.a,.sl 1 [.a]]],[.a],[.a]],(sq (rg [gb 9 (.c (.agg [.str [],.int .i64 0,.int .i64 0,.int .i64 0,.str [],.str [],.aF,.aF,.aF])),gm bx,gm bx] [(1,0),(2,1),(3,2)]) (sq (sq (r1 [gm s0,ov l0,dj l1 (i6 4096)] 4 2) (.cond s4 (sq (rg [gn (.build [.str [],.int .i64 0,.int .i64 0,.int .i64 0,.str [],.str [],.aF,.aF,.aF] []),gt 9 s1 l0,gm kJ,gm bx] [(2,2),(3,3)]) .ret) .skip)) (sq (rg [gm s0,gx 223 [l0] b8,gm l1,ge l2 0,ge l2 1,gm l3,gm l4] [(6,5),(8,6)]) (sq (r1 [gn (.build [.str [],.int .i64 0,.int .i64 0,.int .i64 0,.str [],.str [],.aF,.aF,.aF,.int .i64 0] []),gb 10 l0,gm l1] 9 2) (sq (sq (r1 [gm bx] 5 0) (.block 0 (.loop (sq (sq (r1 [gm s5,gm s6,gl l1,aX l0 l2] 7 3) (fC s7 0)) (sq (.block 1 (sq (r1 [gm s8,iY l0,gm l1,gmt 2 s5,gmt 2 s6,cr 2 (.len l4),cr 2 (jK l5 cl),cr 2 (cV l3 l6),eX l2 l7,gm l8,ek 9 s9,ek 9 s6,ek 9 s5,cn 9 (.ia 1 fZ iv),hZ 9 jr,cn 9 (.callM 224 [l10,jT]),cn 9 (.un .not lg),eW l9 nw] 10 17) (.cond ik (sq (rg [gn (.build [.str [],.int .i64 0,.int .i64 0,.int .i64 0,.str [],.str [],.aF,.aF,.aF] []),gm s5,az l1 cl,gt 9 s1 l0,gm jC,gm l2] [(2,4),(3,5)]) .ret) .skip))) (r1 [gm s5,az l0 cl,gm l1] 5 2)))))) (sq (sq (r1 [gm s9,gc l0,gf 9 l1,gd l2,aL l3 bx] 11 4) (.cond jR (sq (rg [gn (.build [.str [],.int .i64 0,.int .i64 0,.int .i64 0,.str [],.str [],.aF,.aF,.aF] []),gt 9 s1 l0,gm jC,gm cl] [(2,2),(3,3)]) .ret) .skip)) (sq (sq (r1 [gm s9,gc l0,gf 0 l1,gk 9 true l2,gx 71 [l3] [[.a,.a,.a,.a,.a,.a,.sl 3 [.sl 4 [.a,.a,.sl 1 [.a],.a],.a,.a],.sl 3 [.a,.a,.a],.sl 2 [.a,.sl 1 [.a]]]],gm l4,ge l5 0,ge l5 1,gm l6,gm l7] 12 8) (sq (r1 [gm kr,bO l0 bx] 13 1) (.cond qb (sq (rg [gn (.build [.str [],.int .i64 0,.int .i64 0,.int .i64 0,.str [],.str [],.aF,.aF,.aF] []),gm kr,gt 9 s1 l0,gm l1,gm bx] [(2,3),(3,4)]) .ret) .skip))) (sq (rg [gm s9,gc l0,gf 0 l1,gk 9 true l2,gt 9 s1 l3,gm bx,gm bx] [(2,5),(3,6)]) .ret))))))))⟩
def w77 (h71:C71 Y)(h223:Ty Y)(h224:Tz Y)(s:au)   :dn Y FE (.tup [Rec.D (cF s).1,.int .i64 (cF s).2.1,.int .i64 (cF s).2.2]) [.str s]:=by
 show bP _ _ _ [⟨_,_⟩,_,_,_,_,_,_,_,_,_,_,_,_,_] _;have hcase:=zp s;obtain⟨⟨ls,e⟩,hlx⟩:∃q,aC s=q:=⟨_,rfl⟩
 rw[hlx]at hcase;dsimp only at hcase;refine aq ?_;refine bU ?_;intro u0;refine ay ?_;refine av (fun hc0=>?_) (fun hc0=>?_)
 .simp only[aT]at hc0;have hrr:cF s=(gT,3,0):=by unfold cF;rw[aw ae]
  rw[hrr];refine ay ?_;refine bA dP ?_;refine aY dP (he:=aZ) ?_;refine aA ?_;refine nk [(0,.buf 9 [Rec.D gT])] (.bf ah (.cons mf .nil) .nil) ?_;refine aH ?_;refine bI (dc ?_ (aj (D.int .i64) ?_) (aj (D.int .i64) ?_));all_goals rfl
 simp only[bm]at hc0;have h96:¬4096<s.length:=ae;have hsl:=dd s 10;have hln:(nW s).length<=4097:=by rw[fX];omega
 have hll:ls.length<=(nW s).length+1:=by
  rcases hcase with⟨_,_,h⟩|⟨_,_,h⟩<;>rw[h]<;>simp
 have hlm:∀i:Nat,((nW s)[i]! :au).length<=1048576:=fun i=>AN.get (l:=nW s) (fun t ht=>by have:=dK s 10 (lf ht);omega) i
 refine aA ?_;refine ar (v:=.tup [.sl 1 (ls.map D.str),.bool e]) (hc:=by have:=h223 s ae;rw[hlx]at this;exact this) ?_;refine aH ?_;refine e7 (.sl _ _) ?_;refine aI ?_;refine bA (.agg [.str [],.int .i64 0,.int .i64 0,.int .i64 0,.str [],.str [],.aF,.aF,.aF,.int .i64 0]) ?_;refine ba ?_;refine bh hm (ι:=(Nat×jc)) (fun p=>[⟨true,.str s⟩,⟨true,.ptr 0 9 0 0⟩,⟨true,.int .i64 0⟩,⟨true,.int .i64 0⟩,.un,⟨true,.int .i64 (p.1:Nat)⟩,⟨true,.sl 1 (ls.map D.str)⟩,.un,⟨true,.bool e⟩,⟨true,.ptr 1 10 0 0⟩,.un,.un,.un,.un]) (fun p=>[(0,.buf 9 [dP]),(1,.buf 10 [nI p.2.r.name p.2.r.v p.2.r.needs.length p.2.r.bars.length p.2.r.feats.length ((p.2.st:Nat):Int) 2 4 5]),(2,.buf 3 (eF 3 p.2.r.needs)),(3,.buf 4 (mL p.2.r.needs)),(4,.buf 3 (p.2.r.bars.map fM.D)),(5,.buf 2 (p.2.r.feats.map cv.D))]) 50 (fun p=>p.1<=(nW s).length/\(p.2.ok/\p.2.sz<=p.1)/\lW uF (nW s)=lW p.2 ((nW s).drop p.1)) (fun p=>ls.length-p.1) (0,uF) ⟨Nat.zero_le _,⟨⟨fun _=>⟨rfl,rfl,rfl⟩,fun h=>by simp[uF]at h,fun h=>by simp[uF]at h⟩,aQ _⟩,rfl⟩ (br.to [(0,0),(14,1)] ah ah et (by refine bJ.lE ah ah ah ?_;refine bJ.ni 14 ah ah (by exact⟨_,_,rfl,⟨_,rfl,⟨_,_,rfl,⟨rfl,rfl⟩,⟨_,_,rfl,⟨rfl,rfl⟩,⟨_,_,rfl,⟨rfl,rfl⟩,⟨_,_,rfl,⟨rfl,rfl⟩,⟨_,_,rfl,⟨rfl,rfl⟩,⟨_,_,rfl,⟨rfl,rfl⟩,⟨_,_,rfl,Or.inr ⟨_,_,_,rfl⟩,⟨_,_,rfl,Or.inr ⟨_,_,_,rfl⟩,⟨_,_,rfl,Or.inr ⟨_,_,_,rfl⟩,⟨_,_,rfl,⟨rfl,rfl⟩,rfl⟩⟩⟩⟩⟩⟩⟩⟩⟩⟩⟩,rfl⟩) ?_;refine bJ.mt ah ah ah ah ?_;refine bJ.mt ah ah ah ah ?_;refine bJ.mt ah ah ah ah ?_;refine bJ.mt ah ah ah ah ?_;exact bJ.nil)) ?_;rintro⟨i,x⟩ ⟨hi,⟨hok,hsz⟩,hrun⟩;dsimp only at hi hok hsz hrun⊢;refine aI ?_;intro u1;refine ay ?_;refine av (fun hc1=>?_) (fun hc1=>?_)
 .simp only[aT]at hc1;have hil:i<ls.length:=ae;refine aA ?_;by_cases hb:(!e&&decide ((i:Nat)=((ls.length:Nat):Int) -1))=true
  .refine aI ?_;refine iJ ?_;refine ay ?_;refine Pt ?_;rw[hb];refine aD ?_;refine bL i (hb:=fun _=>ae) ?_;refine bH (v:=.str ls[i]!) (hi:=fun _=>ae) ?_;refine Dk ?_;refine ZK (.bool false) ?_;refine ZL (kb:=fun _ h=>by cases h) ?_;refine aH ?_;refine wp_cond (fun hc2=>?_) (fun hc2=>?_)
   .have hbb:=hb;simp only[bG,bg,aT]at hbb;have hrr:cF s=(gT,2,(i:Int)+1):=by
     rcases hcase with⟨h1,_,_⟩|⟨_,h2,h⟩
     .rw[h1]at hbb;cases hbb.1
     .have hl':ls.length=(nW s).length+1:=by rw[h];simp
      have:i=(nW s).length:=ae;subst this;exact Fq h96 hi (by rw[hrun,List.drop_length];rfl) (.inr h2)
    rw[hrr];refine aH ?_;refine bA dP ?_;refine ay ?_;refine aY dP (he:=aZ) ?_;refine aA ?_;refine nk [(0,.buf 9 [Rec.D gT])] (.bf ah (.cons mf .nil) .nil) ?_;refine aA ?_;refine bI (dc ?_ (aj (D.int .i64) ?_) (aj (D.int .i64) ?_));all_goals rfl
   skip
   exact absurd hc2 aM
  .refine aI ?_;refine iJ ?_;refine ay ?_;refine Pt ?_;rw[show(!e&&decide ((i:Nat)=((ls.length:Nat):Int) -1))=false by simpa using hb];refine aD ?_;refine bL i (hb:=fun _=>ae) ?_;refine bH (v:=.str ls[i]!) (hi:=fun _=>ae) ?_;have hin:i<(nW s).length/\ls[i]! =(nW s)[i]! :=by
    rcases hcase with⟨_,_,h⟩|⟨h1,_,h⟩
    .rw[h]at hil⊢;exact⟨hil,rfl⟩
    .have hb':¬((i:Nat):Int)=((ls.length:Nat):Int) -1:=by rw[h1]at hb;simpa using hb
     have hl':ls.length=(nW s).length+1:=by rw[h];simp
     have hi':i<(nW s).length:=ae;exact⟨hi',by rw[h];exact xy hi'⟩
   refine vP (ι:=Unit) (akq:=[.ptr 1 10 0 0,.str ls[i]!]) (fun _=>True) (fun _=>.bool (eu x ls[i]!).isSome) 58 (fun _=>uS (eu x ls[i]!) 1 69++[(0,.buf 9 [dP])]) (fun _ _=>?_) (hc:=fun K' hK=>h224 x ls[i]! hok ae (by rw[hin.2];exact hlm i) _ 1 2 3 4 5 _ K' ⟨aZ,aZ,aZ,aZ,aZ⟩ aM ⟨by simp only[ax,aB];omega,by simp only[ax,aB];omega,by simp only[ax,aB];omega,by simp only[ax,aB];omega,by simp only[ax,aB];omega⟩ (by exact hK () trivial)) (hn:=aM);refine aA ?_;refine wp_cond (fun hc2=>?_) (fun hc2=>?_)
   .simp only[Bool.false_or,bg]at hc2;have hso:=jN hc2;have hrr:cF s=(gT,2,(i:Int)+1):=by
     refine Fq (x:=x) h96 hi ?_ (.inl hin.1);rw[hrun,Cb (x:=x) hin.1,r7 (by rw[<-hin.2];exact hso)]
    rw[hrr,hso];simp only[uS,fk];refine aH ?_;refine bA dP ?_;refine ay ?_;refine aY dP (he:=aZ) ?_;refine aA ?_;refine nk [(0,.buf 9 [Rec.D gT])] (.bf ah (.cons mf .nil) .nil) ?_;refine aA ?_;refine bI (dc ?_ (aj (D.int .i64) ?_) (aj (D.int .i64) ?_));all_goals rfl
   simp only[Bool.false_or,bN]at hc2;obtain⟨y,hso⟩:=jO hc2;obtain⟨hyo,hys⟩:=So hso hok;have hrn:lW uF (nW s)=lW y ((nW s).drop (i+1)):=by rw[hrun,Cb (x:=x) hin.1,iL (by rw[<-hin.2];exact hso)]
   rw[hso];simp only[uS,Us,fY,fk];refine bU ?_;exact⟨(i+1,y),⟨ae,⟨hyo,fq⟩,hrn⟩,fq,(br.to [(0,0),(1,1),(69,2),(70,3),(71,4),(72,5)] ah ah et (by refine bJ.lE ah ah ah ?_;refine bJ.eq 1 ah ah ah ?_;refine bJ.eq 69 ah ah (vE _ _ _ _ ah _) ?_;refine bJ.nl 70 ah ah rfl (lB _) ?_;refine bJ.nl 71 ah ah rfl (bB (fun _=>rfl) _) ?_;refine bJ.nl 72 ah ah rfl (bB (fun _=>rfl) _) ?_;exact bJ.nil))⟩
 simp only[bm]at hc1;have hlast:te s=[]/\lW uF (nW s)=(x,[]):=by
  rcases hcase with⟨_,h2,h⟩|⟨_,_,h⟩
  .refine⟨h2, ?_⟩;have hl':ls.length=(nW s).length:=by rw[h]
   have:i=(nW s).length:=ae;subst this;rw[hrun,List.drop_length];rfl
  .have hl':ls.length=(nW s).length+1:=by rw[h];simp
   omega
 obtain⟨hl0,hrx⟩:=hlast;refine ba ?_;refine bd (v:=.int .i64 ((x.st:Nat):Int)) ?_;refine ay ?_;refine av (fun hc3=>?_) (fun hc3=>?_)
 .simp only[aT]at hc3;have hrr:=PI h96 hrx ae;rw[hrr];refine ay ?_;refine bA dP ?_;refine aY dP (he:=aZ) ?_;refine aA ?_;refine nk ((0,.buf 9 [Rec.D gT])::[]) (.bf ah (.cons mf .nil) .nil) ?_;refine aH ?_;refine bI (dc ?_ (aj (D.int .i64) ?_) (aj (D.int .i64) ?_));all_goals rfl
 simp only[bm]at hc3;obtain⟨hrs,hrr⟩:=Sb h96 hrx ae hl0;rw[hrr];refine ay ?_;refine fE 3 (hn:=lB _) (he:=by simp only[ll,iQ,iX,mq,nt,cL,Nat.reduceEqDiff,a7,a8,cR,cu,cx,cT,cX,bT,bQ,aQ,cg,aP,reduceCtorEq,ax,aB,Nat.reduceAdd,Nat.reduceLeDiff,nI,dP];exact rfl) (hm:=by simp only[ll,iQ,iX,mq,nt,cL,Nat.reduceEqDiff,a7,a8,cR,cu,cx,cT,cX,bT,bQ,aQ,cg,aP,reduceCtorEq,ax,aB,Nat.reduceAdd,Nat.reduceLeDiff,nI,dP,C1,sX,sY,vl];exact rfl) ?_;refine nk [(0,.buf 9 [dP]),(1,.buf 10 [nI x.r.name x.r.v x.r.needs.length x.r.bars.length x.r.feats.length ((x.st:Nat):Int) 2 4 5]),(2,.buf 3 (x.r.needs.map bw.D)),(4,.buf 3 (x.r.bars.map fM.D)),(5,.buf 2 (x.r.feats.map cv.D))] (.id ah (.id ah (.bf ah (zz 3 _) (.id ah (.id ah .nil))))) ?_;refine fE 2 (hn:=bB (fun _=>rfl) _) (he:=by simp only[ll,iQ,iX,mq,nt,cL,Nat.reduceEqDiff,a7,a8,cR,cu,cx,cT,cX,bT,bQ,aQ,cg,aP,reduceCtorEq,ax,aB,Nat.reduceAdd,Nat.reduceLeDiff,nI,dP];exact rfl) (hm:=by simp only[ll,iQ,iX,mq,nt,cL,Nat.reduceEqDiff,a7,a8,cR,cu,cx,cT,cX,bT,bQ,aQ,cg,aP,reduceCtorEq,ax,aB,Nat.reduceAdd,Nat.reduceLeDiff,nI,dP,C1,sX,sY,vl];exact rfl) ?_;refine fE 4 (hn:=bB (fun _=>rfl) _) (he:=by simp only[ll,iQ,iX,mq,nt,cL,Nat.reduceEqDiff,a7,a8,cR,cu,cx,cT,cX,bT,bQ,aQ,cg,aP,reduceCtorEq,ax,aB,Nat.reduceAdd,Nat.reduceLeDiff,nI,dP];exact rfl) (hm:=by simp only[ll,iQ,iX,mq,nt,cL,Nat.reduceEqDiff,a7,a8,cR,cu,cx,cT,cX,bT,bQ,aQ,cg,aP,reduceCtorEq,ax,aB,Nat.reduceAdd,Nat.reduceLeDiff,nI,dP,C1,sX,sY,vl];exact rfl) ?_;refine fE 5 (hn:=bB (fun _=>rfl) _) (he:=by simp only[ll,iQ,iX,mq,nt,cL,Nat.reduceEqDiff,a7,a8,cR,cu,cx,cT,cX,bT,bQ,aQ,cg,aP,reduceCtorEq,ax,aB,Nat.reduceAdd,Nat.reduceLeDiff,nI,dP];exact rfl) (hm:=by simp only[ll,iQ,iX,mq,nt,cL,Nat.reduceEqDiff,a7,a8,cR,cu,cx,cT,cX,bT,bQ,aQ,cg,aP,reduceCtorEq,ax,aB,Nat.reduceAdd,Nat.reduceLeDiff,nI,dP,C1,sX,sY,vl];exact rfl) ?_;refine aD ?_;refine bd (v:=Rec.D x.r) ?_;refine ar (hc:=h71 x.r hrs) ?_;refine fK ?_;refine av (fun hc4=>?_) (fun hc4=>?_)
 .simp only[bg,bm]at hc4;rw[aw hc4];refine ay ?_;refine bA dP ?_;refine aH ?_;refine aY dP (he:=aZ) ?_;refine aA ?_;refine nk ((0,.buf 9 [Rec.D gT])::[]) (.bf ah (.cons mf .nil) .nil) ?_;refine aH ?_;refine bI (dc ?_ (aj (D.int .i64) ?_) (aj (D.int .i64) ?_));all_goals rfl
 simp only[bN,aT]at hc4;rw[ak (by rw[hc4];simp)];refine aI ?_;refine bd (v:=Rec.D x.r) ?_;refine aY (Rec.D x.r) (he:=aZ) ?_;refine aD ?_;refine bI (dc ?_ (aj (D.int .i64) ?_) (aj (D.int .i64) ?_));all_goals rfl
def C77 (Y:Ctx):Prop:=D0 (bD Y 77)
end Go.Abs
section
namespace Go.Abs
variable {Y:Ctx}(hm:(Y.at 0).cj)
structure dk where
 r:Rec
 sum:Int
 off:Bool
 deriving Inhabited,DecidableEq
def dk.D (x:dk):D:=.agg [.str x.r.name,.int .i64 x.r.v.major,.int .i64 x.r.v.minor,.int .i64 x.r.v.patch,.str x.r.v.pre,.str x.r.v.build,.sl 3 (x.r.needs.map bw.D),.sl 3 (x.r.bars.map fM.D),.sl 2 (x.r.feats.map cv.D),.int .u64 x.sum,.bool x.off]
structure js where
 name:au
 es:List dk
 deriving Inhabited,DecidableEq
def js.D (s:js):D:=.agg [.str s.name,.sl 11 (s.es.map dk.D)]
def fB (a b:Int):Int:=if a<b then-1 else if b<a then 1 else 0
def AV (a b:au):Int:=if Op.bytesLess a b=true then-1 else if a=b then 0 else 1
def sw (a b:au):Int:=if cW a=true/\cW b=true then fB (ei a) (ei b)else if cW a=true then-1 else if cW b=true then 1 else AV a b
def F9 (l m:List au):Nat->Nat->Int
 |_,0=>fB l.length m.length
 |i,k+1=>if sw l[i]! m[i]! ≠0 then sw l[i]! m[i]! else F9 l m (i+1) k
def sF (l m:List au)(i:Nat):Int:=F9 l m i (min l.length m.length-i)
def Ct {l m:List au}{i:Nat}(h:i<l.length/\i<m.length)(hn:sw l[i]! m[i]! ≠0):sF l m i=sw l[i]! m[i]! :=by
 unfold sF;rw[show min l.length m.length-i=(min l.length m.length-(i+1))+1 by omega,F9,aw hn]
def F8 {l m:List au}{i:Nat}(h:i<l.length/\i<m.length)(hn:sw l[i]! m[i]! =0):sF l m i=sF l m (i+1):=by
 unfold sF;rw[show min l.length m.length-i=(min l.length m.length-(i+1))+1 by omega,F9,ak (by rw[hn];simp)]
def Cs {l m:List au}{i:Nat}(h:l.length<=i\/m.length<=i):sF l m i=fB l.length m.length:=by
 unfold sF;rw[show min l.length m.length-i=0 by omega,F9]
def vL (a b:au):Int:=if a=b then 0 else if a=[]then 1 else if b=[]then-1 else sF (ai a 46) (ai b 46) 0
def pP (a b:cy):Int:=if fT a=false\/fT b=false then 0 else
 if fB a.major b.major≠0 then fB a.major b.major else if fB a.minor b.minor≠0 then fB a.minor b.minor else
 if fB a.patch b.patch≠0 then fB a.patch b.patch else vL a.pre b.pre
def wo (v:cy):cy:=⟨v.major,v.minor,v.patch,v.pre,[]⟩
theorem Ly (a:Int):fB a a=0:=by simp[fB]
def uZ {a b:Int}:fB a b=0↔a=b:=by
 grind [fB]
def Lz {a b:cy}(h:wo a=wo b):pP a b=0:=by
 grind [wo,pP,vL,Ly]
theorem Oa (x y z:Int):fQ (fun i=>[x,y,z][i]!) 0 [x,y,z].length=if x≠0 then x else if y≠0 then y else z:=by
 grind [fQ,sU]
def Oc {x y z:Int}(h:fQ (fun i=>[x,y,z][i]!) 0 [x,y,z].length=0):x=0/\y=0/\z=0:=by
 grind [Oa]
def Ob {a b:cy}(hv:¬(fT a=false\/fT b=false))(h:¬fQ (fun i=>[fB a.major b.major,fB a.minor b.minor,fB a.patch b.patch][i]!) 0 [fB a.major b.major,fB a.minor b.minor,fB a.patch b.patch].length=0):
  fQ (fun i=>[fB a.major b.major,fB a.minor b.minor,fB a.patch b.patch][i]!) 0 [fB a.major b.major,fB a.minor b.minor,fB a.patch b.patch].length=pP a b:=by
 grind [Oa,pP]
def NW {a b:cy}(hv:¬(fT a=false\/fT b=false))(h1:fB a.major b.major=0)(h2:fB a.minor b.minor=0)(h3:fB a.patch b.patch=0):pP a b=vL a.pre b.pre:=by
 grind [pP]
def Rc {a b:cy}(h1:fB a.major b.major=0)(h2:fB a.minor b.minor=0)(h3:fB a.patch b.patch=0)(h4:a.pre=b.pre):wo a=wo b:=by
 unfold wo;rw[uZ.1 h1,uZ.1 h2,uZ.1 h3,h4]
def Me (a b:cy):Bool:=fT a&&fT b&&decide (pP a b=0)
def VX (nm:au)(v:cy)(x:dk):Bool:=decide (x.r.name=nm)&&Me x.r.v v
def Jv (l:List dk)(nm:au)(v:cy)(i:Nat):Int:=match(l.drop i).findIdx? (VX nm v)with
 |some k=>((i+k:Nat):Int)
 |none=>-1
def Vi {l:List dk}{nm:au}{v:cy}{i:Nat}(h:i<l.length)(he:VX nm v l[i]! =true):Jv l nm v i=(i:Nat):=by
 unfold Jv;rw[iT h,List.findIdx?_cons]
 grind
def Vj {l:List dk}{nm:au}{v:cy}{i:Nat}(h:i<l.length)(he:VX nm v l[i]! =false):Jv l nm v i=Jv l nm v (i+1):=by
 unfold Jv;have:VX nm v l[i]=false:=by simpa[h]using he
 rw[iT h,List.findIdx?_cons]
 grind
def R5 {l:List dk}{nm:au}{v:cy}{i:Nat}(h:l.length<=i):Jv l nm v i=-1:=by
 unfold Jv;rw[k9 h];rfl
def G8 (l:List dk)(i:Nat):Bool:=decide ((fu l[i]!.r).2=0)&&decide (Au l[i]!.r=l[i]!.sum)&&decide (Jv (l.take i) l[i]!.r.name l[i]!.r.v 0<0)
def Bf (s:js):Bool:=(fm s.name&&decide (s.es.length<=64))&&cQ (G8 s.es) 0 s.es.length
def fU:au:=[115,104,101,108,102]
def mX:au:=[101,110,116,114,121]
def Tm:au:=[111,110]
def AB:au:=[111,102,102]
def Zk (x:dk):List au:=[mX,oH x.sum,if x.off=true then AB else Tm]
def LI (x:dk):au:=cw (Zk x)++(fu x.r).1
def Qd (s:js):au:=cw [fU,s.name]++(s.es.map LI).flatten
def p9 (s:js):au×Int:=if Bf s=false then([],1)else(Qd s,0)
end Go.Abs
namespace Go.Abs
variable {Y:Ctx}(hm:(Y.at 0).cj)
def uP (s:js)(i:Nat):au:=cw [fU,s.name]++((s.es.take i).map LI).flatten
def Tl (s:js):uP s 0=fU++[32]++s.name++[10]:=by simp[uP,cw,aV]
theorem Ge {s:js}{i:Nat}(h:i<s.es.length):uP s (i+1)=uP s i++LI s.es[i]! :=by
 unfold uP;have e:s.es.take (i+1)=s.es.take i++[s.es[i]!]:=by
  rw[List.take_add_one,List.getElem?_eq_getElem h];simp[h]
 rw[e];simp
def Sr (s:js):uP s s.es.length=Qd s:=by simp[uP,Qd]
theorem zR (r:Rec):(fu r).1.length<=4096:=by
 grind [fu,c7,pJ]
theorem IQ (x:dk):LI x=mX++[32]++oH x.sum++(if x.off=true then [32]++AB++[10]else [32]++Tm++[10])++(fu x.r).1:=by
 unfold LI Zk cw;cases x.off<;>simp[aV]
theorem N7 (x:dk):(LI x).length<=4200:=by
 grind [zR,v8,IQ,mX,Tm,AB]
def JN {s:js}(hn:s.name.length<=100):∀{i:Nat},i<=s.es.length->(uP s i).length<=200+i*4200
 |0,_=>by rw[Tl];simp[fU];omega
 |i+1,h=>by
  have h1:=JN hn (i:=i) ae
  grind [N7,Ge]
def Sl {s:js}(h:Bf s=true):s.name.length<=16/\s.es.length<=64:=by
 grind [Bf,fm]
end Go.Abs
end
namespace Go.Abs
variable {Y:Ctx}(hm:(Y.at 0).cj)
def Zs (a b:dk):dk.D a=dk.D b↔a=b:=by
 obtain⟨⟨n,⟨v1,v2,v3,v4,v5⟩,x,y,z⟩,s,o⟩:=a;obtain⟨⟨n',⟨w1,w2,w3,w4,w5⟩,x',y',z'⟩,s',o'⟩:=b;simp[dk.D,Hi,Oq,Hh,and_assoc]
def S2 (a b:List dk):a.map dk.D=b.map dk.D↔a=b:=vz Zs a b
def iShf (a b:js):js.D a=js.D b↔a=b:=by cases a;cases b;simp[js.D,S2]
def G6 {A:RT->Prop}(h:A (fun ds d=>A fun ds' d'=>ds'=ds->d=d'):=by
 (repeat' first|apply And.intro|intro _)
 all_goals rename_i e
 all_goals (try simp only[ot,D.str.injEq,D.int.injEq,D.bool.injEq,D.sl.injEq,D.ref.injEq,D.agg.injEq,D.fn.injEq,LX,iInt,iByt,iVer,S5,Ot,S4,Hi,Zq,Oq,S3,Hh,iRec,S2,iShf,Zs,Zr,S1,iNd,Zt,UT,iRng,Zp,iMrk,iPr,iU8,jq,RB,cx,cu,reduceCtorEq,cX,cT]at e)
 all_goals first|rfl|(simp only[e];done)|simp_all):XU (C8 A):=UJ h
def pre1 (b c:UInt8)(r:au):([b]:au).isPrefixOf (c::r)=(b==c):=by simp[List.isPrefixOf]
def S6:Option Nat->Int
 |some k=>(k:Int)
 |none=>-1
theorem sZ:∀(s:au) (b:UInt8),Lib.index s [b]=S6 (s.findIdx? (fun c=>c==b))
 |[],b=>rfl
 |c::r,b=>by
  unfold Lib.index;rw[pre1,List.findIdx?_cons,sZ r b];by_cases h:c=b
  .subst h;simp[S6]
  .have h1:(b==c)=false:=by simp[Ne.symm h]
   have h2:(c==b)=false:=by simp[h]
   simp only[h1,h2,gB,a8];cases r.findIdx? (fun c=>c==b)with
   |none=>rfl
   |some k=>
    grind [S6]
def UH (s:au)(b:UInt8):Lib.cut s [b]=ir s b:=by
 unfold Lib.cut ir
 grind [sZ,S6]
def LH (s p:au):(Lib.trimPrefix s p,Lib.hasPrefix s p)=cO s p:=by
 unfold Lib.trimPrefix Lib.hasPrefix cO
 grind
def EY (b:au):∀l,aV b l=Lib.join l b
 |[]=>rfl
 |[t]=>(Lib.join_one t b).symm
 |t::u::r=>by
  rw[gM _ _ _ aR,EY b (u::r),Lib.join_cons,Lib.join_cons];simp[Lib.joinTail]
def decDigits_eq (n:Nat):Lib.decDigits n=eM n:=by
 induction n using Nat.strongRecOn with
 |_ n ih=>
  rw[Lib.decDigits];by_cases h:n<10
  .rw[dif_pos h,pR h];rfl
  .rw[dif_neg h,pQ ae,ih (n/10) ae];rfl
def RJ {n:Int}(h:0<=n):Lib.itoa n=eM n.toNat:=by
 unfold Lib.itoa;rw[ak ae,decDigits_eq]
def pH (b:UInt8):∀(s cur:au),s.findIdx? (fun c=>c==b)=none->cC b.toNat s cur=[cur++s]
 |[],cur,_=>by simp[cC]
 |c::r,cur,h=>by
  rw[List.findIdx?_cons]at h;split at h
  .cases h
  .rename_i hc;have hr:r.findIdx? (fun c=>c==b)=none:=by
    cases hq:r.findIdx? (fun c=>c==b)with
    |none=>rfl
    |some k=>rw[hq]at h;cases h
   have hne:¬((c.toNat:Int)=(b.toNat:Int)):=fun e=>hc (by
    have:c.toNat=b.toNat:=ae;simp[jq.1 this])
   simp only[cC,ak hne];rw[pH b r (cur++[c]) hr];simp
def om (b:UInt8):∀(s cur:au) (k:Nat),s.findIdx? (fun c=>c==b)=some k->cC b.toNat s cur=(cur++s.take k)::cC b.toNat (s.drop (k+1)) []
 |[],cur,k,h=>by simp at h
 |c::r,cur,k,h=>by
  rw[List.findIdx?_cons]at h;split at h
  .grind [cC]
  .rename_i hc;have hne:¬((c.toNat:Int)=(b.toNat:Int)):=fun e=>hc (by
    have:c.toNat=b.toNat:=ae;simp[jq.1 this])
   cases hq:r.findIdx? (fun c=>c==b)with
   |none=>rw[hq]at h;cases h
   |some j=>
    rw[hq]at h;have hk:k=j+1:=by simpa using h.symm
    subst hk;simp only[cC,ak hne];rw[om b r (cur++[c]) j hq];simp
def Ch (b:UInt8):∀(k:Nat) (s:ByteArray),Lib.countB s ⟨⟨[b]⟩⟩=k->(Lib.splitB ⟨⟨[b]⟩⟩ 0 k s).map (fun t=>t.data.toList)=ai s.data.toList b.toNat:=by
 intro k;induction k with
 |zero=>
  intro s h;rw[Lib.splitB_zero];have hi:Lib.indexB s ⟨⟨[b]⟩⟩=S6 (s.data.toList.findIdx? (fun c=>c==b)):=sZ _ b;cases hq:s.data.toList.findIdx? (fun c=>c==b)with
  |none=>simp[ai,pH b _ [] hq]
  |some j=>
   rw[hq]at hi;have:=Lib.countB_hit s ⟨⟨[b]⟩⟩ j (aQ 1) hi;omega
 |succ k ih=>
  intro s h;have hi:Lib.indexB s ⟨⟨[b]⟩⟩=S6 (s.data.toList.findIdx? (fun c=>c==b)):=sZ _ b;cases hq:s.data.toList.findIdx? (fun c=>c==b)with
  |none=>
   rw[hq]at hi;have:=Lib.countB_miss s ⟨⟨[b]⟩⟩ hi;omega
  |some j=>
   rw[hq]at hi;have h1:1<=(⟨⟨[b]⟩⟩:ByteArray).size:=aQ 1;have hc:=Lib.countB_hit s ⟨⟨[b]⟩⟩ j h1 hi;rw[Lib.splitB_hit _ _ _ _ j hi];simp only[List.map_cons];rw[ih _ ae];have e1:(s.extract 0 (j+0)).data.toList=s.data.toList.take j:=by
    rw[Lib.extract_data];simp
   have e2:(s.extract (j+(⟨⟨[b]⟩⟩:ByteArray).size) s.size).data.toList=s.data.toList.drop (j+1):=by
    rw[Lib.extract_data];exact ey (by rw[mZ,Lib.size_eq];exact aQ _)
   rw[e1,e2];simp only[ai];rw[om b _ [] j hq];simp
end Go.Abs
section
namespace Go.Abs
variable {Y:Ctx}(hm:(Y.at 0).cj)
open Go.Proofs
def F3 (sep:au)(k:Nat)(s:au)(h:Lib.index s sep=-1):Lib.splitK sep 0 k s=[s]:=by
 cases k with
 |zero=>rfl
 |succ k=>unfold Lib.splitK;rw[if_pos (beq_iff_eq.2 h)]
def Il (sep:au)(k:Nat)(s:au)(i:Nat)(h:Lib.index s sep=i):Lib.splitK sep 0 (k+1) s=s.take i::Lib.splitK sep 0 k (s.drop (i+sep.length)):=by
 have hm:¬(Lib.index s sep==-1)=true:=fun e=>by have:=beq_iff_eq.1 e;omega
 have e:(Lib.index s sep).toNat=i:=by omega
 rw[Lib.splitK,if_neg hm,e];rfl
def kK (b:UInt8):∀(s cur:au),aV [b] (cC b.toNat s cur)=cur++s
 |[],cur=>by simp[cC,aV]
 |c::r,cur=>by
  unfold cC;split
  .rename_i h;have hc:c=b:=by
    have:c.toNat=b.toNat:=by omega
    exact UInt8.toNat_inj.1 this
   have hne:cC b.toNat r []≠[]:=nJ r b.toNat;rw[gM _ _ _ hne,kK b r [],hc];simp
  .rw[kK b r (cur++[c])];simp
def LG (a:au){l:List au}(k:Nat)(hl:l≠[]):si (k+2) (a::l)=a::si (k+1) l:=by
 grind [si]
theorem MT:∀(k:Nat) (s:au),Lib.splitK [32] 0 k s=si (k+1) (ai s 32):=by
 intro k;induction k with
 |zero=>
  intro s;have hj:aV [32] (ai s 32)=s:=by
   have:=kK 32 s [];simpa[ai]using this
  unfold si;split
  .rename_i h;show [s]=_;have hne:ai s 32≠[]:=nJ _ _
   match hq:ai s 32,hne,h with
   |[t],_,_=>rw[hq]at hj;rw[<-hj];rfl
   |_::_::_,_,h=>simp at h
  .simp only[Nat.zero_add,Nat.sub_self,List.take_zero,List.drop_zero,List.nil_append,hj];rfl
 |succ k ih=>
  intro s;have hi:=sZ s 32;cases hq:s.findIdx? (fun c=>c==32)with
  |none=>
   rw[hq]at hi;have hs:ai s 32=[s]:=by have:=pH 32 s [] hq;simpa[ai]using this
   rw[F3 _ _ _ hi,hs];rfl
  |some j=>
   rw[hq]at hi;have hs:ai s 32=s.take j::ai (s.drop (j+1)) 32:=by have:=om 32 s [] j hq;simpa[ai]using this
   rw[Il _ _ _ j hi,hs,LG _ _ (nJ _ _),ih];rfl
def Iw (n:Nat)(h:1<=n)(s:au):Lib.splitK [32] 0 (min n (s.length+1) -1) s=lX (n:Int) s:=by
 grind [dd,MT,lX,si]
def ZE (c d:UInt8)(r:au):([124,124]:au).isPrefixOf (c::d::r)=(decide (c=124)&&decide (d=124)):=by
 grind
theorem Cj:∀(s cur:au),Lib.index s [124,124]=-1->aO s cur=[cur++s]
 |[],cur,_=>by simp[aO]
 |[c],cur,_=>rfl
 |c::d::r,cur,h=>by
  unfold Lib.index at h;rw[ZE]at h;by_cases h2:c=124/\d=124
  .simp[h2.1,h2.2]at h
  .have h3:(decide (c=124)&&decide (d=124))=false:=by rw[<-Bool.decide_and];exact decide_eq_false h2
   rw[h3,if_neg (by simp)]at h;have h4:Lib.index (d::r) [124,124]=-1:=by
    have:=Lib.index_ge (d::r) [124,124]
    grind
   rw[aO,if_neg h2,Cj (d::r) _ h4];simp
def Ci:∀(s cur:au) (i:Nat),Lib.index s [124,124]=i->aO s cur=(cur++s.take i)::aO (s.drop (i+2)) []
 |[],cur,i,h=>by simp[Lib.index]at h
 |[c],cur,i,h=>by simp[Lib.index,List.isPrefixOf]at h
 |c::d::r,cur,i,h=>by
  unfold Lib.index at h;rw[ZE]at h;by_cases h2:c=124/\d=124
  .rw[h2.1,h2.2]at h;have hi:i=0:=by simp at h;omega
   subst hi;rw[aO,if_pos h2];simp
  .have h3:(decide (c=124)&&decide (d=124))=false:=by rw[<-Bool.decide_and];exact decide_eq_false h2
   rw[h3,if_neg (by simp)]at h;split at h
   .omega
   .obtain⟨j,rfl⟩:∃j,i=j+1:=⟨i-1,by
     have:=Lib.index_ge (d::r) [124,124];rename_i h5;have:Lib.index (d::r) [124,124]≠-1:=fun e=>h5 (beq_iff_eq.2 e)
     omega⟩
    rw[aO,if_neg h2,Ci (d::r) _ j (by omega)];simp
def MS:∀(k:Nat) (s:ByteArray),Lib.countB s ⟨⟨[124,124]⟩⟩=k->(Lib.splitB ⟨⟨[124,124]⟩⟩ 0 k s).map (fun t=>t.data.toList)=aO s.data.toList []:=by
 intro k;induction k with
 |zero=>
  intro s h;rcases Lib.indexB_cases s ⟨⟨[124,124]⟩⟩with hi|⟨i,hi,_⟩
  .rw[Lib.splitB_zero]
   grind [Cj]
  .have:=Lib.countB_hit s ⟨⟨[124,124]⟩⟩ i (by decide) hi;omega
 |succ k ih=>
  intro s h;rcases Lib.indexB_cases s ⟨⟨[124,124]⟩⟩with hi|⟨i,hi,_⟩
  .rw[Lib.countB_miss _ _ hi]at h;omega
  .have hc:=Lib.countB_hit s ⟨⟨[124,124]⟩⟩ i (by decide) hi;rw[Lib.splitB_hit _ _ _ _ i hi,List.map_cons,ih _ (by omega),Ci _ _ i (show Lib.index s.data.toList [124,124]=i from hi),Lib.extract_from_zero,Lib.extract_to_end];rfl
def Cu {p:UInt8->Bool}:∀(l:au),∀x∈l.takeWhile p,p x=true
 |[],x,h=>by cases h
 |a::r,x,h=>by
  rw[List.takeWhile_cons]at h;split at h
  .rename_i ha;rcases List.mem_cons.1 h with rfl|h
   .exact ha
   .exact Cu r x h
  .cases h
theorem ve {p:UInt8->Bool}:∀(l:au),(∀x∈l,p x=true)->l.dropWhile p=[]
 |[],_=>rfl
 |a::r,h=>by
  rw[List.dropWhile_cons,if_pos (h a (.head _))];exact ve r fun x hx=>h x (.tail _ hx)
def yK:∀s,kE s=s.dropWhile (· ==32)
 |[]=>rfl
 |c::r=>by
  unfold kE;by_cases h:c=32
  .rw[if_pos h,yK r];simp[h]
  .rw[if_neg h,List.dropWhile_cons,if_neg (by simpa using h)]
def NQ (s:au):Lib.trimB s 32=eH s:=by
 unfold Lib.trimB Lib.trimLeftB Lib.trimRightB eH;rw[yK,yK];generalize hp:(fun c:UInt8=>c==32)=p;have hs:s=s.takeWhile p++s.dropWhile p:=(List.takeWhile_append_dropWhile).symm;generalize ha:s.takeWhile p=a at hs;generalize hm:s.dropWhile p=m at hs;have hall:∀x∈a,p x=true:=by rw[<-ha];exact Cu s
 subst hs;rw[List.reverse_append,List.dropWhile_append];cases m with
 |nil=>
  grind [ve]
 |cons c r=>
  have hc:p c=false:=by
   have:=List.head_dropWhile_not p (l:=a++c::r) (by rw[hm];simp);simpa[hm]using this
  have hne:((c::r).reverse.dropWhile p)≠[]:=by
   rw[List.reverse_cons,List.dropWhile_append];split
   .simp[hc]
   .simp
  rw[if_neg (by simpa using hne),List.reverse_append,List.reverse_reverse,List.dropWhile_append,ve _ hall];simp only[List.isEmpty_nil,if_true];rw[List.reverse_cons,List.dropWhile_append];split
  .simp[hc]
  .simp[hc]
end Go.Abs
namespace Go.Proofs
open Go.Shelf Go.RowKit Go.Lib
set_option maxHeartbeats 1000000 in
theorem Im {P:Program}{J:Ren}(L:Lays.n147 P J)(hi9:(P.info? (J.t 9)).map (fun i=>(i.zero,i.size,i.bytes))=some (some (.string ByteArray.empty),1,16))(s sep:ByteArray)(m:Int)(w:World)
  (hs:s.size<4294967281) (hm:w.cell? ⟨(J.g 1),0,none⟩=some (.int .i64 m)) (h1:1<=sep.size):
  Calls P (J.f 147) #[.string s,.string sep,.int .i64 (-1)] w fun e w'=>
   e=.returned (.slice (some ⟨w.heap.size,0,none⟩) (Lib.splitB sep 0 (Lib.countB s sep) s).length (Lib.countB s sep+1))/\w'=w.alloc (.cells (Lib.cellsOf (Lib.splitB sep 0 (Lib.countB s sep) s) (Lib.countB s sep+1)) (J.t 9)):=by
 have hle:=Lib.countB_le sep h1 s.size s (Nat.le_refl _);have c:=Any.strings_genSplit {L with} hi9 s sep 0 (-1) (Lib.countB s sep+1) m w hs hm h1 (Nat.zero_le _) (by decide) (by decide) (by rw[if_pos (by decide)];omega);rw[Nat.add_sub_cancel]at c;have t3:=L.t3;have t9:=L.t9;have t31:=L.t31;have a3:=L.a3;have a9:=L.a9;have a31:=L.a31;have z3:=L.z3;have v3:=L.v3;have z9:=L.z9;have v9:=L.v9;have z31:=L.z31;have v31:=L.v31;have e221:∀args w,(callFunc (J.f 221) args).run P w=.ok (.enter (J.f 221) args) w:=enters_of L.f221 (by kernel_rfl) rfl
 go_enter L.f147,Body.n147_ntmps J
 go_wp2_with (go_at_fn (J.f 221);refine c.mono ?_;rintro e w' ⟨rfl,hw⟩;rw[hw])
 go_ret
 exact⟨rfl,rfl⟩
end Go.Proofs
end
section
namespace Go.Abs
variable {Y:Ctx}(hm:(Y.at 0).cj)
def An:js:=⟨[],[]⟩
def bS (t:au):au×Bool:=if t.getLast? =some 10 then(t.dropLast,true)else(t,false)
def jB (s:au):List au:=(nW s).map (· ++[10])++[te s]
def cE (s:au):List au:=if te s=[]then(nW s).map (· ++[10])else jB s
def wx (l:List au):Bool:=(decide (l.length=3)&&decide (l[0]! =mX))&&(decide (l[2]! =Tm) ||decide (l[2]! =AB))
def iA (t:au):Int×Bool×Bool:=if(bS t).2=true/\wx (ai (bS t).1 32)=true then(qo (ai (bS t).1 32)[1]!,decide ((ai (bS t).1 32)[2]! =AB),jQ (ai (bS t).1 32)[1]!)else(0,false,false)
def vk (t:au):Bool:=decide ((ir (bS t).1 32).1=mX)
def rq (p:Nat->Bool):Nat->Nat->Nat
 |k,0=>k
 |k,f+1=>if p k=true then k else rq p (k+1) f
def sv (p:Nat->Bool)(k n:Nat):Nat:=rq p k (n-k)
def FZ {p:Nat->Bool}{k n:Nat}(h:k<n)(hp:p k=true):sv p k n=k:=by
 unfold sv;rw[show n-k=(n-(k+1))+1 by omega,rq,aw hp]
def JG {p:Nat->Bool}{k n:Nat}(h:k<n)(hp:p k=false):sv p k n=sv p (k+1) n:=by
 unfold sv;rw[show n-k=(n-(k+1))+1 by omega,rq,ak (by simp[hp])]
def uC {p:Nat->Bool}{k n:Nat}(h:n<=k):sv p k n=k:=by
 unfold sv;rw[show n-k=0 by omega,rq]
theorem Al (p:Nat->Bool):∀f k,k<=rq p k f/\rq p k f<=k+f
 |0,k=>⟨aQ _,aQ _⟩
 |f+1,k=>by
  have:=Al p f (k+1);unfold rq;split<;>omega
def DH (p:Nat->Bool)(k n:Nat):k<=sv p k n:=(Al p _ k).1
def Sj (p:Nat->Bool){k n:Nat}(h:k<=n):sv p k n<=n:=by
 grind [Al,sv]
def wP {p q:Nat->Bool}:∀f k,(∀j,k<=j->j<k+f->p j=q j)->rq p k f=rq q k f
 |0,_,_=>rfl
 |f+1,k,h=>by
  unfold rq;rw[h k (aQ _) ae,wP f (k+1) fun j h1 h2=>h j ae ae]
theorem Ii {p q:Nat->Bool}{k n:Nat}(h:∀j,k<=j->j<n->p j=q j):sv p k n=sv q k n:=wP _ _ fun j h1 h2=>h j h1 ae
def tF (es:List dk)(r:Rec):Bool:=es.any fun x=>decide (x.r.name=r.name)&&decide (pP x.r.v r.v=0)
def kl (es:List dk)(r:Rec)(n:Int):Int:=if ¬Au r=n then 13 else if tF es r=true then 8 else if 64<=es.length then 10 else 0
def iN (es:List dk)(t:au)(n:Int)(off:Bool):Int×List dk:=if ¬(cF t).2.1=0 then((cF t).2.1,[])else if ¬kl es (cF t).1 n=0 then(kl es (cF t).1 n,[])else(0,es++[⟨(cF t).1,n,off⟩])
def vH (P:List au)(k:Nat):Nat:=sv (fun j=>vk P[j]!) k P.length
def slice {α:Type}(l:List α)(a b:Nat):List α:=(l.take b).drop a
def xa (P:List au):Nat->List dk->Nat->List dk×Int×Int
 |0,es,_=>(es,0,0)
 |f+1,es,at'=>if at'<P.length then
   (if(iA P[at']!).2.2=false then([],2,(at':Int)+1)
   else
    let q:=iN es (aV [] (slice P (at'+1) (vH P (at'+1)))) (iA P[at']!).1 (iA P[at']!).2.1
    if ¬q.1=0 then([],q.1,(at':Int)+1)else xa P f q.2 (vH P (at'+1)))
  else(es,0,0)
def EL (t:au):Option au:=if(bS t).2=true/\(cO (bS t).1 (fU++[32])).2=true/\fm (cO (bS t).1 (fU++[32])).1=true then some (cO (bS t).1 (fU++[32])).1 else none
def EC (nm:au)(q:List dk×Int×Int):js×Int×Int:=if ¬q.2.1=0 then(An,q.2.1,q.2.2)else(⟨nm,q.1⟩,0,0)
def iH (s:au):js×Int×Int:=if 524288<s.length then(An,3,0)else if(cE s).length=0 then(An,2,1)else match EL (cE s)[0]! with
 |none=>(An,2,1)
 |some nm=>EC nm (xa (cE s) (cE s).length [] 1)
def gy (t:au):Int×Bool×Bool:=if wx (ai t 32)=true then(qo (ai t 32)[1]!,decide ((ai t 32)[2]! =AB),jQ (ai t 32)[1]!)else(0,false,false)
def mY (L:List au)(en:Bool)(i:Nat):Bool:=en ||decide (i+1<L.length)
def OW (L:List au)(k:Nat):Nat:=sv (fun j=>decide (fw L[j]! =mX)) k L.length
def ki (l:List au)(en:Bool):au:=if en=true then AY l else aV [10] l
def jj (t:au):Option au:=if((ai t 32).length=2/\(ai t 32)[0]! =fU)/\fm (ai t 32)[1]! =true then some (ai t 32)[1]! else none
def zL (s:au):(∃A,aC s=(A,true)/\cE s=A.map (· ++[10]))\/∃A b,aC s=(A++[b],false)/\cE s=A.map (· ++[10])++[b]:=by
 rcases zp s with⟨h1,h2,h3⟩|⟨h1,h2,h3⟩
 .grind [cE]
 .exact .inr ⟨nW s,te s,Prod.ext h3 h1,by unfold cE;rw[ak h2];rfl⟩
theorem me (s:au):(cE s).length=(aC s).1.length:=by
 rcases zL s with⟨A,h1,h2⟩|⟨A,b,h1,h2⟩<;>rw[h1,h2]<;>simp
def Di {s:au}{i:Nat}(h:i<(aC s).1.length):(cE s)[i]! =(aC s).1[i]! ++(if mY (aC s).1 (aC s).2 i=true then [10]else []):=by
 rcases zL s with⟨A,h1,h2⟩|⟨A,b,h1,h2⟩
 .grind [mY]
 grind [mY]
theorem ry:∀(s cur:au),(∀c∈cur,c≠10)->∀t∈cC 10 s cur,∀c∈t,c≠10
 |[],cur,h,t,ht=>by
  grind [cC]
 |a::r,cur,h,t,ht=>by
  unfold cC at ht;split at ht
  .rcases dp.1 ht with rfl|ht
   .exact h
   .exact ry r [] aR t ht
  .rename_i hn;refine ry r (cur++[a]) (fun c hc=>?_) t ht;rcases List.mem_append.1 hc with hc|hc
   .exact h c hc
   .rw[dw.1 hc];rintro rfl;exact hn rfl
def td {s t:au}(h:t∈(aC s).1):∀c∈t,c≠10:=by
 grind [ai,ry,aC]
def we {t:au}(h:∀c∈t,c≠10)(b:Bool):bS (t++(if b=true then [10]else []))=(t,b):=by
 grind [bS]
def UI (t:au):(ir t 32).1=fw t:=by
 unfold fw ir;cases hq:t.findIdx? (fun c=>c==32)with
 |none=>
  have hs:ai t 32=[t]:=by have:=pH 32 t [] hq;simpa[ai]using this
  rw[hs];rfl
 |some j=>
  have hs:ai t 32=t.take j::ai (t.drop (j+1)) 32:=by have:=om 32 t [] j hq;simpa[ai]using this
  rw[hs];rfl
def IP {s:au}{i:Nat}(h:i<(aC s).1.length):iA (cE s)[i]! =if mY (aC s).1 (aC s).2 i=true then gy (aC s).1[i]! else(0,false,false):=by
 unfold iA gy;rw[Di h,we (td (bR h))]
 grind
theorem LN {s:au}{i:Nat}(h:i<(aC s).1.length):vk (cE s)[i]! =decide (fw (aC s).1[i]! =mX):=by
 unfold vk;rw[Di h,we (td (bR h))];dsimp only;rw[UI]
def U8 (s:au)(k:Nat):vH (cE s) k=OW (aC s).1 k:=by
 grind [vH,OW,me,Ii,LN]
def BI:∀l:List au,aV [] l=l.flatten
 |[]=>rfl
 |[t]=>by simp[aV]
 |t::u::r=>by
  have:=BI (u::r);simp only[aV,this];simp
def BJ (t:au):∀l:List au,aV [10] (l++[t])=AY l++t
 |[]=>rfl
 |[u]=>by simp[aV,AY]
 |u::v::r=>by
  have:=BJ t (v::r)
  grind [aV,AY]
def MR {α β:Type}(f:α->β)(l:List α)(a b:Nat):slice (l.map f) a b=(slice l a b).map f:=by simp[slice]
def Ra {s:au}{a b:Nat}(ha:a<=b)(hb:b<=(aC s).1.length):aV [] (slice (cE s) a b)=ki (slice (aC s).1 a b) ((aC s).2 ||decide (b<(aC s).1.length)):=by
 rw[BI];rcases zL s with⟨A,h1,h2⟩|⟨A,d,h1,h2⟩
 .rw[h1,h2,MR];simp only[Bool.true_or,ki,a7];rfl
 .rw[h1]at hb⊢;rw[h2];simp only[cb,ax,aB,Bool.false_or]at hb⊢;by_cases hl:b<A.length+(0+1)
  .have e1:slice (A.map (· ++[10])++[d]) a b=(slice A a b).map (· ++[10]):=by
    unfold slice;rw[List.take_append_of_le_length (by simp only[bQ];omega)];simp
   have e2:slice (A++[d]) a b=slice A a b:=by
    unfold slice;rw[List.take_append_of_le_length ae]
   rw[e1,e2,ki,aw (b9 hl)];rfl
  .have hq:b=A.length+1:=ae;rw[ki,ak (by simpa using hl)];by_cases h4:a=b
   .have e1:∀l:List au,l.length<=b->slice l a b=[]:=fun l hl=>k9 cY
    rw[e1 _ cY,e1 _ cY];rfl
   .have ha2:a<=A.length:=ae;have e1:slice (A.map (· ++[10])++[d]) a b=(A.drop a).map (· ++[10])++[d]:=by
     unfold slice;rw[ey cY,List.drop_append_of_le_length (by simpa using ha2),List.map_drop]
    have e2:slice (A++[d]) a b=A.drop a++[d]:=by
     unfold slice;rw[ey cY,List.drop_append_of_le_length ha2]
    rw[e1,e2,BJ];simp[AY]
def RP {nm:au}(h:fm nm=true):mN nm:=⟨(Jl h).1,U2 (Jl h).2.2⟩
def P6:mN fU:=by unfold mN;decide
def I1 {s:au}(h:0<(aC s).1.length):EL (cE s)[0]! =if mY (aC s).1 (aC s).2 0=true then jj (aC s).1[0]! else none:=by
 unfold EL jj;rw[Di h,we (td (bR h))];dsimp only;cases mY (aC s).1 (aC s).2 0 with
 |false=>simp
 |true=>
  simp only[cu,a7];generalize (aC s).1[0]! =t;by_cases h1:((ai t 32).length=2/\(ai t 32)[0]! =fU)/\fm (ai t 32)[1]! =true
  .rw[aw h1];have hj:aV [32] (ai t 32)=t:=by
    have:=kK 32 t [];simpa[ai]using this
   obtain⟨⟨ha,hb⟩,hc⟩:=h1
   match hq:ai t 32,ha,hb,hc with
   |[x,y],_,hb,hc=>
    rw[hq]at hj;simp at hb hc;subst hb;have ht:t=fU++[32]++y:=by rw[<-hj];rfl
    have hp:cO t (fU++[32])=(y,true):=by
     subst ht;unfold cO;rw[aw (by simp[fU,List.isPrefixOf])];simp[fU]
    rw[hp];simp[hc]
  .rw[ak h1,ak];rintro⟨h2,h3⟩;unfold cO at h2 h3;split at h2
   .rename_i h4;rw[aw h4]at h3;simp only at h3;have ht:t=aV [32] [fU,t.drop 6]:=by
     obtain⟨r,hr⟩:=List.isPrefixOf_iff_prefix.1 h4;rw[<-hr];simp[fU,aV]
    have hs:ai t 32=[fU,t.drop 6]:=by
     have:=F4 (l:=[fU,t.drop 6]) aR (by
      intro w hw;simp only[dp,gO,or_false]at hw;rcases hw with rfl|rfl
      .exact P6
      .exact RP h3)
     rw[Tb,<-ht]at this;exact this
    apply h1;rw[hs];exact⟨⟨rfl,rfl⟩,by simpa[fU]using h3⟩
   .cases h2
end Go.Abs
namespace Go.Abs
variable {Y:Ctx}(hm:(Y.at 0).cj)
def Pg (s:au):1<=(jB s).length:=by unfold jB;simp
def Ph (s:au):cE s=if(jB s)[(jB s).length-1]! =[]then(jB s).take ((jB s).length-1)else jB s:=by
 grind [jB,cE]
def qh (s:au):(bS s).1.length<=s.length:=by
 grind [bS]
def QI (r:Rec)(x:dk):Bool:=decide (x.r.name=r.name)&&decide (pP x.r.v r.v=0)
def UK {s:au}(h:(((bS s).2=false\/¬((ai (bS s).1 32).length:Int)=3)\/¬(ai (bS s).1 32)[0]! =mX)\/¬(ai (bS s).1 32)[2]! =Tm/\¬(ai (bS s).1 32)[2]! =AB):¬((bS s).2=true/\wx (ai (bS s).1 32)=true):=by
 grind [wx]
def Rk {s:au}(h:(((bS s).2=true/\((ai (bS s).1 32).length:Int)=3)/\(ai (bS s).1 32)[0]! =mX)/\((ai (bS s).1 32)[2]! =Tm\/(ai (bS s).1 32)[2]! =AB)):((bS s).2=true/\wx (ai (bS s).1 32)=true)/\(ai (bS s).1 32).length=3:=by
 grind [ai,bS,wx]
end Go.Abs
namespace Go.Abs
variable {Y:Ctx}(hm:(Y.at 0).cj)
def noE (s:au):Prop:=∀i,1<=i->i<(cE s).length->(iA (cE s)[i]!).2.2=false
def Ju {s t:au}(h:t∈cE s):t.length<=s.length+1:=by
 have h1:t∈jB s:=by
  grind [cE,jB]
 unfold jB at h1;rcases List.mem_append.1 h1 with h2|h2
 .obtain⟨u,hu,rfl⟩:=gD.1 h2;have:=dK s 10 (lf hu);simp;omega
 grind [eE,qd,ai]
def xK {s:au}{i:Nat}(h:i<(cE s).length):(cE s)[i]!.length<=s.length+1:=Ju (bR h)
def Cd {s:au}(h:524288<s.length):iH s=(An,3,0):=by unfold iH;rw[aw h]
def Ce {s:au}(h:¬524288<s.length)(h1:(cE s).length=0):iH s=(An,2,1):=by unfold iH;rw[ak h,aw h1]
theorem EM (t:au):EL t=if((bS t).2=true/\(cO (bS t).1 [115,104,101,108,102,32]).2=true)/\fm (cO (bS t).1 [115,104,101,108,102,32]).1=true then some (cO (bS t).1 [115,104,101,108,102,32]).1 else none:=by
 grind [EL,fU]
def MP {s:au}(h:¬524288<s.length)(h1:¬(cE s).length=0)(h2:¬(((bS (cE s)[0]!).2=true/\(cO (bS (cE s)[0]!).1 [115,104,101,108,102,32]).2=true)/\fm (cO (bS (cE s)[0]!).1 [115,104,101,108,102,32]).1=true)):iH s=(An,2,1):=by
 grind [iH,EM]
def MO {s:au}(h:¬524288<s.length)(h1:¬(cE s).length=0)(h2:((bS (cE s)[0]!).2=true/\(cO (bS (cE s)[0]!).1 [115,104,101,108,102,32]).2=true)/\fm (cO (bS (cE s)[0]!).1 [115,104,101,108,102,32]).1=true):
  iH s=EC (cO (bS (cE s)[0]!).1 [115,104,101,108,102,32]).1 (xa (cE s) (cE s).length [] 1):=by
 grind [iH,EM]
def oc (P:List au)(es:List dk)(i:Nat):List dk×Int×Int:=xa P (P.length-i) es i
theorem vo (P:List au):∀(f g:Nat) (es:List dk) (i:Nat),P.length<=i+f->P.length<=i+g->xa P f es i=xa P g es i
 |0,0,_,_,_,_=>rfl
 |0,g+1,es,i,h,_=>by unfold xa;rw[ak ae]
 |f+1,0,es,i,_,h=>by unfold xa;rw[ak ae]
 |f+1,g+1,es,i,h1,h2=>by
  have hn:i+1<=vH P (i+1):=DH _ _ _;unfold xa;dsimp only;rw[vo P f g _ _ ae ae]
def B7 (P:List au):xa P P.length [] 1=oc P [] 1:=vo P _ _ _ _ ae ae
def B8 {P:List au}{es:List dk}{i:Nat}(h:P.length<=i):oc P es i=(es,0,0):=by
 unfold oc;rw[show P.length-i=0 by omega];rfl
def Ag {P:List au}{es:List dk}{i:Nat}(h:i<P.length)(h1:(iA P[i]!).2.2=false):oc P es i=([],2,(i:Int)+1):=by
 unfold oc;obtain⟨f,hf⟩:∃f,P.length-i=f+1:=⟨P.length-i-1,ae⟩
 grind [xa]
def B6 {P:List au}{es:List dk}{i:Nat}(h:i<P.length)(h1:(iA P[i]!).2.2=true):oc P es i=if ¬(iN es (aV [] (slice P (i+1) (vH P (i+1)))) (iA P[i]!).1 (iA P[i]!).2.1).1=0 then([],(iN es (aV [] (slice P (i+1) (vH P (i+1)))) (iA P[i]!).1 (iA P[i]!).2.1).1,(i:Int)+1)else oc P (iN es (aV [] (slice P (i+1) (vH P (i+1)))) (iA P[i]!).1 (iA P[i]!).2.1).2 (vH P (i+1)):=by
 have hn:i+1<=vH P (i+1):=DH _ _ _;unfold oc;obtain⟨f,hf⟩:∃f,P.length-i=f+1:=⟨P.length-i-1,ae⟩
 grind [xa,vo,vH]
def qP {nm:au}{es:List dk}{e k:Int}(h:¬e=0):EC nm (es,e,k)=(An,e,k):=by unfold EC;rw[aw h]
end Go.Abs
namespace Go.Abs
variable {Y:Ctx}(hm:(Y.at 0).cj)
def VR {nm:au}{es:List dk}{m:List (Nat×b7)}{l:Nat}{cs:List Sh}(hq:∀x:dk,D.agg (xL m cs x.D.cells)=x.D)(hl:look m l=some (.buf 11 (es.map dk.D))):xV m [.a,.sl 11 cs] (.agg [.str nm,.own l 11 0 es.length])=js.D ⟨nm,es⟩:=by
 show D.agg [.str nm,.sl 11 _]=D.agg [.str nm,.sl 11 (es.map dk.D)];simp only[bz,hl,cg,aP,List.map_map];exact aj (fun q=>D.agg [D.str nm,D.sl 11 q]) (List.map_congr_left fun x _=>hq x)
def Sw {nm:au}{es:List dk}{m:List (Nat×b7)}{l:Nat}{cs:List Sh}(hq:∀x:dk,Qv m cs x.D.cells)(hl:look m l=some (.buf 11 (es.map dk.D))):Qw m [.a,.sl 11 cs] (.agg [.str nm,.own l 11 0 es.length]):=by
 refine⟨rfl,⟨?_, ?_⟩,rfl⟩
 .simp[fN,hl]
 .simp only[bz,hl,cg,aP];intro e he;obtain⟨x,_,rfl⟩:=gD.1 he;exact hq x
def Eh {es:List dk}{t:au}{n:Int}{off:Bool}(h:¬(cF t).2.1=0):iN es t n off=((cF t).2.1,[]):=by unfold iN;rw[aw h]
def nP {es:List dk}{t:au}{n:Int}{off:Bool}(h:(cF t).2.1=0)(h2:¬kl es (cF t).1 n=0):iN es t n off=(kl es (cF t).1 n,[]):=by grind [iN]
def ID {es:List dk}{t:au}{n:Int}{off:Bool}(h:(cF t).2.1=0)(h2:kl es (cF t).1 n=0):iN es t n off=(0,es++[⟨(cF t).1,n,off⟩]):=by grind [iN]
def BB {es:List dk}{r:Rec}{n:Int}(h:kl es r n=0):es.length<64:=by
 grind [kl]
def Cg {α:Type}{l:List α}{a b:Nat}{x:α}(h:x∈slice l a b):x∈l:=lf (List.mem_of_mem_drop h)
end Go.Abs
namespace Go.Abs
variable {Y:Ctx}(hm:(Y.at 0).cj)
def z7 (t:au):gW (cF t).1:=by
 unfold cF;split
 .exact xM
 .rename_i h;dsimp only;have hL:AN ((ai t 10).take ((ai t 10).length-1)):=fun u hu=>by
   have:=dK t 10 (lf hu);omega
  grind [xM,Dq]
def Fj (s:au):(cE s).length<=s.length+1:=by
 grind [me,dd,aC]
end Go.Abs
end
section
namespace Go.Abs
variable {Y:Ctx}(hm:(Y.at 0).cj)
structure XV (x:dk):Prop where
 w:RecW x.r
 c:c7 x.r=(0,0)
 l:(pJ x.r).length<=800
 s:Au x.r=x.sum
 m:gW x.r
def XV.uB {x:dk}(h:XV x):0<=x.sum/\x.sum<18446744073709551616:=by
 rw[<-h.s];unfold Au;split
 .decide
 .exact Ir _
end Go.Abs
namespace Go.Abs
variable {Y:Ctx}(hm:(Y.at 0).cj)
def HA:au:=[111,110,101]
def Lu:au:=[115,104,101,108,102,32,111,110,101,10]
def GX:au:=[115,104,101,108,102,32,111,110,101,10,101,110,116,114,121,32,48,32,111,110,10]
def Zi:p9 ⟨HA,[]⟩=(Lu,0):=by decide+kernel
def Zh:iH Lu=(⟨HA,[]⟩,0,0):=by decide+kernel
def SW:(iH GX).2=(2,2):=by decide+kernel
def UA:(cE Lu).length=1:=by decide+kernel
def NN:(cE GX).length=2/\(iA (cE GX)[1]!).2.2=false:=by decide+kernel
def UB:noE Lu:=fun i h1 h2=>by rw[UA]at h2;omega
def UC:noE GX:=fun i h1 h2=>by
 rw[NN.1]at h2;obtain rfl:i=1:=ae;exact NN.2
end Go.Abs
end
namespace Go.Abs
variable {Y:Ctx}(hm:(Y.at 0).cj)
def UN {a b:dk}(h:(a.sum=b.sum/\a.r=b.r)/\a.off=b.off):a=b:=by cases a;cases b;simp_all
def VH {a b:js}(h1:a.name=b.name)(h2:a.es.length=b.es.length)(h:∀j,j<a.es.length->a.es[j]! =b.es[j]!):a=b:=by
 cases a;cases b;simp only at h1 h2 h;rw[js.mk.injEq];refine⟨h1,List.ext_getElem h2 fun j a b=>?_⟩;have:=h j a
 rwa [getElem!_pos _ j a,getElem!_pos _ j b]at this
def Q6 (s:au)(i:Nat):0<=at8 s i/\at8 s i<256:=by
 unfold at8;have:=(s.getD i 0).toNat_lt;omega
def EO {c:Int}(h:nU c=true):0<=sk c/\sk c<16:=by
 unfold nU at h;unfold sk;split
 .rename_i h1;unfold bp at h1;simp only[bG,aT]at h1;omega
 .rename_i h1;simp only[h1,Bool.false_or,bG,aT,Bool.not_eq_true]at h;simp only[Bool.not_eq_true]at h1;omega
def B2 {t:au}(h:(cF t).2.1=0):fT (cF t).1.v=true:=by
 unfold cF at h⊢;split
 .rename_i h1;rw[aw h1]at h;cases h
 .rename_i h1;rw[ak h1]at h;simp only at h⊢;split
  .rename_i h2;rw[aw h2]at h;cases h
  .rename_i h2;rw[ak h2]at h;split
   .rename_i h3;rw[aw h3]at h;exact absurd h h3
   .rename_i h3;exact(qH (Classical.not_not.1 h3)).1.2
def JM {r:Rec}{x:dk}(h1:fT x.r.v=true)(h2:fT r.v=true):QI r x=(decide (x.r.name=r.name)&&Me x.r.v r.v):=by
 unfold QI Me;rw[h1,h2];simp
def V8 (nm:au)(es:List dk)(x:dk)(t:au):D->List (Nat×b7)->Prop:=fun d m=>(¬(iN es t x.sum x.off).1=0/\d=.int .i64 (iN es t x.sum x.off).1/\look m 0=some (.buf 2 [.agg [.str nm,.own 1 11 0 es.length]])/\look m 1=some (.buf 11 (es.map dk.D)))\/
 ((iN es t x.sum x.off).1=0/\d=.int .i64 0/\∃j,2<=j/\look m 0=some (.buf 2 [.agg [.str nm,.own j 11 0 (iN es t x.sum x.off).2.length]])/\look m j=some (.buf 11 ((iN es t x.sum x.off).2.map dk.D)))
def Qo (es:List dk):Prop:=∀x∈es,x.r.v.sm/\fT x.r.v=true
def Eg {es:List dk}{t:au}{n:Int}{off:Bool}(h:(iN es t n off).1=0)(he:Qo es):Qo (iN es t n off).2/\(iN es t n off).2.length<=64:=by
 unfold iN at h⊢;split
 .rename_i h1;rw[aw h1]at h;exact absurd h h1
 .rename_i h1;rw[ak h1]at h;split
  .rename_i h2;rw[aw h2]at h;exact absurd h h2
  .rename_i h2;have h3:=BB (Classical.not_not.1 h2);refine⟨fun x hx=>?_,by simp only[cb,ax,aB];omega⟩;rcases List.mem_append.1 hx with hx|hx
   .exact he x hx
   .rw[dw.1 hx];exact⟨(z7 t).1.2,B2 (Classical.not_not.1 h1)⟩
def join_one {l:List au}(h:l≠[]):aV [10] l++[10]=AY l:=by
 rw[<-EZ];induction l with
 |nil=>exact absurd rfl h
 |cons a r ih=>
  match r with
  |[]=>simp[aV]
  |b::q=>
   have:=ih aR;simp only[fY,aV,eU]at this⊢;rw[this]
def um {s:au}{i:Nat}(h:i<(aC s).1.length):(aC s).1[i]!.length<=s.length+1:=by
 have h1:=xK (s:=s) (i:=i) (by rw[me];exact h);rw[Di h,cb]at h1;omega
def Jb {s:au}{a b:Nat}(h:s.length<=524288):(aV [10] (slice (aC s).1 a b)).length<=1099511627770:=by
 have h1:=lI 10 524290 (slice (aC s).1 a b) (fun t ht=>by
  obtain⟨i,hi,rfl⟩:=List.getElem_of_mem (Cg ht);have:=um hi;rw[getElem!_pos _ i hi]at this;omega)
 have h2:(slice (aC s).1 a b).length<=s.length+1:=by
  have:=Fj s;rw[me]at this;simp only[slice,mZ,fX];omega
 have:=fh (524290+1) h2;have:=fh (524290+1) (show s.length+1<=524289 by omega);omega
def Pe {s:au}(h:¬524288<s.length)(h1:(aC s).1.length=0\/((aC s).1.length=1/\(aC s).2=false)):iH s=(An,2,1):=by
 by_cases h0:(aC s).1.length=0
 .exact Ce h (by rw[me];exact h0)
 .obtain⟨h2,h3⟩:(aC s).1.length=1/\(aC s).2=false:=h1.resolve_left h0;unfold iH;rw[ak h,ak (by rw[me];exact h0),I1 ae,ak (by simp[mY,h2,h3])]
def Pd {s:au}(h:¬524288<s.length)(h1:¬((aC s).1.length=0\/((aC s).1.length=1/\(aC s).2=false))):
  iH s=if(jj (aC s).1[0]!).isSome=true then EC ((jj (aC s).1[0]!).getD []) (oc (cE s) [] 1)else(An,2,1):=by
 have h0:¬(aC s).1.length=0:=fun h=>h1 (.inl h)
 have hw:mY (aC s).1 (aC s).2 0=true:=by
  unfold mY;cases h2:(aC s).2 with
  |true=>rfl
  |false=>simp only[Bool.false_or,aT];have:¬(aC s).1.length=1:=fun h=>h1 (.inr ⟨h,h2⟩);omega
 unfold iH;rw[ak h,ak (by rw[me];exact h0),I1 ae,aw hw,<-B7];cases jj (aC s).1[0]! <;>rfl
def MJ {s:au}{es:List dk}{i:Nat}(h:i<(aC s).1.length)(h1:(gy (aC s).1[i]!).2.2=false\/((aC s).2=false/\(i:Int)=((aC s).1.length:Int) -1)):oc (cE s) es i=([],2,(i:Int)+1):=by
 refine Ag (by rw[me];exact h) ?_;rw[IP h];split
 .rename_i hw;rcases h1 with h1|⟨h1,h2⟩
  .exact h1
  .exfalso;simp only[mY,h1,Bool.false_or,aT]at hw;omega
 .rfl
def PZ {s:au}{es:List dk}{i:Nat}(h:i<(aC s).1.length)(h1:(gy (aC s).1[i]!).2.2=true/\((aC s).2=true\/¬(i:Int)=((aC s).1.length:Int) -1)){j:Nat}(hj:OW (aC s).1 (i+1)=j):
  oc (cE s) es i=if ¬(iN es (ki (slice (aC s).1 (i+1) j) ((aC s).2 ||decide (j<(aC s).1.length))) (gy (aC s).1[i]!).1 (gy (aC s).1[i]!).2.1).1=0 then([],(iN es (ki (slice (aC s).1 (i+1) j) ((aC s).2 ||decide (j<(aC s).1.length))) (gy (aC s).1[i]!).1 (gy (aC s).1[i]!).2.1).1,(i:Int)+1)
   else oc (cE s) (iN es (ki (slice (aC s).1 (i+1) j) ((aC s).2 ||decide (j<(aC s).1.length))) (gy (aC s).1[i]!).1 (gy (aC s).1[i]!).2.1).2 j:=by
 have hw:mY (aC s).1 (aC s).2 i=true:=by
  unfold mY;rcases h1.2 with h2|h2
  .rw[h2];rfl
  .rw[cS,aT];right;omega
 have he:iA (cE s)[i]! =gy (aC s).1[i]! :=by rw[IP h,aw hw]
 have:=B6 (P:=cE s) (es:=es) (i:=i) (by rw[me];exact h) (by rw[he];exact h1.1);have h4:i+1<=j/\j<=(aC s).1.length:=by
  rw[<-hj];exact⟨DH _ _ _,Sj _ ae⟩
 rw[U8,hj,he,Ra h4.1 h4.2]at this;exact this
def Rx {t:au}(h:(¬((ai t 32).length:Int)=2\/¬(ai t 32)[0]! =fU)\/fm (ai t 32)[1]! =false):jj t=none:=by
 refine ak ?_;rintro⟨⟨h1,h2⟩,h3⟩;rcases h with(h|h)|h
 .omega
 .exact h h2
 .rw[h3]at h;cases h
def On {t:au}(h:(((ai t 32).length:Int)=2/\(ai t 32)[0]! =fU)/\fm (ai t 32)[1]! =true):jj t=some (ai t 32)[1]! /\(ai t 32).length=2:=
 ⟨aw ⟨⟨ae,h.1.2⟩,h.2⟩,ae⟩
def Rj {t:au}(h:(¬((ai t 32).length:Int)=3\/¬(ai t 32)[0]! =mX)\/¬(ai t 32)[2]! =Tm/\¬(ai t 32)[2]! =AB):gy t=(0,false,false):=by
 refine ak ?_;unfold wx;simp only[bG,cS,aT];rintro⟨⟨h1,h2⟩,h3⟩;rcases h with(h|h)|h
 .omega
 .exact h h2
 .exact h3.elim h.1 h.2
def N6 {t:au}(h:(((ai t 32).length:Int)=3/\(ai t 32)[0]! =mX)/\((ai t 32)[2]! =Tm\/(ai t 32)[2]! =AB)):gy t=(qo (ai t 32)[1]!,decide ((ai t 32)[2]! =AB),jQ (ai t 32)[1]!)/\(ai t 32).length=3:=by
 have h3:(ai t 32).length=3:=ae;refine⟨aw ?_,h3⟩;unfold wx;simp only[bG,cS,aT];exact⟨⟨h3,h.1.2⟩,h.2⟩
def Ki (T:List D->D->Prop):Prop:=∀(s:au),(s.length<=1048576)->T [.str s,.str [10],.int .i64 1,.int .i64 (-1)] (.sl 1 ((jB s).map D.str))
def Wy (Y:Ctx):Prop:=Ki (bD Y 331)
def J2 (T:List D->D->Prop):Prop:=∀(s:au),(s.length<=1048576)->T [.str s,.str [10]] (.tup [.str (bS s).1,.bool (bS s).2])
def Wk (Y:Ctx):Prop:=J2 (bD Y 244)
def QB (T:List D->D->Prop):Prop:=∀(s:au),(s.length<=1048576)->(noE s)->T [.str s] (.tup [js.D (iH s).1,.int .i64 (iH s).2.1,.int .i64 (iH s).2.2])
def SH (Y:Ctx):Prop:=QB (bD Y 86)
section
theorem uY {a b:Nat}(h:a≠b):Nat.beq a b=false:=by
 cases h2:Nat.beq a b with
 |false=>rfl
 |true=>exact absurd (Nat.eq_of_beq_eq_true h2) h
theorem UD {a b:Nat}(h:Nat.beq a b=false):Nat.beq b a=false:=by grind [uY]
section
variable [dI] {P:Program} {ν:List (Nat×Nat)} {cU:List Nat} {t:List (Nat×qq)} {fid n key u k:Nat} {af:aE} {akq:List D} {nx:Nat} {m:List (Nat×b7)} {K:D->St->Prop}
def M0 {a:D}{k q i:Nat}{es:List D}{m1:List (Nat×b7)}(ha:a.bK=true)(hes:bE es=true)(hmix:P.follows .mixedOrders=true)(hC:Li P ν cU fid af)(hnp:1=af.np)
  (hl:look m1 q=some (.buf k es)) (hK:K (.own nx k 0 i) ⟨nx+1,(nx,.buf k es)::m⟩) (hw:bP ((under t key u).at 0) af.body (kv af (One (.own q k 0 i) m1)) (fH af [a]) ⟨0,[]⟩):oV P ν cU (under t key u) fid [a] ⟨nx,m⟩ K:=by
 refine zh (σi:=[]) (m0:=[]) (cs:=[a]) (fun q=>wR t key u q) hmix hC rfl ?_ hnp rfl (fun _ _ h=>by cases h) (fun _ _ h=>by cases h) hw ?_
 .intro i hi
  match i,hi with
  |0,_=>exact .inl ⟨rfl,ha⟩
 .rintro d m2 ⟨rfl,rfl⟩;refine⟨[(q,nx)],q+1,_,.own nx k 0 i,⟨rfl, ?_,Nat.le_succ _,(fun _ _ h=>by cases h), ?_,(fun _ _ h=>by cases h), ?_⟩,.inr (.inl (by simp[rp,Ca,lV])),hK⟩
  .simp[gS]
  .grind
  .intro l bb h;simp only[look]at h;split at h
   .rename_i e;subst e;obtain rfl:=bM h;exact .inl ⟨q,_,.head _,hl,rfl,.inl ⟨rfl,hes⟩⟩
   .rename_i hn;exact .inr ⟨by simp only[mr,ak hn],(fun _ h=>by cases h),h⟩
def Tj {a0 a1 a2 a3 a4 b0 b1 b2 b3 b4 c:Nat}(ha:sW a0 a1 a2 a3 a4=true)(hb:sW b0 b1 b2 b3 b4=true)(hc:b0<c/\b1<c/\b2<c/\b3<c/\b4<c):gS 0 c [(a0,b0),(a1,b1),(a2,b2),(a3,b3),(a4,b4)]=true:=by
 simp only[sW,bg,dh]at ha hb;obtain⟨⟨⟨⟨⟨⟨⟨⟨⟨x1,x2⟩,x3⟩,x4⟩,x5⟩,x6⟩,x7⟩,x8⟩,x9⟩,x10⟩:=ha;obtain⟨⟨⟨⟨⟨⟨⟨⟨⟨y1,y2⟩,y3⟩,y4⟩,y5⟩,y6⟩,y7⟩,y8⟩,y9⟩,y10⟩:=hb;obtain⟨c0,c1,c2,c3,c4⟩:=hc;have bt:∀{x:Nat},x<c->Nat.blt x c=true:=fun {x} h=>by simp[Nat.blt];omega
 have bl:∀{x:Nat},Nat.ble 0 x=true:=fun {x}=>aR
 grind [gS,UD]
def ZQ {a0 a1 a2 a3 a4 b0 b1 b2 b3 b4:Nat}(ha:sW a0 a1 a2 a3 a4=true):lV 0 [(a0,b0),(a1,b1),(a2,b2),(a3,b3),(a4,b4)] a0=some b0/\lV 0 [(a0,b0),(a1,b1),(a2,b2),(a3,b3),(a4,b4)] a1=some b1/\lV 0 [(a0,b0),(a1,b1),(a2,b2),(a3,b3),(a4,b4)] a2=some b2/\lV 0 [(a0,b0),(a1,b1),(a2,b2),(a3,b3),(a4,b4)] a3=some b3/\lV 0 [(a0,b0),(a1,b1),(a2,b2),(a3,b3),(a4,b4)] a4=some b4:=by
 simp only[sW,bg,dh]at ha;obtain⟨⟨⟨⟨⟨⟨⟨⟨⟨x1,x2⟩,x3⟩,x4⟩,x5⟩,x6⟩,x7⟩,x8⟩,x9⟩,x10⟩:=ha;simp only[lV,x1,x2,x3,x4,x5,x6,x7,x8,x9,x10,Nat.beq_refl,cond_true,cond_false,cR]
def ZP {σ:List (Nat×Nat)}{m:List (Nat×b7)}{x:jc}{a0 a1 a2 a3 a4 b0 b1 b2 b3 b4:Nat}(h:Q4 m x a0 a1 a2 a3 a4)(ha:sW a0 a1 a2 a3 a4=true)(hs:σ=[(a0,b0),(a1,b1),(a2,b2),(a3,b3),(a4,b4)]):
  ∀l b,look (Us x b0 b1 b2 b3 b4) l=some b->∃i b',(i,l)∈σ/\look m i=some b'/\rH 0 σ b' b:=by
 obtain⟨r0,r1,r2,r3,r4⟩:=ZQ (b0:=b0) (b1:=b1) (b2:=b2) (b3:=b3) (b4:=b4) ha;intro l b hl;rw[<-hs]at r0 r1 r2 r3 r4;have mem:(a0,b0)∈σ/\(a1,b1)∈σ/\(a2,b2)∈σ/\(a3,b3)∈σ/\(a4,b4)∈σ:=by subst hs;simp
 obtain⟨q0,q1,q2,q3,q4⟩:=mem;simp only[Us,look]at hl;split at hl
 .rename_i e;subst e;obtain rfl:=bM hl;exact⟨a0,_,q0,h.a0,rfl,.inr (.inl (by simp only[nI,ow,rp,Ca,r1,r3,r4]))⟩
 .split at hl
  .rename_i e;subst e;obtain rfl:=bM hl;exact⟨a1,_,q1,h.a1,rfl,.inr (.inl (vE _ _ _ _ r2 _))⟩
  .split at hl
   .rename_i e;subst e;obtain rfl:=bM hl;exact⟨a2,_,q2,h.a2,rfl,.inl ⟨rfl,lB _⟩⟩
   .split at hl
    .rename_i e;subst e;obtain rfl:=bM hl;exact⟨a3,_,q3,h.a3,rfl,.inl ⟨rfl,bB (fun _=>rfl) _⟩⟩
    .split at hl
     .rename_i e;subst e;obtain rfl:=bM hl;exact⟨a4,_,q4,h.a4,rfl,.inl ⟨rfl,bB (fun _=>rfl) _⟩⟩
     .cases hl
def VD {m:List (Nat×b7)}{j0 j1 j2 j3 j4 l:Nat}{b:b7}(h:look (Eb m j0 j1 j2 j3 j4) l=some b):(l≠j0/\l≠j1/\l≠j2/\l≠j3/\l≠j4)/\look m l=some b:=by
 simp only[Eb,fL]at h;split at h
 .cases h
 grind
def OI (a b:List (Nat×b7))(l:Nat):look (a++b) l=match look a l with
 |some x=>some x
 |none=>look b l:=by
 induction a with
 |nil=>rfl
 |cons p r ih=>
  grind [look]
def HG {a0 a1 a2 a3 a4 b0 b1 b2 b3 b4 p q:Nat}(h:(p,q)∈[(a0,b0),(a1,b1),(a2,b2),(a3,b3),(a4,b4)]):p=a0/\q=b0\/p=a1/\q=b1\/p=a2/\q=b2\/p=a3/\q=b3\/p=a4/\q=b4:=by
 grind
def rj {x:jc}{out:Option jc}{j0 j1 j2 j3 j4:Nat}(has:bE akq=true)(hmix:P.follows .mixedOrders=true)(hC:Li P ν cU fid af)(hnp:akq.length+1=af.np)
  (h1:Q4 m x j0 j1 j2 j3 j4) (h2:sW j0 j1 j2 j3 j4=true) (h3:j0<nx/\j1<nx/\j2<nx/\j3<nx/\j4<nx) (hK:K (.bool out.isSome) ⟨nx+4,uS out j0 nx++Eb m j0 j1 j2 j3 j4⟩)
  (hw:bP ((under t key u).at 5) af.body (kv af (Ut out)) (fH af (.ptr 0 10 0 0::akq)) ⟨5,Us x 0 1 2 3 4⟩):oV P ν cU (under t key u) fid (.ptr j0 10 0 0::akq) ⟨nx,m⟩ K:=by
 have g3:gS 0 5 [(j0,0),(j1,1),(j2,2),(j3,3),(j4,4)]=true:=Tj h2 rfl aM;have g4:∀l i,(l,i)∈[(j0,0),(j1,1),(j2,2),(j3,3),(j4,4)]->look m l≠none:=by
  intro l i h;rcases HG h with⟨rfl,_⟩|⟨rfl,_⟩|⟨rfl,_⟩|⟨rfl,_⟩|⟨rfl,_⟩
  .rw[h1.a0];simp
  .rw[h1.a1];simp
  .rw[h1.a2];simp
  .rw[h1.a3];simp
  .rw[h1.a4];simp
 have g5:=ZP (b0:=0) (b1:=1) (b2:=2) (b3:=3) (b4:=4) h1 h2 rfl;refine zh (σi:=[(j0,0),(j1,1),(j2,2),(j3,3),(j4,4)]) (cs:=.ptr 0 10 0 0::akq) (fun q=>wR t key u q) hmix hC aR ?_ (by simpa using hnp) g3 g4 g5 hw ?_
 .intro i hi
  match i with
  |0=>exact .inr (.inl (by simp[rp,Ca,lV]))
  |i+1=>exact .inl ⟨rfl,dz has i⟩
 have hoff:∀l b,look (Eb m j0 j1 j2 j3 j4) l=some b->(∀i,(l,i)∉[(j0,0),(j1,1),(j2,2),(j3,3),(j4,4)])/\look m l=some b:=by
  intro l b h;obtain⟨⟨e0,e1,e2,e3,e4⟩,hl⟩:=VD h;refine⟨fun i hi=>?_,hl⟩;rcases HG hi with⟨h,_⟩|⟨h,_⟩|⟨h,_⟩|⟨h,_⟩|⟨h,_⟩<;>contradiction
 rintro d m1 ⟨rfl,hy⟩;cases out with
 |none=>
  refine⟨[],5,_,.bool false,⟨g3,by simp[gS],(Nat.le_add_right _ _:nx<=nx+4),g4,(fun _ _ h=>by cases h),g5, ?_⟩,.inl ⟨rfl,rfl⟩,hK⟩;intro l b h;obtain⟨k1,k2⟩:=hoff l b h;exact .inr ⟨rfl,k1,k2⟩
 |some y=>
  obtain⟨a1,a2,a3,a4,hf,hat⟩:=hy y rfl;have hg:sW j0 nx (nx+1) (nx+2) (nx+3)=true:=by
   simp only[sW,bg,dh];refine⟨⟨⟨⟨⟨⟨⟨⟨⟨?_, ?_⟩, ?_⟩, ?_⟩, ?_⟩, ?_⟩, ?_⟩, ?_⟩, ?_⟩, ?_⟩<;>exact uY ae
  refine⟨[(0,j0),(a1,nx),(a2,nx+1),(a3,nx+2),(a4,nx+3)],5+a1+a2+a3+a4,_,.bool true,⟨g3,Tj hf hg fq,(Nat.le_add_right _ _:nx<=nx+4),g4, ?_,g5, ?_⟩,.inl ⟨rfl,rfl⟩,hK⟩
  .intro i l h;rcases HG h with⟨rfl,rfl⟩|⟨rfl,rfl⟩|⟨rfl,rfl⟩|⟨rfl,rfl⟩|⟨rfl,rfl⟩
   .exact .inl (.head _)
   all_goals exact .inr fq
  .intro l b h;dsimp only at h;rw[OI]at h;cases hl:look (uS (some y) j0 nx) l with
   |some c=>
    rw[hl]at h;obtain rfl:=bM h;exact .inl (ZP hat hf rfl l c hl)
   |none=>
    rw[hl]at h;obtain⟨k1,k2⟩:=hoff l b h;refine .inr ⟨?_,k1,k2⟩;simp only[uS,Us,look]at hl;split at hl
    .cases hl
    .rename_i e0;split at hl
     .cases hl
     .rename_i e1;split at hl
      .cases hl
      .rename_i e2;split at hl
       .cases hl
       .rename_i e3;split at hl
        .cases hl
        .rename_i e4;simp only[mr,ak e0,ak e1,ak e2,ak e3,ak e4,ak (Ne.symm e0),ak (Ne.symm e1),ak (Ne.symm e2),ak (Ne.symm e3),ak (Ne.symm e4)]
end
end
section
section
variable [dI] {P:Program} {ν:List (Nat×Nat)} {cU:List Nat} {t:List (Nat×qq)} {fid n key u k:Nat} {af:aE} {nx:Nat} {m:List (Nat×b7)} {K:D->St->Prop}
def NG {nm t':au}{es:List dk}{y:dk}{lp ln:Nat}(hmix:P.follows .mixedOrders=true)(hC:Li P ν cU fid af)(hnp:3=af.np)
  (h1:look m lp=some (.buf 2 [.agg [.str nm,.own ln 11 0 es.length]])) (h2:look m ln=some (.buf 11 (es.map dk.D))) (h3:lp<nx) (h4:ln<nx)
  (hK1:¬(iN es t' y.sum y.off).1=0->K (.int .i64 (iN es t' y.sum y.off).1) ⟨nx,m⟩)
  (hK2:(iN es t' y.sum y.off).1=0->K (.int .i64 0) ⟨nx+1,(nx,.buf 11 ((iN es t' y.sum y.off).2.map dk.D))::dE (cL m ln) lp (.buf 2 [.agg [.str nm,.own nx 11 0 (iN es t' y.sum y.off).2.length]])⟩)
  (hw:bP ((under t key u).at 2) af.body (kv af (V8 nm es y t')) (fH af [.ptr 0 2 0 0,y.D,.str t']) ⟨2,[(0,.buf 2 [.agg [.str nm,.own 1 11 0 es.length]]),(1,.buf 11 (es.map dk.D))]⟩):oV P ν cU (under t key u) fid [.ptr lp 2 0 0,y.D,.str t'] ⟨nx,m⟩ K:=by
 have hne:lp≠ln:=by
  rintro rfl;rw[h1]at h2;exact absurd (b7.buf.inj (bM h2)).1 aM
 have hb:=uY hne;have hb':=uY hne.symm;have hes:bE (es.map dk.D)=true:=bB (fun _=>rfl) _;have g3:gS 0 2 [(lp,0),(ln,1)]=true:=by simp[gS,hb,hb'];rfl
 have g4:∀l i,(l,i)∈[(lp,0),(ln,1)]->look m l≠none:=fun l i h=>by
  rcases dp.1 h with h|h
  .obtain⟨rfl,rfl⟩:=Prod.mk.inj h;rw[h1];simp
  .obtain⟨rfl,rfl⟩:=Prod.mk.inj (dw.1 h);rw[h2];simp
 have g5:∀i bb,look [(0,.buf 2 [.agg [.str nm,.own 1 11 0 es.length]]),(1,.buf 11 (es.map dk.D))] i=some bb->∃l b',(l,i)∈[(lp,0),(ln,1)]/\look m l=some b'/\rH 0 [(lp,0),(ln,1)] b' bb:=fun i bb h=>by
  simp only[look]at h;split at h
  .rename_i e;subst e;obtain rfl:=bM h;exact⟨lp,_,.head _,h1,rfl,.inr (.inl (by simp[ow,rp,Ca,lV,hb]))⟩
  .split at h
   .rename_i e;subst e;obtain rfl:=bM h;exact⟨ln,_,.tail _ (.head _),h2,rfl,.inl ⟨rfl,hes⟩⟩
   .cases h
 refine zh (σi:=[(lp,0),(ln,1)]) (cs:=[.ptr 0 2 0 0,y.D,.str t']) (fun q=>wR t key u q) hmix hC rfl ?_ hnp g3 g4 g5 hw ?_
 .intro i hi
  match i,hi with
  |0,_=>exact .inr (.inl (by simp[rp,Ca,lV]))
  |1,_=>exact .inl ⟨rfl,rfl⟩
  |2,_=>exact .inl ⟨rfl,rfl⟩
 .rintro d m1 (⟨h,rfl,e0,e1⟩|⟨h,rfl,j,hj,e0,ej⟩)
  .refine⟨[(0,lp),(1,ln)],2,_,_,⟨g3, ?_,aQ _,g4, ?_,g5, ?_⟩,.inl ⟨rfl,rfl⟩,hK1 h⟩
   .simp[gS,hb,hb'];exact⟨h3,rfl,h4⟩
   .intro i l h;rcases dp.1 h with h|h
    .obtain⟨rfl,rfl⟩:=Prod.mk.inj h;exact .inl (.head _)
    .obtain⟨rfl,rfl⟩:=Prod.mk.inj (dw.1 h);exact .inl (.tail _ (.head _))
   .intro l bb h;simp only at h;by_cases x1:l=lp
    .subst x1;rw[h1]at h;obtain rfl:=bM h;exact .inl ⟨0,_,.head _,e0,rfl,.inr (.inl (by simp only[ow,rp,Ca,show lV 0 [(0,l),(1,ln)] 1=some ln from rfl]))⟩
    .by_cases x2:l=ln
     .subst x2;rw[h2]at h;obtain rfl:=bM h;exact .inl ⟨1,_,.tail _ (.head _),e1,rfl,.inl ⟨rfl,hes⟩⟩
     .exact .inr ⟨by simp only[mr,ak (fun e=>x1 (Eq.symm e)),ak (fun e=>x2 (Eq.symm e))],(fun i hi=>by
       rcases dp.1 hi with hi|hi
       .exact x1 (Prod.mk.inj hi).1
       .exact x2 (Prod.mk.inj (dw.1 hi)).1),h⟩
  .have hj0:Nat.beq j 0=false:=by cases j<;>first|omega|rfl
   have h0j:Nat.beq 0 j=false:=by cases j<;>first|omega|rfl
   have hl1:Nat.beq lp nx=false:=uY ae;have hl2:Nat.beq nx lp=false:=uY ae;refine⟨[(0,lp),(j,nx)],j+1,_,_,⟨g3, ?_,Nat.le_succ _,g4, ?_,g5, ?_⟩,.inl ⟨rfl,rfl⟩,hK2 h⟩
   .simp[gS,hj0,h0j,hl1,hl2];omega
   .intro i l h;rcases dp.1 h with h|h
    .obtain⟨rfl,rfl⟩:=Prod.mk.inj h;exact .inl (.head _)
    .obtain⟨rfl,rfl⟩:=Prod.mk.inj (dw.1 h);exact .inr (aQ _)
   .intro l bb h;simp only[look]at h;split at h
    .rename_i e;subst e;obtain rfl:=bM h;exact .inl ⟨j,_,.tail _ (.head _),ej,rfl,.inl ⟨rfl,bB (fun _=>rfl) _⟩⟩
    .rename_i hln;rw[cH]at h;split at h
     .rename_i e;subst e;obtain rfl:=bM h;exact .inl ⟨0,_,.head _,e0,rfl,.inr (.inl (by simp[ow,rp,Ca,lV,h0j]))⟩
     .rename_i hlp;rw[fL]at h;split at h
      .cases h
      .rename_i hl2;refine .inr ⟨by simp only[mr,ak (fun e=>hlp (Eq.symm e)),ak hln],fun i hi=>?_,h⟩;rcases dp.1 hi with hi|hi
       .exact hlp (Prod.mk.inj hi).1
       .exact hl2 (Prod.mk.inj (dw.1 hi)).1
end
end
def cmp_isNaN_int:aE:=⟨1,2,ib,b8,(sq (r1 [gm cZ] 1 0) (sq (r1 [gm s0,gm s0,bO l0 l1,gm l2] 1 3) .ret))⟩
def w714 {Y:Ctx}(hm:(Y.at 0).cj)  (x:Int)   :dn Y cmp_isNaN_int (.bool false) [.int .i64 x]:=by
 show bP _ _ _ [⟨_,_⟩,_] _;refine aq ?_;refine di ?_;refine bX ?_;simp
def KV (T:List D->D->Prop):Prop:=∀(x:Int),T [.int .i64 x] (.bool false)
def Xu (Y:Ctx):Prop:=KV (bD Y 714)
def AW:aE:=⟨1,2,ib,b8,(sq (r1 [gm cZ] 1 0) (sq (r1 [gm s0,gm s0,bO l0 l1,gm l2] 1 3) .ret))⟩
def w704 {Y:Ctx}(hm:(Y.at 0).cj)  (x:au)   :dn Y AW (.bool false) [.str x]:=by
 show bP _ _ _ [⟨_,_⟩,_] _;refine aq ?_;refine di ?_;refine bX ?_;simp
def KU (T:List D->D->Prop):Prop:=∀(x:au),T [.str x] (.bool false)
def Xt (Y:Ctx):Prop:=KU (bD Y 704)
def cmp_Compare_int:aE:=⟨2,10,[⟨2,none⟩],b8,(sq (r1 [gm bx] 2 0) (sq (r1 [gm s0,gx 714 [l0] b8,gm l1] 3 2) (sq (r1 [gm s1,gx 714 [l0] b8,gm l1] 5 2) (sq (sq (r1 [gm s3] 4 0) (.cond s4 (sq (sq (r1 [gm s5] 6 0) (.cond s6 (sq (r1 [gm bx] 2 0) .ret) .skip)) (sq (r1 [gn (.mv (.c (.int .i64 (-1))))] 2 0) .ret)) .skip)) (sq (sq (r1 [gm s5] 7 0) (.cond s7 (sq (r1 [gm cl] 2 0) .ret) .skip)) (sq (sq (r1 [gm s0,gm s1,aX l0 l1] 8 2) (.cond s8 (sq (r1 [gn (.mv (.c (.int .i64 (-1))))] 2 0) .ret) .skip)) (sq (sq (r1 [gm s0,gm s1,dj l0 l1] 9 2) (.cond s9 (sq (r1 [gm cl] 2 0) .ret) .skip)) (sq (r1 [gm bx] 2 0) .ret))))))))⟩
def w532 {Y:Ctx}(hm:(Y.at 0).cj)(h714:Xu Y)(a:Int)(b:Int)   :dn Y cmp_Compare_int (.int .i64 (fB a b)) [.int .i64 a,.int .i64 b]:=by
 show bP _ _ _ [⟨_,_⟩,⟨_,_⟩,_,_,_,_,_,_,_,_] _;refine aq ?_;refine aD ?_;refine ar (hc:=h714 _) ?_;refine aD ?_;refine ar (hc:=h714 _) ?_;refine aG ?_;refine av (t:=false) (fun h=>by cases h) (fun _=>?_);refine aI ?_;refine av (t:=false) (fun h=>by cases h) (fun _=>?_);refine ba ?_;refine cM (fun hc3=>?_) fun hc3=>?_
 .refine aI ?_;refine c8 ?_;simp[fB,hc3]
 refine ba ?_;refine cM (fun hc4=>?_) fun hc4=>?_
 .refine aI ?_;refine c8 ?_;unfold fB;rw[ak hc3,aw hc4]
 refine aI ?_;refine c8 ?_;unfold fB;rw[ak hc3,ak hc4]
def yj (T:List D->D->Prop):Prop:=∀(a:Int) (b:Int),T [.int .i64 a,.int .i64 b] (.int .i64 (fB a b))
def TR (Y:Ctx):Prop:=yj (bD Y 532)
def wY:aE:=⟨2,10,[⟨2,none⟩],b8,(sq (r1 [gm bx] 2 0) (sq (r1 [gm s0,gx 704 [l0] b8,gm l1] 3 2) (sq (r1 [gm s1,gx 704 [l0] b8,gm l1] 5 2) (sq (sq (r1 [gm s3] 4 0) (.cond s4 (sq (sq (r1 [gm s5] 6 0) (.cond s6 (sq (r1 [gm bx] 2 0) .ret) .skip)) (sq (r1 [gn (.mv (.c (.int .i64 (-1))))] 2 0) .ret)) .skip)) (sq (sq (r1 [gm s5] 7 0) (.cond s7 (sq (r1 [gm cl] 2 0) .ret) .skip)) (sq (sq (r1 [gm s0,gm s1,aX l0 l1] 8 2) (.cond s8 (sq (r1 [gn (.mv (.c (.int .i64 (-1))))] 2 0) .ret) .skip)) (sq (sq (r1 [gm s0,gm s1,dj l0 l1] 9 2) (.cond s9 (sq (r1 [gm cl] 2 0) .ret) .skip)) (sq (r1 [gm bx] 2 0) .ret))))))))⟩
def w516 {Y:Ctx}(hm:(Y.at 0).cj)(h704:Xt Y)(a:au)(b:au)   :dn Y wY (.int .i64 (AV a b)) [.str a,.str b]:=by
 show bP _ _ _ [⟨_,_⟩,⟨_,_⟩,_,_,_,_,_,_,_,_] _;refine aq ?_;refine aD ?_;refine ar (hc:=h704 _) ?_;refine aD ?_;refine ar (hc:=h704 _) ?_;refine aG ?_;refine av (t:=false) (fun h=>by cases h) (fun _=>?_);refine aI ?_;refine av (t:=false) (fun h=>by cases h) (fun _=>?_);refine ba ?_;refine cM (fun hc3=>?_) fun hc3=>?_
 .refine aI ?_;refine c8 ?_;simp[AV,hc3]
 refine ba ?_;refine cM (fun hc4=>?_) fun hc4=>?_
 .refine aI ?_;refine c8 ?_;simp_all[AV]
 refine aI ?_;refine c8 ?_;simp_all[AV]
def yi (T:List D->D->Prop):Prop:=∀(a:au) (b:au),T [.str a,.str b] (.int .i64 (AV a b))
def W7 (Y:Ctx):Prop:=yi (bD Y 516)
def UG:aE:=⟨1,9,ib,b8,(sq (r1 [gm bx] 1 0) (sq (r1 [gm bx] 7 0) (sq (sq (rg [gm s0,gl l0,gm bx] [(5,0),(3,1),(2,2)]) (.block 0 (.loop (sq (r1 [aX s2 s3] 4 0) (sq (fC s4 0) (sq (.block 1 (sq (r1 [ga 1 s5 s2,gd l0,gm l1] 6 2) (sq (r1 [gm s6,gm s7,bO l0 l1] 8 2) (.cond s8 (sq (r1 [gm s6,gm l0] 1 1) .ret) .skip)))) (r1 [az s2 cl,gm l0] 2 1))))))) (sq (r1 [gm s7,gm l0] 1 1) .ret))))⟩
def w531  (l:List Int)   :dn Y UG (.int .i64 (fQ (fun i=>l[i]!) 0 l.length)) [.sl 1 (l.map (D.int .i64))]:=by
 show bP _ _ _ [⟨_,_⟩,_,_,_,_,_,_,_,_] _;refine aq ?_;refine di ?_;intro u0;refine ay ?_;refine bh hm (ι:=Nat) (fun i=>[.un,.un,⟨true,.int .i64 (i:Nat)⟩,⟨true,.int .i64 (l.length:Nat)⟩,.un,⟨true,.sl 1 (l.map (D.int .i64))⟩,.un,⟨true,.int .i64 0⟩,.un]) (fun i=>[]) 5 (fun i=>i<=l.length/\fQ (fun i=>l[i]!) 0 l.length=fQ (fun i=>l[i]!) i l.length) (fun i=>l.length-i) 0 ⟨ae,rfl⟩ (dy []) ?_;rintro i ⟨hi,hr⟩;refine aA ?_;refine cM (fun hc0=>?_) fun hc0=>?_
 .refine aA ?_;refine bL i ?_;refine bH (v:=.int .i64 l[i]!) ?_;refine ba ?_;refine fP (fun hc1=>?_) fun hc1=>?_
  .refine ba ?_;refine c8 ?_;rw[hr,lD ae hc1]
  refine ba ?_;exact⟨i+1,⟨ae,by rw[hr,pe ae hc1]⟩,ae,(dy [])⟩
 refine ba ?_;refine c8 ?_;rw[hr,pd ae]
def KF (T:List D->D->Prop):Prop:=∀(l:List Int),T [.sl 1 (l.map (D.int .i64))] (.int .i64 (fQ (fun i=>l[i]!) 0 l.length))
def W9 (Y:Ctx):Prop:=KF (bD Y 531)
def DQ:aE:=⟨1,3,[⟨1,some (5,true)⟩],xA,(sq (rg [gb 5 s0,gb 5 (.c (.agg [.int .i64 0,.int .i64 0,.int .i64 0,.str [],.str []]))] [(2,0),(1,1)]) (sq (rg [gf 4 s2,gt 1 l0 cse] []) (sq (rg [gk 5 true s2,gt 5 s1 l0] []) .ret)))⟩
def w530 {Y:Ctx}(hm:(Y.at 0).cj)  (v:cy)   :dn Y DQ (cy.D (wo v)) [cy.D v]:=by
 show bP _ _ _ [⟨_,_⟩,_,_] _;refine aq ?_;refine aI ?_;refine aY _ (he:=aZ) ?_;refine aG ?_;refine bI (?_);rfl
def KE (T:List D->D->Prop):Prop:=∀(v:cy),T [cy.D v] (cy.D (wo v))
def W8 (Y:Ctx):Prop:=KE (bD Y 530)
def Gj:aE:=⟨2,10,[⟨2,none⟩],b8,(sq (r1 [gm bx] 2 0) (sq (rg [gm s0,gx 659 [l0] b8,gm s1,gx 659 [l2] b8,gm l1,gm l3] [(3,4),(4,5)]) (sq (sq (r1 [gm s3,gm l0,gmt 1 s4,eX l1 l2] 5 3) (.cond s5 (sq (r1 [gm s0,gx 658 [l0] b8,gm l1,ge l2 0,ge l2 1,gm l3,gm l4] 6 5) (sq (r1 [gm s1,gx 658 [l0] b8,gm l1,ge l2 0,ge l2 1,gm l3,gm l4] 7 5) (sq (r1 [gm s6,gm s7,gx 532 [l0,l1] fA,gm l2] 2 3) .ret))) .skip)) (sq (sq (r1 [gm s3,gm s4,gn (.eqA true false [.b] l0 l1)] 8 2) (.cond s8 (sq (sq (r1 [gm s3] 9 0) (.cond s9 (sq (r1 [gn (.mv (.c (.int .i64 (-1))))] 2 0) .ret) .skip)) (sq (r1 [gm cl] 2 0) .ret)) .skip)) (sq (r1 [gm s0,gm s1,gx 516 [l0,l1] fA,gm l2] 2 3) .ret)))))⟩
def w534 {Y:Ctx}(hm:(Y.at 0).cj)(h516:W7 Y)(h532:TR Y)(h658:Nr Y)(h659:TU Y)(a:au)(b:au)   :dn Y Gj (.int .i64 (sw a b)) [.str a,.str b]:=by
 show bP _ _ _ [⟨_,_⟩,⟨_,_⟩,_,_,_,_,_,_,_,_] _;refine aq ?_;refine aD ?_;refine ar (hc:=h659 _) ?_;refine aH ?_;refine ar (hc:=h659 _) ?_;refine gv ?_;refine cM (fun hc0=>?_) fun hc0=>?_
 .refine aA ?_;refine ar (hc:=h658 _) ?_;refine di ?_;refine ar (hc:=h658 _) ?_;refine gv ?_;refine ar (hc:=h532 _ _) ?_;refine aA ?_;refine c8 ?_;unfold sw;rw[aw hc0]
 refine aI ?_;refine Jz (hb:=UL _ _) ?_;refine aH ?_;refine av (fun hc1=>?_) (fun hc1=>?_)
 .simp only[bg,bm]at hc1;refine aI ?_;refine cM (fun hc2=>?_) fun hc2=>?_
  .refine aI ?_;refine c8 ?_;have hn:¬(cW a=true/\cW b=true):=by rintro⟨h1,h2⟩;simp[h1,h2]at hc0
   unfold sw;rw[ak hn];rw[aw hc2]
  refine aG ?_;refine c8 ?_;have hn:¬(cW a=true/\cW b=true):=by rintro⟨h1,h2⟩;simp[h1,h2]at hc0
  unfold sw;rw[ak hn];rw[ak (by simp[hc2]),aw (by cases h:cW b with|true=>rfl|false=>exact absurd (hc2.trans h.symm) hc1)]
 simp only[bN,aT]at hc1;refine aD ?_;refine ar (hc:=h516 _ _) ?_;refine aA ?_;refine c8 ?_;have hn:¬(cW a=true/\cW b=true):=by rintro⟨h1,h2⟩;simp[h1,h2]at hc0
 unfold sw;rw[ak hn];have h1:cW a=false:=by cases h:cW a with|false=>rfl|true=>exact absurd ⟨h,hc1▸h⟩ hn
 rw[ak (by simp[h1]),ak (by rw[<-hc1];simp[h1])]
def yl (T:List D->D->Prop):Prop:=∀(a:au) (b:au),T [.str a,.str b] (.int .i64 (sw a b))
def Xa (Y:Ctx):Prop:=yl (bD Y 534)
def xk:aE:=⟨2,16,[⟨2,none⟩],b8,(sq (rg [gb 5 s0,gb 5 s1,gm bx] [(3,0),(4,1),(2,2)]) (sq (sq (r2 [gk 5 true s3,gx 209 [l0] xA,iY l1,gm l2,cn 3 (.ld 5 true s4),cn 3 (.call 209 [l4] xA),cn 3 (.un .not l5),eW l3 l6,gm l7,cn 8 (.ld 5 true s3),cn 8 (.call 530 [l9] xA),cn 8 (.ld 5 true s4),cn 8 (.call 530 [fZ] xA),cn 8 (.eqA false true [.i .i64,.i .i64,.i .i64,.s,.s] l10 iv),eW l8 jr] 5 14) (.cond s5 (sq (r1 [gm bx] 2 0) .ret) .skip)) (sq (sq (r2 [gf 0 s3,gd l0,gf 0 s4,gd l2,gx 532 [l1,l3] fA,gf 1 s3,gd l5,gf 1 s4,gd l7,gx 532 [l6,l8] fA,gf 2 s3,gd l10,gf 2 s4,gd iv,gx 532 [fZ,jr] fA,gn (.bsl 1 (.int .i64 0) 3 [(0,l4),(1,l9),(2,jT)]),gx 531 [lg] [[.sl 1 [.a]]],gm nw] 6 17) (sq (r1 [gm s6,bO l0 bx] 7 1) (.cond s7 (sq (r1 [gm s6,gm l0] 2 1) .ret) .skip))) (sq (sq (r1 [gf 3 s3,gd l0,aL l1 cse] 8 2) (.cond s8 (sq (r1 [gm cl] 2 0) .ret) .skip)) (sq (sq (r1 [gf 3 s4,gd l0,aL l1 cse] 9 2) (.cond s9 (sq (r1 [gn (.mv (.c (.int .i64 (-1))))] 2 0) .ret) .skip)) (sq (rt [gf 3 s3,gd l0,gx 533 [l1,(i8 46)] fA,gf 3 s4,gd l3,gx 533 [l4,(i8 46)] fA,gm l2,gm l5] [(11,6),(12,7)]) (sq (sq (r1 [gm bx] 10 0) (.block 0 (.loop (sq (sq (r1 [gm ik,gm jR,gl l1,aX l0 l2,gm l3,gmt 4 ik,gmt 4 kr,cr 4 (.len l6),cr 4 (oW l5 l7),eX l4 l8] 13 9) (fC qb 0)) (sq (.block 1 (sq (r2 [gm jR,gm ik,ga 1 l0 l1,gd l2,gm kr,gm ik,ga 1 l4 l5,gd l6,gx 534 [l3,l7] fA,gm l8] 14 9) (sq (r1 [gm tw,bO l0 bx] 15 1) (.cond tx (sq (r1 [gm tw,gm l0] 2 1) .ret) .skip)))) (r1 [gm ik,az l0 cl,gm l1] 10 2)))))) (sq (r1 [gm jR,gl l0,gm kr,gl l2,gx 532 [l1,l3] fA,gm l4] 2 5) .ret))))))))⟩
def w295 (h209:GP Y)(h530:W8 Y)(h531:W9 Y)(h532:TR Y)(h533:Lg Y)(h534:Xa Y)(a:cy)(b:cy)  (hp0:a.sm/\b.sm):dn Y xk (.int .i64 (pP a b)) [cy.D a,cy.D b]:=by
 show bP _ _ _ [⟨_,_⟩,⟨_,_⟩,_,_,_,_,_,_,_,_,_,_,_,_,_,_] _;refine aq ?_;refine ba ?_;refine ar (hc:=h209 a hp0.1) ?_;refine aA ?_;refine dm (hc:=fun hf=>h209 b hp0.2) ?_;refine aD ?_;refine dm (hc:=fun hf=>h530 a) ?_;refine aH ?_;refine dm (hc:=fun hf=>h530 b) ?_;refine Tf (hb:=cy.eq _ _) ?_;refine ay ?_;refine av (fun hc0=>?_) (fun hc0=>?_)
 .simp only[cS,bg,aT]at hc0;refine aI ?_;refine c8 ?_;rcases hc0 with hc0|hc0
  .unfold pP;rw[aw hc0]
  .exact(Lz hc0).symm
 simp only[dh,bN,bm]at hc0;have hv:¬(fT a=false\/fT b=false):=by simp only[not_or,Bool.not_eq_false];first|exact hc0|exact hc0.1
 refine ba ?_;refine ar (hc:=h532 _ _) ?_;refine aD ?_;refine ar (hc:=h532 _ _) ?_;refine aD ?_;refine ar (hc:=h532 _ _) ?_;refine dA ([fB a.major b.major,fB a.minor b.minor,fB a.patch b.patch].map (D.int .i64)) ?_;refine ar (hc:=h531 [fB a.major b.major,fB a.minor b.minor,fB a.patch b.patch]) (ha:=fun _=>aj (fun d=>[d]) (oM (q:=D.int .i64) (xs:=[fB a.major b.major,fB a.minor b.minor,fB a.patch b.patch]) (fun _=>rfl) ah)) (hp:=fun _=>⟨mJ (q:=D.int .i64) (xs:=[fB a.major b.major,fB a.minor b.minor,fB a.patch b.patch]) (fun _=>rfl) ah,trivial⟩) ?_;refine ba ?_;refine av (fun hc1=>?_) (fun hc1=>?_)
 .simp only[bg,bm]at hc1;refine aG ?_;refine c8 ?_;exact Ob hv hc1
 simp only[bN,aT]at hc1;obtain⟨z1,z2,z3⟩:=Oc hc1;refine aA ?_;have hcp:=NW hv z1 z2 z3;have hpn:¬a.pre=b.pre:=fun e=>hc0.2 (Rc z1 z2 z3 e)
 refine aD ?_;refine cM (fun hc2=>?_) fun hc2=>?_
 .refine aI ?_;refine c8 ?_;rw[hcp];unfold vL;rw[ak hpn,aw hc2]
 refine ba ?_;refine cM (fun hc3=>?_) fun hc3=>?_
 .refine aI ?_;refine c8 ?_;rw[hcp];unfold vL;rw[ak hpn,ak hc2,aw hc3]
 refine aD ?_;refine ar (hc:=h533 a.pre 46 hp0.1.1) ?_;refine ay ?_;refine ar (hc:=h533 b.pre 46 hp0.2.1) ?_;refine ba ?_;refine bh hm (ι:=Nat) (fun i=>[.un,.un,.un,⟨true,.ptr 0 5 0 0⟩,⟨true,.ptr 1 5 0 0⟩,.un,.un,.un,.un,.un,⟨true,.int .i64 (i:Nat)⟩,⟨true,.sl 1 ((ai a.pre 46).map D.str)⟩,⟨true,.sl 1 ((ai b.pre 46).map D.str)⟩,.un,.un,.un]) (fun i=>[(0,.buf 5 [cy.D a]),(1,.buf 5 [cy.D b])]) 53 (fun i=>(i<=(ai a.pre 46).length/\i<=(ai b.pre 46).length)/\pP a b=sF (ai a.pre 46) (ai b.pre 46) i) (fun i=>(ai a.pre 46).length-i) 0 ⟨⟨ae,ae⟩,by rw[hcp];unfold vL;rw[ak hpn,ak hc2,ak hc3]⟩ (dy [(0,0),(1,1)]) ?_;rintro i ⟨hi,hr⟩;refine aI ?_;intro u0;refine aD ?_;refine iJ ?_;refine aA ?_;refine cM (fun hc4=>?_) fun hc4=>?_
 .refine aI ?_;refine bL i (hb:=fun _=>ae) ?_;refine bH (v:=.str (ai a.pre 46)[i]!) (hi:=fun _=>ae) ?_;refine ay ?_;refine bL i (hb:=fun _=>ae) ?_;refine bH (v:=.str (ai b.pre 46)[i]!) (hi:=fun _=>ae) ?_;refine ar (hc:=h534 _ _) ?_;refine aG ?_;refine fP (fun hc5=>?_) fun hc5=>?_
  .refine ba ?_;refine c8 ?_;rw[hr,Ct ae hc5]
  refine bU ?_;exact⟨i+1,⟨⟨ae,ae⟩,by rw[hr,F8 ae hc5]⟩,ae,(dy [(0,0),(1,1)])⟩
 refine aI ?_;intro u1;refine ay ?_;intro u2;refine ar (hc:=h532 _ _) ?_;refine aA ?_;refine c8 ?_;rw[hr,Cs ae]
def xY (T:List D->D->Prop):Prop:=∀(a:cy) (b:cy),(a.sm/\b.sm)->T [cy.D a,cy.D b] (.int .i64 (pP a b))
def TD (Y:Ctx):Prop:=xY (bD Y 295)
def Dt:aE:=⟨1,6,[⟨1,none⟩,⟨2,none⟩],fA,(sq (rg [gb 9 s0,gm cse,gm bx] [(3,0),(1,1),(2,2)]) (sq (sq (r1 [gk 9 true s3,gx 70 [l0] [[.a,.a,.a,.a,.a,.a,.sl 3 [.sl 4 [.a,.a,.sl 1 [.a],.a],.a,.a],.sl 3 [.a,.a,.a],.sl 2 [.a,.sl 1 [.a]]]],gm l1,ge l2 0,ge l2 1,gm l3,gm l4] 4 5) (sq (r1 [gm s4,bO l0 bx] 5 1) (.cond s5 (sq (rg [gm s4,gm cse,gm l0] [(1,1),(2,2)]) .ret) .skip))) (sq (rg [gk 9 true s3,gx 215 [l0] [[.a,.a,.a,.a,.a,.a,.sl 3 [.sl 4 [.a,.a,.sl 1 [.a],.a],.a,.a],.sl 3 [.a,.a,.a],.sl 2 [.a,.sl 1 [.a]]]],gm l1,gm bx] [(1,2),(2,3)]) .ret)))⟩
def w72 {Y:Ctx}(hm:(Y.at 0).cj)(h70:C70 Y)(h215:Tw Y)(r:Rec)  (hp0:gW r):dn Y Dt (.tup [.str (fu r).1,.int .i64 (fu r).2]) [Rec.D r]:=by
 show bP _ _ _ [⟨_,_⟩,_,_,_,_,_] _;refine aq ?_;refine ba ?_;refine ar (hc:=h70 r hp0) ?_;refine fK ?_;refine cM (fun hc0=>?_) fun hc0=>?_
 .refine ba ?_;refine bI (aK (aj D.str ?_) (aj (D.int .i64) ?_));all_goals
   simp[fu,hc0]
 refine ay ?_;have hgd:=qH hc0;refine aH ?_;refine ar (hc:=h215 r ⟨hgd,hp0⟩) ?_;refine aD ?_;refine bI (aK (aj D.str ?_) (aj (D.int .i64) ?_));all_goals
  simp[fu,hc0]
def DY (T:List D->D->Prop):Prop:=∀(r:Rec),(gW r)->T [Rec.D r] (.tup [.str (fu r).1,.int .i64 (fu r).2])
def C72 (Y:Ctx):Prop:=DY (bD Y 72)
def HH:aE:=⟨1,7,[⟨1,none⟩,⟨2,none⟩],fA,(sq (rg [gb 9 s0,gm (iu 0),gm bx] [(3,0),(1,1),(2,2)]) (sq (rg [gk 9 true s3,gx 72 [l0] [[.a,.a,.a,.a,.a,.a,.sl 3 [.sl 4 [.a,.a,.sl 1 [.a],.a],.a,.a],.sl 3 [.a,.a,.a],.sl 2 [.a,.sl 1 [.a]]]],gm l1,ge l2 0,ge l2 1,gm l3,gm l4] [(6,5),(4,6)]) (sq (sq (r1 [gm s4,bO l0 bx] 5 1) (.cond s5 (sq (rg [gm s4,gm (iu 0),gm l0] [(1,1),(2,2)]) .ret) .skip)) (sq (rg [gm s6,gn (.s2b l0),gx 220 [l1] [[.sl 1 [.a]]],gm l2,gm bx] [(1,3),(2,4)]) .ret))))⟩
def w74 {Y:Ctx}(hm:(Y.at 0).cj)(h72:C72 Y)(h220:Wf Y)(r:Rec)  (hp0:gW r):dn Y HH (.tup [.int .u64 (Au r),.int .i64 (fu r).2]) [Rec.D r]:=by
 show bP _ _ _ [⟨_,_⟩,_,_,_,_,_,_] _;refine aq ?_;refine aG ?_;refine ar (hc:=h72 r hp0) ?_;refine fK ?_;refine cM (fun hc0=>?_) fun hc0=>?_
 .refine ba ?_;refine bI (aK (aj (D.int .u64) ?_) (aj (D.int .i64) ?_));all_goals
   simp[Au,hc0]
 refine aD ?_;refine ar (hc:=h220 (fu r).1) (ha:=fun _=>aj (fun d=>[d]) (oM (q:=fun b:UInt8=>D.int .u8 b.toNat) (fun _=>rfl) ah)) (hp:=fun _=>⟨mJ (q:=fun b:UInt8=>D.int .u8 b.toNat) (fun _=>rfl) ah,trivial⟩) ?_;refine aD ?_;refine bI (aK (aj (D.int .u64) ?_) (aj (D.int .i64) ?_));all_goals
  simp[Au,hc0]
def DZ (T:List D->D->Prop):Prop:=∀(r:Rec),(gW r)->T [Rec.D r] (.tup [.int .u64 (Au r),.int .i64 (fu r).2])
def C74 (Y:Ctx):Prop:=DZ (bD Y 74)
def MN:aE:=⟨2,5,[⟨2,none⟩],b8,(sq (rg [gb 5 s0,gb 5 s1,gm cZ] [(3,0),(4,1),(2,2)]) (sq (r1 [gk 5 true s3,gx 209 [l0] xA,gm l1,cr 2 (.ld 5 true s4),cr 2 (.call 209 [l3] xA),eX l2 l4,gm l5,cr 6 (.ld 5 true s3),cr 6 (.ld 5 true s4),cr 6 (.call 295 [l7,l8] [[.a,.a,.a,.a,.a],[.a,.a,.a,.a,.a]]),cr 6 (cV l9 bx),eX l6 l10,gm fZ] 2 12) .ret))⟩
def w701 {Y:Ctx}(hm:(Y.at 0).cj)(h209:GP Y)(h295:TD Y)(a:cy)(b:cy)  (hp0:a.sm/\b.sm):dn Y MN (.bool (Me a b)) [cy.D a,cy.D b]:=by
 show bP _ _ _ [⟨_,_⟩,⟨_,_⟩,_,_,_] _;refine aq ?_;refine aG ?_;refine ar (hc:=h209 a hp0.1) ?_;refine ay ?_;refine dm (hc:=fun hf=>h209 b hp0.2) ?_;refine aD ?_;refine dm (hc:=fun hf=>h295 a b hp0) ?_;refine aI ?_;exact bX rfl
def yv (T:List D->D->Prop):Prop:=∀(a:cy) (b:cy),(a.sm/\b.sm)->T [cy.D a,cy.D b] (.bool (Me a b))
def Xs (Y:Ctx):Prop:=yv (bD Y 701)
def Be:aE:=⟨3,5,[⟨3,none⟩],b8,(sq (rg [gb 11 s0,gm cZ] [(4,0),(3,1)]) (sq (r1 [gf 0 s4,gf 0 l0,gd l1,gd s1,aL l2 l3,gm l4,kn 5 0 s4,kn 5 1 l6,cr 5 (.ld 5 true l7),cr 5 (.ld 5 true s2),cr 5 (.call 701 [l8,l9] [[.a,.a,.a,.a,.a],[.a,.a,.a,.a,.a]]),eX l5 l10,gm fZ] 3 12) .ret))⟩
def w700 {Y:Ctx}(hm:(Y.at 0).cj)(h701:Xs Y)(x:dk)(nm:au)(v:cy)  (hp0:x.r.v.sm/\v.sm):dn Y Be (.bool (VX nm v x)) [dk.D x,.ref 1 [.str nm] 0 0,.ref 5 [cy.D v] 0 0]:=by
 show bP _ _ _ [⟨_,_⟩,⟨_,_⟩,⟨_,_⟩,_,_] _;refine aq ?_;refine aG ?_;refine bd (v:=.str x.r.name) ?_;refine e8 (v:=.str nm) ?_;refine aD ?_;refine bd (v:=cy.D x.r.v) ?_;refine e8 (v:=cy.D v) ?_;refine dm (hc:=fun hf=>h701 x.r.v v hp0) ?_;refine aD ?_;exact bX rfl
def KT (T:List D->D->Prop):Prop:=∀(x:dk) (nm:au) (v:cy),(x.r.v.sm/\v.sm)->T [dk.D x,.ref 1 [.str nm] 0 0,.ref 5 [cy.D v] 0 0] (.bool (VX nm v x))
def Xr (Y:Ctx):Prop:=KT (bD Y 700)
def qc:aE:=⟨2,8,[⟨2,none⟩],b8,(sq (r1 [gm bx] 2 0) (sq (sq (rg [gm s0,gl l0,gm bx] [(4,1),(3,2)]) (.block 0 (.loop (sq (r1 [aX s3 s4] 5 0) (sq (fC s5 0) (sq (.block 1 (sq (r1 [gm s3,gm l0] 6 1) (sq (r1 [gm s1,gm s0,gm s6,ga 11 l1 l2,gk 11 true l3,gn (.callv l0 [l4] [[.a,.a,.a,.a,.a,.a,.sl 3 [.sl 4 [.a,.a,.sl 1 [.a],.a],.a,.a],.sl 3 [.a,.a,.a],.sl 2 [.a,.sl 1 [.a]],.a,.a]])] 7 5) (.cond s7 (sq (r1 [gm s6,gm l0] 2 1) .ret) .skip)))) (r1 [az s3 cl,gm l0] 3 1))))))) (sq (r1 [gn (.mv (.c (.int .i64 (-1))))] 2 0) .ret)))⟩
def w699 (h700:Xr Y)(l:List dk)(nm:au)(v:cy)  (hp0:(∀x∈l,x.r.v.sm)/\v.sm):dn Y qc (.int .i64 (Jv l nm v 0)) [.sl 11 (l.map dk.D),.fn 700 [.ref 1 [.str nm] 0 0,.ref 5 [cy.D v] 0 0]]:=by
 show bP _ _ _ [⟨_,_⟩,⟨_,_⟩,_,_,_,_,_,_] _;refine aq ?_;refine aG ?_;intro u0;refine ay ?_;refine bh hm (ι:=Nat) (fun i=>[⟨true,.sl 11 (l.map dk.D)⟩,⟨true,.fn 700 [.ref 1 [.str nm] 0 0,.ref 5 [cy.D v] 0 0]⟩,.un,⟨true,.int .i64 (i:Nat)⟩,⟨true,.int .i64 (l.length:Nat)⟩,.un,.un,.un]) (fun i=>[]) 4 (fun i=>i<=l.length/\Jv l nm v 0=Jv l nm v i) (fun i=>l.length-i) 0 ⟨ae,rfl⟩ (dy []) ?_;rintro i ⟨hi,hr⟩;refine aA ?_;refine cM (fun hc0=>?_) fun hc0=>?_
 .refine fK ?_;first|refine bH (v:=(dk.D _)) ?_|refine e8 (v:=(dk.D _)) ?_
  refine R8 (hc:=fun _=>h700 l[i]! nm v ⟨hp0.1 _ (bR ae),hp0.2⟩) ?_;refine aH ?_;refine fP (fun hc1=>?_) fun hc1=>?_
  .refine ba ?_;refine c8 ?_;rw[hr,Vi ae hc1]
  refine ba ?_;exact⟨i+1,⟨ae,by rw[hr,Vj ae hc1]⟩,ae,(dy [])⟩
 refine aG ?_;refine c8 ?_;rw[hr,R5 ae]
def KS (T:List D->D->Prop):Prop:=∀(l:List dk) (nm:au) (v:cy),((∀x∈l,x.r.v.sm)/\v.sm)->T [.sl 11 (l.map dk.D),.fn 700 [.ref 1 [.str nm] 0 0,.ref 5 [cy.D v] 0 0]] (.int .i64 (Jv l nm v 0))
def Xq (Y:Ctx):Prop:=KS (bD Y 699)
def F1:aE:=⟨3,6,[⟨3,none⟩],b8,(sq (rg [gb 1 s1,gb 5 s2,gm bx] [(4,0),(5,1),(3,2)]) (sq (r1 [gm s0,gn (.mkf 700 [s4,s5]),gx 699 [l0,l1] [[.sl 11 [.a,.a,.a,.a,.a,.a,.sl 3 [.sl 4 [.a,.a,.sl 1 [.a],.a],.a,.a],.sl 3 [.a,.a,.a],.sl 2 [.a,.sl 1 [.a]],.a,.a]],[.a]],gm l2] 3 3) .ret))⟩
def w511 {Y:Ctx}(hm:(Y.at 0).cj)(h699:Xq Y)(l:List dk)(nm:au)(v:cy)  (hp0:(∀x∈l,x.r.v.sm)/\v.sm):dn Y F1 (.int .i64 (Jv l nm v 0)) [.sl 11 (l.map dk.D),.str nm,cy.D v]:=by
 show bP _ _ _ [⟨_,_⟩,⟨_,_⟩,⟨_,_⟩,_,_,_] _;refine aq ?_;refine aD ?_;refine fE 0 ?_;refine fE 1 ?_;refine ay ?_;refine Tg [.ref 1 [.str nm] 0 0,.ref 5 [cy.D v] 0 0] ?_;refine ar (hc:=h699 l nm v hp0) ?_;refine aA ?_;exact c8 rfl
def KD (T:List D->D->Prop):Prop:=∀(l:List dk) (nm:au) (v:cy),((∀x∈l,x.r.v.sm)/\v.sm)->T [.sl 11 (l.map dk.D),.str nm,cy.D v] (.int .i64 (Jv l nm v 0))
def W6 (Y:Ctx):Prop:=KD (bD Y 511)
def MM:aE:=⟨1,13,ib,b8,(sq (rg [gb 2 s0,gm cZ] [(2,0),(1,1)]) (sq (sq (r1 [gf 0 s2,gd l0,gx 208 [l1] b8,iY l2,gm l3,ig 4 1 s2,hZ 4 l5,cn 4 (.len l6),cn 4 (eG l7 (i6 64)),eW l4 l8] 3 9) (m8 s3 cZ)) (sq (sq (rg [gf 1 s2,gd l0,gl l1,gm bx] [(7,1),(5,2),(4,3)]) (.block 0 (.loop (sq (r1 [aX s4 s5] 6 0) (sq (fC s6 0) (sq (.block 1 (sq (rg [gm s4,ga 11 s7 s4,gk 11 true l1,gb 11 (.c (.agg [.str [],.int .i64 0,.int .i64 0,.int .i64 0,.str [],.str [],.aF,.aF,.aF,.int .u64 0,.bool false])),gm l0,gt 11 l3 l2] [(8,3),(11,4)]) (sq (rg [gf 0 s8,gk 9 true l0,gx 74 [l1] [[.a,.a,.a,.a,.a,.a,.sl 3 [.sl 4 [.a,.a,.sl 1 [.a],.a],.a,.a],.sl 3 [.a,.a,.a],.sl 2 [.a,.sl 1 [.a]]]],gm l2,ge l3 0,ge l3 1,gm l4,gm l5] [(10,6),(9,7)]) (sq (r2 [gm s9,bO l0 bx,gm l1,ek 2 ik,ig 2 9 s8,hZ 2 l4,cn 2 (dS l3 l5),eW l2 l6,gm l7,ig 8 1 s2,hZ 8 l9,ek 8 jR,ek 8 jR,cn 8 (.slX 11 l10 fZ iv),ig 8 0 s8,ig 8 0 jT,hZ 8 lg,ig 8 0 s8,ig 8 1 oU,cn 8 (.ld 5 true pL),cn 8 (.call 511 [jr,nw,qx] [[.sl 11 [.a,.a,.a,.a,.a,.a,.sl 3 [.sl 4 [.a,.a,.sl 1 [.a],.a],.a,.a],.sl 3 [.a,.a,.a],.sl 2 [.a,.sl 1 [.a]],.a,.a]],[.a],[.a,.a,.a,.a,.a]]),cn 8 (tN uN bx),eW l8 xc] 12 22) (m8 kr cZ))))) (r1 [az s4 cl,gm l0] 4 1))))))) (xz m5))))⟩
def w353 (h74:C74 Y)(h208:La Y)(h511:W6 Y)(s:js)  (hp0:∀x∈s.es,gW x.r):dn Y MM (.bool (Bf s)) [js.D s]:=by
 show bP _ _ _ [⟨_,_⟩,_,_,_,_,_,_,_,_,_,_,_,_] _;refine aq ?_;refine aG ?_;refine bd (v:=.str s.name) ?_;refine ar (hc:=h208 _) ?_;refine aA ?_;refine bd (v:=.sl 11 (s.es.map dk.D)) ?_;refine iJ ?_;refine aA ?_;refine av (fun hc0=>?_) (fun hc0=>?_)
 .simp only[cS,bg,aT]at hc0;have hf:Bf s=false:=by
   unfold Bf;rcases hc0 with h|h
   .rw[h];rfl
   .rw[show decide (s.es.length<=64)=false from cJ ae];simp
  refine aI ?_;refine bX ?_;exact hf.symm
 simp only[dh,bN,bm]at hc0;have hq:Bf s=cQ (G8 s.es) 0 s.es.length:=by unfold Bf;rw[hc0.1,b9 (show s.es.length<=64 by omega)];simp
 refine aD ?_;refine bd (v:=.sl 11 (s.es.map dk.D)) ?_;refine aH ?_;intro u0;refine ay ?_;refine bh hm (ι:=Nat) (fun i=>[.un,.un,⟨true,.ptr 0 2 0 0⟩,.un,⟨true,.int .i64 (i:Nat)⟩,⟨true,.int .i64 (s.es.length:Nat)⟩,.un,⟨true,.sl 11 (s.es.map dk.D)⟩,.un,.un,.un,.un,.un]) (fun i=>[(0,.buf 2 [js.D s])]) 16 (fun i=>i<=s.es.length/\Bf s=cQ (G8 s.es) i s.es.length) (fun i=>s.es.length-i) 0 ⟨ae,hq⟩ (dy [(0,0)]) ?_;rintro i ⟨hi,hr⟩;refine aA ?_;refine cM (fun hc1=>?_) fun hc1=>?_
 .refine aA ?_;have hsm:=hp0 _ (bR (show i<s.es.length by omega));refine aH ?_;refine bL i ?_;refine bH (v:=dk.D s.es[i]!) ?_;refine ay ?_;refine aY (dk.D s.es[i]!) (he:=aZ) ?_;refine aA ?_;refine bd (v:=Rec.D s.es[i]!.r) ?_;refine ar (hc:=h74 s.es[i]!.r hsm) ?_;refine hY ?_;refine bd (v:=.int .u64 s.es[i]!.sum) ?_;refine aD ?_;refine bd (v:=.sl 11 (s.es.map dk.D)) ?_;refine ay ?_;refine VB (q:=dk.D) i (hj:=fun _=>rfl) (hb:=fun _=>ae) ?_;refine ay ?_;refine bd (v:=.str s.es[i]!.r.name) ?_;refine ay ?_;refine bd (v:=cy.D s.es[i]!.r.v) ?_;refine dm (hc:=fun hf=>h511 (s.es.take i) s.es[i]!.r.name s.es[i]!.r.v ⟨fun x hx=>(hp0 x (lf hx)).1.2,hsm.1.2⟩) ?_;refine aA ?_;refine wp_cond (fun hc2=>?_) (fun hc2=>?_)
  .have hen:G8 s.es i=false:=by
    unfold G8;simp only[cS,bg,aT,bm]at hc2;simp only[dR,bm];rcases hc2 with(h|h)|h
    .exact .inl (.inl h)
    .exact .inl (.inr h)
    .exact .inr ae
   refine aG ?_;refine bX ?_;rw[hr,aS ae,hen];rfl
  have hen:G8 s.es i=true:=by
   unfold G8;simp only[dh,bN,aT,bm]at hc2;simp only[bG,aT];exact⟨hc2.1,ae⟩
  refine ba ?_;exact⟨i+1,⟨ae,by rw[hr,aS ae,hen];rfl⟩,ae,(dy [(0,0)])⟩
 refine aG ?_;refine bX ?_;rw[hr,cq ae]
def Kj (T:List D->D->Prop):Prop:=∀(s:js),(∀x∈s.es,gW x.r)->T [js.D s] (.bool (Bf s))
def WA (Y:Ctx):Prop:=Kj (bD Y 353)
def tE:aE:=⟨2,3,[⟨2,none⟩],[[.sl 1 [.a]]],(sq (r1 [gm (.c (.aF))] 2 0) (sq (r1 [gm s0,gm s1,gm s1,ov l2,gn (.call 331 [l0,l1,l3,(.c (.int .i64 (-1)))] hb4),gm l4] 2 5) .ret))⟩
def w239 {Y:Ctx}(hm:(Y.at 0).cj)(h331:Wy Y)(s:au)  (hp0:s.length<=1048576):dn Y tE (.sl 1 ((jB s).map D.str)) [.str s,.str [10]]:=by
 show bP _ _ _ [⟨_,_⟩,⟨_,_⟩,_] _;refine aq ?_;refine ba ?_;intro u0;refine ar (hc:=h331 s hp0) ?_;refine aA ?_;refine bI (?_);rfl
def J0 (T:List D->D->Prop):Prop:=∀(s:au),(s.length<=1048576)->T [.str s,.str [10]] (.sl 1 ((jB s).map D.str))
def Wj (Y:Ctx):Prop:=J0 (bD Y 239)
def EV:aE:=⟨1,4,ib,[[.sl 1 [.a]]],(sq (r1 [gm (.c (.aF))] 1 0) (sq (r1 [gm s0,gx 239 [l0,(cs [10])] fA,gm l1] 2 2) (sq (sq (r1 [gm s2,gm s2,gl l1,dV l2 cl,ga 1 l0 l3,gd l4,aL l5 cse] 3 6) (.cond s3 (r1 [gm s2,gm s2,gl l1,dV l2 cl,gn (.slA 1 l0 none (some l3)),gm l4] 2 5) .skip)) (sq (r1 [gm s2,gm l0] 1 1) .ret))))⟩
def w252 {Y:Ctx}(hm:(Y.at 0).cj)(h239:Wj Y)(s:au)  (hp0:s.length<=1048576):dn Y EV (.sl 1 ((cE s).map D.str)) [.str s]:=by
 show bP _ _ _ [⟨_,_⟩,_,_,_] _;have hpl:=Pg s;have hpz:cE s=if(jB s)[(jB s).length-1]! =[]then(jB s).take ((jB s).length-1)else jB s:=Ph s
 refine aq ?_;refine aD ?_;refine ar (hc:=h239 s hp0) ?_;refine ba ?_;intro u0;refine aH ?_;refine bL ((jB s).length-1) ?_;refine bH (v:=.str (jB s)[(jB s).length-1]!) ?_;refine ay ?_;refine cM (fun hc0=>?_) fun hc0=>?_
 .refine aD ?_;intro u1;refine aH ?_;refine pC ((jB s).length-1) ?_;refine ba ?_;refine bI (?_);rw[hpz,aw hc0];rfl
 refine aG ?_;refine bI (?_);rw[hpz,ak hc0];rfl
def J7 (T:List D->D->Prop):Prop:=∀(s:au),(s.length<=1048576)->T [.str s] (.sl 1 ((cE s).map D.str))
def Wo (Y:Ctx):Prop:=J7 (bD Y 252)
def EW:aE:=⟨1,3,[⟨1,none⟩,⟨2,none⟩],fA,(sq (rg [gm cse,gm cZ] [(1,0),(2,1)]) (sq (rg [gm s0,gx 244 [l0,(cs [10])] fA,ge l1 0,ge l1 1,gm l2,gm l3] [(1,4),(2,5)]) .ret))⟩
def w253 {Y:Ctx}(hm:(Y.at 0).cj)(h244:Wk Y)(s:au)  (hp0:s.length<=1048576):dn Y EW (.tup [.str (bS s).1,.bool (bS s).2]) [.str s]:=by
 show bP _ _ _ [⟨_,_⟩,_,_] _;refine aq ?_;refine aI ?_;refine ar (hc:=h244 s hp0) ?_;refine aG ?_;refine bI (aK (aj D.str ?_) (aj D.bool ?_));all_goals rfl
def J8 (T:List D->D->Prop):Prop:=∀(s:au),(s.length<=1048576)->T [.str s] (.tup [.str (bS s).1,.bool (bS s).2])
def QK (Y:Ctx):Prop:=J8 (bD Y 253)
def index_first:aE:=⟨1,3,ib,b8,(sq (r1 [gm cZ] 1 0) (sq (r1 [gm s0,gx 253 [l0] b8,gm l1,ge l2 0,ge l2 1,gm l3,gm l4] 2 5) (sq (r1 [gm s2,gx 487 [l0,(cs [32])] fA,gm l1,ge l2 0,ge l2 1,ge l2 2,gm l3] 2 6) (sq (r1 [gm s2,aL l0 (cs [101,110,116,114,121]),gm l1] 1 2) .ret))))⟩
def w256 {Y:Ctx}(hm:(Y.at 0).cj)(h253:QK Y)(h487:TQ Y)(s:au)  (hp0:s.length<=1048576):dn Y index_first (.bool (vk s)) [.str s]:=by
 show bP _ _ _ [⟨_,_⟩,_,_] _;refine aq ?_;refine aD ?_;refine ar (hc:=h253 s hp0) ?_;refine ba ?_;have hwl:=qh s;refine aH ?_;refine ar (hc:=h487 (bS s).1 32 ae) ?_;refine hY ?_;exact bX rfl
def Kb (T:List D->D->Prop):Prop:=∀(s:au),(s.length<=1048576)->T [.str s] (.bool (vk s))
def Wq (Y:Ctx):Prop:=Kb (bD Y 256)
def EU:aE:=⟨1,9,[⟨1,none⟩,⟨2,none⟩,⟨3,none⟩],QF,(sq (rg [gm (iu 0),gm cZ,gm cZ] [(1,0),(2,1),(3,2)]) (sq (rg [gm s0,gx 253 [l0] b8,gm l1,ge l2 0,ge l2 1,gm l3,gm l4] [(4,5),(5,6)]) (sq (r1 [gm s4,gx 124 [l0,(cs [32])] fA,gm l1] 6 2) (sq (sq (r1 [gm s5,iY l0,gm l1,ek 2 s6,cn 2 (.len l3),cn 2 (dS l4 kJ),eW l2 l5,gm l6,ek 7 s6,cn 7 (.ia 1 l8 bx),hZ 7 l9,cn 7 (dS l10 (cs [101,110,116,114,121])),eW l7 fZ,gm iv,ek 13 s6,cn 13 (.ia 1 jT jC),hZ 13 lg,cn 13 (dS nw (cs [111,110])),ek 13 oU,gmt 18 s6,cr 18 (.ia 1 qx jC),jM 18 uN,cr 18 (dS xc (cs [111,102,102])),zf 13 pL zm,eW jr C6] 7 24) (.cond s7 (sq (rg [gm (iu 0),gm cZ,gm cZ] [(1,0),(2,1),(3,2)]) .ret) .skip)) (sq (rg [gm s6,ga 1 l0 cl,gd l1,gx 499 [l2] b8,gm l3,ge l4 0,ge l4 1,gm l5,gm l6] [(8,7),(5,8)]) (sq (rt [gm s8,gm s6,ga 1 l1 jC,gd l2,aL l3 (cs [111,102,102]),gm s5,gm l0,gm l4,gm l5] [(1,6),(2,7),(3,8)]) .ret))))))⟩
def w255 {Y:Ctx}(hm:(Y.at 0).cj)(h124:K9 Y)(h253:QK Y)(h499:W3 Y)(s:au)  (hp0:s.length<=1048576):dn Y EU (.tup [.int .u64 (iA s).1,.bool (iA s).2.1,.bool (iA s).2.2]) [.str s]:=by
 show bP _ _ _ [⟨_,_⟩,_,_,_,_,_,_,_,_] _;refine aq ?_;refine aG ?_;refine ar (hc:=h253 s hp0) ?_;refine ba ?_;have hwl:=qh s;refine aH ?_;refine ar (v:=.sl 1 ((ai (bS s).1 32).map D.str)) (hc:=h124 (bS s).1 32 ae) ?_;refine bU ?_;refine iJ ?_;refine aD ?_;refine bL 0 (hb:=fun hf=>by simp at hf;omega) ?_;refine bH (v:=.str (ai (bS s).1 32)[0]!) (hi:=fun hf=>by simp at hf;omega) ?_;refine aD ?_;refine bL 2 (hb:=fun hf=>by simp at hf;omega) ?_;refine bH (v:=.str (ai (bS s).1 32)[2]!) (hi:=fun hf=>by simp at hf;omega) ?_;refine aA ?_;refine bL 2 (hb:=fun hf=>by simp at hf;omega) ?_;refine bH (v:=.str (ai (bS s).1 32)[2]!) (hi:=fun hf=>by simp at hf;omega) ?_;refine aD ?_;refine av (fun hc0=>?_) (fun hc0=>?_)
 .simp only[dq]at hc0;have hz:=UK hc0;refine ba ?_;refine bI (dc (aj (D.int .u64) ?_) (aj D.bool ?_) (aj D.bool ?_));all_goals
   rw[iA,ak hz];first|done|rfl
 simp only[dq]at hc0;obtain⟨hz,hl3⟩:=Rk hc0;refine aA ?_;refine bL 1 (hb:=fun _=>ae) ?_;refine bH (v:=.str (ai (bS s).1 32)[1]!) (hi:=fun _=>ae) ?_;refine ar (hc:=h499 (ai (bS s).1 32)[1]!) ?_;refine di ?_;refine bL 2 (hb:=fun _=>ae) ?_;refine bH (v:=.str (ai (bS s).1 32)[2]!) (hi:=fun _=>ae) ?_;refine ba ?_;refine bI (dc (aj (D.int .u64) ?_) (aj D.bool ?_) (aj D.bool ?_));all_goals
  rw[iA,aw hz];first|done|rfl
def Ka (T:List D->D->Prop):Prop:=∀(s:au),(s.length<=1048576)->T [.str s] (.tup [.int .u64 (iA s).1,.bool (iA s).2.1,.bool (iA s).2.2])
def Wp (Y:Ctx):Prop:=Ka (bD Y 255)
def Hm:aE:=⟨3,15,[⟨3,none⟩],b8,(sq (rg [gb 2 s0,gb 9 s1,gm bx] [(7,0),(4,1),(3,2)]) (sq (sq (r1 [gk 9 true s4,gx 74 [l0] [[.a,.a,.a,.a,.a,.a,.sl 3 [.sl 4 [.a,.a,.sl 1 [.a],.a],.a,.a],.sl 3 [.a,.a,.a],.sl 2 [.a,.sl 1 [.a]]]],gm l1,ge l2 0,ge l2 1,gm l3,gm l4] 5 5) (sq (r1 [gm s5,gm s2,bO l0 l1] 6 2) (.cond s6 (sq (r1 [gm (i6 13)] 3 0) .ret) .skip))) (sq (sq (rg [gf 1 s7,gd l0,gl l1,gm bx] [(11,1),(9,2),(8,3)]) (.block 0 (.loop (sq (r1 [aX s8 s9] 10 0) (sq (fC ik 0) (sq (.block 1 (sq (r1 [ga 11 jR s8,gk 11 true l0,gb 11 (.c (.agg [.str [],.int .i64 0,.int .i64 0,.int .i64 0,.str [],.str [],.aF,.aF,.aF,.int .u64 0,.bool false])),gt 11 l2 l1] 12 2) (sq (r1 [gf 0 kr,gf 0 l0,gd l1,gf 0 s4,gd l3,aL l2 l4,gm l5,kn 6 0 kr,kn 6 1 l7,cr 6 (.ld 5 true l8),kn 6 1 s4,cr 6 (.ld 5 true l10),cr 6 (.call 295 [l9,fZ] [[.a,.a,.a,.a,.a],[.a,.a,.a,.a,.a]]),cr 6 (cV iv bx),eX l6 jr] 13 14) (.cond qb (sq (r1 [gm EP] 3 0) .ret) .skip)))) (r1 [az s8 cl,gm l0] 8 1))))))) (sq (sq (r1 [gf 1 s7,gd l0,gl l1,fR l2 (i6 64)] 14 3) (.cond tw (sq (r1 [gm (i6 10)] 3 0) .ret) .skip)) (sq (r1 [gm bx] 3 0) .ret)))))⟩
def w257 (h74:C74 Y)(h295:TD Y)(s:js)(r:Rec)(n:Int)  (hp0:gW r/\∀x∈s.es,x.r.v.sm):dn Y Hm (.int .i64 (kl s.es r n)) [js.D s,Rec.D r,.int .u64 n]:=by
 show bP _ _ _ [⟨_,_⟩,⟨_,_⟩,⟨_,_⟩,_,_,_,_,_,_,_,_,_,_,_,_] _;refine aq ?_;refine aG ?_;refine de (d:=Rec.D r) ?_;refine ar (hc:=h74 r hp0.1) ?_;refine hY ?_;refine av (fun hc0=>?_) (fun hc0=>?_)
 .simp only[bg,bm]at hc0;refine aI ?_;refine c8 ?_;unfold kl;rw[aw hc0]
 simp only[bN,aT]at hc0;refine aD ?_;refine bd (v:=.sl 11 (s.es.map dk.D)) ?_;refine aH ?_;intro u0;refine ay ?_;refine bh hm (ι:=Nat) (fun i=>[.un,.un,.un,.un,⟨true,.ptr 1 9 0 0⟩,.un,.un,⟨true,.ptr 0 2 0 0⟩,⟨true,.int .i64 (i:Nat)⟩,⟨true,.int .i64 (s.es.length:Nat)⟩,.un,⟨true,.sl 11 (s.es.map dk.D)⟩,.un,.un,.un]) (fun i=>[(0,.buf 2 [js.D s]),(1,.buf 9 [Rec.D r])]) 17 (fun i=>i<=s.es.length/\tF s.es r=(s.es.drop i).any (QI r)) (fun i=>s.es.length-i) 0 ⟨ae,rfl⟩ (dy [(0,0),(1,1)]) ?_;rintro i ⟨hi,hr⟩;refine aA ?_;refine cM (fun hc1=>?_) fun hc1=>?_
 .refine aA ?_;refine bL i ?_;refine bH (v:=dk.D s.es[i]!) ?_;refine aH ?_;refine aY (dk.D s.es[i]!) (he:=aZ) ?_;refine aD ?_;refine bd (v:=.str s.es[i]!.r.name) ?_;refine aH ?_;refine bd (v:=.str r.name) ?_;refine aD ?_;refine bd (v:=cy.D s.es[i]!.r.v) ?_;refine aH ?_;refine bd (v:=cy.D r.v) ?_;refine dm (hc:=fun hf=>h295 s.es[i]!.r.v r.v ⟨hp0.2 _ (bR ae),hp0.1.1.2⟩) ?_;refine aA ?_;refine wp_cond (fun hc2=>?_) (fun hc2=>?_)
  .have htw:QI r s.es[i]! =true:=by unfold QI;simpa using hc2
   refine aG ?_;refine c8 ?_;have htz:tF s.es r=true:=by rw[hr,tL ae htw]
   unfold kl;rw[ak (fun h=>h hc0),aw htz]
  have htw:QI r s.es[i]! =false:=by unfold QI;simpa using hc2
  refine ba ?_;exact⟨i+1,⟨ae,by rw[hr,yH ae htw]⟩,ae,(dy [(0,0),(1,1)])⟩
 refine aD ?_;have htz:tF s.es r=false:=by rw[hr,tK ae]
 refine aH ?_;refine bd (v:=.sl 11 (s.es.map dk.D)) ?_;refine aH ?_;intro u1;refine ay ?_;refine cM (fun hc3=>?_) fun hc3=>?_
 .refine aI ?_;refine c8 ?_;unfold kl;rw[ak (fun h=>h hc0),ak (by simp[htz]),aw ae]
 refine aI ?_;refine c8 ?_;unfold kl;rw[ak (fun h=>h hc0),ak (by simp[htz]),ak ae]
def Kc (T:List D->D->Prop):Prop:=∀(s:js) (r:Rec) (n:Int),(gW r/\∀x∈s.es,x.r.v.sm)->T [js.D s,Rec.D r,.int .u64 n] (.int .i64 (kl s.es r n))
def Wr (Y:Ctx):Prop:=Kc (bD Y 257)
def ET:aE:=⟨1,14,[⟨1,none⟩,⟨2,none⟩],fA,(sq (rg [gb 2 s0,gm cse,gm bx] [(3,0),(1,1),(2,2)]) (sq (sq (r1 [gk 2 true s3,gx 353 [l0] [[.a,.sl 11 [.a,.a,.a,.a,.a,.a,.sl 3 [.sl 4 [.a,.a,.a,.a],.a,.a],.sl 3 [.a,.a,.a],.sl 2 [.a,.sl 1 [.a]],.a,.a]]],iY l1] 4 2) (.cond s4 (sq (rg [gm cse,gm cl] [(1,0),(2,1)]) .ret) .skip)) (sq (r1 [⟨.mkB,none⟩] 5 0) (sq (rg [gf 0 s3,gd l0,az (cs [115,104,101,108,102,32]) l1,az l2 (cs [10]),gn (.callM 489 [s5,l3])] []) (sq (sq (rg [gf 1 s3,gd l0,gl l1,gm bx] [(9,1),(7,2),(6,3)]) (.block 0 (.loop (sq (r1 [aX s6 s7] 8 0) (sq (fC s8 0) (sq (.block 1 (sq (r1 [ga 11 s9 s6,gk 11 true l0,gb 11 (.c (.agg [.str [],.int .i64 0,.int .i64 0,.int .i64 0,.str [],.str [],.aF,.aF,.aF,.int .u64 0,.bool false])),gt 11 l2 l1] 10 2) (sq (r1 [gm (cs [32,111,110,10])] 12 0) (sq (sq (r1 [gf 10 ik,gd l0] 11 1) (.cond jR (r1 [gm (cs [32,111,102,102,10])] 12 0) .skip)) (sq (r1 [gf 0 ik,gk 9 true l0,gx 72 [l1] [[.a,.a,.a,.a,.a,.a,.sl 3 [.sl 4 [.a,.a,.sl 1 [.a],.a],.a,.a],.sl 3 [.a,.a,.a],.sl 2 [.a,.sl 1 [.a]]]],gm l2,ge l3 0,ge l3 1,gm l4,gm l5] 13 6) (rg [gf 9 ik,gd l0,gx 497 [l1] b8,az (cs [101,110,116,114,121,32]) l2,gm kr,az l3 l4,gm qb,az l5 l6,gn (.callM 489 [s5,l7])] [])))))) (r1 [az s6 cl,gm l0] 6 1))))))) (sq (rg [gn (.callM 452 [s5]),gm l0,gm bx] [(1,1),(2,2)]) .ret))))))⟩
def w251 (h72:C72 Y)(h353:WA Y)(h452:QL Y)(h489:QQ Y)(h497:W2 Y)(s:js)  (hp0:∀x∈s.es,gW x.r):dn Y ET (.tup [.str (p9 s).1,.int .i64 (p9 s).2]) [js.D s]:=by
 show bP _ _ _ [⟨_,_⟩,_,_,_,_,_,_,_,_,_,_,_,_,_] _;refine aq ?_;refine aG ?_;refine de (d:=js.D s) ?_;refine ar (hc:=h353 s hp0) ?_;refine ay ?_;refine av (fun hc0=>?_) (fun hc0=>?_)
 .simp only[bg]at hc0;refine aG ?_;refine bI (aK (aj D.str ?_) (aj (D.int .i64) ?_));all_goals
   have hps:p9 s=([],1):=by unfold p9;rw[aw hc0]
   rw[hps];first|done|rfl
 simp only[bN]at hc0;obtain⟨q1,q2⟩:=Sl hc0;refine aG ?_;refine bd (v:=.str s.name) ?_;refine dQ (hb:=fun _=>by simp only[ax,aB];omega) ?_;refine fW ?_;refine cz (nx':=8) (v:=.any) (m':=[(11,.row (uP s 0)),(0,.buf 2 [js.D s]),(6,.bld (some 11) (uP s 0).length true)]) (hc:=fun K' hK=>h489 _ _ K' ⟨([115,104,101,108,102,32]++s.name)++[10],6,[],rfl,.inl ⟨false,aZ,rfl⟩,by simp only[ax,aB];omega,aR,by simp only[cb,ax,aB];omega,by rw[show []++(([115,104,101,108,102,32]++s.name)++[10])=uP s 0 from by rw[Tl];rfl];exact hK⟩) (hn:=aM) ?_;refine aD ?_;refine bd (v:=.sl 11 (s.es.map dk.D)) ?_;refine aH ?_;intro u0;refine ay ?_;refine bh hm (ι:=Nat) (fun i=>[.un,.un,.un,⟨true,.ptr 0 2 0 0⟩,.un,⟨true,.ptr 6 2 0 0⟩,⟨true,.int .i64 (i:Nat)⟩,⟨true,.int .i64 (s.es.length:Nat)⟩,.un,⟨true,.sl 11 (s.es.map dk.D)⟩,.un,.un,.un,.un]) (fun i=>[(0,.buf 2 [js.D s]),(6,.bld (some 7) (uP s i).length true),(7,.row (uP s i))]) 20 (fun i=>i<=s.es.length) (fun i=>s.es.length-i) 0 ae (br.to [(0,0),(6,6),(11,7)] ah ah et (by refine bJ.lE ah ah ah ?_;refine bJ.bl 6 ah ah ah (aj List.length (rfl)) rfl ?_;refine bJ.rw 11 ah ah (rfl) ?_;exact bJ.nil)) ?_;intro i hi;have q3:=JN (s:=s) ae hi;refine aA ?_;refine cM (fun hc1=>?_) fun hc1=>?_
 .refine aA ?_;have hsm:=hp0 _ (bR (show i<s.es.length by omega));have q4:=zR s.es[i]!.r;have q5:=v8 s.es[i]!.sum;have hxt:=Ge (show i<s.es.length by omega);have hee:=IQ s.es[i]!;refine bL i ?_;refine bH (v:=dk.D s.es[i]!) ?_;refine aH ?_;refine aY (dk.D s.es[i]!) (he:=aZ) ?_;refine ba ?_;refine bd (v:=.bool s.es[i]!.off) ?_;refine aH ?_;refine cM (fun hc2=>?_) fun hc2=>?_
  .refine aI ?_;refine bd (v:=Rec.D s.es[i]!.r) ?_;refine ar (hc:=h72 s.es[i]!.r hsm) ?_;refine bU ?_;refine bd (v:=.int .u64 s.es[i]!.sum) ?_;refine ar (hc:=h497 _) ?_;refine fW ?_;refine aH ?_;refine fW ?_;refine aH ?_;refine fW ?_;refine cz (nx':=38) (v:=.any) (m':=[(45,.row (uP s (i+1))),(0,.buf 2 [js.D s]),(6,.bld (some 45) (uP s (i+1)).length true),(23,.buf 11 [dk.D s.es[i]!])]) (hc:=fun K' hK=>h489 _ _ K' ⟨(([101,110,116,114,121,32]++oH s.es[i]!.sum)++[32,111,102,102,10])++(fu s.es[i]!.r).1,6,uP s i,rfl,.inr ⟨7,true,aZ,aZ⟩,by simp only[ax,aB];omega,aR,by simp only[cb,ax,aB];omega,by rw[show uP s i++((([101,110,116,114,121,32]++oH s.es[i]!.sum)++[32,111,102,102,10])++(fu s.es[i]!.r).1)=uP s (i+1)from by rw[hxt,hee,hc2];rfl];exact hK⟩) (hn:=aM) ?_;refine ba ?_;exact⟨i+1,ae,ae,(br.to [(0,0),(6,6),(45,7)] ah ah et (by refine bJ.lE ah ah ah ?_;refine bJ.bl 6 ah ah ah (aj List.length (rfl)) rfl ?_;refine bJ.rw 45 ah ah (rfl) ?_;exact bJ.nil))⟩
  refine aA ?_;refine bd (v:=Rec.D s.es[i]!.r) ?_;refine ar (hc:=h72 s.es[i]!.r hsm) ?_;refine bU ?_;refine bd (v:=.int .u64 s.es[i]!.sum) ?_;refine ar (hc:=h497 _) ?_;refine fW ?_;refine aH ?_;refine fW ?_;refine aH ?_;refine fW ?_;refine cz (nx':=37) (v:=.any) (m':=[(44,.row (uP s (i+1))),(0,.buf 2 [js.D s]),(6,.bld (some 44) (uP s (i+1)).length true),(23,.buf 11 [dk.D s.es[i]!])]) (hc:=fun K' hK=>h489 _ _ K' ⟨(([101,110,116,114,121,32]++oH s.es[i]!.sum)++[32,111,110,10])++(fu s.es[i]!.r).1,6,uP s i,rfl,.inr ⟨7,true,aZ,aZ⟩,by simp only[ax,aB];omega,aR,by simp only[cb,ax,aB];omega,by rw[show uP s i++((([101,110,116,114,121,32]++oH s.es[i]!.sum)++[32,111,110,10])++(fu s.es[i]!.r).1)=uP s (i+1)from by rw[hxt,hee,hc2];rfl];exact hK⟩) (hn:=aM) ?_;refine ba ?_;exact⟨i+1,ae,ae,(br.to [(0,0),(6,6),(44,7)] ah ah et (by refine bJ.lE ah ah ah ?_;refine bJ.bl 6 ah ah ah (aj List.length (rfl)) rfl ?_;refine bJ.rw 44 ah ah (rfl) ?_;exact bJ.nil))⟩
 refine aA ?_;have h33:i=s.es.length:=ae;subst h33;have hne:uP s s.es.length≠[]:=by unfold uP cw;simp[aV,fU]
 have hps:p9 s=(uP s s.es.length,0):=by unfold p9;rw[ak (by simp[hc0]),Sr]
 refine cz (nx':=21) (v:=.str (uP s s.es.length)) (m':=[(0,.buf 2 [js.D s])]) (hc:=fun K' hK=>h452 _ _ K' ⟨6,uP s s.es.length,rfl,.inr ⟨7,true,aZ,aZ⟩,hne,hK⟩) (hn:=aM) ?_;refine aD ?_;refine bI (aK (aj D.str ?_) (aj (D.int .i64) ?_));all_goals
  rw[hps];first|done|rfl
def J6 (T:List D->D->Prop):Prop:=∀(s:js),(∀x∈s.es,gW x.r)->T [js.D s] (.tup [.str (p9 s).1,.int .i64 (p9 s).2])
def Wn (Y:Ctx):Prop:=J6 (bD Y 251)
def E1:aE:=⟨0,8,[⟨0,none⟩],b8,(sq (r1 [gm cZ] 0 0) (sq (rg [gn (.build [.str [],.aF] [(0,1,(cs [111,110,101]))]),gx 251 [l0] [[.a,.sl 11 [.a,.a,.a,.a,.a,.a,.sl 3 [.sl 4 [.a,.a,.a,.a],.a,.a],.sl 3 [.a,.a,.a],.sl 2 [.a,.sl 1 [.a]],.a,.a]]],gm l1,ge l2 0,ge l2 1,gm l3,gm l4] [(2,5),(1,6)]) (sq (rg [gx 86 [(cs [115,104,101,108,102,32,111,110,101,10])] b8,gm l0,ge l1 0,ge l1 1,ge l1 2,gb 2 (.c (.agg [.str [],.aF])),gt 2 l5 l2,gm l3,gm l4] [(5,5),(3,7),(4,8)]) (sq (rg [gx 86 [(cs [115,104,101,108,102,32,111,110,101,10,101,110,116,114,121,32,48,32,111,110,10])] b8,gm l0,ge l1 0,ge l1 1,ge l1 2,gb 2 (.c (.agg [.str [],.aF])),gt 2 l5 l2,gm l3,gm l4] [(6,7),(7,8)]) (sq (r1 [gm s1,aL l0 bx,gm l1,gmt 2 s2,cr 2 (cV l3 (cs [115,104,101,108,102,32,111,110,101,10])),eX l2 l4,gm l5,gmt 6 s3,cr 6 (cV l7 bx),eX l6 l8,gm l9,gmt 10 s4,cr 10 (cV fZ bx),eX l10 iv,gm jr,kn 14 0 s5,jM 14 lg,cr 14 (cV nw (cs [111,110,101])),eX jT oU,gm pL,gmt 19 s6,cr 19 (cV uN jC),eX qx xc,gm zm,gmt 23 s7,cr 23 (cV D5 jC),eX C6 GM,gm Ng] 0 27) .ret)))))⟩
def w85 {Y:Ctx}(hm:(Y.at 0).cj)(h251:Wn Y)(h9086:SH Y)    :dn Y E1 (.bool true) []:=by
 show bP _ _ _ [_,_,_,_,_,_,_,_] _;refine aq ?_;refine aA ?_;refine bA (.agg [.str HA,.aF]) ?_;refine ar (v:=.tup [.str Lu,.int .i64 0]) (hc:=by have:=h251 ⟨HA,[]⟩ aR;rw[Zi]at this;exact this) ?_;refine ba ?_;refine ar (v:=.tup [js.D ⟨HA,[]⟩,.int .i64 0,.int .i64 0]) (hc:=by have:=h9086 Lu aM UB;rw[Zh]at this;exact this) ?_;refine aH ?_;refine e7 (js.D _) ?_;refine aA ?_;refine aY (js.D ⟨HA,[]⟩) (he:=aZ) ?_;refine aD ?_;refine ar (v:=.tup [js.D (iH GX).1,.int .i64 2,.int .i64 2]) (hc:=by have:=h9086 GX aM UC;rw[aj Prod.fst SW,aj Prod.snd SW]at this;exact this) ?_;refine aH ?_;refine e7 (js.D _) ?_;refine aA ?_;refine aY (js.D (iH GX).1) (he:=aZ) ?_;refine Tr ?_;refine bd (v:=.str HA) ?_;refine lA ?_;refine bX ?_;decide
def Qz (T:List D->D->Prop):Prop:=T [] (.bool true)
def C85 (Y:Ctx):Prop:=Qz (bD Y 85)
end Go.Abs
