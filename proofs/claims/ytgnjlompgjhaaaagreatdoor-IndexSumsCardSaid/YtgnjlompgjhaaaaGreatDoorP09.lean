/- A part of the proofs. -/
import Derived.Lib.CountLaws
import Derived.Lib.IndexMore
import Derived.Lib.ItoaNum
import Derived.Lib.Join
import Derived.Lib.Split
import Derived.Lib.SplitLaws
import Derived.Lib.Strings
import Derived.Lib.TrimByte
import Derived.Shelf.Strings.Split
import Derived.Test.YtgnjlompgjhaaaaGreatDoorP08
set_option linter.all false
set_option maxRecDepth 4000
namespace Go.Abs
def F2:aF:=⟨3,8,[⟨3,none⟩],bQ,(sq (rg [gb 9 s0,gm bq] [(5,0),(3,1)]) (sq (.block 0 (sq (r1 [gm s1,gx 208 [l0] bQ,jU l1,gm l2] 4 3) (.cond s4 (sq (r1 [gm sg] 3 0) .ret) (sq (r1 [gm s1,gf 0 s5,gd l1,aL l0 l2,gm l3] 6 4) (.cond s6 (sq (r1 [gm Fj] 3 0) .ret) (sq (r1 [gm s2,gx 444 [l0] bQ,jU l1,gm l2] 7 3) (.cond s7 (sq (r1 [gm wV] 3 0) .ret) .skip))))))) (sq (r1 [gm bq] 3 0) .ret)))⟩
def w211 {Y:Ctx}(hm:(Y.at 0).bd)(h208:LW Y)(h444:X5 Y)(r:Rec)(name:au)(ui:au)  (hp0:ui.length<=1048576):dj Y F2 (.int .i64 (fG r name ui)) [Rec.D r,.str name,.str ui]:=by
 show bH _ _ _ [⟨_,_⟩,⟨_,_⟩,⟨_,_⟩,_,_,_,_,_] _;refine aq ?_;refine aH ?_;refine ai (hc:=h208 _) ?_;refine aA ?_;refine fA (fun hc0=>?_) fun hc0=>?_
 ·refine aJ ?_;refine cS ?_;rw[fG,ax hc0]
 refine aY ?_;refine fA (fun hc1=>?_) fun hc1=>?_
 ·refine aJ ?_;refine cS ?_;rw[fG,aj (by simp[hc0]),ax hc1]
 refine az ?_;refine ai (hc:=h444 ui hp0) ?_;refine aA ?_;refine fA (fun hc2=>?_) fun hc2=>?_
 ·refine aJ ?_;refine cS ?_;rw[fG,aj (by simp[hc0]),aj hc1,ax hc2]
 refine aH ?_;refine cS ?_;rw[fG,aj (by simp[hc0]),aj hc1,aj (by simp[hc2])]
def KD (T:List D->D->Prop):Prop:=∀(r:Rec) (name:au) (ui:au),(ui.length<=1048576)->T [Rec.D r,.str name,.str ui] (.int .i64 (fG r name ui))
def UY (Y:Ctx):Prop:=KD (bt Y 211)
def F3:aF:=⟨3,16,[⟨3,none⟩],bQ,(sq (rg [gb 9 s0,gb 4 s1,gm bq] [(4,0),(5,1),(3,2)]) (sq (sq (r1 [gk 9 true s4,gf 0 s5,gd l1,gf 1 s5,gd l3,gx 211 [l0,l2,l4] [[.a,.a,.a,.a,.a,.a,.sl 3 [.sl 4 [.a,.a,.sl 1 [.a],.a],.a,.a],.sl 3 [.a,.a,.a],.sl 2 [.a,.sl 1 [.a]]],[.a],[.a]],gm l5] 6 6) (sq (r1 [gm s6,b7 l0 bq] 7 1) (.cond s7 (sq (r1 [gm s6,gm l0] 3 1) .ret) .skip))) (sq (sq (r1 [gf 2 s5,gd l0,gl l1,cZ l2 wV,gm l3,j5 4 2 s5,lF 4 l5,cD 4 (.len l6),cD 4 (et l7 bq),eP 4 l8,gmt 9 s2,bY 9 (.un .not l10),BW 4 l9 gH,fE l4 jm] 8 13) (.cond s8 (sq (r1 [gm (i6 11)] 3 0) .ret) .skip)) (sq (sq (rg [gf 2 s5,gd l0,gl l1,gm bq] [(12,1),(10,2),(9,3)]) (.block 0 (.loop (sq (r1 [aS s9 jf] 11 0) (sq (fB k9 0) (sq (.block 1 (sq (rg [gm s9,ga 1 lv s9,gd l1,gm l0,gm l2] [(14,3),(13,4)]) (sq (r1 [gm qG,gx 349 [l0] bQ,jU l1,gm l2,eP 3 rN,cD 3 (et l4 bq),eP 3 l5,mL 6 2 s5,lr 6 l7,gmt 6 rN,bY 6 (ku l9 bX),bY 6 (.ia 1 l8 l10),lr 6 gH,gmt 6 qG,bY 6 (sT jm jV),BW 3 l6 lg,fE l3 mM] 15 16) (.cond xI (sq (r1 [gm (i6 11)] 3 0) .ret) .skip)))) (r1 [aw s9 bX,gm l0] 9 1))))))) (sq (r1 [gm bq] 3 0) .ret)))))⟩
def w443 {Y:Ctx}(hm:(Y.at 0).bd)(h211:UY Y)(h349:Hl Y)(r:Rec)(w:cq)(al:Bool)  (hp0:w.sm):dj Y F3 (.int .i64 (jt r w al)) [Rec.D r,cq.D w,.bool al]:=by
 show bH _ _ _ [⟨_,_⟩,⟨_,_⟩,⟨_,_⟩,_,_,_,_,_,_,_,_,_,_,_,_,_] _;refine aq ?_;refine fS ?_;refine ai (hc:=h211 r w.name w.range hp0.1.2) ?_;refine aY ?_;refine cI (fun hc0=>?_) fun hc0=>?_
 ·refine aH ?_;refine cS ?_;rw[jt,ax hc0]
 refine aH ?_;intro u0;refine aE ?_;refine ll ?_;refine aY ?_;refine av (fun hc1=>?_) (fun hc1=>?_)
 ·have hq:(decide (w.feats.length<=6)&&(al ||decide (w.feats.length=0)))=false:=by rw[<-bE,<-RM];exact hc1
  refine aJ ?_;refine cS ?_;rw[jt,aj (by simp[hc0]),ax (by unfold jq;rw[hq];rfl)]
 have hq:(decide (w.feats.length<=6)&&(al ||decide (w.feats.length=0)))=true:=by rw[<-b6,<-RM];exact hc1
 refine aH ?_;intro u1;refine az ?_;refine bh hm (ι:=Nat) (fun i=>[.un,.un,⟨true,.bool al⟩,.un,⟨true,.ptr 0 9 0 0⟩,⟨true,.ptr 1 4 0 0⟩,.un,.un,.un,⟨true,.int .i64 (i:Nat)⟩,⟨true,.int .i64 (w.feats.length:Nat)⟩,.un,⟨true,.sl 1 (w.feats.map D.str)⟩,.un,.un,.un]) (fun i=>[(0,.buf 9 [Rec.D r]),(1,.buf 4 [cq.D w])]) 30 (fun i=>i<=w.feats.length/\jq w.feats al=cV (UQ w.feats) i w.feats.length) (fun i=>w.feats.length-i) 0 ⟨ae,by unfold jq;rw[hq,gp]⟩ (dL [(0,0),(1,1)]) ?_;rintro i ⟨hi,hr⟩;refine aA ?_;refine cI (fun hc2=>?_) fun hc2=>?_
 ·refine fS ?_;refine ai (hc:=h349 _) ?_;refine cW ?_;refine ca (i-1) ?_;refine aH ?_;refine wp_cond (fun hc3=>?_) (fun hc3=>?_)
  ·have hz:UQ w.feats i=false:=by rw[<-bE,<-wf_c];exact hc3
   refine aH ?_;refine cS ?_;rw[jt,aj (by simp[hc0]),ax (by rw[hr,aV ae,hz];rfl)]
  have hz:UQ w.feats i=true:=by rw[<-b6,<-wf_c];exact hc3
  refine aY ?_;exact⟨i+1,⟨ae,by rw[hr,aV ae,hz];rfl⟩,ae,(dL [(0,0),(1,1)])⟩
 refine aH ?_;refine cS ?_;rw[jt,aj (by simp[hc0]),aj (by rw[hr,cr ae];simp)]
def yA (T:List D->D->Prop):Prop:=∀(r:Rec) (w:cq) (al:Bool),(w.sm)->T [Rec.D r,cq.D w,.bool al] (.int .i64 (jt r w al))
def X4 (Y:Ctx):Prop:=yA (bt Y 443)
def F0:aF:=⟨2,16,[⟨2,none⟩],bQ,(sq (rg [gb 9 s0,gb 3 s1,gm bq] [(10,0),(3,1),(2,2)]) (sq (sq (r1 [gf 0 s3,gd l0,gl l1,aL l2 bq] 4 3) (.cond s4 (sq (r1 [gm Ew] 2 0) .ret) .skip)) (sq (sq (r1 [gf 0 s3,gd l0,gl l1,cZ l2 kn] 5 3) (.cond s5 (sq (r1 [gm kn] 2 0) .ret) .skip)) (sq (sq (rg [gf 0 s3,gd l0,gl l1,gm bq] [(9,1),(7,2),(6,3)]) (.block 0 (.loop (sq (r1 [aS s6 s7] 8 0) (sq (fB s8 0) (sq (.block 1 (sq (r1 [ga 4 s9 s6,gk 4 true l0,gb 4 (.c (.agg [.str [],.str [],.aC,.bool false])),gt 4 l2 l1] 11 2) (sq (r1 [gk 9 true jf,gk 4 true k9,gf 0 s3,gd l2,gl l3,aL l4 bX,gx 443 [l0,l1,l5] [[.a,.a,.a,.a,.a,.a,.sl 3 [.sl 4 [.a,.a,.sl 1 [.a],.a],.a,.a],.sl 3 [.a,.a,.a],.sl 2 [.a,.sl 1 [.a]]],[.a,.a,.sl 1 [.a],.a],[.a]],gm l6] 12 7) (sq (r1 [gm lv,b7 l0 bq] 13 1) (.cond qG (sq (r1 [gm lv,gm l0] 2 1) .ret) .skip))))) (r1 [aw s6 bX,gm l0] 6 1))))))) (sq (sq (r1 [gf 1 s3,gd l0,gx 212 [l1] bQ,jU l2] 14 3) (.cond rN (sq (r1 [gm Ot] 2 0) .ret) .skip)) (sq (sq (r1 [gf 2 s3,gd l0,b7 l1 cse,gm l2,mL 3 2 s3,lr 3 l4,bY 3 (.call 349 [l5] bQ),bY 3 (.un .not l6),eL l3 l7] 15 8) (.cond xI (sq (r1 [gm (i6 14)] 2 0) .ret) .skip)) (sq (r1 [gm bq] 2 0) .ret)))))))⟩
def w210 {Y:Ctx}(hm:(Y.at 0).bd)(h212:UZ Y)(h349:Hl Y)(h443:X4 Y)(r:Rec)(n:cb)  (hp0:n.sm):dj Y F0 (.int .i64 (iN r n)) [Rec.D r,cb.D n]:=by
 show bH _ _ _ [⟨_,_⟩,⟨_,_⟩,_,_,_,_,_,_,_,_,_,_,_,_,_,_] _;refine aq ?_;refine cW ?_;intro u0;refine az ?_;refine cI (fun hc0=>?_) fun hc0=>?_
 ·refine aJ ?_;refine cS ?_;rw[iN,ax ae]
 refine aH ?_;intro u1;refine az ?_;refine cI (fun hc1=>?_) fun hc1=>?_
 ·refine aJ ?_;refine cS ?_;rw[iN,aj ae,ax ae]
 refine aH ?_;intro u2;refine az ?_;refine bh hm (ι:=Nat) (fun i=>[.un,.un,.un,⟨true,.ptr 1 3 0 0⟩,.un,.un,⟨true,.int .i64 (i:Nat)⟩,⟨true,.int .i64 (n.any.length:Nat)⟩,.un,⟨true,.sl 4 (n.any.map cq.D)⟩,⟨true,.ptr 0 9 0 0⟩,.un,.un,.un,.un,.un]) (fun i=>[(0,.buf 9 [Rec.D r]),(1,.buf 3 [cb.D n])]) 15 (fun i=>i<=n.any.length/\me r n.any=fg (fun i=>jt r n.any[i]! (decide ((n.any.length:Int)=1))) i n.any.length) (fun i=>n.any.length-i) 0 ⟨ae,rfl⟩ (dL [(0,0),(1,1)]) ?_;rintro i ⟨hi,hr⟩;refine aA ?_;refine cI (fun hc2=>?_) fun hc2=>?_
 ·refine aE ?_;first|refine b8 (v:=(cq.D _)) ?_|refine fF (v:=(cq.D _)) ?_
  refine aD ?_;refine aU (cq.D n.any[i]!) (he:=bj) ?_;refine aY ?_;intro u3;refine aD ?_;refine ai (hc:=h443 r n.any[i]! _ (hp0.1 _ (bA ae))) ?_;refine aH ?_;refine fA (fun hc3=>?_) fun hc3=>?_
  ·refine aY ?_;refine cS ?_;have hw:me r n.any=jt r n.any[i]! (decide ((n.any.length:Int)=1)):=by rw[hr,lE ae hc3]
   rw[iN,aj ae,aj ae,ax (by rw[hw];exact hc3),hw]
  refine aY ?_;exact⟨i+1,⟨ae,by rw[hr,nA ae hc3]⟩,ae,(dL [(0,0),(1,1)])⟩
 refine aE ?_;have hw0:me r n.any=0:=by rw[hr,ny ae]
 refine az ?_;refine ai (hc:=h212 _) ?_;refine az ?_;refine av (fun hc4=>?_) (fun hc4=>?_)
 ·try simp only[eE]at hc4
  refine aJ ?_;refine cS ?_;rw[iN,aj ae,aj ae,aj (by simp[hw0]),ax hc4]
 simp only[b6]at hc4;refine cW ?_;refine ai (hc:=h349 _) ?_;refine aA ?_;refine av (fun hc5=>?_) (fun hc5=>?_)
 ·try simp only[eE]at hc5
  refine aJ ?_;refine cS ?_;rw[iN,aj ae,aj ae,aj (by simp[hw0]),aj (by simp[hc4]),ax hc5]
 simp only[dT,b6,aW]at hc5;refine aJ ?_;refine cS ?_;rw[iN,aj ae,aj ae,aj (by simp[hw0]),aj (by simp[hc4]),aj (by rintro⟨g1,g2⟩;rcases hc5 with h|h;exact g1 h;rw[g2]at h;cases h)]
def yr (T:List D->D->Prop):Prop:=∀(r:Rec) (n:cb),(n.sm)->T [Rec.D r,cb.D n] (.int .i64 (iN r n))
def XF (Y:Ctx):Prop:=yr (bt Y 210)
def FZ:aF:=⟨2,15,[⟨2,none⟩],bQ,(sq (rg [gb 9 s0,gm bq] [(3,0),(2,1)]) (sq (rg [gm s1,gx 448 [l0] bQ,gm l1,ge l2 0,ge l2 1,ge l2 2,gm l3,gm l4,gm l5] [(8,6),(10,7)]) (sq (sq (rg [gf 6 s3,gd l0,gl l1,gm bq] [(7,1),(5,2),(4,3)]) (.block 0 (.loop (sq (r1 [aS s4 s5] 6 0) (sq (fB s6 0) (sq (.block 1 (sq (r1 [ga 3 s7 s4,gk 3 true l0,gb 3 (.c (.agg [.aC,.str [],.str []])),gt 3 l2 l1] 9 2) (sq (r1 [gm s8,aL l0 kl,gm l1,mL 2 2 s9,lr 2 l3,gmt 2 jf,bY 2 (cQ l4 l5),eL l2 l6,gm l7,eP 8 s8,cD 8 (cQ l9 kn),eP 8 l10,mL 11 0 s9,lr 11 jm,bY 11 (.len jV),bY 11 (cQ lg bX),BW 8 gH mM,eP 8 og,mL 17 0 s9,lr 17 sX,bY 17 (.ia 4 uh bq),mL 17 0 zJ,lr 17 Bf,gmt 17 jf,bY 17 (cQ Ey JF),BW 8 rl MT,fE l8 Ou] 11 26) (.cond k9 (sq (r1 [gm bq] 2 0) .ret) .skip)))) (r1 [aw s4 bX,gm l0] 4 1))))))) (sq (sq (r1 [gm s8] 12 0) (.block 2 (sq (r1 [aL lv kl,gm l0] 13 1) (.cond qG (sq (r1 [gm (i6 14)] 2 0) .ret) (sq (r1 [aL lv kn,gm l0] 14 1) (.cond rN (sq (r1 [gm (i6 16)] 2 0) .ret) .skip)))))) (sq (r1 [gm bq] 2 0) .ret)))))⟩
def w214 {Y:Ctx}(hm:(Y.at 0).bd)(h448:U9 Y)(r:Rec)(s:au)  (hp0:s.length<=1048576):dj Y FZ (.int .i64 (jH r s)) [Rec.D r,.str s]:=by
 show bH _ _ _ [⟨_,_⟩,⟨_,_⟩,_,_,_,_,_,_,_,_,_,_,_,_,_] _;refine aq ?_;refine aJ ?_;refine ai (hc:=h448 s hp0) ?_;refine na ?_;intro u0;refine az ?_;refine bh hm (ι:=Nat) (fun i=>[.un,.un,.un,⟨true,.ptr 0 9 0 0⟩,⟨true,.int .i64 (i:Nat)⟩,⟨true,.int .i64 (r.needs.length:Nat)⟩,.un,⟨true,.sl 3 (r.needs.map cb.D)⟩,⟨true,.int .i64 (dq s).1⟩,.un,⟨true,.str (dq s).2.1⟩,.un,.un,.un,.un]) (fun i=>[(0,.buf 9 [Rec.D r])]) 15 (fun i=>i<=r.needs.length/\jH r s=(if(r.needs.drop i).any (itC (dq s).1 (dq s).2.1)=true then 0 else Wq (dq s).1)) (fun i=>r.needs.length-i) 0 ⟨ae,PZ r s⟩ (dL [(0,0)]) ?_;rintro i ⟨hi,hr⟩;refine aA ?_;refine cI (fun hc0=>?_) fun hc0=>?_
 ·refine aE ?_;first|refine b8 (v:=(cb.D _)) ?_|refine fF (v:=(cb.D _)) ?_
  refine aD ?_;refine aU (cb.D r.needs[i]!) (he:=bj) ?_;refine A1 ?_;refine ll ?_;refine aJ ?_;refine ca 0 (hb:=fun h=>by simp only[gp,beq_iff_eq,bw,aW]at h;omega) ?_;refine aD ?_;refine b8 (q:=cq.D) (xs:=r.needs[i]!.any) (i:=0) (hi:=fun h=>by simp only[gp,beq_iff_eq,bw,aW]at h;omega) (v:=(.str r.needs[i]!.any[0]!.name)) ?_;refine aJ ?_;refine wp_cond (fun hc1=>?_) (fun hc1=>?_)
  ·have hz:itC (dq s).1 (dq s).2.1 r.needs[i]! =true:=hc1;refine aH ?_;refine cS ?_;rw[hr,xT ae hz];rfl
  have hz:itC (dq s).1 (dq s).2.1 r.needs[i]! =false:=hc1;refine aY ?_;exact⟨i+1,⟨ae,by rw[hr,C2 ae hz]⟩,ae,(dL [(0,0)])⟩
 refine aE ?_;have he:jH r s=Wq (dq s).1:=by rw[hr,xS ae];rfl
 refine aY ?_;refine fA (fun hc2=>?_) fun hc2=>?_
 ·refine aJ ?_;refine cS ?_;rw[he,Wq,ax hc2]
 refine aE ?_;refine fA (fun hc3=>?_) fun hc3=>?_
 ·refine aJ ?_;refine cS ?_;rw[he,Wq,aj hc2,ax hc3]
 refine aH ?_;refine cS ?_;rw[he,Wq,aj hc2,aj hc3]
def KE (T:List D->D->Prop):Prop:=∀(r:Rec) (s:au),(s.length<=1048576)->T [Rec.D r,.str s] (.int .i64 (jH r s))
def XH (Y:Ctx):Prop:=KE (bt Y 214)
def DX:aF:=⟨1,39,[⟨1,none⟩,⟨2,none⟩],fH,(sq (rg [gb 9 s0,gm bq,gm bq] [(3,0),(1,1),(2,2)]) (sq (.block 0 (sq (r1 [gf 0 s3,gd l0,gx 208 [l1] bQ,jU l2,gm l3] 4 4) (.cond s4 (sq (rg [gm sg,gm bq] [(1,0),(2,1)]) .ret) (sq (r1 [gf 1 s3,gk 5 true l0,gx 209 [l1] zF,jU l2,gm l3] 5 4) (.cond s5 (sq (rg [gm Hf,gm bq] [(1,0),(2,1)]) .ret) (sq (r1 [gf 6 s3,gd l0,gl l1,cZ l2 Fj,gm l3,j5 4 7 s3,lF 4 l5,cD 4 (.len l6),cD 4 (et l7 Fj),fE l4 l8,gm l9] 6 10) (.cond s6 (sq (rg [gm kn,gm bq] [(1,0),(2,1)]) .ret) .skip))))))) (sq (sq (rg [gf 6 s3,gd l0,gl l1,gm bq] [(10,1),(8,2),(7,3)]) (.block 1 (.loop (sq (r1 [aS s7 s8] 9 0) (sq (fB s9 1) (sq (.block 2 (sq (rg [gm s7,ga 3 jf s7,gk 3 true l1,gb 3 (.c (.agg [.aC,.str [],.str []])),gm l0,gt 3 l3 l2] [(11,3),(14,4)]) (sq (r1 [gk 9 true s3,gk 3 true k9,gx 210 [l0,l1] [[.a,.a,.a,.a,.a,.a,.sl 3 [.sl 4 [.a,.a,.sl 1 [.a],.a],.a,.a],.sl 3 [.a,.a,.a],.sl 2 [.a,.sl 1 [.a]]],[.sl 4 [.a,.a,.sl 1 [.a],.a],.a,.a]],gm l2] 12 3) (sq (r1 [gm lv,b7 l0 bq] 13 1) (.cond qG (sq (rg [gm lv,gm rN,gm l0,gm l1] [(1,2),(2,3)]) .ret) .skip))))) (r1 [aw s7 bX,gm l0] 7 1))))))) (sq (sq (rg [gf 7 s3,gd l0,gl l1,gm bq] [(18,1),(16,2),(15,3)]) (.block 3 (.loop (sq (r1 [aS xI Bo] 17 0) (sq (fB D9 3) (sq (.block 4 (sq (rg [gm xI,ga 3 Hg xI,gk 3 true l1,gb 3 (.c (.agg [.str [],.str [],.str []])),gm l0,gt 3 l3 l2] [(19,3),(22,4)]) (sq (sq (r1 [gk 9 true s3,gf 0 UN,gd l1,gf 1 UN,gd l3,gx 211 [l0,l2,l4] [[.a,.a,.a,.a,.a,.a,.sl 3 [.sl 4 [.a,.a,.sl 1 [.a],.a],.a,.a],.sl 3 [.a,.a,.a],.sl 2 [.a,.sl 1 [.a]]],[.a],[.a]],gm l5] 20 6) (sq (r1 [gm Ki,b7 l0 bq] 21 1) (.cond Xw (sq (rg [gm Ki,gm Xx,gm l0,gm l1] [(1,2),(2,3)]) .ret) .skip))) (sq (r1 [gf 2 UN,gd l0,gx 212 [l1] bQ,jU l2] 23 3) (.cond s23 (sq (rg [gm Xx,gm Ot,gm l0] [(1,1),(2,2)]) .ret) .skip))))) (r1 [aw xI bX,gm l0] 15 1))))))) (sq (sq (r1 [gf 8 s3,gd l0,gx 213 [l1] [[.sl 2 [.a,.sl 1 [.a]]]],jU l2] 24 3) (.cond Xa (sq (rg [gm (i6 11),gm bq] [(1,0),(2,1)]) .ret) .skip)) (sq (sq (rg [gf 8 s3,gd l0,gl l1,gm bq] [(28,1),(26,2),(25,3)]) (.block 5 (.loop (sq (r1 [aS Xy s26] 27 0) (sq (fB s27 5) (sq (.block 6 (sq (rg [gm Xy,ga 2 s28 Xy,gk 2 true l1,gb 2 (.c (.agg [.str [],.aC])),gm l0,gt 2 l3 l2] [(29,3),(37,4)]) (sq (rg [gf 1 s29,gd l0,gl l1,gm bq] [(33,1),(31,2),(30,3)]) (.block 7 (.loop (sq (r1 [aS UO s31] 32 0) (sq (fB s32 7) (sq (.block 8 (sq (r1 [ga 1 s33 UO,gd l0,gm l1] 34 2) (sq (r1 [gk 9 true s3,gm s34,gx 214 [l0,l1] [[.a,.a,.a,.a,.a,.a,.sl 3 [.sl 4 [.a,.a,.sl 1 [.a],.a],.a,.a],.sl 3 [.a,.a,.a],.sl 2 [.a,.sl 1 [.a]]],[.a]],gm l2] 35 3) (sq (r1 [gm s35,b7 l0 bq] 36 1) (.cond s36 (sq (rg [gm s35,gm s37,gm l0,gm l1] [(1,2),(2,3)]) .ret) .skip))))) (r1 [aw UO bX,gm l0] 30 1))))))))) (r1 [aw Xy bX,gm l0] 25 1))))))) (sq (sq (r1 [gk 9 true s3,gx 215 [l0] [[.a,.a,.a,.a,.a,.a,.sl 3 [.sl 4 [.a,.a,.sl 1 [.a],.a],.a,.a],.sl 3 [.a,.a,.a],.sl 2 [.a,.sl 1 [.a]]]],pM l1,cZ l2 (i6 4096)] 38 3) (.cond s38 (sq (rg [gm kn,gm bq] [(1,0),(2,1)]) .ret) .skip)) (sq (rg [gm bq,gm bq] [(1,0),(2,1)]) .ret))))))))⟩
def w70 {Y:Ctx}(hm:(Y.at 0).bd)(h208:LW Y)(h209:Hj Y)(h210:XF Y)(h211:UY Y)(h212:UZ Y)(h213:XG Y)(h214:XH Y)(h215:U0 Y)(r:Rec)  (hp0:fo r):dj Y DX (.tup [.int .i64 (cK r).1,.int .i64 (cK r).2]) [Rec.D r]:=by
 show bH _ _ _ (⟨true,Rec.D r⟩::.un::.un::.un::.un::.un::.un::.un::.un::.un::.un::.un::.un::.un::.un::.un::.un::.un::.un::.un::.un::.un::.un::.un::.un::.un::.un::.un::.un::.un::.un::.un::.un::.un::.un::.un::.un::.un::.un::[]) ⟨0,[]⟩;refine aq ?_;refine bM ?_;refine ai (hc:=h208 _) ?_;refine aA ?_;refine wp_cond (fun hc0=>?_) (fun hc0=>?_)
 ·try simp only[eE]at hc0
  refine aH ?_;refine bL (aM (ar (D.int .i64) ?_) (ar (D.int .i64) ?_));all_goals (have hq:cK r=(4,0):=(by rw[cK,ax hc0]);rw[hq];first|done|rfl)
 simp only[b6]at hc0;refine az ?_;refine bI (v:=cY.D r.v) ?_;refine ai (hc:=h209 r.v hp0.1.2) ?_;refine aA ?_;refine wp_cond (fun hc1=>?_) (fun hc1=>?_)
 ·try simp only[eE]at hc1
  refine aH ?_;refine bL (aM (ar (D.int .i64) ?_) (ar (D.int .i64) ?_));all_goals (have hq:cK r=(5,0):=(by rw[cK,aj (by simp[hc0]),ax hc1]);rw[hq];first|done|rfl)
 simp only[b6]at hc1;refine aE ?_;intro u0;refine aE ?_;refine ll ?_;refine aE ?_;refine fA (fun hc2=>?_) fun hc2=>?_
 ·refine aH ?_;refine bL (aM (ar (D.int .i64) ?_) (ar (D.int .i64) ?_));all_goals (have hq:cK r=(3,0):=(by rw[cK,aj (by simp[hc0]),aj (by simp[hc1]),ax ae]);rw[hq];first|done|rfl)
 refine aY ?_;intro u1;refine az ?_;refine bh hm (ι:=Nat) (fun i=>(.un::.un::.un::⟨true,.ptr 0 9 0 0⟩::.un::.un::.un::⟨true,.int .i64 (i:Nat)⟩::⟨true,.int .i64 (r.needs.length:Nat)⟩::.un::⟨true,.sl 3 (r.needs.map cb.D)⟩::.un::.un::.un::.un::.un::.un::.un::.un::.un::.un::.un::.un::.un::.un::.un::.un::.un::.un::.un::.un::.un::.un::.un::.un::.un::.un::.un::.un::[])) (fun i=>[(0,.buf 9 [Rec.D r])]) 28 (fun i=>i<=r.needs.length/\lK r=ig (fun i=>iN r r.needs[i]!) i r.needs.length) (fun i=>r.needs.length-i) 0 ⟨ae,rfl⟩ (dL [(0,0)]) ?_;rintro i ⟨hi,hr⟩;refine aA ?_;refine cI (fun hc3=>?_) fun hc3=>?_
 ·refine aJ ?_;first|refine b8 (v:=(cb.D _)) ?_|refine fF (v:=(cb.D _)) ?_
  refine az ?_;refine aU (cb.D r.needs[i]!) (he:=bj) ?_;refine aE ?_;refine ai (hc:=h210 r r.needs[i]! (hp0.2.1 _ (bA ae))) ?_;refine aH ?_;refine fA (fun hc4=>?_) fun hc4=>?_
  ·refine cW ?_;refine bL (aM (ar (D.int .i64) ?_) (ar (D.int .i64) ?_));all_goals
    have hq:cK r=(iN r r.needs[i]!,((i:Nat):Int)):=by
     exact oX hc0 hc1 ae ae (FQ (by rw[hr,jS ae hc4]) hc4) hc4
    rw[hq];first|done|rfl
  refine aY ?_;exact⟨i+1,⟨ae,by rw[hr,lD ae hc4]⟩,ae,(dL [(0,0)])⟩
 refine aE ?_;have hn0:lK r=(0,0):=by rw[hr,lC ae]
 refine aA ?_;intro u2;refine az ?_;refine bh hm (ι:=Nat) (fun i=>(.un::.un::.un::⟨true,.ptr 0 9 0 0⟩::.un::.un::.un::.un::.un::.un::.un::.un::.un::.un::.un::⟨true,.int .i64 (i:Nat)⟩::⟨true,.int .i64 (r.bars.length:Nat)⟩::.un::⟨true,.sl 3 (r.bars.map jL.D)⟩::.un::.un::.un::.un::.un::.un::.un::.un::.un::.un::.un::.un::.un::.un::.un::.un::.un::.un::.un::.un::[])) (fun i=>[(0,.buf 9 [Rec.D r])]) 33 (fun i=>i<=r.bars.length/\sU r=ig (fun i=>oT r r.bars[i]!) i r.bars.length) (fun i=>r.bars.length-i) 0 ⟨ae,rfl⟩ (dL [(0,0)]) ?_;rintro i ⟨hi,hr⟩;refine aA ?_;refine cI (fun hc5=>?_) fun hc5=>?_
 ·refine aJ ?_;first|refine b8 (v:=(jL.D _)) ?_|refine fF (v:=(jL.D _)) ?_
  refine az ?_;refine aU (jL.D r.bars[i]!) (he:=bj) ?_;refine bM ?_;refine ai (hc:=h211 r r.bars[i]!.name r.bars[i]!.range (hp0.2.2.1 _ (bA ae)).2.1) ?_;refine aY ?_;refine av (fun hc6=>?_) (fun hc6=>?_)
  ·simp only[bE,bD]at hc6;have hbe:oT r r.bars[i]! =fG r r.bars[i]!.name r.bars[i]!.range:=by rw[oT,ax hc6]
   refine hX ?_;refine bL (aM (ar (D.int .i64) ?_) (ar (D.int .i64) ?_));all_goals
    have hq:cK r=(fG r r.bars[i]!.name r.bars[i]!.range,((i:Nat):Int)):=by
     exact oX hc0 hc1 ae ae (Ac hn0 (by rw[hr,jS ae (by rw[hbe];exact hc6),hbe]) hc6) hc6
    rw[hq];first|done|rfl
  try simp only[eE]at hc6
  refine aE ?_;refine ai (hc:=h212 _) ?_;refine az ?_;refine wp_cond (fun hc7=>?_) (fun hc7=>?_)
  ·simp only[bE]at hc7;have hbe:oT r r.bars[i]! =7:=by rw[oT,aj (fun h=>h hc6),ax hc7]
   refine bM ?_;refine bL (aM (ar (D.int .i64) ?_) (ar (D.int .i64) ?_));all_goals
    have hq:cK r=((7:Int),((i:Nat):Int)):=by
     exact oX hc0 hc1 ae ae (Ac hn0 (by rw[hr,jS ae (by rw[hbe];decide),hbe]) (show(7:Int)≠0 by decide)) (show(7:Int)≠0 by decide)
    rw[hq];first|done|rfl
  simp only[b6]at hc7;have hbz:oT r r.bars[i]! =0:=by rw[oT,aj (fun h=>h hc6),aj (by rw[hc7];simp)]
  refine aY ?_;exact⟨i+1,⟨ae,by rw[hr,lD ae hbz]⟩,ae,(dL [(0,0)])⟩
 refine aE ?_;have hb0:sU r=(0,0):=by rw[hr,lC ae]
 refine az ?_;refine ai (hc:=h213 r.feats hp0.2.2.2) ?_;refine az ?_;refine av (fun hc8=>?_) (fun hc8=>?_)
 ·try simp only[eE]at hc8
  refine aH ?_;refine bL (aM (ar (D.int .i64) ?_) (ar (D.int .i64) ?_));all_goals
   have hq:cK r=(11,0):=by
    exact oX hc0 hc1 ae ae (FR hn0 hb0 hc8) aG
   rw[hq];first|done|rfl
 simp only[b6]at hc8;refine aH ?_;intro u3;refine az ?_;refine bh hm (ι:=Nat) (fun i=>(.un::.un::.un::⟨true,.ptr 0 9 0 0⟩::.un::.un::.un::.un::.un::.un::.un::.un::.un::.un::.un::.un::.un::.un::.un::.un::.un::.un::.un::.un::.un::⟨true,.int .i64 (i:Nat)⟩::⟨true,.int .i64 (r.feats.length:Nat)⟩::.un::⟨true,.sl 2 (r.feats.map cu.D)⟩::.un::.un::.un::.un::.un::.un::.un::.un::.un::.un::[])) (fun i=>[(0,.buf 9 [Rec.D r])]) 42 (fun i=>i<=r.feats.length/\tq r=ig (fun i=>kJ r r.feats[i]!.of) i r.feats.length) (fun i=>r.feats.length-i) 0 ⟨ae,rfl⟩ (dL [(0,0)]) ?_;rintro i ⟨hi,hr⟩;refine aA ?_;refine cI (fun hc9=>?_) fun hc9=>?_
 ·refine aJ ?_;first|refine b8 (v:=(cu.D _)) ?_|refine fF (v:=(cu.D _)) ?_
  refine az ?_;refine aU (cu.D r.feats[i]!) (he:=bj) ?_;refine aJ ?_;intro u4;refine az ?_;refine qk hm (ι:=Nat) (fun j=>(.un::.un::.un::⟨true,.ptr 0 9 0 0⟩::.un::.un::.un::.un::.un::.un::.un::.un::.un::.un::.un::.un::.un::.un::.un::.un::.un::.un::.un::.un::.un::⟨true,.int .i64 (i:Nat)⟩::⟨true,.int .i64 (r.feats.length:Nat)⟩::.un::⟨true,.sl 2 (r.feats.map cu.D)⟩::.un::⟨true,.int .i64 (j:Nat)⟩::⟨true,.int .i64 (r.feats[i]!.of.length:Nat)⟩::.un::⟨true,.sl 1 (r.feats[i]!.of.map D.str)⟩::.un::.un::.un::⟨true,.int .i64 (i:Nat)⟩::.un::[])) (fun j=>[(0,.buf 9 [Rec.D r])]) 53 (fun j=>j<=r.feats[i]!.of.length/\kJ r r.feats[i]!.of=fg (fun j=>jH r r.feats[i]!.of[j]!) j r.feats[i]!.of.length) (fun j=>r.feats[i]!.of.length-j) 0 ⟨ae,rfl⟩ (dL [(0,0)]) ?_;rintro j ⟨hj,hjr⟩;refine aA ?_;refine cI (fun hc10=>?_) fun hc10=>?_
  ·refine hX ?_;refine ai (hc:=h214 r r.feats[i]!.of[j]! ((hp0.2.2.2 _ (bA ae)).2.2 _ (bA ae))) ?_;refine aH ?_;refine fA (fun hc11=>?_) fun hc11=>?_
   ·refine fS ?_;refine bL (aM (ar (D.int .i64) ?_) (ar (D.int .i64) ?_));all_goals
     have hq:cK r=(jH r r.feats[i]!.of[j]!,((i:Nat):Int)):=by
      have hie:kJ r r.feats[i]!.of=jH r r.feats[i]!.of[j]! :=by rw[hjr,lE ae hc11]
      exact oX hc0 hc1 ae ae (ru hn0 hb0 hc8 (by rw[hr,jS (f:=(fun i=>kJ r r.feats[i]!.of)) ae (by rw[hie];exact hc11),hie])) hc11
     rw[hq];first|done|rfl
   refine aY ?_;exact⟨j+1,⟨ae,by rw[hjr,nA ae hc11]⟩,ae,(dL [(0,0)])⟩
  refine bM ?_;exact⟨i+1,⟨ae,by rw[hr,lD (f:=(fun i=>kJ r r.feats[i]!.of)) ae (by rw[hjr,ny ae])]⟩,ae,(dL [(0,0)])⟩
 refine aE ?_;have hpz:eF r=(0,0):=ru hn0 hb0 hc8 (by rw[hr,lC ae]);have hgd:wU r:=⟨⟨hc0,hc1⟩,⟨ae,ae⟩,hpz⟩;refine aD ?_;refine ai (hc:=h215 r ⟨hgd,hp0⟩) ?_;refine aD ?_;intro u5;refine az ?_;refine cI (fun hc12=>?_) fun hc12=>?_
 ·refine aH ?_;refine bL (aM (ar (D.int .i64) ?_) (ar (D.int .i64) ?_));all_goals
   have hq:cK r=(3,0):=by
    rw[qO hc0 hc1 ae ae hpz,ax ae]
   rw[hq];first|done|rfl
 refine aH ?_;refine bL (aM (ar (D.int .i64) ?_) (ar (D.int .i64) ?_));all_goals
  have hq:cK r=(0,0):=by
   rw[qO hc0 hc1 ae ae hpz,aj ae]
  rw[hq];first|done|rfl
def Ep (T:List D->D->Prop):Prop:=∀(r:Rec),(fo r)->T [Rec.D r] (.tup [.int .i64 (cK r).1,.int .i64 (cK r).2])
def C70 (Y:Ctx):Prop:=Ep (bt Y 70)
def DY:aF:=⟨1,12,[⟨1,some (9,true)⟩,⟨2,none⟩,⟨3,none⟩],[[.a,.a,.a,.a,.a,.a,.sl 3 [.sl 4 [.a,.a,.sl 1 [.a],.a],.a,.a],.sl 3 [.a,.a,.a],.sl 2 [.a,.sl 1 [.a]]],[.a],[.a]],(sq (rg [gb 9 (.c (.agg [.str [],.int .i64 0,.int .i64 0,.int .i64 0,.str [],.str [],.aC,.aC,.aC])),gm bq,gm bq] [(1,0),(2,1),(3,2)]) (sq (sq (r1 [gm s0,pM l0,cZ l1 (i6 4096)] 4 2) (.cond s4 (sq (rg [gn (.build [.str [],.int .i64 0,.int .i64 0,.int .i64 0,.str [],.str [],.aC,.aC,.aC] []),gt 9 s1 l0,gm kn,gm bq] [(2,2),(3,3)]) .ret) .skip)) (sq (r1 [gm s0,gx 124 [l0,(cs [10])] fH,gm l1] 5 2) (sq (r1 [gm s5,gm s5,gl l1,ed l2 bX,gn (.slA 1 l0 none (some l3)),gn (.build [.aC,.int .i64 0] [(0,1,l4)]),gb 2 l5,gm l6] 6 7) (sq (rg [gm s6,gn (.callF 222 l0 [] []),gm l1,ge l2 0,ge l2 1,gb 9 (.c (.agg [.str [],.int .i64 0,.int .i64 0,.int .i64 0,.str [],.str [],.aC,.aC,.aC])),gt 9 l5 l3,gm l4] [(9,5),(7,7)]) (sq (sq (r2 [gm s7,jU l0,gm l1,eP 2 s6,cD 2 (.nilck l3),j5 2 1 l4,lF 2 l5,eP 2 s6,cD 2 (.nilck l7),j5 2 0 l8,lF 2 l9,cD 2 (.len l10),cD 2 (nO l6 gH),fE l2 jm,gm jV,eP 14 s5,eP 14 s5,cD 14 (.len og),cD 14 (ku rl bX),cD 14 (.ia 1 mM sX),lF 14 uh,cD 14 (eX zJ cse),fE lg Bf] 8 22) (.cond s8 (sq (rt [gn (.build [.str [],.int .i64 0,.int .i64 0,.int .i64 0,.str [],.str [],.aC,.aC,.aC] []),gm s6,gc l1,gf 1 l2,gn (.ldI 1 false l3),aw l4 bX,gt 9 s1 l0,gm kl,gm l5] [(2,7),(3,8)]) .ret) .skip)) (sq (sq (r1 [gk 9 true s9,gx 70 [l0] [[.a,.a,.a,.a,.a,.a,.sl 3 [.sl 4 [.a,.a,.sl 1 [.a],.a],.a,.a],.sl 3 [.a,.a,.a],.sl 2 [.a,.sl 1 [.a]]]],gm l1,ge l2 0,ge l2 1,gm l3,gm l4] 10 5) (sq (r1 [gm jf,b7 l0 bq] 11 1) (.cond k9 (sq (rg [gn (.build [.str [],.int .i64 0,.int .i64 0,.int .i64 0,.str [],.str [],.aC,.aC,.aC] []),gm jf,gt 9 s1 l0,gm l1,gm bq] [(2,3),(3,4)]) .ret) .skip))) (sq (rg [gk 9 true s9,gt 9 s1 l0,gm bq,gm bq] [(2,2),(3,3)]) .ret))))))))⟩
def w76 {Y:Ctx}(hm:(Y.at 0).bd)(h70:C70 Y)(h124:LV Y)(h222:XL Y)(s:au)   :dj Y DY (.tup [Rec.D (eG s).1,.int .i64 (eG s).2.1,.int .i64 (eG s).2.2]) [.str s]:=by
 show bH _ _ _ [⟨_,_⟩,_,_,_,_,_,_,_,_,_,_,_] _;refine aq ?_;refine bM ?_;intro u0;refine az ?_;refine av (fun hc0=>?_) (fun hc0=>?_)
 ·simp only[aW]at hc0;have hrr:eG s=(sK,3,0):=by unfold eG;rw[ax ae]
  rw[hrr];refine az ?_;refine bz fq ?_;refine aU fq (he:=bj) ?_;refine aA ?_;refine pK [(0,.buf 9 [Rec.D sK])] (.bf ah (.cons uU .nil) .nil) ?_;refine aD ?_;refine bL (eW ?_ (ar (D.int .i64) ?_) (ar (D.int .i64) ?_));all_goals rfl
 simp only[bD]at hc0;have hsp:=eR 10 s [];have hsp:1<=(ak s 10).length:=hsp;have hsl:=dD s 10;refine aA ?_;refine ai (v:=.sl 1 ((ak s 10).map D.str)) (hc:=h124 s 10 ae) ?_;refine aH ?_;intro u1;refine aD ?_;refine pB ((ak s 10).length-1) (hj:=fun _=>ae) (hb:=fun _=>ae) ?_;refine bz (Ld.D ⟨((ak s 10).take ((ak s 10).length-1)),0⟩) ?_;refine aE ?_;generalize hLS:((ak s 10).take ((ak s 10).length-1))=LS;have hLl:LS.length=(ak s 10).length-1:=by rw[<-hLS,fj];omega
 have hLm:Bw LS:=fun t ht=>by
  rw[<-hLS]at ht;have:=eH s 10 (lY ht);omega
 have hsm0:(⟨LS,0⟩:Ld).sm:=⟨⟨Nat.zero_le _,by simp only;omega⟩,hLm⟩;obtain⟨hrs,hsf⟩:=Kd hLm;have hsfl:=hsf.length_le;refine aD ?_;refine nv (v:=.tup [Rec.D (iJ LS).1,.bool (tS LS).isSome]) (e:=Ld.D ((⟨LS,0⟩:Ld).to (iJ LS).2)) (hc:=h222 ⟨LS,0⟩ hsm0) ?_;refine aD ?_;refine gB (Rec.D _) ?_;refine az ?_;refine aU (Rec.D (iJ LS).1) (he:=bj) ?_;refine hX ?_;refine bI (v:=.int .i64 ((LS.length-(iJ LS).2.length:Nat):Int)) ?_;refine aA ?_;refine bI (v:=.sl 1 (LS.map D.str)) ?_;refine ll ?_;refine aJ ?_;refine ll ?_;refine aD ?_;refine ca ((ak s 10).length-1) (hj:=fun _=>ae) (hb:=fun _=>ae) ?_;refine b8 (v:=.str (ak s 10)[(ak s 10).length-1]!) (hi:=fun _=>ae) ?_;refine aA ?_;refine av (fun hc1=>?_) (fun hc1=>?_)
 ·simp only[dh,bE,aW,bD]at hc1;have hrr:eG s=(sK,2,((LS.length-(iJ LS).2.length:Nat):Int)+1):=by
   unfold eG;rw[aj ae];simp only[hLS];rw[ax];rcases hc1 with(h|h)|h
   ·exact .inl h
   ·refine .inr (.inl fun e=>?_);rw[e]at h;simp only[aB]at h;omega
   ·exact .inr (.inr h)
  rw[hrr];refine aD ?_;refine ff 15 (he:=by simp only[oe,kj,m5,oM,pX,cX,Nat.reduceEqDiff,ba,bc,dH,cO,cL,dF,dG,bU,bP,aQ,cn,a7,reduceCtorEq,ay,aB,Nat.reduceAdd,Nat.reduceLeDiff,Ld.D,fq,px];exact rfl) (hm:=by simp only[oe,kj,m5,oM,pX,cX,Nat.reduceEqDiff,ba,bc,dH,cO,cL,dF,dG,bU,bP,aQ,cn,a7,reduceCtorEq,ay,aB,Nat.reduceAdd,Nat.reduceLeDiff,Ld.D,fq,Rec.D];exact rfl) ?_;refine aD ?_;refine bz fq ?_;refine aA ?_;refine DT (v:=.int .i64 ((LS.length-(iJ LS).2.length:Nat):Int)) ?_;refine aD ?_;refine aU fq (he:=bj) ?_;refine aA ?_;refine pK [(0,.buf 9 [Rec.D sK]),(22,.buf 9 [Rec.D (iJ LS).1])] (.bf ah (.cons uU .nil) (.id ah .nil)) ?_;refine aD ?_;refine bL (eW ?_ (ar (D.int .i64) ?_) (ar (D.int .i64) ?_));all_goals rfl
 simp only[dW,b6,aW,bD]at hc1;have hrr:eG s=if(cK (iJ LS).1).1≠0 then(sK,(cK (iJ LS).1).1,0)else((iJ LS).1,0,0):=by
  unfold eG;rw[aj ae];simp only[hLS];rw[aj];rintro(h|h|h)
  ·rw[hc1.1.1]at h;cases h
  ·exact h (mU (by have:=hc1.1.2;omega))
  ·exact h hc1.2
 rw[hrr];refine aA ?_;refine cJ (d:=Rec.D (iJ LS).1) ?_;refine ai (hc:=h70 (iJ LS).1 hrs) ?_;refine fS ?_;refine av (fun hc2=>?_) (fun hc2=>?_)
 ·simp only[bE,bD]at hc2;rw[ax hc2];refine az ?_;refine bz fq ?_;refine aD ?_;refine aU fq (he:=bj) ?_;refine aA ?_;refine pK [(0,.buf 9 [Rec.D sK]),(15,.buf 2 [Ld.D ((⟨LS,0⟩:Ld).to (iJ LS).2)]),(22,.buf 9 [Rec.D (iJ LS).1])] (.bf ah (.cons uU .nil) (.id ah (.id ah .nil))) ?_;refine aD ?_;refine bL (eW ?_ (ar (D.int .i64) ?_) (ar (D.int .i64) ?_));all_goals rfl
 simp only[b6,aW]at hc2;rw[aj (by rw[hc2];simp)];refine az ?_;refine cJ (d:=Rec.D (iJ LS).1) ?_;refine aU (Rec.D (iJ LS).1) (he:=bj) ?_;refine aE ?_;refine bL (eW ?_ (ar (D.int .i64) ?_) (ar (D.int .i64) ?_));all_goals rfl
def RW (T:List D->D->Prop):Prop:=∀(s:au),T [.str s] (.tup [Rec.D (eG s).1,.int .i64 (eG s).2.1,.int .i64 (eG s).2.2])
def C76 (Y:Ctx):Prop:=RW (bt Y 76)
def ct (s:au):List au×Bool:=if(ak s 10)[(ak s 10).length-1]! =[]then((ak s 10).take ((ak s 10).length-1),true)else(ak s 10,false)
end Go.Abs
section
namespace Go.Abs
def PK {α:Type}(l:List α)(a d:α)(n:Nat)(h:n=l.length):(l++[a]).getD n d=a:=by subst h;simp[List.getD]
def Rv {α:Type}(l:List α)(a b:α)(n:Nat)(h:n=l.length):(l++[a]).set n b=l++[b]:=by subst h;simp
def RdS.ok (x:RdS):Prop:=(x.st=0->x.r.needs=[]/\x.r.bars=[]/\x.r.feats=[])/\((x.st=2\/x.st=3)->x.r.needs≠[])/\(x.st=5->x.r.bars≠[])
end Go.Abs
namespace Go.Abs
end Go.Abs
end
namespace Go.Abs
section
def OT (ob:ED):Prop:=∀(σ:List (Nat×Nat)) (l l':Nat) (w:List au) (n:Nat) (b:Bool),oD 0 σ l=some l'->vg 0 σ (ob w (.own l 5 0 n) b)=some (ob w (.own l' 5 0 n) b)
def ry:OT iA:=fun σ l l' w n b h=>by simp only[iA,vg,sL,Kf,h]
def tQ (W:List au):OT (iS W):=fun σ l l' w n b h=>by simp only[iS,vg,sL,Kf,h]
def Rq:D->Nat
 | .agg [.sl _ ws,_,_]=>ws.length
 | .agg [.sl _ ws,.int _ i,_,_]=>ws.length-i.toNat
 |_=>0
def DE (c:List D->Nat)(ds:List D)(st:St):Nat:=match ds with
 | .ptr l _ _ _::ak4=>(match look st.m l with
  |some (.buf _ [o])=>6*Rq o+c ak4
  |_=>0)
 |_=>0
def TJ (w:List au)(X:D)(b:Bool):Rq (iA w X b)=w.length:=by simp[Rq,iA]
def TK {W w:List au}(h:w<:+W)(X:D)(b:Bool):Rq (iS W w X b)=w.length:=by
 grind [Rq,iS]
def nX {c:List D->Nat}{l k nx:Nat}{ak4:List D}{m:List (Nat×bO)}{w:List au}{X:D}{b:Bool}(h:look m l=some (.buf k [iA w X b])):DE c (.ptr l k 0 0::ak4) ⟨nx,m⟩=6*w.length+c ak4:=by
 simp only[DE,h,TJ]
def tI {c:List D->Nat}{l k nx:Nat}{ak4:List D}{m:List (Nat×bO)}{W w:List au}{X:D}{b:Bool}(hw:w<:+W)(h:look m l=some (.buf k [iS W w X b])):DE c (.ptr l k 0 0::ak4) ⟨nx,m⟩=6*w.length+c ak4:=by
 simp only[DE,h,TK hw]
def Ic (nd:List Nd):bB (nd.map Nd.D)=true:=cg (fun _=>rfl) _
section
variable [dz] {P:Program} {ν:List (Nat×Nat)} {cP:List Nat} {t:List (Nat×qw)} {fid n key u k:Nat} {af:aF} {ob:ED} {ak4:List D} {w:List au} {nd:List Nd} {b:Bool} {lp ln nx:Nat} {m:List (Nat×bO)} {K:D->St->Prop} {Pp:PO->Prop} {V:PO->D}
def QN (hob:OT ob)(hk5:k≠5)(has:bB ak4=true)(h1:look m lp=some (.buf k [ob w (.own ln 5 0 nd.length) b]))(h2:look m ln=some (.buf 5 (nd.map Nd.D))):
  lp≠ln/\(∀i,i<(D.ptr lp k 0 0::ak4).length->R3 0 [(lp,0),(ln,1)] ((D.ptr lp k 0 0::ak4).getD i .any) ((D.ptr 0 k 0 0::ak4).getD i .any))/\iU 0 2 [(lp,0),(ln,1)]=true/\(∀l i,(l,i)∈[(lp,0),(ln,1)]->look m l≠none)/\
   ∀i bb,look [(0,.buf k [ob w (.own 1 5 0 nd.length) b]),(1,.buf 5 (nd.map Nd.D))] i=some bb->∃l b',(l,i)∈[(lp,0),(ln,1)]/\look m l=some b'/\sR 0 [(lp,0),(ln,1)] b' bb:=by
 have hne:lp≠ln:=by
  rintro rfl;rw[h1]at h2;exact hk5 (bO.buf.inj (b9 h2)).1
 have hb:Nat.beq lp ln=false:=by cases h:Nat.beq lp ln with
  |false=>rfl
  |true=>exact absurd (Nat.eq_of_beq_eq_true h) hne
 have hb':Nat.beq ln lp=false:=by cases h:Nat.beq ln lp with
  |false=>rfl
  |true=>exact absurd (Nat.eq_of_beq_eq_true h).symm hne
 refine⟨hne,fun i hi=>?_, ?_,fun l i h=>?_,fun i bb h=>?_⟩
 ·match i with
  |0=>exact .inr (.inl (by simp[vg,Kf,oD]))
  |i+1=>exact .inl ⟨rfl,dw has i⟩
 ·simp[iU,hb,hb'];rfl
 ·grind
 ·simp only[look]at h;split at h
  ·rename_i e;subst e;obtain rfl:=b9 h;exact⟨lp,_,.head _,h1,rfl,.inr (.inl (by simp only[sL,hob _ ln 1 w nd.length b (show oD 0 [(lp,0),(ln,1)] ln=some 1 by simp[oD,hb])]))⟩
  ·split at h
   ·rename_i e;subst e;obtain rfl:=b9 h;exact⟨ln,_,.tail _ (.head _),h2,rfl,.inl ⟨rfl,Ic nd⟩⟩
   ·cases h
def gr (hob:OT ob)(hk5:k≠5)(has:bB ak4=true)(hV:∀o,(V o).bC=true)(hmix:P.follows .mixedOrders=true)(hC:Oo P ν cP fid af)(hnp:ak4.length+1=af.np)
  (h1:look m lp=some (.buf k [ob w (.own ln 5 0 nd.length) b])) (h2:look m ln=some (.buf 5 (nd.map Nd.D))) (h3:lp<nx) (h4:ln<nx)
  (hK:∀o,Pp o->K (V o) ⟨nx+1,(nx,.buf 5 (o.nd.map Nd.D))::du (cX m ln) lp (.buf k [ob o.w (.own nx 5 0 o.nd.length) o.bad])⟩)
  (hw:bH ((under t key u).at 2) af.body (nb af (xo k ob Pp V)) (gw af (.ptr 0 k 0 0::ak4)) ⟨2,[(0,.buf k [ob w (.own 1 5 0 nd.length) b]),(1,.buf 5 (nd.map Nd.D))]⟩):qm P ν cP (under t key u) fid (.ptr lp k 0 0::ak4) ⟨nx,m⟩ K:=by
 obtain⟨hne,g2,g3,g4,g5⟩:=QN hob hk5 has h1 h2;refine BY (σi:=[(lp,0),(ln,1)]) (cs:=.ptr 0 k 0 0::ak4) (fun q=>AO t key u q) hmix hC aT g2 (by simpa using hnp) g3 g4 g5 hw ?_;rintro d m1 ⟨o,j,hj,hP,rfl,e0,ej⟩;have hb0:Nat.beq 0 j=false:=by cases j<;>first|omega|rfl
 have hbj:Nat.beq j 0=false:=by cases j<;>first|omega|rfl
 have hbl:Nat.beq lp nx=false:=by cases h:Nat.beq lp nx with
  |false=>rfl
  |true=>have:=Nat.eq_of_beq_eq_true h;omega
 have hbl':Nat.beq nx lp=false:=by cases h:Nat.beq nx lp with
  |false=>rfl
  |true=>have:=Nat.eq_of_beq_eq_true h;omega
 refine⟨[(0,lp),(j,nx)],j+1,_,V o,⟨g3, ?_,Nat.le_succ _,g4, ?_,g5, ?_⟩,.inl ⟨rfl,hV o⟩,hK o hP⟩
 ·simp[iU,hbj,hb0,hbl,hbl'];omega
 ·intro i l h;rcases bV.1 h with h|h
  ·obtain⟨rfl,rfl⟩:=Prod.mk.inj h;exact .inl (.head _)
  ·obtain⟨rfl,rfl⟩:=Prod.mk.inj (cN.1 h);exact .inr (aQ _)
 ·intro l bb h;simp only[look]at h;split at h
  ·rename_i e;subst e;obtain rfl:=b9 h;exact .inl ⟨j,_,.tail _ (.head _),ej,rfl,.inl ⟨rfl,Ic _⟩⟩
  ·rename_i hln;rw[cA]at h;split at h
   ·rename_i e;subst e;obtain rfl:=b9 h;exact .inl ⟨0,_,.head _,e0,rfl,.inr (.inl (by simp only[sL,hob _ j nx o.w o.nd.length o.bad (show oD 0 [(0,l),(j,nx)] j=some nx by simp[oD,hb0])]))⟩
   ·rename_i hlp;rw[gM]at h;split at h
    ·cases h
    ·rename_i hl2;refine .inr ⟨by simp only[nr,aj (fun e=>hlp (Eq.symm e)),aj hln],fun i hi=>?_,h⟩;rcases bV.1 hi with hi|hi
     ·exact hlp (Prod.mk.inj hi).1
     ·exact hl2 (Prod.mk.inj (cN.1 hi)).1
def wc (hob:OT ob)(hk5:k≠5)(has:bB ak4=true)(hV:∀o,(V o).bC=true)(hmix:P.follows .mixedOrders=true)(hC:Oo P ν cP fid af)(hnp:ak4.length+1=af.np)
  (h1:look m lp=some (.buf k [ob w (.own ln 5 0 nd.length) b])) (h2:look m ln=some (.buf 5 (nd.map Nd.D))) (h3:lp<nx) (h4:ln<nx)
  (hK:∀o,Pp o->K (V o) ⟨nx,du m lp (.buf k [ob o.w (.own ln 5 0 nd.length) o.bad])⟩)
  (hw:bH ((under t key u).at 2) af.body (nb af (Je k ob nd Pp V)) (gw af (.ptr 0 k 0 0::ak4)) ⟨2,[(0,.buf k [ob w (.own 1 5 0 nd.length) b]),(1,.buf 5 (nd.map Nd.D))]⟩):qm P ν cP (under t key u) fid (.ptr lp k 0 0::ak4) ⟨nx,m⟩ K:=by
 obtain⟨hne,g2,g3,g4,g5⟩:=QN hob hk5 has h1 h2;refine BY (σi:=[(lp,0),(ln,1)]) (cs:=.ptr 0 k 0 0::ak4) (fun q=>AO t key u q) hmix hC aT g2 (by simpa using hnp) g3 g4 g5 hw ?_;rintro d m1 ⟨o,hP,rfl,e0,ej⟩;have hbl:Nat.beq lp ln=false:=by cases h:Nat.beq lp ln with
  |false=>rfl
  |true=>exact absurd (Nat.eq_of_beq_eq_true h) hne
 have hbl':Nat.beq ln lp=false:=by cases h:Nat.beq ln lp with
  |false=>rfl
  |true=>exact absurd (Nat.eq_of_beq_eq_true h).symm hne
 refine⟨[(0,lp),(1,ln)],2,⟨nx,du m lp (.buf k [ob o.w (.own ln 5 0 nd.length) o.bad])⟩,V o,⟨g3, ?_,aQ _,g4, ?_,g5, ?_⟩,.inl ⟨rfl,hV o⟩,hK o hP⟩
 ·simp[iU,hbl,hbl'];exact⟨h3,rfl,h4⟩
 ·intro i l h;rcases bV.1 h with h|h
  ·obtain⟨rfl,rfl⟩:=Prod.mk.inj h;exact .inl (.head _)
  ·obtain⟨rfl,rfl⟩:=Prod.mk.inj (cN.1 h);exact .inl (.tail _ (.head _))
 ·intro l bb h;simp only at h;rw[cA]at h;split at h
  ·rename_i e;subst e;obtain rfl:=b9 h;exact .inl ⟨0,_,.head _,e0,rfl,.inr (.inl (by simp only[sL,hob _ 1 ln o.w nd.length o.bad (show oD 0 [(0,l),(1,ln)] 1=some ln from rfl)]))⟩
  ·rename_i hlp;by_cases hl2:l=ln
   ·subst hl2;rw[h2]at h;obtain rfl:=b9 h;exact .inl ⟨1,_,.tail _ (.head _),ej,rfl,.inl ⟨rfl,Ic _⟩⟩
   ·refine .inr ⟨by simp only[nr,aj (fun e=>hlp (Eq.symm e)),aj (fun e=>hl2 (Eq.symm e))],fun i hi=>?_,h⟩;rcases bV.1 hi with hi|hi
    ·exact hlp (Prod.mk.inj hi).1
    ·exact hl2 (Prod.mk.inj (cN.1 hi)).1
def qK {a b:Nat}(h:a≠b):Nat.beq a b=false:=by
 cases h2:Nat.beq a b with
 |false=>rfl
 |true=>exact absurd (Nat.eq_of_beq_eq_true h2) h
def AA {m:List (Nat×bO)}{l lw:Nat}(h:l≠lw):fZ (cX m lw) l=match look m l with
 |some (.bld (some l2) _ _)=>cX (cX m lw) l2
 |_=>cX m lw:=by
 grind [fZ,gM,look]
def M0 {ws:List au}{s:au}{l lw:Nat}(hmix:P.follows .mixedOrders=true)(hC:Oo P ν cP fid af)(hnp:2=af.np)
  (h1:sP m l s) (h2:look m lw=some (.buf 1 (ws.map D.str))) (h3:l<nx) (h4:lw<nx) (hK:K (.tup []) ⟨nx+1,qL (cX m lw) l nx (s++bZ ws)⟩)
  (hw:∀m0,sP m0 0 s->look m0 1=some (.buf 1 (ws.map D.str))->bH ((under t key u).at 3) af.body (nb af (fun d m=>d=.tup []/\look m 0=some (.bld (some 9) (s++bZ ws).length true)/\look m 9=some (.row (s++bZ ws)))) (gw af [.ptr 0 2 0 0,.own 1 1 0 ws.length]) ⟨3,m0⟩):
  qm P ν cP (under t key u) fid [.ptr l 2 0 0,.own lw 1 0 ws.length] ⟨nx,m⟩ K:=by
 have hlw:l≠lw:=by
  rintro rfl;rcases h1 with⟨u,h,_⟩|⟨l2,u,h,_⟩<;>rw[h2]at h<;>cases h
 have hnl:bB (ws.map D.str)=true:=cg (fun _=>rfl) _;have b1:=qK hlw;have b2:=qK (Ne.symm hlw);have b3:=qK (show l≠nx by omega);have b4:=qK (show nx≠l by omega)

 have fin:∀(σi:List (Nat×Nat)) (m0:List (Nat×bO)),iU 0 3 σi=true->(l,0)∈σi->(∀l i,(l,i)∈σi->look m l≠none)->(∀i b,look m0 i=some b->∃l b',(l,i)∈σi/\look m l=some b'/\sR 0 σi b' b)->
   (∀l' b,look (fZ (cX m lw) l) l'=some b->l'≠l->look m l'=some b/\∀i,(l',i)∉σi)->∀d m1,(d=.tup []/\look m1 0=some (.bld (some 9) (s++bZ ws).length true)/\look m1 9=some (.row (s++bZ ws)))->
   ∃(σo:List (Nat×Nat)) (q1:Nat) (st':St) (vd':D),Fr σi σo 3 q1 m0 m1 ⟨nx,m⟩ st'/\R3 0 σo d vd'/\K vd' st':=by
  rintro σi m0 oki hm hlt hm0 hoff d m1 ⟨rfl,e0,e9⟩;refine⟨[(0,l),(9,nx)],10,⟨nx+1,qL (cX m lw) l nx (s++bZ ws)⟩,.tup [],⟨oki, ?_,Nat.le_succ _,hlt, ?_,hm0, ?_⟩,.inl ⟨rfl,rfl⟩,hK⟩
  ·simp[iU,b3,b4];exact⟨ae,rfl⟩
  ·intro i l' h;rcases bV.1 h with h|h
   ·obtain⟨rfl,rfl⟩:=Prod.mk.inj h;exact .inl hm
   ·obtain⟨rfl,rfl⟩:=Prod.mk.inj (cN.1 h);exact .inr (aQ _)
  ·intro l' bb h;simp only[qL,look]at h;split at h
   ·rename_i e;subst e;obtain rfl:=b9 h;exact .inl ⟨9,_,.tail _ (.head _),e9,rfl⟩
   ·rename_i hln;rw[cA]at h;split at h
    ·rename_i e;subst e;obtain rfl:=b9 h;exact .inl ⟨0,_,.head _,e0,⟨nx,rfl,rfl⟩,rfl,rfl⟩
    ·rename_i hl;obtain⟨g1,g2⟩:=hoff l' bb h hl;exact .inr ⟨by simp only[nr,aj (fun e=>hl (Eq.symm e)),aj hln],g2,g1⟩
 rcases h1 with⟨u,h1,rfl⟩|⟨l2,u,h1,h5⟩
 ·have g4:∀l' i,(l',i)∈[(l,0),(lw,1)]->look m l'≠none:=by
   intro l' i h;rcases bV.1 h with h|h
   ·obtain⟨rfl,rfl⟩:=Prod.mk.inj h;rw[h1];simp
   ·obtain⟨rfl,rfl⟩:=Prod.mk.inj (cN.1 h);rw[h2];simp
  have g3:iU 0 3 [(l,0),(lw,1)]=true:=by simp[iU,b1,b2];rfl
  have g5:∀i b,look [(0,bO.bld none 0 u),(1,.buf 1 (ws.map D.str))] i=some b->∃l' b',(l',i)∈[(l,0),(lw,1)]/\look m l'=some b'/\sR 0 [(l,0),(lw,1)] b' b:=by
   intro i b h;simp only[look]at h;split at h
   ·rename_i e;subst e;obtain rfl:=b9 h;exact⟨l,_,.head _,h1,rfl,rfl,rfl⟩
   ·split at h
    ·rename_i e;subst e;obtain rfl:=b9 h;exact⟨lw,_,.tail _ (.head _),h2,rfl,.inl ⟨rfl,hnl⟩⟩
    ·cases h
  refine BY (σi:=[(l,0),(lw,1)]) (cs:=[.ptr 0 2 0 0,.own 1 1 0 ws.length]) (fun q=>AO t key _ q) hmix hC rfl ?_ hnp g3 g4 g5 (hw _ (.inl ⟨u,rfl,rfl⟩) rfl) (fin _ _ g3 (.head _) g4 g5 ?_)
  ·intro i hi
   match i,hi with
   |0,_=>exact .inr (.inl (by simp[vg,Kf,oD]))
   |1,_=>exact .inr (.inl (by simp[vg,Kf,oD,b1]))
  ·intro l' b h hl;rw[AA hlw]at h;simp only[h1]at h;rw[gM]at h;split at h
   ·cases h
   ·rename_i hw';refine⟨h,fun i hi=>?_⟩;rcases bV.1 hi with hi|hi
    ·exact hl (Prod.mk.inj hi).1
    ·exact hw' (Prod.mk.inj (cN.1 hi)).1
 ·have c1:l2≠l:=by rintro rfl;rw[h1]at h5;cases h5
  have c2:l2≠lw:=by rintro rfl;rw[h2]at h5;cases h5
  have d1:=qK c1;have d2:=qK c2;have d3:=qK (Ne.symm c1);have d4:=qK (Ne.symm c2);have g4:∀l' i,(l',i)∈[(l,0),(lw,1),(l2,2)]->look m l'≠none:=by
   intro l' i h;rcases bV.1 h with h|h
   ·obtain⟨rfl,rfl⟩:=Prod.mk.inj h;rw[h1];simp
   ·rcases bV.1 h with h|h
    ·obtain⟨rfl,rfl⟩:=Prod.mk.inj h;rw[h2];simp
    ·obtain⟨rfl,rfl⟩:=Prod.mk.inj (cN.1 h);rw[h5];simp
  have g3:iU 0 3 [(l,0),(lw,1),(l2,2)]=true:=by simp[iU,b1,b2,d1,d2,d3,d4];exact⟨⟨rfl,rfl⟩,rfl⟩
  have g5:∀i b,look [(0,bO.bld (some 2) s.length u),(1,.buf 1 (ws.map D.str)),(2,.row s)] i=some b->∃l' b',(l',i)∈[(l,0),(lw,1),(l2,2)]/\look m l'=some b'/\sR 0 [(l,0),(lw,1),(l2,2)] b' b:=by
   intro i b h;simp only[look]at h;split at h
   ·rename_i e;subst e;obtain rfl:=b9 h;exact⟨l,_,.head _,h1,⟨2,by simp[oD,d3,d4],rfl⟩,rfl,rfl⟩
   ·split at h
    ·rename_i e;subst e;obtain rfl:=b9 h;exact⟨lw,_,.tail _ (.head _),h2,rfl,.inl ⟨rfl,hnl⟩⟩
    ·split at h
     ·rename_i e;subst e;obtain rfl:=b9 h;exact⟨l2,_,.tail _ (.tail _ (.head _)),h5,rfl⟩
     ·cases h
  refine BY (σi:=[(l,0),(lw,1),(l2,2)]) (cs:=[.ptr 0 2 0 0,.own 1 1 0 ws.length]) (fun q=>AO t key _ q) hmix hC rfl ?_ hnp g3 g4 g5 (hw _ (.inr ⟨2,u,rfl,rfl⟩) rfl) (fin _ _ g3 (.head _) g4 g5 ?_)
  ·intro i hi
   match i,hi with
   |0,_=>exact .inr (.inl (by simp[vg,Kf,oD]))
   |1,_=>exact .inr (.inl (by simp[vg,Kf,oD,b1]))
  ·intro l' b h hl;rw[AA hlw]at h;simp only[h1]at h;rw[gM]at h;split at h
   ·cases h
   ·rename_i hw2;rw[gM]at h;split at h
    ·cases h
    ·rename_i hw';refine⟨h,fun i hi=>?_⟩;rcases bV.1 hi with hi|hi
     ·exact hl (Prod.mk.inj hi).1
     ·rcases bV.1 hi with hi|hi
      ·exact hw' (Prod.mk.inj hi).1
      ·exact hw2 (Prod.mk.inj (cN.1 hi)).1
end
end
theorem vT {α:Type}{f:α->D}(hf:∀x y,f x=f y↔x=y):∀a b:List α,a.map f=b.map f↔a=b
 |[],[]=>aT
 |[],_::_=>aT
 |_::_,[]=>aT
 |x::a,y::b=>by simp only[List.map_cons,uf,hf,vT hf a b]
def Tb (a b:Nat):((a:Nat):Int)=(b:Nat)↔a=b:=ae
theorem iU8 (x y:UInt8):((x.toNat:Nat):Int)=(y.toNat:Nat)↔x=y:=(Tb _ _).trans iL
def MP (a b:List au):a.map D.str=b.map D.str↔a=b:=vT (fun _ _=>aT) a b
def iInt (a b:List Int):a.map (D.int .i64)=b.map (D.int .i64)↔a=b:=vT (fun _ _=>aT) a b
def iByt (a b:au):(a.map fun c=>D.int .u8 c.toNat)=(b.map fun c=>D.int .u8 c.toNat)↔a=b:=by grind [vT,iU8]
def iVer (a b:cY):cY.D a=cY.D b↔a=b:=by cases a;cases b;simp[cY.D]
def UD (a b:cq):cq.D a=cq.D b↔a=b:=by cases a;cases b;simp[cq.D,MP]
def PU (a b:List cq):a.map cq.D=b.map cq.D↔a=b:=vT UD a b
def UC (a b:cb):cb.D a=cb.D b↔a=b:=by cases a;cases b;simp[cb.D,PU]
def HS (a b:List cb):a.map cb.D=b.map cb.D↔a=b:=vT UC a b
def iBar (a b:jL):jL.D a=jL.D b↔a=b:=by cases a;cases b;simp[jL.D]
def PT (a b:List jL):a.map jL.D=b.map jL.D↔a=b:=vT iBar a b
def UB (a b:cu):cu.D a=cu.D b↔a=b:=by cases a;cases b;simp[cu.D,MP]
def HR (a b:List cu):a.map cu.D=b.map cu.D↔a=b:=vT UB a b
def iRec (a b:Rec):Rec.D a=Rec.D b↔a=b:=by
 obtain⟨n,⟨v1,v2,v3,v4,v5⟩,x,y,z⟩:=a;obtain⟨n',⟨w1,w2,w3,w4,w5⟩,x',y',z'⟩:=b;simp[Rec.D,HS,PT,HR,and_assoc]
def iCmp (a b:dp):dp.D a=dp.D b↔a=b:=by
 obtain⟨n,p,v1,v2,v3,v4,v5⟩:=a;obtain⟨n',p',w1,w2,w3,w4,w5⟩:=b;simp[dp.D]
def Uz (a b:List dp):a.map dp.D=b.map dp.D↔a=b:=vT iCmp a b
def iNd (a b:Nd):Nd.D a=Nd.D b↔a=b:=by cases a;cases b;simp[Nd.D]
def iNds (a b:List Nd):a.map Nd.D=b.map Nd.D↔a=b:=vT iNd a b
def Wm (a b:Alt):qI a=qI b↔a=b:=by simp[qI,Uz]
def iRng (a b:y7):im a=im b↔a=b:=by simp[im,vT Wm]
def iAlts (a b:List Alt):a.map qI=b.map qI↔a=b:=vT Wm a b
def iMrk (a b:Un):lh a=lh b↔a=b:=by simp[lh,iNds]
def iLd (a b:Ld):Ld.D a=Ld.D b↔a=b:=by cases a;cases b;simp[Ld.D,MP,Tb]
def iPr (w w':List au)(x x':D)(b b':Bool):iA w x b=iA w' x' b'↔w=w'/\x=x'/\b=b':=by simp[iA,MP]
def SE {A:FT->Prop}(h:A (fun d ds v s=>A fun d' ds' v' s'=>d'=d->ds'=ds->v=v'/\s=s'):=by
 (repeat' first|apply And.intro|intro _)
 all_goals rename_i e' e
 all_goals (try simp only[uf,D.str.injEq,D.int.injEq,D.bool.injEq,D.sl.injEq,iLd,MP,iU8,iL,Tb,cL,cO]at e e')
 all_goals first|rfl|(simp only[e,e'];done)|simp_all):y5 (oP A):=SF h
def kp (l:List Int)(i:Int):Int:=if i<0\/(l.length:Int)<=i then 0 else l[i.toNat]!
def TC {v n:Int}(h:0<n)(h2:¬v.tmod n<0):v.tmod n=v%n:=by
 rw[Int.tmod_eq_emod];rw[Int.tmod_eq_emod]at h2;have h3:=Int.emod_nonneg v (show n≠0 by omega);have h4:=Int.emod_lt_of_pos v h
 grind
def TB {v n:Int}(h:0<n)(h2:v.tmod n<0):v.tmod n+n=v%n:=by
 rw[Int.tmod_eq_emod]at h2⊢;have h3:=Int.emod_nonneg v (show n≠0 by omega)
 grind
def fI (l:List Int)(i n:Int):Int:=kp l i%n
def dt (l:List Int)(i n:Int)(h:0<n):0<=fI l i n/\fI l i n<n:=⟨Int.emod_nonneg _ ae,Int.emod_lt_of_pos _ h⟩
def j7 (v n:Int)(h:0<n):0<=v%n/\v%n<n:=⟨Int.emod_nonneg _ ae,Int.emod_lt_of_pos _ h⟩
theorem ux {α:Type} [Inhabited α]{q:α->D}(xs:List α){j:Nat}(h:j<xs.length):cut (xs.map q) (j*1) 1 false=q xs[j]! :=by
 show(xs.map q).getD (j*1) .any=_;rw[Nat.mul_one];exact getD_map h
def H2 {α:Type} [Inhabited α]{q:α->D}(xs:List α){j n:Nat}(h:j<xs.length)(hn:(1==n)=false):oo (.agg (xs.map q)) n 1 (0+j*1) false=q xs[j]! :=by
 have hc:(D.agg (xs.map q)).cells=xs.map q:=by
  rfl
 grind [oo,ux]
def Qh:List au:=[[97,112,112],[98],[99],[100],[101,45,50]]
def eK (n:Int):au:=Qh[(n%5).toNat]!
def TX:List au:=[[120],[121],[122],[119,95,49]]
def ml (n:Int):au:=TX[(n%4).toNat]!
def Ik:List Int:=[9,7,6,3,1,2]
def xu (l:List Int)(i:Int):dp:=⟨Ik[(fI l i 6).toNat]!,3,⟨fI l (i+1) 3,fI l (i+2) 2,0,[],[]⟩⟩
def tz (l:List Int)(i:Int):au:=if(xu l i).op=9 then [42]else dV (xu l i)
def B7:List au:=[[111,115],[97,114,99,104],[97,98,105]]
def Mt:List au:=[[32,61,32],[32,33,61,32]]
def mi (l:List Int)(i:Int):au:=if 2<fI l i 6 then []else B7[(fI l i 6).toNat]! ++Mt[(fI l (i+1) 2).toNat]! ++ml (1+fI l (i+1) 3)
def AY:List au:=[[120],[121]]
def oN (l:List Int)(i:Int)(alone:Bool):List au:=if alone=true/\2<fI l (i+5) 5 then AY.take (fI l (i+5) 5-2).toNat else []
def mj (l:List Int)(i own:Int)(alone:Bool):cq:=⟨eK (own+1+fI l i 4),tz l (i+1),oN l i alone,decide (fI l (i+4) 3=0)⟩
def fM (l:List Int)(i:Int):Nat:=if fI l i 5=1 then 2 else 1
def tx (l:List Int)(i own:Int)(k:Nat):List cq:=(List.range k).map fun(k:Nat)=>mj l (i+1+6*(k:Nat)) own (decide ((fM l i:Int)=1))
def gY (l:List Int)(i own:Int):cb:=⟨tx l i own (fM l i),mi l (i+14),if fI l (i+16) 4=1 then ml (kp l (i+17))else []⟩
def MF (l:List Int)(i own:Int)(k:Nat):tx l i own (k+1)=tx l i own k++[mj l (i+1+6*(k:Nat)) own (decide ((fM l i:Int)=1))]:=by
 unfold tx;rw[List.range_succ,List.map_append];rfl
def zD (l:List Int)(i:Int):fM l i<=2:=by
 unfold fM;split<;>omega
def lQ (s:au):List au->Nat
 |[]=>0
 |a::r=>if Op.bytesLess a s=true then lQ s r+1 else 0
def gN (l:List au)(s:au):List au:=if lQ s l<l.length/\l[lQ s l]! =s then l else l.take (lQ s l)++[s]++l.drop (lQ s l)
def DQ (s:au):∀l:List au,lQ s l<=l.length
 |[]=>aQ _
 |a::r=>by
  have:=DQ s r
  grind [lQ]
def DR (s:au):∀(l:List au) (i:Nat),i<lQ s l->Op.bytesLess l[i]! s=true
 |[],i,h=>by simp[lQ]at h
 |a::r,i,h=>by
  simp only[lQ]at h;split at h
  ·rename_i ha;cases i with
   |zero=>simpa using ha
   |succ i=>simpa using DR s r i ae
  ·omega
def wg (s:au):∀l:List au,lQ s l<l.length->Op.bytesLess l[lQ s l]! s=false
 |[],h=>by simp at h
 |a::r,h=>by
  simp only[lQ]at h⊢;split
  ·rename_i ha;rw[ax ha]at h;simpa using wg s r (by simpa using h)
  ·rename_i ha;simpa using ha
def Hx (n b:Int):Int:=IntKind.wrap .i64 (((BitVec.ofInt 64 (n.fdiv (2^(min b.toNat 64))))&&&(BitVec.ofInt 64 1)).toNat)
def nu:List au:=[Ut,[120],[121],[122]]
def PC (r:Rec)(n:Int)(of:List au)(j:Nat):List au:=if ¬r.needs[j]!.option=[]/\Hx n (3+(j:Nat))=1 then gN of ([63]++r.needs[j]!.option)else of
def Uv (r:Rec)(n:Int)(of:List au)(j:Nat):List au:=if r.needs[j]!.any.length=1/\Hx n (5+(j:Nat))=1 then gN of (r.needs[j]!.any[0]!.name++[47]++[120])else of
def Uw (r:Rec)(n:Int)(of:List au)(j:Nat):List au:=Uv r n (PC r n of j) j
def qB (r:Rec)(n:Int)(j:Nat):List au:=(List.range j).foldl (Uw r n) []
def SU (l:List Int)(i:Int)(n:Int)(k:Nat)(of:List au):List au:=if(k<3/\Hx n 7=1)/\¬kp l (i+(k:Nat)+1)%3=0 then gN of nu[k+1]! else of
def Xr (l:List Int)(i:Int)(r:Rec)(k:Nat):Option cu:=if kp l (i+(k:Nat))%3=0 then none else some ⟨nu[k]!,SU l i (kp l (i+(k:Nat))) k (qB r (kp l (i+(k:Nat))) (min r.needs.length 2))⟩
def PD (l:List Int)(i:Int)(r:Rec)(k:Nat):List cu:=(List.range k).filterMap (Xr l i r)
def jT (l:List Int)(i:Int)(r:Rec):List cu:=PD l i r 4
theorem pc (r:Rec)(n:Int)(j:Nat):qB r n (j+1)=Uw r n (qB r n j) j:=by
 unfold qB;rw[List.range_succ,List.foldl_append];rfl
def Wg {l:List Int}{i:Int}{r:Rec}{k:Nat}(h:kp l (i+(k:Nat))%3=0):PD l i r (k+1)=PD l i r k:=by
 unfold PD;rw[List.range_succ,List.filterMap_append];simp[Xr,h]
def Js {l:List Int}{i:Int}{r:Rec}{k:Nat}{of:List au}(h:¬kp l (i+(k:Nat))%3=0)(ho:SU l i (kp l (i+(k:Nat))) k (qB r (kp l (i+(k:Nat))) (min r.needs.length 2))=of):PD l i r (k+1)=PD l i r k++[⟨nu[k]!,of⟩]:=by
 unfold PD;rw[List.range_succ,List.filterMap_append];simp[Xr,h,ho]
theorem rz (l:List au)(s:au):(gN l s).length<=l.length+1:=by
 grind [gN]
theorem SR (r:Rec)(n:Int)(of:List au)(j:Nat):(PC r n of j).length<=of.length+1:=by
 grind [PC,rz]
theorem SS (r:Rec)(n:Int)(of:List au)(j:Nat):(Uv r n of j).length<=of.length+1:=by
 grind [Uv,rz]
def Dk (r:Rec)(n:Int):∀j,(qB r n j).length<=2*j
 |0=>by simp[qB]
 |j+1=>by
  have h1:=Dk r n j
  grind [SR,qB,SS,PC,pc,Uw]
def nB (n:Int):(eK n).length<=3:=by
 obtain⟨h1,h2⟩:=j7 n 5 aG;unfold eK;have:(n%5).toNat<5:=ae;revert this;generalize (n%5).toNat=k;revert k;decide
def vK (n:Int):(ml n).length<=3:=by
 obtain⟨h1,h2⟩:=j7 n 4 aG;unfold ml;have:(n%4).toNat<4:=ae;revert this;generalize (n%4).toNat=k;revert k;decide
def MS (k:Nat)(h:k<3):(B7[k]!).length<=4:=by
 revert k;decide
def Pr (k:Nat)(h:k<2):(Mt[k]!).length<=4:=by
 revert k;decide
def SK (l:List Int)(i:Int):(xu l i).v.sm:=⟨by simp[xu],by simp[xu]⟩
def Rb:au:=[114,99,46,49]
def tA (l:List Int)(i:Int):au:=if fI l (i+2) 9=1 then Rb else []
def zB (l:List Int)(i:Int):au:=if fI l (i+2) 9=2 then [55]else []
def ML (l:List Int)(i:Int):cY:=⟨fI l i 3,fI l (i+1) 2,0,tA l i,zB l i⟩
def gK (l:List Int)(i:Int):Nat:=(fI l (i+3) 4%3).toNat
def gK_eq (l:List Int)(i:Int):(fI l (i+3) 4).tmod 3=(gK l i:Int):=by
 have h:=dt l (i+3) 4 aG;rw[Int.tmod_eq_emod_of_nonneg h.1];unfold gK;omega
def Ux (l:List Int)(i:Int):gK l i<=2:=by unfold gK;omega
def Fc (l:List Int)(i own:Int)(n:Nat):List cb:=(List.range n).map fun(q:Nat)=>gY l (i+4+20*((gK l i-q:Nat):Int) -20) own
def PH {l:List Int}{i own:Int}{k:Nat}(hk:k<=gK l i)(h0:0<k):Fc l i own (gK l i-(k-1))=Fc l i own (gK l i-k)++[gY l (i+4+20*(k:Int) -20) own]:=by
 rw[show gK l i-(k-1)=(gK l i-k)+1 by omega];unfold Fc;rw[List.range_succ,List.map_append,List.map_singleton,show gK l i-(gK l i-k)=k by omega]
def q9 (l:List Int)(i own:Int):List cb:=Fc l i own (gK l i)
def zA (l:List Int)(i own:Int):jL:=⟨eK (own+1+fI l (i+46) 4),tz l (i+47),mi l (i+50)⟩
def qY (l:List Int)(i own:Int):List jL:=if fI l (i+45) 5=1 then [zA l i own]else []
def ph (l:List Int)(i own:Int):Rec:=⟨eK own,ML l i,q9 l i own,qY l i own,[]⟩
def Bd (l:List Int)(i own:Int):Rec:={ph l i own with feats:=jT l (i+52) (ph l i own)}
def ME {l:List Int}{i own:Int}{k:Nat}{w:cq}(h:w∈tx l i own k):w.name.length<=3:=by
 obtain⟨q,_,rfl⟩:=dX.1 h;exact nB _
def vH (l:List Int)(i own:Int):(gY l i own).option.length<=3:=by
 show(if _ then _ else _:au).length<=3;split
 ·exact vK _
 ·simp
def MJ (l:List Int)(i own:Int):∀j:Nat,j<(ph l i own).needs.length->(ph l i own).needs[j]!.option.length<=100/\((ph l i own).needs[j]!.any.length=1->(ph l i own).needs[j]!.any[0]!.name.length<=100):=by
 intro j hj;have hm:=bA hj;obtain⟨q,_,hq⟩:=dX.1 hm;rw[<-hq];generalize i+4+20*((gK l i-q:Nat):Int) -20=x;refine⟨c9 (vH _ _ _) aG,fun h=>?_⟩;have h2:=bA (l:=(gY l x own).any) (i:=0) ae;exact c9 (ME (k:=fM l x) h2) aG
def FB:∀a b:au,Op.bytesLess a b=false->a≠b->Op.bytesLess b a=true
 |[],[],_,h=>absurd rfl h
 |[],_::_,h,_=>by simp[Op.bytesLess]at h
 |_::_,[],_,_=>by simp[Op.bytesLess]
 |x::a,y::b,h,hn=>by
  simp only[Op.bytesLess,dW,bD,dT,beq_eq_false_iff_ne]at h;simp only[Op.bytesLess,dh,aW,bw,beq_iff_eq];obtain⟨h1,h2⟩:=h;by_cases e:x=y
  ·subst e;refine .inr ⟨rfl,FB a b (h2.resolve_left fun h=>h rfl) fun e=>hn (by rw[e])⟩
  grind
def Am {l:List au}{s t:au}(h:t∈gN l s):t∈l\/t=s:=by
 grind [gN]
def IU (l:List au):rising l=true↔∀i,1<=i->i<l.length->Op.bytesLess l[i-1]! l[i]! =true:=by
 unfold rising;rw[eD]
def rA {l:List au}{s:au}(h:rising l=true):rising (gN l s)=true:=by
 unfold gN;split
 ·exact h
 ·rename_i hn;rw[IU]at h⊢;have hl:=DQ s l;have hlt:=DR s l;have hst:=wg s l;generalize lQ s l=k at hn hl hlt hst⊢;have hlen:(l.take k++[s]++l.drop k).length=l.length+1:=by
   simp only[bG,fj,mV,ay,aB];omega
  have g1:∀j,j<k->(l.take k++[s]++l.drop k)[j]! =l[j]! :=fun j hj=>by
   have a:j<(l.take k).length:=by rw[fj];omega
   have b:j<l.length:=ae;rw[dS,getElem!_pos _ _ (by rw[bG];omega),List.getElem_append_left a,List.getElem_take,getElem!_pos l j b]
  have g2:(l.take k++[s]++l.drop k)[k]! =s:=by
   have a:(l.take k).length=k:=by rw[fj];omega
   rw[dS,getElem!_pos _ _ (by simp only[bG,a,ay];omega),List.getElem_append_right ae];simp[a]
  have g3:∀j,k<j->j<l.length+1->(l.take k++[s]++l.drop k)[j]! =l[j-1]! :=fun j hj hj2=>by
   have a:(l.take k).length=k:=by rw[fj];omega
   have b:(l.take k++[s]).length=k+1:=by rw[bG,a];rfl
   rw[getElem!_pos _ _ (by rw[hlen];omega),List.getElem_append_right ae,List.getElem_drop,getElem!_pos l (j-1) ae];congr 1;omega
  intro i h1 h2;rw[hlen]at h2;rcases Nat.lt_trichotomy i k with hik|hik|hik
  ·rw[g1 i hik,g1 (i-1) ae];exact h i h1 ae
  ·subst hik;rw[g2,g1 (i-1) ae];exact hlt _ ae
  ·rw[g3 i hik h2];by_cases he:i=k+1
   ·subst he;rw[show k+1-1=k from rfl,g2];exact FB _ _ (hst ae) fun e=>hn ⟨ae,e⟩
   ·rw[g3 (i-1) ae ae];exact h (i-1) ae ae
def Ig:∀k,k<5->dJ Qh[k]! =true/\Qh[k]!.length<=3/\dq (Qh[k]! ++[47]++[120])=((3:Int),Qh[k]!,([120]:au)):=by decide+kernel
theorem WC:∀a,a<5->∀b,b<5->a≠b->Qh[a]! ≠Qh[b]! :=by decide+kernel
def Xk:∀k,k<4->cG TX[k]! =true/\dq (([63]:au)++TX[k]!)=((2:Int),TX[k]!,([]:au)):=by decide+kernel
def fewT (k a b:Nat):au:=if Ik[k]! =9 then [42]else dV ⟨Ik[k]!,3,⟨(a:Nat),(b:Nat),0,[],[]⟩⟩
def TM (s:au):Prop:=sw s=true/\s.length<=8/\s≠[]/\(∀c∈s,c≠10)
instance (s:au):Decidable (TM s):=by unfold TM;infer_instance
def FF (s:au):Prop:=qa s=true/\s.length<=16/\(∀c∈s,c≠10)
instance (s:au):Decidable (FF s):=by unfold FF;infer_instance
def SL:∀k,k<6->∀a,a<3->∀b,b<2->TM (fewT k a b):=by decide+kernel
theorem RN:∀k,k<3->∀a,a<2->∀b,b<4->FF (B7[k]! ++Mt[a]! ++TX[b]!):=by decide+kernel
def pg (n:Int):(n%5).toNat<5/\eK n=Qh[(n%5).toNat]! :=by
 have:=j7 n 5 aG;exact⟨ae,rfl⟩
def qZ (n:Int):dJ (eK n)=true/\(eK n).length<=3:=⟨(Ig _ (pg n).1).1,(Ig _ (pg n).1).2.1⟩
def Fb (own d:Int)(h0:0<=d)(h1:d<4):eK (own+1+d)≠eK own:=by
 have a:=pg (own+1+d);have b:=pg own
 grind [WC]
def Fe (n:Int):(n%4).toNat<4/\ml n=TX[(n%4).toNat]! :=by
 have:=j7 n 4 aG;exact⟨ae,rfl⟩
theorem ra (n:Int):cG (ml n)=true/\dq (([63]:au)++ml n)=((2:Int),ml n,([]:au)):=Xk _ (Fe n).1
def pZ (l:List Int)(i:Int):TM (tz l i):=by
 have a:=dt l i 6 aG;have b:=dt l (i+1) 3 aG;have c:=dt l (i+2) 2 aG;have:=SL (fI l i 6).toNat ae (fI l (i+1) 3).toNat ae (fI l (i+2) 2).toNat ae
 grind [fewT,fI,tz,xu]
def M9:FF []:=by decide+kernel
def nT (l:List Int)(i:Int):FF (mi l i):=by
 unfold mi;split
 ·exact M9
 ·rename_i h;have a:=dt l i 6 aG;have b:=dt l (i+1) 2 aG;have c:=Fe (1+fI l (i+1) 3)
  grind [RN]
def wS {f:Nat->Int}{n:Nat}(h:∀j,j<n->f j=0):fg f 0 n=0:=by
 have:∀k i,i+k=n->fg f i n=0:=by
  intro k;induction k with
  |zero=>intro i e;exact ny ae
  |succ k ih=>intro i e;rw[nA ae (h i ae)];exact ih (i+1) ae
 exact this n 0 ae
def qW {f:Nat->Int}{n:Nat}(h:∀j,j<n->f j=0):ig f 0 n=(0,0):=by
 have:∀k i,i+k=n->ig f i n=(0,0):=by
  intro k;induction k with
  |zero=>intro i e;exact lC ae
  |succ k ih=>intro i e;rw[lD ae (h i ae)];exact ih (i+1) ae
 exact this n 0 ae
def CS {r:Rec}{nm rg:au}(h1:dJ nm=true)(h2:nm≠r.name)(h3:sw rg=true):fG r nm rg=0:=by
 grind [fG]
def RV:∀n,jq (AY.take n) true=true
 |0=>aG
 |1=>aG
 |n+2=>by
  have:AY.take (n+2)=AY:=ek (by simp[AY]);rw[this];decide
theorem MM (l:List Int)(i:Int)(al:Bool):jq (oN l i al) al=true:=by
 unfold oN;split
 ·rename_i h;rw[h.1];exact RV _
 ·cases al<;>decide
def Oe {r:Rec}{own:Int}(hr:r.name=eK own)(l:List Int)(i:Int)(al:Bool):jt r (mj l i own al) al=0:=by
 have h:=dt l i 4 aG;have h1:=CS (r:=r) (qZ (own+1+fI l i 4)).1 (by rw[hr];exact Fb own _ h.1 h.2) (pZ l (i+1)).1;unfold jt;show(if fG r (eK (own+1+fI l i 4)) (tz l (i+1))≠0 then _ else if jq (oN l i al) al=false then _ else _)=_
 grind [MM]
def Fa (l:List Int)(i own:Int)(k:Nat):(tx l i own k).length=k:=by simp[tx]
def E9 {l:List Int}{i own:Int}{k j:Nat}(h:j<k):(tx l i own k)[j]! =mj l (i+1+6*(j:Nat)) own (decide ((fM l i:Int)=1)):=by
 grind [tx]
def BV (l:List Int)(i:Int):1<=fM l i:=by unfold fM;split<;>omega
def Dn (l:List Int)(i own:Int):(gY l i own).option=[]\/∃n,(gY l i own).option=ml n:=by
 show(if _ then _ else _:au)=[]\/_;split
 ·rename_i h;exact .inr ⟨kp l (i+17),ax h⟩
 ·exact .inl rfl
def Nb {r:Rec}{own:Int}(hr:r.name=eK own)(l:List Int)(i:Int):iN r (gY l i own)=0:=by
 have hl:(gY l i own).any.length=fM l i:=Fa _ _ _ _;have h1:=BV l i;have h2:=zD l i;unfold iN;rw[aj (by rw[hl];omega),aj (by rw[hl];omega)];have hw:me r (gY l i own).any=0:=by
  unfold me;refine wS fun j hj=>?_
  rw[hl]at hj⊢;show jt r (tx l i own (fM l i))[j]! _=0;rw[E9 hj];exact Oe hr l _ _
 rw[hw,aj aT,aj (by rw[show(gY l i own).when'=mi l (i+14)from rfl,(nT l (i+14)).1];simp)];rcases Dn l i own with h|⟨n,h⟩
 ·rw[aj (by rw[h];simp)]
 grind [ra]
def SW (l:List Int)(i own:Int)(n:Nat):(Fc l i own n).length=n:=by simp[Fc]
def uL {l:List Int}{i own:Int}{n:Nat}{x:cb}(h:x∈Fc l i own n):∃k:Int,x=gY l k own:=by
 obtain⟨q,_,rfl⟩:=dX.1 h;exact⟨_,rfl⟩
def Ie {r:Rec}{l:List Int}{i own:Int}(hr:r.name=eK own)(hn:r.needs=q9 l i own):lK r=(0,0):=by
 unfold lK;refine qW fun j hj=>?_
 obtain⟨k,hk⟩:=uL (show r.needs[j]! ∈Fc l i own (gK l i)by rw[show Fc l i own (gK l i)=r.needs from hn.symm];exact bA hj);rw[hk];exact Nb hr l k
def O5 {r:Rec}{own:Int}(hr:r.name=eK own)(l:List Int)(i:Int):oT r (zA l i own)=0:=by
 have h:=dt l (i+46) 4 aG;have h1:=CS (r:=r) (qZ (own+1+fI l (i+46) 4)).1 (by rw[hr];exact Fb own _ h.1 h.2) (pZ l (i+47)).1;unfold oT;show(if fG r (eK (own+1+fI l (i+46) 4)) (tz l (i+47))≠0 then _ else if qa (mi l (i+50))=false then _ else _)=_;rw[h1,aj aT,(nT l (i+50)).1,aj aT]
def BU {l:List Int}{i own:Int}{b:jL}(h:b∈qY l i own):b=zA l i own:=by
 grind [qY]
def Xn (l:List Int)(i:Int)(r:Rec)(t:au):Prop:=(∃m∈r.needs,m.option≠[]/\t=[63]++m.option)\/(∃m∈r.needs,m.any.length=1/\t=m.any[0]!.name++[47]++[120])\/∃k,k<3/\¬kp l (i+(k:Nat)+1)%3=0/\t=nu[k+1]!
def PE (l:List Int)(i:Int)(r:Rec)(n:Int):∀j,j<=r.needs.length->rising (qB r n j)=true/\∀t∈qB r n j,Xn l i r t
 |0,_=>⟨rfl,fun t ht=>by simp[qB]at ht⟩
 |j+1,hj=>by
  obtain⟨h1,h2⟩:=PE l i r n j ae;have hm:r.needs[j]! ∈r.needs:=bA ae;have hA:rising (PC r n (qB r n j) j)=true/\∀t∈PC r n (qB r n j) j,Xn l i r t:=by
   unfold PC;split
   ·rename_i h;refine⟨rA h1,fun t ht=>?_⟩;rcases Am ht with ht|rfl
    ·exact h2 t ht
    ·exact .inl ⟨_,hm,h.1,rfl⟩
   ·exact⟨h1,h2⟩
  obtain⟨h3,h4⟩:=hA;rw[pc,Uw];unfold Uv;split
  ·rename_i h;refine⟨rA h3,fun t ht=>?_⟩;rcases Am ht with ht|rfl
   ·exact h4 t ht
   ·exact .inr (.inl ⟨_,hm,h.1,rfl⟩)
  ·exact⟨h3,h4⟩
theorem Wf (l:List Int)(i:Int)(r:Rec)(n:Int)(k j:Nat)(hj:j<=r.needs.length):rising (SU l i n k (qB r n j))=true/\(∀t∈SU l i n k (qB r n j),Xn l i r t)/\(SU l i n k (qB r n j)).length<=2*j+1:=by
 obtain⟨h1,h2⟩:=PE l i r n j hj;have h3:=Dk r n j;unfold SU;split
 ·rename_i h;refine⟨rA h1,fun t ht=>?_,c9 (rz _ _) ae⟩;rcases Am ht with ht|rfl
  ·exact h2 t ht
  ·exact .inr (.inr ⟨k,h.1.1,h.2,rfl⟩)
 ·exact⟨h1,h2,ae⟩
def pY {l:List Int}{i:Int}{r:Rec}{f:cu}(h:f∈jT l i r):∃k,k<4/\f.name=nu[k]! /\¬kp l (i+(k:Nat))%3=0/\rising f.of=true/\(∀t∈f.of,Xn l i r t)/\f.of.length<=5:=by
 obtain⟨k,hk,he⟩:=List.mem_filterMap.1 h
 grind [Xr,Wf,kp]
def HM {l:List Int}{i:Int}{r:Rec}{k:Nat}(hk:k<4)(h:¬kp l (i+(k:Nat))%3=0):∃f∈jT l i r,f.name=nu[k]! :=by
 have e:Xr l i r k=some ⟨nu[k]!,SU l i (kp l (i+(k:Nat))) k (qB r (kp l (i+(k:Nat))) (min r.needs.length 2))⟩:=aj h;exact⟨_,List.mem_filterMap.2 ⟨k,List.mem_range.2 hk,e⟩,rfl⟩
def Mz {fs:List cu}{nm:au}(h:∃f∈fs,f.name=nm):0<=findF fs nm 0:=by
 grind [findF]
theorem FI:∀k,k<4->dq nu[k]! =((1:Int),nu[k]!,([]:au))/\cG nu[k]! =true:=by decide+kernel
theorem Qi:∀a,a<4->∀b,b<4->a<b->Op.bytesLess nu[a]! nu[b]! =true:=by decide+kernel
theorem MH (l:List Int)(i:Int)(r:Rec):(jT l i r).Pairwise fun a b=>Op.bytesLess a.name b.name=true:=by
 unfold jT PD;refine List.Pairwise.filterMap _ (R:=fun a b=>a<b/\b<4) ?_ aG
 grind [Xr,nu,Qi]
def zC (l:List Int)(i:Int)(r:Rec):(jT l i r).length<=4:=by
 grind [jT,PD]
def NdG (r:Rec):Prop:=∀m∈r.needs,(m.option=[]\/∃n,m.option=ml n)/\(m.any.length=1->∃n,m.any[0]!.name=eK n)
def Fu {l:List Int}{i:Int}{r r2:Rec}{t:au}(h:Xn l i r t)(hr:NdG r)(hn:r2.needs=r.needs)(hf:r2.feats=jT l i r):iH r2.feats t=true/\jH r2 t=0/\t.length<=7:=by
 rcases h with⟨m,hm,h1,rfl⟩|⟨m,hm,h1,rfl⟩|⟨k,hk,h1,rfl⟩
 ·obtain⟨n,e⟩:=(hr m hm).1.resolve_left h1;have hx:=(ra n).2;have hl:=vK n;rw[e];refine⟨by unfold iH;rw[hx];rfl, ?_,by simp only[bG,ay,aB];omega⟩;unfold jH;rw[hx];have:FO r2.needs (ml n)=true:=by
   unfold FO;rw[List.any_eq_true];exact⟨m,by rw[hn];exact hm,by simp[e]⟩
  simp[this]
 ·obtain⟨n,e⟩:=(hr m hm).2 h1;have hx:=(Ig _ (pg n).1).2.2;have hl:=nB n;rw[<-(pg n).2]at hx;rw[e];generalize eK n=w at e hx hl;refine⟨by unfold iH;rw[hx];rfl, ?_,by simp only[bG,ay,aB];omega⟩;have:xd r2.needs w=true:=by
   unfold xd;rw[List.any_eq_true];exact⟨m,by rw[hn];exact hm,by rw[e,h1];simp⟩
  unfold jH;rw[hx,aj aT,aj (by rw[this];simp)]
 ·have hx:=(FI (k+1) ae).1;have hl:∀k,k<4->nu[k]!.length<=7:=aG
  refine⟨?_,by unfold jH;rw[hx];simp,hl _ ae⟩;have:Xt r2.feats nu[k+1]! =true:=by
   unfold Xt;rw[hf,dh];right;rw[aW];exact Mz (HM (k:=k+1) ae (by rw[show i+((k+1:Nat):Int)=i+(k:Nat)+1 by omega];exact h1))
  unfold iH;rw[hx];dsimp only;rw[this];rfl
theorem WQ {α:Type} [Inhabited α]{R:α->α->Prop}{l:List α}(h:l.Pairwise R){i:Nat}(h0:0<i)(hi:i<l.length):R l[i-1]! l[i]! :=by
 rw[getElem!_pos l _ ae,getElem!_pos l _ hi];exact List.pairwise_iff_getElem.1 h _ _ ae hi ae
def My {l:List Int}{i:Int}{r r2:Rec}(hr:NdG r)(hn:r2.needs=r.needs)(hf:r2.feats=jT l i r):ie r2.feats=true/\tq r2=(0,0):=by
 have hit:∀f∈r2.feats,∀t∈f.of,iH r2.feats t=true/\jH r2 t=0/\t.length<=7:=fun f hf' t ht=>by
  obtain⟨k,_,_,_,_,h,_⟩:=pY (show f∈jT l i r by rw[<-hf];exact hf');exact Fu (h t ht) hr hn hf
 constructor
 ·have hlen:=zC l i r;unfold ie;rw[bw,aW,eD];refine⟨by rw[hf];omega,fun j _ hj=>?_⟩;have hm:r2.feats[j]! ∈r2.feats:=bA hj;obtain⟨k,hk,e1,e2,e3,e4,e5⟩:=pY (show r2.feats[j]! ∈jT l i r by rw[<-hf];exact hm)
  grind [jz,FI,WQ,MH,lH,eD,bA]
 ·unfold tq;refine qW fun j hj=>?_
  unfold kJ;exact wS fun q hq=>(hit _ (bA hj) _ (bA hq)).2.1
def o9 {α:Type}{f:α->au}{B:Nat}:∀{l:List α},(∀x∈l,(f x).length<=B)->((l.map f).flatten).length<=l.length*B
 |[],_=>aT
 |a::r,h=>by
  have h1:=h a (.head _);have h2:=o9 (l:=r) fun x hx=>h x (.tail _ hx)
  simp only[List.map_cons,List.flatten_cons,bG,ay,Nat.succ_mul];omega
def nF {l:List au}{B n:Nat}(h:∀t∈l,t.length<=B)(hn:l.length<=n):(bZ l).length<=n*(B+1)+1:=by
 have h1:=nD 32 B l h;have h2:=fk (B+1) hn
 grind [bZ]
def Kx (w:cq):Prop:=w.name.length<=3/\w.range.length<=8/\(w.feats=[]\/w.feats=AY.take 1\/w.feats=AY)
theorem On (n:Nat):AY.take n=[]\/AY.take n=AY.take 1\/AY.take n=AY:=by
 match n with
 |0=>exact .inl rfl
 |1=>exact .inr (.inl rfl)
 |n+2=>exact .inr (.inr (ek (by simp[AY])))
def vJ (l:List Int)(i own:Int)(al:Bool):Kx (mj l i own al):=by
 refine⟨nB _,(pZ l (i+1)).2.1, ?_⟩;show oN l i al=[]\/oN l i al=AY.take 1\/oN l i al=AY
 grind [oN,On]
def Of {w:cq}(h:Kx w):(bZ (iO w)).length<=46:=by
 refine nF (B:=8) (n:=5) (fun t ht=>?_) (by simp[iO]);simp only[iO,bV,er,or_false]at ht;rcases ht with rfl|rfl|rfl|rfl|rfl
 ·decide
 ·have:=h.1;omega
 ·rcases h.2.2 with e|e|e<;>rw[e]<;>decide
 ·split<;>decide
 ·exact h.2.1
theorem CO {s:au}(h:s.length<=16):(hH s).length<=35:=by
 unfold hH;split
 ·simp
 ·exact nF (B:=16) (n:=2) (fun t ht=>by
   simp only[bV,er,or_false]at ht;rcases ht with rfl|rfl
   ·decide
   ·exact h) aT
def Qw {s:au}(h:s.length<=6):(qC s).length<=15:=by
 unfold qC;split
 ·simp
 ·exact nF (B:=6) (n:=2) (fun t ht=>by
   simp only[bV,er,or_false]at ht;rcases ht with rfl|rfl
   ·decide
   ·exact h) aT
def MI (l:List Int)(i own:Int):(po (gY l i own)).length<=160:=by
 have h1:=o9 (f:=fun w=>bZ (iO w)) (B:=46) (l:=(gY l i own).any) fun w hw=>by
  obtain⟨q,_,rfl⟩:=dX.1 (show w∈tx l i own (fM l i)from hw);exact Of (vJ _ _ _ _)
 have h2:(gY l i own).any.length<=2:=by rw[show(gY l i own).any.length=fM l i from Fa _ _ _ _];exact zD l i
 have h3:=CO (nT l (i+14)).2.1;have h4:=Qw (s:=(gY l i own).option) (c9 (vH l i own) aG);have h5:(bZ [hE]).length<=6:=aG;unfold po;simp only[bG];show _+(((gY l i own).any.map fun w=>bZ (iO w)).flatten).length+(hH (mi l (i+14))).length+_<=_;omega
def O6 {b:jL}(h:b.name.length<=3/\b.range.length<=8/\b.when'.length<=16):(uq b).length<=63:=by
 have h1:=nF (B:=8) (n:=3) (l:=[iK,b.name,b.range]) (fun t ht=>by
  simp only[bV,er,or_false]at ht;rcases ht with rfl|rfl|rfl
  ·decide
  ·omega
  ·exact h.2.1) aT
 grind [CO,uq]
def PF (l:List Int)(i own:Int):(zA l i own).name.length<=3/\(zA l i own).range.length<=8/\(zA l i own).when'.length<=16:=⟨nB _,(pZ l (i+47)).2.1,(nT l (i+50)).2.1⟩
def Mw {f:cu}(h:f.name.length<=7/\f.of.length<=5/\∀t∈f.of,t.length<=7):(qp f).length<=57:=by
 refine nF (B:=7) (n:=7) (fun t ht=>?_) cH;simp only[List.mem_append,bV,er,or_false]at ht;rcases ht with(rfl|rfl)|ht
 ·decide
 ·exact h.1
 ·exact h.2.2 t ht
structure y6 (l:List Int)(i own:Int)(r:Rec):Prop where
 nm:r.name=eK own
 ns:r.needs=q9 l i own
 v:eY r.v=true/\r.v.pre.length<=4/\r.v.build.length<=1
 bl:r.bars.length<=2
 b:∀b∈r.bars,oT r b=0/\b.name.length<=3/\b.range.length<=8/\b.when'.length<=16
 fs:ie r.feats=true/\tq r=(0,0)
 fl:r.feats.length<=4
 f:∀f∈r.feats,f.name.length<=7/\f.of.length<=5/\∀t∈f.of,t.length<=7
def zE (l:List Int)(i own:Int):(q9 l i own).length<=2:=by rw[q9,SW];exact Ux l i
def y6.good {l:List Int}{i own:Int}{r:Rec}(h:y6 l i own r):wU r:=by
 have h1:=zE l i own;have h2:=h.bl;refine⟨⟨by rw[h.nm];exact(qZ own).1,h.v.1⟩,⟨by rw[h.ns];omega,ae⟩,ru (Ie h.nm h.ns) ?_ h.fs.1 h.fs.2⟩;unfold sU;exact qW fun j hj=>(h.b _ (bA hj)).1
def y6.sm {l:List Int}{i own:Int}{r:Rec}(h:y6 l i own r):fo r:=by
 refine⟨⟨by rw[h.nm];exact c9 (nB own) aG,c9 h.v.2.1 aG,c9 h.v.2.2 aG⟩,fun n hn=>?_,fun b hb=>?_,fun f hf=>?_⟩
 ·obtain⟨k,rfl⟩:=uL (show n∈Fc l i own (gK l i)by rw[show Fc l i own (gK l i)=r.needs from h.ns.symm];exact hn);refine⟨fun w hw=>?_,c9 (nT l (k+14)).2.1 aG,c9 (vH l k own) aG⟩;obtain⟨q,_,rfl⟩:=dX.1 (show w∈tx l k own (fM l k)from hw);obtain⟨a,b,c⟩:=vJ l (k+1+6*(q:Nat)) own (decide ((fM l k:Int)=1));refine⟨⟨c9 a aG,c9 b aG⟩,fun t ht=>?_⟩
  grind [AY]
 ·obtain⟨_,a,b,c⟩:=h.b b hb;exact⟨c9 a aG,c9 b aG,c9 c aG⟩
 ·obtain⟨a,b,c⟩:=h.f f hf;exact⟨c9 a aG,c9 b aG,fun t ht=>c9 (c t ht) aG⟩
def RL {v:cY}(h:eY v=true/\v.pre.length<=4/\v.build.length<=1):(j3 v).length<=30:=by
 obtain⟨h1,h2,h3⟩:=h;have hv:=h1;simp only[eY,pW,bw,aW]at h1;have a:=eo 4 v.major.toNat ae ae;have b:=eo 4 v.minor.toNat ae ae;have c:=eo 4 v.patch.toNat ae ae
 grind [j3,wC,coreS]
def y6.len {l:List Int}{i own:Int}{r:Rec}(h:y6 l i own r):(fP r).length<=800:=by
 have h1:(qq r).length<=94:=nF (B:=30) (n:=3) (fun t ht=>by
  simp only[bV,er,or_false]at ht;rcases ht with rfl|rfl|rfl
  ·decide
  ·rw[h.nm];exact c9 (nB own) aG
  ·exact RL h.v) aT
 have h2:=o9 (f:=po) (B:=160) (l:=r.needs) fun n hn=>by
  obtain⟨k,rfl⟩:=uL (show n∈Fc l i own (gK l i)by rw[show Fc l i own (gK l i)=r.needs from h.ns.symm];exact hn);exact MI l k own
 have h3:=o9 (f:=uq) (B:=63) (l:=r.bars) fun b hb=>O6 (h.b b hb).2
 have h4:=o9 (f:=qp) (B:=57) (l:=r.feats) fun f hf=>Mw (h.f f hf)
 have h5:=zE l i own;have h6:=h.bl;have h7:=h.fl;rw[h.ns]at h2;unfold fP;rw[h.ns];simp only[bG];omega
def y6.check {l:List Int}{i own:Int}{r:Rec}(h:y6 l i own r):cK r=(0,0):=by
 obtain⟨⟨a,b⟩,⟨c,d⟩,e⟩:=h.good;rw[qO a b ae ae e,aj (by have:=h.len;omega)]
def y6.print {l:List Int}{i own:Int}{r:Rec}(h:y6 l i own r):c7 r=(fP r,0):=by
 unfold c7;rw[h.check,aj aT]
def Ju (l:List Int)(i:Int):eY (ML l i)=true/\(ML l i).pre.length<=4/\(ML l i).build.length<=1:=by
 have a:=dt l i 3 aG;have b:=dt l (i+1) 2 aG;have key:∀x,x<3->∀y,y<2->∀p∈[([]:au),Rb],∀q∈[([]:au),[55]],eY ⟨(x:Nat),(y:Nat),0,p,q⟩=true:=by decide+kernel
 have hp:tA l i∈[([]:au),Rb]:=by unfold tA;split<;>simp
 have hq:zB l i∈[([]:au),[55]]:=by unfold zB;split<;>simp
 have h:=key (fI l i 3).toNat ae (fI l (i+1) 2).toNat ae _ hp _ hq;have e:(⟨((fI l i 3).toNat:Int),((fI l (i+1) 2).toNat:Int),0,tA l i,zB l i⟩:cY)=ML l i:=by
  grind [ML,fI]
 rw[e]at h;refine⟨h, ?_, ?_⟩
 ·show(tA l i).length<=4;unfold tA;split<;>decide
 grind
def vI (l:List Int)(i own:Int):NdG (ph l i own):=by
 intro m hm;obtain⟨k,rfl⟩:=uL (show m∈Fc l i own (gK l i)from hm);refine⟨Dn l k own,fun h=>?_⟩;have h1:0<fM l k:=by have:=BV l k;omega
 have:=E9 (l:=l) (i:=k) (own:=own) h1;exact⟨_,ar cq.name this⟩
def MG (l:List Int)(i own:Int):(qY l i own).length<=1:=by unfold qY;split<;>simp
def Tr:∀k,k<4->nu[k]!.length<=7:=aG
def PI (l:List Int)(i own:Int):y6 l i own (Bd l i own):=by
 have hf:=My (r:=ph l i own) (r2:=Bd l i own) (l:=l) (i:=i+52) (vI l i own) rfl rfl;refine⟨rfl,rfl,Ju l i,c9 (MG l i own) aG,fun b hb=>?_,hf,zC _ _ _,fun f hf2=>?_⟩
 ·obtain rfl:=BU (show b∈qY l i own from hb);exact⟨O5 rfl l i,PF l i own⟩
 ·obtain⟨k,hk,e,_,_,hi,hl⟩:=pY (show f∈jT l (i+52) (ph l i own)from hf2);refine⟨by rw[e];exact Tr k hk,hl,fun t ht=>?_⟩;exact(Fu (r2:=Bd l i own) (hi t ht) (vI l i own) rfl rfl).2.2
end Go.Abs
section
namespace Go.Abs
def bT (w:au):Prop:=w≠[]/\∀c∈w,c≠32/\c≠10
def jy (w:au):Prop:=∀c∈w,c≠10
def eM (l:List au):au:=aP [32] l
def n32 {w:au}(h:bT w):∀c∈w,(c.toNat:Int)≠32:=fun c hc e=>(h.2 c hc).1 (iL.1 (by have:(32:UInt8).toNat=32:=rfl;omega))
theorem kd {l:List au}(hl:l≠[])(h:∀w∈l,bT w):ak (eM l) 32=l:=
 j9 (x:=32) rfl hl fun w hw=>n32 (h w hw)
theorem CE {p:List au}{t:au}(h:∀w∈p,bT w):ak (eM (p++[t])) 32=p++ak t 32:=by
 induction p with
 |nil=>rfl
 |cons a r ih=>
  have ha:=n32 (h a (.head _));have hr:=ih fun w hw=>h w (.tail _ hw)
  have e:eM (a::(r++[t]))=a++32::eM (r++[t]):=by
   unfold eM;rw[gD [32] a (r++[t]) aT];simp
  grind [tX,eM,ak]
def fw (t:au):au:=(ak t 32)[0]!
theorem pd {w:au}{l:List au}(hw:bT w)(hl:∀x∈l,bT x):fw (eM (w::l))=w:=by
 unfold fw
 grind [kd]
def tw {w:au}{p:List au}{t:au}(hw:bT w)(hp:∀x∈p,bT x):fw (eM (w::(p++[t])))=w:=by
 unfold fw
 grind [CE]
def T0 {n:Nat}{op:Bool}{t:au}(h:2<=n\/op=false):(ef n op t)[0]! =fw t:=by
 unfold ef fw
 grind [qP,ak]
def hd (R:List au):Option au:=R.head?.map fw
theorem rp {w:au}{n:Nat}{op:Bool}{R:List au}(h:2<=n\/op=false)(hn:hd R≠some w):cl w n op R=none:=by
 match R,hn with
 |[],_=>rfl
 |t::r,hn=>
  have:jr w n op t=none:=by
   unfold jr;rw[aj];rintro⟨h1,_⟩;rw[T0 h]at h1;exact hn (by simp[hd,h1])
  simp only[cl,this]
theorem qc {w:au}{l:List au}{n:Nat}{R:List au}(hw:bT w)(hl:∀x∈l,bT x)(hn:n=0\/l.length+1=n):cl w n false (eM (w::l)::R)=some (w::l,R):=by
 grind [bT,ef,eM,kd,jr,cl]
def vX {w:au}{p:List au}{t:au}{n:Nat}{R:List au}(hw:bT w)(hp:∀x∈p,bT x)(ht:t≠[])(hn:p.length+2=n):cl w n true (eM (w::(p++[t]))::R)=some (w::(p++[t]),R):=by
 have hc:∀x∈w::p,bT x:=fun x hx=>by rcases bV.1 hx with rfl|hx;exact hw;exact hp x hx
 have hs:=CE (t:=t) hc;have hj:=mw (b:=32) (x:=32) rfl t;have h1:1<=(ak t 32).length:=eR 32 t [];have e:ef n true (eM (w::(p++[t])))=w::(p++[t]):=by
  unfold ef;rw[ax rfl,<-fm,hs];unfold qP;have hl:(w::p++ak t 32).length=p.length+1+(ak t 32).length:=cH;split
  ·have:(ak t 32).length=1:=ae;obtain⟨x,hx⟩:=List.length_eq_one_iff.1 this;rw[hx]at hj⊢;simp only[aP]at hj;rw[hj]
  ·have a:n-1=(w::p).length:=cH;rw[a,List.take_left,List.drop_left,hj]
 have:jr w n true (eM (w::(p++[t])))=some (w::(p++[t])):=by
  unfold jr;rw[e,ax ⟨rfl,.inr cH,fun h=>by
   rw[<-fm,List.mem_append,cN]at h;rcases h with h|h
   ·exact(hc _ h).1 rfl
   ·exact ht h.symm⟩]
 simp only[cl,this]
def kf (s:au):List au:=if s=[]then []else [eM [gP,s]]
def m7 (s:au):List au:=if s=[]then []else [eM [eh,s]]
def kY (l:List cq):List au:=l.map fun w=>eM (iO w)
def vV (n:cb):List au:=eM [hE]::(kY n.any++(kf n.when'++m7 n.option))
def BA (b:jL):List au:=eM [iK,b.name,b.range]::kf b.when'
def kD (f:cu):au:=eM ([cF,f.name]++f.of)
structure EJ (w:cq):Prop where
 nm:bT w.name
 rg:w.range≠[]/\jy w.range
 fs:∀t∈w.feats,bT t/\∀c∈t,c≠44
 ne:aP [44] w.feats≠[45]
def nQ:bT gP:=by unfold bT;decide
theorem r7:bT eh:=by unfold bT;decide
theorem pT:bT hE:=by unfold bT;decide
def r6:bT iK:=by unfold bT;decide
def pS:bT cF:=by unfold bT;decide
def vw:bT jK:=by unfold bT;decide
def tk:bT eO:=by unfold bT;decide
def Qy {s:au}{R:List au}(hs:s=[]\/bT s)(hR:s=[]->hd R≠some eh):tL (m7 s++R)=(s,R):=by
 grind [m7,tL,rp,qc,r7]
def CP {s:au}{R:List au}(hR:s=[]->hd R≠some gP):cx (kf s++R)=(s,R):=by
 unfold kf cx;by_cases h:s=[]
 ·grind [rp]
 ·rw[aj h,List.singleton_append];have:=vX (n:=2) (w:=gP) (p:=[]) (t:=s) (R:=R) nQ (fun x hx=>by cases hx) h rfl
  grind
def P0 {l:List au}(h:∀t∈l,bT t/\∀c∈t,c≠44)(hl:l≠[]):bT (aP [44] l)/\ak (aP [44] l) 44=l:=by
 refine⟨⟨?_,fun c hc=>?_⟩,j9 (x:=44) rfl hl fun w hw c hc e=>(h w hw).2 c hc (iL.1 (by have:(44:UInt8).toNat=44:=rfl;omega))⟩
 ·match l,hl with
  |[a],_=>exact(h a (.head _)).1.1
  |a::b::r,_=>simp[aP]
 ·rcases nE 44 l c hc with rfl|⟨w,hw,hc⟩
  ·decide
  ·exact(h w hw).1.2 c hc
def ud {w:cq}(h:EJ w):∀x∈[w.name,if w.feats.length=0 then [45]else aP [44] w.feats,if w.bare=true then gC else js],bT x:=by
 intro x hx;simp only[bV,er,or_false]at hx;rcases hx with rfl|rfl|rfl
 ·exact h.nm
 ·split
  ·unfold bT;decide
  ·rename_i hn;exact(P0 h.fs (fun e=>hn (by rw[e];rfl))).1
 ·split<;>(unfold bT;decide)
def AU (w:cq):iO w=jK::([w.name,if w.feats.length=0 then [45]else aP [44] w.feats,if w.bare=true then gC else js]++[w.range]):=rfl
theorem TY {w:cq}(h:EJ w):ji (iO w)=w/\uM (iO w)=true:=by
 obtain⟨nm,rg,fs,b⟩:=w;have hb:gC≠js:=aG;constructor
 ·show(⟨nm,rg,(if(if fs.length=0 then [45]else aP [44] fs)=[45]then []else ak (if fs.length=0 then [45]else aP [44] fs) 44),decide ((if b=true then gC else js)=gC)⟩:cq)=_;have h1:(if(if fs.length=0 then [45]else aP [44] fs)=[45]then []else ak (if fs.length=0 then [45]else aP [44] fs) 44)=fs:=by
   by_cases hn:fs.length=0
   ·grind
   ·rw[aj hn,aj h.ne];exact(P0 h.fs (fun e=>hn (by rw[show fs=[]from e];rfl))).2
  rw[h1];cases b<;>simp[hb,Ne.symm hb]
 ·show(decide ((if b=true then gC else js)=gC) ||decide ((if b=true then gC else js)=js))=true;cases b<;>simp
def xm {R:List au}(hR:hd R≠some jK):∀{l:List cq},(∀w∈l,EJ w)->dn (kY l++R)=(l,R)
 |[],_=>vb (rp (.inl ae) hR)
 |w::r,h=>by
  have ih:=xm hR (l:=r) fun x hx=>h x (.tail _ hx)
  have hw:=h w (.head _);have hn:cl jK 5 true (eM (iO w)::(kY r++R))=some (iO w,kY r++R):=by
   have:=vX (n:=5) (w:=jK) (t:=w.range) (R:=kY r++R) vw (ud hw) hw.rg.1 rfl;rw[AU];exact this
  grind [TY,xl,dn,eM,iO,kY]
structure EC (n:cb):Prop where
 a:∀w∈n.any,EJ w
 w:jy n.when'
 o:n.option=[]\/bT n.option
def S4 {s:au}{R:List au}:hd (kf s++R)=if s=[]then hd R else some gP:=by
 unfold kf;split
 ·rfl
 ·show some (fw (eM (gP::([]++[s]))))=_;rw[tw nQ (fun x hx=>by cases hx)]
def Wl {s:au}{R:List au}(hs:s=[]\/bT s):hd (m7 s++R)=if s=[]then hd R else some eh:=by
 unfold m7;split
 ·rfl
 ·rename_i h;show some (fw (eM (eh::[s])))=_
  grind [pd,r7]
def Qm (R:List au):Prop:=hd R≠some jK/\hd R≠some gP/\hd R≠some eh
def Nf {n:cb}{R:List au}(h:EC n)(hR:Qm R):e8 ((kY n.any++(kf n.when'++m7 n.option))++R)=(n,R):=by
 have e1:(kY n.any++(kf n.when'++m7 n.option))++R=kY n.any++(kf n.when'++(m7 n.option++R)):=by simp only[dS]
 have ho:=Qy (s:=n.option) (R:=R) h.o fun _=>hR.2.2
 have hh:=Wl (R:=R) h.o;have hw:=CP (s:=n.when') (R:=m7 n.option++R) fun _=>by
  rw[hh];split
  ·exact hR.2.1
  ·decide
 have ha:=xm (R:=kf n.when'++(m7 n.option++R)) (l:=n.any) (by
  rw[S4];split
  ·rw[hh];split
   ·exact hR.1
   ·decide
  ·decide) h.a
 unfold e8;rw[e1,ha,hw,ho]
def nZ (l:List cb):List au:=(l.map vV).flatten
def zT {R:List au}(hR:Qm R)(hN:hd R≠some hE):∀{l:List cb},(∀n∈l,EC n)->iI (nZ l++R)=(l,R)
 |[],_=>wX (rp (.inr rfl) hN)
 |n::r,h=>by
  have ih:=zT hR hN (l:=r) fun x hx=>h x (.tail _ hx)
  have hok:Qm (nZ r++R):=by
   match r with
   |[]=>exact hR
   |m::q=>
    have:hd (nZ (m::q)++R)=some hE:=by
     show some (fw (eM (hE::[])))=_;rw[pd pT (fun x hx=>by cases hx)]
    unfold Qm;rw[this];decide
  have hr:=Nf (h n (.head _)) hok;have hn:cl hE 1 false (nZ (n::r)++R)=some ([hE],(kY n.any++(kf n.when'++m7 n.option))++(nZ r++R)):=by
   grind [qc,hE,kY,kf,m7,nZ,pT,vV]
  rw[wY hn,hr,ih]
structure Ov (b:jL):Prop where
 nm:bT b.name
 rg:b.range≠[]/\jy b.range
 w:jy b.when'
def mY (l:List jL):List au:=(l.map BA).flatten
def Jj {R:List au}{l:List jL}(h:∀b∈l,Ov b):hd (mY l++R)=if l=[]then hd R else some iK:=by
 match l with
 |[]=>rfl
 |b::r=>
  rw[aj aT];show some (fw (eM (iK::([b.name]++[b.range]))))=_;rw[tw r6 (fun x hx=>by rw[cN.1 hx];exact(h b (.head _)).nm)]
def BC {R:List au}(hR:hd R≠some gP/\hd R≠some iK):∀{l:List jL},(∀b∈l,Ov b)->nP (mY l++R)=(l,R)
 |[],_=>zf (rp (.inl ae) hR.2)
 |b::r,h=>by
  have ih:=BC hR (l:=r) fun x hx=>h x (.tail _ hx)
  have hb:=h b (.head _);have hw:=CP (s:=b.when') (R:=mY r++R) fun _=>by
   rw[Jj fun x hx=>h x (.tail _ hx)];split
   ·exact hR.1
   ·decide
  have hn:cl iK 3 true (mY (b::r)++R)=some ([iK,b.name,b.range],kf b.when'++(mY r++R)):=by
   have:=vX (n:=3) (w:=iK) (p:=[b.name]) (t:=b.range) (R:=kf b.when'++(mY r++R)) r6 (fun x hx=>by rw[cN.1 hx];exact hb.nm) hb.rg.1 rfl
   grind [iK,mY,BA]
  rw[zg hn,hw,ih];rfl
structure OJ (f:cu):Prop where
 nm:bT f.name
 o:∀t∈f.of,bT t
def zr:∀{l:List cu},(∀f∈l,OJ f)->fL (l.map kD)=(l,[])
 |[],_=>rfl
 |f::r,h=>by
  have ih:=zr (l:=r) fun x hx=>h x (.tail _ hx)
  have hf:=h f (.head _);have hn:=qc (n:=0) (w:=cF) (l:=f.name::f.of) (R:=r.map kD) pS (fun x hx=>by
   rcases bV.1 hx with rfl|hx
   ·exact hf.nm
   ·exact hf.o x hx) (.inl rfl)
  have hl:jr cF 0 false (kD f)=some (cF::f.name::f.of):=by
   simp only[cl]at hn;show jr cF 0 false (eM (cF::f.name::f.of))=_
   grind
  simp only[List.map_cons,fL,hl];rw[ax aT,ih];rfl
end Go.Abs
namespace Go.Abs
structure EE (r:Rec):Prop where
 nm:bT r.name
 v:eY r.v=true
 n:∀n∈r.needs,EC n
 b:∀b∈r.bars,Ov b
 f:∀f∈r.feats,OJ f
def rK (r:Rec):List au:=nZ r.needs++(mY r.bars++r.feats.map kD)
def ja (r:Rec):List au:=eM [eO,r.name,j3 r.v]::rK r
def iY (l:List au):au:=(l.map fun t=>t++[10]).flatten
theorem qT (a b:List au):iY (a++b)=iY a++iY b:=by simp[iY]
def vE {α:Type}(f:α->List au):∀l:List α,iY ((l.map f).flatten)=(l.map fun x=>iY (f x)).flatten
 |[]=>rfl
 |a::r=>by simp only[List.map_cons,List.flatten_cons,qT,vE f r]
theorem sk (l:List au):bZ l=eM l++[10]:=rfl
def Pn (t:au):iY [t]=t++[10]:=by simp[iY]
theorem CR (s:au):iY (kf s)=hH s:=by
 unfold kf hH;split
 ·rfl
 ·rw[Pn,sk]
theorem Qz (s:au):iY (m7 s)=qC s:=by
 unfold m7 qC;split
 ·rfl
 ·rw[Pn,sk]
theorem GU (l:List cq):iY (kY l)=(l.map fun w=>bZ (iO w)).flatten:=by
 unfold kY iY;rw[List.map_map];rfl
theorem lA (t:au)(l:List au):iY (t::l)=t++[10]++iY l:=by simp[iY]
def Ng (n:cb):iY (vV n)=po n:=by
 grind [vV,po,lA,qT,GU,CR,Qz,sk]
def O8 (b:jL):iY (BA b)=uq b:=by
 unfold BA uq;rw[lA,CR,sk]
def HI (l:List cu):iY (l.map kD)=(l.map qp).flatten:=by
 unfold iY;rw[List.map_map];rfl
theorem ub (r:Rec):fP r=iY (ja r):=by
 unfold ja rK fP qq;rw[lA,qT,qT,HI];unfold nZ mY;rw[vE,vE,sk];simp only[Ng,O8,dS]
def zI:∀ls:List au,aP [10] (ls++[[]])=iY ls
 |[]=>rfl
 |a::r=>by
  rw[fm,gD _ _ _ aT,zI r,lA]
def fD {l:List au}(h:∀w∈l,jy w):jy (eM l):=by
 intro c hc;rcases nE 32 l c hc with rfl|⟨w,hw,hc⟩
 ·decide
 ·exact h w hw c hc
def EI {w:au}(h:bT w):jy w:=fun c hc=>(h.2 c hc).2
def wD {v:cY}(h:eY v=true):bT (j3 v):=by
 have e:j3 v=sO v:=by unfold j3;rw[ax h]
 rw[e];refine⟨?_,fun c hc=>?_⟩
 ·unfold sO;have:=xW v.major.toNat;cases hd:dC v.major.toNat with
  |nil=>exact absurd hd this
  |cons a b=>simp
 ·have:=TV h hc;exact⟨fun e=>this.1 (by rw[e];rfl),fun e=>this.2 (by rw[e];rfl)⟩
def rm {r:Rec}(h:EE r):∀t∈ja r,jy t:=by
 have hwhen:∀s,jy s->∀t∈kf s,jy t:=fun s hs t ht=>by
  unfold kf at ht;split at ht
  ·cases ht
  ·obtain rfl:=cN.1 ht;refine fD fun w hw=>?_
   simp only[bV,er,or_false]at hw;rcases hw with rfl|rfl
   ·exact EI nQ
   ·exact hs
 intro t ht;unfold ja rK nZ mY at ht;simp only[bV,List.mem_append,List.mem_flatten,dX]at ht;rcases ht with rfl|⟨_,⟨n,hn,rfl⟩,ht⟩|⟨_,⟨b,hb,rfl⟩,ht⟩|⟨f,hf,rfl⟩
 ·refine fD fun w hw=>?_
  simp only[bV,er,or_false]at hw;rcases hw with rfl|rfl|rfl
  ·exact EI tk
  ·exact EI h.nm
  ·exact EI (wD h.v)
 ·have hw:=h.n n hn;unfold vV at ht;simp only[bV,List.mem_append]at ht;rcases ht with rfl|ht|ht|ht
  ·exact fD fun w hw=>by rw[cN.1 hw];exact EI pT
  ·obtain⟨w,hw2,rfl⟩:=dX.1 ht;have hww:=hw.a w hw2;rw[AU];refine fD fun x hx=>?_
   rcases bV.1 hx with rfl|hx
   ·exact EI vw
   ·rcases List.mem_append.1 hx with hx|hx
    ·exact EI (ud hww x hx)
    ·rw[cN.1 hx];exact hww.rg.2
  ·exact hwhen _ hw.w t ht
  ·unfold m7 at ht;split at ht
   ·cases ht
   ·rename_i hne;obtain rfl:=cN.1 ht;refine fD fun x hx=>?_
    simp only[bV,er,or_false]at hx;rcases hx with rfl|rfl
    ·exact EI r7
    ·exact EI (hw.o.resolve_left hne)
 ·have hw:=h.b b hb;unfold BA at ht;rcases bV.1 ht with rfl|ht
  ·refine fD fun x hx=>?_
   simp only[bV,er,or_false]at hx;rcases hx with rfl|rfl|rfl
   ·exact EI r6
   ·exact EI hw.nm
   ·exact hw.rg.2
  ·exact hwhen _ hw.w t ht
 ·have hw:=h.f f hf;refine fD fun x hx=>?_
  simp only[List.mem_append,bV,er,or_false]at hx;rcases hx with(rfl|rfl)|hx
  ·exact EI pS
  ·exact EI hw.nm
  ·exact EI (hw.o x hx)
theorem xj {ls:List au}(h:∀t∈ls,jy t):ak (iY ls) 10=ls++[[]]:=by
 rw[<-zI];refine j9 (x:=10) rfl aT fun w hw c hc e=>?_
 rcases List.mem_append.1 hw with hw|hw
 ·exact h w hw c hc (iL.1 (by have:(10:UInt8).toNat=10:=rfl;omega))
 grind
def Pu {l:List cu}(h:∀f∈l,OJ f):hd (l.map kD)=none\/hd (l.map kD)=some cF:=by
 match l with
 |[]=>exact .inl rfl
 |f::r=>
  right;have hf:=h f (.head _);show some (fw (eM (cF::(f.name::f.of))))=_;rw[pd pS (fun x hx=>by
   rcases bV.1 hx with rfl|hx
   ·exact hf.nm
   ·exact hf.o x hx)]
theorem Rd {r:Rec}(h:EE r):tS (ja r)=some (r,[]):=by
 have hf:=zr h.f;have hfh:=Pu h.f;have hb:=BC (R:=r.feats.map kD) (by rcases hfh with e|e<;>rw[e]<;>decide) h.b;have hbh:=Jj (R:=r.feats.map kD) h.b;have h1:hd (mY r.bars++r.feats.map kD)=none\/hd (mY r.bars++r.feats.map kD)=some cF\/hd (mY r.bars++r.feats.map kD)=some iK:=by
  grind
 have hn:=zT (R:=mY r.bars++r.feats.map kD) (by unfold Qm;rcases h1 with e|e|e<;>rw[e]<;>decide) (by rcases h1 with e|e|e<;>rw[e]<;>decide) h.n;have hp:=qc (n:=3) (w:=eO) (l:=[r.name,j3 r.v]) (R:=rK r) tk (fun x hx=>by
  simp only[bV,er,or_false]at hx;rcases hx with rfl|rfl
  ·exact h.nm
  ·exact wD h.v) (.inr rfl)
 unfold tS ja;rw[hp];show(match pJ (j3 r.v)with|some v=>some (sV r.name v (rK r))|none=>none)=_;rw[Xj h.v];show some (sV r.name r.v (rK r))=_;unfold sV rK;rw[hn,hb,hf]
def Co {r:Rec}(h:EE r)(hc:cK r=(0,0)):eG (fP r)=(r,0,0):=by
 have hl:¬4096<(fP r).length:=by
  grind [cK]
 have hs:ak (fP r) 10=ja r++[[]]:=by rw[ub];exact xj (rm h)
 have ht:(ak (fP r) 10).take ((ak (fP r) 10).length-1)=ja r:=by
  rw[hs];simp
 have hz:(ak (fP r) 10)[(ak (fP r) 10).length-1]! =[]:=by
  rw[hs];simp
 grind [iJ,ja,Rd,eG]
end Go.Abs
end
namespace Go.Abs
def Ib {w:au}(h:∀c∈w,c.toNat≠32/\c.toNat≠10):∀c∈w,c≠32/\c≠10:=fun c hc=>⟨fun e=>(h c hc).1 (by rw[e];rfl),fun e=>(h c hc).2 (by rw[e];rfl)⟩
theorem x7 (n:Int):bT (eK n):=⟨(yd (qZ n).1).1,Ib (yd (qZ n).1).2.2⟩
theorem Jv (n:Int):bT (ml n):=⟨TZ (ra n).1,Ib fun c hc=>⟨(Kz (ra n).1 hc).1,(Kz (ra n).1 hc).2.1⟩⟩
def KB:(∀t∈AY,bT t/\∀c∈t,c≠44)/\aP [44] AY≠[45]/\aP [44] (AY.take 1)≠[45]:=by unfold bT;decide
def SZ (l:List Int)(i own:Int)(al:Bool):EJ (mj l i own al):=by
 have hf:=pZ l (i+1);obtain⟨_,_,c⟩:=vJ l i own al;refine⟨x7 _,⟨hf.2.2.1,hf.2.2.2⟩,fun t ht=>?_, ?_⟩
 ·rcases c with e|e|e<;>rw[e]at ht
  ·cases ht
  ·exact KB.1 t (lY ht)
  ·exact KB.1 t ht
 ·rcases c with e|e|e<;>rw[e]
  ·decide
  ·exact KB.2.2
  ·exact KB.2.1
def SX (l:List Int)(i own:Int):EC (gY l i own):=by
 refine⟨fun w hw=>?_,(nT l (i+14)).2.2, ?_⟩
 ·obtain⟨q,_,rfl⟩:=dX.1 (show w∈tx l i own (fM l i)from hw);exact SZ _ _ _ _
 ·rcases Dn l i own with e|⟨n,e⟩
  ·exact .inl e
  ·exact .inr (by rw[e];exact Jv n)
def Wi (l:List Int)(i own:Int):Ov (zA l i own):=⟨x7 _,⟨(pZ l (i+47)).2.2.1,(pZ l (i+47)).2.2.2⟩,(nT l (i+50)).2.2⟩
def UI:∀k,k<4->bT nu[k]! :=by unfold bT;decide
theorem BI {a b:au}(ha:bT a)(hb:∀c∈b,c≠32/\c≠10):bT (a++b):=⟨fun e=>ha.1 (List.append_eq_nil_iff.1 e).1,fun c hc=>(List.mem_append.1 hc).elim (ha.2 c) (hb c)⟩
def itG_W {l:List Int}{i:Int}{r:Rec}{t:au}(h:Xn l i r t)(hr:NdG r):bT t:=by
 rcases h with⟨m,hm,h1,rfl⟩|⟨m,hm,h1,rfl⟩|⟨k,hk,_,rfl⟩
 ·obtain⟨n,e⟩:=(hr m hm).1.resolve_left h1
  grind [BI,bT,Jv]
 ·obtain⟨n,e⟩:=(hr m hm).2 h1
  grind [BI,x7]
 ·exact UI _ ae
def Wk (l:List Int)(i own:Int):EE (Bd l i own):=by
 refine⟨x7 own,(Ju l i).1,fun n hn=>?_,fun b hb=>?_,fun f hf=>?_⟩
 ·obtain⟨k,rfl⟩:=uL (show n∈Fc l i own (gK l i)from hn);exact SX l k own
 ·obtain rfl:=BU (show b∈qY l i own from hb);exact Wi l i own
 ·obtain⟨k,hk,e,_,_,hi,_⟩:=pY (show f∈jT l (i+52) (ph l i own)from hf);exact⟨by rw[e];exact UI k hk,fun t ht=>itG_W (hi t ht) (vI l i own)⟩
abbrev UH (s:au):List au:=(ak s 10).take ((ak s 10).length-1)
abbrev zQ (s:au):au:=(ak s 10)[(ak s 10).length-1]!
theorem H5 {s:au}(h:zQ s=[]):ct s=(UH s,true):=by unfold ct;rw[ax h]
theorem M1 {s:au}(h:¬zQ s=[]):ct s=(UH s++[zQ s],false):=by
 unfold ct;rw[aj h];have hp:1<=(ak s 10).length:=eR 10 s [];have:=(drop_one (l:=ak s 10) (n:=(ak s 10).length-1) ae).2;exact ar (fun l=>(l,false)) this
def H6 (s:au):((ct s).2=true/\zQ s=[]/\(ct s).1=UH s)\/((ct s).2=false/\zQ s≠[]/\(ct s).1=UH s++[zQ s]):=by
 by_cases h:zQ s=[]
 ·grind [H5]
 grind [M1]
def Av:aF:=⟨2,6,[⟨2,none⟩],bQ,(sq (r1 [gm dM] 2 0) (sq (sq (r1 [gm bq] 3 0) (.block 0 (.loop (sq (sq (r1 [gm s3,gm s0,gl l1,aS l0 l2] 4 3) (fB s4 0)) (sq (.block 1 (sq (r1 [gm s0,gm s3,ga 1 l0 l1,gd l2,gx 357 [l3] bQ,jU l4] 5 5) (.cond s5 (sq (r1 [gm dM] 2 0) .ret) .skip))) (r1 [gm s3,aw l0 bX,gm l1] 3 2)))))) (sq (r1 [gm s0,gl l0,DF l1 wV,gm l2,gmt 3 s0,bY 3 (.call 815 [l4] [[.sl 1 [.a]]]),eL l3 l5,gm l6,gmt 7 s1,gmt 7 l8,eP 9 s0,cD 9 (.len l10),cD 9 (cQ gH bq),Uy 7 l9 jm,eL l7 jV,gm lg] 2 15) .ret)))⟩
def w812 {Y:Ctx}(hm:(Y.at 0).bd)(h357:Hm Y)(h815:Vy Y)(l:List au)(al:Bool)   :dj Y Av (.bool (jq l al)) [.sl 1 (l.map D.str),.bool al]:=by
 show bH _ _ _ [⟨_,_⟩,⟨_,_⟩,_,_,_,_] _;refine aq ?_;refine aH ?_;refine bh hm (ι:=Nat) (fun i=>[⟨true,.sl 1 (l.map D.str)⟩,⟨true,.bool al⟩,.un,⟨true,.int .i64 (i:Nat)⟩,.un,.un]) (fun i=>[]) 2 (fun i=>i<=l.length/\jq l al=(cV (fun i=>cG l[i]!) i l.length&&((decide (l.length<=6)&&rising l)&&(al ||decide (l.length=0))))) (fun i=>l.length-i) 0 ⟨ae,(wf_2 l al).symm⟩ (dL []) ?_;rintro i ⟨hi,hr⟩;refine aJ ?_;intro u0;refine az ?_;refine cI (fun hc0=>?_) fun hc0=>?_
 ·refine aY ?_;refine ai (hc:=h357 _) ?_;refine az ?_;refine wp_cond (fun hc1=>?_) (fun hc1=>?_)
  ·simp only[bE]at hc1;refine aH ?_;refine bS ?_;rw[hr,aV ae,hc1];rfl
  simp only[b6]at hc1;refine bM ?_;exact⟨i+1,⟨ae,by rw[hr,aV ae,hc1];rfl⟩,ae,(dL [])⟩
 refine aJ ?_;intro u1;refine aA ?_;refine ai (hc:=h815 _) ?_;refine aJ ?_;refine ll ?_;refine aH ?_;refine bS ?_;rw[hr,cr ae,gp,gT.2 (show((l.length:Nat):Int)<=6↔l.length<=6 by omega),gT.2 (show((l.length:Nat):Int)=0↔l.length=0 by omega)]
def LI (T:List D->D->Prop):Prop:=∀(l:List au) (al:Bool),T [.sl 1 (l.map D.str),.bool al] (.bool (jq l al))
def YX (Y:Ctx):Prop:=LI (bt Y 812)
def IB:aF:=⟨3,10,[⟨3,none⟩],bQ,(sq (rg [gb 9 s0,gb 4 s1,gm bq] [(6,0),(4,1),(3,2)]) (sq (.block 0 (sq (r1 [gf 0 s4,gd l0,gx 216 [l1] bQ,jU l2,gm l3] 5 4) (.cond s5 (sq (r1 [gm sg] 3 0) .ret) (sq (r1 [gf 0 s4,gd l0,gf 0 s6,gd l2,aL l1 l3,gm l4] 7 5) (.cond s7 (sq (r1 [gm Fj] 3 0) .ret) (sq (r1 [gf 1 s4,gd l0,gx 572 [l1] bQ,jU l2,gm l3] 8 4) (.cond s8 (sq (r1 [gm wV] 3 0) .ret) (sq (r1 [gf 2 s4,gd l0,gm s2,gx 812 [l1,l2] [[.sl 1 [.a]],[.a]],jU l3,gm l4] 9 5) (.cond s9 (sq (r1 [gm (i6 11)] 3 0) .ret) .skip))))))))) (sq (r1 [gm bq] 3 0) .ret)))⟩
def w669 {Y:Ctx}(hm:(Y.at 0).bd)(h216:LX Y)(h572:Vj Y)(h812:YX Y)(r:Rec)(w:cq)(al:Bool)  (hp0:w.sm):dj Y IB (.int .i64 (jt r w al)) [Rec.D r,cq.D w,.bool al]:=by
 show bH _ _ _ [⟨_,_⟩,⟨_,_⟩,⟨_,_⟩,_,_,_,_,_,_,_] _;refine aq ?_;refine bM ?_;refine ai (hc:=h216 _) ?_;refine aA ?_;refine fA (fun hc0=>?_) fun hc0=>?_
 ·refine aJ ?_;refine cS ?_;have hw:fG r w.name w.range=4:=by rw[fG,ax hc0]
  rw[jt,ax (by rw[hw];decide),hw]
 refine bM ?_;refine fA (fun hc1=>?_) fun hc1=>?_
 ·refine aJ ?_;refine cS ?_;have hw:fG r w.name w.range=8:=by rw[fG,aj (by simp[hc0]),ax hc1]
  rw[jt,ax (by rw[hw];decide),hw]
 refine aA ?_;refine ai (hc:=h572 w.range hp0.1.2) ?_;refine aA ?_;refine wp_cond (fun hc2=>?_) (fun hc2=>?_)
 ·try simp only[eE]at hc2
  refine aJ ?_;refine cS ?_;have hw:fG r w.name w.range=6:=by rw[fG,aj (by simp[hc0]),aj hc1,ax hc2]
  rw[jt,ax (by rw[hw];decide),hw]
 simp only[b6]at hc2;have hw0:fG r w.name w.range=0:=by rw[fG,aj (by simp[hc0]),aj hc1,aj (by simp[hc2])]
 refine aE ?_;refine ai (hc:=h812 w.feats al) ?_;refine aA ?_;refine fA (fun hc3=>?_) fun hc3=>?_
 ·refine aJ ?_;refine cS ?_;rw[jt,aj (by simp[hw0]),ax hc3]
 refine aH ?_;refine cS ?_;rw[jt,aj (by simp[hw0]),aj (by simp[hc3])]
def YD (Y:Ctx):Prop:=yA (bt Y 669)
def Iy:aF:=⟨2,13,[⟨2,none⟩],bQ,(sq (rg [gb 9 s0,gb 3 s1,gm bq] [(8,0),(3,1),(2,2)]) (sq (sq (r1 [gf 0 s3,gd l0,gl l1,aL l2 bq] 4 3) (.cond s4 (sq (r1 [gm Ew] 2 0) .ret) .skip)) (sq (sq (r1 [gf 0 s3,gd l0,gl l1,cZ l2 kn] 5 3) (.cond s5 (sq (r1 [gm kn] 2 0) .ret) .skip)) (sq (sq (r1 [gm bq] 6 0) (.block 0 (.loop (sq (sq (r1 [gm s6,gf 0 s3,gd l1,gl l2,aS l0 l3] 7 4) (fB s7 0)) (sq (.block 1 (sq (r2 [gk 9 true s8,gf 0 s3,gd l1,gm s6,ga 4 l2 l3,gk 4 true l4,gf 0 s3,gd l6,gl l7,aL l8 bX,gx 669 [l0,l5,l9] [[.a,.a,.a,.a,.a,.a,.sl 3 [.sl 4 [.a,.a,.sl 1 [.a],.a],.a,.a],.sl 3 [.a,.a,.a],.sl 2 [.a,.sl 1 [.a]]],[.a,.a,.sl 1 [.a],.a],[.a]],gm l10] 9 11) (sq (r1 [gm s9,b7 l0 bq] 10 1) (.cond jf (sq (r1 [gm s9,gm l0] 2 1) .ret) .skip)))) (r1 [gm s6,aw l0 bX,gm l1] 6 2)))))) (sq (sq (r1 [gf 1 s3,gd l0,gx 670 [l1] bQ,jU l2] 11 3) (.cond k9 (sq (r1 [gm Ot] 2 0) .ret) .skip)) (sq (sq (r1 [gf 2 s3,gd l0,b7 l1 cse,gm l2,mL 3 2 s3,lr 3 l4,bY 3 (.call 357 [l5] bQ),bY 3 (.un .not l6),eL l3 l7] 12 8) (.cond lv (sq (r1 [gm (i6 14)] 2 0) .ret) .skip)) (sq (r1 [gm bq] 2 0) .ret)))))))⟩
def w457 {Y:Ctx}(hm:(Y.at 0).bd)(h357:Hm Y)(h669:YD Y)(h670:Vs Y)(r:Rec)(n:cb)  (hp0:n.sm):dj Y Iy (.int .i64 (iN r n)) [Rec.D r,cb.D n]:=by
 show bH _ _ _ [⟨_,_⟩,⟨_,_⟩,_,_,_,_,_,_,_,_,_,_,_] _;refine aq ?_;refine cW ?_;intro u0;refine az ?_;refine cI (fun hc0=>?_) fun hc0=>?_
 ·refine aJ ?_;refine cS ?_;rw[iN,ax ae]
 refine aH ?_;intro u1;refine az ?_;refine cI (fun hc1=>?_) fun hc1=>?_
 ·refine aJ ?_;refine cS ?_;rw[iN,aj ae,ax ae]
 refine aJ ?_;refine bh hm (ι:=Nat) (fun i=>[.un,.un,.un,⟨true,.ptr 1 3 0 0⟩,.un,.un,⟨true,.int .i64 (i:Nat)⟩,.un,⟨true,.ptr 0 9 0 0⟩,.un,.un,.un,.un]) (fun i=>[(0,.buf 9 [Rec.D r]),(1,.buf 3 [cb.D n])]) 12 (fun i=>i<=n.any.length/\me r n.any=fg (fun i=>jt r n.any[i]! (decide ((n.any.length:Int)=1))) i n.any.length) (fun i=>n.any.length-i) 0 ⟨ae,rfl⟩ (dL [(0,0),(1,1)]) ?_;rintro i ⟨hi,hr⟩;refine aH ?_;intro u2;refine az ?_;refine cI (fun hc2=>?_) fun hc2=>?_
 ·refine aY ?_;refine ca i ?_;first|refine b8 (v:=(cq.D _)) ?_|refine fF (v:=(cq.D _)) ?_
  refine az ?_;refine ll ?_;refine aD ?_;refine ai (hc:=h669 r n.any[i]! _ (hp0.1 _ (bA ae))) ?_;refine aH ?_;refine fA (fun hc3=>?_) fun hc3=>?_
  ·refine aY ?_;refine cS ?_;have hw:me r n.any=jt r n.any[i]! (decide ((n.any.length:Int)=1)):=by rw[hr,lE ae hc3]
   rw[iN,aj ae,aj ae,ax (by rw[hw];exact hc3),hw]
  refine bM ?_;exact⟨i+1,⟨ae,by rw[hr,nA ae hc3]⟩,ae,(dL [(0,0),(1,1)])⟩
 refine aE ?_;have hw0:me r n.any=0:=by rw[hr,ny ae]
 refine az ?_;refine ai (hc:=h670 _) ?_;refine az ?_;refine av (fun hc4=>?_) (fun hc4=>?_)
 ·try simp only[eE]at hc4
  refine aJ ?_;refine cS ?_;rw[iN,aj ae,aj ae,aj (by simp[hw0]),ax hc4]
 simp only[b6]at hc4;refine cW ?_;refine ai (hc:=h357 _) ?_;refine aA ?_;refine av (fun hc5=>?_) (fun hc5=>?_)
 ·try simp only[eE]at hc5
  refine aJ ?_;refine cS ?_;rw[iN,aj ae,aj ae,aj (by simp[hw0]),aj (by simp[hc4]),ax hc5]
 simp only[dT,b6,aW]at hc5;refine aJ ?_;refine cS ?_;rw[iN,aj ae,aj ae,aj (by simp[hw0]),aj (by simp[hc4]),aj (by rintro⟨g1,g2⟩;rcases hc5 with h|h;exact g1 h;rw[g2]at h;cases h)]
def Yc (Y:Ctx):Prop:=yr (bt Y 457)
def NA:aF:=⟨2,9,[⟨2,none⟩],bQ,(sq (rg [gb 9 s0,gb 3 s1,gm bq] [(5,0),(3,1),(2,2)]) (sq (.block 0 (sq (r1 [gf 0 s3,gd l0,gx 216 [l1] bQ,jU l2,gm l3] 4 4) (.cond s4 (sq (r1 [gm sg] 2 0) .ret) (sq (r1 [gf 0 s3,gd l0,gf 0 s5,gd l2,aL l1 l3,gm l4] 6 5) (.cond s6 (sq (r1 [gm Fj] 2 0) .ret) (sq (r1 [gf 1 s3,gd l0,gx 572 [l1] bQ,jU l2,gm l3] 7 4) (.cond s7 (sq (r1 [gm wV] 2 0) .ret) (sq (r1 [gf 2 s3,gd l0,gx 670 [l1] bQ,jU l2,gm l3] 8 4) (.cond s8 (sq (r1 [gm Ot] 2 0) .ret) .skip))))))))) (sq (r1 [gm bq] 2 0) .ret)))⟩
def w458 {Y:Ctx}(hm:(Y.at 0).bd)(h216:LX Y)(h572:Vj Y)(h670:Vs Y)(r:Rec)(b:jL)  (hp0:b.sm):dj Y NA (.int .i64 (oT r b)) [Rec.D r,jL.D b]:=by
 show bH _ _ _ [⟨_,_⟩,⟨_,_⟩,_,_,_,_,_,_,_] _;refine aq ?_;refine bM ?_;refine ai (hc:=h216 _) ?_;refine aA ?_;refine fA (fun hc0=>?_) fun hc0=>?_
 ·refine aJ ?_;refine cS ?_;have hw:fG r b.name b.range=4:=by rw[fG,ax hc0]
  rw[oT,ax (by rw[hw];decide),hw]
 refine bM ?_;refine fA (fun hc1=>?_) fun hc1=>?_
 ·refine aJ ?_;refine cS ?_;have hw:fG r b.name b.range=8:=by rw[fG,aj (by simp[hc0]),ax hc1]
  rw[oT,ax (by rw[hw];decide),hw]
 refine aA ?_;refine ai (hc:=h572 b.range hp0.2.1) ?_;refine aA ?_;refine wp_cond (fun hc2=>?_) (fun hc2=>?_)
 ·try simp only[eE]at hc2
  refine aJ ?_;refine cS ?_;have hw:fG r b.name b.range=6:=by rw[fG,aj (by simp[hc0]),aj hc1,ax hc2]
  rw[oT,ax (by rw[hw];decide),hw]
 simp only[b6]at hc2;have hw0:fG r b.name b.range=0:=by rw[fG,aj (by simp[hc0]),aj hc1,aj (by simp[hc2])]
 refine aA ?_;refine ai (hc:=h670 _) ?_;refine aA ?_;refine fA (fun hc3=>?_) fun hc3=>?_
 ·refine aJ ?_;refine cS ?_;rw[oT,aj (by simp[hw0]),ax hc3]
 refine aH ?_;refine cS ?_;rw[oT,aj (by simp[hw0]),aj (by simp[hc3])]
def K5 (T:List D->D->Prop):Prop:=∀(r:Rec) (b:jL),(b.sm)->T [Rec.D r,jL.D b] (.int .i64 (oT r b))
def Yd (Y:Ctx):Prop:=K5 (bt Y 458)
def D0:aF:=⟨2,7,[⟨2,none⟩],bQ,(sq (rg [gb 9 s0,gm dM] [(4,0),(2,1)]) (sq (sq (r1 [gm bq] 3 0) (.block 0 (.loop (sq (sq (r1 [gm s3,gf 6 s4,gd l1,gl l2,aS l0 l3] 5 4) (fB s5 0)) (sq (.block 1 (sq (r1 [gf 6 s4,gd l0,gm s3,ga 3 l1 l2,gf 2 l3,gd l4,gm s1,aL l5 l6] 6 7) (.cond s6 (sq (r1 [gm qx] 2 0) .ret) .skip))) (r1 [gm s3,aw l0 bX,gm l1] 3 2)))))) (sq (r1 [gm dM] 2 0) .ret)))⟩
def w673 {Y:Ctx}(hm:(Y.at 0).bd)  (r:Rec)(x:au)   :dj Y D0 (.bool (FO r.needs x)) [Rec.D r,.str x]:=by
 show bH _ _ _ [⟨_,_⟩,⟨_,_⟩,_,_,_,_,_] _;refine aq ?_;refine aY ?_;refine bh hm (ι:=Nat) (fun i=>[.un,⟨true,.str x⟩,.un,⟨true,.int .i64 (i:Nat)⟩,⟨true,.ptr 0 9 0 0⟩,.un,.un]) (fun i=>[(0,.buf 9 [Rec.D r])]) 3 (fun i=>i<=r.needs.length/\FO r.needs x=(r.needs.drop i).any (fun n=>decide (n.option=x))) (fun i=>r.needs.length-i) 0 ⟨ae,rfl⟩ (dL [(0,0)]) ?_;rintro i ⟨hi,hr⟩;refine aH ?_;intro u0;refine az ?_;refine cI (fun hc0=>?_) fun hc0=>?_
 ·refine aH ?_;refine ca i ?_;refine aJ ?_;refine fA (fun hc1=>?_) fun hc1=>?_
  ·refine aH ?_;refine bS ?_;rw[hr,xT (c:=fun n:cb=>decide (n.option=x)) ae (cz hc1)]
  refine bM ?_;exact⟨i+1,⟨ae,by rw[hr,C2 (c:=fun n:cb=>decide (n.option=x)) ae (dk hc1)]⟩,ae,(dL [(0,0)])⟩
 refine aH ?_;refine bS ?_;rw[hr,xS ae]
def Lv (T:List D->D->Prop):Prop:=∀(r:Rec) (x:au),T [Rec.D r,.str x] (.bool (FO r.needs x))
def YF (Y:Ctx):Prop:=Lv (bt Y 673)
def D1:aF:=⟨2,7,[⟨2,none⟩],bQ,(sq (rg [gb 9 s0,gm dM] [(4,0),(2,1)]) (sq (sq (r1 [gm bq] 3 0) (.block 0 (.loop (sq (sq (r1 [gm s3,gf 6 s4,gd l1,gl l2,aS l0 l3] 5 4) (fB s5 0)) (sq (.block 1 (sq (r1 [gf 6 s4,gd l0,gm s3,ga 3 l1 l2,gf 0 l3,gd l4,gl l5,aL l6 bX,gm l7,mL 8 6 s4,lr 8 l9,gmt 8 s3,bY 8 (.ia 3 l10 gH),mL 8 0 jm,lr 8 jV,bY 8 (.ia 4 lg bq),mL 8 0 mM,lr 8 og,gmt 8 s1,bY 8 (cQ rl sX),eL l8 uh] 6 20) (.cond s6 (sq (r1 [gm qx] 2 0) .ret) .skip))) (r1 [gm s3,aw l0 bX,gm l1] 3 2)))))) (sq (r1 [gm dM] 2 0) .ret)))⟩
def w674 {Y:Ctx}(hm:(Y.at 0).bd)  (r:Rec)(x:au)   :dj Y D1 (.bool (xd r.needs x)) [Rec.D r,.str x]:=by
 show bH _ _ _ [⟨_,_⟩,⟨_,_⟩,_,_,_,_,_] _;refine aq ?_;refine aY ?_;refine bh hm (ι:=Nat) (fun i=>[.un,⟨true,.str x⟩,.un,⟨true,.int .i64 (i:Nat)⟩,⟨true,.ptr 0 9 0 0⟩,.un,.un]) (fun i=>[(0,.buf 9 [Rec.D r])]) 3 (fun i=>i<=r.needs.length/\xd r.needs x=(r.needs.drop i).any (fun n=>decide (n.any.length=1)&&decide (n.any[0]!.name=x))) (fun i=>r.needs.length-i) 0 ⟨ae,rfl⟩ (dL [(0,0)]) ?_;rintro i ⟨hi,hr⟩;refine aH ?_;intro u0;refine az ?_;refine cI (fun hc0=>?_) fun hc0=>?_
 ·refine aH ?_;refine ca i ?_;refine aA ?_;intro u1;refine aJ ?_;refine ca i (hb:=fun _=>ae) ?_;refine aD ?_;refine b8 (q:=cb.D) (xs:=r.needs) (i:=i) (hi:=fun _=>ae) (v:=(.sl 4 (r.needs[i]!.any.map cq.D))) ?_;refine ca 0 (hb:=fun h=>by simp only[gp,beq_iff_eq,bw,aW]at h;omega) ?_;refine aD ?_;refine b8 (q:=cq.D) (xs:=r.needs[i]!.any) (i:=0) (hi:=fun h=>by simp only[gp,beq_iff_eq,bw,aW]at h;omega) (v:=(.str r.needs[i]!.any[0]!.name)) ?_;refine aE ?_;refine wp_cond (fun hc1=>?_) (fun hc1=>?_)
  ·rw[gT.2 (show((r.needs[i]!.any.length:Nat):Int)=1↔r.needs[i]!.any.length=1 by omega)]at hc1;have hz:=hc1;refine aH ?_;refine bS ?_;rw[hr,xT ae hz]
  rw[gT.2 (show((r.needs[i]!.any.length:Nat):Int)=1↔r.needs[i]!.any.length=1 by omega)]at hc1;have hz:=hc1;refine bM ?_;exact⟨i+1,⟨ae,by rw[hr,C2 ae hz]⟩,ae,(dL [(0,0)])⟩
 refine aH ?_;refine bS ?_;rw[hr,xS ae]
def Lw (T:List D->D->Prop):Prop:=∀(r:Rec) (x:au),T [Rec.D r,.str x] (.bool (xd r.needs x))
def YG (Y:Ctx):Prop:=Lw (bt Y 674)
def Gb:aF:=⟨2,10,[⟨2,none⟩],bQ,(sq (rg [gb 9 s0,gm bq] [(6,0),(2,1)]) (sq (sq (r1 [gm bq] 3 0) (.block 0 (.loop (sq (sq (r1 [gm s3,gm s1,gl l1,aS l0 l2] 4 3) (fB s4 0)) (sq (.block 1 (sq (rg [gm s1,gm s3,ga 1 l0 l1,gd l2,gx 672 [l3] bQ,gm l4,ge l5 0,ge l5 1,ge l5 2,gm l6,gm l7,gm l8] [(5,9),(7,10)]) (sq (sq (r1 [gm s5,aL l0 kl,gm l1,bY 2 (.ld 9 true s6),gmt 2 s7,bY 2 (.call 673 [l3,l4] [[.a,.a,.a,.a,.a,.a,.sl 3 [.sl 4 [.a,.a,.sl 1 [.a],.a],.a,.a],.sl 3 [.a,.a,.a],.sl 2 [.a,.sl 1 [.a]]],[.a]]),bY 2 (.un .not l5),eL l2 l6] 8 7) (.cond s8 (sq (r1 [gm (i6 14)] 2 0) .ret) .skip)) (sq (r1 [gm s5,aL l0 kn,gm l1,bY 2 (.ld 9 true s6),gmt 2 s7,bY 2 (.call 674 [l3,l4] [[.a,.a,.a,.a,.a,.a,.sl 3 [.sl 4 [.a,.a,.sl 1 [.a],.a],.a,.a],.sl 3 [.a,.a,.a],.sl 2 [.a,.sl 1 [.a]]],[.a]]),bY 2 (.un .not l5),eL l2 l6] 9 7) (.cond s9 (sq (r1 [gm (i6 16)] 2 0) .ret) .skip))))) (r1 [gm s3,aw l0 bX,gm l1] 3 2)))))) (sq (r1 [gm bq] 2 0) .ret)))⟩
def w460 {Y:Ctx}(hm:(Y.at 0).bd)(h672:Vt Y)(h673:YF Y)(h674:YG Y)(r:Rec)(of:List au)  (hp0:∀t∈of,t.length<=1048576):dj Y Gb (.int .i64 (kJ r of)) [Rec.D r,.sl 1 (of.map D.str)]:=by
 show bH _ _ _ [⟨_,_⟩,⟨_,_⟩,_,_,_,_,_,_,_,_] _;refine aq ?_;refine aY ?_;refine bh hm (ι:=Nat) (fun i=>[.un,⟨true,.sl 1 (of.map D.str)⟩,.un,⟨true,.int .i64 (i:Nat)⟩,.un,.un,⟨true,.ptr 0 9 0 0⟩,.un,.un,.un]) (fun i=>[(0,.buf 9 [Rec.D r])]) 3 (fun i=>i<=of.length/\kJ r of=fg (fun i=>jH r of[i]!) i of.length) (fun i=>of.length-i) 0 ⟨ae,rfl⟩ (dL [(0,0)]) ?_;rintro i ⟨hi,hr⟩;refine aJ ?_;intro u0;refine az ?_;refine cI (fun hc0=>?_) fun hc0=>?_
 ·refine aY ?_;refine ai (hc:=h672 of[i]! (hp0 _ (bA ae))) ?_;refine A0 ?_;refine ai (hc:=h673 r (dq of[i]!).2.1) ?_;refine aA ?_;refine av (fun hc1=>?_) (fun hc1=>?_)
  ·try simp only[eE]at hc1
   refine aY ?_;refine cS ?_;have he:jH r of[i]! =14:=by rw[jH,ax hc1]
   rw[hr,lE ae (by rw[he];decide),he]
  have hn1:¬((dq of[i]!).1=2/\FO r.needs (dq of[i]!).2.1=false):=by rintro⟨g1,g2⟩;rw[g1,g2]at hc1;cases hc1
  refine aY ?_;refine ai (hc:=h674 r (dq of[i]!).2.1) ?_;refine aA ?_;refine wp_cond (fun hc2=>?_) (fun hc2=>?_)
  ·try simp only[eE]at hc2
   refine aH ?_;refine cS ?_;have he:jH r of[i]! =16:=by rw[jH,aj hn1,ax hc2]
   rw[hr,lE ae (by rw[he];decide),he]
  have hn2:¬((dq of[i]!).1=3/\xd r.needs (dq of[i]!).2.1=false):=by rintro⟨g1,g2⟩;rw[g1,g2]at hc2;cases hc2
  refine bM ?_;exact⟨i+1,⟨ae,by rw[hr,nA ae (by rw[jH,aj hn1,aj hn2])]⟩,ae,(dL [(0,0)])⟩
 refine aH ?_;refine cS ?_;rw[hr,ny ae]
def K6 (T:List D->D->Prop):Prop:=∀(r:Rec) (of:List au),(∀t∈of,t.length<=1048576)->T [Rec.D r,.sl 1 (of.map D.str)] (.int .i64 (kJ r of))
def Yf (Y:Ctx):Prop:=K6 (bt Y 460)
def Gc:aF:=⟨1,17,[⟨1,none⟩,⟨2,none⟩],fH,(sq (rg [gb 9 s0,gm bq,gm bq] [(4,0),(1,1),(2,2)]) (sq (sq (r1 [gm bq] 3 0) (.block 0 (.loop (sq (sq (r1 [gm s3,gf 6 s4,gd l1,gl l2,aS l0 l3] 5 4) (fB s5 0)) (sq (.block 1 (sq (r2 [gk 9 true s4,gf 6 s4,gd l1,gm s3,ga 3 l2 l3,gk 3 true l4,gx 457 [l0,l5] [[.a,.a,.a,.a,.a,.a,.sl 3 [.sl 4 [.a,.a,.sl 1 [.a],.a],.a,.a],.sl 3 [.a,.a,.a],.sl 2 [.a,.sl 1 [.a]]],[.sl 4 [.a,.a,.sl 1 [.a],.a],.a,.a]],gm l6] 6 7) (sq (r1 [gm s6,b7 l0 bq] 7 1) (.cond s7 (sq (rg [gm s6,gm s3,gm l0,gm l1] [(1,2),(2,3)]) .ret) .skip)))) (r1 [gm s3,aw l0 bX,gm l1] 3 2)))))) (sq (sq (r1 [gm bq] 8 0) (.block 2 (.loop (sq (sq (r1 [gm s8,gf 7 s4,gd l1,gl l2,aS l0 l3] 9 4) (fB s9 2)) (sq (.block 3 (sq (r2 [gk 9 true s4,gf 7 s4,gd l1,gm s8,ga 3 l2 l3,gk 3 true l4,gx 458 [l0,l5] [[.a,.a,.a,.a,.a,.a,.sl 3 [.sl 4 [.a,.a,.sl 1 [.a],.a],.a,.a],.sl 3 [.a,.a,.a],.sl 2 [.a,.sl 1 [.a]]],[.a,.a,.a]],gm l6] 10 7) (sq (r1 [gm jf,b7 l0 bq] 11 1) (.cond k9 (sq (rg [gm jf,gm s8,gm l0,gm l1] [(1,2),(2,3)]) .ret) .skip)))) (r1 [gm s8,aw l0 bX,gm l1] 8 2)))))) (sq (sq (r1 [gf 8 s4,gd l0,gx 459 [l1] [[.sl 2 [.a,.sl 1 [.a]]]],jU l2] 12 3) (.cond lv (sq (rg [gm (i6 11),gm bq] [(1,0),(2,1)]) .ret) .skip)) (sq (sq (r1 [gm bq] 13 0) (.block 4 (.loop (sq (sq (r1 [gm qG,gf 8 s4,gd l1,gl l2,aS l0 l3] 14 4) (fB rN 4)) (sq (.block 5 (sq (r2 [gk 9 true s4,gf 8 s4,gd l1,gm qG,ga 2 l2 l3,gf 1 l4,gd l5,gx 460 [l0,l6] [[.a,.a,.a,.a,.a,.a,.sl 3 [.sl 4 [.a,.a,.sl 1 [.a],.a],.a,.a],.sl 3 [.a,.a,.a],.sl 2 [.a,.sl 1 [.a]]],[.sl 1 [.a]]],gm l7] 15 8) (sq (r1 [gm xI,b7 l0 bq] 16 1) (.cond Bo (sq (rg [gm xI,gm qG,gm l0,gm l1] [(1,2),(2,3)]) .ret) .skip)))) (r1 [gm qG,aw l0 bX,gm l1] 13 2)))))) (sq (rg [gm bq,gm bq] [(1,0),(2,1)]) .ret))))))⟩
def w218 {Y:Ctx}(hm:(Y.at 0).bd)(h457:Yc Y)(h458:Yd Y)(h459:Ye Y)(h460:Yf Y)(r:Rec)  (hp0:fo r):dj Y Gc (.tup [.int .i64 (eF r).1,.int .i64 (eF r).2]) [Rec.D r]:=by
 show bH _ _ _ [⟨_,_⟩,_,_,_,_,_,_,_,_,_,_,_,_,_,_,_,_] _;refine aq ?_;refine bM ?_;refine bh hm (ι:=Nat) (fun i=>[.un,.un,.un,⟨true,.int .i64 (i:Nat)⟩,⟨true,.ptr 0 9 0 0⟩,.un,.un,.un,.un,.un,.un,.un,.un,.un,.un,.un,.un]) (fun i=>[(0,.buf 9 [Rec.D r])]) 4 (fun i=>i<=r.needs.length/\lK r=ig (fun i=>iN r r.needs[i]!) i r.needs.length) (fun i=>r.needs.length-i) 0 ⟨ae,rfl⟩ (dL [(0,0)]) ?_;rintro i ⟨hi,hr⟩;refine aH ?_;intro u0;refine az ?_;refine cI (fun hc0=>?_) fun hc0=>?_
 ·refine aY ?_;refine ca i ?_;first|refine b8 (v:=(cb.D _)) ?_|refine fF (v:=(cb.D _)) ?_
  refine ai (hc:=h457 r r.needs[i]! (hp0.2.1 _ (bA ae))) ?_;refine aH ?_;refine fA (fun hc1=>?_) fun hc1=>?_
  ·refine cW ?_;refine bL (aM (ar (D.int .i64) ?_) (ar (D.int .i64) ?_));all_goals
    have hq:eF r=(iN r r.needs[i]!,((i:Nat):Int)):=by
     exact FQ (by rw[hr,jS ae hc1]) hc1
    rw[hq];first|done|rfl
  refine bM ?_;exact⟨i+1,⟨ae,by rw[hr,lD ae hc1]⟩,ae,(dL [(0,0)])⟩
 refine aE ?_;have hn0:lK r=(0,0):=by rw[hr,lC ae]
 refine az ?_;refine bh hm (ι:=Nat) (fun i=>[.un,.un,.un,.un,⟨true,.ptr 0 9 0 0⟩,.un,.un,.un,⟨true,.int .i64 (i:Nat)⟩,.un,.un,.un,.un,.un,.un,.un,.un]) (fun i=>[(0,.buf 9 [Rec.D r])]) 10 (fun i=>i<=r.bars.length/\sU r=ig (fun i=>oT r r.bars[i]!) i r.bars.length) (fun i=>r.bars.length-i) 0 ⟨ae,rfl⟩ (dL [(0,0)]) ?_;rintro i ⟨hi,hr⟩;refine aH ?_;intro u1;refine az ?_;refine cI (fun hc2=>?_) fun hc2=>?_
 ·refine aY ?_;refine ca i ?_;first|refine b8 (v:=(jL.D _)) ?_|refine fF (v:=(jL.D _)) ?_
  refine ai (hc:=h458 r r.bars[i]! (hp0.2.2.1 _ (bA ae))) ?_;refine aH ?_;refine fA (fun hc3=>?_) fun hc3=>?_
  ·refine cW ?_;refine bL (aM (ar (D.int .i64) ?_) (ar (D.int .i64) ?_));all_goals
    have hq:eF r=(oT r r.bars[i]!,((i:Nat):Int)):=by
     exact Ac hn0 (by rw[hr,jS ae hc3]) hc3
    rw[hq];first|done|rfl
  refine bM ?_;exact⟨i+1,⟨ae,by rw[hr,lD ae hc3]⟩,ae,(dL [(0,0)])⟩
 refine aE ?_;have hb0:sU r=(0,0):=by rw[hr,lC ae]
 refine az ?_;refine ai (hc:=h459 r.feats hp0.2.2.2) ?_;refine az ?_;refine av (fun hc4=>?_) (fun hc4=>?_)
 ·try simp only[eE]at hc4
  refine aH ?_;refine bL (aM (ar (D.int .i64) ?_) (ar (D.int .i64) ?_));all_goals
   have hq:eF r=(11,0):=by
    exact FR hn0 hb0 hc4
   rw[hq];first|done|rfl
 simp only[b6]at hc4;refine aJ ?_;refine bh hm (ι:=Nat) (fun i=>[.un,.un,.un,.un,⟨true,.ptr 0 9 0 0⟩,.un,.un,.un,.un,.un,.un,.un,.un,⟨true,.int .i64 (i:Nat)⟩,.un,.un,.un]) (fun i=>[(0,.buf 9 [Rec.D r])]) 20 (fun i=>i<=r.feats.length/\tq r=ig (fun i=>kJ r r.feats[i]!.of) i r.feats.length) (fun i=>r.feats.length-i) 0 ⟨ae,rfl⟩ (dL [(0,0)]) ?_;rintro i ⟨hi,hr⟩;refine aH ?_;intro u2;refine az ?_;refine cI (fun hc5=>?_) fun hc5=>?_
 ·refine aY ?_;refine ca i ?_;refine az ?_;refine ai (hc:=h460 r r.feats[i]!.of (hp0.2.2.2 _ (bA ae)).2.2) ?_;refine aH ?_;refine fA (fun hc6=>?_) fun hc6=>?_
  ·refine cW ?_;refine bL (aM (ar (D.int .i64) ?_) (ar (D.int .i64) ?_));all_goals
    have hq:eF r=(kJ r r.feats[i]!.of,((i:Nat):Int)):=by
     exact ru hn0 hb0 hc4 (by rw[hr,jS (f:=(fun i=>kJ r r.feats[i]!.of)) ae hc6])
    rw[hq];first|done|rfl
  refine bM ?_;exact⟨i+1,⟨ae,by rw[hr,lD (f:=(fun i=>kJ r r.feats[i]!.of)) ae hc6]⟩,ae,(dL [(0,0)])⟩
 refine aY ?_;refine bL (aM (ar (D.int .i64) ?_) (ar (D.int .i64) ?_));all_goals
  have hq:eF r=(0,0):=by
   exact ru hn0 hb0 hc4 (by rw[hr,lC ae])
  rw[hq];first|done|rfl
def KF (T:List D->D->Prop):Prop:=∀(r:Rec),(fo r)->T [Rec.D r] (.tup [.int .i64 (eF r).1,.int .i64 (eF r).2])
def XI (Y:Ctx):Prop:=KF (bt Y 218)
def F9:aF:=⟨1,11,[⟨1,none⟩,⟨2,none⟩],fH,(sq (rg [gb 9 s0,gm bq,gm bq] [(3,0),(1,1),(2,2)]) (sq (.block 0 (sq (r1 [gf 0 s3,gd l0,gx 216 [l1] bQ,jU l2,gm l3] 4 4) (.cond s4 (sq (rg [gm sg,gm bq] [(1,0),(2,1)]) .ret) (sq (r1 [gf 1 s3,gk 5 true l0,gx 217 [l1] zF,jU l2,gm l3] 5 4) (.cond s5 (sq (rg [gm Hf,gm bq] [(1,0),(2,1)]) .ret) (sq (r1 [gf 6 s3,gd l0,gl l1,cZ l2 Fj,gm l3,j5 4 7 s3,lF 4 l5,cD 4 (.len l6),cD 4 (et l7 Fj),fE l4 l8,gm l9] 6 10) (.cond s6 (sq (rg [gm kn,gm bq] [(1,0),(2,1)]) .ret) .skip))))))) (sq (sq (rg [gk 9 true s3,gx 218 [l0] [[.a,.a,.a,.a,.a,.a,.sl 3 [.sl 4 [.a,.a,.sl 1 [.a],.a],.a,.a],.sl 3 [.a,.a,.a],.sl 2 [.a,.sl 1 [.a]]]],gm l1,ge l2 0,ge l2 1,gm l3,gm l4] [(7,5),(9,6)]) (sq (r1 [gm s7,b7 l0 bq] 8 1) (.cond s8 (sq (rg [gm s7,gm s9,gm l0,gm l1] [(1,2),(2,3)]) .ret) .skip))) (sq (sq (r1 [gk 9 true s3,gx 219 [l0] [[.a,.a,.a,.a,.a,.a,.sl 3 [.sl 4 [.a,.a,.sl 1 [.a],.a],.a,.a],.sl 3 [.a,.a,.a],.sl 2 [.a,.sl 1 [.a]]]],pM l1,cZ l2 (i6 4096)] 10 3) (.cond jf (sq (rg [gm kn,gm bq] [(1,0),(2,1)]) .ret) .skip)) (sq (rg [gm bq,gm bq] [(1,0),(2,1)]) .ret)))))⟩
def w71 {Y:Ctx}(hm:(Y.at 0).bd)(h216:LX Y)(h217:LY Y)(h218:XI Y)(h219:U1 Y)(r:Rec)  (hp0:fo r):dj Y F9 (.tup [.int .i64 (cK r).1,.int .i64 (cK r).2]) [Rec.D r]:=by
 show bH _ _ _ [⟨_,_⟩,_,_,_,_,_,_,_,_,_,_] _;refine aq ?_;refine bM ?_;refine ai (hc:=h216 _) ?_;refine aA ?_;refine wp_cond (fun hc0=>?_) (fun hc0=>?_)
 ·try simp only[eE]at hc0
  refine aH ?_;refine bL (aM (ar (D.int .i64) ?_) (ar (D.int .i64) ?_));all_goals (have hq:cK r=(4,0):=(by rw[cK,ax hc0]);rw[hq];first|done|rfl)
 simp only[b6]at hc0;refine az ?_;refine bI (v:=cY.D r.v) ?_;refine ai (hc:=h217 r.v hp0.1.2) ?_;refine aA ?_;refine wp_cond (fun hc1=>?_) (fun hc1=>?_)
 ·try simp only[eE]at hc1
  refine aH ?_;refine bL (aM (ar (D.int .i64) ?_) (ar (D.int .i64) ?_));all_goals (have hq:cK r=(5,0):=(by rw[cK,aj (by simp[hc0]),ax hc1]);rw[hq];first|done|rfl)
 simp only[b6]at hc1;refine aE ?_;intro u0;refine aE ?_;refine ll ?_;refine aE ?_;refine fA (fun hc2=>?_) fun hc2=>?_
 ·refine aH ?_;refine bL (aM (ar (D.int .i64) ?_) (ar (D.int .i64) ?_));all_goals (have hq:cK r=(3,0):=(by rw[cK,aj (by simp[hc0]),aj (by simp[hc1]),ax ae]);rw[hq];first|done|rfl)
 refine aJ ?_;refine ai (hc:=h218 r hp0) ?_;refine fS ?_;refine av (fun hc3=>?_) (fun hc3=>?_)
 ·try simp only[eE]at hc3
  refine bM ?_;refine bL (aM (ar (D.int .i64) ?_) (ar (D.int .i64) ?_));all_goals
   have hq:cK r=eF r:=by
    exact oX hc0 hc1 ae ae rfl hc3
   rw[hq];first|done|rfl
 simp only[b6,aW]at hc3;have hpz:eF r=(0,0):=FU hc3;have hgd:wU r:=⟨⟨hc0,hc1⟩,⟨ae,ae⟩,hpz⟩;refine aE ?_;refine ai (hc:=h219 r ⟨hgd,hp0⟩) ?_;refine aD ?_;intro u1;refine az ?_;refine cI (fun hc4=>?_) fun hc4=>?_
 ·refine aH ?_;refine bL (aM (ar (D.int .i64) ?_) (ar (D.int .i64) ?_));all_goals
   have hq:cK r=(3,0):=by
    rw[qO hc0 hc1 ae ae hpz,ax ae]
   rw[hq];first|done|rfl
 refine aH ?_;refine bL (aM (ar (D.int .i64) ?_) (ar (D.int .i64) ?_));all_goals
  have hq:cK r=(0,0):=by
   rw[qO hc0 hc1 ae ae hpz,aj ae]
  rw[hq];first|done|rfl
def C71 (Y:Ctx):Prop:=Ep (bt Y 71)
end Go.Abs
section
namespace Go.Abs
structure dd where
 r:Rec
 sum:Int
 off:Bool
 deriving Inhabited,DecidableEq
def dd.D (x:dd):D:=.agg [.str x.r.name,.int .i64 x.r.v.major,.int .i64 x.r.v.minor,.int .i64 x.r.v.patch,.str x.r.v.pre,.str x.r.v.build,.sl 3 (x.r.needs.map cb.D),.sl 3 (x.r.bars.map jL.D),.sl 2 (x.r.feats.map cu.D),.int .u64 x.sum,.bool x.off]
structure fV where
 name:au
 es:List dd
 deriving Inhabited,DecidableEq
def fV.D (s:fV):D:=.agg [.str s.name,.sl 11 (s.es.map dd.D)]
def eZ (a b:Int):Int:=if a<b then-1 else if b<a then 1 else 0
def A8 (a b:au):Int:=if Op.bytesLess a b=true then-1 else if a=b then 0 else 1
def sN (a b:au):Int:=if cR a=true/\cR b=true then eZ (eV a) (eV b)else if cR a=true then-1 else if cR b=true then 1 else A8 a b
def GC (l m:List au):Nat->Nat->Int
 |_,0=>eZ l.length m.length
 |i,k+1=>if sN l[i]! m[i]! ≠0 then sN l[i]! m[i]! else GC l m (i+1) k
def sZ (l m:List au)(i:Nat):Int:=GC l m i (min l.length m.length-i)
def CJ {l m:List au}{i:Nat}(h:i<l.length/\i<m.length)(hn:sN l[i]! m[i]! ≠0):sZ l m i=sN l[i]! m[i]! :=by
 unfold sZ;rw[show min l.length m.length-i=(min l.length m.length-(i+1))+1 by omega,GC,ax hn]
def GB {l m:List au}{i:Nat}(h:i<l.length/\i<m.length)(hn:sN l[i]! m[i]! =0):sZ l m i=sZ l m (i+1):=by
 unfold sZ;rw[show min l.length m.length-i=(min l.length m.length-(i+1))+1 by omega,GC,aj (by rw[hn];simp)]
def CI {l m:List au}{i:Nat}(h:l.length<=i\/m.length<=i):sZ l m i=eZ l.length m.length:=by
 unfold sZ;rw[show min l.length m.length-i=0 by omega,GC]
def v8 (a b:au):Int:=if a=b then 0 else if a=[]then 1 else if b=[]then-1 else sZ (ak a 46) (ak b 46) 0
def oZ (a b:cY):Int:=if eY a=false\/eY b=false then 0 else
 if eZ a.major b.major≠0 then eZ a.major b.major else if eZ a.minor b.minor≠0 then eZ a.minor b.minor else
 if eZ a.patch b.patch≠0 then eZ a.patch b.patch else v8 a.pre b.pre
def wL (v:cY):cY:=⟨v.major,v.minor,v.patch,v.pre,[]⟩
theorem Mi (a:Int):eZ a a=0:=by simp[eZ]
def vy {a b:Int}:eZ a b=0↔a=b:=by
 grind [eZ]
def BK {a b:cY}(h:wL a=wL b):oZ a b=0:=by
 grind [wL,oZ,v8,Mi]
theorem Pv (x y z:Int):fg (fun i=>[x,y,z][i]!) 0 [x,y,z].length=if x≠0 then x else if y≠0 then y else z:=by
 grind [fg,tu]
def Px {x y z:Int}(h:fg (fun i=>[x,y,z][i]!) 0 [x,y,z].length=0):x=0/\y=0/\z=0:=by
 grind [Pv]
def Pw {a b:cY}(hv:¬(eY a=false\/eY b=false))(h:¬fg (fun i=>[eZ a.major b.major,eZ a.minor b.minor,eZ a.patch b.patch][i]!) 0 [eZ a.major b.major,eZ a.minor b.minor,eZ a.patch b.patch].length=0):
  fg (fun i=>[eZ a.major b.major,eZ a.minor b.minor,eZ a.patch b.patch][i]!) 0 [eZ a.major b.major,eZ a.minor b.minor,eZ a.patch b.patch].length=oZ a b:=by
 grind [Pv,oZ]
def Pf {a b:cY}(hv:¬(eY a=false\/eY b=false))(h1:eZ a.major b.major=0)(h2:eZ a.minor b.minor=0)(h3:eZ a.patch b.patch=0):oZ a b=v8 a.pre b.pre:=by
 grind [oZ]
def SB {a b:cY}(h1:eZ a.major b.major=0)(h2:eZ a.minor b.minor=0)(h3:eZ a.patch b.patch=0)(h4:a.pre=b.pre):wL a=wL b:=by
 unfold wL;rw[vy.1 h1,vy.1 h2,vy.1 h3,h4]
def Mj (a:cY):oZ a a=0:=BK rfl
def DK (a b:cY):Bool:=eY a&&eY b&&decide (oZ a b=0)
def Nk {v:cY}(h:eY v=true):DK v v=true:=by simp[DK,h,Mj]
def Ft (nm:au)(v:cY)(x:dd):Bool:=decide (x.r.name=nm)&&DK x.r.v v
def Wo {nm:au}{v:cY}{x:dd}(h:¬x.r.name=nm\/DK x.r.v v=false):Ft nm v x=false:=by
 grind [Ft]
def Te {nm:au}{v:cY}{x:dd}(h:x.r.name=nm/\DK x.r.v v=true):Ft nm v x=true:=by
 grind [Ft]
def sJ (l:List dd)(nm:au)(v:cY)(i:Nat):Int:=match(l.drop i).findIdx? (Ft nm v)with
 |some k=>((i+k:Nat):Int)
 |none=>-1
def QJ {l:List dd}{nm:au}{v:cY}{i:Nat}(h:i<l.length)(he:Ft nm v l[i]! =true):sJ l nm v i=(i:Nat):=by
 unfold sJ;rw[jD h,List.findIdx?_cons]
 grind
def QL {l:List dd}{nm:au}{v:cY}{i:Nat}(h:i<l.length)(he:Ft nm v l[i]! =false):sJ l nm v i=sJ l nm v (i+1):=by
 unfold sJ;have:Ft nm v l[i]=false:=by simpa[h]using he
 rw[jD h,List.findIdx?_cons]
 grind
def J0 {l:List dd}{nm:au}{v:cY}{i:Nat}(h:l.length<=i):sJ l nm v i=-1:=by
 unfold sJ;rw[k8 h];rfl
def om (l:List dd)(i:Nat):Bool:=decide ((c7 l[i]!.r).2=0)&&decide (lV l[i]!.r=l[i]!.sum)&&decide (sJ (l.take i) l[i]!.r.name l[i]!.r.v 0<0)
def iT (s:fV):Bool:=(dJ s.name&&decide (s.es.length<=64))&&cV (om s.es) 0 s.es.length
theorem Aj {r:Rec}(h:(c7 r).2=0):eY r.v=true:=by
 grind [cK,c7,qN]
theorem QK {l:List dd}{nm:au}{v:cY}:sJ l nm v 0<0↔∀x∈l,Ft nm v x=false:=by
 grind [sJ,Ft]
theorem Ck {l:List dd}{i:Nat}(h:i<l.length)(hv:eY l[i]!.r.v=true):decide (sJ l l[i]!.r.name l[i]!.r.v 0=(i:Nat))=decide (sJ (l.take i) l[i]!.r.name l[i]!.r.v 0<0):=by
 have hi:Ft l[i]!.r.name l[i]!.r.v l[i]! =true:=by unfold Ft;rw[Nk hv,cz rfl];rfl
 apply gT.2;rw[QK];constructor
 ·intro he x hx;obtain⟨j,hj,rfl⟩:=List.mem_take_iff_getElem.1 hx;have hj2:j<i:=ae;unfold sJ at he;rw[cn]at he;cases hf:l.findIdx? (Ft l[i]!.r.name l[i]!.r.v)with
  |none=>rw[hf]at he;simp only at he;omega
  |some k=>
   rw[hf]at he;obtain⟨h1,h2,h3⟩:=List.findIdx?_eq_some_iff_getElem.1 hf;have hk:k=i:=by simp only at he;omega
   subst hk;have:=h3 j hj2;simpa using this
 ·intro hx;unfold sJ;rw[cn];have:l.findIdx? (Ft l[i]!.r.name l[i]!.r.v)=some i:=by
   rw[List.findIdx?_eq_some_iff_getElem];refine⟨h,by simpa[h]using hi,fun j hj=>?_⟩;have:=hx l[j] (List.mem_take_iff_getElem.2 ⟨j,ae,rfl⟩);rw[this];decide
  rw[this];simp
def Po {l:List dd}{i:Nat}(h:i<l.length)(h1:(c7 l[i]!.r).2=0)(h2:lV l[i]!.r=l[i]!.sum)(h3:sJ l l[i]!.r.name l[i]!.r.v 0=(i:Nat)):om l i=true:=by
 grind [Ck,Aj,om]
def SH {l:List dd}{i:Nat}(h:i<l.length)(h1:(¬(c7 l[i]!.r).2=0\/¬lV l[i]!.r=l[i]!.sum)\/¬sJ l l[i]!.r.name l[i]!.r.v 0=(i:Nat)):om l i=false:=by
 grind [om,c7,lV,Ck,Aj]
def fQ:au:=[115,104,101,108,102]
def jh:au:=[101,110,116,114,121]
def TW:au:=[111,110]
def xN:au:=[111,102,102]
def sG (x:dd):List au:=[jh,ei x.sum,if x.off=true then xN else TW]
def Dg (x:dd):au:=bZ (sG x)++(c7 x.r).1
def eI (s:fV):au:=bZ [fQ,s.name]++(s.es.map Dg).flatten
def lP (s:fV):au×Int:=if iT s=false then([],1)else(eI s,0)
end Go.Abs
namespace Go.Abs
def vj (s:fV)(i:Nat):au:=bZ [fQ,s.name]++((s.es.take i).map Dg).flatten
def UP (s:fV):vj s 0=fQ++[32]++s.name++[10]:=by simp[vj,bZ,aP]
theorem GM {s:fV}{i:Nat}(h:i<s.es.length):vj s (i+1)=vj s i++Dg s.es[i]! :=by
 unfold vj;have e:s.es.take (i+1)=s.es.take i++[s.es[i]!]:=by
  rw[List.take_add_one,List.getElem?_eq_getElem h];simp[h]
 rw[e];simp
def Kt (s:fV):vj s s.es.length=eI s:=by simp[vj,eI]
theorem Ai (r:Rec):(c7 r).1.length<=4096:=by
 grind [c7,cK,fP]
theorem Dh (x:dd):Dg x=jh++[32]++ei x.sum++(if x.off=true then [32]++xN++[10]else [32]++TW++[10])++(c7 x.r).1:=by
 unfold Dg sG bZ;cases x.off<;>simp[aP]
theorem Pq (x:dd):(Dg x).length<=4200:=by
 grind [Ai,gu,Dh,jh,TW,xN]
def Eh {s:fV}(hn:s.name.length<=100):∀{i:Nat},i<=s.es.length->(vj s i).length<=200+i*4200
 |0,_=>by rw[UP];simp[fQ];omega
 |i+1,h=>by
  have h1:=Eh hn (i:=i) ae
  grind [Pq,GM]
def Kl {s:fV}(h:iT s=true):s.name.length<=16/\s.es.length<=64:=by
 grind [iT,dJ]
end Go.Abs
end
namespace Go.Abs
def iEtr (a b:dd):dd.D a=dd.D b↔a=b:=by
 obtain⟨⟨n,⟨v1,v2,v3,v4,v5⟩,x,y,z⟩,s,o⟩:=a;obtain⟨⟨n',⟨w1,w2,w3,w4,w5⟩,x',y',z'⟩,s',o'⟩:=b;simp[dd.D,HS,PT,HR,and_assoc]
def UA (a b:List dd):a.map dd.D=b.map dd.D↔a=b:=vT iEtr a b
def iShf (a b:fV):fV.D a=fV.D b↔a=b:=by cases a;cases b;simp[fV.D,UA]
def HE {A:RT->Prop}(h:A (fun ds d=>A fun ds' d'=>ds'=ds->d=d'):=by
 (repeat' first|apply And.intro|intro _)
 all_goals rename_i e
 all_goals (try simp only[uf,D.str.injEq,D.int.injEq,D.bool.injEq,D.sl.injEq,D.ref.injEq,D.agg.injEq,D.fn.injEq,MP,iInt,iByt,iVer,UD,PU,UC,HS,iBar,PT,UB,HR,iRec,UA,iShf,iEtr,iCmp,Uz,iNd,iNds,Wm,iRng,iAlts,iMrk,iPr,iU8,iL,Tb,cL,cO,reduceCtorEq,dG,dF]at e)
 all_goals first|rfl|(simp only[e];done)|simp_all):Zf (DB A):=Wa h
def pre1 (b c:UInt8)(r:au):([b]:au).isPrefixOf (c::r)=(b==c):=by simp[List.isPrefixOf]
def UE:Option Nat->Int
 |some k=>(k:Int)
 |none=>-1
theorem tC:∀(s:au) (b:UInt8),Lib.index s [b]=UE (s.findIdx? (fun c=>c==b))
 |[],b=>rfl
 |c::r,b=>by
  unfold Lib.index;rw[pre1,List.findIdx?_cons,tC r b];by_cases h:c=b
  ·subst h;simp[UE]
  ·have h1:(b==c)=false:=by simp[Ne.symm h]
   have h2:(c==b)=false:=by simp[h]
   simp only[h1,h2,gS,bc];cases r.findIdx? (fun c=>c==b)with
   |none=>rfl
   |some k=>
    grind [UE]
def V8 (s:au)(b:UInt8):Lib.cut s [b]=ic s b:=by
 unfold Lib.cut ic
 grind [tC,UE]
def Mp (s p:au):(Lib.trimPrefix s p,Lib.hasPrefix s p)=cE s p:=by
 unfold Lib.trimPrefix Lib.hasPrefix cE
 grind
def Fw (b:au):∀l,aP b l=Lib.join l b
 |[]=>rfl
 |[t]=>(Lib.join_one t b).symm
 |t::u::r=>by
  rw[gD _ _ _ aT,Fw b (u::r),Lib.join_cons,Lib.join_cons];simp[Lib.joinTail]
def decDigits_eq (n:Nat):Lib.decDigits n=dC n:=by
 induction n using Nat.strongRecOn with
 |_ n ih=>
  rw[Lib.decDigits];by_cases h:n<10
  ·rw[dif_pos h,nk h];rfl
  ·rw[dif_neg h,ov ae,ih (n/10) ae];rfl
def Ti {n:Int}(h:0<=n):Lib.itoa n=dC n.toNat:=by
 unfold Lib.itoa;rw[aj ae,decDigits_eq]
def pH (b:UInt8):∀(s cur:au),s.findIdx? (fun c=>c==b)=none->cj b.toNat s cur=[cur++s]
 |[],cur,_=>by simp[cj]
 |c::r,cur,h=>by
  rw[List.findIdx?_cons]at h;split at h
  ·cases h
  ·rename_i hc;have hr:r.findIdx? (fun c=>c==b)=none:=by
    cases hq:r.findIdx? (fun c=>c==b)with
    |none=>rfl
    |some k=>rw[hq]at h;cases h
   have hne:¬((c.toNat:Int)=(b.toNat:Int)):=fun e=>hc (by
    have:c.toNat=b.toNat:=ae;simp[iL.1 this])
   simp only[cj,aj hne];rw[pH b r (cur++[c]) hr];simp
def oa (b:UInt8):∀(s cur:au) (k:Nat),s.findIdx? (fun c=>c==b)=some k->cj b.toNat s cur=(cur++s.take k)::cj b.toNat (s.drop (k+1)) []
 |[],cur,k,h=>by simp at h
 |c::r,cur,k,h=>by
  rw[List.findIdx?_cons]at h;split at h
  ·grind [cj]
  ·rename_i hc;have hne:¬((c.toNat:Int)=(b.toNat:Int)):=fun e=>hc (by
    have:c.toNat=b.toNat:=ae;simp[iL.1 this])
   cases hq:r.findIdx? (fun c=>c==b)with
   |none=>rw[hq]at h;cases h
   |some j=>
    rw[hq]at h;have hk:k=j+1:=by simpa using h.symm
    subst hk;simp only[cj,aj hne];rw[oa b r (cur++[c]) j hq];simp
def Cw (b:UInt8):∀(k:Nat) (s:ByteArray),Lib.countB s ⟨⟨[b]⟩⟩=k->(Lib.splitB ⟨⟨[b]⟩⟩ 0 k s).map (fun t=>t.data.toList)=ak s.data.toList b.toNat:=by
 intro k;induction k with
 |zero=>
  intro s h;rw[Lib.splitB_zero];have hi:Lib.indexB s ⟨⟨[b]⟩⟩=UE (s.data.toList.findIdx? (fun c=>c==b)):=tC _ b;cases hq:s.data.toList.findIdx? (fun c=>c==b)with
  |none=>simp[ak,pH b _ [] hq]
  |some j=>
   rw[hq]at hi;have:=Lib.countB_hit s ⟨⟨[b]⟩⟩ j (aQ 1) hi;omega
 |succ k ih=>
  intro s h;have hi:Lib.indexB s ⟨⟨[b]⟩⟩=UE (s.data.toList.findIdx? (fun c=>c==b)):=tC _ b;cases hq:s.data.toList.findIdx? (fun c=>c==b)with
  |none=>
   rw[hq]at hi;have:=Lib.countB_miss s ⟨⟨[b]⟩⟩ hi;omega
  |some j=>
   rw[hq]at hi;have h1:1<=(⟨⟨[b]⟩⟩:ByteArray).size:=aQ 1;have hc:=Lib.countB_hit s ⟨⟨[b]⟩⟩ j h1 hi;rw[Lib.splitB_hit _ _ _ _ j hi];simp only[List.map_cons];rw[ih _ ae];have e1:(s.extract 0 (j+0)).data.toList=s.data.toList.take j:=by
    rw[Lib.extract_data];simp
   have e2:(s.extract (j+(⟨⟨[b]⟩⟩:ByteArray).size) s.size).data.toList=s.data.toList.drop (j+1):=by
    rw[Lib.extract_data];exact ek (by rw[mV,Lib.size_eq];exact aQ _)
   rw[e1,e2];simp only[ak];rw[oa b _ [] j hq];simp
end Go.Abs
section
namespace Go.Abs
open Go.Proofs
def Gy (sep:au)(k:Nat)(s:au)(h:Lib.index s sep=-1):Lib.splitK sep 0 k s=[s]:=by
 cases k with
 |zero=>rfl
 |succ k=>unfold Lib.splitK;rw[if_pos (beq_iff_eq.2 h)]
def IZ (sep:au)(k:Nat)(s:au)(i:Nat)(h:Lib.index s sep=i):Lib.splitK sep 0 (k+1) s=s.take i::Lib.splitK sep 0 k (s.drop (i+sep.length)):=by
 have hm:¬(Lib.index s sep==-1)=true:=fun e=>by have:=beq_iff_eq.1 e;omega
 have e:(Lib.index s sep).toNat=i:=by omega
 rw[Lib.splitK,if_neg hm,e];rfl
def kK (b:UInt8):∀(s cur:au),aP [b] (cj b.toNat s cur)=cur++s
 |[],cur=>by simp[cj,aP]
 |c::r,cur=>by
  unfold cj;split
  ·rename_i h;have hc:c=b:=by
    have:c.toNat=b.toNat:=by omega
    exact UInt8.toNat_inj.1 this
   have hne:cj b.toNat r []≠[]:=pG r b.toNat;rw[gD _ _ _ hne,kK b r [],hc];simp
  ·rw[kK b r (cur++[c])];simp
def Mo (a:au){l:List au}(k:Nat)(hl:l≠[]):qP (k+2) (a::l)=a::qP (k+1) l:=by
 grind [qP]
theorem N7:∀(k:Nat) (s:au),Lib.splitK [32] 0 k s=qP (k+1) (ak s 32):=by
 intro k;induction k with
 |zero=>
  intro s;have hj:aP [32] (ak s 32)=s:=by
   have:=kK 32 s [];simpa[ak]using this
  unfold qP;split
  ·rename_i h;show [s]=_;have hne:ak s 32≠[]:=pG _ _
   match hq:ak s 32,hne,h with
   |[t],_,_=>rw[hq]at hj;rw[<-hj];rfl
   |_::_::_,_,h=>simp at h
  ·simp only[Nat.zero_add,Nat.sub_self,List.take_zero,List.drop_zero,List.nil_append,hj];rfl
 |succ k ih=>
  intro s;have hi:=tC s 32;cases hq:s.findIdx? (fun c=>c==32)with
  |none=>
   rw[hq]at hi;have hs:ak s 32=[s]:=by have:=pH 32 s [] hq;simpa[ak]using this
   rw[Gy _ _ _ hi,hs];rfl
  |some j=>
   rw[hq]at hi;have hs:ak s 32=s.take j::ak (s.drop (j+1)) 32:=by have:=oa 32 s [] j hq;simpa[ak]using this
   rw[IZ _ _ _ j hi,hs,Mo _ _ (pG _ _),ih];rfl
def I8 (n:Nat)(h:1<=n)(s:au):Lib.splitK [32] 0 (min n (s.length+1) -1) s=lW (n:Int) s:=by
 grind [dD,N7,lW,qP]
def pre2 (c d:UInt8)(r:au):([124,124]:au).isPrefixOf (c::d::r)=(decide (c=124)&&decide (d=124)):=by
 grind
theorem Cy:∀(s cur:au),Lib.index s [124,124]=-1->aK s cur=[cur++s]
 |[],cur,_=>by simp[aK]
 |[c],cur,_=>rfl
 |c::d::r,cur,h=>by
  unfold Lib.index at h;rw[pre2]at h;by_cases h2:c=124/\d=124
  ·simp[h2.1,h2.2]at h
  ·have h3:(decide (c=124)&&decide (d=124))=false:=by rw[<-Bool.decide_and];exact decide_eq_false h2
   rw[h3,if_neg (by simp)]at h;have h4:Lib.index (d::r) [124,124]=-1:=by
    have:=Lib.index_ge (d::r) [124,124]
    grind
   rw[aK,if_neg h2,Cy (d::r) _ h4];simp
def Cx:∀(s cur:au) (i:Nat),Lib.index s [124,124]=i->aK s cur=(cur++s.take i)::aK (s.drop (i+2)) []
 |[],cur,i,h=>by simp[Lib.index]at h
 |[c],cur,i,h=>by simp[Lib.index,List.isPrefixOf]at h
 |c::d::r,cur,i,h=>by
  unfold Lib.index at h;rw[pre2]at h;by_cases h2:c=124/\d=124
  ·rw[h2.1,h2.2]at h;have hi:i=0:=by simp at h;omega
   subst hi;rw[aK,if_pos h2];simp
  ·have h3:(decide (c=124)&&decide (d=124))=false:=by rw[<-Bool.decide_and];exact decide_eq_false h2
   rw[h3,if_neg (by simp)]at h;split at h
   ·omega
   ·obtain⟨j,rfl⟩:∃j,i=j+1:=⟨i-1,by
     have:=Lib.index_ge (d::r) [124,124];rename_i h5;have:Lib.index (d::r) [124,124]≠-1:=fun e=>h5 (beq_iff_eq.2 e)
     omega⟩
    rw[aK,if_neg h2,Cx (d::r) _ j (by omega)];simp
def N6:∀(k:Nat) (s:ByteArray),Lib.countB s ⟨⟨[124,124]⟩⟩=k->(Lib.splitB ⟨⟨[124,124]⟩⟩ 0 k s).map (fun t=>t.data.toList)=aK s.data.toList []:=by
 intro k;induction k with
 |zero=>
  intro s h;rcases Lib.indexB_cases s ⟨⟨[124,124]⟩⟩with hi|⟨i,hi,_⟩
  ·rw[Lib.splitB_zero]
   grind [Cy]
  ·have:=Lib.countB_hit s ⟨⟨[124,124]⟩⟩ i (by decide) hi;omega
 |succ k ih=>
  intro s h;rcases Lib.indexB_cases s ⟨⟨[124,124]⟩⟩with hi|⟨i,hi,_⟩
  ·rw[Lib.countB_miss _ _ hi]at h;omega
  ·have hc:=Lib.countB_hit s ⟨⟨[124,124]⟩⟩ i (by decide) hi;rw[Lib.splitB_hit _ _ _ _ i hi,List.map_cons,ih _ (by omega),Cx _ _ i (show Lib.index s.data.toList [124,124]=i from hi),Lib.extract_from_zero,Lib.extract_to_end];rfl
def CL {p:UInt8->Bool}:∀(l:au),∀x∈l.takeWhile p,p x=true
 |[],x,h=>by cases h
 |a::r,x,h=>by
  rw[List.takeWhile_cons]at h;split at h
  ·rename_i ha;rcases List.mem_cons.1 h with rfl|h
   ·exact ha
   ·exact CL r x h
  ·cases h
theorem vB {p:UInt8->Bool}:∀(l:au),(∀x∈l,p x=true)->l.dropWhile p=[]
 |[],_=>rfl
 |a::r,h=>by
  rw[List.dropWhile_cons,if_pos (h a (.head _))];exact vB r fun x hx=>h x (.tail _ hx)
def zc:∀s,kv s=s.dropWhile (· ==32)
 |[]=>rfl
 |c::r=>by
  unfold kv;by_cases h:c=32
  ·rw[if_pos h,zc r];simp[h]
  ·rw[if_neg h,List.dropWhile_cons,if_neg (by simpa using h)]
def O9 (s:au):Lib.trimB s 32=eu s:=by
 unfold Lib.trimB Lib.trimLeftB Lib.trimRightB eu;rw[zc,zc];generalize hp:(fun c:UInt8=>c==32)=p;have hs:s=s.takeWhile p++s.dropWhile p:=(List.takeWhile_append_dropWhile).symm;generalize ha:s.takeWhile p=a at hs;generalize hm:s.dropWhile p=m at hs;have hall:∀x∈a,p x=true:=by rw[<-ha];exact CL s
 subst hs;rw[List.reverse_append,List.dropWhile_append];cases m with
 |nil=>
  grind [vB]
 |cons c r=>
  have hc:p c=false:=by
   have:=List.head_dropWhile_not p (l:=a++c::r) (by rw[hm];simp);simpa[hm]using this
  have hne:((c::r).reverse.dropWhile p)≠[]:=by
   rw[List.reverse_cons,List.dropWhile_append];split
   ·simp[hc]
   ·simp
  rw[if_neg (by simpa using hne),List.reverse_append,List.reverse_reverse,List.dropWhile_append,vB _ hall];simp only[List.isEmpty_nil,if_true];rw[List.reverse_cons,List.dropWhile_append];split
  ·simp[hc]
  ·simp[hc]
end Go.Abs
namespace Go.Proofs
open Go.Shelf Go.RowKit Go.Lib
set_option maxHeartbeats 1000000 in
theorem I0 {P:Program}{J:Ren}(L:Lays.n147 P J)(hi9:(P.info? (J.t 9)).map (fun i=>(i.zero,i.size,i.bytes))=some (some (.string ByteArray.empty),1,16))(s sep:ByteArray)(m:Int)(w:World)
  (hs:s.size<4294967281) (hm:w.cell? ⟨(J.g 1),0,none⟩=some (.int .i64 m)) (h1:1<=sep.size):
  Calls P (J.f 147) #[.string s,.string sep,.int .i64 (-1)] w fun e w'=>
   e=.returned (.slice (some ⟨w.heap.size,0,none⟩) (Lib.splitB sep 0 (Lib.countB s sep) s).length (Lib.countB s sep+1))/\w'=w.alloc (.cells (Lib.cellsOf (Lib.splitB sep 0 (Lib.countB s sep) s) (Lib.countB s sep+1)) (J.t 9)):=by
 have hle:=Lib.countB_le sep h1 s.size s (Nat.le_refl _);have c:=Any.strings_genSplit {L with} hi9 s sep 0 (-1) (Lib.countB s sep+1) m w hs hm h1 (Nat.zero_le _) (by decide) (by decide) (by rw[if_pos (by decide)];omega);rw[Nat.add_sub_cancel]at c;have t3:=L.t3;have t9:=L.t9;have t31:=L.t31;have a3:=L.a3;have a9:=L.a9;have a31:=L.a31;have z3:=L.z3;have v3:=L.v3;have z9:=L.z9;have v9:=L.v9;have z31:=L.z31;have v31:=L.v31;have e221:∀args w,(callFunc (J.f 221) args).run P w=.ok (.enter (J.f 221) args) w:=enters_of L.f221 (by kernel_rfl) rfl
 go_enter L.f147,Body.n147_ntmps J
 go_wp2_with (go_at_fn (J.f 221);refine c.mono ?_;rintro e w' ⟨rfl,hw⟩;rw[hw])
 go_ret
 exact⟨rfl,rfl⟩
end Go.Proofs
end
