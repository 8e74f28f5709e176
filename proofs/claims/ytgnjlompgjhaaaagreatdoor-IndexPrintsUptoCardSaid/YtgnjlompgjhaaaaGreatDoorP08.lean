/- A part of the proofs. -/
import Derived.Test.YtgnjlompgjhaaaaGreatDoorP07
set_option linter.all false
set_option maxRecDepth 4000
namespace Go.Abs
def jh:aC:=⟨2,4,[⟨2,none⟩],bM,(sq (r1 [gm dt] 2 0) (sq (sq (r2 [gm s0,gc l0,gf 1 l1,gd l2,gm s0,gc l4,gf 0 l5,gd l6,gl l7,aP l3 l8,gm l9,gmt 10 s0,ca 10 (.nilck im),lr 10 0 js,ke 10 ki,gmt 10 s0,ca 10 (.nilck me),lr 10 1 ng,ke 10 pJ,ca 10 (.ia 1 kW qB),ke 10 rA,gmt 10 s1,ca 10 (cM vT wW),ew l10 yo] 3 23) (.cond s3 (sq (rg [gm s0,gc l0,gf 1 l1,gd l2,ax l3 cq,gc l0,gf 1 l5,gt 1 l6 l4] []) (sq (r1 [gm px] 2 0) .ret)) .skip)) (sq (r1 [gm dt] 2 0) .ret)))⟩
def RV {Y:Ctx}(hm:(Y.at 2).bd)(s:au)(W:List au)(w:List au)(nd:List Nd)(b:Bool)  (hp0:w<:+W/\W.length<=1000):bH (Y.at 2) jh.body (lL jh (CP 4 (gH W) nd (fun o=>o=⟨0,lS w s,nd,b⟩) (fun _=>.bool (fo w s))):Ex->List bI->St->Prop) (gG jh [.ptr 0 4 0 0,.str s]) ⟨2,[(0,.buf 4 [gH W w (.own 1 5 0 nd.length) b]),(1,.buf 5 (nd.map Nd.D))]⟩:=by
 show bH _ _ _ [⟨true,.ptr 0 4 0 0⟩,⟨true,.str s⟩,.un,.un] ⟨2,[(0,.buf 4 [gH W w (.own 1 5 0 nd.length) b]),(1,.buf 5 (nd.map Nd.D))]⟩;refine ak ?_;refine gW ?_;refine kd ?_;refine ic ?_;refine cC (W.length-w.length) (hb:=fun h=>by simp only[eH,beq_iff_eq,aR]at h;omega) ?_;refine aI ?_;refine aw (fun hc0=>?_) (fun hc0=>?_)
 ·have hh:fo w s=true:=(Ds hp0.1 s).symm.trans hc0;obtain⟨r,rfl⟩:=kY hh;refine cU ?_;refine bL (gH W r (.own 1 5 0 nd.length) b) (he:=DG hp0.1.length_le) ?_;refine aF ?_;refine cS trivial gR (dM ah (aj D.bool ?_)) ah ⟨⟨0,lS (s::r) s,nd,b⟩,rfl,rfl,by rw[jM];rfl,rfl⟩;exact(qd s r).symm
 have hh:fo w s=false:=(Ds hp0.1 s).symm.trans hc0;refine aI ?_;refine cS trivial gR (dM ah (aj D.bool ?_)) ah ⟨⟨0,lS w s,nd,b⟩,rfl,rfl,by rw[mH hh];rfl,rfl⟩;exact hh.symm
def y8 (Y:Ctx):Prop:=∀(s:au)(W w:List au)(nd:List Nd)(b:Bool),w<:+W/\W.length<=1000->Jg Y 4 (gH W) 1033 [.str s] w nd b (fun o=>o=⟨0,lS w s,nd,b⟩) (fun _=>.bool (fo w s))
def ji:aC:=⟨1,3,fM,bM,(sq (r1 [gm cse] 1 0) (sq (sq (r2 [gm s0,gc l0,gf 1 l1,gd l2,gm s0,gc l4,gf 0 l5,gd l6,gl l7,gB l3 l8] 2 9) (.cond s2 (sq (rg [gm s0,gc l0,gf 3 l1,gt 1 l2 px] []) (te cse)) .skip)) (sq (rg [gm s0,gc l0,gf 1 l1,gd l2,ax l3 cq,gc l0,gf 1 l5,gt 1 l6 l4] []) (sq (r2 [gm s0,gc l0,gf 0 l1,gd l2,gm s0,gc l4,gf 1 l5,gd l6,ep l7 cq,ga 1 l3 l8,gd l9,gm l10] 1 11) .ret))))⟩
def R5 {Y:Ctx}(hm:(Y.at 2).bd)(W:List au)(w:List au)(nd:List Nd)(b:Bool)  (hp0:w<:+W/\W.length<=1000):bH (Y.at 2) ji.body (lL ji (CP 4 (gH W) nd (fun o=>o=⟨0,w.drop 1,nd,rB w b⟩) (fun _=>.str (aW w))):Ex->List bI->St->Prop) (gG ji [.ptr 0 4 0 0]) ⟨2,[(0,.buf 4 [gH W w (.own 1 5 0 nd.length) b]),(1,.buf 5 (nd.map Nd.D))]⟩:=by
 show bH _ _ _ [⟨true,.ptr 0 4 0 0⟩,.un,.un] ⟨2,[(0,.buf 4 [gH W w (.own 1 5 0 nd.length) b]),(1,.buf 5 (nd.map Nd.D))]⟩;refine ak ?_;refine gW ?_;refine kd ?_;refine aA ?_;refine aw (fun hc0=>?_) (fun hc0=>?_)
 ·simp only[aR]at hc0;have hle:=hp0.1.length_le;obtain rfl:w=[]:=CL.1 ae;refine aI ?_;refine bL (gH W [] (.own 1 5 0 nd.length) true) (he:=bN) ?_;refine aF ?_;refine cS trivial gR (dM ah (aj D.str ?_)) ah ⟨⟨0,([]:List au).drop 1,nd,rB [] b⟩,rfl,rfl,rfl,rfl⟩;rfl
 simp only[bx]at hc0;have hle:=hp0.1.length_le;obtain⟨x,r,rfl⟩:∃x r,w=x::r:=by
  cases w with
  |nil=>exact absurd aT hc0
  |cons x r=>exact⟨x,r,rfl⟩
 refine cU ?_;refine bL (gH W r (.own 1 5 0 nd.length) b) (he:=DG hle) ?_;refine gy ?_;refine cC (W.length-(x::r).length) (hj:=fun _=>by simp only[ay]at hle⊢;omega) (hb:=fun _=>by simp only[ay]at hle⊢;omega) ?_;refine aE ?_;refine cS trivial gR (dM ah (aj D.str ?_)) ah ⟨⟨0,(x::r).drop 1,nd,rB (x::r) b⟩,rfl,rfl,rfl,rfl⟩;exact(DO hp0.1 aT).2
def Ga (Y:Ctx):Prop:=∀(W w:List au)(nd:List Nd)(b:Bool),w<:+W/\W.length<=1000->Jg Y 4 (gH W) 1141 [] w nd b (fun o=>o=⟨0,w.drop 1,nd,rB w b⟩) (fun _=>.str (aW w))
def jO:aC:=⟨2,4,[⟨2,none⟩],bM,(sq (rg [gb 5 s1,gm bp] [(3,0),(2,1)]) (sq (rt [gm s0,gm s0,gc l1,gf 2 l2,gd l3,gk 5 true s3,gn (.bsl 5 (.agg [.int .i64 0,.int .i64 0,.int .i64 0,.int .i64 0,.str []]) 1 [(0,l5)]),gn (.app 5 l4 l6),gc l0,gf 2 l8,gt 1 l9 l7] []) (sq (r1 [gm s0,gc l0,gf 2 l1,gd l2,gl l3,ep l4 cq,gm l5] 2 6) .ret)))⟩
def RW {Y:Ctx}(hm:(Y.at 2).bd)(x:Nd)(W:List au)(w:List au)(nd:List Nd)(b:Bool)  (hp0:nd.length<=2000):bH (Y.at 2) jO.body (lL jO (sY 4 (gH W) (fun o=>o=⟨(nd.length:Nat),w,nd++[x],b⟩) Va):Ex->List bI->St->Prop) (gG jO [.ptr 0 4 0 0,Nd.D x]) ⟨2,[(0,.buf 4 [gH W w (.own 1 5 0 nd.length) b]),(1,.buf 5 (nd.map Nd.D))]⟩:=by
 show bH _ _ _ [⟨true,.ptr 0 4 0 0⟩,⟨true,Nd.D x⟩,.un,.un] ⟨2,[(0,.buf 4 [gH W w (.own 1 5 0 nd.length) b]),(1,.buf 5 (nd.map Nd.D))]⟩;refine ak ?_;refine bP ?_;refine bR (v:=.own 1 5 0 nd.length) ?_;refine ee (d:=Nd.D x) ?_;refine dK [Nd.D x] ?_;refine yC (q:=Nd.D) (xs:=nd) (e:=x) ?_;refine aA ?_;refine bL (gH W w (.own 11 5 0 (nd++[x]).length) b) (he:=bN) ?_;refine aI ?_;refine bR (v:=.own 11 5 0 (nd++[x]).length) ?_;refine aS ?_;intro u0;refine aE ?_;refine cS trivial gR (dM ah (aj (D.int .i64) ?_)) ah ⟨⟨(nd.length:Nat),w,nd++[x],b⟩,11,aM,rfl,rfl,rfl,rfl⟩;simp
def wz (Y:Ctx):Prop:=∀(x:Nd)(W w:List au)(nd:List Nd)(b:Bool),nd.length<=2000->lZ Y 4 (gH W) 1034 [Nd.D x] w nd b (fun o=>o=⟨(nd.length:Nat),w,nd++[x],b⟩) Va
def jf:aC:=⟨1,12,fM,bM,(sq (r1 [gm bp] 1 0) (sq (rg [gm s0,gn (.callM 1141 [l0]),gm s0,gn (.callM 1141 [l2]),gm s0,gn (.callM 1141 [l4]),gm l1,gm l3,gm l5] [(5,6),(8,7),(2,8)]) (sq (r1 [gm s2,gn (.build [.int .i64 0,.int .i64 0,.int .i64 0,.int .i64 0,.str []] [(0,1,cq),(4,1,l0),(3,1,(.c (.int .i64 (-1))))]),gb 5 (.c (.agg [.int .i64 0,.int .i64 0,.int .i64 0,.int .i64 0,.str []])),gt 5 l2 l1] 7 2) (sq (sq (r1 [gm bp] 3 0) (.block 0 (.loop (sq (sq (r1 [gm s3,aP l0 ml] 4 1) (eN s4 0)) (sq (.block 1 (sq (r1 [gm s3,gx 1099 [l0] bM,gm s5,aL l1 l2] 6 3) (.cond s6 (rg [gm s3,gf 3 s7,gt 1 l1 l0] []) .skip))) (r1 [gm s3,ax l0 cq,gm l1] 3 2)))))) (sq (sq (r1 [gf 3 s7,gd l0,aP l1 bp,gm l2,eC 3 s2,cl 3 (.call 357 [l4] bM),cl 3 (.un .not l5),eK l3 l6,gm l7,eC 8 s8,cl 8 (eW l9 (cs [61])),eC 8 l10,gmt 11 s8,ca 11 (eW js (cs [33,61])),zC 8 im ki,eK l8 kW] 9 15) (.cond s9 (sq (rg [gm s0,gc l0,gf 3 l1,gt 1 l2 px] []) (te bp)) .skip)) (sq (r1 [gm s0,gk 5 true s7,gn (.callM 1034 [l0,l1]),gm l2] 11 3) (sq (sq (r1 [gm s8,aL l0 (cs [33,61])] 10 1) (.cond iP (r1 [gm s0,gm kp,gn (.build [.int .i64 0,.int .i64 0,.int .i64 0,.int .i64 0,.str []] [(0,1,nM),(1,1,l1)]),gn (.callM 1034 [l0,l2]),gm l3] 11 4) .skip)) (sq (r1 [gm kp,gm l0] 1 1) .ret))))))))⟩
def rB3 {w:List au}{a b c:au}{r:List au}(h:w=a::b::c::r):rB ((w.drop 1).drop 1) (rB (w.drop 1) (rB w false))=false/\((w.drop 1).drop 1).drop 1=r:=by subst h;exact⟨rfl,rfl⟩
def R4 {Y:Ctx}(hm:(Y.at 2).bd)(W:List au)(w:List au)(nd:List Nd)(h357:Bh (Y.at 2))(h1034:wz (Y.at 2))(h1099:F8 (Y.at 2))(h1141:Ga (Y.at 2))(hp0:w<:+W/\W.length<=1000)(hp1:nd.length+2*w.length<=1000):bH (Y.at 2) jf.body (lL jf (sY 4 (gH W) (dD (uf w nd) w nd) Va):Ex->List bI->St->Prop) (gG jf [.ptr 0 4 0 0]) ⟨2,[(0,.buf 4 [gH W w (.own 1 5 0 nd.length) false]),(1,.buf 5 (nd.map Nd.D))]⟩:=by
 show bH _ _ _ [⟨true,.ptr 0 4 0 0⟩,.un,.un,.un,.un,.un,.un,.un,.un,.un,.un,.un] ⟨2,[(0,.buf 4 [gH W w (.own 1 5 0 nd.length) false]),(1,.buf 5 (nd.map Nd.D))]⟩;have hs1:(w.drop 1)<:+W/\W.length<=1000:=⟨(List.drop_suffix 1 w).trans hp0.1,hp0.2⟩;have hs2:((w.drop 1).drop 1)<:+W/\W.length<=1000:=⟨(List.drop_suffix 1 _).trans hs1.1,hp0.2⟩;have hpb:PB w nd (((w.drop 1).drop 1).drop 1) nd:=((yb w nd).trans (yb _ nd)).trans (yb _ nd);refine ak ?_;refine aE ?_;refine cd (nx':=3) (v:=.str (aW w)) (m':=[(0,.buf 4 [gH W (w.drop 1) (.own 1 5 0 nd.length) (rB w false)]),(1,.buf 5 (nd.map Nd.D))]) (hc:=fun K' hK=>h1141 W w nd false hp0 _ 0 1 _ K' ah ah (by simp only[ay,az];omega) (by simp only[ay,az];omega) (fun o ho=>by subst ho;exact hK)) (hn:=aM) ?_;refine aS ?_;refine cd (nx':=3) (v:=.str (aW (w.drop 1))) (m':=[(0,.buf 4 [gH W ((w.drop 1).drop 1) (.own 1 5 0 nd.length) (rB (w.drop 1) (rB w false))]),(1,.buf 5 (nd.map Nd.D))]) (hc:=fun K' hK=>h1141 W (w.drop 1) nd (rB w false) hs1 _ 0 1 _ K' ah ah (by simp only[ay,az];omega) (by simp only[ay,az];omega) (fun o ho=>by subst ho;exact hK)) (hn:=aM) ?_;refine aS ?_;refine cd (nx':=3) (v:=.str (aW ((w.drop 1).drop 1))) (m':=[(0,.buf 4 [gH W (((w.drop 1).drop 1).drop 1) (.own 1 5 0 nd.length) (rB ((w.drop 1).drop 1) (rB (w.drop 1) (rB w false)))]),(1,.buf 5 (nd.map Nd.D))]) (hc:=fun K' hK=>h1141 W ((w.drop 1).drop 1) nd (rB (w.drop 1) (rB w false)) hs2 _ 0 1 _ K' ah ah (by simp only[ay,az];omega) (by simp only[ay,az];omega) (fun o ho=>by subst ho;exact hK)) (hn:=aM) ?_;refine aF ?_;refine cx (Nd.D ⟨1,0,0,-1,(aW ((w.drop 1).drop 1))⟩) ?_;refine aS ?_;refine bL (Nd.D ⟨1,0,0,-1,(aW ((w.drop 1).drop 1))⟩) (he:=bN) ?_;refine aI ?_;rw[show(⟨1,0,0,-1,(aW ((w.drop 1).drop 1))⟩:Nd)=⟨1,0,0,De (aW w) 0,(aW ((w.drop 1).drop 1))⟩by rw[Ri]];refine bh hm (ι:=Nat) (fun i=>[⟨true,.ptr 0 4 0 0⟩,.un,⟨true,.str (aW ((w.drop 1).drop 1))⟩,⟨true,.int .i64 (i:Nat)⟩,.un,⟨true,.str (aW w)⟩,.un,⟨true,.ptr 14 5 0 0⟩,⟨true,.str (aW (w.drop 1))⟩,.un,.un,.un]) (fun i=>[(0,.buf 4 [gH W (((w.drop 1).drop 1).drop 1) (.own 1 5 0 nd.length) (rB ((w.drop 1).drop 1) (rB (w.drop 1) (rB w false)))]),(1,.buf 5 (nd.map Nd.D)),(14,.buf 5 [Nd.D ⟨1,0,0,De (aW w) i,(aW ((w.drop 1).drop 1))⟩])]) 17 (fun i=>i<=3) (fun i=>3-i) 0 ae (bj.to [(14,14)] ah ah dZ (by(first|refine ba.gN ah ah dm ?_|refine ba.kU ah ah ah ?_|refine ba.lK ah ah ah ah ?_);(first|refine ba.gN ah ah dm ?_|refine ba.kU ah ah ah ?_|refine ba.lK ah ah ah ah ?_);refine ba.nl 14 ah ah ah dm ?_;exact ba.nil)) ?_;intro i hi;refine aI ?_;refine cw (fun hc0=>?_) fun hc0=>?_
 ·refine aE ?_;refine aq (hc:=h1099 (i:Int) ⟨ae,ae⟩) ?_;refine aB ?_;refine eP (fun hc1=>?_) fun hc1=>?_
  ·refine aB ?_;refine bL (Nd.D ⟨1,0,0,((i:Nat):Int),(aW ((w.drop 1).drop 1))⟩) (he:=bN) ?_;refine bP ?_;rw[show(⟨1,0,0,((i:Nat):Int),(aW ((w.drop 1).drop 1))⟩:Nd)=⟨1,0,0,De (aW w) (i+1),(aW ((w.drop 1).drop 1))⟩by rw[JS ae hc1]];exact⟨i+1,ae,ae,(bj.to [(14,14)] ah ah dZ (by(first|refine ba.gN ah ah dm ?_|refine ba.kU ah ah ah ?_|refine ba.lK ah ah ah ah ?_);(first|refine ba.gN ah ah dm ?_|refine ba.kU ah ah ah ?_|refine ba.lK ah ah ah ah ?_);refine ba.nl 14 ah ah ah dm ?_;exact ba.nil))⟩
  refine bP ?_;rw[show(⟨1,0,0,De (aW w) i,(aW ((w.drop 1).drop 1))⟩:Nd)=⟨1,0,0,De (aW w) (i+1),(aW ((w.drop 1).drop 1))⟩by rw[MK ae hc1]];exact⟨i+1,ae,ae,(bj.to [(14,14)] ah ah dZ (by(first|refine ba.gN ah ah dm ?_|refine ba.kU ah ah ah ?_|refine ba.lK ah ah ah ah ?_);(first|refine ba.gN ah ah dm ?_|refine ba.kU ah ah ah ?_|refine ba.lK ah ah ah ah ?_);refine ba.nl 14 ah ah ah dm ?_;exact ba.nil))⟩
 refine aE ?_;obtain rfl:i=3:=ae;rw[Rj];refine aI ?_;refine aq (hc:=h357 _) ?_;refine gy ?_;refine aw (fun hc2=>?_) (fun hc2=>?_)
 ·have hno:kg (aW w) (aW (w.drop 1)) (aW ((w.drop 1).drop 1))=false:=by rw[<-bB,<-wB];exact hc2
  have hn:=Gv (nd:=nd) hno;refine aS ?_;refine hX (bj.to (env':=[⟨true,.ptr 0 4 0 0⟩,.un,.un,.un,.un,.un,.un,.un,.un,.un,.un,.un]) (c:=90) (nx':=90) (m':=[(0,.buf 4 [gH W (((w.drop 1).drop 1).drop 1) (.own 2 5 0 nd.length) (rB ((w.drop 1).drop 1) (rB (w.drop 1) (rB w false)))]),(2,.buf 5 (nd.map Nd.D))]) [(1,2)] rfl ah dZ (by refine ba.kU ah ah ah ?_;refine ba.nl 1 ah ah rfl (by exact fQ (fun _=>rfl) _) ?_;exact ba.nil)) ?_;refine aE ?_;refine bL (gH W (((w.drop 1).drop 1).drop 1) (.own 2 5 0 nd.length) true) (he:=bN) ?_;refine aF ?_;refine cS trivial gR (dM ah (aj (D.int .i64) ?_)) ah ⟨⟨0,(((w.drop 1).drop 1).drop 1),nd,true⟩,2,aM,⟨.inr ⟨hn,rfl⟩,hpb⟩,rfl,rfl,rfl⟩;rfl
 have hyes:kg (aW w) (aW (w.drop 1)) (aW ((w.drop 1).drop 1))=true:=by rw[<-bY,<-wB];exact hc2
 obtain⟨r,hw,ha⟩:=Ed (nd:=nd) hyes;obtain⟨NI,hr3⟩:=rB3 hw;rw[<-hr3]at ha;refine aB ?_;refine ee (d:=Nd.D (⟨1,0,0,fP (aW w),(aW ((w.drop 1).drop 1))⟩:Nd)) ?_;refine cd (nx':=36) (v:=.int .i64 (nd.length:Nat)) (m':=[(37,.buf 5 ((nd++[(⟨1,0,0,fP (aW w),(aW ((w.drop 1).drop 1))⟩:Nd)]).map Nd.D)),(0,.buf 4 [gH W (((w.drop 1).drop 1).drop 1) (.own 37 5 0 (nd++[(⟨1,0,0,fP (aW w),(aW ((w.drop 1).drop 1))⟩:Nd)]).length) (rB ((w.drop 1).drop 1) (rB (w.drop 1) (rB w false)))]),(14,.buf 5 [Nd.D (⟨1,0,0,fP (aW w),(aW ((w.drop 1).drop 1))⟩:Nd)])]) (hc:=fun K' hK=>h1034 (⟨1,0,0,fP (aW w),(aW ((w.drop 1).drop 1))⟩:Nd) W (((w.drop 1).drop 1).drop 1) nd (rB ((w.drop 1).drop 1) (rB (w.drop 1) (rB w false))) ae _ 0 1 _ K' ah ah (by simp only[ay,az];omega) (by simp only[ay,az];omega) (fun o ho=>by subst ho;exact hK)) (hn:=aM) ?_;refine aU ?_;refine aw (fun hc3=>?_) (fun hc3=>?_)
 ·simp only[aR]at hc3;have hat:uf w nd=some ((((nd++[(⟨1,0,0,fP (aW w),(aW ((w.drop 1).drop 1))⟩:Nd)]).length:Nat):Int),(((w.drop 1).drop 1).drop 1),((nd++[(⟨1,0,0,fP (aW w),(aW ((w.drop 1).drop 1))⟩:Nd)])++[(⟨2,(nd.length:Nat),0,0,[]⟩:Nd)])):=by rw[ha];simp only[sE,av hc3]
  refine aB ?_;refine cx (Nd.D (⟨2,(nd.length:Nat),0,0,[]⟩:Nd)) ?_;refine cd (nx':=43) (v:=.int .i64 ((nd++[(⟨1,0,0,fP (aW w),(aW ((w.drop 1).drop 1))⟩:Nd)]).length:Nat)) (m':=[(45,.buf 5 (((nd++[(⟨1,0,0,fP (aW w),(aW ((w.drop 1).drop 1))⟩:Nd)])++[(⟨2,(nd.length:Nat),0,0,[]⟩:Nd)]).map Nd.D)),(0,.buf 4 [gH W (((w.drop 1).drop 1).drop 1) (.own 45 5 0 ((nd++[(⟨1,0,0,fP (aW w),(aW ((w.drop 1).drop 1))⟩:Nd)])++[(⟨2,(nd.length:Nat),0,0,[]⟩:Nd)]).length) (rB ((w.drop 1).drop 1) (rB (w.drop 1) (rB w false)))]),(14,.buf 5 [Nd.D (⟨1,0,0,fP (aW w),(aW ((w.drop 1).drop 1))⟩:Nd)])]) (hc:=fun K' hK=>h1034 (⟨2,(nd.length:Nat),0,0,[]⟩:Nd) W (((w.drop 1).drop 1).drop 1) (nd++[(⟨1,0,0,fP (aW w),(aW ((w.drop 1).drop 1))⟩:Nd)]) (rB ((w.drop 1).drop 1) (rB (w.drop 1) (rB w false))) cz _ 0 37 _ K' ah ah (by simp only[ay,az];omega) (by simp only[ay,az];omega) (fun o ho=>by subst ho;exact hK)) (hn:=aM) ?_;refine aU ?_;refine cS trivial gR (dM ah (aj (D.int .i64) ?_)) ah ⟨⟨((nd++[(⟨1,0,0,fP (aW w),(aW ((w.drop 1).drop 1))⟩:Nd)]).length:Nat),(((w.drop 1).drop 1).drop 1),((nd++[(⟨1,0,0,fP (aW w),(aW ((w.drop 1).drop 1))⟩:Nd)])++[(⟨2,(nd.length:Nat),0,0,[]⟩:Nd)]),(rB ((w.drop 1).drop 1) (rB (w.drop 1) (rB w false)))⟩,45,aM,⟨.inl ⟨hat,NI⟩,wL hat⟩,rfl,rfl,rfl⟩;rfl
 simp only[bx]at hc3;have hat:uf w nd=some (((nd.length:Nat):Int),(((w.drop 1).drop 1).drop 1),(nd++[(⟨1,0,0,fP (aW w),(aW ((w.drop 1).drop 1))⟩:Nd)])):=by rw[ha];simp only[sE,ai hc3]
 refine aF ?_;refine cS trivial gR (dM ah (aj (D.int .i64) ?_)) ah ⟨⟨(nd.length:Nat),(((w.drop 1).drop 1).drop 1),(nd++[(⟨1,0,0,fP (aW w),(aW ((w.drop 1).drop 1))⟩:Nd)]),(rB ((w.drop 1).drop 1) (rB (w.drop 1) (rB w false)))⟩,37,aM,⟨.inl ⟨hat,NI⟩,wL hat⟩,rfl,rfl,rfl⟩;rfl
def F9 (Y:Ctx):Prop:=∀(W w:List au)(nd:List Nd),w<:+W/\W.length<=1000->nd.length+2*w.length<=1000->lZ Y 4 (gH W) 1126 [] w nd false (dD (uf w nd) w nd) Va
def N6 (Y:Ctx):Prop:=∀(W w:List au)(nd:List Nd),w<:+W/\W.length<=1000->nd.length+2*w.length<=1000->lZ Y 4 (gH W) 1097 [] w nd false (dD (iC w nd) w nd) Va
def Bf (Y:Ctx)(u:Nat):Prop:=∀(W w:List au)(nd:List Nd),w<:+W/\W.length<=1000->nd.length+2*w.length<=1000->6*w.length+0<u->lZ Y 4 (gH W) 1097 [] w nd false (dD (iC w nd) w nd) Va
def N5 (Y:Ctx):Prop:=∀(W w:List au)(nd:List Nd),w<:+W/\W.length<=1000->nd.length+2*w.length<=1000->lZ Y 4 (gH W) 1032 [] w nd false (dD (iY w nd) w nd) Va
def F6 (Y:Ctx)(u:Nat):Prop:=∀(W w:List au)(nd:List Nd),w<:+W/\W.length<=1000->nd.length+2*w.length<=1000->6*w.length+1<u->lZ Y 4 (gH W) 1032 [] w nd false (dD (iY w nd) w nd) Va
def LY (Y:Ctx):Prop:=∀(W w:List au)(nd:List Nd),w<:+W/\W.length<=1000->nd.length+2*w.length<=1000->lZ Y 4 (gH W) 952 [] w nd false (dD (gE w nd) w nd) Va
def KN (Y:Ctx)(u:Nat):Prop:=∀(W w:List au)(nd:List Nd),w<:+W/\W.length<=1000->nd.length+2*w.length<=1000->6*w.length+2<u->lZ Y 4 (gH W) 952 [] w nd false (dD (gE w nd) w nd) Va
def jN:aC:=⟨1,8,fM,bM,(sq (r1 [gm bp] 1 0) (sq (sq (r1 [gm s0,gc l0,gf 3 l1,gd l2] 2 3) (jG s2 bp)) (sq (sq (r1 [gm s0,gn (.callM 1033 [l0,(cs [110,111,116])])] 3 1) (.cond s3 (sq (r1 [gm s0,gn (.callM 1097 [l0]),gm l1] 4 2) (sq (r1 [gm s0,gm s4,gn (.build [.int .i64 0,.int .i64 0,.int .i64 0,.int .i64 0,.str []] [(0,1,nM),(1,1,l1)]),gn (.callM 1034 [l0,l2]),gm l3] 1 4) .ret)) .skip)) (sq (sq (r1 [gm s0,gn (.callM 1033 [l0,(cs [40])])] 5 1) (.cond s5 (sq (r1 [gm s0,gn (.callM 952 [l0]),gm l1] 7 2) (sq (sq (r1 [gm s0,gn (.callM 1033 [l0,(cs [41])]),jx l1] 6 2) (.cond s6 (rg [gm s0,gc l0,gf 3 l1,gt 1 l2 px] []) .skip)) (sq (r1 [gm s7,gm l0] 1 1) .ret))) .skip)) (sq (r1 [gm s0,gn (.callM 1126 [l0]),gm l1] 1 2) .ret)))))⟩
def R0 {Y:Ctx}(hm:(Y.at 2).bd)(W:List au)(w:List au)(nd:List Nd)(h952:KN (Y.at 2) (6*w.length))(h1033:y8 (Y.at 2))(h1034:wz (Y.at 2))(h1097:Bf (Y.at 2) (6*w.length))(h1126:F9 (Y.at 2))(hp0:w<:+W/\W.length<=1000)(hp1:nd.length+2*w.length<=1000):bH (Y.at 2) jN.body (lL jN (sY 4 (gH W) (dD (iC w nd) w nd) Va):Ex->List bI->St->Prop) (gG jN [.ptr 0 4 0 0]) ⟨2,[(0,.buf 4 [gH W w (.own 1 5 0 nd.length) false]),(1,.buf 5 (nd.map Nd.D))]⟩:=by
 show bH _ _ _ [⟨true,.ptr 0 4 0 0⟩,.un,.un,.un,.un,.un,.un,.un] ⟨2,[(0,.buf 4 [gH W w (.own 1 5 0 nd.length) false]),(1,.buf 5 (nd.map Nd.D))]⟩;refine ak ?_;refine cU ?_;refine aw (fun hc0=>?_) (fun hc0=>?_)
 ·skip
  exact absurd hc0 aM
 skip
 refine aE ?_;refine cd (nx':=7) (v:=.bool (fo w nI)) (m':=[(0,.buf 4 [gH W (lS w nI) (.own 1 5 0 nd.length) false]),(1,.buf 5 (nd.map Nd.D))]) (hc:=fun K' hK=>h1033 nI W w nd false hp0 _ 0 1 _ K' ah ah (by simp only[ay,az];omega) (by simp only[ay,az];omega) (fun o ho=>by subst ho;exact hK)) (hn:=aM) ?_;refine aS ?_;refine aw (fun hc1=>?_) (fun hc1=>?_)
 ·obtain⟨r,rfl⟩:=kY hc1;rw[jM];have hsr:r<:+W/\W.length<=1000:=⟨(List.suffix_cons _ r).trans hp0.1,hp0.2⟩;simp only[ay]at hp1;refine aB ?_;refine e7 (dD (iC r nd) r nd) Va 10 (fun o=>[(10,.buf 5 (o.nd.map Nd.D)),(0,.buf 4 [gH W o.w (.own 10 5 0 o.nd.length) o.bad])]) (fun o1 ho1=>?_) (hc:=fun K' hK=>h1097 W r nd hsr ae (by simp only[ay];omega) _ 0 1 _ K' ah ah (by simp only[ay,az];omega) (by simp only[ay,az];omega) (fun o ho=>hK o ho)) (hn:=aM);have hl3:=ho1.2.2.1;have hl4:=ho1.2.1;refine aF ?_;refine cx (Nd.D (⟨2,o1.a,0,0,[]⟩:Nd)) ?_;refine cd (nx':=14) (v:=.int .i64 (o1.nd.length:Nat)) (m':=[(16,.buf 5 ((o1.nd++[(⟨2,o1.a,0,0,[]⟩:Nd)]).map Nd.D)),(0,.buf 4 [gH W o1.w (.own 16 5 0 (o1.nd++[(⟨2,o1.a,0,0,[]⟩:Nd)]).length) o1.bad])]) (hc:=fun K' hK=>h1034 (⟨2,o1.a,0,0,[]⟩:Nd) W o1.w o1.nd o1.bad ae _ 0 10 _ K' ah ah (by simp only[ay,az];omega) (by simp only[ay,az];omega) (fun o ho=>by subst ho;exact hK)) (hn:=aM) ?_;refine aB ?_;refine cS trivial gR (dM ah (aj (D.int .i64) ?_)) ah ⟨⟨(o1.nd.length:Nat),o1.w,o1.nd++[(⟨2,o1.a,0,0,[]⟩:Nd)],o1.bad⟩,16,aM,Dx ho1,rfl,rfl,rfl⟩;rfl
 have hn1:fo w nI=false:=hc1;rw[mH hn1];refine aE ?_;refine cd (nx':=9) (v:=.bool (fo w fI)) (m':=[(0,.buf 4 [gH W (lS w fI) (.own 1 5 0 nd.length) false]),(1,.buf 5 (nd.map Nd.D))]) (hc:=fun K' hK=>h1033 fI W w nd false hp0 _ 0 1 _ K' ah ah (by simp only[ay,az];omega) (by simp only[ay,az];omega) (fun o ho=>by subst ho;exact hK)) (hn:=aM) ?_;refine aS ?_;refine aw (fun hc2=>?_) (fun hc2=>?_)
 ·obtain⟨r,rfl⟩:=kY hc2;rw[jM];have hsr:r<:+W/\W.length<=1000:=⟨(List.suffix_cons _ r).trans hp0.1,hp0.2⟩;simp only[ay]at hp1;refine aB ?_;refine e7 (dD (gE r nd) r nd) Va 12 (fun o=>[(12,.buf 5 (o.nd.map Nd.D)),(0,.buf 4 [gH W o.w (.own 12 5 0 o.nd.length) o.bad])]) (fun o1 ho1=>?_) (hc:=fun K' hK=>h952 W r nd hsr ae (by simp only[ay];omega) _ 0 1 _ K' ah ah (by simp only[ay,az];omega) (by simp only[ay,az];omega) (fun o ho=>hK o ho)) (hn:=aM);refine aF ?_;refine cd (nx':=15) (v:=.bool (fo o1.w jn)) (m':=[(12,.buf 5 (o1.nd.map Nd.D)),(0,.buf 4 [gH W (lS o1.w jn) (.own 12 5 0 o1.nd.length) o1.bad])]) (hc:=fun K' hK=>h1033 jn W o1.w o1.nd o1.bad ⟨ho1.2.suf hsr.1,hp0.2⟩ _ 0 12 _ K' ah ah (by simp only[ay,az];omega) (by simp only[ay,az];omega) (fun o ho=>by subst ho;exact hK)) (hn:=aM) ?_;refine aA ?_;refine aw (fun hc3=>?_) (fun hc3=>?_)
  ·simp only[bB]at hc3;rw[mH hc3];refine aE ?_;refine bL (gH W o1.w (.own 12 5 0 o1.nd.length) true) (he:=bN) ?_;refine aU ?_;refine cS trivial gR (dM ah (aj (D.int .i64) ?_)) ah ⟨⟨o1.a,o1.w,o1.nd,true⟩,12,aM,yB ho1 hc3,rfl,rfl,rfl⟩;rfl
  simp only[bY]at hc3;obtain⟨q,hq⟩:=kY hc3;rw[show lS o1.w jn=q by rw[hq,jM]];refine aU ?_;refine cS trivial gR (dM ah (aj (D.int .i64) ?_)) ah ⟨⟨o1.a,q,o1.nd,o1.bad⟩,12,aM,E5 ho1 hq,rfl,rfl,rfl⟩;rfl
 have hn2:fo w fI=false:=hc2;rw[mH hn2];refine aB ?_;refine e7 (dD (uf w nd) w nd) Va 12 (fun o=>[(12,.buf 5 (o.nd.map Nd.D)),(0,.buf 4 [gH W o.w (.own 12 5 0 o.nd.length) o.bad])]) (fun o1 ho1=>?_) (hc:=fun K' hK=>h1126 W w nd hp0 hp1 _ 0 1 _ K' ah ah (by simp only[ay,az];omega) (by simp only[ay,az];omega) (fun o ho=>hK o ho)) (hn:=aM);rw[<-My hn1 hn2]at ho1;refine aB ?_;refine cS trivial gR (dM ah (aj (D.int .i64) ?_)) ah ⟨o1,12,aM,ho1,rfl,rfl,rfl⟩;rfl
def jg:aC:=⟨1,5,fM,bM,(sq (r1 [gm bp] 1 0) (sq (r1 [gm s0,gn (.callM 1097 [l0]),gm l1] 3 2) (sq (.block 0 (.loop (sq (sq (r1 [gm s0,gc l0,gf 3 l1,gd l2,jx l3,gm l4,gmt 5 s0,ca 5 (.callM 1033 [l6,(cs [97,110,100])]),ew l5 l7] 2 8) (eN s2 0)) (.block 1 (sq (r1 [gm s0,gn (.callM 1097 [l0]),gm l1] 4 2) (r1 [gm s0,gm s3,gm s4,gn (.build [.int .i64 0,.int .i64 0,.int .i64 0,.int .i64 0,.str []] [(0,1,ml),(1,1,l1),(2,1,l2)]),gn (.callM 1034 [l0,l3]),gm l4] 3 5)))))) (sq (r1 [gm s3,gm l0] 1 1) .ret))))⟩
def RU {Y:Ctx}(hm:(Y.at 2).bd)(W:List au)(w:List au)(nd:List Nd)(h1033:y8 (Y.at 2))(h1034:wz (Y.at 2))(h1097:Bf (Y.at 2) (6*w.length+1))(hp0:w<:+W/\W.length<=1000)(hp1:nd.length+2*w.length<=1000):bH (Y.at 2) jg.body (lL jg (sY 4 (gH W) (dD (iY w nd) w nd) Va):Ex->List bI->St->Prop) (gG jg [.ptr 0 4 0 0]) ⟨2,[(0,.buf 4 [gH W w (.own 1 5 0 nd.length) false]),(1,.buf 5 (nd.map Nd.D))]⟩:=by
 show bH _ _ _ [⟨true,.ptr 0 4 0 0⟩,.un,.un,.un,.un] ⟨2,[(0,.buf 4 [gH W w (.own 1 5 0 nd.length) false]),(1,.buf 5 (nd.map Nd.D))]⟩;have hgo:qD iC:=rR;have hun:iY w nd=gA iC jB 3 w nd:=rfl;refine ak ?_;refine aE ?_;refine e7 (dD (iC w nd) w nd) Va 4 (fun o=>[(4,.buf 5 (o.nd.map Nd.D)),(0,.buf 4 [gH W o.w (.own 4 5 0 o.nd.length) o.bad])]) (fun o0 ho0=>?_) (hc:=fun K' hK=>h1097 W w nd hp0 hp1 ae _ 0 1 _ K' ah ah (by simp only[ay,az];omega) (by simp only[ay,az];omega) (fun o ho=>hK o ho)) (hn:=aM);refine aA ?_;refine bh hm (ι:=PO) (fun o=>[⟨true,.ptr 0 4 0 0⟩,.un,.un,⟨true,.int .i64 o.a⟩,.un]) (fun o=>[(0,.buf 4 [gH W o.w (.own 2 5 0 o.nd.length) o.bad]),(2,.buf 5 (o.nd.map Nd.D))]) 7 (fun o=>Ba iC jB 3 (iY w nd) w nd o) (fun o=>o.w.length) o0 (Ba.first ho0) (bj.to [(4,2)] ah ah dZ (by(first|refine ba.gN ah ah dm ?_|refine ba.kU ah ah ah ?_|refine ba.lK ah ah ah ah ?_);refine ba.nl 4 ah ah ah dm ?_;exact ba.nil)) ?_;rintro⟨a,w1,nd1,bad⟩ hI;dsimp only;have hpb:=hI.2;have hl1:=hpb.1;have hl2:=hpb.2.1;dsimp only at hl1 hl2;have hsw:w1<:+W/\W.length<=1000:=⟨hpb.suf hp0.1,hp0.2⟩;refine aA ?_;cases bad
 ·refine aU ?_;refine xf (ι:=PO) (acV:=[.ptr 0 4 0 0,.str jB]) (fun o=>o=⟨0,lS w1 jB,nd1,false⟩) (fun _=>.bool (fo w1 jB)) 7 (fun o=>[(0,.buf 4 [gH W o.w (.own 2 5 0 nd1.length) o.bad]),(2,.buf 5 (nd1.map Nd.D))]) (fun o2 ho2=>?_) (hc:=fun K' hK=>h1033 jB W w1 nd1 false hsw _ 0 2 _ K' ah ah (by simp only[ay,az];omega) (by simp only[ay,az];omega) (fun o ho=>hK o ho)) (hn:=aM);subst ho2;dsimp only;refine aA ?_;refine aw (fun hc0=>?_) (fun hc0=>?_)
  ·obtain⟨r,rfl⟩:=kY (s:=jB) hc0;rw[jM];have hsr:r<:+W/\W.length<=1000:=⟨(List.suffix_cons _ r).trans hsw.1,hp0.2⟩;simp only[ay]at hl1 hl2;refine aE ?_;refine e7 (dD (iC r nd1) r nd1) Va 17 (fun o=>[(17,.buf 5 (o.nd.map Nd.D)),(0,.buf 4 [gH W o.w (.own 17 5 0 o.nd.length) o.bad])]) (fun o2 ho2=>?_) (hc:=fun K' hK=>h1097 W r nd1 hsr ae ae _ 0 2 _ K' ah ah (by simp only[ay,az];omega) (by simp only[ay,az];omega) (fun o ho=>hK o ho)) (hn:=aM);have hl3:=ho2.2.2.1;have hl4:=ho2.2.1;refine aF ?_;refine cx (Nd.D (⟨3,a,o2.a,0,[]⟩:Nd)) ?_;refine cd (nx':=21) (v:=.int .i64 (o2.nd.length:Nat)) (m':=[(24,.buf 5 ((o2.nd++[(⟨3,a,o2.a,0,[]⟩:Nd)]).map Nd.D)),(0,.buf 4 [gH W o2.w (.own 24 5 0 (o2.nd++[(⟨3,a,o2.a,0,[]⟩:Nd)]).length) o2.bad])]) (hc:=fun K' hK=>h1034 (⟨3,a,o2.a,0,[]⟩:Nd) W o2.w o2.nd o2.bad ae _ 0 17 _ K' ah ah (by simp only[ay,az];omega) (by simp only[ay,az];omega) (fun o ho=>by subst ho;exact hK)) (hn:=aM) ?_;refine aE ?_;exact⟨⟨(o2.nd.length:Nat),o2.w,o2.nd++[(⟨3,a,o2.a,0,[]⟩:Nd)],o2.bad⟩,Ba.next hgo hI ho2,by dsimp only;simp only[ay];omega,(bj.to [(24,2)] ah ah dZ (by(first|refine ba.gN ah ah dm ?_|refine ba.kU ah ah ah ?_|refine ba.lK ah ah ah ah ?_);refine ba.nl 24 ah ah ah dm ?_;exact ba.nil))⟩
  have hnb:fo w1 jB=false:=hc0;rw[mH hnb];have hx:false=true\/w1.head? ≠some jB:=.inr (uI hnb);refine aU ?_;refine cS trivial gR (dM ah (aj (D.int .i64) ?_)) ah ⟨⟨a,w1,nd1,false⟩,2,aM,hI.last hx,rfl,rfl,rfl⟩;rfl
 ·refine aU ?_;refine DE ?_;refine H0 (t:=false) ?_;refine aS ?_;refine aw (fun hc0=>?_) (fun hc0=>?_)
  ·skip
   exact absurd hc0 aM
  have hx:true=true\/w1.head? ≠some jB:=.inl rfl;refine aU ?_;refine cS trivial gR (dM ah (aj (D.int .i64) ?_)) ah ⟨⟨a,w1,nd1,true⟩,2,aM,hI.last hx,rfl,rfl,rfl⟩;rfl
def il:aC:=⟨1,5,fM,bM,(sq (r1 [gm bp] 1 0) (sq (r1 [gm s0,gn (.callM 1032 [l0]),gm l1] 3 2) (sq (.block 0 (.loop (sq (sq (r1 [gm s0,gc l0,gf 3 l1,gd l2,jx l3,gm l4,gmt 5 s0,ca 5 (.callM 1033 [l6,(cs [111,114])]),ew l5 l7] 2 8) (eN s2 0)) (.block 1 (sq (r1 [gm s0,gn (.callM 1032 [l0]),gm l1] 4 2) (r1 [gm s0,gm s3,gm s4,gn (.build [.int .i64 0,.int .i64 0,.int .i64 0,.int .i64 0,.str []] [(0,1,tg),(1,1,l1),(2,1,l2)]),gn (.callM 1034 [l0,l3]),gm l4] 3 5)))))) (sq (r1 [gm s3,gm l0] 1 1) .ret))))⟩
def w952 {Y:Ctx}(hm:(Y.at 2).bd)(W:List au)(w:List au)(nd:List Nd)(h1032:F6 (Y.at 2) (6*w.length+2))(h1033:y8 (Y.at 2))(h1034:wz (Y.at 2))(hp0:w<:+W/\W.length<=1000)(hp1:nd.length+2*w.length<=1000):bH (Y.at 2) il.body (lL il (sY 4 (gH W) (dD (gE w nd) w nd) Va):Ex->List bI->St->Prop) (gG il [.ptr 0 4 0 0]) ⟨2,[(0,.buf 4 [gH W w (.own 1 5 0 nd.length) false]),(1,.buf 5 (nd.map Nd.D))]⟩:=by
 show bH _ _ _ [⟨true,.ptr 0 4 0 0⟩,.un,.un,.un,.un] ⟨2,[(0,.buf 4 [gH W w (.own 1 5 0 nd.length) false]),(1,.buf 5 (nd.map Nd.D))]⟩;have hgo:qD iY:=tX;have hun:gE w nd=gA iY nS 4 w nd:=rfl;refine ak ?_;refine aE ?_;refine e7 (dD (iY w nd) w nd) Va 4 (fun o=>[(4,.buf 5 (o.nd.map Nd.D)),(0,.buf 4 [gH W o.w (.own 4 5 0 o.nd.length) o.bad])]) (fun o0 ho0=>?_) (hc:=fun K' hK=>h1032 W w nd hp0 hp1 ae _ 0 1 _ K' ah ah (by simp only[ay,az];omega) (by simp only[ay,az];omega) (fun o ho=>hK o ho)) (hn:=aM);refine aA ?_;refine bh hm (ι:=PO) (fun o=>[⟨true,.ptr 0 4 0 0⟩,.un,.un,⟨true,.int .i64 o.a⟩,.un]) (fun o=>[(0,.buf 4 [gH W o.w (.own 2 5 0 o.nd.length) o.bad]),(2,.buf 5 (o.nd.map Nd.D))]) 7 (fun o=>Ba iY nS 4 (gE w nd) w nd o) (fun o=>o.w.length) o0 (Ba.first ho0) (bj.to [(4,2)] ah ah dZ (by(first|refine ba.gN ah ah dm ?_|refine ba.kU ah ah ah ?_|refine ba.lK ah ah ah ah ?_);refine ba.nl 4 ah ah ah dm ?_;exact ba.nil)) ?_;rintro⟨a,w1,nd1,bad⟩ hI;dsimp only;have hpb:=hI.2;have hl1:=hpb.1;have hl2:=hpb.2.1;dsimp only at hl1 hl2;have hsw:w1<:+W/\W.length<=1000:=⟨hpb.suf hp0.1,hp0.2⟩;refine aA ?_;cases bad
 ·refine aU ?_;refine xf (ι:=PO) (acV:=[.ptr 0 4 0 0,.str nS]) (fun o=>o=⟨0,lS w1 nS,nd1,false⟩) (fun _=>.bool (fo w1 nS)) 7 (fun o=>[(0,.buf 4 [gH W o.w (.own 2 5 0 nd1.length) o.bad]),(2,.buf 5 (nd1.map Nd.D))]) (fun o2 ho2=>?_) (hc:=fun K' hK=>h1033 nS W w1 nd1 false hsw _ 0 2 _ K' ah ah (by simp only[ay,az];omega) (by simp only[ay,az];omega) (fun o ho=>hK o ho)) (hn:=aM);subst ho2;dsimp only;refine aA ?_;refine aw (fun hc0=>?_) (fun hc0=>?_)
  ·obtain⟨r,rfl⟩:=kY (s:=nS) hc0;rw[jM];have hsr:r<:+W/\W.length<=1000:=⟨(List.suffix_cons _ r).trans hsw.1,hp0.2⟩;simp only[ay]at hl1 hl2;refine aE ?_;refine e7 (dD (iY r nd1) r nd1) Va 17 (fun o=>[(17,.buf 5 (o.nd.map Nd.D)),(0,.buf 4 [gH W o.w (.own 17 5 0 o.nd.length) o.bad])]) (fun o2 ho2=>?_) (hc:=fun K' hK=>h1032 W r nd1 hsr ae ae _ 0 2 _ K' ah ah (by simp only[ay,az];omega) (by simp only[ay,az];omega) (fun o ho=>hK o ho)) (hn:=aM);have hl3:=ho2.2.2.1;have hl4:=ho2.2.1;refine aF ?_;refine cx (Nd.D (⟨4,a,o2.a,0,[]⟩:Nd)) ?_;refine cd (nx':=21) (v:=.int .i64 (o2.nd.length:Nat)) (m':=[(24,.buf 5 ((o2.nd++[(⟨4,a,o2.a,0,[]⟩:Nd)]).map Nd.D)),(0,.buf 4 [gH W o2.w (.own 24 5 0 (o2.nd++[(⟨4,a,o2.a,0,[]⟩:Nd)]).length) o2.bad])]) (hc:=fun K' hK=>h1034 (⟨4,a,o2.a,0,[]⟩:Nd) W o2.w o2.nd o2.bad ae _ 0 17 _ K' ah ah (by simp only[ay,az];omega) (by simp only[ay,az];omega) (fun o ho=>by subst ho;exact hK)) (hn:=aM) ?_;refine aE ?_;exact⟨⟨(o2.nd.length:Nat),o2.w,o2.nd++[(⟨4,a,o2.a,0,[]⟩:Nd)],o2.bad⟩,Ba.next hgo hI ho2,by dsimp only;simp only[ay];omega,(bj.to [(24,2)] ah ah dZ (by(first|refine ba.gN ah ah dm ?_|refine ba.kU ah ah ah ?_|refine ba.lK ah ah ah ah ?_);refine ba.nl 24 ah ah ah dm ?_;exact ba.nil))⟩
  have hnb:fo w1 nS=false:=hc0;rw[mH hnb];have hx:false=true\/w1.head? ≠some nS:=.inr (uI hnb);refine aU ?_;refine cS trivial gR (dM ah (aj (D.int .i64) ?_)) ah ⟨⟨a,w1,nd1,false⟩,2,aM,hI.last hx,rfl,rfl,rfl⟩;rfl
 ·refine aU ?_;refine DE ?_;refine H0 (t:=false) ?_;refine aS ?_;refine aw (fun hc0=>?_) (fun hc0=>?_)
  ·skip
   exact absurd hc0 aM
  have hx:true=true\/w1.head? ≠some nS:=.inl rfl;refine aU ?_;refine cS trivial gR (dM ah (aj (D.int .i64) ?_)) ah ⟨⟨a,w1,nd1,true⟩,2,aM,hI.last hx,rfl,rfl,rfl⟩;rfl
def Al:aC:=⟨1,8,[⟨1,some (1,true)⟩,⟨2,none⟩],[[.sl 5 [.a,.a,.a,.a,.a]],[.a]],(sq (rg [gb 1 (.c (.agg [.aV])),gm bp] [(1,0),(2,1)]) (sq (sq (r1 [gm s0,mE l0,cH l1 (i6 96)] 3 2) (.cond s3 (sq (r1 [gn (.build [.aV] []),gt 1 s1 l0,gm ml] 2 2) .ret) .skip)) (sq (sq (r1 [gm s0,aL l0 cse] 4 1) (.cond s4 (sq (r1 [gn (.build [.aV] []),gt 1 s1 l0,gm bp] 2 2) .ret) .skip)) (sq (r1 [gm s0,gx 470 [l0,(i8 32)] fV,gn (.build [.aV,.int .i64 0,.aV,.bool false] [(0,1,l1)]),gb 4 l2,gm l3] 5 4) (sq (rg [gm s5,gn (.callM 952 [l0])] []) (sq (r1 [gm s5,gc l0,gf 2 l1,gd l2,gn (.build [.aV] [(0,1,l3)]),gb 1 (.c (.agg [.aV])),gt 1 l5 l4] 6 5) (sq (sq (r2 [gm s5,gc l0,gf 3 l1,gd l2,gm l3,eC 4 s5,cl 4 (.nilck l5),hZ 4 1 l6,iT 4 l7,eC 4 s5,cl 4 (.nilck l9),hZ 4 0 l10,iT 4 im,cl 4 (.len js),cl 4 (qH l8 ki),eK l4 kW,gm me,cl 16 (.ld 1 true s6),cl 16 (.call 953 [pJ] [[.sl 5 [.a,.a,.a,.a,.a]]]),cl 16 (.un .not qB),eK ng rA] 7 20) (.cond s7 (sq (r1 [gn (.build [.aV] []),gt 1 s1 l0,gm Hg] 2 2) .ret) .skip)) (sq (r1 [gk 1 true s6,gt 1 s1 l0,gm bp] 2 2) .ret))))))))⟩
def w813 {Y:Ctx}(hm:(Y.at 0).bd)(h470:Bi Y)(h952:LY Y)(h953:LZ Y)(s:au)   :dd Y Al (.tup [fH (iw s).1,.int .i64 (iw s).2]) [.str s]:=by
 show bH _ _ _ [⟨_,_⟩,_,_,_,_,_,_,_] _;refine ak ?_;refine aF ?_;refine kd ?_;refine aA ?_;refine cw (fun hc0=>?_) fun hc0=>?_
 ·refine aA ?_;refine eM [.aV] ?_;refine bL (.agg [.aV]) (he:=bN) ?_;refine aB ?_;refine bO (aN ?_ (aj (D.int .i64) ?_));all_goals (have hq:iw s=([],3):=(by simp only[iw];rw[av ae]);rw[hq];first|done|rfl)
 refine aF ?_;refine aw (fun hc1=>?_) (fun hc1=>?_)
 ·try simp only[fu]at hc1
  refine aA ?_;refine eM [.aV] ?_;refine bL (.agg [.aV]) (he:=bN) ?_;refine aB ?_;refine bO (aN ?_ (aj (D.int .i64) ?_));all_goals (have hq:iw s=([],0):=(by simp only[iw];rw[ai ae,av hc1]);rw[hq];first|done|rfl)
 simp only[bx]at hc1;have hnl:¬96<s.length:=ae;have hsl:=er s 32;refine aB ?_;refine aq (hc:=h470 s 32 ae) ?_;refine cx (gH (ar s 32) (ar s 32) .aV false) (hv:=fun _=>by show D.agg _=D.agg _;rw[Nat.sub_self];rfl) ?_;refine aB ?_;refine hX (bj.to (env':=[⟨true,.str s⟩,⟨true,.ptr 0 1 0 0⟩,.un,.un,.un,⟨true,.ptr 1 4 0 0⟩,.un,.un]) (c:=20) (nx':=20) (m':=[(0,.buf 1 [.agg [.aV]]),(1,.buf 4 [gH (ar s 32)  (ar s 32) (.own 2 5 0 ([]:List Nd).length) false]),(2,.buf 5 (([]:List Nd).map Nd.D))]) [(0,0),(10,1)] rfl ah dZ (by refine ba.gN ah ah ah ?_;refine ba.ni 10 ah ah (by exact⟨_,_,rfl,⟨_,rfl,⟨_,_,rfl,⟨rfl,rfl⟩,⟨_,_,rfl,⟨rfl,rfl⟩,⟨_,_,rfl,Or.inr ⟨_,_,_,rfl⟩,⟨_,_,rfl,⟨rfl,rfl⟩,rfl⟩⟩⟩⟩⟩,rfl⟩) ?_;refine ba.mt ah ah ah ah ?_;exact ba.nil)) ?_;refine aA ?_;refine e7 (dD (gE (ar s 32) []) (ar s 32) []) Va 21 (fun o=>[(21,.buf 5 (o.nd.map Nd.D)),(0,.buf 1 [.agg [.aV]]),(1,.buf 4 [gH (ar s 32) o.w (.own 21 5 0 o.nd.length) o.bad])]) (fun o1 ho1=>?_) (hc:=fun K' hK=>h952 (ar s 32) (ar s 32) [] ⟨CJ _,ae⟩ (by simp only[az];omega) _ 1 2 _ K' ah ah (by simp only[ay,az];omega) (by simp only[ay,az];omega) (fun o ho=>hK o ho)) (hn:=aM);refine aS ?_;refine lI 21 ?_ (he:=by simp only[tE,mb,rz,wc,zy,dH,Nat.reduceEqDiff,br,bn,iM,ed,dW,iK,iL,cT,cI,aY,dx,cA,reduceCtorEq,ay,az,Nat.reduceAdd,Nat.reduceLeDiff,gH];exact rfl) (hm:=by simp only[tE,mb,rz,wc,zy,dH,Nat.reduceEqDiff,br,bn,iM,ed,dW,iK,iL,cT,cI,aY,dx,cA,reduceCtorEq,ay,az,Nat.reduceAdd,Nat.reduceLeDiff,gH];exact rfl);refine aE ?_;refine bR (v:=.sl 5 (o1.nd.map Nd.D)) ?_;refine cx (fH o1.nd) ?_;refine aS ?_;refine bL (fH o1.nd) (he:=bN) ?_;refine aF ?_;refine bR (v:=.bool o1.bad) ?_;refine aE ?_;refine bR (v:=.int .i64 (((ar s 32).length-o1.w.length:Nat):Int)) ?_;refine aB ?_;refine bR (v:=.sl 1 ((ar s 32).map D.str)) ?_;refine kd ?_;refine aB ?_;refine ee (d:=fH o1.nd) ?_;refine aq (hc:=h953 o1.nd) ?_;refine aB ?_;refine aw (fun hc2=>?_) (fun hc2=>?_)
 ·have hwl:=ho1.2.1;have hlt:decide ((((ar s 32).length-o1.w.length:Nat):Int)<((ar s 32).length:Nat))=decide ((0:Int)<(o1.w.length:Nat)):=dz.2 ae;rw[hlt]at hc2;have hmx:=Hr ho1 hc2;refine aA ?_;refine eM [.aV] ?_;refine bL (.agg [.aV]) (he:=bN) ?_;refine aB ?_;refine bO (aN ?_ (aj (D.int .i64) ?_));all_goals (have hq:=Dl hnl hc1 hmx;rw[hq];first|done|rfl)
 have hwl:=ho1.2.1;have hlt:decide ((((ar s 32).length-o1.w.length:Nat):Int)<((ar s 32).length:Nat))=decide ((0:Int)<(o1.w.length:Nat)):=dz.2 ae;rw[hlt]at hc2;have hmx:=Dn ho1 hc2;refine aA ?_;refine ee (d:=fH o1.nd) ?_;refine bL (fH o1.nd) (he:=bN) ?_;refine aB ?_;refine bO (aN ?_ (aj (D.int .i64) ?_));all_goals (have hq:=Dm hnl hc1 hmx;rw[hq];first|done|rfl)
def Pq (Y:Ctx):Prop:=∀(s:au),Y.pre 813 [.str s]/\Y.val 813 [.str s]=.tup [fH (iw s).1,.int .i64 (iw s).2]
def Am:aC:=⟨1,4,fM,bM,(sq (r1 [gm dt] 1 0) (sq (rg [gm s0,gx 813 [l0] bM,gm l1,ge l2 0,ge l2 1,gb 1 (.c (.agg [.aV])),gt 1 l5 l3,gm l4] [(3,5),(2,7)]) (sq (r1 [gm s2,aL l0 bp,gm l1,ca 2 (.ld 1 true s3),ca 2 (.call 814 [l3] [[.sl 5 [.a,.a,.a,.a,.a]]]),gmt 2 s0,ca 2 (cM l4 l5),ew l2 l6,gm l7] 1 8) .ret)))⟩
def w670 {Y:Ctx}(hm:(Y.at 0).bd)(h813:Pq Y)(h814:Pr Y)(s:au)   :dd Y Am (.bool (kQ s)) [.str s]:=by
 show bH _ _ _ [⟨_,_⟩,_,_,_] _;refine ak ?_;refine aE ?_;refine aq (hc:=h813 s) ?_;refine aS ?_;refine lD (fH _) ?_;refine aA ?_;refine bL (fH (iw s).1) (he:=bN) ?_;refine aF ?_;refine ee (d:=fH (iw s).1) ?_;refine aq (hc:=h814 (iw s).1) ?_;refine aF ?_;exact bF rfl
def LL (Y:Ctx):Prop:=∀(s:au),Y.pre 670 [.str s]/\Y.val 670 [.str s]=.bool (kQ s)
def oE:aC:=⟨2,2,[],[],(sq (rg [gm s0,gm s1,gx 242 [l1,(cs [32])] [[.sl 1 [.a]],[.a]],gn (.callM 489 [l0,l2])] []) (rg [gm s0,gn (.callM 664 [l0,(i8 10)])] []))⟩
def w450 {Y:Ctx}(hm:(Y.at 3).bd)(ws:List au)(t:au)(m0:List (Nat×bK))(h242:I0 (Y.at 3))(h489:I4 (Y.at 3))(h664:LI (Y.at 3))(hp0:pD m0 0 t)(hp1:look m0 1=some (.buf 1 (ws.map D.str)))(hp2:xO ws t):bH (Y.at 3) oE.body (lL oE (fun d m=>d=.tup []/\look m 0=some (.bld (some 9) (t++bQ ws).length true)/\look m 9=some (.row (t++bQ ws))):Ex->List bI->St->Prop) (gG oE [.ptr 0 2 0 0,.own 1 1 0 ws.length]) ⟨3,m0⟩:=by
 show bH _ _ _ [⟨true,.ptr 0 2 0 0⟩,⟨true,.own 1 1 0 ws.length⟩] ⟨3,m0⟩;obtain⟨⟨q1,q2⟩,q3,q4⟩:=hp2;have hlt:t++bQ ws=t++bc [32] ws++[10]:=by unfold bQ;simp
 refine ak ?_;refine aA ?_;refine aq (hc:=h242 ws [32] q2 aM q3) (ha:=fun _=>aj (fun d=>[d,D.str [32]]) (lX (q:=D.str) (fun _=>rfl) hp1)) (hp:=fun _=>⟨j9 (q:=D.str) (fun _=>rfl) hp1,rfl,trivial⟩) ?_;refine cd (nx':=4) (v:=.any) (m':=nY m0 0 6 (t++bc [32] ws)) (hc:=fun K' hK=>h489 _ _ K' ⟨_,0,t,rfl,hp0,en (by decide:0<3) (Nat.le_add_right _ _),q1,ae,hK⟩) (hn:=aM) ?_;refine aB ?_;refine cd (nx':=9) (v:=.any) (m':=nY (nY m0 0 6 (t++bc [32] ws)) 0 9 (t++bc [32] ws++[10])) (hc:=fun K' hK=>h664 _ _ K' ⟨10,0,t++bc [32] ws,rfl,Jm aM,en (by decide:0<8) (Nat.le_add_right _ _),aT,by rw[bA];exact q4,hK⟩) (hn:=aM) ?_;refine aS ?_

 refine cS trivial gR (dM ah (?_)) ah ⟨rfl,by rw[hlt];exact(rZ aM).1,by rw[hlt];exact(rZ aM).2⟩;rfl
def Ai:aC:=⟨1,31,fM,bM,(sq (rg [gb 9 s0,gm cse] [(2,0),(1,1)]) (sq (r1 [⟨.mkB,none⟩] 3 0) (sq (rt [gf 0 s2,gd l0,gf 1 s2,gk 5 true l2,gx 451 [l3] wg,gn (.bsl 1 (.str []) 3 [(0,(cs [112,97,99,107,97,103,101])),(1,l1),(2,l4)]),gn (.callM 450 [s3,l5])] []) (sq (sq (rg [gf 6 s2,gd l0,gl l1,gm bp] [(7,1),(5,2),(4,3)]) (.block 0 (.loop (sq (r1 [aP s4 s5] 6 0) (sq (eN s6 0) (sq (.block 1 (sq (r1 [ga 3 s7 s4,gk 3 true l0,gb 3 (.c (.agg [.aV,.str [],.str []])),gt 3 l2 l1] 8 2) (sq (rg [gn (.bsl 1 (.str []) 1 [(0,(cs [110,101,101,100]))]),gn (.callM 450 [s3,l0])] []) (sq (sq (rg [gf 0 s8,gd l0,gl l1,gm bp] [(12,1),(10,2),(9,3)]) (.block 2 (.loop (sq (r1 [aP s9 iP] 11 0) (sq (eN kp 2) (sq (.block 3 (sq (r1 [ga 4 mS s9,gk 4 true l0,gb 4 (.c (.agg [.str [],.str [],.aV,.bool false])),gt 4 l2 l1] 13 2) (sq (rg [gm (cs [45]),gm (cs [102,117,108,108])] [(16,0),(17,1)]) (sq (sq (r1 [gf 2 qp,gd l0,gl l1,cH l2 bp] 14 3) (.cond tq (r1 [gf 2 qp,gd l0,gx 242 [l1,(cs [44])] [[.sl 1 [.a]],[.a]],gm l2] 16 3) .skip)) (sq (sq (r1 [gf 3 qp,gd l0] 15 1) (.cond wu (r1 [gm (cs [98,97,114,101])] 17 0) .skip)) (rg [gf 0 qp,gd l0,gm Cw,gm Cx,gf 1 qp,gd l4,gn (.bsl 1 (.str []) 5 [(0,(cs [97,110,121])),(1,l1),(2,l2),(3,l3),(4,l5)]),gn (.callM 450 [s3,l6])] [])))))) (r1 [ax s9 cq,gm l0] 9 1))))))) (sq (sq (r1 [gf 1 s8,gd l0,cg l1 cse] 18 2) (.cond FB (rg [gf 1 s8,gd l0,gn (.bsl 1 (.str []) 2 [(0,(cs [119,104,101,110])),(1,l1)]),gn (.callM 450 [s3,l2])] []) .skip)) (sq (r1 [gf 2 s8,gd l0,cg l1 cse] 19 2) (.cond Nt (rg [gf 2 s8,gd l0,gn (.bsl 1 (.str []) 2 [(0,(cs [111,112,116,105,111,110])),(1,l1)]),gn (.callM 450 [s3,l2])] []) .skip))))))) (r1 [ax s4 cq,gm l0] 4 1))))))) (sq (sq (rg [gf 7 s2,gd l0,gl l1,gm bp] [(23,1),(21,2),(20,3)]) (.block 4 (.loop (sq (r1 [aP DM NO] 22 0) (sq (eN NP 4) (sq (.block 5 (sq (r1 [ga 3 s23 DM,gk 3 true l0,gb 3 (.c (.agg [.str [],.str [],.str []])),gt 3 l2 l1] 24 2) (sq (rg [gf 0 Nu,gd l0,gf 1 Nu,gd l2,gn (.bsl 1 (.str []) 3 [(0,(cs [98,97,114])),(1,l1),(2,l3)]),gn (.callM 450 [s3,l4])] []) (sq (r1 [gf 2 Nu,gd l0,cg l1 cse] 25 2) (.cond NQ (rg [gf 2 Nu,gd l0,gn (.bsl 1 (.str []) 2 [(0,(cs [119,104,101,110])),(1,l1)]),gn (.callM 450 [s3,l2])] []) .skip))))) (r1 [ax DM cq,gm l0] 20 1))))))) (sq (sq (rg [gf 8 s2,gd l0,gl l1,gm bp] [(29,1),(27,2),(26,3)]) (.block 6 (.loop (sq (r1 [aP RF s27] 28 0) (sq (eN s28 6) (sq (.block 7 (sq (r1 [ga 2 s29 RF,gk 2 true l0,gb 2 (.c (.agg [.str [],.aV])),gt 2 l2 l1] 30 2) (rg [gf 0 Lg,gd l0,gn (.bsl 1 (.str []) 2 [(0,(cs [102,101,97,116,117,114,101])),(1,l1)]),gf 1 Lg,gd l3,gn (.app 1 l2 l4),gn (.callM 450 [s3,l5])] []))) (r1 [ax RF cq,gm l0] 26 1))))))) (sq (r1 [gn (.callM 452 [s3]),gm l0] 1 1) .ret)))))))⟩
def w215 {Y:Ctx}(hm:(Y.at 0).bd)(h242:I0 Y)(h450:Ly Y)(h451:OC Y)(h452:I2 Y)(r:Rec)  (hp0:pI r/\dh r):dd Y Ai (.str (kG r)) [Rec.D r]:=by
 show bH _ _ _ [⟨_,_⟩,_,_,_,_,_,_,_,_,_,_,_,_,_,_,_,_,_,_,_,_,_,_,_,_,_,_,_,_,_,_] _;have hft:=wS hp0;have q0:=hft.nm;have q00:=vG r.v hft.v;have hs:=hp0.2;refine ak ?_;refine ic ?_;refine bR (v:=bX.D r.v) ?_;refine aq (hc:=h451 r.v hft.v) ?_;refine dK [(.str _),(.str _),(.str _)] ?_;refine cd (nx':=4) (v:=.tup []) (m':=[(9,.row (og r)),(0,.buf 9 [Rec.D r]),(2,.bld (some 9) (og r).length true)]) (hc:=fun K' hK=>h450 [lH,r.name,kR r.v] ([]) 2 8 _ _ K' (.inl ⟨false,bN,rfl⟩) ah (by simp only[ay,az];omega) (by simp only[ay,az];omega) (.mk aM (by simp only[ay,az,fk,eG];omega) (cZ.2 ⟨aM,cZ.2 ⟨ae,cZ.2 ⟨ae,fun _ h=>nomatch h⟩⟩⟩) (by first|omega|(simp only[bA,az];omega))) (by rw[show([])++bQ [lH,r.name,kR r.v]=og r from rfl];exact hK)) (hn:=aM) ?_;refine aF ?_;intro u0;refine aA ?_;refine bh hm (ι:=Nat) (fun i=>[.un,.un,⟨true,.ptr 0 9 0 0⟩,⟨true,.ptr 2 2 0 0⟩,⟨true,.int .i64 (i:Nat)⟩,⟨true,.int .i64 (r.needs.length:Nat)⟩,.un,⟨true,.sl 3 (r.needs.map cB.D)⟩,.un,.un,.un,.un,.un,.un,.un,.un,.un,.un,.un,.un,.un,.un,.un,.un,.un,.un,.un,.un,.un,.un,.un]) (fun i=>[(0,.buf 9 [Rec.D r]),(2,.bld (some 3) (iU r i).length true),(3,.row (iU r i))]) 10 (fun i=>i<=r.needs.length) (fun i=>r.needs.length-i) 0 ae (bj.to [(0,0),(2,2),(9,3)] ah ah dZ (by refine ba.gN ah ah ah ?_;refine ba.bl 2 ah ah ah (aj List.length (by rw[IB])) rfl ?_;refine ba.rw 9 ah ah (by rw[IB]) ?_;exact ba.nil)) ?_;intro i hi;have q1:=yS hft i hi;refine aB ?_;refine cw (fun hc0=>?_) fun hc0=>?_
 ·refine aB ?_;have hnf:=hft.n _ (bS (show i<r.needs.length by omega));have hn3:=hnf.1.1;refine aS ?_;refine cy (v:=cB.D r.needs[i]!) (hi:=fun _=>ae) ?_;refine aS ?_;refine bL (cB.D r.needs[i]!) (he:=bN) ?_;refine aA ?_;refine dK [(.str _)] ?_;refine cd (nx':=16) (v:=.tup []) (m':=[(16,.row (iU r i++du r.needs[i]! 0)),(0,.buf 9 [Rec.D r]),(2,.bld (some 16) (iU r i++du r.needs[i]! 0).length true),(13,.buf 3 [cB.D r.needs[i]!])]) (hc:=fun K' hK=>h450 [sX] (iU r i) 2 15 _ _ K' (.inr ⟨3,true,bN,bN⟩) ah (by simp only[ay,az];omega) (by simp only[ay,az];omega) (.mk aM (by simp only[ay,az,fk,eG];omega) (cZ.2 ⟨aM,fun _ h=>nomatch h⟩) (by first|omega|(simp only[bA,az];omega))) (by rw[show(iU r i)++bQ [sX]=iU r i++du r.needs[i]! 0 from rfl];exact hK)) (hn:=aM) ?_;refine aF ?_;intro u1;refine aA ?_;refine bh hm (ι:=Nat) (fun j=>[.un,.un,⟨true,.ptr 0 9 0 0⟩,⟨true,.ptr 2 2 0 0⟩,⟨true,.int .i64 (i:Nat)⟩,⟨true,.int .i64 (r.needs.length:Nat)⟩,.un,⟨true,.sl 3 (r.needs.map cB.D)⟩,⟨true,.ptr 4 3 0 0⟩,⟨true,.int .i64 (j:Nat)⟩,⟨true,.int .i64 (r.needs[i]!.any.length:Nat)⟩,.un,⟨true,.sl 4 (r.needs[i]!.any.map cQ.D)⟩,.un,.un,.un,.un,.un,.un,.un,.un,.un,.un,.un,.un,.un,.un,.un,.un,.un,.un]) (fun j=>[(0,.buf 9 [Rec.D r]),(4,.buf 3 [cB.D r.needs[i]!]),(2,.bld (some 3) (iU r i++du r.needs[i]! j).length true),(3,.row (iU r i++du r.needs[i]! j))]) 20 (fun j=>j<=r.needs[i]!.any.length) (fun j=>r.needs[i]!.any.length-j) 0 ae (bj.to [(0,0),(13,4),(2,2),(16,3)] ah ah dZ (by refine ba.gN ah ah ah ?_;refine ba.nl 13 ah ah rfl ah ?_;refine ba.bl 2 ah ah ah (aj List.length (rfl)) rfl ?_;refine ba.rw 16 ah ah (rfl) ?_;exact ba.nil)) ?_;intro j hj;have q2:=w9 hnf j ae;refine aB ?_;refine cw (fun hc1=>?_) fun hc1=>?_
  ·refine aB ?_;have hwf:=hnf.1.2 _ (bS (show j<r.needs[i]!.any.length by omega));have q3:=yZ hwf;have q4:=hwf.1.1.1;have q5:=hwf.1.1.2;refine aS ?_;refine cy (v:=cQ.D r.needs[i]!.any[j]!) (hi:=fun _=>ae) ?_;refine aS ?_;refine bL (cQ.D r.needs[i]!.any[j]!) (he:=bN) ?_;refine ic ?_;intro u2;refine aA ?_;refine cw (fun hc2=>?_) fun hc2=>?_
   ·refine aB ?_;refine aq (hc:=h242 r.needs[i]!.any[j]!.feats [44] (by have:=hwf.2.1;omega) aM (fun t ht=>by have:=hwf.2.2 t ht;omega)) ?_;refine aU ?_;refine cw (fun hc3=>?_) fun hc3=>?_
    ·refine aE ?_;have hwl:bQ [mP,r.needs[i]!.any[j]!.name,(bc [44] r.needs[i]!.any[j]!.feats),lU,r.needs[i]!.any[j]!.range]=gV r.needs[i]!.any[j]! :=by
      unfold gV kI;first|rw[av (show r.needs[i]!.any[j]!.feats.length=0 by omega)]|rw[ai (show ¬r.needs[i]!.any[j]!.feats.length=0 by omega)]
      rw[hc3];rfl
     have hwj:=lB (n:=r.needs[i]!) (j:=j) ae;refine aF ?_;refine dK [(.str _),(.str _),(.str _),(.str _),(.str _)] ?_;refine cd (nx':=39) (v:=.tup []) (m':=[(45,.row (iU r i++du r.needs[i]! (j+1))),(0,.buf 9 [Rec.D r]),(4,.buf 3 [cB.D r.needs[i]!]),(2,.bld (some 45) (iU r i++du r.needs[i]! (j+1)).length true),(23,.buf 4 [cQ.D r.needs[i]!.any[j]!])]) (hc:=fun K' hK=>h450 [mP,r.needs[i]!.any[j]!.name,(bc [44] r.needs[i]!.any[j]!.feats),lU,r.needs[i]!.any[j]!.range] (iU r i++du r.needs[i]! j) 2 44 _ _ K' (.inr ⟨3,true,bN,bN⟩) ah (by simp only[ay,az];omega) (by simp only[ay,az];omega) (.mk aM (by simp only[ay,az,fk,eG];omega) (cZ.2 ⟨aM,cZ.2 ⟨ae,cZ.2 ⟨by first|omega|decide,cZ.2 ⟨aM,cZ.2 ⟨ae,fun _ h=>nomatch h⟩⟩⟩⟩⟩) (by first|omega|(simp only[bA,az];omega))) (by rw[show(iU r i++du r.needs[i]! j)++bQ [mP,r.needs[i]!.any[j]!.name,(bc [44] r.needs[i]!.any[j]!.feats),lU,r.needs[i]!.any[j]!.range]=iU r i++du r.needs[i]! (j+1)from by rw[hwl,hwj,dG]];exact hK)) (hn:=aM) ?_;refine aU ?_;exact⟨j+1,ae,ae,(bj.to [(0,0),(4,4),(2,2),(45,3)] ah ah dZ (by refine ba.gN ah ah ah ?_;refine ba.nl 4 ah ah rfl ah ?_;refine ba.bl 2 ah ah ah (aj List.length (rfl)) rfl ?_;refine ba.rw 45 ah ah (rfl) ?_;exact ba.nil))⟩
    refine aA ?_;have hwl:bQ [mP,r.needs[i]!.any[j]!.name,(bc [44] r.needs[i]!.any[j]!.feats),mQ,r.needs[i]!.any[j]!.range]=gV r.needs[i]!.any[j]! :=by
     unfold gV kI;first|rw[av (show r.needs[i]!.any[j]!.feats.length=0 by omega)]|rw[ai (show ¬r.needs[i]!.any[j]!.feats.length=0 by omega)]
     rw[hc3];rfl
    have hwj:=lB (n:=r.needs[i]!) (j:=j) ae;refine aF ?_;refine dK [(.str _),(.str _),(.str _),(.str _),(.str _)] ?_;refine cd (nx':=38) (v:=.tup []) (m':=[(44,.row (iU r i++du r.needs[i]! (j+1))),(0,.buf 9 [Rec.D r]),(4,.buf 3 [cB.D r.needs[i]!]),(2,.bld (some 44) (iU r i++du r.needs[i]! (j+1)).length true),(23,.buf 4 [cQ.D r.needs[i]!.any[j]!])]) (hc:=fun K' hK=>h450 [mP,r.needs[i]!.any[j]!.name,(bc [44] r.needs[i]!.any[j]!.feats),mQ,r.needs[i]!.any[j]!.range] (iU r i++du r.needs[i]! j) 2 43 _ _ K' (.inr ⟨3,true,bN,bN⟩) ah (by simp only[ay,az];omega) (by simp only[ay,az];omega) (.mk aM (by simp only[ay,az,fk,eG];omega) (cZ.2 ⟨aM,cZ.2 ⟨ae,cZ.2 ⟨by first|omega|decide,cZ.2 ⟨aM,cZ.2 ⟨ae,fun _ h=>nomatch h⟩⟩⟩⟩⟩) (by first|omega|(simp only[bA,az];omega))) (by rw[show(iU r i++du r.needs[i]! j)++bQ [mP,r.needs[i]!.any[j]!.name,(bc [44] r.needs[i]!.any[j]!.feats),mQ,r.needs[i]!.any[j]!.range]=iU r i++du r.needs[i]! (j+1)from by rw[hwl,hwj,dG]];exact hK)) (hn:=aM) ?_;refine aU ?_;exact⟨j+1,ae,ae,(bj.to [(0,0),(4,4),(2,2),(44,3)] ah ah dZ (by refine ba.gN ah ah ah ?_;refine ba.nl 4 ah ah rfl ah ?_;refine ba.bl 2 ah ah ah (aj List.length (rfl)) rfl ?_;refine ba.rw 44 ah ah (rfl) ?_;exact ba.nil))⟩
   refine aF ?_;refine cw (fun hc3=>?_) fun hc3=>?_
   ·refine aE ?_;have hwl:bQ [mP,r.needs[i]!.any[j]!.name,[45],lU,r.needs[i]!.any[j]!.range]=gV r.needs[i]!.any[j]! :=by
     unfold gV kI;first|rw[av (show r.needs[i]!.any[j]!.feats.length=0 by omega)]|rw[ai (show ¬r.needs[i]!.any[j]!.feats.length=0 by omega)]
     rw[hc3];rfl
    have hwj:=lB (n:=r.needs[i]!) (j:=j) ae;refine aF ?_;refine dK [(.str _),(.str _),(.str _),(.str _),(.str _)] ?_;refine cd (nx':=35) (v:=.tup []) (m':=[(41,.row (iU r i++du r.needs[i]! (j+1))),(0,.buf 9 [Rec.D r]),(4,.buf 3 [cB.D r.needs[i]!]),(2,.bld (some 41) (iU r i++du r.needs[i]! (j+1)).length true),(23,.buf 4 [cQ.D r.needs[i]!.any[j]!])]) (hc:=fun K' hK=>h450 [mP,r.needs[i]!.any[j]!.name,[45],lU,r.needs[i]!.any[j]!.range] (iU r i++du r.needs[i]! j) 2 40 _ _ K' (.inr ⟨3,true,bN,bN⟩) ah (by simp only[ay,az];omega) (by simp only[ay,az];omega) (.mk aM (by simp only[ay,az,fk,eG];omega) (cZ.2 ⟨aM,cZ.2 ⟨ae,cZ.2 ⟨by first|omega|decide,cZ.2 ⟨aM,cZ.2 ⟨ae,fun _ h=>nomatch h⟩⟩⟩⟩⟩) (by first|omega|(simp only[bA,az];omega))) (by rw[show(iU r i++du r.needs[i]! j)++bQ [mP,r.needs[i]!.any[j]!.name,[45],lU,r.needs[i]!.any[j]!.range]=iU r i++du r.needs[i]! (j+1)from by rw[hwl,hwj,dG]];exact hK)) (hn:=aM) ?_;refine aU ?_;exact⟨j+1,ae,ae,(bj.to [(0,0),(4,4),(2,2),(41,3)] ah ah dZ (by refine ba.gN ah ah ah ?_;refine ba.nl 4 ah ah rfl ah ?_;refine ba.bl 2 ah ah ah (aj List.length (rfl)) rfl ?_;refine ba.rw 41 ah ah (rfl) ?_;exact ba.nil))⟩
   refine aA ?_;have hwl:bQ [mP,r.needs[i]!.any[j]!.name,[45],mQ,r.needs[i]!.any[j]!.range]=gV r.needs[i]!.any[j]! :=by
    unfold gV kI;first|rw[av (show r.needs[i]!.any[j]!.feats.length=0 by omega)]|rw[ai (show ¬r.needs[i]!.any[j]!.feats.length=0 by omega)]
    rw[hc3];rfl
   have hwj:=lB (n:=r.needs[i]!) (j:=j) ae;refine aF ?_;refine dK [(.str _),(.str _),(.str _),(.str _),(.str _)] ?_;refine cd (nx':=34) (v:=.tup []) (m':=[(40,.row (iU r i++du r.needs[i]! (j+1))),(0,.buf 9 [Rec.D r]),(4,.buf 3 [cB.D r.needs[i]!]),(2,.bld (some 40) (iU r i++du r.needs[i]! (j+1)).length true),(23,.buf 4 [cQ.D r.needs[i]!.any[j]!])]) (hc:=fun K' hK=>h450 [mP,r.needs[i]!.any[j]!.name,[45],mQ,r.needs[i]!.any[j]!.range] (iU r i++du r.needs[i]! j) 2 39 _ _ K' (.inr ⟨3,true,bN,bN⟩) ah (by simp only[ay,az];omega) (by simp only[ay,az];omega) (.mk aM (by simp only[ay,az,fk,eG];omega) (cZ.2 ⟨aM,cZ.2 ⟨ae,cZ.2 ⟨by first|omega|decide,cZ.2 ⟨aM,cZ.2 ⟨ae,fun _ h=>nomatch h⟩⟩⟩⟩⟩) (by first|omega|(simp only[bA,az];omega))) (by rw[show(iU r i++du r.needs[i]! j)++bQ [mP,r.needs[i]!.any[j]!.name,[45],mQ,r.needs[i]!.any[j]!.range]=iU r i++du r.needs[i]! (j+1)from by rw[hwl,hwj,dG]];exact hK)) (hn:=aM) ?_;refine aU ?_;exact⟨j+1,ae,ae,(bj.to [(0,0),(4,4),(2,2),(40,3)] ah ah dZ (by refine ba.gN ah ah ah ?_;refine ba.nl 4 ah ah rfl ah ?_;refine ba.bl 2 ah ah ah (aj List.length (rfl)) rfl ?_;refine ba.rw 40 ah ah (rfl) ?_;exact ba.nil))⟩
  refine aE ?_;have hnA:=sb (n:=r.needs[i]!) (j:=j) ae;have w4:=lf hnf.2.1;have w5:=hnf.2.2;have w6:=hnf.2.1;refine aE ?_;refine cw (fun hc4=>?_) fun hc4=>?_
  ·refine aS ?_;have hwt:gw r.needs[i]!.when'=bQ [nH,r.needs[i]!.when']:=ai hc4;refine aA ?_;refine dK [(.str _),(.str _)] ?_;refine cd (nx':=25) (v:=.tup []) (m':=[(27,.row (iU r i++(du r.needs[i]! j++gw r.needs[i]!.when'))),(0,.buf 9 [Rec.D r]),(4,.buf 3 [cB.D r.needs[i]!]),(2,.bld (some 27) (iU r i++(du r.needs[i]! j++gw r.needs[i]!.when')).length true)]) (hc:=fun K' hK=>h450 [nH,r.needs[i]!.when'] (iU r i++du r.needs[i]! j) 2 26 _ _ K' (.inr ⟨3,true,bN,bN⟩) ah (by simp only[ay,az];omega) (by simp only[ay,az];omega) (.mk aM (by simp only[ay,az,fk,eG];omega) (cZ.2 ⟨aM,cZ.2 ⟨ae,fun _ h=>nomatch h⟩⟩) (by first|omega|(simp only[bA,az];omega))) (by rw[show(iU r i++du r.needs[i]! j)++bQ [nH,r.needs[i]!.when']=iU r i++(du r.needs[i]! j++gw r.needs[i]!.when')from by rw[hwt,dG]];exact hK)) (hn:=aM) ?_;refine aF ?_;refine eP (fun hc5=>?_) fun hc5=>?_
   ·refine aS ?_;have hot:pA r.needs[i]!.option=bQ [jm,r.needs[i]!.option]:=ai hc5;refine aA ?_;refine dK [(.str _),(.str _)] ?_;refine cd (nx':=33) (v:=.tup []) (m':=[(35,.row (iU r (i+1))),(0,.buf 9 [Rec.D r]),(4,.buf 3 [cB.D r.needs[i]!]),(2,.bld (some 35) (iU r (i+1)).length true)]) (hc:=fun K' hK=>h450 [jm,r.needs[i]!.option] (iU r i++(du r.needs[i]! j++gw r.needs[i]!.when')) 2 34 _ _ K' (.inr ⟨27,true,bN,bN⟩) ah (by simp only[ay,az];omega) (by simp only[ay,az];omega) (.mk aM (by simp only[ay,az,fk,eG];omega) (cZ.2 ⟨aM,cZ.2 ⟨ae,fun _ h=>nomatch h⟩⟩) (by first|omega|(simp only[bA,az];omega))) (by rw[show(iU r i++(du r.needs[i]! j++gw r.needs[i]!.when'))++bQ [jm,r.needs[i]!.option]=iU r (i+1)from by rw[j7 ae,hnA,hot];simp only[dG,jq]];exact hK)) (hn:=aM) ?_;refine aU ?_;exact⟨i+1,ae,ae,(bj.to [(0,0),(2,2),(35,3)] ah ah dZ (by refine ba.gN ah ah ah ?_;refine ba.bl 2 ah ah ah (aj List.length (rfl)) rfl ?_;refine ba.rw 35 ah ah (rfl) ?_;exact ba.nil))⟩
   refine aB ?_;have hno:pA r.needs[i]!.option=[]:=av (by simpa using hc5);refine aE ?_;exact⟨i+1,ae,ae,(bj.to [(0,0),(2,2),(27,3)] ah ah dZ (by refine ba.gN ah ah ah ?_;refine ba.bl 2 ah ah ah (aj List.length (by rw[j7 ae,hnA,hno];simp only[dG,jq])) rfl ?_;refine ba.rw 27 ah ah (by rw[j7 ae,hnA,hno];simp only[dG,jq]) ?_;exact ba.nil))⟩
  refine aA ?_;have hnw:gw r.needs[i]!.when'=[]:=av (by simpa using hc4);refine aE ?_;refine eP (fun hc5=>?_) fun hc5=>?_
  ·refine aS ?_;have hot:pA r.needs[i]!.option=bQ [jm,r.needs[i]!.option]:=ai hc5;refine aA ?_;refine dK [(.str _),(.str _)] ?_;refine cd (nx':=28) (v:=.tup []) (m':=[(30,.row (iU r (i+1))),(0,.buf 9 [Rec.D r]),(4,.buf 3 [cB.D r.needs[i]!]),(2,.bld (some 30) (iU r (i+1)).length true)]) (hc:=fun K' hK=>h450 [jm,r.needs[i]!.option] (iU r i++du r.needs[i]! j) 2 29 _ _ K' (.inr ⟨3,true,bN,bN⟩) ah (by simp only[ay,az];omega) (by simp only[ay,az];omega) (.mk aM (by simp only[ay,az,fk,eG];omega) (cZ.2 ⟨aM,cZ.2 ⟨ae,fun _ h=>nomatch h⟩⟩) (by first|omega|(simp only[bA,az];omega))) (by rw[show(iU r i++du r.needs[i]! j)++bQ [jm,r.needs[i]!.option]=iU r (i+1)from by rw[j7 ae,hnA,hot,hnw];simp only[dG,jq]];exact hK)) (hn:=aM) ?_;refine aU ?_;exact⟨i+1,ae,ae,(bj.to [(0,0),(2,2),(30,3)] ah ah dZ (by refine ba.gN ah ah ah ?_;refine ba.bl 2 ah ah ah (aj List.length (rfl)) rfl ?_;refine ba.rw 30 ah ah (rfl) ?_;exact ba.nil))⟩
  refine aB ?_;have hno:pA r.needs[i]!.option=[]:=av (by simpa using hc5);refine aE ?_;exact⟨i+1,ae,ae,(bj.to [(0,0),(2,2),(3,3)] ah ah dZ (by refine ba.gN ah ah ah ?_;refine ba.bl 2 ah ah ah (aj List.length (by rw[j7 ae,hnA,hno,hnw];simp only[dG,jq])) rfl ?_;refine ba.rw 3 ah ah (by rw[j7 ae,hnA,hno,hnw];simp only[dG,jq]) ?_;exact ba.nil))⟩
 refine aE ?_;have h33:i=r.needs.length:=ae;subst h33;refine aB ?_;intro u3;refine aA ?_;refine bh hm (ι:=Nat) (fun i=>[.un,.un,⟨true,.ptr 0 9 0 0⟩,⟨true,.ptr 2 2 0 0⟩,.un,.un,.un,.un,.un,.un,.un,.un,.un,.un,.un,.un,.un,.un,.un,.un,⟨true,.int .i64 (i:Nat)⟩,⟨true,.int .i64 (r.bars.length:Nat)⟩,.un,⟨true,.sl 3 (r.bars.map kJ.D)⟩,.un,.un,.un,.un,.un,.un,.un]) (fun i=>[(0,.buf 9 [Rec.D r]),(2,.bld (some 3) (vC r i).length true),(3,.row (vC r i))]) 10 (fun i=>i<=r.bars.length) (fun i=>r.bars.length-i) 0 ae (bj.to [(0,0),(2,2),(3,3)] ah ah dZ (by refine ba.gN ah ah ah ?_;refine ba.bl 2 ah ah ah (aj List.length (by rw[IC])) rfl ?_;refine ba.rw 3 ah ah (by rw[IC]) ?_;exact ba.nil)) ?_;intro i hi;have q1:=yT hft i hi;refine aB ?_;refine cw (fun hc6=>?_) fun hc6=>?_
 ·refine aB ?_;have q4:=hft.b _ (bS (show i<r.bars.length by omega));have q5:=q4.1;have q6:=q4.2.1;have q7:=q4.2.2;have hbt:ta r.bars[i]! =bQ [qy,r.bars[i]!.name,r.bars[i]!.range]++gw r.bars[i]!.when':=rfl;have hxb:=AY (r:=r) (i:=i) ae;have w7:=lf q7;refine aS ?_;refine cy (v:=kJ.D r.bars[i]!) (hi:=fun _=>ae) ?_;refine aS ?_;refine bL (kJ.D r.bars[i]!) (he:=bN) ?_;refine aF ?_;refine dK [(.str _),(.str _),(.str _)] ?_;refine cd (nx':=16) (v:=.tup []) (m':=[(20,.row (vC r i++bQ [qy,r.bars[i]!.name,r.bars[i]!.range])),(0,.buf 9 [Rec.D r]),(2,.bld (some 20) (vC r i++bQ [qy,r.bars[i]!.name,r.bars[i]!.range]).length true),(13,.buf 3 [kJ.D r.bars[i]!])]) (hc:=fun K' hK=>h450 [qy,r.bars[i]!.name,r.bars[i]!.range] (vC r i) 2 19 _ _ K' (.inr ⟨3,true,bN,bN⟩) ah (by simp only[ay,az];omega) (by simp only[ay,az];omega) (.mk aM (by simp only[ay,az,fk,eG];omega) (cZ.2 ⟨aM,cZ.2 ⟨ae,cZ.2 ⟨ae,fun _ h=>nomatch h⟩⟩⟩) (by first|omega|(simp only[bA,az];omega))) (by rw[show(vC r i)++bQ [qy,r.bars[i]!.name,r.bars[i]!.range]=vC r i++bQ [qy,r.bars[i]!.name,r.bars[i]!.range]from rfl];exact hK)) (hn:=aM) ?_;refine aA ?_;have w8:(bQ [qy,r.bars[i]!.name,r.bars[i]!.range]).length<=2200000:=by unfold bQ;simp only[bc,qy,bA,ay,az];omega
  refine aE ?_;refine eP (fun hc7=>?_) fun hc7=>?_
  ·refine aS ?_;have hwt:gw r.bars[i]!.when'=bQ [nH,r.bars[i]!.when']:=ai hc7;refine aA ?_;refine dK [(.str _),(.str _)] ?_;refine cd (nx':=26) (v:=.tup []) (m':=[(28,.row (vC r (i+1))),(0,.buf 9 [Rec.D r]),(2,.bld (some 28) (vC r (i+1)).length true),(13,.buf 3 [kJ.D r.bars[i]!])]) (hc:=fun K' hK=>h450 [nH,r.bars[i]!.when'] (vC r i++bQ [qy,r.bars[i]!.name,r.bars[i]!.range]) 2 27 _ _ K' (.inr ⟨20,true,bN,bN⟩) ah (by simp only[ay,az];omega) (by simp only[ay,az];omega) (.mk aM (by simp only[ay,az,fk,eG];omega) (cZ.2 ⟨aM,cZ.2 ⟨ae,fun _ h=>nomatch h⟩⟩) (by first|omega|(simp only[bA,az];omega))) (by rw[show(vC r i++bQ [qy,r.bars[i]!.name,r.bars[i]!.range])++bQ [nH,r.bars[i]!.when']=vC r (i+1)from by rw[hxb,hbt,hwt,dG]];exact hK)) (hn:=aM) ?_;refine aU ?_;exact⟨i+1,ae,ae,(bj.to [(0,0),(2,2),(28,3)] ah ah dZ (by refine ba.gN ah ah ah ?_;refine ba.bl 2 ah ah ah (aj List.length (rfl)) rfl ?_;refine ba.rw 28 ah ah (rfl) ?_;exact ba.nil))⟩
  refine aB ?_;have hno:gw r.bars[i]!.when'=[]:=av (by simpa using hc7);refine aE ?_;exact⟨i+1,ae,ae,(bj.to [(0,0),(2,2),(20,3)] ah ah dZ (by refine ba.gN ah ah ah ?_;refine ba.bl 2 ah ah ah (aj List.length (by rw[hxb,hbt,hno,jq])) rfl ?_;refine ba.rw 20 ah ah (by rw[hxb,hbt,hno,jq]) ?_;exact ba.nil))⟩
 refine aE ?_;have h33:i=r.bars.length:=ae;subst h33;refine aB ?_;intro u4;refine aA ?_;refine bh hm (ι:=Nat) (fun i=>[.un,.un,⟨true,.ptr 0 9 0 0⟩,⟨true,.ptr 2 2 0 0⟩,.un,.un,.un,.un,.un,.un,.un,.un,.un,.un,.un,.un,.un,.un,.un,.un,.un,.un,.un,.un,.un,.un,⟨true,.int .i64 (i:Nat)⟩,⟨true,.int .i64 (r.feats.length:Nat)⟩,.un,⟨true,.sl 2 (r.feats.map bW.D)⟩,.un]) (fun i=>[(0,.buf 9 [Rec.D r]),(2,.bld (some 3) (xF r i).length true),(3,.row (xF r i))]) 10 (fun i=>i<=r.feats.length) (fun i=>r.feats.length-i) 0 ae (bj.to [(0,0),(2,2),(3,3)] ah ah dZ (by refine ba.gN ah ah ah ?_;refine ba.bl 2 ah ah ah (aj List.length (by rw[IE])) rfl ?_;refine ba.rw 3 ah ah (by rw[IE]) ?_;exact ba.nil)) ?_;intro i hi;have q1:=DU hft i hi;refine aB ?_;refine cw (fun hc8=>?_) fun hc8=>?_
 ·refine aB ?_;have q4:=hft.f _ (bS (show i<r.feats.length by omega));have q5:=q4.1.1;have q6:=q4.2;have q8:∀t∈r.feats[i]!.of,t.length<=2097200:=fun t ht=>cW (q4.1.2.2 t ht) aM
  have hxf:=AZ (r:=r) (i:=i) ae;refine aS ?_;refine cy (v:=bW.D r.feats[i]!) (hi:=fun _=>ae) ?_;refine aS ?_;refine bL (bW.D r.feats[i]!) (he:=bN) ?_;refine aE ?_;refine dK [(.str _),(.str _)] ?_;refine aA ?_;refine va (zs:=([gU,r.feats[i]!.name]++r.feats[i]!.of).map D.str) (n:=([gU,r.feats[i]!.name]++r.feats[i]!.of).length) (ha:=aT) (he:=sC.sl) (hz:=by rw[dx];rfl) (hn:=by simp<;>omega) (hb:=by simp only[ay,az,fk,eG];omega) ?_;refine cd (nx':=16) (v:=.tup []) (m':=[(21,.row (xF r (i+1))),(0,.buf 9 [Rec.D r]),(2,.bld (some 21) (xF r (i+1)).length true),(13,.buf 2 [bW.D r.feats[i]!])]) (hc:=fun K' hK=>h450 ([gU,r.feats[i]!.name]++r.feats[i]!.of) (xF r i) 2 20 _ _ K' (.inr ⟨3,true,bN,bN⟩) ah (by simp only[ay,az];omega) (by simp only[ay,az];omega) (.mk (l:=r.feats[i]!.name::r.feats[i]!.of) aM (by simp only[ay,az,fk,eG];omega) (cZ.2 ⟨aM,cZ.2 ⟨ae,q8⟩⟩) (by first|omega|(simp only[bA,az];omega))) (by rw[show(xF r i)++bQ ([gU,r.feats[i]!.name]++r.feats[i]!.of)=xF r (i+1)from by rw[hxf];rfl];exact hK)) (hn:=aM) ?_;refine aU ?_;exact⟨i+1,ae,ae,(bj.to [(0,0),(2,2),(21,3)] ah ah dZ (by refine ba.gN ah ah ah ?_;refine ba.bl 2 ah ah ah (aj List.length (rfl)) rfl ?_;refine ba.rw 21 ah ah (rfl) ?_;exact ba.nil))⟩
 refine aB ?_;have h33:i=r.feats.length:=ae;subst h33;have hne:xF r r.feats.length≠[]:=by
  rw[yV];unfold kG og bQ;simp[bc,lH]
 refine cd (nx':=11) (v:=.str (xF r r.feats.length)) (m':=[(0,.buf 9 [Rec.D r])]) (hc:=fun K' hK=>h452 _ _ K' ⟨2,xF r r.feats.length,rfl,.inr ⟨3,true,bN,bN⟩,hne,hK⟩) (hn:=aM) ?_;refine aB ?_;refine cD ?_;exact yV r
def Ld.sm.to {r:Ld}(h:r.sm)(q:List au):(r.to q).sm:=⟨⟨Nat.sub_le _ _,h.1.2⟩,h.2⟩
def EY {w:au}{n:Nat}{op:Bool}{t:au}{l:List au}(h:pK w n op t=some l):(n=0\/l.length=n)/\[]∉l/\l=nC n op t:=by
 unfold pK at h;split at h
 ·rename_i hc;obtain rfl:=bC h;exact⟨hc.2.1,hc.2.2,rfl⟩
 ·cases h
def oo (x:UInt8):∀(l:List au)(n:Nat),(bc [x] (l.drop n)).length<=(bc [x] l).length
 |[],n=>aT
 |a::r,0=>aY _
 |[a],n+1=>by simp[bc]
 |a::b::r,n+1=>by
  have:=oo x (b::r) n;rw[List.drop_succ_cons,jJ [x] a (b::r) aT];simp only[bA];omega
def IK {n:Nat}{op:Bool}{t w:au}(h:w∈nC n op t):w.length<=t.length:=by
 unfold nC at h;split at h
 ·unfold Mt at h;split at h
  ·exact gS t 32 h
  ·rw[List.mem_append]at h;rcases h with h|h
   ·exact gS t 32 (oQ h)
   ·simp only[cJ]at h;subst h;have:=oo 32 (ar t 32) (n-1);rw[lR (b:=32) (x:=32) rfl t]at this;exact this
 ·exact gS t 32 h
def Ld.back {r:Ld}{t:au}{q:List au}(h:(t::q)<:+r.ls):sw (Ld.D (r.to q)) 2 1 1 (.int .i64 (((r.to q).at':Nat) -1:Int))=Ld.D (r.to (t::q)):=by
 have:=h.length_le;show D.agg [.sl 1 (r.ls.map D.str),.int .i64 (((r.ls.length-q.length:Nat):Int) -1)]=D.agg [.sl 1 (r.ls.map D.str),.int .i64 ((r.ls.length-(q.length+1):Nat):Int)];simp only[ay]at this;congr 4;omega
def cQ.N (x:cQ):Go.Abs.D:=.agg [.str x.name,.str x.range,nlS x.feats,.bool x.bare]
def MQ:∀l:List au,tP (nlS l) (.sl 1 (l.map D.str))
 |[]=>.nil 1
 |_::_=>.refl _
def cQ.wk (x:cQ):tP x.N x.D:=.ag (.cons (.refl _) (.cons (.refl _) (.cons (MQ _) (.cons (.refl _) .nil))))
def FM (s:au)(b:Int):ar s b≠[]:=by
 have:=fR b s [];intro h;unfold ar at h;rw[h]at this;simp at this
def Ib (ls:List au):Rec×List au:=match RE ls with
 |some p=>p
 |none=>(Ke,ls)
def FX (n:Nat)(op:Bool)(t:au):(nC n op t).length<=t.length+1:=by
 have h:=er t 32;have hp:=fR 32 t [];unfold nC;split
 ·unfold Mt;split
  ·exact h
  ·simp only[bA,fU,ay,az];have:1<=(ar t 32).length:=hp;omega
 ·exact h
def Jf (p:List au):Prop:=∀t∈p,t.length<=1048576
def Jf.get {l:List au}(h:Jf l)(i:Nat):l[i]!.length<=1048576:=by
 rcases eJ i l.length with hi|hi
 ·exact h _ (bS hi)
 ·simp[hi];exact Nat.zero_le _
def Jf.next {p:List au}(hp:Jf p){w:au}{n:Nat}{op:Bool}{l q:List au}(h:sN w n op p=some (l,q)):Jf l/\Jf q/\l.length<=1048577:=by
 obtain⟨t,rfl,ht⟩:=BZ h;obtain⟨_,_,h3⟩:=EY ht;have h0:=hp t (.head _);refine⟨fun u hu=>?_,fun u hu=>hp u (.tail _ hu), ?_⟩
 ·rw[h3]at hu;have:=IK hu;omega
 ·have:=FX n op t;rw[h3];omega
def Jf.suf {p q:List au}(hp:Jf p)(h:q<:+p):Jf q:=fun t ht=>hp t (h.subset ht)
def Ae (s:au):Rec×Int×Int:=
 if 4096<s.length then(Ke,3,0)
 else
  let ls:=(ar s 10).take ((ar s 10).length-1)
  if(RE ls).isSome=false\/(Ib ls).2≠[]\/(ar s 10)[(ar s 10).length-1]! ≠[]then(Ke,2,((ls.length-(Ib ls).2.length:Nat):Int)+1)
  else if(ct (Ib ls).1).1≠0 then(Ke,(ct (Ib ls).1).1,0)
  else((Ib ls).1,0,0)
def Aj:aC:=⟨3,8,[⟨3,none⟩],bM,(sq (rg [gb 9 s0,gm bp] [(5,0),(3,1)]) (sq (.block 0 (sq (r1 [gm s1,gx 208 [l0] bM,jx l1,gm l2] 4 3) (.cond s4 (sq (r1 [gm tg] 3 0) .ret) (sq (r1 [gm s1,gf 0 s5,gd l1,aL l0 l2,gm l3] 6 4) (.cond s6 (sq (r1 [gm BJ] 3 0) .ret) (sq (r1 [gm s2,gx 444 [l0] bM,jx l1,gm l2] 7 3) (.cond s7 (sq (r1 [gm uy] 3 0) .ret) .skip))))))) (sq (r1 [gm bp] 3 0) .ret)))⟩
def w211 {Y:Ctx}(hm:(Y.at 0).bd)(h208:D0 Y)(h444:Ox Y)(r:Rec)(name:au)(nT:au)  (hp0:nT.length<=1048576):dd Y Aj (.int .i64 (fe r name nT)) [Rec.D r,.str name,.str nT]:=by
 show bH _ _ _ [⟨_,_⟩,⟨_,_⟩,⟨_,_⟩,_,_,_,_,_] _;refine ak ?_;refine aF ?_;refine aq (hc:=h208 _) ?_;refine aB ?_;refine eP (fun hc0=>?_) fun hc0=>?_
 ·refine aI ?_;refine cL ?_;rw[fe,av hc0]
 refine aU ?_;refine eP (fun hc1=>?_) fun hc1=>?_
 ·refine aI ?_;refine cL ?_;rw[fe,ai (by simp[hc0]),av hc1]
 refine aA ?_;refine aq (hc:=h444 nT hp0) ?_;refine aB ?_;refine eP (fun hc2=>?_) fun hc2=>?_
 ·refine aI ?_;refine cL ?_;rw[fe,ai (by simp[hc0]),ai hc1,av hc2]
 refine aF ?_;refine cL ?_;rw[fe,ai (by simp[hc0]),ai hc1,ai (by simp[hc2])]
def Lp (Y:Ctx):Prop:=∀(r:Rec)(name:au)(nT:au),(nT.length<=1048576)->Y.pre 211 [Rec.D r,.str name,.str nT]/\Y.val 211 [Rec.D r,.str name,.str nT]=.int .i64 (fe r name nT)
def Ak:aC:=⟨3,16,[⟨3,none⟩],bM,(sq (rg [gb 9 s0,gb 4 s1,gm bp] [(4,0),(5,1),(3,2)]) (sq (sq (r1 [gk 9 true s4,gf 0 s5,gd l1,gf 1 s5,gd l3,gx 211 [l0,l2,l4] [[.a,.a,.a,.a,.a,.a,.sl 3 [.sl 4 [.a,.a,.sl 1 [.a],.a],.a,.a],.sl 3 [.a,.a,.a],.sl 2 [.a,.sl 1 [.a]]],[.a],[.a]],gm l5] 6 6) (sq (r1 [gm s6,cg l0 bp] 7 1) (.cond s7 (sq (r1 [gm s6,gm l0] 3 1) .ret) .skip))) (sq (sq (r1 [gf 2 s5,gd l0,gl l1,cH l2 uy,gm l3,hZ 4 2 s5,iT 4 l5,cl 4 (.len l6),cl 4 (dE l7 bp),eC 4 l8,gmt 9 s2,ca 9 (.un .not l10),zC 4 l9 im,eK l4 js] 8 13) (.cond s8 (sq (r1 [gm (i6 11)] 3 0) .ret) .skip)) (sq (sq (rg [gf 2 s5,gd l0,gl l1,gm bp] [(12,1),(10,2),(9,3)]) (.block 0 (.loop (sq (r1 [aP s9 iP] 11 0) (sq (eN kp 0) (sq (.block 1 (sq (rg [gm s9,ga 1 mS s9,gd l1,gm l0,gm l2] [(14,3),(13,4)]) (sq (r1 [gm qp,gx 349 [l0] bM,jx l1,gm l2,eC 3 tq,cl 3 (dE l4 bp),eC 3 l5,lr 6 2 s5,ke 6 l7,gmt 6 tq,ca 6 (ju l9 cq),ca 6 (.ia 1 l8 l10),ke 6 im,gmt 6 qp,ca 6 (qG js ki),zC 3 l6 kW,eK l3 me] 15 16) (.cond wu (sq (r1 [gm (i6 11)] 3 0) .ret) .skip)))) (r1 [ax s9 cq,gm l0] 9 1))))))) (sq (r1 [gm bp] 3 0) .ret)))))⟩
def w443 {Y:Ctx}(hm:(Y.at 0).bd)(h211:Lp Y)(h349:Bg Y)(r:Rec)(w:cQ)(al:Bool)  (hp0:w.sm):dd Y Ak (.int .i64 (ib r w al)) [Rec.D r,cQ.D w,.bool al]:=by
 show bH _ _ _ [⟨_,_⟩,⟨_,_⟩,⟨_,_⟩,_,_,_,_,_,_,_,_,_,_,_,_,_] _;refine ak ?_;refine gy ?_;refine aq (hc:=h211 r w.name w.range hp0.1.2) ?_;refine aU ?_;refine cw (fun hc0=>?_) fun hc0=>?_
 ·refine aF ?_;refine cL ?_;rw[ib,av hc0]
 refine aF ?_;intro u0;refine aE ?_;refine kd ?_;refine aU ?_;refine aw (fun hc1=>?_) (fun hc1=>?_)
 ·have hq:(decide (w.feats.length<=6)&&(al ||decide (w.feats.length=0)))=false:=by rw[<-bB,<-IH];exact hc1
  refine aI ?_;refine cL ?_;rw[ib,ai (by simp[hc0]),av (by unfold jo;rw[hq];rfl)]
 have hq:(decide (w.feats.length<=6)&&(al ||decide (w.feats.length=0)))=true:=by rw[<-bY,<-IH];exact hc1
 refine aF ?_;intro u1;refine aA ?_;refine bh hm (ι:=Nat) (fun i=>[.un,.un,⟨true,.bool al⟩,.un,⟨true,.ptr 0 9 0 0⟩,⟨true,.ptr 1 4 0 0⟩,.un,.un,.un,⟨true,.int .i64 (i:Nat)⟩,⟨true,.int .i64 (w.feats.length:Nat)⟩,.un,⟨true,.sl 1 (w.feats.map D.str)⟩,.un,.un,.un]) (fun i=>[(0,.buf 9 [Rec.D r]),(1,.buf 4 [cQ.D w])]) 30 (fun i=>i<=w.feats.length/\jo w.feats al=cr (Kv w.feats) i w.feats.length) (fun i=>w.feats.length-i) 0 ⟨ae,by unfold jo;rw[hq,eH]⟩ (dn [(0,0),(1,1)]) ?_;rintro i ⟨hi,hr⟩;refine aB ?_;refine cw (fun hc2=>?_) fun hc2=>?_
 ·refine gy ?_;refine aq (hc:=h349 _) ?_;refine cU ?_;refine cC (i-1) ?_;refine aF ?_;refine wp_cond (fun hc3=>?_) (fun hc3=>?_)
  ·have hz:Kv w.feats i=false:=by rw[<-bB,<-Sc];exact hc3
   refine aF ?_;refine cL ?_;rw[ib,ai (by simp[hc0]),av (by rw[hr,aK ae,hz];rfl)]
  have hz:Kv w.feats i=true:=by rw[<-bY,<-Sc];exact hc3
  refine aU ?_;exact⟨i+1,⟨ae,by rw[hr,aK ae,hz];rfl⟩,ae,(dn [(0,0),(1,1)])⟩
 refine aF ?_;refine cL ?_;rw[ib,ai (by simp[hc0]),ai (by rw[hr,bV ae];simp)]
def Ov (Y:Ctx):Prop:=∀(r:Rec)(w:cQ)(al:Bool),(w.sm)->Y.pre 443 [Rec.D r,cQ.D w,.bool al]/\Y.val 443 [Rec.D r,cQ.D w,.bool al]=.int .i64 (ib r w al)
def Ah:aC:=⟨2,16,[⟨2,none⟩],bM,(sq (rg [gb 9 s0,gb 3 s1,gm bp] [(10,0),(3,1),(2,2)]) (sq (sq (r1 [gf 0 s3,gd l0,gl l1,aL l2 bp] 4 3) (.cond s4 (sq (r1 [gm Bc] 2 0) .ret) .skip)) (sq (sq (r1 [gf 0 s3,gd l0,gl l1,cH l2 ml] 5 3) (.cond s5 (sq (r1 [gm ml] 2 0) .ret) .skip)) (sq (sq (rg [gf 0 s3,gd l0,gl l1,gm bp] [(9,1),(7,2),(6,3)]) (.block 0 (.loop (sq (r1 [aP s6 s7] 8 0) (sq (eN s8 0) (sq (.block 1 (sq (r1 [ga 4 s9 s6,gk 4 true l0,gb 4 (.c (.agg [.str [],.str [],.aV,.bool false])),gt 4 l2 l1] 11 2) (sq (r1 [gk 9 true iP,gk 4 true kp,gf 0 s3,gd l2,gl l3,aL l4 cq,gx 443 [l0,l1,l5] [[.a,.a,.a,.a,.a,.a,.sl 3 [.sl 4 [.a,.a,.sl 1 [.a],.a],.a,.a],.sl 3 [.a,.a,.a],.sl 2 [.a,.sl 1 [.a]]],[.a,.a,.sl 1 [.a],.a],[.a]],gm l6] 12 7) (sq (r1 [gm mS,cg l0 bp] 13 1) (.cond qp (sq (r1 [gm mS,gm l0] 2 1) .ret) .skip))))) (r1 [ax s6 cq,gm l0] 6 1))))))) (sq (sq (r1 [gf 1 s3,gd l0,gx 212 [l1] bM,jx l2] 14 3) (.cond tq (sq (r1 [gm Hg] 2 0) .ret) .skip)) (sq (sq (r1 [gf 2 s3,gd l0,cg l1 cse,gm l2,lr 3 2 s3,ke 3 l4,ca 3 (.call 349 [l5] bM),ca 3 (.un .not l6),ew l3 l7] 15 8) (.cond wu (sq (r1 [gm (i6 14)] 2 0) .ret) .skip)) (sq (r1 [gm bp] 2 0) .ret)))))))⟩
def w210 {Y:Ctx}(hm:(Y.at 0).bd)(h212:Lq Y)(h349:Bg Y)(h443:Ov Y)(r:Rec)(n:cB)  (hp0:n.sm):dd Y Ah (.int .i64 (gh r n)) [Rec.D r,cB.D n]:=by
 show bH _ _ _ [⟨_,_⟩,⟨_,_⟩,_,_,_,_,_,_,_,_,_,_,_,_,_,_] _;refine ak ?_;refine cU ?_;intro u0;refine aA ?_;refine cw (fun hc0=>?_) fun hc0=>?_
 ·refine aI ?_;refine cL ?_;rw[gh,av ae]
 refine aF ?_;intro u1;refine aA ?_;refine cw (fun hc1=>?_) fun hc1=>?_
 ·refine aI ?_;refine cL ?_;rw[gh,ai ae,av ae]
 refine aF ?_;intro u2;refine aA ?_;refine bh hm (ι:=Nat) (fun i=>[.un,.un,.un,⟨true,.ptr 1 3 0 0⟩,.un,.un,⟨true,.int .i64 (i:Nat)⟩,⟨true,.int .i64 (n.any.length:Nat)⟩,.un,⟨true,.sl 4 (n.any.map cQ.D)⟩,⟨true,.ptr 0 9 0 0⟩,.un,.un,.un,.un,.un]) (fun i=>[(0,.buf 9 [Rec.D r]),(1,.buf 3 [cB.D n])]) 15 (fun i=>i<=n.any.length/\lV r n.any=eA (fun i=>ib r n.any[i]! (decide ((n.any.length:Int)=1))) i n.any.length) (fun i=>n.any.length-i) 0 ⟨ae,rfl⟩ (dn [(0,0),(1,1)]) ?_;rintro i ⟨hi,hr⟩;refine aB ?_;refine cw (fun hc2=>?_) fun hc2=>?_
 ·refine aE ?_;first|refine cy (v:=(cQ.D _)) ?_|refine eO (v:=(cQ.D _)) ?_
  refine aS ?_;refine bL (cQ.D n.any[i]!) (he:=bN) ?_;refine aU ?_;intro u3;refine aS ?_;refine aq (hc:=h443 r n.any[i]! _ (hp0.1 _ (bS ae))) ?_;refine aF ?_;refine eP (fun hc3=>?_) fun hc3=>?_
  ·refine aU ?_;refine cL ?_;have hw:lV r n.any=ib r n.any[i]! (decide ((n.any.length:Int)=1)):=by rw[hr,jF ae hc3]
   rw[gh,ai ae,ai ae,av (by rw[hw];exact hc3),hw]
  refine aU ?_;exact⟨i+1,⟨ae,by rw[hr,mB ae hc3]⟩,ae,(dn [(0,0),(1,1)])⟩
 refine aE ?_;have hw0:lV r n.any=0:=by rw[hr,mA ae]
 refine aA ?_;refine aq (hc:=h212 _) ?_;refine aA ?_;refine aw (fun hc4=>?_) (fun hc4=>?_)
 ·try simp only[fu]at hc4
  refine aI ?_;refine cL ?_;rw[gh,ai ae,ai ae,ai (by simp[hw0]),av hc4]
 simp only[bY]at hc4;refine cU ?_;refine aq (hc:=h349 _) ?_;refine aB ?_;refine aw (fun hc5=>?_) (fun hc5=>?_)
 ·try simp only[fu]at hc5
  refine aI ?_;refine cL ?_;rw[gh,ai ae,ai ae,ai (by simp[hw0]),ai (by simp[hc4]),av hc5]
 simp only[dr,bY,aR]at hc5;refine aI ?_;refine cL ?_;rw[gh,ai ae,ai ae,ai (by simp[hw0]),ai (by simp[hc4]),ai (by rintro⟨g1,g2⟩;rcases hc5 with h|h;exact g1 h;rw[g2]at h;cases h)]
def N7 (Y:Ctx):Prop:=∀(r:Rec)(n:cB),(n.sm)->Y.pre 210 [Rec.D r,cB.D n]/\Y.val 210 [Rec.D r,cB.D n]=.int .i64 (gh r n)
def Ag:aC:=⟨2,15,[⟨2,none⟩],bM,(sq (rg [gb 9 s0,gm bp] [(3,0),(2,1)]) (sq (rg [gm s1,gx 448 [l0] bM,gm l1,ge l2 0,ge l2 1,ge l2 2,gm l3,gm l4,gm l5] [(8,6),(10,7)]) (sq (sq (rg [gf 6 s3,gd l0,gl l1,gm bp] [(7,1),(5,2),(4,3)]) (.block 0 (.loop (sq (r1 [aP s4 s5] 6 0) (sq (eN s6 0) (sq (.block 1 (sq (r1 [ga 3 s7 s4,gk 3 true l0,gb 3 (.c (.agg [.aV,.str [],.str []])),gt 3 l2 l1] 9 2) (sq (r1 [gm s8,aL l0 nM,gm l1,lr 2 2 s9,ke 2 l3,gmt 2 iP,ca 2 (cM l4 l5),ew l2 l6,gm l7,eC 8 s8,cl 8 (cM l9 ml),eC 8 l10,lr 11 0 s9,ke 11 js,ca 11 (.len ki),ca 11 (cM kW cq),zC 8 im me,eC 8 ng,lr 17 0 s9,ke 17 qB,ca 17 (.ia 4 rA bp),lr 17 0 vT,ke 17 wW,gmt 17 iP,ca 17 (cM yo Bd),zC 8 pJ BM,eK l8 EL] 11 26) (.cond kp (sq (r1 [gm bp] 2 0) .ret) .skip)))) (r1 [ax s4 cq,gm l0] 4 1))))))) (sq (sq (r1 [gm s8] 12 0) (.block 2 (sq (r1 [aL mS nM,gm l0] 13 1) (.cond qp (sq (r1 [gm (i6 14)] 2 0) .ret) (sq (r1 [aL mS ml,gm l0] 14 1) (.cond tq (sq (r1 [gm (i6 16)] 2 0) .ret) .skip)))))) (sq (r1 [gm bp] 2 0) .ret)))))⟩
def w214 {Y:Ctx}(hm:(Y.at 0).bd)(h448:Lx Y)(r:Rec)(s:au)  (hp0:s.length<=1048576):dd Y Ag (.int .i64 (jZ r s)) [Rec.D r,.str s]:=by
 show bH _ _ _ [⟨_,_⟩,⟨_,_⟩,_,_,_,_,_,_,_,_,_,_,_,_,_] _;refine ak ?_;refine aI ?_;refine aq (hc:=h448 s hp0) ?_;refine lJ ?_;intro u0;refine aA ?_;refine bh hm (ι:=Nat) (fun i=>[.un,.un,.un,⟨true,.ptr 0 9 0 0⟩,⟨true,.int .i64 (i:Nat)⟩,⟨true,.int .i64 (r.needs.length:Nat)⟩,.un,⟨true,.sl 3 (r.needs.map cB.D)⟩,⟨true,.int .i64 (cF s).1⟩,.un,⟨true,.str (cF s).2.1⟩,.un,.un,.un,.un]) (fun i=>[(0,.buf 9 [Rec.D r])]) 15 (fun i=>i<=r.needs.length/\jZ r s=(if(r.needs.drop i).any (IU (cF s).1 (cF s).2.1)=true then 0 else MJ (cF s).1)) (fun i=>r.needs.length-i) 0 ⟨ae,Hi r s⟩ (dn [(0,0)]) ?_;rintro i ⟨hi,hr⟩;refine aB ?_;refine cw (fun hc0=>?_) fun hc0=>?_
 ·refine aE ?_;first|refine cy (v:=(cB.D _)) ?_|refine eO (v:=(cB.D _)) ?_
  refine aS ?_;refine bL (cB.D r.needs[i]!) (he:=bN) ?_;refine vQ ?_;refine kd ?_;refine aI ?_;refine cC 0 (hb:=fun h=>by simp only[eH,beq_iff_eq,aZ,aR]at h;omega) ?_;refine aS ?_;refine cy (q:=cQ.D) (xs:=r.needs[i]!.any) (i:=0) (hi:=fun h=>by simp only[eH,beq_iff_eq,aZ,aR]at h;omega) (v:=(.str r.needs[i]!.any[0]!.name)) ?_;refine aI ?_;refine wp_cond (fun hc1=>?_) (fun hc1=>?_)
  ·have hz:IU (cF s).1 (cF s).2.1 r.needs[i]! =true:=hc1;refine aF ?_;refine cL ?_;rw[hr,xQ ae hz];rfl
  have hz:IU (cF s).1 (cF s).2.1 r.needs[i]! =false:=hc1;refine aU ?_;exact⟨i+1,⟨ae,by rw[hr,Bm ae hz]⟩,ae,(dn [(0,0)])⟩
 refine aE ?_;have he:jZ r s=MJ (cF s).1:=by rw[hr,xP ae];rfl
 refine aU ?_;refine eP (fun hc2=>?_) fun hc2=>?_
 ·refine aI ?_;refine cL ?_;rw[he,MJ,av hc2]
 refine aE ?_;refine eP (fun hc3=>?_) fun hc3=>?_
 ·refine aI ?_;refine cL ?_;rw[he,MJ,ai hc2,av hc3]
 refine aF ?_;refine cL ?_;rw[he,MJ,ai hc2,ai hc3]
def N9 (Y:Ctx):Prop:=∀(r:Rec)(s:au),(s.length<=1048576)->Y.pre 214 [Rec.D r,.str s]/\Y.val 214 [Rec.D r,.str s]=.int .i64 (jZ r s)
def yH:aC:=⟨1,39,[⟨1,none⟩,⟨2,none⟩],fV,(sq (rg [gb 9 s0,gm bp,gm bp] [(3,0),(1,1),(2,2)]) (sq (.block 0 (sq (r1 [gf 0 s3,gd l0,gx 208 [l1] bM,jx l2,gm l3] 4 4) (.cond s4 (sq (rg [gm tg,gm bp] [(1,0),(2,1)]) .ret) (sq (r1 [gf 1 s3,gk 5 true l0,gx 209 [l1] wg,jx l2,gm l3] 5 4) (.cond s5 (sq (rg [gm NJ,gm bp] [(1,0),(2,1)]) .ret) (sq (r1 [gf 6 s3,gd l0,gl l1,cH l2 BJ,gm l3,hZ 4 7 s3,iT 4 l5,cl 4 (.len l6),cl 4 (dE l7 BJ),eK l4 l8,gm l9] 6 10) (.cond s6 (sq (rg [gm ml,gm bp] [(1,0),(2,1)]) .ret) .skip))))))) (sq (sq (rg [gf 6 s3,gd l0,gl l1,gm bp] [(10,1),(8,2),(7,3)]) (.block 1 (.loop (sq (r1 [aP s7 s8] 9 0) (sq (eN s9 1) (sq (.block 2 (sq (rg [gm s7,ga 3 iP s7,gk 3 true l1,gb 3 (.c (.agg [.aV,.str [],.str []])),gm l0,gt 3 l3 l2] [(11,3),(14,4)]) (sq (r1 [gk 9 true s3,gk 3 true kp,gx 210 [l0,l1] [[.a,.a,.a,.a,.a,.a,.sl 3 [.sl 4 [.a,.a,.sl 1 [.a],.a],.a,.a],.sl 3 [.a,.a,.a],.sl 2 [.a,.sl 1 [.a]]],[.sl 4 [.a,.a,.sl 1 [.a],.a],.a,.a]],gm l2] 12 3) (sq (r1 [gm mS,cg l0 bp] 13 1) (.cond qp (sq (rg [gm mS,gm tq,gm l0,gm l1] [(1,2),(2,3)]) .ret) .skip))))) (r1 [ax s7 cq,gm l0] 7 1))))))) (sq (sq (rg [gf 7 s3,gd l0,gl l1,gm bp] [(18,1),(16,2),(15,3)]) (.block 3 (.loop (sq (r1 [aP wu Cw] 17 0) (sq (eN Cx 3) (sq (.block 4 (sq (rg [gm wu,ga 3 FB wu,gk 3 true l1,gb 3 (.c (.agg [.str [],.str [],.str []])),gm l0,gt 3 l3 l2] [(19,3),(22,4)]) (sq (sq (r1 [gk 9 true s3,gf 0 Nt,gd l1,gf 1 Nt,gd l3,gx 211 [l0,l2,l4] [[.a,.a,.a,.a,.a,.a,.sl 3 [.sl 4 [.a,.a,.sl 1 [.a],.a],.a,.a],.sl 3 [.a,.a,.a],.sl 2 [.a,.sl 1 [.a]]],[.a],[.a]],gm l5] 20 6) (sq (r1 [gm DM,cg l0 bp] 21 1) (.cond NO (sq (rg [gm DM,gm NP,gm l0,gm l1] [(1,2),(2,3)]) .ret) .skip))) (sq (r1 [gf 2 Nt,gd l0,gx 212 [l1] bM,jx l2] 23 3) (.cond s23 (sq (rg [gm NP,gm Hg,gm l0] [(1,1),(2,2)]) .ret) .skip))))) (r1 [ax wu cq,gm l0] 15 1))))))) (sq (sq (r1 [gf 8 s3,gd l0,gx 213 [l1] [[.sl 2 [.a,.sl 1 [.a]]]],jx l2] 24 3) (.cond Nu (sq (rg [gm (i6 11),gm bp] [(1,0),(2,1)]) .ret) .skip)) (sq (sq (rg [gf 8 s3,gd l0,gl l1,gm bp] [(28,1),(26,2),(25,3)]) (.block 5 (.loop (sq (r1 [aP NQ RF] 27 0) (sq (eN s27 5) (sq (.block 6 (sq (rg [gm NQ,ga 2 s28 NQ,gk 2 true l1,gb 2 (.c (.agg [.str [],.aV])),gm l0,gt 2 l3 l2] [(29,3),(37,4)]) (sq (rg [gf 1 s29,gd l0,gl l1,gm bp] [(33,1),(31,2),(30,3)]) (.block 7 (.loop (sq (r1 [aP Lg s31] 32 0) (sq (eN s32 7) (sq (.block 8 (sq (r1 [ga 1 s33 Lg,gd l0,gm l1] 34 2) (sq (r1 [gk 9 true s3,gm s34,gx 214 [l0,l1] [[.a,.a,.a,.a,.a,.a,.sl 3 [.sl 4 [.a,.a,.sl 1 [.a],.a],.a,.a],.sl 3 [.a,.a,.a],.sl 2 [.a,.sl 1 [.a]]],[.a]],gm l2] 35 3) (sq (r1 [gm s35,cg l0 bp] 36 1) (.cond s36 (sq (rg [gm s35,gm s37,gm l0,gm l1] [(1,2),(2,3)]) .ret) .skip))))) (r1 [ax Lg cq,gm l0] 30 1))))))))) (r1 [ax NQ cq,gm l0] 25 1))))))) (sq (sq (r1 [gk 9 true s3,gx 215 [l0] [[.a,.a,.a,.a,.a,.a,.sl 3 [.sl 4 [.a,.a,.sl 1 [.a],.a],.a,.a],.sl 3 [.a,.a,.a],.sl 2 [.a,.sl 1 [.a]]]],mE l1,cH l2 (i6 4096)] 38 3) (.cond s38 (sq (rg [gm ml,gm bp] [(1,0),(2,1)]) .ret) .skip)) (sq (rg [gm bp,gm bp] [(1,0),(2,1)]) .ret))))))))⟩
def w70 {Y:Ctx}(hm:(Y.at 0).bd)(h208:D0 Y)(h209:D1 Y)(h210:N7 Y)(h211:Lp Y)(h212:Lq Y)(h213:N8 Y)(h214:N9 Y)(h215:Lr Y)(r:Rec)  (hp0:dh r):dd Y yH (.tup [.int .i64 (ct r).1,.int .i64 (ct r).2]) [Rec.D r]:=by
 show bH _ _ _ (⟨true,Rec.D r⟩::.un::.un::.un::.un::.un::.un::.un::.un::.un::.un::.un::.un::.un::.un::.un::.un::.un::.un::.un::.un::.un::.un::.un::.un::.un::.un::.un::.un::.un::.un::.un::.un::.un::.un::.un::.un::.un::.un::[]) ⟨0,[]⟩;refine ak ?_;refine bP ?_;refine aq (hc:=h208 _) ?_;refine aB ?_;refine wp_cond (fun hc0=>?_) (fun hc0=>?_)
 ·try simp only[fu]at hc0
  refine aF ?_;refine bO (aN (aj (D.int .i64) ?_) (aj (D.int .i64) ?_));all_goals (have hq:ct r=(4,0):=(by rw[ct,av hc0]);rw[hq];first|done|rfl)
 simp only[bY]at hc0;refine aA ?_;refine bR (v:=bX.D r.v) ?_;refine aq (hc:=h209 r.v hp0.1.2) ?_;refine aB ?_;refine wp_cond (fun hc1=>?_) (fun hc1=>?_)
 ·try simp only[fu]at hc1
  refine aF ?_;refine bO (aN (aj (D.int .i64) ?_) (aj (D.int .i64) ?_));all_goals (have hq:ct r=(5,0):=(by rw[ct,ai (by simp[hc0]),av hc1]);rw[hq];first|done|rfl)
 simp only[bY]at hc1;refine aE ?_;intro u0;refine aE ?_;refine kd ?_;refine aE ?_;refine eP (fun hc2=>?_) fun hc2=>?_
 ·refine aF ?_;refine bO (aN (aj (D.int .i64) ?_) (aj (D.int .i64) ?_));all_goals (have hq:ct r=(3,0):=(by rw[ct,ai (by simp[hc0]),ai (by simp[hc1]),av ae]);rw[hq];first|done|rfl)
 refine aU ?_;intro u1;refine aA ?_;refine bh hm (ι:=Nat) (fun i=>(.un::.un::.un::⟨true,.ptr 0 9 0 0⟩::.un::.un::.un::⟨true,.int .i64 (i:Nat)⟩::⟨true,.int .i64 (r.needs.length:Nat)⟩::.un::⟨true,.sl 3 (r.needs.map cB.D)⟩::.un::.un::.un::.un::.un::.un::.un::.un::.un::.un::.un::.un::.un::.un::.un::.un::.un::.un::.un::.un::.un::.un::.un::.un::.un::.un::.un::.un::[])) (fun i=>[(0,.buf 9 [Rec.D r])]) 28 (fun i=>i<=r.needs.length/\lC r=gM (fun i=>gh r r.needs[i]!) i r.needs.length) (fun i=>r.needs.length-i) 0 ⟨ae,rfl⟩ (dn [(0,0)]) ?_;rintro i ⟨hi,hr⟩;refine aB ?_;refine cw (fun hc3=>?_) fun hc3=>?_
 ·refine aI ?_;first|refine cy (v:=(cB.D _)) ?_|refine eO (v:=(cB.D _)) ?_
  refine aA ?_;refine bL (cB.D r.needs[i]!) (he:=bN) ?_;refine aE ?_;refine aq (hc:=h210 r r.needs[i]! (hp0.2.1 _ (bS ae))) ?_;refine aF ?_;refine eP (fun hc4=>?_) fun hc4=>?_
  ·refine cU ?_;refine bO (aN (aj (D.int .i64) ?_) (aj (D.int .i64) ?_));all_goals
    have hq:ct r=(gh r r.needs[i]!,((i:Nat):Int)):=by
     exact my hc0 hc1 ae ae (z7 (by rw[hr,iE ae hc4]) hc4) hc4
    rw[hq];first|done|rfl
  refine aU ?_;exact⟨i+1,⟨ae,by rw[hr,kT ae hc4]⟩,ae,(dn [(0,0)])⟩
 refine aE ?_;have hn0:lC r=(0,0):=by rw[hr,kS ae]
 refine aB ?_;intro u2;refine aA ?_;refine bh hm (ι:=Nat) (fun i=>(.un::.un::.un::⟨true,.ptr 0 9 0 0⟩::.un::.un::.un::.un::.un::.un::.un::.un::.un::.un::.un::⟨true,.int .i64 (i:Nat)⟩::⟨true,.int .i64 (r.bars.length:Nat)⟩::.un::⟨true,.sl 3 (r.bars.map kJ.D)⟩::.un::.un::.un::.un::.un::.un::.un::.un::.un::.un::.un::.un::.un::.un::.un::.un::.un::.un::.un::.un::[])) (fun i=>[(0,.buf 9 [Rec.D r])]) 33 (fun i=>i<=r.bars.length/\qI r=gM (fun i=>mU r r.bars[i]!) i r.bars.length) (fun i=>r.bars.length-i) 0 ⟨ae,rfl⟩ (dn [(0,0)]) ?_;rintro i ⟨hi,hr⟩;refine aB ?_;refine cw (fun hc5=>?_) fun hc5=>?_
 ·refine aI ?_;first|refine cy (v:=(kJ.D _)) ?_|refine eO (v:=(kJ.D _)) ?_
  refine aA ?_;refine bL (kJ.D r.bars[i]!) (he:=bN) ?_;refine bP ?_;refine aq (hc:=h211 r r.bars[i]!.name r.bars[i]!.range (hp0.2.2.1 _ (bS ae)).2.1) ?_;refine aU ?_;refine aw (fun hc6=>?_) (fun hc6=>?_)
  ·simp only[bB,bx]at hc6;have hbe:mU r r.bars[i]! =fe r r.bars[i]!.name r.bars[i]!.range:=by rw[mU,av hc6]
   refine ic ?_;refine bO (aN (aj (D.int .i64) ?_) (aj (D.int .i64) ?_));all_goals
    have hq:ct r=(fe r r.bars[i]!.name r.bars[i]!.range,((i:Nat):Int)):=by
     exact my hc0 hc1 ae ae (uS hn0 (by rw[hr,iE ae (by rw[hbe];exact hc6),hbe]) hc6) hc6
    rw[hq];first|done|rfl
  try simp only[fu]at hc6
  refine aE ?_;refine aq (hc:=h212 _) ?_;refine aA ?_;refine wp_cond (fun hc7=>?_) (fun hc7=>?_)
  ·simp only[bB]at hc7;have hbe:mU r r.bars[i]! =7:=by rw[mU,ai (fun h=>h hc6),av hc7]
   refine bP ?_;refine bO (aN (aj (D.int .i64) ?_) (aj (D.int .i64) ?_));all_goals
    have hq:ct r=((7:Int),((i:Nat):Int)):=by
     exact my hc0 hc1 ae ae (uS hn0 (by rw[hr,iE ae (by rw[hbe];decide),hbe]) (show(7:Int)≠0 by decide)) (show(7:Int)≠0 by decide)
    rw[hq];first|done|rfl
  simp only[bY]at hc7;have hbz:mU r r.bars[i]! =0:=by rw[mU,ai (fun h=>h hc6),ai (by rw[hc7];simp)]
  refine aU ?_;exact⟨i+1,⟨ae,by rw[hr,kT ae hbz]⟩,ae,(dn [(0,0)])⟩
 refine aE ?_;have hb0:qI r=(0,0):=by rw[hr,kS ae]
 refine aA ?_;refine aq (hc:=h213 r.feats hp0.2.2.2) ?_;refine aA ?_;refine aw (fun hc8=>?_) (fun hc8=>?_)
 ·try simp only[fu]at hc8
  refine aF ?_;refine bO (aN (aj (D.int .i64) ?_) (aj (D.int .i64) ?_));all_goals
   have hq:ct r=(11,0):=by
    exact my hc0 hc1 ae ae (z8 hn0 hb0 hc8) aM
   rw[hq];first|done|rfl
 simp only[bY]at hc8;refine aF ?_;intro u3;refine aA ?_;refine bh hm (ι:=Nat) (fun i=>(.un::.un::.un::⟨true,.ptr 0 9 0 0⟩::.un::.un::.un::.un::.un::.un::.un::.un::.un::.un::.un::.un::.un::.un::.un::.un::.un::.un::.un::.un::.un::⟨true,.int .i64 (i:Nat)⟩::⟨true,.int .i64 (r.feats.length:Nat)⟩::.un::⟨true,.sl 2 (r.feats.map bW.D)⟩::.un::.un::.un::.un::.un::.un::.un::.un::.un::.un::[])) (fun i=>[(0,.buf 9 [Rec.D r])]) 42 (fun i=>i<=r.feats.length/\ug r=gM (fun i=>jb r r.feats[i]!.of) i r.feats.length) (fun i=>r.feats.length-i) 0 ⟨ae,rfl⟩ (dn [(0,0)]) ?_;rintro i ⟨hi,hr⟩;refine aB ?_;refine cw (fun hc9=>?_) fun hc9=>?_
 ·refine aI ?_;first|refine cy (v:=(bW.D _)) ?_|refine eO (v:=(bW.D _)) ?_
  refine aA ?_;refine bL (bW.D r.feats[i]!) (he:=bN) ?_;refine aI ?_;intro u4;refine aA ?_;refine lW hm (ι:=Nat) (fun j=>(.un::.un::.un::⟨true,.ptr 0 9 0 0⟩::.un::.un::.un::.un::.un::.un::.un::.un::.un::.un::.un::.un::.un::.un::.un::.un::.un::.un::.un::.un::.un::⟨true,.int .i64 (i:Nat)⟩::⟨true,.int .i64 (r.feats.length:Nat)⟩::.un::⟨true,.sl 2 (r.feats.map bW.D)⟩::.un::⟨true,.int .i64 (j:Nat)⟩::⟨true,.int .i64 (r.feats[i]!.of.length:Nat)⟩::.un::⟨true,.sl 1 (r.feats[i]!.of.map D.str)⟩::.un::.un::.un::⟨true,.int .i64 (i:Nat)⟩::.un::[])) (fun j=>[(0,.buf 9 [Rec.D r])]) 53 (fun j=>j<=r.feats[i]!.of.length/\jb r r.feats[i]!.of=eA (fun j=>jZ r r.feats[i]!.of[j]!) j r.feats[i]!.of.length) (fun j=>r.feats[i]!.of.length-j) 0 ⟨ae,rfl⟩ (dn [(0,0)]) ?_;rintro j ⟨hj,hjr⟩;refine aB ?_;refine cw (fun hc10=>?_) fun hc10=>?_
  ·refine ic ?_;refine aq (hc:=h214 r r.feats[i]!.of[j]! ((hp0.2.2.2 _ (bS ae)).2.2 _ (bS ae))) ?_;refine aF ?_;refine eP (fun hc11=>?_) fun hc11=>?_
   ·refine gy ?_;refine bO (aN (aj (D.int .i64) ?_) (aj (D.int .i64) ?_));all_goals
     have hq:ct r=(jZ r r.feats[i]!.of[j]!,((i:Nat):Int)):=by
      have hie:jb r r.feats[i]!.of=jZ r r.feats[i]!.of[j]! :=by rw[hjr,jF ae hc11]
      exact my hc0 hc1 ae ae (ri hn0 hb0 hc8 (by rw[hr,iE (f:=(fun i=>jb r r.feats[i]!.of)) ae (by rw[hie];exact hc11),hie])) hc11
     rw[hq];first|done|rfl
   refine aU ?_;exact⟨j+1,⟨ae,by rw[hjr,mB ae hc11]⟩,ae,(dn [(0,0)])⟩
  refine bP ?_;exact⟨i+1,⟨ae,by rw[hr,kT (f:=(fun i=>jb r r.feats[i]!.of)) ae (by rw[hjr,mA ae])]⟩,ae,(dn [(0,0)])⟩
 refine aE ?_;have hpz:dL r=(0,0):=ri hn0 hb0 hc8 (by rw[hr,kS ae]);have hgd:pI r:=⟨⟨hc0,hc1⟩,⟨ae,ae⟩,hpz⟩;refine aS ?_;refine aq (hc:=h215 r ⟨hgd,hp0⟩) ?_;refine aS ?_;intro u5;refine aA ?_;refine cw (fun hc12=>?_) fun hc12=>?_
 ·refine aF ?_;refine bO (aN (aj (D.int .i64) ?_) (aj (D.int .i64) ?_));all_goals
   have hq:ct r=(3,0):=by
    rw[qN hc0 hc1 ae ae hpz,av ae]
   rw[hq];first|done|rfl
 refine aF ?_;refine bO (aN (aj (D.int .i64) ?_) (aj (D.int .i64) ?_));all_goals
  have hq:ct r=(0,0):=by
   rw[qN hc0 hc1 ae ae hpz,ai ae]
  rw[hq];first|done|rfl
def C70 (Y:Ctx):Prop:=∀(r:Rec),(dh r)->Y.pre 70 [Rec.D r]/\Y.val 70 [Rec.D r]=.tup [.int .i64 (ct r).1,.int .i64 (ct r).2]
end Go.Abs
section
namespace Go.Abs
def RdS.ok (x:RdS):Prop:=(x.st=0->x.r.needs=[]/\x.r.bars=[]/\x.r.feats=[])/\((x.st=2\/x.st=3)->x.r.needs≠[])/\(x.st=5->x.r.bars≠[])
end Go.Abs
namespace Go.Abs
end Go.Abs
end
namespace Go.Abs
section
def Gn (ob:za):Prop:=∀(σ:List (Nat×Nat))(l l':Nat)(w:List au)(n:Nat)(b:Bool),mh 0 σ l=some l'->sj 0 σ (ob w (.own l 5 0 n) b)=some (ob w (.own l' 5 0 n) b)
def oA:Gn fW:=fun σ l l' w n b h=>by simp only[fW,sj,qn,FA,h]
def qj (W:List au):Gn (gH W):=fun σ l l' w n b h=>by simp only[gH,sj,qn,FA,h]
def Iq:D->Nat
 | .agg [.sl _ ws,_,_]=>ws.length
 | .agg [.sl _ ws,.int _ i,_,_]=>ws.length-i.toNat
 |_=>0
def yt (c:List D->Nat)(ds:List D)(st:St):Nat:=match ds with
 | .ptr l _ _ _::acV=>(match look st.m l with
  |some (.buf _ [o])=>6*Iq o+c acV
  |_=>0)
 |_=>0
def Kh (w:List au)(X:D)(b:Bool):Iq (fW w X b)=w.length:=by simp[Iq,fW]
def Ki {W w:List au}(h:w<:+W)(X:D)(b:Bool):Iq (gH W w X b)=w.length:=by
 have:=h.length_le;simp only[Iq,gH,cI,Int.toNat_natCast];omega
def lA {c:List D->Nat}{l k nx:Nat}{acV:List D}{m:List (Nat×bK)}{w:List au}{X:D}{b:Bool}(h:look m l=some (.buf k [fW w X b])):yt c (.ptr l k 0 0::acV) ⟨nx,m⟩=6*w.length+c acV:=by
 simp only[yt,h,Kh]
def qc {c:List D->Nat}{l k nx:Nat}{acV:List D}{m:List (Nat×bK)}{W w:List au}{X:D}{b:Bool}(hw:w<:+W)(h:look m l=some (.buf k [gH W w X b])):yt c (.ptr l k 0 0::acV) ⟨nx,m⟩=6*w.length+c acV:=by
 simp only[yt,h,Ki hw]
def BX (nd:List Nd):bt (nd.map Nd.D)=true:=fQ (fun _=>rfl) _
section
variable [c7] {P:Program} {ν:List (Nat×Nat)} {cE:List Nat} {t:List (Nat×pP)} {fid n key u k:Nat} {af:aC} {ob:za} {acV:List D} {w:List au} {nd:List Nd} {b:Bool} {lp ln nx:Nat} {m:List (Nat×bK)} {K:D->St->Prop} {Pp:PO->Prop} {V:PO->D}
def HT (hob:Gn ob)(hk5:k≠5)(has:bt acV=true)(h1:look m lp=some (.buf k [ob w (.own ln 5 0 nd.length) b]))(h2:look m ln=some (.buf 5 (nd.map Nd.D))):
  lp≠ln/\(∀i,i<(D.ptr lp k 0 0::acV).length->IS 0 [(lp,0),(ln,1)] ((D.ptr lp k 0 0::acV).getD i .any) ((D.ptr 0 k 0 0::acV).getD i .any))/\gY 0 2 [(lp,0),(ln,1)]=true/\(∀l i,(l,i)∈[(lp,0),(ln,1)]->look m l≠none)/\
   ∀i bb,look [(0,.buf k [ob w (.own 1 5 0 nd.length) b]),(1,.buf 5 (nd.map Nd.D))] i=some bb->∃l b',(l,i)∈[(lp,0),(ln,1)]/\look m l=some b'/\pE 0 [(lp,0),(ln,1)] b' bb:=by
 have hne:lp≠ln:=by
  rintro rfl;rw[h1]at h2;exact hk5 (bK.buf.inj (bC h2)).1
 have hb:Nat.beq lp ln=false:=by cases h:Nat.beq lp ln with
  |false=>rfl
  |true=>exact absurd (Nat.eq_of_beq_eq_true h) hne
 have hb':Nat.beq ln lp=false:=by cases h:Nat.beq ln lp with
  |false=>rfl
  |true=>exact absurd (Nat.eq_of_beq_eq_true h).symm hne
 refine⟨hne,fun i hi=>?_, ?_,fun l i h=>?_,fun i bb h=>?_⟩
 ·match i with
  |0=>exact .inr (.inl (by simp[sj,FA,mh]))
  |i+1=>exact .inl ⟨rfl,de has i⟩
 ·simp[gY,hb,hb'];rfl
 ·rcases dy.1 h with h|h
  ·obtain⟨rfl,rfl⟩:=Prod.mk.inj h;rw[h1];simp
  ·obtain⟨rfl,rfl⟩:=Prod.mk.inj (cJ.1 h);rw[h2];simp
 ·simp only[look]at h;split at h
  ·rename_i e;subst e;obtain rfl:=bC h;exact⟨lp,_,.head _,h1,rfl,.inr (.inl (by simp only[qn,hob _ ln 1 w nd.length b (show mh 0 [(lp,0),(ln,1)] ln=some 1 by simp[mh,hb])]))⟩
  ·split at h
   ·rename_i e;subst e;obtain rfl:=bC h;exact⟨ln,_,.tail _ (.head _),h2,rfl,.inl ⟨rfl,BX nd⟩⟩
   ·cases h
def eU (hob:Gn ob)(hk5:k≠5)(has:bt acV=true)(hV:∀o,(V o).bG=true)(hmix:P.follows .mixedOrders=true)(hC:IQ P ν cE fid af)(hnp:acV.length+1=af.np)
  (h1:look m lp=some (.buf k [ob w (.own ln 5 0 nd.length) b])) (h2:look m ln=some (.buf 5 (nd.map Nd.D))) (h3:lp<nx) (h4:ln<nx)
  (hK:∀o,Pp o->K (V o) ⟨nx+1,(nx,.buf 5 (o.nd.map Nd.D))::dC (dH m ln) lp (.buf k [ob o.w (.own nx 5 0 o.nd.length) o.bad])⟩)
  (hw:bH ((under t key u).at 2) af.body (lL af (sY k ob Pp V)) (gG af (.ptr 0 k 0 0::acV)) ⟨2,[(0,.buf k [ob w (.own 1 5 0 nd.length) b]),(1,.buf 5 (nd.map Nd.D))]⟩):qE P ν cE (under t key u) fid (.ptr lp k 0 0::acV) ⟨nx,m⟩ K:=by
 obtain⟨hne,g2,g3,g4,g5⟩:=HT hob hk5 has h1 h2;refine zD (σi:=[(lp,0),(ln,1)]) (cs:=.ptr 0 k 0 0::acV) (fun q=>aH t key u q) hmix hC aT g2 (by simpa using hnp) g3 g4 g5 hw ?_;rintro d m1 ⟨o,j,hj,hP,rfl,e0,ej⟩;have hb0:Nat.beq 0 j=false:=by cases j<;>first|omega|rfl
 have hbj:Nat.beq j 0=false:=by cases j<;>first|omega|rfl
 have hbl:Nat.beq lp nx=false:=by cases h:Nat.beq lp nx with
  |false=>rfl
  |true=>have:=Nat.eq_of_beq_eq_true h;omega
 have hbl':Nat.beq nx lp=false:=by cases h:Nat.beq nx lp with
  |false=>rfl
  |true=>have:=Nat.eq_of_beq_eq_true h;omega
 refine⟨[(0,lp),(j,nx)],j+1,_,V o,⟨g3, ?_,Nat.le_succ _,g4, ?_,g5, ?_⟩,.inl ⟨rfl,hV o⟩,hK o hP⟩
 ·simp[gY,hbj,hb0,hbl,hbl'];omega
 ·intro i l h;rcases dy.1 h with h|h
  ·obtain⟨rfl,rfl⟩:=Prod.mk.inj h;exact .inl (.head _)
  ·obtain⟨rfl,rfl⟩:=Prod.mk.inj (cJ.1 h);exact .inr (aY _)
 ·intro l bb h;simp only[look]at h;split at h
  ·rename_i e;subst e;obtain rfl:=bC h;exact .inl ⟨j,_,.tail _ (.head _),ej,rfl,.inl ⟨rfl,BX _⟩⟩
  ·rename_i hln;rw[cn]at h;split at h
   ·rename_i e;subst e;obtain rfl:=bC h;exact .inl ⟨0,_,.head _,e0,rfl,.inr (.inl (by simp only[qn,hob _ j nx o.w o.nd.length o.bad (show mh 0 [(0,l),(j,nx)] j=some nx by simp[mh,hb0])]))⟩
   ·rename_i hlp;rw[fG]at h;split at h
    ·cases h
    ·rename_i hl2;refine .inr ⟨by simp only[lu,ai (fun e=>hlp (Eq.symm e)),ai hln],fun i hi=>?_,h⟩;rcases dy.1 hi with hi|hi
     ·exact hlp (Prod.mk.inj hi).1
     ·exact hl2 (Prod.mk.inj (cJ.1 hi)).1
def se (hob:Gn ob)(hk5:k≠5)(has:bt acV=true)(hV:∀o,(V o).bG=true)(hmix:P.follows .mixedOrders=true)(hC:IQ P ν cE fid af)(hnp:acV.length+1=af.np)
  (h1:look m lp=some (.buf k [ob w (.own ln 5 0 nd.length) b])) (h2:look m ln=some (.buf 5 (nd.map Nd.D))) (h3:lp<nx) (h4:ln<nx)
  (hK:∀o,Pp o->K (V o) ⟨nx,dC m lp (.buf k [ob o.w (.own ln 5 0 nd.length) o.bad])⟩)
  (hw:bH ((under t key u).at 2) af.body (lL af (CP k ob nd Pp V)) (gG af (.ptr 0 k 0 0::acV)) ⟨2,[(0,.buf k [ob w (.own 1 5 0 nd.length) b]),(1,.buf 5 (nd.map Nd.D))]⟩):qE P ν cE (under t key u) fid (.ptr lp k 0 0::acV) ⟨nx,m⟩ K:=by
 obtain⟨hne,g2,g3,g4,g5⟩:=HT hob hk5 has h1 h2;refine zD (σi:=[(lp,0),(ln,1)]) (cs:=.ptr 0 k 0 0::acV) (fun q=>aH t key u q) hmix hC aT g2 (by simpa using hnp) g3 g4 g5 hw ?_;rintro d m1 ⟨o,hP,rfl,e0,ej⟩;have hbl:Nat.beq lp ln=false:=by cases h:Nat.beq lp ln with
  |false=>rfl
  |true=>exact absurd (Nat.eq_of_beq_eq_true h) hne
 have hbl':Nat.beq ln lp=false:=by cases h:Nat.beq ln lp with
  |false=>rfl
  |true=>exact absurd (Nat.eq_of_beq_eq_true h).symm hne
 refine⟨[(0,lp),(1,ln)],2,⟨nx,dC m lp (.buf k [ob o.w (.own ln 5 0 nd.length) o.bad])⟩,V o,⟨g3, ?_,aY _,g4, ?_,g5, ?_⟩,.inl ⟨rfl,hV o⟩,hK o hP⟩
 ·simp[gY,hbl,hbl'];exact⟨h3,rfl,h4⟩
 ·intro i l h;rcases dy.1 h with h|h
  ·obtain⟨rfl,rfl⟩:=Prod.mk.inj h;exact .inl (.head _)
  ·obtain⟨rfl,rfl⟩:=Prod.mk.inj (cJ.1 h);exact .inl (.tail _ (.head _))
 ·intro l bb h;simp only at h;rw[cn]at h;split at h
  ·rename_i e;subst e;obtain rfl:=bC h;exact .inl ⟨0,_,.head _,e0,rfl,.inr (.inl (by simp only[qn,hob _ 1 ln o.w nd.length o.bad (show mh 0 [(0,l),(1,ln)] 1=some ln from rfl)]))⟩
  ·rename_i hlp;by_cases hl2:l=ln
   ·subst hl2;rw[h2]at h;obtain rfl:=bC h;exact .inl ⟨1,_,.tail _ (.head _),ej,rfl,.inl ⟨rfl,BX _⟩⟩
   ·refine .inr ⟨by simp only[lu,ai (fun e=>hlp (Eq.symm e)),ai (fun e=>hl2 (Eq.symm e))],fun i hi=>?_,h⟩;rcases dy.1 hi with hi|hi
    ·exact hlp (Prod.mk.inj hi).1
    ·exact hl2 (Prod.mk.inj (cJ.1 hi)).1
def nX {a b:Nat}(h:a≠b):Nat.beq a b=false:=by
 cases h2:Nat.beq a b with
 |false=>rfl
 |true=>exact absurd (Nat.eq_of_beq_eq_true h2) h
def vt {m:List (Nat×bK)}{l lw:Nat}(h:l≠lw):eR (dH m lw) l=match look m l with
 |some (.bld (some l2) _ _)=>dH (dH m lw) l2
 |_=>dH m lw:=by
 haveI:c7:={gd:=fun _=>True,le:=fun _ _ _ _ _=>trivial}
 unfold eR;rw[fG,ai h];cases look m l with
 |none=>rfl
 |some b=>cases b with
  |bld o n u=>cases o<;>rfl
  |_=>rfl
def EN {ws:List au}{s:au}{l lw:Nat}(hmix:P.follows .mixedOrders=true)(hC:IQ P ν cE fid af)(hnp:2=af.np)
  (h1:pD m l s) (h2:look m lw=some (.buf 1 (ws.map D.str))) (h3:l<nx) (h4:lw<nx) (hK:K (.tup []) ⟨nx+1,nY (dH m lw) l nx (s++bQ ws)⟩)
  (hw:∀m0,pD m0 0 s->look m0 1=some (.buf 1 (ws.map D.str))->bH ((under t key u).at 3) af.body (lL af (fun d m=>d=.tup []/\look m 0=some (.bld (some 9) (s++bQ ws).length true)/\look m 9=some (.row (s++bQ ws)))) (gG af [.ptr 0 2 0 0,.own 1 1 0 ws.length]) ⟨3,m0⟩):
  qE P ν cE (under t key u) fid [.ptr l 2 0 0,.own lw 1 0 ws.length] ⟨nx,m⟩ K:=by
 have hlw:l≠lw:=by
  rintro rfl;rcases h1 with⟨u,h,_⟩|⟨l2,u,h,_⟩<;>rw[h2]at h<;>cases h
 have hnl:bt (ws.map D.str)=true:=fQ (fun _=>rfl) _;have b1:=nX hlw;have b2:=nX (Ne.symm hlw);have b3:=nX (show l≠nx by omega);have b4:=nX (show nx≠l by omega)

 have fin:∀(σi:List (Nat×Nat)) (m0:List (Nat×bK)),gY 0 3 σi=true->(l,0)∈σi->(∀l i,(l,i)∈σi->look m l≠none)->(∀i b,look m0 i=some b->∃l b',(l,i)∈σi/\look m l=some b'/\pE 0 σi b' b)->
   (∀l' b,look (eR (dH m lw) l) l'=some b->l'≠l->look m l'=some b/\∀i,(l',i)∉σi)->∀d m1,(d=.tup []/\look m1 0=some (.bld (some 9) (s++bQ ws).length true)/\look m1 9=some (.row (s++bQ ws)))->
   ∃(σo:List (Nat×Nat)) (q1:Nat) (st':St) (vd':D),Fr σi σo 3 q1 m0 m1 ⟨nx,m⟩ st'/\IS 0 σo d vd'/\K vd' st':=by
  rintro σi m0 oki hm hlt hm0 hoff d m1 ⟨rfl,e0,e9⟩;refine⟨[(0,l),(9,nx)],10,⟨nx+1,nY (dH m lw) l nx (s++bQ ws)⟩,.tup [],⟨oki, ?_,Nat.le_succ _,hlt, ?_,hm0, ?_⟩,.inl ⟨rfl,rfl⟩,hK⟩
  ·simp[gY,b3,b4];exact⟨ae,rfl⟩
  ·intro i l' h;rcases dy.1 h with h|h
   ·obtain⟨rfl,rfl⟩:=Prod.mk.inj h;exact .inl hm
   ·obtain⟨rfl,rfl⟩:=Prod.mk.inj (cJ.1 h);exact .inr (aY _)
  ·intro l' bb h;simp only[nY,look]at h;split at h
   ·rename_i e;subst e;obtain rfl:=bC h;exact .inl ⟨9,_,.tail _ (.head _),e9,rfl⟩
   ·rename_i hln;rw[cn]at h;split at h
    ·rename_i e;subst e;obtain rfl:=bC h;exact .inl ⟨0,_,.head _,e0,⟨nx,rfl,rfl⟩,rfl,rfl⟩
    ·rename_i hl;obtain⟨g1,g2⟩:=hoff l' bb h hl;exact .inr ⟨by simp only[lu,ai (fun e=>hl (Eq.symm e)),ai hln],g2,g1⟩
 rcases h1 with⟨u,h1,rfl⟩|⟨l2,u,h1,h5⟩
 ·have g4:∀l' i,(l',i)∈[(l,0),(lw,1)]->look m l'≠none:=by
   intro l' i h;rcases dy.1 h with h|h
   ·obtain⟨rfl,rfl⟩:=Prod.mk.inj h;rw[h1];simp
   ·obtain⟨rfl,rfl⟩:=Prod.mk.inj (cJ.1 h);rw[h2];simp
  have g3:gY 0 3 [(l,0),(lw,1)]=true:=by simp[gY,b1,b2];rfl
  have g5:∀i b,look [(0,bK.bld none 0 u),(1,.buf 1 (ws.map D.str))] i=some b->∃l' b',(l',i)∈[(l,0),(lw,1)]/\look m l'=some b'/\pE 0 [(l,0),(lw,1)] b' b:=by
   intro i b h;simp only[look]at h;split at h
   ·rename_i e;subst e;obtain rfl:=bC h;exact⟨l,_,.head _,h1,rfl,rfl,rfl⟩
   ·split at h
    ·rename_i e;subst e;obtain rfl:=bC h;exact⟨lw,_,.tail _ (.head _),h2,rfl,.inl ⟨rfl,hnl⟩⟩
    ·cases h
  refine zD (σi:=[(l,0),(lw,1)]) (cs:=[.ptr 0 2 0 0,.own 1 1 0 ws.length]) (fun q=>aH t key _ q) hmix hC rfl ?_ hnp g3 g4 g5 (hw _ (.inl ⟨u,rfl,rfl⟩) rfl) (fin _ _ g3 (.head _) g4 g5 ?_)
  ·intro i hi
   match i,hi with
   |0,_=>exact .inr (.inl (by simp[sj,FA,mh]))
   |1,_=>exact .inr (.inl (by simp[sj,FA,mh,b1]))
  ·intro l' b h hl;rw[vt hlw]at h;simp only[h1]at h;rw[fG]at h;split at h
   ·cases h
   ·rename_i hw';refine⟨h,fun i hi=>?_⟩;rcases dy.1 hi with hi|hi
    ·exact hl (Prod.mk.inj hi).1
    ·exact hw' (Prod.mk.inj (cJ.1 hi)).1
 ·have c1:l2≠l:=by rintro rfl;rw[h1]at h5;cases h5
  have c2:l2≠lw:=by rintro rfl;rw[h2]at h5;cases h5
  have d1:=nX c1;have d2:=nX c2;have d3:=nX (Ne.symm c1);have d4:=nX (Ne.symm c2);have g4:∀l' i,(l',i)∈[(l,0),(lw,1),(l2,2)]->look m l'≠none:=by
   intro l' i h;rcases dy.1 h with h|h
   ·obtain⟨rfl,rfl⟩:=Prod.mk.inj h;rw[h1];simp
   ·rcases dy.1 h with h|h
    ·obtain⟨rfl,rfl⟩:=Prod.mk.inj h;rw[h2];simp
    ·obtain⟨rfl,rfl⟩:=Prod.mk.inj (cJ.1 h);rw[h5];simp
  have g3:gY 0 3 [(l,0),(lw,1),(l2,2)]=true:=by simp[gY,b1,b2,d1,d2,d3,d4];exact⟨⟨rfl,rfl⟩,rfl⟩
  have g5:∀i b,look [(0,bK.bld (some 2) s.length u),(1,.buf 1 (ws.map D.str)),(2,.row s)] i=some b->∃l' b',(l',i)∈[(l,0),(lw,1),(l2,2)]/\look m l'=some b'/\pE 0 [(l,0),(lw,1),(l2,2)] b' b:=by
   intro i b h;simp only[look]at h;split at h
   ·rename_i e;subst e;obtain rfl:=bC h;exact⟨l,_,.head _,h1,⟨2,by simp[mh,d3,d4],rfl⟩,rfl,rfl⟩
   ·split at h
    ·rename_i e;subst e;obtain rfl:=bC h;exact⟨lw,_,.tail _ (.head _),h2,rfl,.inl ⟨rfl,hnl⟩⟩
    ·split at h
     ·rename_i e;subst e;obtain rfl:=bC h;exact⟨l2,_,.tail _ (.tail _ (.head _)),h5,rfl⟩
     ·cases h
  refine zD (σi:=[(l,0),(lw,1),(l2,2)]) (cs:=[.ptr 0 2 0 0,.own 1 1 0 ws.length]) (fun q=>aH t key _ q) hmix hC rfl ?_ hnp g3 g4 g5 (hw _ (.inr ⟨2,u,rfl,rfl⟩) rfl) (fin _ _ g3 (.head _) g4 g5 ?_)
  ·intro i hi
   match i,hi with
   |0,_=>exact .inr (.inl (by simp[sj,FA,mh]))
   |1,_=>exact .inr (.inl (by simp[sj,FA,mh,b1]))
  ·intro l' b h hl;rw[vt hlw]at h;simp only[h1]at h;rw[fG]at h;split at h
   ·cases h
   ·rename_i hw2;rw[fG]at h;split at h
    ·cases h
    ·rename_i hw';refine⟨h,fun i hi=>?_⟩;rcases dy.1 hi with hi|hi
     ·exact hl (Prod.mk.inj hi).1
     ·rcases dy.1 hi with hi|hi
      ·exact hw' (Prod.mk.inj hi).1
      ·exact hw2 (Prod.mk.inj (cJ.1 hi)).1
end
end
def r0 {α:Type}{f:α->D}(hf:∀x y,f x=f y↔x=y):∀a b:List α,a.map f=b.map f↔a=b
 |[],[]=>aT
 |[],_::_=>aT
 |_::_,[]=>aT
 |x::a,y::b=>by simp only[List.map_cons,kv,hf,r0 hf a b]
def Rg (a b:Nat):((a:Nat):Int)=(b:Nat)↔a=b:=ae
def iU8 (x y:UInt8):((x.toNat:Nat):Int)=(y.toNat:Nat)↔x=y:=(Rg _ _).trans jR
def JM (a b:List au):a.map D.str=b.map D.str↔a=b:=r0 (fun _ _=>aT) a b
def iInt (a b:List Int):a.map (D.int .i64)=b.map (D.int .i64)↔a=b:=r0 (fun _ _=>aT) a b
def iByt (a b:au):(a.map fun c=>D.int .u8 c.toNat)=(b.map fun c=>D.int .u8 c.toNat)↔a=b:=r0 (fun x y=>by rw[D.int.injEq,iU8];simp) a b
def iVer (a b:bX):bX.D a=bX.D b↔a=b:=by cases a;cases b;simp[bX.D]
def K5 (a b:cQ):cQ.D a=cQ.D b↔a=b:=by cases a;cases b;simp[cQ.D,JM]
def Hf (a b:List cQ):a.map cQ.D=b.map cQ.D↔a=b:=r0 K5 a b
def K4 (a b:cB):cB.D a=cB.D b↔a=b:=by cases a;cases b;simp[cB.D,Hf]
def BI (a b:List cB):a.map cB.D=b.map cB.D↔a=b:=r0 K4 a b
def Rd (a b:kJ):kJ.D a=kJ.D b↔a=b:=by cases a;cases b;simp[kJ.D]
def He (a b:List kJ):a.map kJ.D=b.map kJ.D↔a=b:=r0 Rd a b
def K3 (a b:bW):bW.D a=bW.D b↔a=b:=by cases a;cases b;simp[bW.D,JM]
def BH (a b:List bW):a.map bW.D=b.map bW.D↔a=b:=r0 K3 a b
def iRec (a b:Rec):Rec.D a=Rec.D b↔a=b:=by
 obtain⟨n,⟨v1,v2,v3,v4,v5⟩,x,y,z⟩:=a;obtain⟨n',⟨w1,w2,w3,w4,w5⟩,x',y',z'⟩:=b;simp[Rec.D,BI,He,BH,and_assoc]
def Re (a b:cG):cG.D a=cG.D b↔a=b:=by
 obtain⟨n,p,v1,v2,v3,v4,v5⟩:=a;obtain⟨n',p',w1,w2,w3,w4,w5⟩:=b;simp[cG.D]
def K1 (a b:List cG):a.map cG.D=b.map cG.D↔a=b:=r0 Re a b
def iNd (a b:Nd):Nd.D a=Nd.D b↔a=b:=by cases a;cases b;simp[Nd.D]
def Rh (a b:List Nd):a.map Nd.D=b.map Nd.D↔a=b:=r0 iNd a b
def ME (a b:Alt):nV a=nV b↔a=b:=by simp[nV,K1]
def iRng (a b:pF):dV a=dV b↔a=b:=by simp[dV,r0 ME]
def Rc (a b:List Alt):a.map nV=b.map nV↔a=b:=r0 ME a b
def iMrk (a b:CO):fH a=fH b↔a=b:=by simp[fH,Rh]
def iPr (w w':List au)(x x':D)(b b':Bool):fW w x b=fW w' x' b'↔w=w'/\x=x'/\b=b':=by simp[fW,JM]
def atZ (l:List Int)(i:Int):Int:=if i<0\/(l.length:Int)<=i then 0 else l[i.toNat]!
def rS (l:List Int)(i n:Int):Int:=atZ l i%n
def mD (l:List Int)(i n:Int)(h:0<n):0<=rS l i n/\rS l i n<n:=⟨Int.emod_nonneg _ ae,Int.emod_lt_of_pos _ h⟩
def sa (v n:Int)(h:0<n):0<=v%n/\v%n<n:=⟨Int.emod_nonneg _ ae,Int.emod_lt_of_pos _ h⟩
def nm5:List au:=[[97,112,112],[98],[99],[100],[101,45,50]]
def C5 (n:Int):au:=nm5[(n%5).toNat]!
def wd4:List au:=[[120],[121],[122],[119,95,49]]
def zB (n:Int):au:=wd4[(n%4).toNat]!
def M0:List Int:=[9,7,6,3,1,2]
def Mz (l:List Int)(i:Int):cG:=⟨M0[(rS l i 6).toNat]!,3,⟨rS l (i+1) 3,rS l (i+2) 2,0,[],[]⟩⟩
def JC (l:List Int)(i:Int):au:=if(Mz l i).op=9 then [42]else dk (Mz l i)
def K6:List au:=[[111,115],[97,114,99,104],[97,98,105]]
def Q9:List au:=[[32,61,32],[32,33,61,32]]
def C7 (l:List Int)(i:Int):au:=if 2<rS l i 6 then []else K6[(rS l i 6).toNat]! ++Q9[(rS l (i+1) 2).toNat]! ++zB (1+rS l (i+1) 3)
def F4:List au:=[[120],[121]]
def ur (l:List Int)(i:Int)(alone:Bool):List au:=if alone=true/\2<rS l (i+5) 5 then F4.take (rS l (i+5) 5-2).toNat else []
def KZ (l:List Int)(i own:Int)(alone:Bool):cQ:=⟨C5 (own+1+rS l i 4),JC l (i+1),ur l i alone,decide (rS l (i+4) 3=0)⟩
def sM (l:List Int)(i:Int):Nat:=if rS l i 5=1 then 2 else 1
def G5 (l:List Int)(i own:Int)(k:Nat):List cQ:=(List.range k).map fun(k:Nat)=>KZ l (i+1+6*(k:Nat)) own (decide ((sM l i:Int)=1))
def qY (l:List Int)(i own:Int):cB:=⟨G5 l i own (sM l i),C7 l (i+14),if rS l (i+16) 4=1 then zB (atZ l (i+17))else []⟩
def G7 (l:List Int)(i:Int):sM l i<=2:=by
 unfold sM;split<;>omega
def rT (n:Int):(C5 n).length<=3:=by
 obtain⟨h1,h2⟩:=sa n 5 aM;unfold C5;have:(n%5).toNat<5:=ae;revert this;generalize (n%5).toNat=k;revert k;decide
def EF (n:Int):(zB n).length<=3:=by
 obtain⟨h1,h2⟩:=sa n 4 aM;unfold zB;have:(n%4).toNat<4:=ae;revert this;generalize (n%4).toNat=k;revert k;decide
def gK (l:List Int)(i:Int):Nat:=(rS l (i+3) 4%3).toNat
def Ra (l:List Int)(i:Int):gK l i<=2:=by unfold gK;omega
def KY (l:List Int)(i own:Int)(n:Nat):List cB:=(List.range n).map fun(q:Nat)=>qY l (i+4+20*((gK l i-q:Nat):Int) -20) own
def BD (l:List Int)(i own:Int):List cB:=KY l i own (gK l i)
def wP (l:List Int)(i own:Int):(qY l i own).option.length<=3:=by
 show(if _ then _ else _:au).length<=3;split
 ·exact EF _
 ·simp
def MA (k a b:Nat):au:=if M0[k]! =9 then [42]else dk ⟨M0[k]!,3,⟨(a:Nat),(b:Nat),0,[],[]⟩⟩
def Kk (s:au):Prop:=lT s=true/\s.length<=8/\s≠[]/\(∀c∈s,c≠10)
instance (s:au):Decidable (Kk s):=by unfold Kk;infer_instance
def zT (s:au):Prop:=kQ s=true/\s.length<=16/\(∀c∈s,c≠10)
instance (s:au):Decidable (zT s):=by unfold zT;infer_instance
def Jw:∀k,k<6->∀a,a<3->∀b,b<2->Kk (MA k a b):=by decide+kernel
def II:∀k,k<3->∀a,a<2->∀b,b<4->zT (K6[k]! ++Q9[a]! ++wd4[b]!):=by decide+kernel
def G8 (n:Int):(n%4).toNat<4/\zB n=wd4[(n%4).toNat]! :=by
 have:=sa n 4 aM;exact⟨ae,rfl⟩
def JD (l:List Int)(i:Int):Kk (JC l i):=by
 have a:=mD l i 6 aM;have b:=mD l (i+1) 3 aM;have c:=mD l (i+2) 2 aM;have:=Jw (rS l i 6).toNat ae (rS l (i+1) 3).toNat ae (rS l (i+2) 2).toNat ae;have e:MA (rS l i 6).toNat (rS l (i+1) 3).toNat (rS l (i+2) 2).toNat=JC l i:=by
  unfold MA JC Mz;simp only[show((rS l (i+1) 3).toNat:Int)=rS l (i+1) 3 by omega,show((rS l (i+2) 2).toNat:Int)=rS l (i+2) 2 by omega]
 rwa [e]at this
def EV:zT []:=by decide+kernel
def zA (l:List Int)(i:Int):zT (C7 l i):=by
 unfold C7;split
 ·exact EV
 ·rename_i h;have a:=mD l i 6 aM;have b:=mD l (i+1) 2 aM;have c:=G8 (1+rS l (i+1) 3);rw[c.2];exact II _ ae _ ae _ c.1
def G6 (l:List Int)(i own:Int)(k:Nat):(G5 l i own k).length=k:=by simp[G5]
def JE (l:List Int)(i own:Int)(n:Nat):(KY l i own n).length=n:=by simp[KY]
def C6 {l:List Int}{i own:Int}{n:Nat}{x:cB}(h:x∈KY l i own n):∃k:Int,x=qY l k own:=by
 obtain⟨q,_,rfl⟩:=eI.1 h;exact⟨_,rfl⟩
def mC {α:Type}{f:α->au}{B:Nat}:∀{l:List α},(∀x∈l,(f x).length<=B)->((l.map f).flatten).length<=l.length*B
 |[],_=>aT
 |a::r,h=>by
  have h1:=h a (.head _);have h2:=mC (l:=r) fun x hx=>h x (.tail _ hx)
  simp only[List.map_cons,List.flatten_cons,bA,ay,Nat.succ_mul];omega
def kX {l:List au}{B n:Nat}(h:∀t∈l,t.length<=B)(hn:l.length<=n):(bQ l).length<=n*(B+1)+1:=by
 have h1:=kV 32 B l h;have h2:=ek (B+1) hn;simp only[bQ,bA,ay,az];omega
def DY (w:cQ):Prop:=w.name.length<=3/\w.range.length<=8/\(w.feats=[]\/w.feats=F4.take 1\/w.feats=F4)
def F1 (n:Nat):F4.take n=[]\/F4.take n=F4.take 1\/F4.take n=F4:=by
 match n with
 |0=>exact .inl rfl
 |1=>exact .inr (.inl rfl)
 |n+2=>exact .inr (.inr (dQ (by simp[F4])))
def wQ (l:List Int)(i own:Int)(al:Bool):DY (KZ l i own al):=by
 refine⟨rT _,(JD l (i+1)).2.1, ?_⟩;show ur l i al=[]\/ur l i al=F4.take 1\/ur l i al=F4;unfold ur;split
 ·exact F1 _
 ·exact .inl rfl
def FV {w:cQ}(h:DY w):(bQ (kI w)).length<=46:=by
 refine kX (B:=8) (n:=5) (fun t ht=>?_) (by simp[kI]);simp only[kI,dy,fK,or_false]at ht;rcases ht with rfl|rfl|rfl|rfl|rfl
 ·decide
 ·have:=h.1;omega
 ·rcases h.2.2 with e|e|e<;>rw[e]<;>decide
 ·split<;>decide
 ·exact h.2.1
def xI {s:au}(h:s.length<=16):(gw s).length<=35:=by
 unfold gw;split
 ·simp
 ·exact kX (B:=16) (n:=2) (fun t ht=>by
   simp only[dy,fK,or_false]at ht;rcases ht with rfl|rfl
   ·decide
   ·exact h) aT
def HF {s:au}(h:s.length<=6):(pA s).length<=15:=by
 unfold pA;split
 ·simp
 ·exact kX (B:=6) (n:=2) (fun t ht=>by
   simp only[dy,fK,or_false]at ht;rcases ht with rfl|rfl
   ·decide
   ·exact h) aT
def EE (l:List Int)(i own:Int):(ow (qY l i own)).length<=160:=by
 have h1:=mC (f:=fun w=>bQ (kI w)) (B:=46) (l:=(qY l i own).any) fun w hw=>by
  obtain⟨q,_,rfl⟩:=eI.1 (show w∈G5 l i own (sM l i)from hw);exact FV (wQ _ _ _ _)
 have h2:(qY l i own).any.length<=2:=by rw[show(qY l i own).any.length=sM l i from G6 _ _ _ _];exact G7 l i
 have h3:=xI (zA l (i+14)).2.1;have h4:=HF (s:=(qY l i own).option) (cW (wP l i own) aM);have h5:(bQ [sX]).length<=6:=aM;unfold ow;simp only[bA];show _+(((qY l i own).any.map fun w=>bQ (kI w)).flatten).length+(gw (C7 l (i+14))).length+_<=_;omega
def Gy {b:kJ}(h:b.name.length<=3/\b.range.length<=8/\b.when'.length<=16):(ta b).length<=63:=by
 have h1:=kX (B:=8) (n:=3) (l:=[qy,b.name,b.range]) (fun t ht=>by
  simp only[dy,fK,or_false]at ht;rcases ht with rfl|rfl|rfl
  ·decide
  ·omega
  ·exact h.2.1) aT
 have h2:=xI h.2.2;unfold ta;rw[bA];omega
def Ey {f:bW}(h:f.name.length<=7/\f.of.length<=5/\∀t∈f.of,t.length<=7):(oc f).length<=57:=by
 refine kX (B:=7) (n:=7) (fun t ht=>?_) cz;simp only[List.mem_append,dy,fK,or_false]at ht;rcases ht with(rfl|rfl)|ht
 ·decide
 ·exact h.1
 ·exact h.2.2 t ht
structure Je (l:List Int)(i own:Int)(r:Rec):Prop where
 nm:r.name=C5 own
 ns:r.needs=BD l i own
 v:eF r.v=true/\r.v.pre.length<=4/\r.v.build.length<=1
 bl:r.bars.length<=2
 b:∀b∈r.bars,mU r b=0/\b.name.length<=3/\b.range.length<=8/\b.when'.length<=16
 fs:fF r.feats=true/\ug r=(0,0)
 fl:r.feats.length<=4
 f:∀f∈r.feats,f.name.length<=7/\f.of.length<=5/\∀t∈f.of,t.length<=7
def BE (l:List Int)(i own:Int):(BD l i own).length<=2:=by rw[BD,JE];exact Ra l i
def Je.sm {l:List Int}{i own:Int}{r:Rec}(h:Je l i own r):dh r:=by
 refine⟨⟨by rw[h.nm];exact cW (rT own) aM,cW h.v.2.1 aM,cW h.v.2.2 aM⟩,fun n hn=>?_,fun b hb=>?_,fun f hf=>?_⟩
 ·obtain⟨k,rfl⟩:=C6 (show n∈KY l i own (gK l i)by rw[show KY l i own (gK l i)=r.needs from h.ns.symm];exact hn);refine⟨fun w hw=>?_,cW (zA l (k+14)).2.1 aM,cW (wP l k own) aM⟩;obtain⟨q,_,rfl⟩:=eI.1 (show w∈G5 l k own (sM l k)from hw);obtain⟨a,b,c⟩:=wQ l (k+1+6*(q:Nat)) own (decide ((sM l k:Int)=1));refine⟨⟨cW a aM,cW b aM⟩,fun t ht=>?_⟩;have hx:∀t∈F4,t.length<=1048576:=aM
  rcases c with e|e|e<;>rw[e]at ht
  ·cases ht
  ·exact hx t (oQ ht)
  ·exact hx t ht
 ·obtain⟨_,a,b,c⟩:=h.b b hb;exact⟨cW a aM,cW b aM,cW c aM⟩
 ·obtain⟨a,b,c⟩:=h.f f hf;exact⟨cW a aM,cW b aM,fun t ht=>cW (c t ht) aM⟩
def IF {v:bX}(h:eF v=true/\v.pre.length<=4/\v.build.length<=1):(kR v).length<=30:=by
 obtain⟨h1,h2,h3⟩:=h;have hv:=h1;simp only[eF,kN,aZ,aR]at h1;have a:=dT 4 v.major.toNat ae ae;have b:=dT 4 v.minor.toNat ae ae;have c:=dT 4 v.patch.toNat ae ae;unfold kR;rw[av hv,FU];have d:(coreS v).length<=14:=by
  unfold coreS;simp only[bA,ay,az];omega
 simp only[bA];split<;>split<;>simp only[ay,az]<;>omega
def Je.len {l:List Int}{i own:Int}{r:Rec}(h:Je l i own r):(kG r).length<=800:=by
 have h1:(og r).length<=94:=kX (B:=30) (n:=3) (fun t ht=>by
  simp only[dy,fK,or_false]at ht;rcases ht with rfl|rfl|rfl
  ·decide
  ·rw[h.nm];exact cW (rT own) aM
  ·exact IF h.v) aT
 have h2:=mC (f:=ow) (B:=160) (l:=r.needs) fun n hn=>by
  obtain⟨k,rfl⟩:=C6 (show n∈KY l i own (gK l i)by rw[show KY l i own (gK l i)=r.needs from h.ns.symm];exact hn);exact EE l k own
 have h3:=mC (f:=ta) (B:=63) (l:=r.bars) fun b hb=>Gy (h.b b hb).2
 have h4:=mC (f:=oc) (B:=57) (l:=r.feats) fun f hf=>Ey (h.f f hf)
 have h5:=BE l i own;have h6:=h.bl;have h7:=h.fl;rw[h.ns]at h2;unfold kG;rw[h.ns];simp only[bA];omega
end Go.Abs
section
namespace Go.Abs
def pU (w:au):Prop:=w≠[]/\∀c∈w,c≠32/\c≠10
def x5 (w:au):Prop:=∀c∈w,c≠10
def fw (t:au):au:=(ar t 32)[0]!
def hd (R:List au):Option au:=R.head?.map fw
structure QZ (w:cQ):Prop where
 nm:pU w.name
 rg:w.range≠[]/\x5 w.range
 fs:∀t∈w.feats,pU t/\∀c∈t,c≠44
 ne:bc [44] w.feats≠[45]
structure QU (n:cB):Prop where
 a:∀w∈n.any,QZ w
 w:x5 n.when'
 o:n.option=[]\/pU n.option
structure BarW (b:kJ):Prop where
 nm:pU b.name
 rg:b.range≠[]/\x5 b.range
 w:x5 b.when'
structure PH (f:bW):Prop where
 nm:pU f.name
 o:∀t∈f.of,pU t
end Go.Abs
namespace Go.Abs
structure RecW (r:Rec):Prop where
 nm:pU r.name
 v:eF r.v=true
 n:∀n∈r.needs,QU n
 b:∀b∈r.bars,BarW b
 f:∀f∈r.feats,PH f
end Go.Abs
end
namespace Go.Abs
abbrev lnS (s:au):List au:=(ar s 10).take ((ar s 10).length-1)
abbrev JV (s:au):au:=(ar s 10)[(ar s 10).length-1]!
def vk:aC:=⟨2,6,[⟨2,none⟩],bM,(sq (r1 [gm dt] 2 0) (sq (sq (r1 [gm bp] 3 0) (.block 0 (.loop (sq (sq (r1 [gm s3,gm s0,gl l1,aP l0 l2] 4 3) (eN s4 0)) (sq (.block 1 (sq (r1 [gm s0,gm s3,ga 1 l0 l1,gd l2,gx 357 [l3] bM,jx l4] 5 5) (.cond s5 (sq (r1 [gm dt] 2 0) .ret) .skip))) (r1 [gm s3,ax l0 cq,gm l1] 3 2)))))) (sq (r1 [gm s0,gl l0,yu l1 uy,gm l2,gmt 3 s0,ca 3 (.call 815 [l4] [[.sl 1 [.a]]]),ew l3 l5,gm l6,gmt 7 s1,gmt 7 l8,eC 9 s0,cl 9 (.len l10),cl 9 (cM im bp),MD 7 l9 js,ew l7 ki,gm kW] 2 15) .ret)))⟩
def w812 {Y:Ctx}(hm:(Y.at 0).bd)(h357:Bh Y)(h815:LS Y)(l:List au)(al:Bool)   :dd Y vk (.bool (jo l al)) [.sl 1 (l.map D.str),.bool al]:=by
 show bH _ _ _ [⟨_,_⟩,⟨_,_⟩,_,_,_,_] _;refine ak ?_;refine aF ?_;refine bh hm (ι:=Nat) (fun i=>[⟨true,.sl 1 (l.map D.str)⟩,⟨true,.bool al⟩,.un,⟨true,.int .i64 (i:Nat)⟩,.un,.un]) (fun i=>[]) 2 (fun i=>i<=l.length/\jo l al=(cr (fun i=>cb l[i]!) i l.length&&((decide (l.length<=6)&&rising l)&&(al ||decide (l.length=0))))) (fun i=>l.length-i) 0 ⟨ae,(wf_2 l al).symm⟩ (dn []) ?_;rintro i ⟨hi,hr⟩;refine aI ?_;intro u0;refine aA ?_;refine cw (fun hc0=>?_) fun hc0=>?_
 ·refine aU ?_;refine aq (hc:=h357 _) ?_;refine aA ?_;refine wp_cond (fun hc1=>?_) (fun hc1=>?_)
  ·simp only[bB]at hc1;refine aF ?_;refine bF ?_;rw[hr,aK ae,hc1];rfl
  simp only[bY]at hc1;refine bP ?_;exact⟨i+1,⟨ae,by rw[hr,aK ae,hc1];rfl⟩,ae,(dn [])⟩
 refine aI ?_;intro u1;refine aB ?_;refine aq (hc:=h815 _) ?_;refine aI ?_;refine kd ?_;refine aF ?_;refine bF ?_;rw[hr,bV ae,eH,dz.2 (show((l.length:Nat):Int)<=6↔l.length<=6 by omega),dz.2 (show((l.length:Nat):Int)=0↔l.length=0 by omega)]
def Po (Y:Ctx):Prop:=∀(l:List au)(al:Bool),Y.pre 812 [.sl 1 (l.map D.str),.bool al]/\Y.val 812 [.sl 1 (l.map D.str),.bool al]=.bool (jo l al)
def Ch:aC:=⟨3,10,[⟨3,none⟩],bM,(sq (rg [gb 9 s0,gb 4 s1,gm bp] [(6,0),(4,1),(3,2)]) (sq (.block 0 (sq (r1 [gf 0 s4,gd l0,gx 216 [l1] bM,jx l2,gm l3] 5 4) (.cond s5 (sq (r1 [gm tg] 3 0) .ret) (sq (r1 [gf 0 s4,gd l0,gf 0 s6,gd l2,aL l1 l3,gm l4] 7 5) (.cond s7 (sq (r1 [gm BJ] 3 0) .ret) (sq (r1 [gf 1 s4,gd l0,gx 572 [l1] bM,jx l2,gm l3] 8 4) (.cond s8 (sq (r1 [gm uy] 3 0) .ret) (sq (r1 [gf 2 s4,gd l0,gm s2,gx 812 [l1,l2] [[.sl 1 [.a]],[.a]],jx l3,gm l4] 9 5) (.cond s9 (sq (r1 [gm (i6 11)] 3 0) .ret) .skip))))))))) (sq (r1 [gm bp] 3 0) .ret)))⟩
def w669 {Y:Ctx}(hm:(Y.at 0).bd)(h216:D2 Y)(h572:LC Y)(h812:Po Y)(r:Rec)(w:cQ)(al:Bool)  (hp0:w.sm):dd Y Ch (.int .i64 (ib r w al)) [Rec.D r,cQ.D w,.bool al]:=by
 show bH _ _ _ [⟨_,_⟩,⟨_,_⟩,⟨_,_⟩,_,_,_,_,_,_,_] _;refine ak ?_;refine bP ?_;refine aq (hc:=h216 _) ?_;refine aB ?_;refine eP (fun hc0=>?_) fun hc0=>?_
 ·refine aI ?_;refine cL ?_;have hw:fe r w.name w.range=4:=by rw[fe,av hc0]
  rw[ib,av (by rw[hw];decide),hw]
 refine bP ?_;refine eP (fun hc1=>?_) fun hc1=>?_
 ·refine aI ?_;refine cL ?_;have hw:fe r w.name w.range=8:=by rw[fe,ai (by simp[hc0]),av hc1]
  rw[ib,av (by rw[hw];decide),hw]
 refine aB ?_;refine aq (hc:=h572 w.range hp0.1.2) ?_;refine aB ?_;refine wp_cond (fun hc2=>?_) (fun hc2=>?_)
 ·try simp only[fu]at hc2
  refine aI ?_;refine cL ?_;have hw:fe r w.name w.range=6:=by rw[fe,ai (by simp[hc0]),ai hc1,av hc2]
  rw[ib,av (by rw[hw];decide),hw]
 simp only[bY]at hc2;have hw0:fe r w.name w.range=0:=by rw[fe,ai (by simp[hc0]),ai hc1,ai (by simp[hc2])]
 refine aE ?_;refine aq (hc:=h812 w.feats al) ?_;refine aB ?_;refine eP (fun hc3=>?_) fun hc3=>?_
 ·refine aI ?_;refine cL ?_;rw[ib,ai (by simp[hw0]),av hc3]
 refine aF ?_;refine cL ?_;rw[ib,ai (by simp[hw0]),ai (by simp[hc3])]
def O4 (Y:Ctx):Prop:=∀(r:Rec)(w:cQ)(al:Bool),(w.sm)->Y.pre 669 [Rec.D r,cQ.D w,.bool al]/\Y.val 669 [Rec.D r,cQ.D w,.bool al]=.int .i64 (ib r w al)
def Ce:aC:=⟨2,13,[⟨2,none⟩],bM,(sq (rg [gb 9 s0,gb 3 s1,gm bp] [(8,0),(3,1),(2,2)]) (sq (sq (r1 [gf 0 s3,gd l0,gl l1,aL l2 bp] 4 3) (.cond s4 (sq (r1 [gm Bc] 2 0) .ret) .skip)) (sq (sq (r1 [gf 0 s3,gd l0,gl l1,cH l2 ml] 5 3) (.cond s5 (sq (r1 [gm ml] 2 0) .ret) .skip)) (sq (sq (r1 [gm bp] 6 0) (.block 0 (.loop (sq (sq (r1 [gm s6,gf 0 s3,gd l1,gl l2,aP l0 l3] 7 4) (eN s7 0)) (sq (.block 1 (sq (r2 [gk 9 true s8,gf 0 s3,gd l1,gm s6,ga 4 l2 l3,gk 4 true l4,gf 0 s3,gd l6,gl l7,aL l8 cq,gx 669 [l0,l5,l9] [[.a,.a,.a,.a,.a,.a,.sl 3 [.sl 4 [.a,.a,.sl 1 [.a],.a],.a,.a],.sl 3 [.a,.a,.a],.sl 2 [.a,.sl 1 [.a]]],[.a,.a,.sl 1 [.a],.a],[.a]],gm l10] 9 11) (sq (r1 [gm s9,cg l0 bp] 10 1) (.cond iP (sq (r1 [gm s9,gm l0] 2 1) .ret) .skip)))) (r1 [gm s6,ax l0 cq,gm l1] 6 2)))))) (sq (sq (r1 [gf 1 s3,gd l0,gx 670 [l1] bM,jx l2] 11 3) (.cond kp (sq (r1 [gm Hg] 2 0) .ret) .skip)) (sq (sq (r1 [gf 2 s3,gd l0,cg l1 cse,gm l2,lr 3 2 s3,ke 3 l4,ca 3 (.call 357 [l5] bM),ca 3 (.un .not l6),ew l3 l7] 12 8) (.cond mS (sq (r1 [gm (i6 14)] 2 0) .ret) .skip)) (sq (r1 [gm bp] 2 0) .ret)))))))⟩
def w457 {Y:Ctx}(hm:(Y.at 0).bd)(h357:Bh Y)(h669:O4 Y)(h670:LL Y)(r:Rec)(n:cB)  (hp0:n.sm):dd Y Ce (.int .i64 (gh r n)) [Rec.D r,cB.D n]:=by
 show bH _ _ _ [⟨_,_⟩,⟨_,_⟩,_,_,_,_,_,_,_,_,_,_,_] _;refine ak ?_;refine cU ?_;intro u0;refine aA ?_;refine cw (fun hc0=>?_) fun hc0=>?_
 ·refine aI ?_;refine cL ?_;rw[gh,av ae]
 refine aF ?_;intro u1;refine aA ?_;refine cw (fun hc1=>?_) fun hc1=>?_
 ·refine aI ?_;refine cL ?_;rw[gh,ai ae,av ae]
 refine aI ?_;refine bh hm (ι:=Nat) (fun i=>[.un,.un,.un,⟨true,.ptr 1 3 0 0⟩,.un,.un,⟨true,.int .i64 (i:Nat)⟩,.un,⟨true,.ptr 0 9 0 0⟩,.un,.un,.un,.un]) (fun i=>[(0,.buf 9 [Rec.D r]),(1,.buf 3 [cB.D n])]) 12 (fun i=>i<=n.any.length/\lV r n.any=eA (fun i=>ib r n.any[i]! (decide ((n.any.length:Int)=1))) i n.any.length) (fun i=>n.any.length-i) 0 ⟨ae,rfl⟩ (dn [(0,0),(1,1)]) ?_;rintro i ⟨hi,hr⟩;refine aF ?_;intro u2;refine aA ?_;refine cw (fun hc2=>?_) fun hc2=>?_
 ·refine aU ?_;refine cC i ?_;first|refine cy (v:=(cQ.D _)) ?_|refine eO (v:=(cQ.D _)) ?_
  refine aA ?_;refine kd ?_;refine aS ?_;refine aq (hc:=h669 r n.any[i]! _ (hp0.1 _ (bS ae))) ?_;refine aF ?_;refine eP (fun hc3=>?_) fun hc3=>?_
  ·refine aU ?_;refine cL ?_;have hw:lV r n.any=ib r n.any[i]! (decide ((n.any.length:Int)=1)):=by rw[hr,jF ae hc3]
   rw[gh,ai ae,ai ae,av (by rw[hw];exact hc3),hw]
  refine bP ?_;exact⟨i+1,⟨ae,by rw[hr,mB ae hc3]⟩,ae,(dn [(0,0),(1,1)])⟩
 refine aE ?_;have hw0:lV r n.any=0:=by rw[hr,mA ae]
 refine aA ?_;refine aq (hc:=h670 _) ?_;refine aA ?_;refine aw (fun hc4=>?_) (fun hc4=>?_)
 ·try simp only[fu]at hc4
  refine aI ?_;refine cL ?_;rw[gh,ai ae,ai ae,ai (by simp[hw0]),av hc4]
 simp only[bY]at hc4;refine cU ?_;refine aq (hc:=h357 _) ?_;refine aB ?_;refine aw (fun hc5=>?_) (fun hc5=>?_)
 ·try simp only[fu]at hc5
  refine aI ?_;refine cL ?_;rw[gh,ai ae,ai ae,ai (by simp[hw0]),ai (by simp[hc4]),av hc5]
 simp only[dr,bY,aR]at hc5;refine aI ?_;refine cL ?_;rw[gh,ai ae,ai ae,ai (by simp[hw0]),ai (by simp[hc4]),ai (by rintro⟨g1,g2⟩;rcases hc5 with h|h;exact g1 h;rw[g2]at h;cases h)]
def OG (Y:Ctx):Prop:=∀(r:Rec)(n:cB),(n.sm)->Y.pre 457 [Rec.D r,cB.D n]/\Y.val 457 [Rec.D r,cB.D n]=.int .i64 (gh r n)
def Fg:aC:=⟨2,9,[⟨2,none⟩],bM,(sq (rg [gb 9 s0,gb 3 s1,gm bp] [(5,0),(3,1),(2,2)]) (sq (.block 0 (sq (r1 [gf 0 s3,gd l0,gx 216 [l1] bM,jx l2,gm l3] 4 4) (.cond s4 (sq (r1 [gm tg] 2 0) .ret) (sq (r1 [gf 0 s3,gd l0,gf 0 s5,gd l2,aL l1 l3,gm l4] 6 5) (.cond s6 (sq (r1 [gm BJ] 2 0) .ret) (sq (r1 [gf 1 s3,gd l0,gx 572 [l1] bM,jx l2,gm l3] 7 4) (.cond s7 (sq (r1 [gm uy] 2 0) .ret) (sq (r1 [gf 2 s3,gd l0,gx 670 [l1] bM,jx l2,gm l3] 8 4) (.cond s8 (sq (r1 [gm Hg] 2 0) .ret) .skip))))))))) (sq (r1 [gm bp] 2 0) .ret)))⟩
def w458 {Y:Ctx}(hm:(Y.at 0).bd)(h216:D2 Y)(h572:LC Y)(h670:LL Y)(r:Rec)(b:kJ)  (hp0:b.sm):dd Y Fg (.int .i64 (mU r b)) [Rec.D r,kJ.D b]:=by
 show bH _ _ _ [⟨_,_⟩,⟨_,_⟩,_,_,_,_,_,_,_] _;refine ak ?_;refine bP ?_;refine aq (hc:=h216 _) ?_;refine aB ?_;refine eP (fun hc0=>?_) fun hc0=>?_
 ·refine aI ?_;refine cL ?_;have hw:fe r b.name b.range=4:=by rw[fe,av hc0]
  rw[mU,av (by rw[hw];decide),hw]
 refine bP ?_;refine eP (fun hc1=>?_) fun hc1=>?_
 ·refine aI ?_;refine cL ?_;have hw:fe r b.name b.range=8:=by rw[fe,ai (by simp[hc0]),av hc1]
  rw[mU,av (by rw[hw];decide),hw]
 refine aB ?_;refine aq (hc:=h572 b.range hp0.2.1) ?_;refine aB ?_;refine wp_cond (fun hc2=>?_) (fun hc2=>?_)
 ·try simp only[fu]at hc2
  refine aI ?_;refine cL ?_;have hw:fe r b.name b.range=6:=by rw[fe,ai (by simp[hc0]),ai hc1,av hc2]
  rw[mU,av (by rw[hw];decide),hw]
 simp only[bY]at hc2;have hw0:fe r b.name b.range=0:=by rw[fe,ai (by simp[hc0]),ai hc1,ai (by simp[hc2])]
 refine aB ?_;refine aq (hc:=h670 _) ?_;refine aB ?_;refine eP (fun hc3=>?_) fun hc3=>?_
 ·refine aI ?_;refine cL ?_;rw[mU,ai (by simp[hw0]),av hc3]
 refine aF ?_;refine cL ?_;rw[mU,ai (by simp[hw0]),ai (by simp[hc3])]
def OH (Y:Ctx):Prop:=∀(r:Rec)(b:kJ),(b.sm)->Y.pre 458 [Rec.D r,kJ.D b]/\Y.val 458 [Rec.D r,kJ.D b]=.int .i64 (mU r b)
def yJ:aC:=⟨2,7,[⟨2,none⟩],bM,(sq (rg [gb 9 s0,gm dt] [(4,0),(2,1)]) (sq (sq (r1 [gm bp] 3 0) (.block 0 (.loop (sq (sq (r1 [gm s3,gf 6 s4,gd l1,gl l2,aP l0 l3] 5 4) (eN s5 0)) (sq (.block 1 (sq (r1 [gf 6 s4,gd l0,gm s3,ga 3 l1 l2,gf 2 l3,gd l4,gm s1,aL l5 l6] 6 7) (.cond s6 (sq (r1 [gm px] 2 0) .ret) .skip))) (r1 [gm s3,ax l0 cq,gm l1] 3 2)))))) (sq (r1 [gm dt] 2 0) .ret)))⟩
def w673 {Y:Ctx}(hm:(Y.at 0).bd)  (r:Rec)(x:au)   :dd Y yJ (.bool (B5 r.needs x)) [Rec.D r,.str x]:=by
 show bH _ _ _ [⟨_,_⟩,⟨_,_⟩,_,_,_,_,_] _;refine ak ?_;refine aU ?_;refine bh hm (ι:=Nat) (fun i=>[.un,⟨true,.str x⟩,.un,⟨true,.int .i64 (i:Nat)⟩,⟨true,.ptr 0 9 0 0⟩,.un,.un]) (fun i=>[(0,.buf 9 [Rec.D r])]) 3 (fun i=>i<=r.needs.length/\B5 r.needs x=(r.needs.drop i).any (fun n=>decide (n.option=x))) (fun i=>r.needs.length-i) 0 ⟨ae,rfl⟩ (dn [(0,0)]) ?_;rintro i ⟨hi,hr⟩;refine aF ?_;intro u0;refine aA ?_;refine cw (fun hc0=>?_) fun hc0=>?_
 ·refine aF ?_;refine cC i ?_;refine aI ?_;refine eP (fun hc1=>?_) fun hc1=>?_
  ·refine aF ?_;refine bF ?_;rw[hr,xQ (c:=fun n:cB=>decide (n.option=x)) ae (bD hc1)]
  refine bP ?_;exact⟨i+1,⟨ae,by rw[hr,Bm (c:=fun n:cB=>decide (n.option=x)) ae (cj hc1)]⟩,ae,(dn [(0,0)])⟩
 refine aF ?_;refine bF ?_;rw[hr,xP ae]
def O6 (Y:Ctx):Prop:=∀(r:Rec)(x:au),Y.pre 673 [Rec.D r,.str x]/\Y.val 673 [Rec.D r,.str x]=.bool (B5 r.needs x)
def yK:aC:=⟨2,7,[⟨2,none⟩],bM,(sq (rg [gb 9 s0,gm dt] [(4,0),(2,1)]) (sq (sq (r1 [gm bp] 3 0) (.block 0 (.loop (sq (sq (r1 [gm s3,gf 6 s4,gd l1,gl l2,aP l0 l3] 5 4) (eN s5 0)) (sq (.block 1 (sq (r1 [gf 6 s4,gd l0,gm s3,ga 3 l1 l2,gf 0 l3,gd l4,gl l5,aL l6 cq,gm l7,lr 8 6 s4,ke 8 l9,gmt 8 s3,ca 8 (.ia 3 l10 im),lr 8 0 js,ke 8 ki,ca 8 (.ia 4 kW bp),lr 8 0 me,ke 8 ng,gmt 8 s1,ca 8 (cM pJ qB),ew l8 rA] 6 20) (.cond s6 (sq (r1 [gm px] 2 0) .ret) .skip))) (r1 [gm s3,ax l0 cq,gm l1] 3 2)))))) (sq (r1 [gm dt] 2 0) .ret)))⟩
def w674 {Y:Ctx}(hm:(Y.at 0).bd)  (r:Rec)(x:au)   :dd Y yK (.bool (uX r.needs x)) [Rec.D r,.str x]:=by
 show bH _ _ _ [⟨_,_⟩,⟨_,_⟩,_,_,_,_,_] _;refine ak ?_;refine aU ?_;refine bh hm (ι:=Nat) (fun i=>[.un,⟨true,.str x⟩,.un,⟨true,.int .i64 (i:Nat)⟩,⟨true,.ptr 0 9 0 0⟩,.un,.un]) (fun i=>[(0,.buf 9 [Rec.D r])]) 3 (fun i=>i<=r.needs.length/\uX r.needs x=(r.needs.drop i).any (fun n=>decide (n.any.length=1)&&decide (n.any[0]!.name=x))) (fun i=>r.needs.length-i) 0 ⟨ae,rfl⟩ (dn [(0,0)]) ?_;rintro i ⟨hi,hr⟩;refine aF ?_;intro u0;refine aA ?_;refine cw (fun hc0=>?_) fun hc0=>?_
 ·refine aF ?_;refine cC i ?_;refine aB ?_;intro u1;refine aI ?_;refine cC i (hb:=fun _=>ae) ?_;refine aS ?_;refine cy (q:=cB.D) (xs:=r.needs) (i:=i) (hi:=fun _=>ae) (v:=(.sl 4 (r.needs[i]!.any.map cQ.D))) ?_;refine cC 0 (hb:=fun h=>by simp only[eH,beq_iff_eq,aZ,aR]at h;omega) ?_;refine aS ?_;refine cy (q:=cQ.D) (xs:=r.needs[i]!.any) (i:=0) (hi:=fun h=>by simp only[eH,beq_iff_eq,aZ,aR]at h;omega) (v:=(.str r.needs[i]!.any[0]!.name)) ?_;refine aE ?_;refine wp_cond (fun hc1=>?_) (fun hc1=>?_)
  ·rw[dz.2 (show((r.needs[i]!.any.length:Nat):Int)=1↔r.needs[i]!.any.length=1 by omega)]at hc1;have hz:=hc1;refine aF ?_;refine bF ?_;rw[hr,xQ ae hz]
  rw[dz.2 (show((r.needs[i]!.any.length:Nat):Int)=1↔r.needs[i]!.any.length=1 by omega)]at hc1;have hz:=hc1;refine bP ?_;exact⟨i+1,⟨ae,by rw[hr,Bm ae hz]⟩,ae,(dn [(0,0)])⟩
 refine aF ?_;refine bF ?_;rw[hr,xP ae]
def O7 (Y:Ctx):Prop:=∀(r:Rec)(x:au),Y.pre 674 [Rec.D r,.str x]/\Y.val 674 [Rec.D r,.str x]=.bool (uX r.needs x)
def As:aC:=⟨2,10,[⟨2,none⟩],bM,(sq (rg [gb 9 s0,gm bp] [(6,0),(2,1)]) (sq (sq (r1 [gm bp] 3 0) (.block 0 (.loop (sq (sq (r1 [gm s3,gm s1,gl l1,aP l0 l2] 4 3) (eN s4 0)) (sq (.block 1 (sq (rg [gm s1,gm s3,ga 1 l0 l1,gd l2,gx 672 [l3] bM,gm l4,ge l5 0,ge l5 1,ge l5 2,gm l6,gm l7,gm l8] [(5,9),(7,10)]) (sq (sq (r1 [gm s5,aL l0 nM,gm l1,ca 2 (.ld 9 true s6),gmt 2 s7,ca 2 (.call 673 [l3,l4] [[.a,.a,.a,.a,.a,.a,.sl 3 [.sl 4 [.a,.a,.sl 1 [.a],.a],.a,.a],.sl 3 [.a,.a,.a],.sl 2 [.a,.sl 1 [.a]]],[.a]]),ca 2 (.un .not l5),ew l2 l6] 8 7) (.cond s8 (sq (r1 [gm (i6 14)] 2 0) .ret) .skip)) (sq (r1 [gm s5,aL l0 ml,gm l1,ca 2 (.ld 9 true s6),gmt 2 s7,ca 2 (.call 674 [l3,l4] [[.a,.a,.a,.a,.a,.a,.sl 3 [.sl 4 [.a,.a,.sl 1 [.a],.a],.a,.a],.sl 3 [.a,.a,.a],.sl 2 [.a,.sl 1 [.a]]],[.a]]),ca 2 (.un .not l5),ew l2 l6] 9 7) (.cond s9 (sq (r1 [gm (i6 16)] 2 0) .ret) .skip))))) (r1 [gm s3,ax l0 cq,gm l1] 3 2)))))) (sq (r1 [gm bp] 2 0) .ret)))⟩
def w460 {Y:Ctx}(hm:(Y.at 0).bd)(h672:LM Y)(h673:O6 Y)(h674:O7 Y)(r:Rec)(of:List au)  (hp0:∀t∈of,t.length<=1048576):dd Y As (.int .i64 (jb r of)) [Rec.D r,.sl 1 (of.map D.str)]:=by
 show bH _ _ _ [⟨_,_⟩,⟨_,_⟩,_,_,_,_,_,_,_,_] _;refine ak ?_;refine aU ?_;refine bh hm (ι:=Nat) (fun i=>[.un,⟨true,.sl 1 (of.map D.str)⟩,.un,⟨true,.int .i64 (i:Nat)⟩,.un,.un,⟨true,.ptr 0 9 0 0⟩,.un,.un,.un]) (fun i=>[(0,.buf 9 [Rec.D r])]) 3 (fun i=>i<=of.length/\jb r of=eA (fun i=>jZ r of[i]!) i of.length) (fun i=>of.length-i) 0 ⟨ae,rfl⟩ (dn [(0,0)]) ?_;rintro i ⟨hi,hr⟩;refine aI ?_;intro u0;refine aA ?_;refine cw (fun hc0=>?_) fun hc0=>?_
 ·refine aU ?_;refine aq (hc:=h672 of[i]! (hp0 _ (bS ae))) ?_;refine vP ?_;refine aq (hc:=h673 r (cF of[i]!).2.1) ?_;refine aB ?_;refine aw (fun hc1=>?_) (fun hc1=>?_)
  ·try simp only[fu]at hc1
   refine aU ?_;refine cL ?_;have he:jZ r of[i]! =14:=by rw[jZ,av hc1]
   rw[hr,jF ae (by rw[he];decide),he]
  have hn1:¬((cF of[i]!).1=2/\B5 r.needs (cF of[i]!).2.1=false):=by rintro⟨g1,g2⟩;rw[g1,g2]at hc1;cases hc1
  refine aU ?_;refine aq (hc:=h674 r (cF of[i]!).2.1) ?_;refine aB ?_;refine wp_cond (fun hc2=>?_) (fun hc2=>?_)
  ·try simp only[fu]at hc2
   refine aF ?_;refine cL ?_;have he:jZ r of[i]! =16:=by rw[jZ,ai hn1,av hc2]
   rw[hr,jF ae (by rw[he];decide),he]
  have hn2:¬((cF of[i]!).1=3/\uX r.needs (cF of[i]!).2.1=false):=by rintro⟨g1,g2⟩;rw[g1,g2]at hc2;cases hc2
  refine bP ?_;exact⟨i+1,⟨ae,by rw[hr,mB ae (by rw[jZ,ai hn1,ai hn2])]⟩,ae,(dn [(0,0)])⟩
 refine aF ?_;refine cL ?_;rw[hr,mA ae]
def OJ (Y:Ctx):Prop:=∀(r:Rec)(of:List au),(∀t∈of,t.length<=1048576)->Y.pre 460 [Rec.D r,.sl 1 (of.map D.str)]/\Y.val 460 [Rec.D r,.sl 1 (of.map D.str)]=.int .i64 (jb r of)
end Go.Abs
