/- A part of the proofs. -/
import Derived.Test.YtgnjlompgjhaaaaGreatDoorP07
set_option linter.all false
set_option maxRecDepth 4000
namespace Go.Abs
variable {Y:Ctx}(hm:(Y.at 0).bU)
def V3 (Y:Ctx):Prop:=∀(W w:List au) (nd:List Nd),w<:+W/\W.length<=1000->nd.length+2*w.length<=1000->nO Y 4 (iA W) 1097 [] w nd false (dK (jq w nd) w nd) Va
def FK (Y:Ctx)(u:Nat):Prop:=∀(W w:List au) (nd:List Nd),w<:+W/\W.length<=1000->nd.length+2*w.length<=1000->6*w.length+0<u->nO Y 4 (iA W) 1097 [] w nd false (dK (jq w nd) w nd) Va
def V2 (Y:Ctx):Prop:=∀(W w:List au) (nd:List Nd),w<:+W/\W.length<=1000->nd.length+2*w.length<=1000->nO Y 4 (iA W) 1032 [] w nd false (dK (jY w nd) w nd) Va
def MT (Y:Ctx)(u:Nat):Prop:=∀(W w:List au) (nd:List Nd),w<:+W/\W.length<=1000->nd.length+2*w.length<=1000->6*w.length+1<u->nO Y 4 (iA W) 1032 [] w nd false (dK (jY w nd) w nd) Va
def T0 (Y:Ctx):Prop:=∀(W w:List au) (nd:List Nd),w<:+W/\W.length<=1000->nd.length+2*w.length<=1000->nO Y 4 (iA W) 952 [] w nd false (dK (ik w nd) w nd) Va
def Sz (Y:Ctx)(u:Nat):Prop:=∀(W w:List au) (nd:List Nd),w<:+W/\W.length<=1000->nd.length+2*w.length<=1000->6*w.length+2<u->nO Y 4 (iA W) 952 [] w nd false (dK (ik w nd) w nd) Va
def kU:aD:=⟨1,8,fY,bR,(sq (r1 [gm bm] 1 0) (sq (sq (r1 [gm s0,gc l0,gf 3 l1,gd l2] 2 3) (lM s2 bm)) (sq (sq (r1 [gm s0,gn (.callM 1033 [l0,(cs [110,111,116])])] 3 1) (.cond s3 (sq (r1 [gm s0,gn (.callM 1097 [l0]),gm l1] 4 2) (sq (r1 [gm s0,gm s4,gn (.build [.int .i64 0,.int .i64 0,.int .i64 0,.int .i64 0,.str []] [(0,1,lQ),(1,1,l1)]),gn (.callM 1034 [l0,l2]),gm l3] 1 4) .ret)) .skip)) (sq (sq (r1 [gm s0,gn (.callM 1033 [l0,(cs [40])])] 5 1) (.cond s5 (sq (r1 [gm s0,gn (.callM 952 [l0]),gm l1] 7 2) (sq (sq (r1 [gm s0,gn (.callM 1033 [l0,(cs [41])]),kD l1] 6 2) (.cond s6 (rg [gm s0,gc l0,gf 3 l1,gt 1 l2 rV] []) .skip)) (sq (r1 [gm s7,gm l0] 1 1) .ret))) .skip)) (sq (r1 [gm s0,gn (.callM 1126 [l0]),gm l1] 1 2) .ret)))))⟩
def ZK {Y:Ctx}(hm:(Y.at 2).bU)(W:List au)(w:List au)(nd:List Nd)(h952:Sz (Y.at 2) (6*w.length))(h1033:Db (Y.at 2))(h1034:Al (Y.at 2))(h1097:FK (Y.at 2) (6*w.length))(h1126:MW (Y.at 2))(hp0:w<:+W/\W.length<=1000)(hp1:nd.length+2*w.length<=1000):bB (Y.at 2) kU.body (jT kU (wm 4 (iA W) (dK (jq w nd) w nd) Va):Ex->List bL->St->Prop) (fM kU [.ptr 0 4 0 0]) ⟨2,[(0,.buf 4 [iA W w (.own 1 5 0 nd.length) false]),(1,.buf 5 (nd.map Nd.D))]⟩:=by
 show bB _ _ _ [⟨true,.ptr 0 4 0 0⟩,.un,.un,.un,.un,.un,.un,.un] ⟨2,[(0,.buf 4 [iA W w (.own 1 5 0 nd.length) false]),(1,.buf 5 (nd.map Nd.D))]⟩;refine ak ?_;refine cU ?_;refine aw (fun hc0=>?_) (fun hc0=>?_)
 .skip
  exact absurd hc0 aG
 skip
 refine aF ?_;refine b8 (nx':=7) (v:=.bool (fT w pB)) (m':=[(0,.buf 4 [iA W (nE w pB) (.own 1 5 0 nd.length) false]),(1,.buf 5 (nd.map Nd.D))]) (hc:=fun K' hK=>h1033 pB W w nd false hp0 _ 0 1 _ K' ah ah (by simp only[az,aC];omega) (by simp only[az,aC];omega) (fun o ho=>by subst ho;exact hK)) (hn:=aG) ?_;refine aE ?_;refine aw (fun hc1=>?_) (fun hc1=>?_)
 .obtain⟨r,rfl⟩:=mP hc1;rw[kS];have hsr:r<:+W/\W.length<=1000:=⟨(List.suffix_cons _ r).trans hp0.1,hp0.2⟩;simp only[az]at hp1;refine aB ?_;refine fK (dK (jq r nd) r nd) Va 10 (fun o=>[(10,.buf 5 (o.nd.map Nd.D)),(0,.buf 4 [iA W o.w (.own 10 5 0 o.nd.length) o.bad])]) (fun o1 ho1=>?_) (hc:=fun K' hK=>h1097 W r nd hsr ae (by simp only[az];omega) _ 0 1 _ K' ah ah (by simp only[az,aC];omega) (by simp only[az,aC];omega) (fun o ho=>hK o ho)) (hn:=aG);have hl3:=ho1.2.2.1;have hl4:=ho1.2.1;refine aH ?_;refine bI (Nd.D (⟨2,o1.a,0,0,[]⟩:Nd)) ?_;refine b8 (nx':=14) (v:=.int .i64 (o1.nd.length:Nat)) (m':=[(16,.buf 5 ((o1.nd++[(⟨2,o1.a,0,0,[]⟩:Nd)]).map Nd.D)),(0,.buf 4 [iA W o1.w (.own 16 5 0 (o1.nd++[(⟨2,o1.a,0,0,[]⟩:Nd)]).length) o1.bad])]) (hc:=fun K' hK=>h1034 (⟨2,o1.a,0,0,[]⟩:Nd) W o1.w o1.nd o1.bad ae _ 0 10 _ K' ah ah (by simp only[az,aC];omega) (by simp only[az,aC];omega) (fun o ho=>by subst ho;exact hK)) (hn:=aG) ?_;refine aB ?_;refine cn trivial gu (cO ah (ar (D.int .i64) ?_)) ah ⟨⟨(o1.nd.length:Nat),o1.w,o1.nd++[(⟨2,o1.a,0,0,[]⟩:Nd)],o1.bad⟩,16,aG,Iw ho1,rfl,rfl,rfl⟩;rfl
 have hn1:fT w pB=false:=hc1;rw[ox hn1];refine aF ?_;refine b8 (nx':=9) (v:=.bool (fT w gw)) (m':=[(0,.buf 4 [iA W (nE w gw) (.own 1 5 0 nd.length) false]),(1,.buf 5 (nd.map Nd.D))]) (hc:=fun K' hK=>h1033 gw W w nd false hp0 _ 0 1 _ K' ah ah (by simp only[az,aC];omega) (by simp only[az,aC];omega) (fun o ho=>by subst ho;exact hK)) (hn:=aG) ?_;refine aE ?_;refine aw (fun hc2=>?_) (fun hc2=>?_)
 .obtain⟨r,rfl⟩:=mP hc2;rw[kS];have hsr:r<:+W/\W.length<=1000:=⟨(List.suffix_cons _ r).trans hp0.1,hp0.2⟩;simp only[az]at hp1;refine aB ?_;refine fK (dK (ik r nd) r nd) Va 12 (fun o=>[(12,.buf 5 (o.nd.map Nd.D)),(0,.buf 4 [iA W o.w (.own 12 5 0 o.nd.length) o.bad])]) (fun o1 ho1=>?_) (hc:=fun K' hK=>h952 W r nd hsr ae (by simp only[az];omega) _ 0 1 _ K' ah ah (by simp only[az,aC];omega) (by simp only[az,aC];omega) (fun o ho=>hK o ho)) (hn:=aG);refine aH ?_;refine b8 (nx':=15) (v:=.bool (fT o1.w kp)) (m':=[(12,.buf 5 (o1.nd.map Nd.D)),(0,.buf 4 [iA W (nE o1.w kp) (.own 12 5 0 o1.nd.length) o1.bad])]) (hc:=fun K' hK=>h1033 kp W o1.w o1.nd o1.bad ⟨ho1.2.Br hsr.1,hp0.2⟩ _ 0 12 _ K' ah ah (by simp only[az,aC];omega) (by simp only[az,aC];omega) (fun o ho=>by subst ho;exact hK)) (hn:=aG) ?_;refine ay ?_;refine aw (fun hc3=>?_) (fun hc3=>?_)
  .simp only[bK]at hc3;rw[ox hc3];refine aF ?_;refine a7 (iA W o1.w (.own 12 5 0 o1.nd.length) true) (he:=bg) ?_;refine aW ?_;refine cn trivial gu (cO ah (ar (D.int .i64) ?_)) ah ⟨⟨o1.a,o1.w,o1.nd,true⟩,12,aG,Cr ho1 hc3,rfl,rfl,rfl⟩;rfl
  simp only[ct]at hc3;obtain⟨q,hq⟩:=mP hc3;rw[show nE o1.w kp=q by rw[hq,kS]];refine aW ?_;refine cn trivial gu (cO ah (ar (D.int .i64) ?_)) ah ⟨⟨o1.a,q,o1.nd,o1.bad⟩,12,aG,LN ho1 hq,rfl,rfl,rfl⟩;rfl
 have hn2:fT w gw=false:=hc2;rw[ox hn2];refine aB ?_;refine fK (dK (yl w nd) w nd) Va 12 (fun o=>[(12,.buf 5 (o.nd.map Nd.D)),(0,.buf 4 [iA W o.w (.own 12 5 0 o.nd.length) o.bad])]) (fun o1 ho1=>?_) (hc:=fun K' hK=>h1126 W w nd hp0 hp1 _ 0 1 _ K' ah ah (by simp only[az,aC];omega) (by simp only[az,aC];omega) (fun o ho=>hK o ho)) (hn:=aG);rw[<-UD hn1 hn2]at ho1;refine aB ?_;refine cn trivial gu (cO ah (ar (D.int .i64) ?_)) ah ⟨o1,12,aG,ho1,rfl,rfl,rfl⟩;rfl
def j8:aD:=⟨1,5,fY,bR,(sq (r1 [gm bm] 1 0) (sq (r1 [gm s0,gn (.callM 1097 [l0]),gm l1] 3 2) (sq (.block 0 (.loop (sq (sq (r1 [gm s0,gc l0,gf 3 l1,gd l2,kD l3,gm l4,gmt 5 s0,bT 5 (.callM 1033 [l6,(cs [97,110,100])]),ei l5 l7] 2 8) (eO s2 0)) (.block 1 (sq (r1 [gm s0,gn (.callM 1097 [l0]),gm l1] 4 2) (r1 [gm s0,gm s3,gm s4,gn (.build [.int .i64 0,.int .i64 0,.int .i64 0,.int .i64 0,.str []] [(0,1,k9),(1,1,l1),(2,1,l2)]),gn (.callM 1034 [l0,l3]),gm l4] 3 5)))))) (sq (r1 [gm s3,gm l0] 1 1) .ret))))⟩
def ZE {Y:Ctx}(hm:(Y.at 2).bU)(W:List au)(w:List au)(nd:List Nd)(h1033:Db (Y.at 2))(h1034:Al (Y.at 2))(h1097:FK (Y.at 2) (6*w.length+1))(hp0:w<:+W/\W.length<=1000)(hp1:nd.length+2*w.length<=1000):bB (Y.at 2) j8.body (jT j8 (wm 4 (iA W) (dK (jY w nd) w nd) Va):Ex->List bL->St->Prop) (fM j8 [.ptr 0 4 0 0]) ⟨2,[(0,.buf 4 [iA W w (.own 1 5 0 nd.length) false]),(1,.buf 5 (nd.map Nd.D))]⟩:=by
 show bB _ _ _ [⟨true,.ptr 0 4 0 0⟩,.un,.un,.un,.un] ⟨2,[(0,.buf 4 [iA W w (.own 1 5 0 nd.length) false]),(1,.buf 5 (nd.map Nd.D))]⟩;have hgo:ta jq:=uw;have hun:jY w nd=ic jq kJ 3 w nd:=rfl;refine ak ?_;refine aF ?_;refine fK (dK (jq w nd) w nd) Va 4 (fun o=>[(4,.buf 5 (o.nd.map Nd.D)),(0,.buf 4 [iA W o.w (.own 4 5 0 o.nd.length) o.bad])]) (fun o0 ho0=>?_) (hc:=fun K' hK=>h1097 W w nd hp0 hp1 ae _ 0 1 _ K' ah ah (by simp only[az,aC];omega) (by simp only[az,aC];omega) (fun o ho=>hK o ho)) (hn:=aG);refine ay ?_;refine bc hm (ι:=PO) (fun o=>[⟨true,.ptr 0 4 0 0⟩,.un,.un,⟨true,.int .i64 o.a⟩,.un]) (fun o=>[(0,.buf 4 [iA W o.w (.own 2 5 0 o.nd.length) o.bad]),(2,.buf 5 (o.nd.map Nd.D))]) 7 (fun o=>FD jq kJ 3 (jY w nd) w nd o) (fun o=>o.w.length) o0 (FD.first ho0) (aU.to [(4,2)] ah ah dV (by refine fj ?_;refine bh.nl 4 ah ah ah dW ?_;exact bh.nil)) ?_;rintro⟨a,w1,nd1,bad⟩ hI;dsimp only;have hpb:=hI.2;have hl1:=hpb.1;have hl2:=hpb.2.1;dsimp only at hl1 hl2;have hsw:w1<:+W/\W.length<=1000:=⟨hpb.Br hp0.1,hp0.2⟩;refine ay ?_;cases bad
 .refine aW ?_;refine A8 (ι:=PO) (ai9:=[.ptr 0 4 0 0,.str kJ]) (fun o=>o=⟨0,nE w1 kJ,nd1,false⟩) (fun _=>.bool (fT w1 kJ)) 7 (fun o=>[(0,.buf 4 [iA W o.w (.own 2 5 0 nd1.length) o.bad]),(2,.buf 5 (nd1.map Nd.D))]) (fun o2 ho2=>?_) (hc:=fun K' hK=>h1033 kJ W w1 nd1 false hsw _ 0 2 _ K' ah ah (by simp only[az,aC];omega) (by simp only[az,aC];omega) (fun o ho=>hK o ho)) (hn:=aG);subst ho2;dsimp only;refine ay ?_;refine aw (fun hc0=>?_) (fun hc0=>?_)
  .obtain⟨r,rfl⟩:=mP (s:=kJ) hc0;rw[kS];have hsr:r<:+W/\W.length<=1000:=⟨(List.suffix_cons _ r).trans hsw.1,hp0.2⟩;simp only[az]at hl1 hl2;refine aF ?_;refine fK (dK (jq r nd1) r nd1) Va 17 (fun o=>[(17,.buf 5 (o.nd.map Nd.D)),(0,.buf 4 [iA W o.w (.own 17 5 0 o.nd.length) o.bad])]) (fun o2 ho2=>?_) (hc:=fun K' hK=>h1097 W r nd1 hsr ae ae _ 0 2 _ K' ah ah (by simp only[az,aC];omega) (by simp only[az,aC];omega) (fun o ho=>hK o ho)) (hn:=aG);have hl3:=ho2.2.2.1;have hl4:=ho2.2.1;refine aH ?_;refine bI (Nd.D (⟨3,a,o2.a,0,[]⟩:Nd)) ?_;refine b8 (nx':=21) (v:=.int .i64 (o2.nd.length:Nat)) (m':=[(24,.buf 5 ((o2.nd++[(⟨3,a,o2.a,0,[]⟩:Nd)]).map Nd.D)),(0,.buf 4 [iA W o2.w (.own 24 5 0 (o2.nd++[(⟨3,a,o2.a,0,[]⟩:Nd)]).length) o2.bad])]) (hc:=fun K' hK=>h1034 (⟨3,a,o2.a,0,[]⟩:Nd) W o2.w o2.nd o2.bad ae _ 0 17 _ K' ah ah (by simp only[az,aC];omega) (by simp only[az,aC];omega) (fun o ho=>by subst ho;exact hK)) (hn:=aG) ?_;refine aF ?_;exact⟨⟨(o2.nd.length:Nat),o2.w,o2.nd++[(⟨3,a,o2.a,0,[]⟩:Nd)],o2.bad⟩,FD.next hgo hI ho2,by dsimp only;simp only[az];omega,(aU.to [(24,2)] ah ah dV (by refine fj ?_;refine bh.nl 24 ah ah ah dW ?_;exact bh.nil))⟩
  have hnb:fT w1 kJ=false:=hc0;rw[ox hnb];have hx:false=true\/w1.head? ≠some kJ:=.inr (yQ hnb);refine aW ?_;refine cn trivial gu (cO ah (ar (D.int .i64) ?_)) ah ⟨⟨a,w1,nd1,false⟩,2,aG,hI.last hx,rfl,rfl,rfl⟩;rfl
 .refine aW ?_;refine IF ?_;refine Pn (t:=false) ?_;refine aE ?_;refine aw (fun hc0=>?_) (fun hc0=>?_)
  .skip
   exact absurd hc0 aG
  have hx:true=true\/w1.head? ≠some kJ:=.inl rfl;refine aW ?_;refine cn trivial gu (cO ah (ar (D.int .i64) ?_)) ah ⟨⟨a,w1,nd1,true⟩,2,aG,hI.last hx,rfl,rfl,rfl⟩;rfl
def jd:aD:=⟨1,5,fY,bR,(sq (r1 [gm bm] 1 0) (sq (r1 [gm s0,gn (.callM 1032 [l0]),gm l1] 3 2) (sq (.block 0 (.loop (sq (sq (r1 [gm s0,gc l0,gf 3 l1,gd l2,kD l3,gm l4,gmt 5 s0,bT 5 (.callM 1033 [l6,(cs [111,114])]),ei l5 l7] 2 8) (eO s2 0)) (.block 1 (sq (r1 [gm s0,gn (.callM 1032 [l0]),gm l1] 4 2) (r1 [gm s0,gm s3,gm s4,gn (.build [.int .i64 0,.int .i64 0,.int .i64 0,.int .i64 0,.str []] [(0,1,rX),(1,1,l1),(2,1,l2)]),gn (.callM 1034 [l0,l3]),gm l4] 3 5)))))) (sq (r1 [gm s3,gm l0] 1 1) .ret))))⟩
def w952 {Y:Ctx}(hm:(Y.at 2).bU)(W:List au)(w:List au)(nd:List Nd)(h1032:MT (Y.at 2) (6*w.length+2))(h1033:Db (Y.at 2))(h1034:Al (Y.at 2))(hp0:w<:+W/\W.length<=1000)(hp1:nd.length+2*w.length<=1000):bB (Y.at 2) jd.body (jT jd (wm 4 (iA W) (dK (ik w nd) w nd) Va):Ex->List bL->St->Prop) (fM jd [.ptr 0 4 0 0]) ⟨2,[(0,.buf 4 [iA W w (.own 1 5 0 nd.length) false]),(1,.buf 5 (nd.map Nd.D))]⟩:=by
 show bB _ _ _ [⟨true,.ptr 0 4 0 0⟩,.un,.un,.un,.un] ⟨2,[(0,.buf 4 [iA W w (.own 1 5 0 nd.length) false]),(1,.buf 5 (nd.map Nd.D))]⟩;have hgo:ta jY:=yc;have hun:ik w nd=ic jY pI 4 w nd:=rfl;refine ak ?_;refine aF ?_;refine fK (dK (jY w nd) w nd) Va 4 (fun o=>[(4,.buf 5 (o.nd.map Nd.D)),(0,.buf 4 [iA W o.w (.own 4 5 0 o.nd.length) o.bad])]) (fun o0 ho0=>?_) (hc:=fun K' hK=>h1032 W w nd hp0 hp1 ae _ 0 1 _ K' ah ah (by simp only[az,aC];omega) (by simp only[az,aC];omega) (fun o ho=>hK o ho)) (hn:=aG);refine ay ?_;refine bc hm (ι:=PO) (fun o=>[⟨true,.ptr 0 4 0 0⟩,.un,.un,⟨true,.int .i64 o.a⟩,.un]) (fun o=>[(0,.buf 4 [iA W o.w (.own 2 5 0 o.nd.length) o.bad]),(2,.buf 5 (o.nd.map Nd.D))]) 7 (fun o=>FD jY pI 4 (ik w nd) w nd o) (fun o=>o.w.length) o0 (FD.first ho0) (aU.to [(4,2)] ah ah dV (by refine fj ?_;refine bh.nl 4 ah ah ah dW ?_;exact bh.nil)) ?_;rintro⟨a,w1,nd1,bad⟩ hI;dsimp only;have hpb:=hI.2;have hl1:=hpb.1;have hl2:=hpb.2.1;dsimp only at hl1 hl2;have hsw:w1<:+W/\W.length<=1000:=⟨hpb.Br hp0.1,hp0.2⟩;refine ay ?_;cases bad
 .refine aW ?_;refine A8 (ι:=PO) (ai9:=[.ptr 0 4 0 0,.str pI]) (fun o=>o=⟨0,nE w1 pI,nd1,false⟩) (fun _=>.bool (fT w1 pI)) 7 (fun o=>[(0,.buf 4 [iA W o.w (.own 2 5 0 nd1.length) o.bad]),(2,.buf 5 (nd1.map Nd.D))]) (fun o2 ho2=>?_) (hc:=fun K' hK=>h1033 pI W w1 nd1 false hsw _ 0 2 _ K' ah ah (by simp only[az,aC];omega) (by simp only[az,aC];omega) (fun o ho=>hK o ho)) (hn:=aG);subst ho2;dsimp only;refine ay ?_;refine aw (fun hc0=>?_) (fun hc0=>?_)
  .obtain⟨r,rfl⟩:=mP (s:=pI) hc0;rw[kS];have hsr:r<:+W/\W.length<=1000:=⟨(List.suffix_cons _ r).trans hsw.1,hp0.2⟩;simp only[az]at hl1 hl2;refine aF ?_;refine fK (dK (jY r nd1) r nd1) Va 17 (fun o=>[(17,.buf 5 (o.nd.map Nd.D)),(0,.buf 4 [iA W o.w (.own 17 5 0 o.nd.length) o.bad])]) (fun o2 ho2=>?_) (hc:=fun K' hK=>h1032 W r nd1 hsr ae ae _ 0 2 _ K' ah ah (by simp only[az,aC];omega) (by simp only[az,aC];omega) (fun o ho=>hK o ho)) (hn:=aG);have hl3:=ho2.2.2.1;have hl4:=ho2.2.1;refine aH ?_;refine bI (Nd.D (⟨4,a,o2.a,0,[]⟩:Nd)) ?_;refine b8 (nx':=21) (v:=.int .i64 (o2.nd.length:Nat)) (m':=[(24,.buf 5 ((o2.nd++[(⟨4,a,o2.a,0,[]⟩:Nd)]).map Nd.D)),(0,.buf 4 [iA W o2.w (.own 24 5 0 (o2.nd++[(⟨4,a,o2.a,0,[]⟩:Nd)]).length) o2.bad])]) (hc:=fun K' hK=>h1034 (⟨4,a,o2.a,0,[]⟩:Nd) W o2.w o2.nd o2.bad ae _ 0 17 _ K' ah ah (by simp only[az,aC];omega) (by simp only[az,aC];omega) (fun o ho=>by subst ho;exact hK)) (hn:=aG) ?_;refine aF ?_;exact⟨⟨(o2.nd.length:Nat),o2.w,o2.nd++[(⟨4,a,o2.a,0,[]⟩:Nd)],o2.bad⟩,FD.next hgo hI ho2,by dsimp only;simp only[az];omega,(aU.to [(24,2)] ah ah dV (by refine fj ?_;refine bh.nl 24 ah ah ah dW ?_;exact bh.nil))⟩
  have hnb:fT w1 pI=false:=hc0;rw[ox hnb];have hx:false=true\/w1.head? ≠some pI:=.inr (yQ hnb);refine aW ?_;refine cn trivial gu (cO ah (ar (D.int .i64) ?_)) ah ⟨⟨a,w1,nd1,false⟩,2,aG,hI.last hx,rfl,rfl,rfl⟩;rfl
 .refine aW ?_;refine IF ?_;refine Pn (t:=false) ?_;refine aE ?_;refine aw (fun hc0=>?_) (fun hc0=>?_)
  .skip
   exact absurd hc0 aG
  have hx:true=true\/w1.head? ≠some pI:=.inl rfl;refine aW ?_;refine cn trivial gu (cO ah (ar (D.int .i64) ?_)) ah ⟨⟨a,w1,nd1,true⟩,2,aG,hI.last hx,rfl,rfl,rfl⟩;rfl
def Ew:aD:=⟨1,8,[⟨1,some (1,true)⟩,⟨2,none⟩],[[.sl 5 [.a,.a,.a,.a,.a]],[.a]],(sq (rg [gb 1 (.c (.agg [.aA])),gm bm] [(1,0),(2,1)]) (sq (sq (r1 [gm s0,px l0,cR l1 (i6 96)] 3 2) (.cond s3 (sq (r1 [gn (.build [.aA] []),gt 1 s1 l0,gm k9] 2 2) .ret) .skip)) (sq (sq (r1 [gm s0,aL l0 cse] 4 1) (.cond s4 (sq (r1 [gn (.build [.aA] []),gt 1 s1 l0,gm bm] 2 2) .ret) .skip)) (sq (r1 [gm s0,gx 470 [l0,(i8 32)] gA,gn (.build [.aA,.int .i64 0,.aA,.bool false] [(0,1,l1)]),gb 4 l2,gm l3] 5 4) (sq (rg [gm s5,gn (.callM 952 [l0])] []) (sq (r1 [gm s5,gc l0,gf 2 l1,gd l2,gn (.build [.aA] [(0,1,l3)]),gb 1 (.c (.agg [.aA])),gt 1 l5 l4] 6 5) (sq (sq (r2 [gm s5,gc l0,gf 3 l1,gd l2,gm l3,eW 4 s5,cF 4 (.nilck l5),jQ 4 1 l6,lN 4 l7,eW 4 s5,cF 4 (.nilck l9),jQ 4 0 l10,lN 4 gF,cF 4 (.len iU),cF 4 (po l8 jR),fC l4 kE,gm me,cF 16 (.ld 1 true s6),cF 16 (.call 953 [rF] [[.sl 5 [.a,.a,.a,.a,.a]]]),cF 16 (.un .not sY),fC nC uc] 7 20) (.cond s7 (sq (r1 [gn (.build [.aA] []),gt 1 s1 l0,gm MO] 2 2) .ret) .skip)) (sq (r1 [gk 1 true s6,gt 1 s1 l0,gm bm] 2 2) .ret))))))))⟩
def w813 {Y:Ctx}(hm:(Y.at 0).bU)(h470:FO Y)(h952:T0 Y)(h953:T1 Y)(s:au)   :cZ Y Ew (.tup [kA (lD s).1,.int .i64 (lD s).2]) [.str s]:=by
 show bB _ _ _ [⟨_,_⟩,_,_,_,_,_,_,_] _;refine ak ?_;refine aH ?_;refine lL ?_;refine ay ?_;refine cC (fun hc0=>?_) fun hc0=>?_
 .refine ay ?_;refine cW [.aA] ?_;refine a7 (.agg [.aA]) (he:=bg) ?_;refine aB ?_;refine bE (aN ?_ (ar (D.int .i64) ?_));all_goals (have hq:lD s=([],3):=(by simp only[lD];rw[ax ae]);rw[hq];first|done|rfl)
 refine aH ?_;refine aw (fun hc1=>?_) (fun hc1=>?_)
 .try simp only[eh]at hc1
  refine ay ?_;refine cW [.aA] ?_;refine a7 (.agg [.aA]) (he:=bg) ?_;refine aB ?_;refine bE (aN ?_ (ar (D.int .i64) ?_));all_goals (have hq:lD s=([],0):=(by simp only[lD];rw[ai ae,ax hc1]);rw[hq];first|done|rfl)
 simp only[bA]at hc1;have hnl:¬96<s.length:=ae;have hsl:=eL s 32;refine aB ?_;refine aj (hc:=h470 s 32 ae) ?_;refine bI (iA (aq s 32) (aq s 32) .aA false) (hv:=fun _=>by show D.agg _=D.agg _;rw[Nat.sub_self];rfl) ?_;refine aB ?_;refine eX (aU.to (env':=[⟨true,.str s⟩,⟨true,.ptr 0 1 0 0⟩,.un,.un,.un,⟨true,.ptr 1 4 0 0⟩,.un,.un]) (c:=20) (nx':=20) (m':=[(0,.buf 1 [.agg [.aA]]),(1,.buf 4 [iA (aq s 32)  (aq s 32) (.own 2 5 0 ([]:List Nd).length) false]),(2,.buf 5 (([]:List Nd).map Nd.D))]) [(0,0),(10,1)] rfl ah dV (by refine bh.gE ah ah ah ?_;refine bh.ni 10 ah ah (by exact⟨_,_,rfl,⟨_,rfl,⟨_,_,rfl,⟨rfl,rfl⟩,⟨_,_,rfl,⟨rfl,rfl⟩,⟨_,_,rfl,Or.inr ⟨_,_,_,rfl⟩,⟨_,_,rfl,⟨rfl,rfl⟩,rfl⟩⟩⟩⟩⟩,rfl⟩) ?_;refine bh.mt ah ah ah ah ?_;exact bh.nil)) ?_;refine ay ?_;refine fK (dK (ik (aq s 32) []) (aq s 32) []) Va 21 (fun o=>[(21,.buf 5 (o.nd.map Nd.D)),(0,.buf 1 [.agg [.aA]]),(1,.buf 4 [iA (aq s 32) o.w (.own 21 5 0 o.nd.length) o.bad])]) (fun o1 ho1=>?_) (hc:=fun K' hK=>h952 (aq s 32) (aq s 32) [] ⟨HC _,ae⟩ (by simp only[aC];omega) _ 1 2 _ K' ah ah (by simp only[az,aC];omega) (by simp only[az,aC];omega) (fun o ho=>hK o ho)) (hn:=aG);refine aE ?_;refine fV 21 ?_ (he:=by simp only[sX,mJ,oe,uy,yu,dy,Nat.reduceEqDiff,bo,br,fR,dS,dT,fP,fQ,cd,cb,aS,de,bX,reduceCtorEq,az,aC,Nat.reduceAdd,Nat.reduceLeDiff,iA];exact rfl) (hm:=by simp only[sX,mJ,oe,uy,yu,dy,Nat.reduceEqDiff,bo,br,fR,dS,dT,fP,fQ,cd,cb,aS,de,bX,reduceCtorEq,az,aC,Nat.reduceAdd,Nat.reduceLeDiff,iA];exact rfl);refine aF ?_;refine bD (v:=.sl 5 (o1.nd.map Nd.D)) ?_;refine bI (kA o1.nd) ?_;refine aE ?_;refine a7 (kA o1.nd) (he:=bg) ?_;refine aH ?_;refine bD (v:=.bool o1.bad) ?_;refine aF ?_;refine bD (v:=.int .i64 (((aq s 32).length-o1.w.length:Nat):Int)) ?_;refine aB ?_;refine bD (v:=.sl 1 ((aq s 32).map D.str)) ?_;refine lL ?_;refine aB ?_;refine cH (d:=kA o1.nd) ?_;refine aj (hc:=h953 o1.nd) ?_;refine aB ?_;refine aw (fun hc2=>?_) (fun hc2=>?_)
 .have hwl:=ho1.2.1;have hlt:decide ((((aq s 32).length-o1.w.length:Nat):Int)<((aq s 32).length:Nat))=decide ((0:Int)<(o1.w.length:Nat)):=gY.2 ae;rw[hlt]at hc2;have hmx:=OA ho1 hc2;refine ay ?_;refine cW [.aA] ?_;refine a7 (.agg [.aA]) (he:=bg) ?_;refine aB ?_;refine bE (aN ?_ (ar (D.int .i64) ?_));all_goals (have hq:=Ij hnl hc1 hmx;rw[hq];first|done|rfl)
 have hwl:=ho1.2.1;have hlt:decide ((((aq s 32).length-o1.w.length:Nat):Int)<((aq s 32).length:Nat))=decide ((0:Int)<(o1.w.length:Nat)):=gY.2 ae;rw[hlt]at hc2;have hmx:=Il ho1 hc2;refine ay ?_;refine cH (d:=kA o1.nd) ?_;refine a7 (kA o1.nd) (he:=bg) ?_;refine aB ?_;refine bE (aN ?_ (ar (D.int .i64) ?_));all_goals (have hq:=Ik hnl hc1 hmx;rw[hq];first|done|rfl)
def Xk (Y:Ctx):Prop:=xq (bq Y 813)
def Ey:aD:=⟨1,4,fY,bR,(sq (r1 [gm dJ] 1 0) (sq (rg [gm s0,gx 813 [l0] bR,gm l1,ge l2 0,ge l2 1,gb 1 (.c (.agg [.aA])),gt 1 l5 l3,gm l4] [(3,5),(2,7)]) (sq (r1 [gm s2,aL l0 bm,gm l1,bT 2 (.ld 1 true s3),bT 2 (.call 814 [l3] [[.sl 5 [.a,.a,.a,.a,.a]]]),gmt 2 s0,bT 2 (cB l4 l5),ei l2 l6,gm l7] 1 8) .ret)))⟩
def w670 {Y:Ctx}(hm:(Y.at 0).bU)(h813:Xk Y)(h814:Xl Y)(s:au)   :cZ Y Ey (.bool (oZ s)) [.str s]:=by
 show bB _ _ _ [⟨_,_⟩,_,_,_] _;refine ak ?_;refine aF ?_;refine aj (hc:=h813 s) ?_;refine aE ?_;refine kG (kA _) ?_;refine ay ?_;refine a7 (kA (lD s).1) (he:=bg) ?_;refine aH ?_;refine cH (d:=kA (lD s).1) ?_;refine aj (hc:=h814 (lD s).1) ?_;refine aH ?_;exact bQ rfl
def TJ (Y:Ctx):Prop:=xi (bq Y 670)
def JL (T:List D->D->Prop):Prop:=∀(l:List au),(l.length<=1048600)->T [.sl 1 (l.map D.str)] (.sl 1 (l.map D.str))
def WG (Y:Ctx):Prop:=JL (bq Y 469)
def qw:aD:=⟨2,2,[],[],(sq (rg [gm s0,gm s1,gx 242 [l1,(cs [32])] [[.sl 1 [.a]],[.a]],gn (.callM 489 [l0,l2])] []) (rg [gm s0,gn (.callM 664 [l0,(i8 10)])] []))⟩
def w450 {Y:Ctx}(hm:(Y.at 3).bU)(ws:List au)(t:au)(m0:List (Nat×bG))(h242:Qt (Y.at 3))(h489:Qz (Y.at 3))(h664:TG (Y.at 3))(hp0:rO m0 0 t)(hp1:look m0 1=some (.buf 1 (ws.map D.str)))(hp2:BJ ws t):bB (Y.at 3) qw.body (jT qw (fun d m=>d=.tup []/\look m 0=some (.bld (some 9) (t++bV ws).length true)/\look m 9=some (.row (t++bV ws))):Ex->List bL->St->Prop) (fM qw [.ptr 0 2 0 0,.own 1 1 0 ws.length]) ⟨3,m0⟩:=by
 show bB _ _ _ [⟨true,.ptr 0 2 0 0⟩,⟨true,.own 1 1 0 ws.length⟩] ⟨3,m0⟩;obtain⟨⟨q1,q2⟩,q3,q4⟩:=hp2;have hlt:t++bV ws=t++aT [32] ws++[10]:=by unfold bV;simp
 refine ak ?_;refine ay ?_;refine aj (hc:=h242 ws [32] q2 aG q3) (ha:=fun _=>ar (fun d=>[d,D.str [32]]) (nL (q:=D.str) (fun _=>rfl) hp1)) (hp:=fun _=>⟨lK (q:=D.str) (fun _=>rfl) hp1,rfl,trivial⟩) ?_;refine b8 (nx':=4) (v:=.any) (m':=pQ m0 0 6 (t++aT [32] ws)) (hc:=fun K' hK=>h489 _ _ K' ⟨_,0,t,rfl,hp0,eF (by decide:0<3) (Nat.le_add_right _ _),q1,ae,hK⟩) (hn:=aG) ?_;refine aB ?_;refine b8 (nx':=9) (v:=.any) (m':=pQ (pQ m0 0 6 (t++aT [32] ws)) 0 9 (t++aT [32] ws++[10])) (hc:=fun K' hK=>h664 _ _ K' ⟨10,0,t++aT [32] ws,rfl,QP aG,eF (by decide:0<8) (Nat.le_add_right _ _),aQ,by rw[bJ];exact q4,hK⟩) (hn:=aG) ?_;refine aE ?_

 refine cn trivial gu (cO ah (?_)) ah ⟨rfl,by rw[hlt];exact(uM aG).1,by rw[hlt];exact(uM aG).2⟩;rfl
def Et:aD:=⟨1,31,fY,bR,(sq (rg [gb 9 s0,gm cse] [(2,0),(1,1)]) (sq (r1 [⟨.mkB,none⟩] 3 0) (sq (rt [gf 0 s2,gd l0,gf 1 s2,gk 5 true l2,gx 451 [l3] zZ,gn (.bsl 1 (.str []) 3 [(0,(cs [112,97,99,107,97,103,101])),(1,l1),(2,l4)]),gn (.callM 450 [s3,l5])] []) (sq (sq (rg [gf 6 s2,gd l0,gl l1,gm bm] [(7,1),(5,2),(4,3)]) (.block 0 (.loop (sq (r1 [aP s4 s5] 6 0) (sq (eO s6 0) (sq (.block 1 (sq (r1 [ga 3 s7 s4,gk 3 true l0,gb 3 (.c (.agg [.aA,.str [],.str []])),gt 3 l2 l1] 8 2) (sq (rg [gn (.bsl 1 (.str []) 1 [(0,(cs [110,101,101,100]))]),gn (.callM 450 [s3,l0])] []) (sq (sq (rg [gf 0 s8,gd l0,gl l1,gm bm] [(12,1),(10,2),(9,3)]) (.block 2 (.loop (sq (r1 [aP s9 iQ] 11 0) (sq (eO kH 2) (sq (.block 3 (sq (r1 [ga 4 mS s9,gk 4 true l0,gb 4 (.c (.agg [.str [],.str [],.aA,.bool false])),gt 4 l2 l1] 13 2) (sq (rg [gm (cs [45]),gm (cs [102,117,108,108])] [(16,0),(17,1)]) (sq (sq (r1 [gf 2 rJ,gd l0,gl l1,cR l2 bm] 14 3) (.cond rK (r1 [gf 2 rJ,gd l0,gx 242 [l1,(cs [44])] [[.sl 1 [.a]],[.a]],gm l2] 16 3) .skip)) (sq (sq (r1 [gf 3 rJ,gd l0] 15 1) (.cond xa (r1 [gm (cs [98,97,114,101])] 17 0) .skip)) (rg [gf 0 rJ,gd l0,gm FI,gm ET,gf 1 rJ,gd l4,gn (.bsl 1 (.str []) 5 [(0,(cs [97,110,121])),(1,l1),(2,l2),(3,l3),(4,l5)]),gn (.callM 450 [s3,l6])] [])))))) (r1 [av s9 b7,gm l0] 9 1))))))) (sq (sq (r1 [gf 1 s8,gd l0,cj l1 cse] 18 2) (.cond Ml (rg [gf 1 s8,gd l0,gn (.bsl 1 (.str []) 2 [(0,(cs [119,104,101,110])),(1,l1)]),gn (.callM 450 [s3,l2])] []) .skip)) (sq (r1 [gf 2 s8,gd l0,cj l1 cse] 19 2) (.cond VB (rg [gf 2 s8,gd l0,gn (.bsl 1 (.str []) 2 [(0,(cs [111,112,116,105,111,110])),(1,l1)]),gn (.callM 450 [s3,l2])] []) .skip))))))) (r1 [av s4 b7,gm l0] 4 1))))))) (sq (sq (rg [gf 7 s2,gd l0,gl l1,gm bm] [(23,1),(21,2),(20,3)]) (.block 4 (.loop (sq (r1 [aP IW VZ] 22 0) (sq (eO V0 4) (sq (.block 5 (sq (r1 [ga 3 s23 IW,gk 3 true l0,gb 3 (.c (.agg [.str [],.str [],.str []])),gt 3 l2 l1] 24 2) (sq (rg [gf 0 VC,gd l0,gf 1 VC,gd l2,gn (.bsl 1 (.str []) 3 [(0,(cs [98,97,114])),(1,l1),(2,l3)]),gn (.callM 450 [s3,l4])] []) (sq (r1 [gf 2 VC,gd l0,cj l1 cse] 25 2) (.cond V1 (rg [gf 2 VC,gd l0,gn (.bsl 1 (.str []) 2 [(0,(cs [119,104,101,110])),(1,l1)]),gn (.callM 450 [s3,l2])] []) .skip))))) (r1 [av IW b7,gm l0] 20 1))))))) (sq (sq (rg [gf 8 s2,gd l0,gl l1,gm bm] [(29,1),(27,2),(26,3)]) (.block 6 (.loop (sq (r1 [aP Zs s27] 28 0) (sq (eO s28 6) (sq (.block 7 (sq (r1 [ga 2 s29 Zs,gk 2 true l0,gb 2 (.c (.agg [.str [],.aA])),gt 2 l2 l1] 30 2) (rg [gf 0 S5,gd l0,gn (.bsl 1 (.str []) 2 [(0,(cs [102,101,97,116,117,114,101])),(1,l1)]),gf 1 S5,gd l3,gn (.app 1 l2 l4),gn (.callM 450 [s3,l5])] []))) (r1 [av Zs b7,gm l0] 26 1))))))) (sq (r1 [gn (.callM 452 [s3]),gm l0] 1 1) .ret)))))))⟩
def w215 (h242:Qt Y)(h450:Tu Y)(h451:Wu Y)(h452:Qv Y)(r:Rec)  (hp0:vQ r/\ew r):cZ Y Et (.str (fq r)) [Rec.D r]:=by
 show bB _ _ _ [⟨_,_⟩,_,_,_,_,_,_,_,_,_,_,_,_,_,_,_,_,_,_,_,_,_,_,_,_,_,_,_,_,_,_] _;have hft:=rb hp0;have q0:=hft.nm;have q00:=zD r.v hft.v;have hs:=hp0.2;refine ak ?_;refine iw ?_;refine bD (v:=c9.D r.v) ?_;refine aj (hc:=h451 r.v hft.v) ?_;refine cS [(.str _),(.str _),(.str _)] ?_;refine b8 (nx':=4) (v:=.tup []) (m':=[(9,.row (py r)),(0,.buf 9 [Rec.D r]),(2,.bld (some 9) (py r).length true)]) (hc:=fun K' hK=>h450 [jk,r.name,jN r.v] ([]) 2 8 _ _ K' (.inl ⟨false,bg,rfl⟩) ah (by simp only[az,aC];omega) (by simp only[az,aC];omega) (.mk aG (by simp only[az,aC,eN,eS];omega) (dq.2 ⟨aG,dq.2 ⟨ae,dq.2 ⟨ae,fun _ h=>nomatch h⟩⟩⟩) (by first|omega|(simp only[bJ,aC];omega))) (by rw[show([])++bV [jk,r.name,jN r.v]=py r from rfl];exact hK)) (hn:=aG) ?_;refine aH ?_;intro u0;refine ay ?_;refine bc hm (ι:=Nat) (fun i=>[.un,.un,⟨true,.ptr 0 9 0 0⟩,⟨true,.ptr 2 2 0 0⟩,⟨true,.int .i64 (i:Nat)⟩,⟨true,.int .i64 (r.needs.length:Nat)⟩,.un,⟨true,.sl 3 (r.needs.map bS.D)⟩,.un,.un,.un,.un,.un,.un,.un,.un,.un,.un,.un,.un,.un,.un,.un,.un,.un,.un,.un,.un,.un,.un,.un]) (fun i=>[(0,.buf 9 [Rec.D r]),(2,.bld (some 3) (jS r i).length true),(3,.row (jS r i))]) 10 (fun i=>i<=r.needs.length) (fun i=>r.needs.length-i) 0 ae (aU.to [(0,0),(2,2),(9,3)] ah ah dV (by refine bh.gE ah ah ah ?_;refine bh.bl 2 ah ah ah (ar List.length (by rw[P6])) rfl ?_;refine bh.rw 9 ah ah (by rw[P6]) ?_;exact bh.nil)) ?_;intro i hi;have q1:=CR hft i hi;refine aB ?_;refine cC (fun hc0=>?_) fun hc0=>?_
 .refine aB ?_;have hnf:=hft.n _ (bw (show i<r.needs.length by omega));have hn3:=hnf.1.1;refine aE ?_;refine cE (v:=bS.D r.needs[i]!) (hi:=fun _=>ae) ?_;refine aE ?_;refine a7 (bS.D r.needs[i]!) (he:=bg) ?_;refine ay ?_;refine cS [(.str _)] ?_;refine b8 (nx':=16) (v:=.tup []) (m':=[(16,.row (jS r i++dG r.needs[i]! 0)),(0,.buf 9 [Rec.D r]),(2,.bld (some 16) (jS r i++dG r.needs[i]! 0).length true),(13,.buf 3 [bS.D r.needs[i]!])]) (hc:=fun K' hK=>h450 [ko] (jS r i) 2 15 _ _ K' (.inr ⟨3,true,bg,bg⟩) ah (by simp only[az,aC];omega) (by simp only[az,aC];omega) (.mk aG (by simp only[az,aC,eN,eS];omega) (dq.2 ⟨aG,fun _ h=>nomatch h⟩) (by first|omega|(simp only[bJ,aC];omega))) (by rw[show(jS r i)++bV [ko]=jS r i++dG r.needs[i]! 0 from rfl];exact hK)) (hn:=aG) ?_;refine aH ?_;intro u1;refine ay ?_;refine bc hm (ι:=Nat) (fun j=>[.un,.un,⟨true,.ptr 0 9 0 0⟩,⟨true,.ptr 2 2 0 0⟩,⟨true,.int .i64 (i:Nat)⟩,⟨true,.int .i64 (r.needs.length:Nat)⟩,.un,⟨true,.sl 3 (r.needs.map bS.D)⟩,⟨true,.ptr 4 3 0 0⟩,⟨true,.int .i64 (j:Nat)⟩,⟨true,.int .i64 (r.needs[i]!.any.length:Nat)⟩,.un,⟨true,.sl 4 (r.needs[i]!.any.map cg.D)⟩,.un,.un,.un,.un,.un,.un,.un,.un,.un,.un,.un,.un,.un,.un,.un,.un,.un,.un]) (fun j=>[(0,.buf 9 [Rec.D r]),(4,.buf 3 [bS.D r.needs[i]!]),(2,.bld (some 3) (jS r i++dG r.needs[i]! j).length true),(3,.row (jS r i++dG r.needs[i]! j))]) 20 (fun j=>j<=r.needs[i]!.any.length) (fun j=>r.needs[i]!.any.length-j) 0 ae (aU.to [(0,0),(13,4),(2,2),(16,3)] ah ah dV (by refine bh.gE ah ah ah ?_;refine bh.nl 13 ah ah rfl ah ?_;refine bh.bl 2 ah ah ah (ar List.length (rfl)) rfl ?_;refine bh.rw 16 ah ah (rfl) ?_;exact bh.nil)) ?_;intro j hj;have q2:=AZ hnf j ae;refine aB ?_;refine cC (fun hc1=>?_) fun hc1=>?_
  .refine aB ?_;have hwf:=hnf.1.2 _ (bw (show j<r.needs[i]!.any.length by omega));have q3:=CZ hwf;have q4:=hwf.1.1.1;have q5:=hwf.1.1.2;refine aE ?_;refine cE (v:=cg.D r.needs[i]!.any[j]!) (hi:=fun _=>ae) ?_;refine aE ?_;refine a7 (cg.D r.needs[i]!.any[j]!) (he:=bg) ?_;refine iw ?_;intro u2;refine ay ?_;refine cC (fun hc2=>?_) fun hc2=>?_
   .refine aB ?_;refine aj (hc:=h242 r.needs[i]!.any[j]!.feats [44] (by have:=hwf.2.1;omega) aG (fun t ht=>by have:=hwf.2.2 t ht;omega)) ?_;refine aW ?_;refine cC (fun hc3=>?_) fun hc3=>?_
    .refine aF ?_;have hwl:bV [kB,r.needs[i]!.any[j]!.name,(aT [44] r.needs[i]!.any[j]!.feats),iV,r.needs[i]!.any[j]!.range]=iX r.needs[i]!.any[j]! :=by
      unfold iX iv;first|rw[ax (show r.needs[i]!.any[j]!.feats.length=0 by omega)]|rw[ai (show ¬r.needs[i]!.any[j]!.feats.length=0 by omega)]
      rw[hc3];rfl
     have hwj:=m8 (n:=r.needs[i]!) (j:=j) ae;refine aH ?_;refine cS [(.str _),(.str _),(.str _),(.str _),(.str _)] ?_;refine b8 (nx':=39) (v:=.tup []) (m':=[(45,.row (jS r i++dG r.needs[i]! (j+1))),(0,.buf 9 [Rec.D r]),(4,.buf 3 [bS.D r.needs[i]!]),(2,.bld (some 45) (jS r i++dG r.needs[i]! (j+1)).length true),(23,.buf 4 [cg.D r.needs[i]!.any[j]!])]) (hc:=fun K' hK=>h450 [kB,r.needs[i]!.any[j]!.name,(aT [44] r.needs[i]!.any[j]!.feats),iV,r.needs[i]!.any[j]!.range] (jS r i++dG r.needs[i]! j) 2 44 _ _ K' (.inr ⟨3,true,bg,bg⟩) ah (by simp only[az,aC];omega) (by simp only[az,aC];omega) (.mk aG (by simp only[az,aC,eN,eS];omega) (dq.2 ⟨aG,dq.2 ⟨ae,dq.2 ⟨by first|omega|decide,dq.2 ⟨aG,dq.2 ⟨ae,fun _ h=>nomatch h⟩⟩⟩⟩⟩) (by first|omega|(simp only[bJ,aC];omega))) (by rw[show(jS r i++dG r.needs[i]! j)++bV [kB,r.needs[i]!.any[j]!.name,(aT [44] r.needs[i]!.any[j]!.feats),iV,r.needs[i]!.any[j]!.range]=jS r i++dG r.needs[i]! (j+1)from by rw[hwl,hwj,dx]];exact hK)) (hn:=aG) ?_;refine aW ?_;exact⟨j+1,ae,ae,(aU.to [(0,0),(4,4),(2,2),(45,3)] ah ah dV (by refine bh.gE ah ah ah ?_;refine bh.nl 4 ah ah rfl ah ?_;refine bh.bl 2 ah ah ah (ar List.length (rfl)) rfl ?_;refine bh.rw 45 ah ah (rfl) ?_;exact bh.nil))⟩
    refine ay ?_;have hwl:bV [kB,r.needs[i]!.any[j]!.name,(aT [44] r.needs[i]!.any[j]!.feats),jH,r.needs[i]!.any[j]!.range]=iX r.needs[i]!.any[j]! :=by
     unfold iX iv;first|rw[ax (show r.needs[i]!.any[j]!.feats.length=0 by omega)]|rw[ai (show ¬r.needs[i]!.any[j]!.feats.length=0 by omega)]
     rw[hc3];rfl
    have hwj:=m8 (n:=r.needs[i]!) (j:=j) ae;refine aH ?_;refine cS [(.str _),(.str _),(.str _),(.str _),(.str _)] ?_;refine b8 (nx':=38) (v:=.tup []) (m':=[(44,.row (jS r i++dG r.needs[i]! (j+1))),(0,.buf 9 [Rec.D r]),(4,.buf 3 [bS.D r.needs[i]!]),(2,.bld (some 44) (jS r i++dG r.needs[i]! (j+1)).length true),(23,.buf 4 [cg.D r.needs[i]!.any[j]!])]) (hc:=fun K' hK=>h450 [kB,r.needs[i]!.any[j]!.name,(aT [44] r.needs[i]!.any[j]!.feats),jH,r.needs[i]!.any[j]!.range] (jS r i++dG r.needs[i]! j) 2 43 _ _ K' (.inr ⟨3,true,bg,bg⟩) ah (by simp only[az,aC];omega) (by simp only[az,aC];omega) (.mk aG (by simp only[az,aC,eN,eS];omega) (dq.2 ⟨aG,dq.2 ⟨ae,dq.2 ⟨by first|omega|decide,dq.2 ⟨aG,dq.2 ⟨ae,fun _ h=>nomatch h⟩⟩⟩⟩⟩) (by first|omega|(simp only[bJ,aC];omega))) (by rw[show(jS r i++dG r.needs[i]! j)++bV [kB,r.needs[i]!.any[j]!.name,(aT [44] r.needs[i]!.any[j]!.feats),jH,r.needs[i]!.any[j]!.range]=jS r i++dG r.needs[i]! (j+1)from by rw[hwl,hwj,dx]];exact hK)) (hn:=aG) ?_;refine aW ?_;exact⟨j+1,ae,ae,(aU.to [(0,0),(4,4),(2,2),(44,3)] ah ah dV (by refine bh.gE ah ah ah ?_;refine bh.nl 4 ah ah rfl ah ?_;refine bh.bl 2 ah ah ah (ar List.length (rfl)) rfl ?_;refine bh.rw 44 ah ah (rfl) ?_;exact bh.nil))⟩
   refine aH ?_;refine cC (fun hc3=>?_) fun hc3=>?_
   .refine aF ?_;have hwl:bV [kB,r.needs[i]!.any[j]!.name,[45],iV,r.needs[i]!.any[j]!.range]=iX r.needs[i]!.any[j]! :=by
     unfold iX iv;first|rw[ax (show r.needs[i]!.any[j]!.feats.length=0 by omega)]|rw[ai (show ¬r.needs[i]!.any[j]!.feats.length=0 by omega)]
     rw[hc3];rfl
    have hwj:=m8 (n:=r.needs[i]!) (j:=j) ae;refine aH ?_;refine cS [(.str _),(.str _),(.str _),(.str _),(.str _)] ?_;refine b8 (nx':=35) (v:=.tup []) (m':=[(41,.row (jS r i++dG r.needs[i]! (j+1))),(0,.buf 9 [Rec.D r]),(4,.buf 3 [bS.D r.needs[i]!]),(2,.bld (some 41) (jS r i++dG r.needs[i]! (j+1)).length true),(23,.buf 4 [cg.D r.needs[i]!.any[j]!])]) (hc:=fun K' hK=>h450 [kB,r.needs[i]!.any[j]!.name,[45],iV,r.needs[i]!.any[j]!.range] (jS r i++dG r.needs[i]! j) 2 40 _ _ K' (.inr ⟨3,true,bg,bg⟩) ah (by simp only[az,aC];omega) (by simp only[az,aC];omega) (.mk aG (by simp only[az,aC,eN,eS];omega) (dq.2 ⟨aG,dq.2 ⟨ae,dq.2 ⟨by first|omega|decide,dq.2 ⟨aG,dq.2 ⟨ae,fun _ h=>nomatch h⟩⟩⟩⟩⟩) (by first|omega|(simp only[bJ,aC];omega))) (by rw[show(jS r i++dG r.needs[i]! j)++bV [kB,r.needs[i]!.any[j]!.name,[45],iV,r.needs[i]!.any[j]!.range]=jS r i++dG r.needs[i]! (j+1)from by rw[hwl,hwj,dx]];exact hK)) (hn:=aG) ?_;refine aW ?_;exact⟨j+1,ae,ae,(aU.to [(0,0),(4,4),(2,2),(41,3)] ah ah dV (by refine bh.gE ah ah ah ?_;refine bh.nl 4 ah ah rfl ah ?_;refine bh.bl 2 ah ah ah (ar List.length (rfl)) rfl ?_;refine bh.rw 41 ah ah (rfl) ?_;exact bh.nil))⟩
   refine ay ?_;have hwl:bV [kB,r.needs[i]!.any[j]!.name,[45],jH,r.needs[i]!.any[j]!.range]=iX r.needs[i]!.any[j]! :=by
    unfold iX iv;first|rw[ax (show r.needs[i]!.any[j]!.feats.length=0 by omega)]|rw[ai (show ¬r.needs[i]!.any[j]!.feats.length=0 by omega)]
    rw[hc3];rfl
   have hwj:=m8 (n:=r.needs[i]!) (j:=j) ae;refine aH ?_;refine cS [(.str _),(.str _),(.str _),(.str _),(.str _)] ?_;refine b8 (nx':=34) (v:=.tup []) (m':=[(40,.row (jS r i++dG r.needs[i]! (j+1))),(0,.buf 9 [Rec.D r]),(4,.buf 3 [bS.D r.needs[i]!]),(2,.bld (some 40) (jS r i++dG r.needs[i]! (j+1)).length true),(23,.buf 4 [cg.D r.needs[i]!.any[j]!])]) (hc:=fun K' hK=>h450 [kB,r.needs[i]!.any[j]!.name,[45],jH,r.needs[i]!.any[j]!.range] (jS r i++dG r.needs[i]! j) 2 39 _ _ K' (.inr ⟨3,true,bg,bg⟩) ah (by simp only[az,aC];omega) (by simp only[az,aC];omega) (.mk aG (by simp only[az,aC,eN,eS];omega) (dq.2 ⟨aG,dq.2 ⟨ae,dq.2 ⟨by first|omega|decide,dq.2 ⟨aG,dq.2 ⟨ae,fun _ h=>nomatch h⟩⟩⟩⟩⟩) (by first|omega|(simp only[bJ,aC];omega))) (by rw[show(jS r i++dG r.needs[i]! j)++bV [kB,r.needs[i]!.any[j]!.name,[45],jH,r.needs[i]!.any[j]!.range]=jS r i++dG r.needs[i]! (j+1)from by rw[hwl,hwj,dx]];exact hK)) (hn:=aG) ?_;refine aW ?_;exact⟨j+1,ae,ae,(aU.to [(0,0),(4,4),(2,2),(40,3)] ah ah dV (by refine bh.gE ah ah ah ?_;refine bh.nl 4 ah ah rfl ah ?_;refine bh.bl 2 ah ah ah (ar List.length (rfl)) rfl ?_;refine bh.rw 40 ah ah (rfl) ?_;exact bh.nil))⟩
  refine aF ?_;have hnA:=uO (n:=r.needs[i]!) (j:=j) ae;have w4:=mU hnf.2.1;have w5:=hnf.2.2;have w6:=hnf.2.1;refine aF ?_;refine cC (fun hc4=>?_) fun hc4=>?_
  .refine aE ?_;have hwt:gI r.needs[i]!.when'=bV [ir,r.needs[i]!.when']:=ai hc4;refine ay ?_;refine cS [(.str _),(.str _)] ?_;refine b8 (nx':=25) (v:=.tup []) (m':=[(27,.row (jS r i++(dG r.needs[i]! j++gI r.needs[i]!.when'))),(0,.buf 9 [Rec.D r]),(4,.buf 3 [bS.D r.needs[i]!]),(2,.bld (some 27) (jS r i++(dG r.needs[i]! j++gI r.needs[i]!.when')).length true)]) (hc:=fun K' hK=>h450 [ir,r.needs[i]!.when'] (jS r i++dG r.needs[i]! j) 2 26 _ _ K' (.inr ⟨3,true,bg,bg⟩) ah (by simp only[az,aC];omega) (by simp only[az,aC];omega) (.mk aG (by simp only[az,aC,eN,eS];omega) (dq.2 ⟨aG,dq.2 ⟨ae,fun _ h=>nomatch h⟩⟩) (by first|omega|(simp only[bJ,aC];omega))) (by rw[show(jS r i++dG r.needs[i]! j)++bV [ir,r.needs[i]!.when']=jS r i++(dG r.needs[i]! j++gI r.needs[i]!.when')from by rw[hwt,dx]];exact hK)) (hn:=aG) ?_;refine aH ?_;refine eV (fun hc5=>?_) fun hc5=>?_
   .refine aE ?_;have hot:pG r.needs[i]!.option=bV [eQ,r.needs[i]!.option]:=ai hc5;refine ay ?_;refine cS [(.str _),(.str _)] ?_;refine b8 (nx':=33) (v:=.tup []) (m':=[(35,.row (jS r (i+1))),(0,.buf 9 [Rec.D r]),(4,.buf 3 [bS.D r.needs[i]!]),(2,.bld (some 35) (jS r (i+1)).length true)]) (hc:=fun K' hK=>h450 [eQ,r.needs[i]!.option] (jS r i++(dG r.needs[i]! j++gI r.needs[i]!.when')) 2 34 _ _ K' (.inr ⟨27,true,bg,bg⟩) ah (by simp only[az,aC];omega) (by simp only[az,aC];omega) (.mk aG (by simp only[az,aC,eN,eS];omega) (dq.2 ⟨aG,dq.2 ⟨ae,fun _ h=>nomatch h⟩⟩) (by first|omega|(simp only[bJ,aC];omega))) (by rw[show(jS r i++(dG r.needs[i]! j++gI r.needs[i]!.when'))++bV [eQ,r.needs[i]!.option]=jS r (i+1)from by rw[lI ae,hnA,hot];simp only[dx,jy]];exact hK)) (hn:=aG) ?_;refine aW ?_;exact⟨i+1,ae,ae,(aU.to [(0,0),(2,2),(35,3)] ah ah dV (by refine bh.gE ah ah ah ?_;refine bh.bl 2 ah ah ah (ar List.length (rfl)) rfl ?_;refine bh.rw 35 ah ah (rfl) ?_;exact bh.nil))⟩
   refine aB ?_;have hno:pG r.needs[i]!.option=[]:=ax (by simpa using hc5);refine aF ?_;exact⟨i+1,ae,ae,(aU.to [(0,0),(2,2),(27,3)] ah ah dV (by refine bh.gE ah ah ah ?_;refine bh.bl 2 ah ah ah (ar List.length (by rw[lI ae,hnA,hno];simp only[dx,jy])) rfl ?_;refine bh.rw 27 ah ah (by rw[lI ae,hnA,hno];simp only[dx,jy]) ?_;exact bh.nil))⟩
  refine ay ?_;have hnw:gI r.needs[i]!.when'=[]:=ax (by simpa using hc4);refine aF ?_;refine eV (fun hc5=>?_) fun hc5=>?_
  .refine aE ?_;have hot:pG r.needs[i]!.option=bV [eQ,r.needs[i]!.option]:=ai hc5;refine ay ?_;refine cS [(.str _),(.str _)] ?_;refine b8 (nx':=28) (v:=.tup []) (m':=[(30,.row (jS r (i+1))),(0,.buf 9 [Rec.D r]),(4,.buf 3 [bS.D r.needs[i]!]),(2,.bld (some 30) (jS r (i+1)).length true)]) (hc:=fun K' hK=>h450 [eQ,r.needs[i]!.option] (jS r i++dG r.needs[i]! j) 2 29 _ _ K' (.inr ⟨3,true,bg,bg⟩) ah (by simp only[az,aC];omega) (by simp only[az,aC];omega) (.mk aG (by simp only[az,aC,eN,eS];omega) (dq.2 ⟨aG,dq.2 ⟨ae,fun _ h=>nomatch h⟩⟩) (by first|omega|(simp only[bJ,aC];omega))) (by rw[show(jS r i++dG r.needs[i]! j)++bV [eQ,r.needs[i]!.option]=jS r (i+1)from by rw[lI ae,hnA,hot,hnw];simp only[dx,jy]];exact hK)) (hn:=aG) ?_;refine aW ?_;exact⟨i+1,ae,ae,(aU.to [(0,0),(2,2),(30,3)] ah ah dV (by refine bh.gE ah ah ah ?_;refine bh.bl 2 ah ah ah (ar List.length (rfl)) rfl ?_;refine bh.rw 30 ah ah (rfl) ?_;exact bh.nil))⟩
  refine aB ?_;have hno:pG r.needs[i]!.option=[]:=ax (by simpa using hc5);refine aF ?_;exact⟨i+1,ae,ae,(aU.to [(0,0),(2,2),(3,3)] ah ah dV (by refine bh.gE ah ah ah ?_;refine bh.bl 2 ah ah ah (ar List.length (by rw[lI ae,hnA,hno,hnw];simp only[dx,jy])) rfl ?_;refine bh.rw 3 ah ah (by rw[lI ae,hnA,hno,hnw];simp only[dx,jy]) ?_;exact bh.nil))⟩
 refine aF ?_;have h33:i=r.needs.length:=ae;subst h33;refine aB ?_;intro u3;refine ay ?_;refine bc hm (ι:=Nat) (fun i=>[.un,.un,⟨true,.ptr 0 9 0 0⟩,⟨true,.ptr 2 2 0 0⟩,.un,.un,.un,.un,.un,.un,.un,.un,.un,.un,.un,.un,.un,.un,.un,.un,⟨true,.int .i64 (i:Nat)⟩,⟨true,.int .i64 (r.bars.length:Nat)⟩,.un,⟨true,.sl 3 (r.bars.map iT.D)⟩,.un,.un,.un,.un,.un,.un,.un]) (fun i=>[(0,.buf 9 [Rec.D r]),(2,.bld (some 3) (zA r i).length true),(3,.row (zA r i))]) 10 (fun i=>i<=r.bars.length) (fun i=>r.bars.length-i) 0 ae (aU.to [(0,0),(2,2),(3,3)] ah ah dV (by refine bh.gE ah ah ah ?_;refine bh.bl 2 ah ah ah (ar List.length (by rw[P7])) rfl ?_;refine bh.rw 3 ah ah (by rw[P7]) ?_;exact bh.nil)) ?_;intro i hi;have q1:=CS hft i hi;refine aB ?_;refine cC (fun hc6=>?_) fun hc6=>?_
 .refine aB ?_;have q4:=hft.b _ (bw (show i<r.bars.length by omega));have q5:=q4.1;have q6:=q4.2.1;have q7:=q4.2.2;have hbt:tf r.bars[i]! =bV [jO,r.bars[i]!.name,r.bars[i]!.range]++gI r.bars[i]!.when':=rfl;have hxb:=Fa (r:=r) (i:=i) ae;have w7:=mU q7;refine aE ?_;refine cE (v:=iT.D r.bars[i]!) (hi:=fun _=>ae) ?_;refine aE ?_;refine a7 (iT.D r.bars[i]!) (he:=bg) ?_;refine aH ?_;refine cS [(.str _),(.str _),(.str _)] ?_;refine b8 (nx':=16) (v:=.tup []) (m':=[(20,.row (zA r i++bV [jO,r.bars[i]!.name,r.bars[i]!.range])),(0,.buf 9 [Rec.D r]),(2,.bld (some 20) (zA r i++bV [jO,r.bars[i]!.name,r.bars[i]!.range]).length true),(13,.buf 3 [iT.D r.bars[i]!])]) (hc:=fun K' hK=>h450 [jO,r.bars[i]!.name,r.bars[i]!.range] (zA r i) 2 19 _ _ K' (.inr ⟨3,true,bg,bg⟩) ah (by simp only[az,aC];omega) (by simp only[az,aC];omega) (.mk aG (by simp only[az,aC,eN,eS];omega) (dq.2 ⟨aG,dq.2 ⟨ae,dq.2 ⟨ae,fun _ h=>nomatch h⟩⟩⟩) (by first|omega|(simp only[bJ,aC];omega))) (by rw[show(zA r i)++bV [jO,r.bars[i]!.name,r.bars[i]!.range]=zA r i++bV [jO,r.bars[i]!.name,r.bars[i]!.range]from rfl];exact hK)) (hn:=aG) ?_;refine ay ?_;have w8:(bV [jO,r.bars[i]!.name,r.bars[i]!.range]).length<=2200000:=by unfold bV;simp only[aT,jO,bJ,az,aC];omega
  refine aF ?_;refine eV (fun hc7=>?_) fun hc7=>?_
  .refine aE ?_;have hwt:gI r.bars[i]!.when'=bV [ir,r.bars[i]!.when']:=ai hc7;refine ay ?_;refine cS [(.str _),(.str _)] ?_;refine b8 (nx':=26) (v:=.tup []) (m':=[(28,.row (zA r (i+1))),(0,.buf 9 [Rec.D r]),(2,.bld (some 28) (zA r (i+1)).length true),(13,.buf 3 [iT.D r.bars[i]!])]) (hc:=fun K' hK=>h450 [ir,r.bars[i]!.when'] (zA r i++bV [jO,r.bars[i]!.name,r.bars[i]!.range]) 2 27 _ _ K' (.inr ⟨20,true,bg,bg⟩) ah (by simp only[az,aC];omega) (by simp only[az,aC];omega) (.mk aG (by simp only[az,aC,eN,eS];omega) (dq.2 ⟨aG,dq.2 ⟨ae,fun _ h=>nomatch h⟩⟩) (by first|omega|(simp only[bJ,aC];omega))) (by rw[show(zA r i++bV [jO,r.bars[i]!.name,r.bars[i]!.range])++bV [ir,r.bars[i]!.when']=zA r (i+1)from by rw[hxb,hbt,hwt,dx]];exact hK)) (hn:=aG) ?_;refine aW ?_;exact⟨i+1,ae,ae,(aU.to [(0,0),(2,2),(28,3)] ah ah dV (by refine bh.gE ah ah ah ?_;refine bh.bl 2 ah ah ah (ar List.length (rfl)) rfl ?_;refine bh.rw 28 ah ah (rfl) ?_;exact bh.nil))⟩
  refine aB ?_;have hno:gI r.bars[i]!.when'=[]:=ax (by simpa using hc7);refine aF ?_;exact⟨i+1,ae,ae,(aU.to [(0,0),(2,2),(20,3)] ah ah dV (by refine bh.gE ah ah ah ?_;refine bh.bl 2 ah ah ah (ar List.length (by rw[hxb,hbt,hno,jy])) rfl ?_;refine bh.rw 20 ah ah (by rw[hxb,hbt,hno,jy]) ?_;exact bh.nil))⟩
 refine aF ?_;have h33:i=r.bars.length:=ae;subst h33;refine aB ?_;intro u4;refine ay ?_;refine bc hm (ι:=Nat) (fun i=>[.un,.un,⟨true,.ptr 0 9 0 0⟩,⟨true,.ptr 2 2 0 0⟩,.un,.un,.un,.un,.un,.un,.un,.un,.un,.un,.un,.un,.un,.un,.un,.un,.un,.un,.un,.un,.un,.un,⟨true,.int .i64 (i:Nat)⟩,⟨true,.int .i64 (r.feats.length:Nat)⟩,.un,⟨true,.sl 2 (r.feats.map bW.D)⟩,.un]) (fun i=>[(0,.buf 9 [Rec.D r]),(2,.bld (some 3) (By r i).length true),(3,.row (By r i))]) 10 (fun i=>i<=r.feats.length) (fun i=>r.feats.length-i) 0 ae (aU.to [(0,0),(2,2),(3,3)] ah ah dV (by refine bh.gE ah ah ah ?_;refine bh.bl 2 ah ah ah (ar List.length (by rw[P8])) rfl ?_;refine bh.rw 3 ah ah (by rw[P8]) ?_;exact bh.nil)) ?_;intro i hi;have q1:=I7 hft i hi;refine aB ?_;refine cC (fun hc8=>?_) fun hc8=>?_
 .refine aB ?_;have q4:=hft.f _ (bw (show i<r.feats.length by omega));have q5:=q4.1.1;have q6:=q4.2;have q8:∀t∈r.feats[i]!.of,t.length<=2097200:=fun t ht=>cT (q4.1.2.2 t ht) aG
  have hxf:=Fc (r:=r) (i:=i) ae;refine aE ?_;refine cE (v:=bW.D r.feats[i]!) (hi:=fun _=>ae) ?_;refine aE ?_;refine a7 (bW.D r.feats[i]!) (he:=bg) ?_;refine aF ?_;refine cS [(.str _),(.str _)] ?_;refine ay ?_;refine qu (zs:=([dC,r.feats[i]!.name]++r.feats[i]!.of).map D.str) (n:=([dC,r.feats[i]!.name]++r.feats[i]!.of).length) (ha:=aQ) (he:=pJ.sl) (hz:=by rw[de];rfl) (hn:=by simp<;>omega) (hb:=by simp only[az,aC,eN,eS];omega) ?_;refine b8 (nx':=16) (v:=.tup []) (m':=[(21,.row (By r (i+1))),(0,.buf 9 [Rec.D r]),(2,.bld (some 21) (By r (i+1)).length true),(13,.buf 2 [bW.D r.feats[i]!])]) (hc:=fun K' hK=>h450 ([dC,r.feats[i]!.name]++r.feats[i]!.of) (By r i) 2 20 _ _ K' (.inr ⟨3,true,bg,bg⟩) ah (by simp only[az,aC];omega) (by simp only[az,aC];omega) (.mk (l:=r.feats[i]!.name::r.feats[i]!.of) aG (by simp only[az,aC,eN,eS];omega) (dq.2 ⟨aG,dq.2 ⟨ae,q8⟩⟩) (by first|omega|(simp only[bJ,aC];omega))) (by rw[show(By r i)++bV ([dC,r.feats[i]!.name]++r.feats[i]!.of)=By r (i+1)from by rw[hxf];rfl];exact hK)) (hn:=aG) ?_;refine aW ?_;exact⟨i+1,ae,ae,(aU.to [(0,0),(2,2),(21,3)] ah ah dV (by refine bh.gE ah ah ah ?_;refine bh.bl 2 ah ah ah (ar List.length (rfl)) rfl ?_;refine bh.rw 21 ah ah (rfl) ?_;exact bh.nil))⟩
 refine aB ?_;have h33:i=r.feats.length:=ae;subst h33;have hne:By r r.feats.length≠[]:=by
  rw[CU];unfold fq py bV;simp[aT,jk]
 refine b8 (nx':=11) (v:=.str (By r r.feats.length)) (m':=[(0,.buf 9 [Rec.D r])]) (hc:=fun K' hK=>h452 _ _ K' ⟨2,By r r.feats.length,rfl,.inr ⟨3,true,bg,bg⟩,hne,hK⟩) (hn:=aG) ?_;refine aB ?_;refine cG ?_;exact CU r
def Ld.sm.to {r:Ld}(h:r.sm)(q:List au):(r.to q).sm:=⟨⟨Nat.sub_le _ _,h.1.2⟩,h.2⟩
def LF {w:au}{n:Nat}{op:Bool}{t:au}{l:List au}(h:lE w n op t=some l):(n=0\/l.length=n)/\[]∉l/\l=kr n op t:=by
 grind [lE]
theorem qd (x:UInt8):∀(l:List au) (n:Nat),(aT [x] (l.drop n)).length<=(aT [x] l).length
 |[],n=>aQ
 |a::r,0=>aS _
 |[a],n+1=>by simp[aT]
 |a::b::r,n+1=>by
  have:=qd x (b::r) n
  grind [gS]
def Qe {n:Nat}{op:Bool}{t w:au}(h:w∈kr n op t):w.length<=t.length:=by
 unfold kr at h;split at h
 .unfold NG at h;split at h
  .exact iI t 32 h
  .rw[List.mem_append]at h;rcases h with h|h
   .exact iI t 32 (qP h)
   grind [qd,aq,lB]
 .exact iI t 32 h
def Ld.back {r:Ld}{t:au}{q:List au}(h:(t::q)<:+r.ls):qG (Ld.D (r.to q)) 2 1 1 (.int .i64 (((r.to q).at':Nat) -1:Int))=Ld.D (r.to (t::q)):=by
 have:=h.length_le;show D.agg [.sl 1 (r.ls.map D.str),.int .i64 (((r.ls.length-q.length:Nat):Int) -1)]=D.agg [.sl 1 (r.ls.map D.str),.int .i64 ((r.ls.length-(q.length+1):Nat):Int)]
 grind
def cg.N (x:cg):Go.Abs.D:=.agg [.str x.name,.str x.range,nlS x.feats,.bool x.bare]
def U0:∀l:List au,xZ (nlS l) (.sl 1 (l.map D.str))
 |[]=>.nil 1
 |_::_=>.refl _
def cg.wk (x:cg):xZ x.N x.D:=.ag (.cons (.refl _) (.cons (.refl _) (.cons (U0 _) (.cons (.refl _) .nil))))
def C0 {p:List au}(h:fI kB 5 true p=none):eR p=([],p):=by
 match p,h with
 |[],_=>rfl
 |t::r,h=>
  grind [fI,eR]
theorem Fi {p l q:List au}(h:fI kB 5 true p=some (l,q))(ho:H3 l=true):eR p=(Hy l::(eR q).1,(eR q).2):=by
 grind [yR,eR]
def Bi (s:au)(b:Int):aq s b≠[]:=by
 grind [ff,aq]
def LZ (ls:List au):Rec×List au:=match RX ls with
 |some p=>p
 |none=>(RY,ls)
def Ep:D:=.agg [.str [],.int .i64 0,.int .i64 0,.int .i64 0,.str [],.str [],.aA,.aA,.aA]
theorem MG (n:Nat)(op:Bool)(t:au):(kr n op t).length<=t.length+1:=by
 grind [eL,ff,kr,NG,aq]
def QK (p:List au):Prop:=∀t∈p,t.length<=1048576
def QK.get {l:List au}(h:QK l)(i:Nat):l[i]!.length<=1048576:=by
 rcases gz i l.length with hi|hi
 .exact h _ (bw hi)
 .simp[hi];exact Nat.zero_le _
def QK.next {p:List au}(hp:QK p){w:au}{n:Nat}{op:Bool}{l q:List au}(h:fI w n op p=some (l,q)):QK l/\QK q/\l.length<=1048577:=by
 obtain⟨t,rfl,ht⟩:=yR h;obtain⟨_,_,h3⟩:=LF ht;have h0:=hp t (.head _);refine⟨fun u hu=>?_,fun u hu=>hp u (.tail _ hu), ?_⟩
 .rw[h3]at hu;have:=Qe hu;omega
 grind [MG]
def QK.Br {p q:List au}(hp:QK p)(h:q<:+p):QK q:=fun t ht=>hp t (h.subset ht)
def zl (s:au):Rec×Int×Int:=
 if 4096<s.length then(RY,3,0)
 else
  let ls:=(aq s 10).take ((aq s 10).length-1)
  if(RX ls).isSome=false\/(LZ ls).2≠[]\/(aq s 10)[(aq s 10).length-1]! ≠[]then(RY,2,((ls.length-(LZ ls).2.length:Nat):Int)+1)
  else if(cw (LZ ls).1).1≠0 then(RY,(cw (LZ ls).1).1,0)
  else((LZ ls).1,0,0)
def Eu:aD:=⟨3,8,[⟨3,none⟩],bR,(sq (rg [gb 9 s0,gm bm] [(5,0),(3,1)]) (sq (.block 0 (sq (r1 [gm s1,gx 208 [l0] bR,kD l1,gm l2] 4 3) (.cond s4 (sq (r1 [gm rX] 3 0) .ret) (sq (r1 [gm s1,gf 0 s5,gd l1,aL l0 l2,gm l3] 6 4) (.cond s6 (sq (r1 [gm C7] 3 0) .ret) (sq (r1 [gm s2,gx 444 [l0] bR,kD l1,gm l2] 7 3) (.cond s7 (sq (r1 [gm uE] 3 0) .ret) .skip))))))) (sq (r1 [gm bm] 3 0) .ret)))⟩
def w211 {Y:Ctx}(hm:(Y.at 0).bU)(h208:Ko Y)(h444:Wp Y)(r:Rec)(name:au)(sZ:au)  (hp0:sZ.length<=1048576):cZ Y Eu (.int .i64 (eU r name sZ)) [Rec.D r,.str name,.str sZ]:=by
 show bB _ _ _ [⟨_,_⟩,⟨_,_⟩,⟨_,_⟩,_,_,_,_,_] _;refine ak ?_;refine aH ?_;refine aj (hc:=h208 _) ?_;refine aB ?_;refine eV (fun hc0=>?_) fun hc0=>?_
 .refine aJ ?_;refine cN ?_;rw[eU,ax hc0]
 refine aW ?_;refine eV (fun hc1=>?_) fun hc1=>?_
 .refine aJ ?_;refine cN ?_;rw[eU,ai (by simp[hc0]),ax hc1]
 refine ay ?_;refine aj (hc:=h444 sZ hp0) ?_;refine aB ?_;refine eV (fun hc2=>?_) fun hc2=>?_
 .refine aJ ?_;refine cN ?_;rw[eU,ai (by simp[hc0]),ai hc1,ax hc2]
 refine aH ?_;refine cN ?_;rw[eU,ai (by simp[hc0]),ai hc1,ai (by simp[hc2])]
def Jh (T:List D->D->Prop):Prop:=∀(r:Rec) (name:au) (sZ:au),(sZ.length<=1048576)->T [Rec.D r,.str name,.str sZ] (.int .i64 (eU r name sZ))
def Th (Y:Ctx):Prop:=Jh (bq Y 211)
def Ev:aD:=⟨3,16,[⟨3,none⟩],bR,(sq (rg [gb 9 s0,gb 4 s1,gm bm] [(4,0),(5,1),(3,2)]) (sq (sq (r1 [gk 9 true s4,gf 0 s5,gd l1,gf 1 s5,gd l3,gx 211 [l0,l2,l4] [[.a,.a,.a,.a,.a,.a,.sl 3 [.sl 4 [.a,.a,.sl 1 [.a],.a],.a,.a],.sl 3 [.a,.a,.a],.sl 2 [.a,.sl 1 [.a]]],[.a],[.a]],gm l5] 6 6) (sq (r1 [gm s6,cj l0 bm] 7 1) (.cond s7 (sq (r1 [gm s6,gm l0] 3 1) .ret) .skip))) (sq (sq (r1 [gf 2 s5,gd l0,gl l1,cR l2 uE,gm l3,jQ 4 2 s5,lN 4 l5,cF 4 (.len l6),cF 4 (dY l7 bm),eW 4 l8,gmt 9 s2,bT 9 (.un .not l10),DK 4 l9 gF,fC l4 iU] 8 13) (.cond s8 (sq (r1 [gm (i6 11)] 3 0) .ret) .skip)) (sq (sq (rg [gf 2 s5,gd l0,gl l1,gm bm] [(12,1),(10,2),(9,3)]) (.block 0 (.loop (sq (r1 [aP s9 iQ] 11 0) (sq (eO kH 0) (sq (.block 1 (sq (rg [gm s9,ga 1 mS s9,gd l1,gm l0,gm l2] [(14,3),(13,4)]) (sq (r1 [gm rJ,gx 349 [l0] bR,kD l1,gm l2,eW 3 rK,cF 3 (dY l4 bm),eW 3 l5,m4 6 2 s5,kZ 6 l7,gmt 6 rK,bT 6 (kC l9 b7),bT 6 (.ia 1 l8 l10),kZ 6 gF,gmt 6 rJ,bT 6 (rS iU jR),DK 3 l6 kE,fC l3 me] 15 16) (.cond xa (sq (r1 [gm (i6 11)] 3 0) .ret) .skip)))) (r1 [av s9 b7,gm l0] 9 1))))))) (sq (r1 [gm bm] 3 0) .ret)))))⟩
def w443 (h211:Th Y)(h349:FM Y)(r:Rec)(w:cg)(al:Bool)  (hp0:w.sm):cZ Y Ev (.int .i64 (iW r w al)) [Rec.D r,cg.D w,.bool al]:=by
 show bB _ _ _ [⟨_,_⟩,⟨_,_⟩,⟨_,_⟩,_,_,_,_,_,_,_,_,_,_,_,_,_] _;refine ak ?_;refine fW ?_;refine aj (hc:=h211 r w.name w.range hp0.1.2) ?_;refine aW ?_;refine cC (fun hc0=>?_) fun hc0=>?_
 .refine aH ?_;refine cN ?_;rw[iW,ax hc0]
 refine aH ?_;intro u0;refine aF ?_;refine lL ?_;refine aW ?_;refine aw (fun hc1=>?_) (fun hc1=>?_)
 .have hq:(decide (w.feats.length<=6)&&(al ||decide (w.feats.length=0)))=false:=by rw[<-bK,<-Qb];exact hc1
  refine aJ ?_;refine cN ?_;rw[iW,ai (by simp[hc0]),ax (by unfold iS;rw[hq];rfl)]
 have hq:(decide (w.feats.length<=6)&&(al ||decide (w.feats.length=0)))=true:=by rw[<-ct,<-Qb];exact hc1
 refine aH ?_;intro u1;refine ay ?_;refine bc hm (ι:=Nat) (fun i=>[.un,.un,⟨true,.bool al⟩,.un,⟨true,.ptr 0 9 0 0⟩,⟨true,.ptr 1 4 0 0⟩,.un,.un,.un,⟨true,.int .i64 (i:Nat)⟩,⟨true,.int .i64 (w.feats.length:Nat)⟩,.un,⟨true,.sl 1 (w.feats.map D.str)⟩,.un,.un,.un]) (fun i=>[(0,.buf 9 [Rec.D r]),(1,.buf 4 [cg.D w])]) 30 (fun i=>i<=w.feats.length/\iS w.feats al=cI (S9 w.feats) i w.feats.length) (fun i=>w.feats.length-i) 0 ⟨ae,by unfold iS;rw[hq,fB]⟩ (dF [(0,0),(1,1)]) ?_;rintro i ⟨hi,hr⟩;refine aB ?_;refine cC (fun hc2=>?_) fun hc2=>?_
 .refine fW ?_;refine aj (hc:=h349 _) ?_;refine cU ?_;refine cM (i-1) ?_;refine aH ?_;refine wp_cond (fun hc3=>?_) (fun hc3=>?_)
  .have hz:S9 w.feats i=false:=by rw[<-bK,<-ZV];exact hc3
   refine aH ?_;refine cN ?_;rw[iW,ai (by simp[hc0]),ax (by rw[hr,aR ae,hz];rfl)]
  have hz:S9 w.feats i=true:=by rw[<-ct,<-ZV];exact hc3
  refine aW ?_;exact⟨i+1,⟨ae,by rw[hr,aR ae,hz];rfl⟩,ae,(dF [(0,0),(1,1)])⟩
 refine aH ?_;refine cN ?_;rw[iW,ai (by simp[hc0]),ai (by rw[hr,ch ae];simp)]
def xp (T:List D->D->Prop):Prop:=∀(r:Rec) (w:cg) (al:Bool),(w.sm)->T [Rec.D r,cg.D w,.bool al] (.int .i64 (iW r w al))
def Wo (Y:Ctx):Prop:=xp (bq Y 443)
def Es:aD:=⟨2,16,[⟨2,none⟩],bR,(sq (rg [gb 9 s0,gb 3 s1,gm bm] [(10,0),(3,1),(2,2)]) (sq (sq (r1 [gf 0 s3,gd l0,gl l1,aL l2 bm] 4 3) (.cond s4 (sq (r1 [gm C8] 2 0) .ret) .skip)) (sq (sq (r1 [gf 0 s3,gd l0,gl l1,cR l2 k9] 5 3) (.cond s5 (sq (r1 [gm k9] 2 0) .ret) .skip)) (sq (sq (rg [gf 0 s3,gd l0,gl l1,gm bm] [(9,1),(7,2),(6,3)]) (.block 0 (.loop (sq (r1 [aP s6 s7] 8 0) (sq (eO s8 0) (sq (.block 1 (sq (r1 [ga 4 s9 s6,gk 4 true l0,gb 4 (.c (.agg [.str [],.str [],.aA,.bool false])),gt 4 l2 l1] 11 2) (sq (r1 [gk 9 true iQ,gk 4 true kH,gf 0 s3,gd l2,gl l3,aL l4 b7,gx 443 [l0,l1,l5] [[.a,.a,.a,.a,.a,.a,.sl 3 [.sl 4 [.a,.a,.sl 1 [.a],.a],.a,.a],.sl 3 [.a,.a,.a],.sl 2 [.a,.sl 1 [.a]]],[.a,.a,.sl 1 [.a],.a],[.a]],gm l6] 12 7) (sq (r1 [gm mS,cj l0 bm] 13 1) (.cond rJ (sq (r1 [gm mS,gm l0] 2 1) .ret) .skip))))) (r1 [av s6 b7,gm l0] 6 1))))))) (sq (sq (r1 [gf 1 s3,gd l0,gx 212 [l1] bR,kD l2] 14 3) (.cond rK (sq (r1 [gm MO] 2 0) .ret) .skip)) (sq (sq (r1 [gf 2 s3,gd l0,cj l1 cse,gm l2,m4 3 2 s3,kZ 3 l4,bT 3 (.call 349 [l5] bR),bT 3 (.un .not l6),ei l3 l7] 15 8) (.cond xa (sq (r1 [gm (i6 14)] 2 0) .ret) .skip)) (sq (r1 [gm bm] 2 0) .ret)))))))⟩
def w210 (h212:Ti Y)(h349:FM Y)(h443:Wo Y)(r:Rec)(n:bS)  (hp0:n.sm):cZ Y Es (.int .i64 (il r n)) [Rec.D r,bS.D n]:=by
 show bB _ _ _ [⟨_,_⟩,⟨_,_⟩,_,_,_,_,_,_,_,_,_,_,_,_,_,_] _;refine ak ?_;refine cU ?_;intro u0;refine ay ?_;refine cC (fun hc0=>?_) fun hc0=>?_
 .refine aJ ?_;refine cN ?_;rw[il,ax ae]
 refine aH ?_;intro u1;refine ay ?_;refine cC (fun hc1=>?_) fun hc1=>?_
 .refine aJ ?_;refine cN ?_;rw[il,ai ae,ax ae]
 refine aH ?_;intro u2;refine ay ?_;refine bc hm (ι:=Nat) (fun i=>[.un,.un,.un,⟨true,.ptr 1 3 0 0⟩,.un,.un,⟨true,.int .i64 (i:Nat)⟩,⟨true,.int .i64 (n.any.length:Nat)⟩,.un,⟨true,.sl 4 (n.any.map cg.D)⟩,⟨true,.ptr 0 9 0 0⟩,.un,.un,.un,.un,.un]) (fun i=>[(0,.buf 9 [Rec.D r]),(1,.buf 3 [bS.D n])]) 15 (fun i=>i<=n.any.length/\lg r n.any=eJ (fun i=>iW r n.any[i]! (decide ((n.any.length:Int)=1))) i n.any.length) (fun i=>n.any.length-i) 0 ⟨ae,rfl⟩ (dF [(0,0),(1,1)]) ?_;rintro i ⟨hi,hr⟩;refine aB ?_;refine cC (fun hc2=>?_) fun hc2=>?_
 .refine aF ?_;first|refine cE (v:=(cg.D _)) ?_|refine fe (v:=(cg.D _)) ?_
  refine aE ?_;refine a7 (cg.D n.any[i]!) (he:=bg) ?_;refine aW ?_;intro u3;refine aE ?_;refine aj (hc:=h443 r n.any[i]! _ (hp0.1 _ (bw ae))) ?_;refine aH ?_;refine eV (fun hc3=>?_) fun hc3=>?_
  .refine aW ?_;refine cN ?_;have hw:lg r n.any=iW r n.any[i]! (decide ((n.any.length:Int)=1)):=by rw[hr,kN ae hc3]
   rw[il,ai ae,ai ae,ax (by rw[hw];exact hc3),hw]
  refine aW ?_;exact⟨i+1,⟨ae,by rw[hr,mI ae hc3]⟩,ae,(dF [(0,0),(1,1)])⟩
 refine aF ?_;have hw0:lg r n.any=0:=by rw[hr,mH ae]
 refine ay ?_;refine aj (hc:=h212 _) ?_;refine ay ?_;refine aw (fun hc4=>?_) (fun hc4=>?_)
 .try simp only[eh]at hc4
  refine aJ ?_;refine cN ?_;rw[il,ai ae,ai ae,ai (by simp[hw0]),ax hc4]
 simp only[ct]at hc4;refine cU ?_;refine aj (hc:=h349 _) ?_;refine aB ?_;refine aw (fun hc5=>?_) (fun hc5=>?_)
 .try simp only[eh]at hc5
  refine aJ ?_;refine cN ?_;rw[il,ai ae,ai ae,ai (by simp[hw0]),ai (by simp[hc4]),ax hc5]
 simp only[dI,ct,aY]at hc5;refine aJ ?_;refine cN ?_;rw[il,ai ae,ai ae,ai (by simp[hw0]),ai (by simp[hc4]),ai (by rintro⟨g1,g2⟩;rcases hc5 with h|h;exact g1 h;rw[g2]at h;cases h)]
def xh (T:List D->D->Prop):Prop:=∀(r:Rec) (n:bS),(n.sm)->T [Rec.D r,bS.D n] (.int .i64 (il r n))
def V4 (Y:Ctx):Prop:=xh (bq Y 210)
def Er:aD:=⟨2,15,[⟨2,none⟩],bR,(sq (rg [gb 9 s0,gm bm] [(3,0),(2,1)]) (sq (rg [gm s1,gx 448 [l0] bR,gm l1,ge l2 0,ge l2 1,ge l2 2,gm l3,gm l4,gm l5] [(8,6),(10,7)]) (sq (sq (rg [gf 6 s3,gd l0,gl l1,gm bm] [(7,1),(5,2),(4,3)]) (.block 0 (.loop (sq (r1 [aP s4 s5] 6 0) (sq (eO s6 0) (sq (.block 1 (sq (r1 [ga 3 s7 s4,gk 3 true l0,gb 3 (.c (.agg [.aA,.str [],.str []])),gt 3 l2 l1] 9 2) (sq (r1 [gm s8,aL l0 lQ,gm l1,m4 2 2 s9,kZ 2 l3,gmt 2 iQ,bT 2 (cB l4 l5),ei l2 l6,gm l7,eW 8 s8,cF 8 (cB l9 k9),eW 8 l10,m4 11 0 s9,kZ 11 iU,bT 11 (.len jR),bT 11 (cB kE b7),DK 8 gF me,eW 8 nC,m4 17 0 s9,kZ 17 sY,bT 17 (.ia 4 uc bm),m4 17 0 zO,kZ 17 AV,gmt 17 iQ,bT 17 (cB Da Gu),DK 8 rF Ic,fC l8 Lk] 11 26) (.cond kH (sq (r1 [gm bm] 2 0) .ret) .skip)))) (r1 [av s4 b7,gm l0] 4 1))))))) (sq (sq (r1 [gm s8] 12 0) (.block 2 (sq (r1 [aL mS lQ,gm l0] 13 1) (.cond rJ (sq (r1 [gm (i6 14)] 2 0) .ret) (sq (r1 [aL mS k9,gm l0] 14 1) (.cond rK (sq (r1 [gm (i6 16)] 2 0) .ret) .skip)))))) (sq (r1 [gm bm] 2 0) .ret)))))⟩
def w214 (h448:Tt Y)(r:Rec)(s:au)  (hp0:s.length<=1048576):cZ Y Er (.int .i64 (jh r s)) [Rec.D r,.str s]:=by
 show bB _ _ _ [⟨_,_⟩,⟨_,_⟩,_,_,_,_,_,_,_,_,_,_,_,_,_] _;refine ak ?_;refine aJ ?_;refine aj (hc:=h448 s hp0) ?_;refine nM ?_;intro u0;refine ay ?_;refine bc hm (ι:=Nat) (fun i=>[.un,.un,.un,⟨true,.ptr 0 9 0 0⟩,⟨true,.int .i64 (i:Nat)⟩,⟨true,.int .i64 (r.needs.length:Nat)⟩,.un,⟨true,.sl 3 (r.needs.map bS.D)⟩,⟨true,.int .i64 (dd s).1⟩,.un,⟨true,.str (dd s).2.1⟩,.un,.un,.un,.un]) (fun i=>[(0,.buf 9 [Rec.D r])]) 15 (fun i=>i<=r.needs.length/\jh r s=(if(r.needs.drop i).any (Y6 (dd s).1 (dd s).2.1)=true then 0 else UQ (dd s).1)) (fun i=>r.needs.length-i) 0 ⟨ae,Oi r s⟩ (dF [(0,0)]) ?_;rintro i ⟨hi,hr⟩;refine aB ?_;refine cC (fun hc0=>?_) fun hc0=>?_
 .refine aF ?_;first|refine cE (v:=(bS.D _)) ?_|refine fe (v:=(bS.D _)) ?_
  refine aE ?_;refine a7 (bS.D r.needs[i]!) (he:=bg) ?_;refine zK ?_;refine lL ?_;refine aJ ?_;refine cM 0 (hb:=fun h=>by simp only[fB,beq_iff_eq,bp,aY]at h;omega) ?_;refine aE ?_;refine cE (q:=cg.D) (xs:=r.needs[i]!.any) (i:=0) (hi:=fun h=>by simp only[fB,beq_iff_eq,bp,aY]at h;omega) (v:=(.str r.needs[i]!.any[0]!.name)) ?_;refine aJ ?_;refine wp_cond (fun hc1=>?_) (fun hc1=>?_)
  .have hz:Y6 (dd s).1 (dd s).2.1 r.needs[i]! =true:=hc1;refine aH ?_;refine cN ?_;rw[hr,BL ae hz];rfl
  have hz:Y6 (dd s).1 (dd s).2.1 r.needs[i]! =false:=hc1;refine aW ?_;exact⟨i+1,⟨ae,by rw[hr,FU ae hz]⟩,ae,(dF [(0,0)])⟩
 refine aF ?_;have he:jh r s=UQ (dd s).1:=by rw[hr,BK ae];rfl
 refine aW ?_;refine eV (fun hc2=>?_) fun hc2=>?_
 .refine aJ ?_;refine cN ?_;rw[he,UQ,ax hc2]
 refine aF ?_;refine eV (fun hc3=>?_) fun hc3=>?_
 .refine aJ ?_;refine cN ?_;rw[he,UQ,ai hc2,ax hc3]
 refine aH ?_;refine cN ?_;rw[he,UQ,ai hc2,ai hc3]
def Ji (T:List D->D->Prop):Prop:=∀(r:Rec) (s:au),(s.length<=1048576)->T [Rec.D r,.str s] (.int .i64 (jh r s))
def V6 (Y:Ctx):Prop:=Ji (bq Y 214)
def Cz:aD:=⟨1,39,[⟨1,none⟩,⟨2,none⟩],gA,(sq (rg [gb 9 s0,gm bm,gm bm] [(3,0),(1,1),(2,2)]) (sq (.block 0 (sq (r1 [gf 0 s3,gd l0,gx 208 [l1] bR,kD l2,gm l3] 4 4) (.cond s4 (sq (rg [gm rX,gm bm] [(1,0),(2,1)]) .ret) (sq (r1 [gf 1 s3,gk 5 true l0,gx 209 [l1] zZ,kD l2,gm l3] 5 4) (.cond s5 (sq (rg [gm Lg,gm bm] [(1,0),(2,1)]) .ret) (sq (r1 [gf 6 s3,gd l0,gl l1,cR l2 C7,gm l3,jQ 4 7 s3,lN 4 l5,cF 4 (.len l6),cF 4 (dY l7 C7),fC l4 l8,gm l9] 6 10) (.cond s6 (sq (rg [gm k9,gm bm] [(1,0),(2,1)]) .ret) .skip))))))) (sq (sq (rg [gf 6 s3,gd l0,gl l1,gm bm] [(10,1),(8,2),(7,3)]) (.block 1 (.loop (sq (r1 [aP s7 s8] 9 0) (sq (eO s9 1) (sq (.block 2 (sq (rg [gm s7,ga 3 iQ s7,gk 3 true l1,gb 3 (.c (.agg [.aA,.str [],.str []])),gm l0,gt 3 l3 l2] [(11,3),(14,4)]) (sq (r1 [gk 9 true s3,gk 3 true kH,gx 210 [l0,l1] [[.a,.a,.a,.a,.a,.a,.sl 3 [.sl 4 [.a,.a,.sl 1 [.a],.a],.a,.a],.sl 3 [.a,.a,.a],.sl 2 [.a,.sl 1 [.a]]],[.sl 4 [.a,.a,.sl 1 [.a],.a],.a,.a]],gm l2] 12 3) (sq (r1 [gm mS,cj l0 bm] 13 1) (.cond rJ (sq (rg [gm mS,gm rK,gm l0,gm l1] [(1,2),(2,3)]) .ret) .skip))))) (r1 [av s7 b7,gm l0] 7 1))))))) (sq (sq (rg [gf 7 s3,gd l0,gl l1,gm bm] [(18,1),(16,2),(15,3)]) (.block 3 (.loop (sq (r1 [aP xa FI] 17 0) (sq (eO ET 3) (sq (.block 4 (sq (rg [gm xa,ga 3 Ml xa,gk 3 true l1,gb 3 (.c (.agg [.str [],.str [],.str []])),gm l0,gt 3 l3 l2] [(19,3),(22,4)]) (sq (sq (r1 [gk 9 true s3,gf 0 VB,gd l1,gf 1 VB,gd l3,gx 211 [l0,l2,l4] [[.a,.a,.a,.a,.a,.a,.sl 3 [.sl 4 [.a,.a,.sl 1 [.a],.a],.a,.a],.sl 3 [.a,.a,.a],.sl 2 [.a,.sl 1 [.a]]],[.a],[.a]],gm l5] 20 6) (sq (r1 [gm IW,cj l0 bm] 21 1) (.cond VZ (sq (rg [gm IW,gm V0,gm l0,gm l1] [(1,2),(2,3)]) .ret) .skip))) (sq (r1 [gf 2 VB,gd l0,gx 212 [l1] bR,kD l2] 23 3) (.cond s23 (sq (rg [gm V0,gm MO,gm l0] [(1,1),(2,2)]) .ret) .skip))))) (r1 [av xa b7,gm l0] 15 1))))))) (sq (sq (r1 [gf 8 s3,gd l0,gx 213 [l1] [[.sl 2 [.a,.sl 1 [.a]]]],kD l2] 24 3) (.cond VC (sq (rg [gm (i6 11),gm bm] [(1,0),(2,1)]) .ret) .skip)) (sq (sq (rg [gf 8 s3,gd l0,gl l1,gm bm] [(28,1),(26,2),(25,3)]) (.block 5 (.loop (sq (r1 [aP V1 Zs] 27 0) (sq (eO s27 5) (sq (.block 6 (sq (rg [gm V1,ga 2 s28 V1,gk 2 true l1,gb 2 (.c (.agg [.str [],.aA])),gm l0,gt 2 l3 l2] [(29,3),(37,4)]) (sq (rg [gf 1 s29,gd l0,gl l1,gm bm] [(33,1),(31,2),(30,3)]) (.block 7 (.loop (sq (r1 [aP S5 s31] 32 0) (sq (eO s32 7) (sq (.block 8 (sq (r1 [ga 1 s33 S5,gd l0,gm l1] 34 2) (sq (r1 [gk 9 true s3,gm s34,gx 214 [l0,l1] [[.a,.a,.a,.a,.a,.a,.sl 3 [.sl 4 [.a,.a,.sl 1 [.a],.a],.a,.a],.sl 3 [.a,.a,.a],.sl 2 [.a,.sl 1 [.a]]],[.a]],gm l2] 35 3) (sq (r1 [gm s35,cj l0 bm] 36 1) (.cond s36 (sq (rg [gm s35,gm s37,gm l0,gm l1] [(1,2),(2,3)]) .ret) .skip))))) (r1 [av S5 b7,gm l0] 30 1))))))))) (r1 [av V1 b7,gm l0] 25 1))))))) (sq (sq (r1 [gk 9 true s3,gx 215 [l0] [[.a,.a,.a,.a,.a,.a,.sl 3 [.sl 4 [.a,.a,.sl 1 [.a],.a],.a,.a],.sl 3 [.a,.a,.a],.sl 2 [.a,.sl 1 [.a]]]],px l1,cR l2 (i6 4096)] 38 3) (.cond s38 (sq (rg [gm k9,gm bm] [(1,0),(2,1)]) .ret) .skip)) (sq (rg [gm bm,gm bm] [(1,0),(2,1)]) .ret))))))))⟩
def w70 (h208:Ko Y)(h209:Kq Y)(h210:V4 Y)(h211:Th Y)(h212:Ti Y)(h213:V5 Y)(h214:V6 Y)(h215:Tj Y)(r:Rec)  (hp0:ew r):cZ Y Cz (.tup [.int .i64 (cw r).1,.int .i64 (cw r).2]) [Rec.D r]:=by
 show bB _ _ _ (⟨true,Rec.D r⟩::.un::.un::.un::.un::.un::.un::.un::.un::.un::.un::.un::.un::.un::.un::.un::.un::.un::.un::.un::.un::.un::.un::.un::.un::.un::.un::.un::.un::.un::.un::.un::.un::.un::.un::.un::.un::.un::.un::[]) ⟨0,[]⟩;refine ak ?_;refine bM ?_;refine aj (hc:=h208 _) ?_;refine aB ?_;refine wp_cond (fun hc0=>?_) (fun hc0=>?_)
 .try simp only[eh]at hc0
  refine aH ?_;refine bE (aN (ar (D.int .i64) ?_) (ar (D.int .i64) ?_));all_goals (have hq:cw r=(4,0):=(by rw[cw,ax hc0]);rw[hq];first|done|rfl)
 simp only[ct]at hc0;refine ay ?_;refine bD (v:=c9.D r.v) ?_;refine aj (hc:=h209 r.v hp0.1.2) ?_;refine aB ?_;refine wp_cond (fun hc1=>?_) (fun hc1=>?_)
 .try simp only[eh]at hc1
  refine aH ?_;refine bE (aN (ar (D.int .i64) ?_) (ar (D.int .i64) ?_));all_goals (have hq:cw r=(5,0):=(by rw[cw,ai (by simp[hc0]),ax hc1]);rw[hq];first|done|rfl)
 simp only[ct]at hc1;refine aF ?_;intro u0;refine aF ?_;refine lL ?_;refine aF ?_;refine eV (fun hc2=>?_) fun hc2=>?_
 .refine aH ?_;refine bE (aN (ar (D.int .i64) ?_) (ar (D.int .i64) ?_));all_goals (have hq:cw r=(3,0):=(by rw[cw,ai (by simp[hc0]),ai (by simp[hc1]),ax ae]);rw[hq];first|done|rfl)
 refine aW ?_;intro u1;refine ay ?_;refine bc hm (ι:=Nat) (fun i=>(.un::.un::.un::⟨true,.ptr 0 9 0 0⟩::.un::.un::.un::⟨true,.int .i64 (i:Nat)⟩::⟨true,.int .i64 (r.needs.length:Nat)⟩::.un::⟨true,.sl 3 (r.needs.map bS.D)⟩::.un::.un::.un::.un::.un::.un::.un::.un::.un::.un::.un::.un::.un::.un::.un::.un::.un::.un::.un::.un::.un::.un::.un::.un::.un::.un::.un::.un::[])) (fun i=>[(0,.buf 9 [Rec.D r])]) 28 (fun i=>i<=r.needs.length/\kR r=gQ (fun i=>il r r.needs[i]!) i r.needs.length) (fun i=>r.needs.length-i) 0 ⟨ae,rfl⟩ (dF [(0,0)]) ?_;rintro i ⟨hi,hr⟩;refine aB ?_;refine cC (fun hc3=>?_) fun hc3=>?_
 .refine aJ ?_;first|refine cE (v:=(bS.D _)) ?_|refine fe (v:=(bS.D _)) ?_
  refine ay ?_;refine a7 (bS.D r.needs[i]!) (he:=bg) ?_;refine aF ?_;refine aj (hc:=h210 r r.needs[i]! (hp0.2.1 _ (bw ae))) ?_;refine aH ?_;refine eV (fun hc4=>?_) fun hc4=>?_
  .refine cU ?_;refine bE (aN (ar (D.int .i64) ?_) (ar (D.int .i64) ?_));all_goals
    have hq:cw r=(il r r.needs[i]!,((i:Nat):Int)):=by
     exact n7 hc0 hc1 ae ae (Ej (by rw[hr,jr ae hc4]) hc4) hc4
    rw[hq];first|done|rfl
  refine aW ?_;exact⟨i+1,⟨ae,by rw[hr,kM ae hc4]⟩,ae,(dF [(0,0)])⟩
 refine aF ?_;have hn0:kR r=(0,0):=by rw[hr,kL ae]
 refine aB ?_;intro u2;refine ay ?_;refine bc hm (ι:=Nat) (fun i=>(.un::.un::.un::⟨true,.ptr 0 9 0 0⟩::.un::.un::.un::.un::.un::.un::.un::.un::.un::.un::.un::⟨true,.int .i64 (i:Nat)⟩::⟨true,.int .i64 (r.bars.length:Nat)⟩::.un::⟨true,.sl 3 (r.bars.map iT.D)⟩::.un::.un::.un::.un::.un::.un::.un::.un::.un::.un::.un::.un::.un::.un::.un::.un::.un::.un::.un::.un::[])) (fun i=>[(0,.buf 9 [Rec.D r])]) 33 (fun i=>i<=r.bars.length/\rT r=gQ (fun i=>n4 r r.bars[i]!) i r.bars.length) (fun i=>r.bars.length-i) 0 ⟨ae,rfl⟩ (dF [(0,0)]) ?_;rintro i ⟨hi,hr⟩;refine aB ?_;refine cC (fun hc5=>?_) fun hc5=>?_
 .refine aJ ?_;first|refine cE (v:=(iT.D _)) ?_|refine fe (v:=(iT.D _)) ?_
  refine ay ?_;refine a7 (iT.D r.bars[i]!) (he:=bg) ?_;refine bM ?_;refine aj (hc:=h211 r r.bars[i]!.name r.bars[i]!.range (hp0.2.2.1 _ (bw ae)).2.1) ?_;refine aW ?_;refine aw (fun hc6=>?_) (fun hc6=>?_)
  .simp only[bK,bA]at hc6;have hbe:n4 r r.bars[i]! =eU r r.bars[i]!.name r.bars[i]!.range:=by rw[n4,ax hc6]
   refine iw ?_;refine bE (aN (ar (D.int .i64) ?_) (ar (D.int .i64) ?_));all_goals
    have hq:cw r=(eU r r.bars[i]!.name r.bars[i]!.range,((i:Nat):Int)):=by
     exact n7 hc0 hc1 ae ae (y5 hn0 (by rw[hr,jr ae (by rw[hbe];exact hc6),hbe]) hc6) hc6
    rw[hq];first|done|rfl
  try simp only[eh]at hc6
  refine aF ?_;refine aj (hc:=h212 _) ?_;refine ay ?_;refine wp_cond (fun hc7=>?_) (fun hc7=>?_)
  .simp only[bK]at hc7;have hbe:n4 r r.bars[i]! =7:=by rw[n4,ai (fun h=>h hc6),ax hc7]
   refine bM ?_;refine bE (aN (ar (D.int .i64) ?_) (ar (D.int .i64) ?_));all_goals
    have hq:cw r=((7:Int),((i:Nat):Int)):=by
     exact n7 hc0 hc1 ae ae (y5 hn0 (by rw[hr,jr ae (by rw[hbe];decide),hbe]) (show(7:Int)≠0 by decide)) (show(7:Int)≠0 by decide)
    rw[hq];first|done|rfl
  simp only[ct]at hc7;have hbz:n4 r r.bars[i]! =0:=by rw[n4,ai (fun h=>h hc6),ai (by rw[hc7];simp)]
  refine aW ?_;exact⟨i+1,⟨ae,by rw[hr,kM ae hbz]⟩,ae,(dF [(0,0)])⟩
 refine aF ?_;have hb0:rT r=(0,0):=by rw[hr,kL ae]
 refine ay ?_;refine aj (hc:=h213 r.feats hp0.2.2.2) ?_;refine ay ?_;refine aw (fun hc8=>?_) (fun hc8=>?_)
 .try simp only[eh]at hc8
  refine aH ?_;refine bE (aN (ar (D.int .i64) ?_) (ar (D.int .i64) ?_));all_goals
   have hq:cw r=(11,0):=by
    exact n7 hc0 hc1 ae ae (Ek hn0 hb0 hc8) aG
   rw[hq];first|done|rfl
 simp only[ct]at hc8;refine aH ?_;intro u3;refine ay ?_;refine bc hm (ι:=Nat) (fun i=>(.un::.un::.un::⟨true,.ptr 0 9 0 0⟩::.un::.un::.un::.un::.un::.un::.un::.un::.un::.un::.un::.un::.un::.un::.un::.un::.un::.un::.un::.un::.un::⟨true,.int .i64 (i:Nat)⟩::⟨true,.int .i64 (r.feats.length:Nat)⟩::.un::⟨true,.sl 2 (r.feats.map bW.D)⟩::.un::.un::.un::.un::.un::.un::.un::.un::.un::.un::[])) (fun i=>[(0,.buf 9 [Rec.D r])]) 42 (fun i=>i<=r.feats.length/\sg r=gQ (fun i=>j2 r r.feats[i]!.of) i r.feats.length) (fun i=>r.feats.length-i) 0 ⟨ae,rfl⟩ (dF [(0,0)]) ?_;rintro i ⟨hi,hr⟩;refine aB ?_;refine cC (fun hc9=>?_) fun hc9=>?_
 .refine aJ ?_;first|refine cE (v:=(bW.D _)) ?_|refine fe (v:=(bW.D _)) ?_
  refine ay ?_;refine a7 (bW.D r.feats[i]!) (he:=bg) ?_;refine aJ ?_;intro u4;refine ay ?_;refine nK hm (ι:=Nat) (fun j=>(.un::.un::.un::⟨true,.ptr 0 9 0 0⟩::.un::.un::.un::.un::.un::.un::.un::.un::.un::.un::.un::.un::.un::.un::.un::.un::.un::.un::.un::.un::.un::⟨true,.int .i64 (i:Nat)⟩::⟨true,.int .i64 (r.feats.length:Nat)⟩::.un::⟨true,.sl 2 (r.feats.map bW.D)⟩::.un::⟨true,.int .i64 (j:Nat)⟩::⟨true,.int .i64 (r.feats[i]!.of.length:Nat)⟩::.un::⟨true,.sl 1 (r.feats[i]!.of.map D.str)⟩::.un::.un::.un::⟨true,.int .i64 (i:Nat)⟩::.un::[])) (fun j=>[(0,.buf 9 [Rec.D r])]) 53 (fun j=>j<=r.feats[i]!.of.length/\j2 r r.feats[i]!.of=eJ (fun j=>jh r r.feats[i]!.of[j]!) j r.feats[i]!.of.length) (fun j=>r.feats[i]!.of.length-j) 0 ⟨ae,rfl⟩ (dF [(0,0)]) ?_;rintro j ⟨hj,hjr⟩;refine aB ?_;refine cC (fun hc10=>?_) fun hc10=>?_
  .refine iw ?_;refine aj (hc:=h214 r r.feats[i]!.of[j]! ((hp0.2.2.2 _ (bw ae)).2.2 _ (bw ae))) ?_;refine aH ?_;refine eV (fun hc11=>?_) fun hc11=>?_
   .refine fW ?_;refine bE (aN (ar (D.int .i64) ?_) (ar (D.int .i64) ?_));all_goals
     have hq:cw r=(jh r r.feats[i]!.of[j]!,((i:Nat):Int)):=by
      have hie:j2 r r.feats[i]!.of=jh r r.feats[i]!.of[j]! :=by rw[hjr,kN ae hc11]
      exact n7 hc0 hc1 ae ae (qk hn0 hb0 hc8 (by rw[hr,jr (f:=(fun i=>j2 r r.feats[i]!.of)) ae (by rw[hie];exact hc11),hie])) hc11
     rw[hq];first|done|rfl
   refine aW ?_;exact⟨j+1,⟨ae,by rw[hjr,mI ae hc11]⟩,ae,(dF [(0,0)])⟩
  refine bM ?_;exact⟨i+1,⟨ae,by rw[hr,kM (f:=(fun i=>j2 r r.feats[i]!.of)) ae (by rw[hjr,mH ae])]⟩,ae,(dF [(0,0)])⟩
 refine aF ?_;have hpz:eg r=(0,0):=qk hn0 hb0 hc8 (by rw[hr,kL ae]);have hgd:vQ r:=⟨⟨hc0,hc1⟩,⟨ae,ae⟩,hpz⟩;refine aE ?_;refine aj (hc:=h215 r ⟨hgd,hp0⟩) ?_;refine aE ?_;intro u5;refine ay ?_;refine cC (fun hc12=>?_) fun hc12=>?_
 .refine aH ?_;refine bE (aN (ar (D.int .i64) ?_) (ar (D.int .i64) ?_));all_goals
   have hq:cw r=(3,0):=by
    rw[pS hc0 hc1 ae ae hpz,ax ae]
   rw[hq];first|done|rfl
 refine aH ?_;refine bE (aN (ar (D.int .i64) ?_) (ar (D.int .i64) ?_));all_goals
  have hq:cw r=(0,0):=by
   rw[pS hc0 hc1 ae ae hpz,ai ae]
  rw[hq];first|done|rfl
def C1 (T:List D->D->Prop):Prop:=∀(r:Rec),(ew r)->T [Rec.D r] (.tup [.int .i64 (cw r).1,.int .i64 (cw r).2])
def C70 (Y:Ctx):Prop:=C1 (bq Y 70)
def cr (s:au):List au×Bool:=if(aq s 10)[(aq s 10).length-1]! =[]then((aq s 10).take ((aq s 10).length-1),true)else(aq s 10,false)
end Go.Abs
section
namespace Go.Abs
variable {Y:Ctx}(hm:(Y.at 0).bU)
def N7 {α:Type}(l:List α)(a d:α)(n:Nat)(h:n=l.length):(l++[a]).getD n d=a:=by subst h;simp[List.getD]
def PX {α:Type}(l:List α)(a b:α)(n:Nat)(h:n=l.length):(l++[a]).set n b=l++[b]:=by subst h;simp
def RdS.ok (x:RdS):Prop:=(x.st=0->x.r.needs=[]/\x.r.bars=[]/\x.r.feats=[])/\((x.st=2\/x.st=3)->x.r.needs≠[])/\(x.st=5->x.r.bars≠[])
end Go.Abs
namespace Go.Abs
variable {Y:Ctx}(hm:(Y.at 0).bU)
end Go.Abs
end
namespace Go.Abs
variable {Y:Ctx}(hm:(Y.at 0).bU)
section
def Nc (ob:De):Prop:=∀(σ:List (Nat×Nat)) (l l':Nat) (w:List au) (n:Nat) (b:Bool),mC 0 σ l=some l'->qA 0 σ (ob w (.own l 5 0 n) b)=some (ob w (.own l' 5 0 n) b)
def qo:Nc hZ:=fun σ l l' w n b h=>by simp only[hZ,qA,nu,CJ,h]
def sI (W:List au):Nc (iA W):=fun σ l l' w n b h=>by simp only[iA,qA,nu,CJ,h]
def PQ:D->Nat
 | .agg [.sl _ ws,_,_]=>ws.length
 | .agg [.sl _ ws,.int _ i,_,_]=>ws.length-i.toNat
 |_=>0
def Cf (c:List D->Nat)(ds:List D)(st:St):Nat:=match ds with
 | .ptr l _ _ _::ai9=>(match look st.m l with
  |some (.buf _ [o])=>6*PQ o+c ai9
  |_=>0)
 |_=>0
def R1 (w:List au)(X:D)(b:Bool):PQ (hZ w X b)=w.length:=by simp[PQ,hZ]
def R2 {W w:List au}(h:w<:+W)(X:D)(b:Bool):PQ (iA W w X b)=w.length:=by
 grind [PQ,iA]
def m7 {c:List D->Nat}{l k nx:Nat}{ai9:List D}{m:List (Nat×bG)}{w:List au}{X:D}{b:Bool}(h:look m l=some (.buf k [hZ w X b])):Cf c (.ptr l k 0 0::ai9) ⟨nx,m⟩=6*w.length+c ai9:=by
 simp only[Cf,h,R1]
def sA {c:List D->Nat}{l k nx:Nat}{ai9:List D}{m:List (Nat×bG)}{W w:List au}{X:D}{b:Bool}(hw:w<:+W)(h:look m l=some (.buf k [iA W w X b])):Cf c (.ptr l k 0 0::ai9) ⟨nx,m⟩=6*w.length+c ai9:=by
 simp only[Cf,h,R2 hw]
def GN (nd:List Nd):bx (nd.map Nd.D)=true:=bH (fun _=>rfl) _
section
variable [dt] {P:Program} {ν:List (Nat×Nat)} {cJ:List Nat} {t:List (Nat×pM)} {fid n key u k:Nat} {af:aD} {ob:De} {ai9:List D} {w:List au} {nd:List Nd} {b:Bool} {lp ln nx:Nat} {m:List (Nat×bG)} {K:D->St->Prop} {Pp:PO->Prop} {V:PO->D}
def Pe (hob:Nc ob)(hk5:k≠5)(has:bx ai9=true)(h1:look m lp=some (.buf k [ob w (.own ln 5 0 nd.length) b]))(h2:look m ln=some (.buf 5 (nd.map Nd.D))):
  lp≠ln/\(∀i,i<(D.ptr lp k 0 0::ai9).length->Qm 0 [(lp,0),(ln,1)] ((D.ptr lp k 0 0::ai9).getD i .any) ((D.ptr 0 k 0 0::ai9).getD i .any))/\ix 0 2 [(lp,0),(ln,1)]=true/\(∀l i,(l,i)∈[(lp,0),(ln,1)]->look m l≠none)/\
   ∀i bb,look [(0,.buf k [ob w (.own 1 5 0 nd.length) b]),(1,.buf 5 (nd.map Nd.D))] i=some bb->∃l b',(l,i)∈[(lp,0),(ln,1)]/\look m l=some b'/\rQ 0 [(lp,0),(ln,1)] b' bb:=by
 have hne:lp≠ln:=by
  rintro rfl;rw[h1]at h2;exact hk5 (bG.buf.inj (bY h2)).1
 have hb:Nat.beq lp ln=false:=by cases h:Nat.beq lp ln with
  |false=>rfl
  |true=>exact absurd (Nat.eq_of_beq_eq_true h) hne
 have hb':Nat.beq ln lp=false:=by cases h:Nat.beq ln lp with
  |false=>rfl
  |true=>exact absurd (Nat.eq_of_beq_eq_true h).symm hne
 refine⟨hne,fun i hi=>?_, ?_,fun l i h=>?_,fun i bb h=>?_⟩
 .match i with
  |0=>exact .inr (.inl (by simp[qA,CJ,mC]))
  |i+1=>exact .inl ⟨rfl,di has i⟩
 .simp[ix,hb,hb'];rfl
 .grind
 .simp only[look]at h;split at h
  .rename_i e;subst e;obtain rfl:=bY h;exact⟨lp,_,.head _,h1,rfl,.inr (.inl (by simp only[nu,hob _ ln 1 w nd.length b (show mC 0 [(lp,0),(ln,1)] ln=some 1 by simp[mC,hb])]))⟩
  .split at h
   .rename_i e;subst e;obtain rfl:=bY h;exact⟨ln,_,.tail _ (.head _),h2,rfl,.inl ⟨rfl,GN nd⟩⟩
   .cases h
def fD (hob:Nc ob)(hk5:k≠5)(has:bx ai9=true)(hV:∀o,(V o).bF=true)(hmix:P.follows .mixedOrders=true)(hC:MM P ν cJ fid af)(hnp:ai9.length+1=af.np)
  (h1:look m lp=some (.buf k [ob w (.own ln 5 0 nd.length) b])) (h2:look m ln=some (.buf 5 (nd.map Nd.D))) (h3:lp<nx) (h4:ln<nx)
  (hK:∀o,Pp o->K (V o) ⟨nx+1,(nx,.buf 5 (o.nd.map Nd.D))::dE (dy m ln) lp (.buf k [ob o.w (.own nx 5 0 o.nd.length) o.bad])⟩)
  (hw:bB ((under t key u).at 2) af.body (jT af (wm k ob Pp V)) (fM af (.ptr 0 k 0 0::ai9)) ⟨2,[(0,.buf k [ob w (.own 1 5 0 nd.length) b]),(1,.buf 5 (nd.map Nd.D))]⟩):pK P ν cJ (under t key u) fid (.ptr lp k 0 0::ai9) ⟨nx,m⟩ K:=by
 obtain⟨hne,g2,g3,g4,g5⟩:=Pe hob hk5 has h1 h2;refine yC (σi:=[(lp,0),(ln,1)]) (cs:=.ptr 0 k 0 0::ai9) (fun q=>wg t key u q) hmix hC aQ g2 (by simpa using hnp) g3 g4 g5 hw ?_;rintro d m1 ⟨o,j,hj,hP,rfl,e0,ej⟩;have hb0:Nat.beq 0 j=false:=by cases j<;>first|omega|rfl
 have hbj:Nat.beq j 0=false:=by cases j<;>first|omega|rfl
 have hbl:Nat.beq lp nx=false:=by cases h:Nat.beq lp nx with
  |false=>rfl
  |true=>have:=Nat.eq_of_beq_eq_true h;omega
 have hbl':Nat.beq nx lp=false:=by cases h:Nat.beq nx lp with
  |false=>rfl
  |true=>have:=Nat.eq_of_beq_eq_true h;omega
 refine⟨[(0,lp),(j,nx)],j+1,_,V o,⟨g3, ?_,Nat.le_succ _,g4, ?_,g5, ?_⟩,.inl ⟨rfl,hV o⟩,hK o hP⟩
 .simp[ix,hbj,hb0,hbl,hbl'];omega
 .intro i l h;rcases bZ.1 h with h|h
  .obtain⟨rfl,rfl⟩:=Prod.mk.inj h;exact .inl (.head _)
  .obtain⟨rfl,rfl⟩:=Prod.mk.inj (cz.1 h);exact .inr (aS _)
 .intro l bb h;simp only[look]at h;split at h
  .rename_i e;subst e;obtain rfl:=bY h;exact .inl ⟨j,_,.tail _ (.head _),ej,rfl,.inl ⟨rfl,GN _⟩⟩
  .rename_i hln;rw[cy]at h;split at h
   .rename_i e;subst e;obtain rfl:=bY h;exact .inl ⟨0,_,.head _,e0,rfl,.inr (.inl (by simp only[nu,hob _ j nx o.w o.nd.length o.bad (show mC 0 [(0,l),(j,nx)] j=some nx by simp[mC,hb0])]))⟩
   .rename_i hlp;rw[gh]at h;split at h
    .cases h
    .rename_i hl2;refine .inr ⟨by simp only[lR,ai (fun e=>hlp (Eq.symm e)),ai hln],fun i hi=>?_,h⟩;rcases bZ.1 hi with hi|hi
     .exact hlp (Prod.mk.inj hi).1
     .exact hl2 (Prod.mk.inj (cz.1 hi)).1
def uY (hob:Nc ob)(hk5:k≠5)(has:bx ai9=true)(hV:∀o,(V o).bF=true)(hmix:P.follows .mixedOrders=true)(hC:MM P ν cJ fid af)(hnp:ai9.length+1=af.np)
  (h1:look m lp=some (.buf k [ob w (.own ln 5 0 nd.length) b])) (h2:look m ln=some (.buf 5 (nd.map Nd.D))) (h3:lp<nx) (h4:ln<nx)
  (hK:∀o,Pp o->K (V o) ⟨nx,dE m lp (.buf k [ob o.w (.own ln 5 0 nd.length) o.bad])⟩)
  (hw:bB ((under t key u).at 2) af.body (jT af (HF k ob nd Pp V)) (fM af (.ptr 0 k 0 0::ai9)) ⟨2,[(0,.buf k [ob w (.own 1 5 0 nd.length) b]),(1,.buf 5 (nd.map Nd.D))]⟩):pK P ν cJ (under t key u) fid (.ptr lp k 0 0::ai9) ⟨nx,m⟩ K:=by
 obtain⟨hne,g2,g3,g4,g5⟩:=Pe hob hk5 has h1 h2;refine yC (σi:=[(lp,0),(ln,1)]) (cs:=.ptr 0 k 0 0::ai9) (fun q=>wg t key u q) hmix hC aQ g2 (by simpa using hnp) g3 g4 g5 hw ?_;rintro d m1 ⟨o,hP,rfl,e0,ej⟩;have hbl:Nat.beq lp ln=false:=by cases h:Nat.beq lp ln with
  |false=>rfl
  |true=>exact absurd (Nat.eq_of_beq_eq_true h) hne
 have hbl':Nat.beq ln lp=false:=by cases h:Nat.beq ln lp with
  |false=>rfl
  |true=>exact absurd (Nat.eq_of_beq_eq_true h).symm hne
 refine⟨[(0,lp),(1,ln)],2,⟨nx,dE m lp (.buf k [ob o.w (.own ln 5 0 nd.length) o.bad])⟩,V o,⟨g3, ?_,aS _,g4, ?_,g5, ?_⟩,.inl ⟨rfl,hV o⟩,hK o hP⟩
 .simp[ix,hbl,hbl'];exact⟨h3,rfl,h4⟩
 .intro i l h;rcases bZ.1 h with h|h
  .obtain⟨rfl,rfl⟩:=Prod.mk.inj h;exact .inl (.head _)
  .obtain⟨rfl,rfl⟩:=Prod.mk.inj (cz.1 h);exact .inl (.tail _ (.head _))
 .intro l bb h;simp only at h;rw[cy]at h;split at h
  .rename_i e;subst e;obtain rfl:=bY h;exact .inl ⟨0,_,.head _,e0,rfl,.inr (.inl (by simp only[nu,hob _ 1 ln o.w nd.length o.bad (show mC 0 [(0,l),(1,ln)] 1=some ln from rfl)]))⟩
  .rename_i hlp;by_cases hl2:l=ln
   .subst hl2;rw[h2]at h;obtain rfl:=bY h;exact .inl ⟨1,_,.tail _ (.head _),ej,rfl,.inl ⟨rfl,GN _⟩⟩
   .refine .inr ⟨by simp only[lR,ai (fun e=>hlp (Eq.symm e)),ai (fun e=>hl2 (Eq.symm e))],fun i hi=>?_,h⟩;rcases bZ.1 hi with hi|hi
    .exact hlp (Prod.mk.inj hi).1
    .exact hl2 (Prod.mk.inj (cz.1 hi)).1
def pP {a b:Nat}(h:a≠b):Nat.beq a b=false:=by
 cases h2:Nat.beq a b with
 |false=>rfl
 |true=>exact absurd (Nat.eq_of_beq_eq_true h2) h
def zq {m:List (Nat×bG)}{l lw:Nat}(h:l≠lw):fu (dy m lw) l=match look m l with
 |some (.bld (some l2) _ _)=>dy (dy m lw) l2
 |_=>dy m lw:=by
 grind [fu,gh,look]
def Lr {ws:List au}{s:au}{l lw:Nat}(hmix:P.follows .mixedOrders=true)(hC:MM P ν cJ fid af)(hnp:2=af.np)
  (h1:rO m l s) (h2:look m lw=some (.buf 1 (ws.map D.str))) (h3:l<nx) (h4:lw<nx) (hK:K (.tup []) ⟨nx+1,pQ (dy m lw) l nx (s++bV ws)⟩)
  (hw:∀m0,rO m0 0 s->look m0 1=some (.buf 1 (ws.map D.str))->bB ((under t key u).at 3) af.body (jT af (fun d m=>d=.tup []/\look m 0=some (.bld (some 9) (s++bV ws).length true)/\look m 9=some (.row (s++bV ws)))) (fM af [.ptr 0 2 0 0,.own 1 1 0 ws.length]) ⟨3,m0⟩):
  pK P ν cJ (under t key u) fid [.ptr l 2 0 0,.own lw 1 0 ws.length] ⟨nx,m⟩ K:=by
 have hlw:l≠lw:=by
  rintro rfl;rcases h1 with⟨u,h,_⟩|⟨l2,u,h,_⟩<;>rw[h2]at h<;>cases h
 have hnl:bx (ws.map D.str)=true:=bH (fun _=>rfl) _;have b1:=pP hlw;have b2:=pP (Ne.symm hlw);have b3:=pP (show l≠nx by omega);have b4:=pP (show nx≠l by omega)

 have fin:∀(σi:List (Nat×Nat)) (m0:List (Nat×bG)),ix 0 3 σi=true->(l,0)∈σi->(∀l i,(l,i)∈σi->look m l≠none)->(∀i b,look m0 i=some b->∃l b',(l,i)∈σi/\look m l=some b'/\rQ 0 σi b' b)->
   (∀l' b,look (fu (dy m lw) l) l'=some b->l'≠l->look m l'=some b/\∀i,(l',i)∉σi)->∀d m1,(d=.tup []/\look m1 0=some (.bld (some 9) (s++bV ws).length true)/\look m1 9=some (.row (s++bV ws)))->
   ∃(σo:List (Nat×Nat)) (q1:Nat) (st':St) (vd':D),Fr σi σo 3 q1 m0 m1 ⟨nx,m⟩ st'/\Qm 0 σo d vd'/\K vd' st':=by
  rintro σi m0 oki hm hlt hm0 hoff d m1 ⟨rfl,e0,e9⟩;refine⟨[(0,l),(9,nx)],10,⟨nx+1,pQ (dy m lw) l nx (s++bV ws)⟩,.tup [],⟨oki, ?_,Nat.le_succ _,hlt, ?_,hm0, ?_⟩,.inl ⟨rfl,rfl⟩,hK⟩
  .simp[ix,b3,b4];exact⟨ae,rfl⟩
  .intro i l' h;rcases bZ.1 h with h|h
   .obtain⟨rfl,rfl⟩:=Prod.mk.inj h;exact .inl hm
   .obtain⟨rfl,rfl⟩:=Prod.mk.inj (cz.1 h);exact .inr (aS _)
  .intro l' bb h;simp only[pQ,look]at h;split at h
   .rename_i e;subst e;obtain rfl:=bY h;exact .inl ⟨9,_,.tail _ (.head _),e9,rfl⟩
   .rename_i hln;rw[cy]at h;split at h
    .rename_i e;subst e;obtain rfl:=bY h;exact .inl ⟨0,_,.head _,e0,⟨nx,rfl,rfl⟩,rfl,rfl⟩
    .rename_i hl;obtain⟨g1,g2⟩:=hoff l' bb h hl;exact .inr ⟨by simp only[lR,ai (fun e=>hl (Eq.symm e)),ai hln],g2,g1⟩
 rcases h1 with⟨u,h1,rfl⟩|⟨l2,u,h1,h5⟩
 .have g4:∀l' i,(l',i)∈[(l,0),(lw,1)]->look m l'≠none:=by
   intro l' i h;rcases bZ.1 h with h|h
   .obtain⟨rfl,rfl⟩:=Prod.mk.inj h;rw[h1];simp
   .obtain⟨rfl,rfl⟩:=Prod.mk.inj (cz.1 h);rw[h2];simp
  have g3:ix 0 3 [(l,0),(lw,1)]=true:=by simp[ix,b1,b2];rfl
  have g5:∀i b,look [(0,bG.bld none 0 u),(1,.buf 1 (ws.map D.str))] i=some b->∃l' b',(l',i)∈[(l,0),(lw,1)]/\look m l'=some b'/\rQ 0 [(l,0),(lw,1)] b' b:=by
   intro i b h;simp only[look]at h;split at h
   .rename_i e;subst e;obtain rfl:=bY h;exact⟨l,_,.head _,h1,rfl,rfl,rfl⟩
   .split at h
    .rename_i e;subst e;obtain rfl:=bY h;exact⟨lw,_,.tail _ (.head _),h2,rfl,.inl ⟨rfl,hnl⟩⟩
    .cases h
  refine yC (σi:=[(l,0),(lw,1)]) (cs:=[.ptr 0 2 0 0,.own 1 1 0 ws.length]) (fun q=>wg t key _ q) hmix hC rfl ?_ hnp g3 g4 g5 (hw _ (.inl ⟨u,rfl,rfl⟩) rfl) (fin _ _ g3 (.head _) g4 g5 ?_)
  .intro i hi
   match i,hi with
   |0,_=>exact .inr (.inl (by simp[qA,CJ,mC]))
   |1,_=>exact .inr (.inl (by simp[qA,CJ,mC,b1]))
  .intro l' b h hl;rw[zq hlw]at h;simp only[h1]at h;rw[gh]at h;split at h
   .cases h
   .rename_i hw';refine⟨h,fun i hi=>?_⟩;rcases bZ.1 hi with hi|hi
    .exact hl (Prod.mk.inj hi).1
    .exact hw' (Prod.mk.inj (cz.1 hi)).1
 .have c1:l2≠l:=by rintro rfl;rw[h1]at h5;cases h5
  have c2:l2≠lw:=by rintro rfl;rw[h2]at h5;cases h5
  have d1:=pP c1;have d2:=pP c2;have d3:=pP (Ne.symm c1);have d4:=pP (Ne.symm c2);have g4:∀l' i,(l',i)∈[(l,0),(lw,1),(l2,2)]->look m l'≠none:=by
   intro l' i h;rcases bZ.1 h with h|h
   .obtain⟨rfl,rfl⟩:=Prod.mk.inj h;rw[h1];simp
   .rcases bZ.1 h with h|h
    .obtain⟨rfl,rfl⟩:=Prod.mk.inj h;rw[h2];simp
    .obtain⟨rfl,rfl⟩:=Prod.mk.inj (cz.1 h);rw[h5];simp
  have g3:ix 0 3 [(l,0),(lw,1),(l2,2)]=true:=by simp[ix,b1,b2,d1,d2,d3,d4];exact⟨⟨rfl,rfl⟩,rfl⟩
  have g5:∀i b,look [(0,bG.bld (some 2) s.length u),(1,.buf 1 (ws.map D.str)),(2,.row s)] i=some b->∃l' b',(l',i)∈[(l,0),(lw,1),(l2,2)]/\look m l'=some b'/\rQ 0 [(l,0),(lw,1),(l2,2)] b' b:=by
   intro i b h;simp only[look]at h;split at h
   .rename_i e;subst e;obtain rfl:=bY h;exact⟨l,_,.head _,h1,⟨2,by simp[mC,d3,d4],rfl⟩,rfl,rfl⟩
   .split at h
    .rename_i e;subst e;obtain rfl:=bY h;exact⟨lw,_,.tail _ (.head _),h2,rfl,.inl ⟨rfl,hnl⟩⟩
    .split at h
     .rename_i e;subst e;obtain rfl:=bY h;exact⟨l2,_,.tail _ (.tail _ (.head _)),h5,rfl⟩
     .cases h
  refine yC (σi:=[(l,0),(lw,1),(l2,2)]) (cs:=[.ptr 0 2 0 0,.own 1 1 0 ws.length]) (fun q=>wg t key _ q) hmix hC rfl ?_ hnp g3 g4 g5 (hw _ (.inr ⟨2,u,rfl,rfl⟩) rfl) (fin _ _ g3 (.head _) g4 g5 ?_)
  .intro i hi
   match i,hi with
   |0,_=>exact .inr (.inl (by simp[qA,CJ,mC]))
   |1,_=>exact .inr (.inl (by simp[qA,CJ,mC,b1]))
  .intro l' b h hl;rw[zq hlw]at h;simp only[h1]at h;rw[gh]at h;split at h
   .cases h
   .rename_i hw2;rw[gh]at h;split at h
    .cases h
    .rename_i hw';refine⟨h,fun i hi=>?_⟩;rcases bZ.1 hi with hi|hi
     .exact hl (Prod.mk.inj hi).1
     .rcases bZ.1 hi with hi|hi
      .exact hw' (Prod.mk.inj hi).1
      .exact hw2 (Prod.mk.inj (cz.1 hi)).1
end
end
theorem uN {α:Type}{f:α->D}(hf:∀x y,f x=f y↔x=y):∀a b:List α,a.map f=b.map f↔a=b
 |[],[]=>aQ
 |[],_::_=>aQ
 |_::_,[]=>aQ
 |x::a,y::b=>by simp only[List.map_cons,vA,hf,uN hf a b]
def Y4 (a b:Nat):((a:Nat):Int)=(b:Nat)↔a=b:=ae
theorem iU8 (x y:UInt8):((x.toNat:Nat):Int)=(y.toNat:Nat)↔x=y:=(Y4 _ _).trans je
def Rn (a b:List au):a.map D.str=b.map D.str↔a=b:=uN (fun _ _=>aQ) a b
def iInt (a b:List Int):a.map (D.int .i64)=b.map (D.int .i64)↔a=b:=uN (fun _ _=>aQ) a b
def iByt (a b:au):(a.map fun c=>D.int .u8 c.toNat)=(b.map fun c=>D.int .u8 c.toNat)↔a=b:=by grind [uN,iU8]
def iVer (a b:c9):c9.D a=c9.D b↔a=b:=by cases a;cases b;simp[c9.D]
def SV (a b:cg):cg.D a=cg.D b↔a=b:=by cases a;cases b;simp[cg.D,Rn]
def Oe (a b:List cg):a.map cg.D=b.map cg.D↔a=b:=uN SV a b
def SU (a b:bS):bS.D a=bS.D b↔a=b:=by cases a;cases b;simp[bS.D,Oe]
def Gq (a b:List bS):a.map bS.D=b.map bS.D↔a=b:=uN SU a b
def Y1 (a b:iT):iT.D a=iT.D b↔a=b:=by cases a;cases b;simp[iT.D]
def Od (a b:List iT):a.map iT.D=b.map iT.D↔a=b:=uN Y1 a b
def SS (a b:bW):bW.D a=bW.D b↔a=b:=by cases a;cases b;simp[bW.D,Rn]
def Gp (a b:List bW):a.map bW.D=b.map bW.D↔a=b:=uN SS a b
def iRec (a b:Rec):Rec.D a=Rec.D b↔a=b:=by
 obtain⟨n,⟨v1,v2,v3,v4,v5⟩,x,y,z⟩:=a;obtain⟨n',⟨w1,w2,w3,w4,w5⟩,x',y',z'⟩:=b;simp[Rec.D,Gq,Od,Gp,and_assoc]
def Y2 (a b:dc):dc.D a=dc.D b↔a=b:=by
 obtain⟨n,p,v1,v2,v3,v4,v5⟩:=a;obtain⟨n',p',w1,w2,w3,w4,w5⟩:=b;simp[dc.D]
def SQ (a b:List dc):a.map dc.D=b.map dc.D↔a=b:=uN Y2 a b
def iNd (a b:Nd):Nd.D a=Nd.D b↔a=b:=by cases a;cases b;simp[Nd.D]
def Y5 (a b:List Nd):a.map Nd.D=b.map Nd.D↔a=b:=uN iNd a b
def UM (a b:Alt):pN a=pN b↔a=b:=by simp[pN,SQ]
def iRng (a b:xY):gU a=gU b↔a=b:=by simp[gU,uN UM]
def Y0 (a b:List Alt):a.map pN=b.map pN↔a=b:=uN UM a b
def iMrk (a b:SF):kA a=kA b↔a=b:=by simp[kA,Y5]
def iPr (w w':List au)(x x':D)(b b':Bool):hZ w x b=hZ w' x' b'↔w=w'/\x=x'/\b=b':=by simp[hZ,Rn]
def jP (l:List Int)(i:Int):Int:=if i<0\/(l.length:Int)<=i then 0 else l[i.toNat]!
def RR {v n:Int}(h:0<n)(h2:¬v.tmod n<0):v.tmod n=v%n:=by
 rw[Int.tmod_eq_emod];rw[Int.tmod_eq_emod]at h2;have h3:=Int.emod_nonneg v (show n≠0 by omega);have h4:=Int.emod_lt_of_pos v h
 grind
def RQ {v n:Int}(h:0<n)(h2:v.tmod n<0):v.tmod n+n=v%n:=by
 rw[Int.tmod_eq_emod]at h2⊢;have h3:=Int.emod_nonneg v (show n≠0 by omega)
 grind
def eY (l:List Int)(i n:Int):Int:=jP l i%n
def dh (l:List Int)(i n:Int)(h:0<n):0<=eY l i n/\eY l i n<n:=⟨Int.emod_nonneg _ ae,Int.emod_lt_of_pos _ h⟩
def mO (v n:Int)(h:0<n):0<=v%n/\v%n<n:=⟨Int.emod_nonneg _ ae,Int.emod_lt_of_pos _ h⟩
theorem tn {α:Type} [Inhabited α]{q:α->D}(xs:List α){j:Nat}(h:j<xs.length):cut (xs.map q) (j*1) 1 false=q xs[j]! :=by
 show(xs.map q).getD (j*1) .any=_;rw[Nat.mul_one];exact getD_map h
def GB {α:Type} [Inhabited α]{q:α->D}(xs:List α){j n:Nat}(h:j<xs.length)(hn:(1==n)=false):nU (.agg (xs.map q)) n 1 (0+j*1) false=q xs[j]! :=by
 have hc:(D.agg (xs.map q)).cells=xs.map q:=by
  rfl
 grind [nU,tn]
def OJ:List au:=[[97,112,112],[98],[99],[100],[101,45,50]]
def ep (n:Int):au:=OJ[(n%5).toNat]!
def Sd:List au:=[[120],[121],[122],[119,95,49]]
def lz (n:Int):au:=Sd[(n%4).toNat]!
def GU:List Int:=[9,7,6,3,1,2]
def wv (l:List Int)(i:Int):dc:=⟨GU[(eY l i 6).toNat]!,3,⟨eY l (i+1) 3,eY l (i+2) 2,0,[],[]⟩⟩
def su (l:List Int)(i:Int):au:=if(wv l i).op=9 then [42]else dH (wv l i)
def AU:List au:=[[111,115],[97,114,99,104],[97,98,105]]
def KS:List au:=[[32,61,32],[32,33,61,32]]
def lv (l:List Int)(i:Int):au:=if 2<eY l i 6 then []else AU[(eY l i 6).toNat]! ++KS[(eY l (i+1) 2).toNat]! ++lz (1+eY l (i+1) 3)
def zJ:List au:=[[120],[121]]
def nR (l:List Int)(i:Int)(alone:Bool):List au:=if alone=true/\2<eY l (i+5) 5 then zJ.take (eY l (i+5) 5-2).toNat else []
def lx (l:List Int)(i own:Int)(alone:Bool):cg:=⟨ep (own+1+eY l i 4),su l (i+1),nR l i alone,decide (eY l (i+4) 3=0)⟩
def e7 (l:List Int)(i:Int):Nat:=if eY l i 5=1 then 2 else 1
def sr (l:List Int)(i own:Int)(k:Nat):List cg:=(List.range k).map fun(k:Nat)=>lx l (i+1+6*(k:Nat)) own (decide ((e7 l i:Int)=1))
def gD (l:List Int)(i own:Int):bS:=⟨sr l i own (e7 l i),lv l (i+14),if eY l (i+16) 4=1 then lz (jP l (i+17))else []⟩
def K2 (l:List Int)(i own:Int)(k:Nat):sr l i own (k+1)=sr l i own k++[lx l (i+1+6*(k:Nat)) own (decide ((e7 l i:Int)=1))]:=by
 unfold sr;rw[List.range_succ,List.map_append];rfl
def yz (l:List Int)(i:Int):e7 l i<=2:=by
 unfold e7;split<;>omega
def kT (s:au):List au->Nat
 |[]=>0
 |a::r=>if Op.bytesLess a s=true then kT s r+1 else 0
def gr (l:List au)(s:au):List au:=if kT s l<l.length/\l[kT s l]! =s then l else l.take (kT s l)++[s]++l.drop (kT s l)
def Ct (s:au):∀l:List au,kT s l<=l.length
 |[]=>aS _
 |a::r=>by
  have:=Ct s r
  grind [kT]
def Cu (s:au):∀(l:List au) (i:Nat),i<kT s l->Op.bytesLess l[i]! s=true
 |[],i,h=>by simp[kT]at h
 |a::r,i,h=>by
  simp only[kT]at h;split at h
  .rename_i ha;cases i with
   |zero=>simpa using ha
   |succ i=>simpa using Cu s r i ae
  .omega
def va (s:au):∀l:List au,kT s l<l.length->Op.bytesLess l[kT s l]! s=false
 |[],h=>by simp at h
 |a::r,h=>by
  simp only[kT]at h⊢;split
  .rename_i ha;rw[ax ha]at h;simpa using va s r (by simpa using h)
  .rename_i ha;simpa using ha
def F1 (n b:Int):Int:=IntKind.wrap .i64 (((BitVec.ofInt 64 (n.fdiv (2^(min b.toNat 64))))&&&(BitVec.ofInt 64 1)).toNat)
def mA:List au:=[SL,[120],[121],[122]]
def N0 (r:Rec)(n:Int)(of:List au)(j:Nat):List au:=if ¬r.needs[j]!.option=[]/\F1 n (3+(j:Nat))=1 then gr of ([63]++r.needs[j]!.option)else of
def SN (r:Rec)(n:Int)(of:List au)(j:Nat):List au:=if r.needs[j]!.any.length=1/\F1 n (5+(j:Nat))=1 then gr of (r.needs[j]!.any[0]!.name++[47]++[120])else of
def SO (r:Rec)(n:Int)(of:List au)(j:Nat):List au:=SN r n (N0 r n of j) j
def pF (r:Rec)(n:Int)(j:Nat):List au:=(List.range j).foldl (SO r n) []
def Q9 (l:List Int)(i:Int)(n:Int)(k:Nat)(of:List au):List au:=if(k<3/\F1 n 7=1)/\¬jP l (i+(k:Nat)+1)%3=0 then gr of mA[k+1]! else of
def VR (l:List Int)(i:Int)(r:Rec)(k:Nat):Option bW:=if jP l (i+(k:Nat))%3=0 then none else some ⟨mA[k]!,Q9 l i (jP l (i+(k:Nat))) k (pF r (jP l (i+(k:Nat))) (min r.needs.length 2))⟩
def N1 (l:List Int)(i:Int)(r:Rec)(k:Nat):List bW:=(List.range k).filterMap (VR l i r)
def js (l:List Int)(i:Int)(r:Rec):List bW:=N1 l i r 4
theorem oc (r:Rec)(n:Int)(j:Nat):pF r n (j+1)=SO r n (pF r n j) j:=by
 unfold pF;rw[List.range_succ,List.foldl_append];rfl
def UF {l:List Int}{i:Int}{r:Rec}{k:Nat}(h:jP l (i+(k:Nat))%3=0):N1 l i r (k+1)=N1 l i r k:=by
 unfold N1;rw[List.range_succ,List.filterMap_append];simp[VR,h]
def HV {l:List Int}{i:Int}{r:Rec}{k:Nat}{of:List au}(h:¬jP l (i+(k:Nat))%3=0)(ho:Q9 l i (jP l (i+(k:Nat))) k (pF r (jP l (i+(k:Nat))) (min r.needs.length 2))=of):N1 l i r (k+1)=N1 l i r k++[⟨mA[k]!,of⟩]:=by
 unfold N1;rw[List.range_succ,List.filterMap_append];simp[VR,h,ho]
theorem qp (l:List au)(s:au):(gr l s).length<=l.length+1:=by
 grind [gr]
theorem Q7 (r:Rec)(n:Int)(of:List au)(j:Nat):(N0 r n of j).length<=of.length+1:=by
 grind [N0,qp]
theorem Q8 (r:Rec)(n:Int)(of:List au)(j:Nat):(SN r n of j).length<=of.length+1:=by
 grind [SN,qp]
def B3 (r:Rec)(n:Int):∀j,(pF r n j).length<=2*j
 |0=>by simp[pF]
 |j+1=>by
  have h1:=B3 r n j
  grind [Q7,pF,Q8,N0,oc,SO]
def mK (n:Int):(ep n).length<=3:=by
 obtain⟨h1,h2⟩:=mO n 5 aG;unfold ep;have:(n%5).toNat<5:=ae;revert this;generalize (n%5).toNat=k;revert k;decide
def uC (n:Int):(lz n).length<=3:=by
 obtain⟨h1,h2⟩:=mO n 4 aG;unfold lz;have:(n%4).toNat<4:=ae;revert this;generalize (n%4).toNat=k;revert k;decide
def Lj (k:Nat)(h:k<3):(AU[k]!).length<=4:=by
 revert k;decide
def NP (k:Nat)(h:k<2):(KS[k]!).length<=4:=by
 revert k;decide
def QZ (l:List Int)(i:Int):(wv l i).v.sm:=⟨by simp[wv],by simp[wv]⟩
def Pz:au:=[114,99,46,49]
def sv (l:List Int)(i:Int):au:=if eY l (i+2) 9=1 then Pz else []
def yx (l:List Int)(i:Int):au:=if eY l (i+2) 9=2 then [55]else []
def K7 (l:List Int)(i:Int):c9:=⟨eY l i 3,eY l (i+1) 2,0,sv l i,yx l i⟩
def gK (l:List Int)(i:Int):Nat:=(eY l (i+3) 4%3).toNat
def YX (l:List Int)(i:Int):(eY l (i+3) 4).tmod 3=(gK l i:Int):=by
 have h:=dh l (i+3) 4 aG;rw[Int.tmod_eq_emod_of_nonneg h.1];unfold gK;omega
def SP (l:List Int)(i:Int):gK l i<=2:=by unfold gK;omega
def DI (l:List Int)(i own:Int)(n:Nat):List bS:=(List.range n).map fun(q:Nat)=>gD l (i+4+20*((gK l i-q:Nat):Int) -20) own
def N5 {l:List Int}{i own:Int}{k:Nat}(hk:k<=gK l i)(h0:0<k):DI l i own (gK l i-(k-1))=DI l i own (gK l i-k)++[gD l (i+4+20*(k:Int) -20) own]:=by
 rw[show gK l i-(k-1)=(gK l i-k)+1 by omega];unfold DI;rw[List.range_succ,List.map_append,List.map_singleton,show gK l i-(gK l i-k)=k by omega]
def p9 (l:List Int)(i own:Int):List bS:=DI l i own (gK l i)
def yw (l:List Int)(i own:Int):iT:=⟨ep (own+1+eY l (i+46) 4),su l (i+47),lv l (i+50)⟩
def p7 (l:List Int)(i own:Int):List iT:=if eY l (i+45) 5=1 then [yw l i own]else []
def oo (l:List Int)(i own:Int):Rec:=⟨ep own,K7 l i,p9 l i own,p7 l i own,[]⟩
def yB (l:List Int)(i own:Int):Rec:={oo l i own with feats:=js l (i+52) (oo l i own)}
def K1 {l:List Int}{i own:Int}{k:Nat}{w:cg}(h:w∈sr l i own k):w.name.length<=3:=by
 obtain⟨q,_,rfl⟩:=dN.1 h;exact mK _
def uz (l:List Int)(i own:Int):(gD l i own).option.length<=3:=by
 show(if _ then _ else _:au).length<=3;split
 .exact uC _
 .simp
def K6 (l:List Int)(i own:Int):∀j:Nat,j<(oo l i own).needs.length->(oo l i own).needs[j]!.option.length<=100/\((oo l i own).needs[j]!.any.length=1->(oo l i own).needs[j]!.any[0]!.name.length<=100):=by
 intro j hj;have hm:=bw hj;obtain⟨q,_,hq⟩:=dN.1 hm;rw[<-hq];generalize i+4+20*((gK l i-q:Nat):Int) -20=x;refine⟨cT (uz _ _ _) aG,fun h=>?_⟩;have h2:=bw (l:=(gD l x own).any) (i:=0) ae;exact cT (K1 (k:=e7 l x) h2) aG
def D3:∀a b:au,Op.bytesLess a b=false->a≠b->Op.bytesLess b a=true
 |[],[],_,h=>absurd rfl h
 |[],_::_,h,_=>by simp[Op.bytesLess]at h
 |_::_,[],_,_=>by simp[Op.bytesLess]
 |x::a,y::b,h,hn=>by
  simp only[Op.bytesLess,dR,bA,dI,beq_eq_false_iff_ne]at h;simp only[Op.bytesLess,c8,aY,bp,beq_iff_eq];obtain⟨h1,h2⟩:=h;by_cases e:x=y
  .subst e;refine .inr ⟨rfl,D3 a b (h2.resolve_left fun h=>h rfl) fun e=>hn (by rw[e])⟩
  grind
def zg {l:List au}{s t:au}(h:t∈gr l s):t∈l\/t=s:=by
 grind [gr]
def Hm (l:List au):rising l=true↔∀i,1<=i->i<l.length->Op.bytesLess l[i-1]! l[i]! =true:=by
 unfold rising;rw[eo]
def qq {l:List au}{s:au}(h:rising l=true):rising (gr l s)=true:=by
 unfold gr;split
 .exact h
 .rename_i hn;rw[Hm]at h⊢;have hl:=Ct s l;have hlt:=Cu s l;have hst:=va s l;generalize kT s l=k at hn hl hlt hst⊢;have hlen:(l.take k++[s]++l.drop k).length=l.length+1:=by
   simp only[bJ,fA,qN,az,aC];omega
  have g1:∀j,j<k->(l.take k++[s]++l.drop k)[j]! =l[j]! :=fun j hj=>by
   have a:j<(l.take k).length:=by rw[fA];omega
   have b:j<l.length:=ae;rw[dx,getElem!_pos _ _ (by rw[bJ];omega),List.getElem_append_left a,List.getElem_take,getElem!_pos l j b]
  have g2:(l.take k++[s]++l.drop k)[k]! =s:=by
   have a:(l.take k).length=k:=by rw[fA];omega
   rw[dx,getElem!_pos _ _ (by simp only[bJ,a,az];omega),List.getElem_append_right ae];simp[a]
  have g3:∀j,k<j->j<l.length+1->(l.take k++[s]++l.drop k)[j]! =l[j-1]! :=fun j hj hj2=>by
   have a:(l.take k).length=k:=by rw[fA];omega
   have b:(l.take k++[s]).length=k+1:=by rw[bJ,a];rfl
   rw[getElem!_pos _ _ (by rw[hlen];omega),List.getElem_append_right ae,List.getElem_drop,getElem!_pos l (j-1) ae];congr 1;omega
  intro i h1 h2;rw[hlen]at h2;rcases Nat.lt_trichotomy i k with hik|hik|hik
  .rw[g1 i hik,g1 (i-1) ae];exact h i h1 ae
  .subst hik;rw[g2,g1 (i-1) ae];exact hlt _ ae
  .rw[g3 i hik h2];by_cases he:i=k+1
   .subst he;rw[show k+1-1=k from rfl,g2];exact D3 _ _ (hst ae) fun e=>hn ⟨ae,e⟩
   .rw[g3 (i-1) ae ae];exact h (i-1) ae ae
def GP:∀k,k<5->du OJ[k]! =true/\OJ[k]!.length<=3/\dd (OJ[k]! ++[47]++[120])=((3:Int),OJ[k]!,([120]:au)):=by decide+kernel
theorem U1:∀a,a<5->∀b,b<5->a≠b->OJ[a]! ≠OJ[b]! :=by decide+kernel
def VL:∀k,k<4->cu Sd[k]! =true/\dd (([63]:au)++Sd[k]!)=((2:Int),Sd[k]!,([]:au)):=by decide+kernel
def YV (k a b:Nat):au:=if GU[k]! =9 then [42]else dH ⟨GU[k]!,3,⟨(a:Nat),(b:Nat),0,[],[]⟩⟩
def R4 (s:au):Prop:=rp s=true/\s.length<=8/\s≠[]/\(∀c∈s,c≠10)
instance (s:au):Decidable (R4 s):=by unfold R4;infer_instance
def D7 (s:au):Prop:=oZ s=true/\s.length<=16/\(∀c∈s,c≠10)
instance (s:au):Decidable (D7 s):=by unfold D7;infer_instance
def Q0:∀k,k<6->∀a,a<3->∀b,b<2->R4 (YV k a b):=by decide+kernel
theorem Qc:∀k,k<3->∀a,a<2->∀b,b<4->D7 (AU[k]! ++KS[a]! ++Sd[b]!):=by decide+kernel
def om (n:Int):(n%5).toNat<5/\ep n=OJ[(n%5).toNat]! :=by
 have:=mO n 5 aG;exact⟨ae,rfl⟩
def p8 (n:Int):du (ep n)=true/\(ep n).length<=3:=⟨(GP _ (om n).1).1,(GP _ (om n).1).2.1⟩
def DH (own d:Int)(h0:0<=d)(h1:d<4):ep (own+1+d)≠ep own:=by
 have a:=om (own+1+d);have b:=om own
 grind [U1]
def DJ (n:Int):(n%4).toNat<4/\lz n=Sd[(n%4).toNat]! :=by
 have:=mO n 4 aG;exact⟨ae,rfl⟩
theorem qa (n:Int):cu (lz n)=true/\dd (([63]:au)++lz n)=((2:Int),lz n,([]:au)):=VL _ (DJ n).1
def oU (l:List Int)(i:Int):R4 (su l i):=by
 have a:=dh l i 6 aG;have b:=dh l (i+1) 3 aG;have c:=dh l (i+2) 2 aG;have:=Q0 (eY l i 6).toNat ae (eY l (i+1) 3).toNat ae (eY l (i+2) 2).toNat ae
 grind [YV,eY,su,wv]
def Lz:D7 []:=by decide+kernel
def m3 (l:List Int)(i:Int):D7 (lv l i):=by
 unfold lv;split
 .exact Lz
 .rename_i h;have a:=dh l i 6 aG;have b:=dh l (i+1) 2 aG;have c:=DJ (1+eY l (i+1) 3)
  grind [Qc]
def vO {f:Nat->Int}{n:Nat}(h:∀j,j<n->f j=0):eJ f 0 n=0:=by
 have:∀k i,i+k=n->eJ f i n=0:=by
  intro k;induction k with
  |zero=>intro i e;exact mH ae
  |succ k ih=>intro i e;rw[mI ae (h i ae)];exact ih (i+1) ae
 exact this n 0 ae
def pZ {f:Nat->Int}{n:Nat}(h:∀j,j<n->f j=0):gQ f 0 n=(0,0):=by
 have:∀k i,i+k=n->gQ f i n=(0,0):=by
  intro k;induction k with
  |zero=>intro i e;exact kL ae
  |succ k ih=>intro i e;rw[kM ae (h i ae)];exact ih (i+1) ae
 exact this n 0 ae
def BC {r:Rec}{nm rg:au}(h1:du nm=true)(h2:nm≠r.name)(h3:rp rg=true):eU r nm rg=0:=by
 grind [eU]
def Qi:∀n,iS (zJ.take n) true=true
 |0=>aG
 |1=>aG
 |n+2=>by
  have:zJ.take (n+2)=zJ:=dM (by simp[zJ]);rw[this];decide
theorem K8 (l:List Int)(i:Int)(al:Bool):iS (nR l i al) al=true:=by
 unfold nR;split
 .rename_i h;rw[h.1];exact Qi _
 .cases al<;>decide
def ME {r:Rec}{own:Int}(hr:r.name=ep own)(l:List Int)(i:Int)(al:Bool):iW r (lx l i own al) al=0:=by
 have h:=dh l i 4 aG;have h1:=BC (r:=r) (p8 (own+1+eY l i 4)).1 (by rw[hr];exact DH own _ h.1 h.2) (oU l (i+1)).1;unfold iW;show(if eU r (ep (own+1+eY l i 4)) (su l (i+1))≠0 then _ else if iS (nR l i al) al=false then _ else _)=_
 grind [K8]
def DG (l:List Int)(i own:Int)(k:Nat):(sr l i own k).length=k:=by simp[sr]
def DF {l:List Int}{i own:Int}{k j:Nat}(h:j<k):(sr l i own k)[j]! =lx l (i+1+6*(j:Nat)) own (decide ((e7 l i:Int)=1)):=by
 grind [sr]
def AK (l:List Int)(i:Int):1<=e7 l i:=by unfold e7;split<;>omega
def B6 (l:List Int)(i own:Int):(gD l i own).option=[]\/∃n,(gD l i own).option=lz n:=by
 show(if _ then _ else _:au)=[]\/_;split
 .rename_i h;exact .inr ⟨jP l (i+17),ax h⟩
 .exact .inl rfl
def LA {r:Rec}{own:Int}(hr:r.name=ep own)(l:List Int)(i:Int):il r (gD l i own)=0:=by
 have hl:(gD l i own).any.length=e7 l i:=DG _ _ _ _;have h1:=AK l i;have h2:=yz l i;unfold il;rw[ai (by rw[hl];omega),ai (by rw[hl];omega)];have hw:lg r (gD l i own).any=0:=by
  unfold lg;refine vO fun j hj=>?_
  rw[hl]at hj⊢;show iW r (sr l i own (e7 l i))[j]! _=0;rw[DF hj];exact ME hr l _ _
 rw[hw,ai aQ,ai (by rw[show(gD l i own).when'=lv l (i+14)from rfl,(m3 l (i+14)).1];simp)];rcases B6 l i own with h|⟨n,h⟩
 .rw[ai (by rw[h];simp)]
 grind [qa]
def Rb (l:List Int)(i own:Int)(n:Nat):(DI l i own n).length=n:=by simp[DI]
def tE {l:List Int}{i own:Int}{n:Nat}{x:bS}(h:x∈DI l i own n):∃k:Int,x=gD l k own:=by
 obtain⟨q,_,rfl⟩:=dN.1 h;exact⟨_,rfl⟩
def GO {r:Rec}{l:List Int}{i own:Int}(hr:r.name=ep own)(hn:r.needs=p9 l i own):kR r=(0,0):=by
 unfold kR;refine pZ fun j hj=>?_
 obtain⟨k,hk⟩:=tE (show r.needs[j]! ∈DI l i own (gK l i)by rw[show DI l i own (gK l i)=r.needs from hn.symm];exact bw hj);rw[hk];exact LA hr l k
def Nq {r:Rec}{own:Int}(hr:r.name=ep own)(l:List Int)(i:Int):n4 r (yw l i own)=0:=by
 have h:=dh l (i+46) 4 aG;have h1:=BC (r:=r) (p8 (own+1+eY l (i+46) 4)).1 (by rw[hr];exact DH own _ h.1 h.2) (oU l (i+47)).1;unfold n4;show(if eU r (ep (own+1+eY l (i+46) 4)) (su l (i+47))≠0 then _ else if oZ (lv l (i+50))=false then _ else _)=_;rw[h1,ai aQ,(m3 l (i+50)).1,ai aQ]
def AJ {l:List Int}{i own:Int}{b:iT}(h:b∈p7 l i own):b=yw l i own:=by
 grind [p7]
def VN (l:List Int)(i:Int)(r:Rec)(t:au):Prop:=(∃m∈r.needs,m.option≠[]/\t=[63]++m.option)\/(∃m∈r.needs,m.any.length=1/\t=m.any[0]!.name++[47]++[120])\/∃k,k<3/\¬jP l (i+(k:Nat)+1)%3=0/\t=mA[k+1]!
def N2 (l:List Int)(i:Int)(r:Rec)(n:Int):∀j,j<=r.needs.length->rising (pF r n j)=true/\∀t∈pF r n j,VN l i r t
 |0,_=>⟨rfl,fun t ht=>by simp[pF]at ht⟩
 |j+1,hj=>by
  obtain⟨h1,h2⟩:=N2 l i r n j ae;have hm:r.needs[j]! ∈r.needs:=bw ae;have hA:rising (N0 r n (pF r n j) j)=true/\∀t∈N0 r n (pF r n j) j,VN l i r t:=by
   unfold N0;split
   .rename_i h;refine⟨qq h1,fun t ht=>?_⟩;rcases zg ht with ht|rfl
    .exact h2 t ht
    .exact .inl ⟨_,hm,h.1,rfl⟩
   .exact⟨h1,h2⟩
  obtain⟨h3,h4⟩:=hA;rw[oc,SO];unfold SN;split
  .rename_i h;refine⟨qq h3,fun t ht=>?_⟩;rcases zg ht with ht|rfl
   .exact h4 t ht
   .exact .inr (.inl ⟨_,hm,h.1,rfl⟩)
  .exact⟨h3,h4⟩
theorem UE (l:List Int)(i:Int)(r:Rec)(n:Int)(k j:Nat)(hj:j<=r.needs.length):rising (Q9 l i n k (pF r n j))=true/\(∀t∈Q9 l i n k (pF r n j),VN l i r t)/\(Q9 l i n k (pF r n j)).length<=2*j+1:=by
 obtain⟨h1,h2⟩:=N2 l i r n j hj;have h3:=B3 r n j;unfold Q9;split
 .rename_i h;refine⟨qq h1,fun t ht=>?_,cT (qp _ _) ae⟩;rcases zg ht with ht|rfl
  .exact h2 t ht
  .exact .inr (.inr ⟨k,h.1.1,h.2,rfl⟩)
 .exact⟨h1,h2,ae⟩
def oT {l:List Int}{i:Int}{r:Rec}{f:bW}(h:f∈js l i r):∃k,k<4/\f.name=mA[k]! /\¬jP l (i+(k:Nat))%3=0/\rising f.of=true/\(∀t∈f.of,VN l i r t)/\f.of.length<=5:=by
 obtain⟨k,hk,he⟩:=List.mem_filterMap.1 h
 grind [VR,UE,jP]
def Gj {l:List Int}{i:Int}{r:Rec}{k:Nat}(hk:k<4)(h:¬jP l (i+(k:Nat))%3=0):∃f∈js l i r,f.name=mA[k]! :=by
 have e:VR l i r k=some ⟨mA[k]!,Q9 l i (jP l (i+(k:Nat))) k (pF r (jP l (i+(k:Nat))) (min r.needs.length 2))⟩:=ai h;exact⟨_,List.mem_filterMap.2 ⟨k,List.mem_range.2 hk,e⟩,rfl⟩
def KX {fs:List bW}{nm:au}(h:∃f∈fs,f.name=nm):0<=findF fs nm 0:=by
 grind [findF]
theorem Ea:∀k,k<4->dd mA[k]! =((1:Int),mA[k]!,([]:au))/\cu mA[k]! =true:=by decide+kernel
theorem OK:∀a,a<4->∀b,b<4->a<b->Op.bytesLess mA[a]! mA[b]! =true:=by decide+kernel
theorem K4 (l:List Int)(i:Int)(r:Rec):(js l i r).Pairwise fun a b=>Op.bytesLess a.name b.name=true:=by
 unfold js N1;refine List.Pairwise.filterMap _ (R:=fun a b=>a<b/\b<4) ?_ aG
 grind [VR,mA,OK]
def yy (l:List Int)(i:Int)(r:Rec):(js l i r).length<=4:=by
 grind [js,N1]
def NdG (r:Rec):Prop:=∀m∈r.needs,(m.option=[]\/∃n,m.option=lz n)/\(m.any.length=1->∃n,m.any[0]!.name=ep n)
def DW {l:List Int}{i:Int}{r r2:Rec}{t:au}(h:VN l i r t)(hr:NdG r)(hn:r2.needs=r.needs)(hf:r2.feats=js l i r):ig r2.feats t=true/\jh r2 t=0/\t.length<=7:=by
 rcases h with⟨m,hm,h1,rfl⟩|⟨m,hm,h1,rfl⟩|⟨k,hk,h1,rfl⟩
 .obtain⟨n,e⟩:=(hr m hm).1.resolve_left h1;have hx:=(qa n).2;have hl:=uC n;rw[e];refine⟨by unfold ig;rw[hx];rfl, ?_,by simp only[bJ,az,aC];omega⟩;unfold jh;rw[hx];have:Eh r2.needs (lz n)=true:=by
   unfold Eh;rw[List.any_eq_true];exact⟨m,by rw[hn];exact hm,by simp[e]⟩
  simp[this]
 .obtain⟨n,e⟩:=(hr m hm).2 h1;have hx:=(GP _ (om n).1).2.2;have hl:=mK n;rw[<-(om n).2]at hx;rw[e];generalize ep n=w at e hx hl;refine⟨by unfold ig;rw[hx];rfl, ?_,by simp only[bJ,az,aC];omega⟩;have:vW r2.needs w=true:=by
   unfold vW;rw[List.any_eq_true];exact⟨m,by rw[hn];exact hm,by rw[e,h1];simp⟩
  unfold jh;rw[hx,ai aQ,ai (by rw[this];simp)]
 .have hx:=(Ea (k+1) ae).1;have hl:∀k,k<4->mA[k]!.length<=7:=aG
  refine⟨?_,by unfold jh;rw[hx];simp,hl _ ae⟩;have:Og r2.feats mA[k+1]! =true:=by
   unfold Og;rw[hf,c8];right;rw[aY];exact KX (Gj (k:=k+1) ae (by rw[show i+((k+1:Nat):Int)=i+(k:Nat)+1 by omega];exact h1))
  unfold ig;rw[hx];dsimp only;rw[this];rfl
theorem Ve {α:Type} [Inhabited α]{R:α->α->Prop}{l:List α}(h:l.Pairwise R){i:Nat}(h0:0<i)(hi:i<l.length):R l[i-1]! l[i]! :=by
 rw[getElem!_pos l _ ae,getElem!_pos l _ hi];exact List.pairwise_iff_getElem.1 h _ _ ae hi ae
def KW {l:List Int}{i:Int}{r r2:Rec}(hr:NdG r)(hn:r2.needs=r.needs)(hf:r2.feats=js l i r):gP r2.feats=true/\sg r2=(0,0):=by
 have hit:∀f∈r2.feats,∀t∈f.of,ig r2.feats t=true/\jh r2 t=0/\t.length<=7:=fun f hf' t ht=>by
  obtain⟨k,_,_,_,_,h,_⟩:=oT (show f∈js l i r by rw[<-hf];exact hf');exact DW (h t ht) hr hn hf
 constructor
 .have hlen:=yy l i r;unfold gP;rw[bp,aY,eo];refine⟨by rw[hf];omega,fun j _ hj=>?_⟩;have hm:r2.feats[j]! ∈r2.feats:=bw hj;obtain⟨k,hk,e1,e2,e3,e4,e5⟩:=oT (show r2.feats[j]! ∈js l i r by rw[<-hf];exact hm)
  grind [ja,Ea,Ve,K4,kO,eo,bw]
 .unfold sg;refine pZ fun j hj=>?_
  unfold j2;exact vO fun q hq=>(hit _ (bw hj) _ (bw hq)).2.1
def oa {α:Type}{f:α->au}{B:Nat}:∀{l:List α},(∀x∈l,(f x).length<=B)->((l.map f).flatten).length<=l.length*B
 |[],_=>aQ
 |a::r,h=>by
  have h1:=h a (.head _);have h2:=oa (l:=r) fun x hx=>h x (.tail _ hx)
  simp only[List.map_cons,List.flatten_cons,bJ,az,Nat.succ_mul];omega
def mN {l:List au}{B n:Nat}(h:∀t∈l,t.length<=B)(hn:l.length<=n):(bV l).length<=n*(B+1)+1:=by
 have h1:=mL 32 B l h;have h2:=eM (B+1) hn
 grind [bV]
def Ja (w:cg):Prop:=w.name.length<=3/\w.range.length<=8/\(w.feats=[]\/w.feats=zJ.take 1\/w.feats=zJ)
theorem ML (n:Nat):zJ.take n=[]\/zJ.take n=zJ.take 1\/zJ.take n=zJ:=by
 match n with
 |0=>exact .inl rfl
 |1=>exact .inr (.inl rfl)
 |n+2=>exact .inr (.inr (dM (by simp[zJ])))
def uB (l:List Int)(i own:Int)(al:Bool):Ja (lx l i own al):=by
 refine⟨mK _,(oU l (i+1)).2.1, ?_⟩;show nR l i al=[]\/nR l i al=zJ.take 1\/nR l i al=zJ
 grind [nR,ML]
def MF {w:cg}(h:Ja w):(bV (iv w)).length<=46:=by
 refine mN (B:=8) (n:=5) (fun t ht=>?_) (by simp[iv]);simp only[iv,bZ,dX,or_false]at ht;rcases ht with rfl|rfl|rfl|rfl|rfl
 .decide
 .have:=h.1;omega
 .rcases h.2.2 with e|e|e<;>rw[e]<;>decide
 .split<;>decide
 .exact h.2.1
theorem Bz {s:au}(h:s.length<=16):(gI s).length<=35:=by
 unfold gI;split
 .simp
 .exact mN (B:=16) (n:=2) (fun t ht=>by
   simp only[bZ,dX,or_false]at ht;rcases ht with rfl|rfl
   .decide
   .exact h) aQ
def OY {s:au}(h:s.length<=6):(pG s).length<=15:=by
 unfold pG;split
 .simp
 .exact mN (B:=6) (n:=2) (fun t ht=>by
   simp only[bZ,dX,or_false]at ht;rcases ht with rfl|rfl
   .decide
   .exact h) aQ
def K5 (l:List Int)(i own:Int):(ow (gD l i own)).length<=160:=by
 have h1:=oa (f:=fun w=>bV (iv w)) (B:=46) (l:=(gD l i own).any) fun w hw=>by
  obtain⟨q,_,rfl⟩:=dN.1 (show w∈sr l i own (e7 l i)from hw);exact MF (uB _ _ _ _)
 have h2:(gD l i own).any.length<=2:=by rw[show(gD l i own).any.length=e7 l i from DG _ _ _ _];exact yz l i
 have h3:=Bz (m3 l (i+14)).2.1;have h4:=OY (s:=(gD l i own).option) (cT (uz l i own) aG);have h5:(bV [ko]).length<=6:=aG;unfold ow;simp only[bJ];show _+(((gD l i own).any.map fun w=>bV (iv w)).flatten).length+(gI (lv l (i+14))).length+_<=_;omega
def Nr {b:iT}(h:b.name.length<=3/\b.range.length<=8/\b.when'.length<=16):(tf b).length<=63:=by
 have h1:=mN (B:=8) (n:=3) (l:=[jO,b.name,b.range]) (fun t ht=>by
  simp only[bZ,dX,or_false]at ht;rcases ht with rfl|rfl|rfl
  .decide
  .omega
  .exact h.2.1) aQ
 grind [Bz,tf]
def N3 (l:List Int)(i own:Int):(yw l i own).name.length<=3/\(yw l i own).range.length<=8/\(yw l i own).when'.length<=16:=⟨mK _,(oU l (i+47)).2.1,(m3 l (i+50)).2.1⟩
def KV {f:bW}(h:f.name.length<=7/\f.of.length<=5/\∀t∈f.of,t.length<=7):(pw f).length<=57:=by
 refine mN (B:=7) (n:=7) (fun t ht=>?_) cA;simp only[List.mem_append,bZ,dX,or_false]at ht;rcases ht with(rfl|rfl)|ht
 .decide
 .exact h.1
 .exact h.2.2 t ht
structure xX (l:List Int)(i own:Int)(r:Rec):Prop where
 nm:r.name=ep own
 ns:r.needs=p9 l i own
 v:eH r.v=true/\r.v.pre.length<=4/\r.v.build.length<=1
 bl:r.bars.length<=2
 b:∀b∈r.bars,n4 r b=0/\b.name.length<=3/\b.range.length<=8/\b.when'.length<=16
 fs:gP r.feats=true/\sg r=(0,0)
 fl:r.feats.length<=4
 f:∀f∈r.feats,f.name.length<=7/\f.of.length<=5/\∀t∈f.of,t.length<=7
def yA (l:List Int)(i own:Int):(p9 l i own).length<=2:=by rw[p9,Rb];exact SP l i
def xX.good {l:List Int}{i own:Int}{r:Rec}(h:xX l i own r):vQ r:=by
 have h1:=yA l i own;have h2:=h.bl;refine⟨⟨by rw[h.nm];exact(p8 own).1,h.v.1⟩,⟨by rw[h.ns];omega,ae⟩,qk (GO h.nm h.ns) ?_ h.fs.1 h.fs.2⟩;unfold rT;exact pZ fun j hj=>(h.b _ (bw hj)).1
def xX.sm {l:List Int}{i own:Int}{r:Rec}(h:xX l i own r):ew r:=by
 refine⟨⟨by rw[h.nm];exact cT (mK own) aG,cT h.v.2.1 aG,cT h.v.2.2 aG⟩,fun n hn=>?_,fun b hb=>?_,fun f hf=>?_⟩
 .obtain⟨k,rfl⟩:=tE (show n∈DI l i own (gK l i)by rw[show DI l i own (gK l i)=r.needs from h.ns.symm];exact hn);refine⟨fun w hw=>?_,cT (m3 l (k+14)).2.1 aG,cT (uz l k own) aG⟩;obtain⟨q,_,rfl⟩:=dN.1 (show w∈sr l k own (e7 l k)from hw);obtain⟨a,b,c⟩:=uB l (k+1+6*(q:Nat)) own (decide ((e7 l k:Int)=1));refine⟨⟨cT a aG,cT b aG⟩,fun t ht=>?_⟩
  grind [zJ]
 .obtain⟨_,a,b,c⟩:=h.b b hb;exact⟨cT a aG,cT b aG,cT c aG⟩
 .obtain⟨a,b,c⟩:=h.f f hf;exact⟨cT a aG,cT b aG,fun t ht=>cT (c t ht) aG⟩
def P9 {v:c9}(h:eH v=true/\v.pre.length<=4/\v.build.length<=1):(jN v).length<=30:=by
 obtain⟨h1,h2,h3⟩:=h;have hv:=h1;simp only[eH,oS,bp,aY]at h1;have a:=dU 4 v.major.toNat ae ae;have b:=dU 4 v.minor.toNat ae ae;have c:=dU 4 v.patch.toNat ae ae
 grind [jN,vu,coreS]
def xX.len {l:List Int}{i own:Int}{r:Rec}(h:xX l i own r):(fq r).length<=800:=by
 have h1:(py r).length<=94:=mN (B:=30) (n:=3) (fun t ht=>by
  simp only[bZ,dX,or_false]at ht;rcases ht with rfl|rfl|rfl
  .decide
  .rw[h.nm];exact cT (mK own) aG
  .exact P9 h.v) aQ
 have h2:=oa (f:=ow) (B:=160) (l:=r.needs) fun n hn=>by
  obtain⟨k,rfl⟩:=tE (show n∈DI l i own (gK l i)by rw[show DI l i own (gK l i)=r.needs from h.ns.symm];exact hn);exact K5 l k own
 have h3:=oa (f:=tf) (B:=63) (l:=r.bars) fun b hb=>Nr (h.b b hb).2
 have h4:=oa (f:=pw) (B:=57) (l:=r.feats) fun f hf=>KV (h.f f hf)
 have h5:=yA l i own;have h6:=h.bl;have h7:=h.fl;rw[h.ns]at h2;unfold fq;rw[h.ns];simp only[bJ];omega
def xX.check {l:List Int}{i own:Int}{r:Rec}(h:xX l i own r):cw r=(0,0):=by
 obtain⟨⟨a,b⟩,⟨c,d⟩,e⟩:=h.good;rw[pS a b ae ae e,ai (by have:=h.len;omega)]
def xX.print {l:List Int}{i own:Int}{r:Rec}(h:xX l i own r):cL r=(fq r,0):=by
 unfold cL;rw[h.check,ai aQ]
def HY (l:List Int)(i:Int):eH (K7 l i)=true/\(K7 l i).pre.length<=4/\(K7 l i).build.length<=1:=by
 have a:=dh l i 3 aG;have b:=dh l (i+1) 2 aG;have key:∀x,x<3->∀y,y<2->∀p∈[([]:au),Pz],∀q∈[([]:au),[55]],eH ⟨(x:Nat),(y:Nat),0,p,q⟩=true:=by decide+kernel
 have hp:sv l i∈[([]:au),Pz]:=by unfold sv;split<;>simp
 have hq:yx l i∈[([]:au),[55]]:=by unfold yx;split<;>simp
 have h:=key (eY l i 3).toNat ae (eY l (i+1) 2).toNat ae _ hp _ hq;have e:(⟨((eY l i 3).toNat:Int),((eY l (i+1) 2).toNat:Int),0,sv l i,yx l i⟩:c9)=K7 l i:=by
  grind [K7,eY]
 rw[e]at h;refine⟨h, ?_, ?_⟩
 .show(sv l i).length<=4;unfold sv;split<;>decide
 grind
def uA (l:List Int)(i own:Int):NdG (oo l i own):=by
 intro m hm;obtain⟨k,rfl⟩:=tE (show m∈DI l i own (gK l i)from hm);refine⟨B6 l k own,fun h=>?_⟩;have h1:0<e7 l k:=by have:=AK l k;omega
 have:=DF (l:=l) (i:=k) (own:=own) h1;exact⟨_,ar cg.name this⟩
def K3 (l:List Int)(i own:Int):(p7 l i own).length<=1:=by unfold p7;split<;>simp
def RE:∀k,k<4->mA[k]!.length<=7:=aG
def tF (l:List Int)(i own:Int):xX l i own (yB l i own):=by
 have hf:=KW (r:=oo l i own) (r2:=yB l i own) (l:=l) (i:=i+52) (uA l i own) rfl rfl;refine⟨rfl,rfl,HY l i,cT (K3 l i own) aG,fun b hb=>?_,hf,yy _ _ _,fun f hf2=>?_⟩
 .obtain rfl:=AJ (show b∈p7 l i own from hb);exact⟨Nq rfl l i,N3 l i own⟩
 .obtain⟨k,hk,e,_,_,hi,hl⟩:=oT (show f∈js l (i+52) (oo l i own)from hf2);refine⟨by rw[e];exact RE k hk,hl,fun t ht=>?_⟩;exact(DW (r2:=yB l i own) (hi t ht) (uA l i own) rfl rfl).2.2
end Go.Abs
section
namespace Go.Abs
variable {Y:Ctx}(hm:(Y.at 0).bU)
def bN (w:au):Prop:=w≠[]/\∀c∈w,c≠32/\c≠10
def jo (w:au):Prop:=∀c∈w,c≠10
def er (l:List au):au:=aT [32] l
def n32 {w:au}(h:bN w):∀c∈w,(c.toNat:Int)≠32:=fun c hc e=>(h.2 c hc).1 (je.1 (by have:(32:UInt8).toNat=32:=rfl;omega))
theorem jE {l:List au}(hl:l≠[])(h:∀w∈l,bN w):aq (er l) 32=l:=
 jD (x:=32) rfl hl fun w hw=>n32 (h w hw)
theorem Bn {p:List au}{t:au}(h:∀w∈p,bN w):aq (er (p++[t])) 32=p++aq t 32:=by
 induction p with
 |nil=>rfl
 |cons a r ih=>
  have ha:=n32 (h a (.head _));have hr:=ih fun w hw=>h w (.tail _ hw)
  have e:er (a::(r++[t]))=a++32::er (r++[t]):=by
   unfold er;rw[gS [32] a (r++[t]) aQ];simp
  grind [sP,er,aq]
def fw (t:au):au:=(aq t 32)[0]!
theorem od {w:au}{l:List au}(hw:bN w)(hl:∀x∈l,bN x):fw (er (w::l))=w:=by
 unfold fw
 grind [jE]
def sn {w:au}{p:List au}{t:au}(hw:bN w)(hp:∀x∈p,bN x):fw (er (w::(p++[t])))=w:=by
 unfold fw
 grind [Bn]
def Sg {n:Nat}{op:Bool}{t:au}(h:2<=n\/op=false):(kr n op t)[0]! =fw t:=by
 unfold kr fw
 grind [NG,aq]
def hd (R:List au):Option au:=R.head?.map fw
theorem qh {w:au}{n:Nat}{op:Bool}{R:List au}(h:2<=n\/op=false)(hn:hd R≠some w):fI w n op R=none:=by
 match R,hn with
 |[],_=>rfl
 |t::r,hn=>
  have:lE w n op t=none:=by
   unfold lE;rw[ai];rintro⟨h1,_⟩;rw[Sg h]at h1;exact hn (by simp[hd,h1])
  simp only[fI,this]
theorem pc {w:au}{l:List au}{n:Nat}{R:List au}(hw:bN w)(hl:∀x∈l,bN x)(hn:n=0\/l.length+1=n):fI w n false (er (w::l)::R)=some (w::l,R):=by
 grind [bN,kr,er,jE,lE,fI]
def uQ {w:au}{p:List au}{t:au}{n:Nat}{R:List au}(hw:bN w)(hp:∀x∈p,bN x)(ht:t≠[])(hn:p.length+2=n):fI w n true (er (w::(p++[t]))::R)=some (w::(p++[t]),R):=by
 have hc:∀x∈w::p,bN x:=fun x hx=>by rcases bZ.1 hx with rfl|hx;exact hw;exact hp x hx
 have hs:=Bn (t:=t) hc;have hj:=lB (b:=32) (x:=32) rfl t;have h1:1<=(aq t 32).length:=ff 32 t [];have e:kr n true (er (w::(p++[t])))=w::(p++[t]):=by
  unfold kr;rw[ax rfl,<-eN,hs];unfold NG;have hl:(w::p++aq t 32).length=p.length+1+(aq t 32).length:=cA;split
  .have:(aq t 32).length=1:=ae;obtain⟨x,hx⟩:=List.length_eq_one_iff.1 this;rw[hx]at hj⊢;simp only[aT]at hj;rw[hj]
  .have a:n-1=(w::p).length:=cA;rw[a,List.take_left,List.drop_left,hj]
 have:lE w n true (er (w::(p++[t])))=some (w::(p++[t])):=by
  unfold lE;rw[e,ax ⟨rfl,.inr cA,fun h=>by
   rw[<-eN,List.mem_append,cz]at h;rcases h with h|h
   .exact(hc _ h).1 rfl
   .exact ht h.symm⟩]
 simp only[fI,this]
def jJ (s:au):List au:=if s=[]then []else [er [ir,s]]
def mg (s:au):List au:=if s=[]then []else [er [eQ,s]]
def kq (l:List cg):List au:=l.map fun w=>er (iv w)
def uP (n:bS):List au:=er [ko]::(kq n.any++(jJ n.when'++mg n.option))
def Ap (b:iT):List au:=er [jO,b.name,b.range]::jJ b.when'
def j0 (f:bW):au:=er ([dC,f.name]++f.of)
structure Dj (w:cg):Prop where
 nm:bN w.name
 rg:w.range≠[]/\jo w.range
 fs:∀t∈w.feats,bN t/\∀c∈t,c≠44
 ne:aT [44] w.feats≠[45]
def mY:bN ir:=by unfold bN;decide
theorem qU:bN eQ:=by unfold bN;decide
theorem oO:bN ko:=by unfold bN;decide
def qT:bN jO:=by unfold bN;decide
def oN:bN dC:=by unfold bN;decide
def uj:bN kB:=by unfold bN;decide
def sc:bN jk:=by unfold bN;decide
def O0 {s:au}{R:List au}(hs:s=[]\/bN s)(hR:s=[]->hd R≠some eQ):GV (mg s++R)=(s,R):=by
 grind [mg,GV,qh,pc,qU]
def BA {s:au}{R:List au}(hR:s=[]->hd R≠some ir):mj (jJ s++R)=(s,R):=by
 unfold jJ mj;by_cases h:s=[]
 .grind [qh]
 .rw[ai h,List.singleton_append];have:=uQ (n:=2) (w:=ir) (p:=[]) (t:=s) (R:=R) mY (fun x hx=>by cases hx) h rfl
  grind
def Oj {l:List au}(h:∀t∈l,bN t/\∀c∈t,c≠44)(hl:l≠[]):bN (aT [44] l)/\aq (aT [44] l) 44=l:=by
 refine⟨⟨?_,fun c hc=>?_⟩,jD (x:=44) rfl hl fun w hw c hc e=>(h w hw).2 c hc (je.1 (by have:(44:UInt8).toNat=44:=rfl;omega))⟩
 .match l,hl with
  |[a],_=>exact(h a (.head _)).1.1
  |a::b::r,_=>simp[aT]
 .rcases mM 44 l c hc with rfl|⟨w,hw,hc⟩
  .decide
  .exact(h w hw).1.2 c hc
def sV {w:cg}(h:Dj w):∀x∈[w.name,if w.feats.length=0 then [45]else aT [44] w.feats,if w.bare=true then iV else jH],bN x:=by
 intro x hx;simp only[bZ,dX,or_false]at hx;rcases hx with rfl|rfl|rfl
 .exact h.nm
 .split
  .unfold bN;decide
  .rename_i hn;exact(Oj h.fs (fun e=>hn (by rw[e];rfl))).1
 .split<;>(unfold bN;decide)
def zG (w:cg):iv w=kB::([w.name,if w.feats.length=0 then [45]else aT [44] w.feats,if w.bare=true then iV else jH]++[w.range]):=rfl
theorem Se {w:cg}(h:Dj w):Hy (iv w)=w/\H3 (iv w)=true:=by
 obtain⟨nm,rg,fs,b⟩:=w;have hb:iV≠jH:=aG;constructor
 .show(⟨nm,rg,(if(if fs.length=0 then [45]else aT [44] fs)=[45]then []else aq (if fs.length=0 then [45]else aT [44] fs) 44),decide ((if b=true then iV else jH)=iV)⟩:cg)=_;have h1:(if(if fs.length=0 then [45]else aT [44] fs)=[45]then []else aq (if fs.length=0 then [45]else aT [44] fs) 44)=fs:=by
   by_cases hn:fs.length=0
   .grind
   .rw[ai hn,ai h.ne];exact(Oj h.fs (fun e=>hn (by rw[show fs=[]from e];rfl))).2
  rw[h1];cases b<;>simp[hb,Ne.symm hb]
 .show(decide ((if b=true then iV else jH)=iV) ||decide ((if b=true then iV else jH)=jH))=true;cases b<;>simp
def wi {R:List au}(hR:hd R≠some kB):∀{l:List cg},(∀w∈l,Dj w)->eR (kq l++R)=(l,R)
 |[],_=>C0 (qh (.inl ae) hR)
 |w::r,h=>by
  have ih:=wi hR (l:=r) fun x hx=>h x (.tail _ hx)
  have hw:=h w (.head _);have hn:fI kB 5 true (er (iv w)::(kq r++R))=some (iv w,kq r++R):=by
   have:=uQ (n:=5) (w:=kB) (t:=w.range) (R:=kq r++R) uj (sV hw) hw.rg.1 rfl;rw[zG];exact this
  grind [Se,Fi,eR,er,iv,kq]
structure Dd (n:bS):Prop where
 a:∀w∈n.any,Dj w
 w:jo n.when'
 o:n.option=[]\/bN n.option
def Rh {s:au}{R:List au}:hd (jJ s++R)=if s=[]then hd R else some ir:=by
 unfold jJ;split
 .rfl
 .show some (fw (er (ir::([]++[s]))))=_;rw[sn mY (fun x hx=>by cases hx)]
def UL {s:au}{R:List au}(hs:s=[]\/bN s):hd (mg s++R)=if s=[]then hd R else some eQ:=by
 unfold mg;split
 .rfl
 .rename_i h;show some (fw (er (eQ::[s])))=_
  grind [od,qU]
def OP (R:List au):Prop:=hd R≠some kB/\hd R≠some ir/\hd R≠some eQ
def LC {n:bS}{R:List au}(h:Dd n)(hR:OP R):rY ((kq n.any++(jJ n.when'++mg n.option))++R)=(n,R):=by
 have e1:(kq n.any++(jJ n.when'++mg n.option))++R=kq n.any++(jJ n.when'++(mg n.option++R)):=by simp only[dx]
 have ho:=O0 (s:=n.option) (R:=R) h.o fun _=>hR.2.2
 have hh:=UL (R:=R) h.o;have hw:=BA (s:=n.when') (R:=mg n.option++R) fun _=>by
  rw[hh];split
  .exact hR.2.1
  .decide
 have ha:=wi (R:=jJ n.when'++(mg n.option++R)) (l:=n.any) (by
  rw[Rh];split
  .rw[hh];split
   .exact hR.1
   .decide
  .decide) h.a
 unfold rY;rw[e1,ha,hw,ho]
def m9 (l:List bS):List au:=(l.map uP).flatten
def yP {R:List au}(hR:OP R)(hN:hd R≠some ko):∀{l:List bS},(∀n∈l,Dd n)->na (m9 l++R)=(l,R)
 |[],_=>D8 (qh (.inr rfl) hN)
 |n::r,h=>by
  have ih:=yP hR hN (l:=r) fun x hx=>h x (.tail _ hx)
  have hok:OP (m9 r++R):=by
   match r with
   |[]=>exact hR
   |m::q=>
    have:hd (m9 (m::q)++R)=some ko:=by
     show some (fw (er (ko::[])))=_;rw[od oO (fun x hx=>by cases hx)]
    unfold OP;rw[this];decide
  have hr:=LC (h n (.head _)) hok;have hn:fI ko 1 false (m9 (n::r)++R)=some ([ko],(kq n.any++(jJ n.when'++mg n.option))++(m9 r++R)):=by
   grind [pc,ko,kq,jJ,mg,m9,oO,uP]
  rw[D9 hn,hr,ih]
structure MR (b:iT):Prop where
 nm:bN b.name
 rg:b.range≠[]/\jo b.range
 w:jo b.when'
def ma (l:List iT):List au:=(l.map Ap).flatten
def HK {R:List au}{l:List iT}(h:∀b∈l,MR b):hd (ma l++R)=if l=[]then hd R else some jO:=by
 match l with
 |[]=>rfl
 |b::r=>
  rw[ai aQ];show some (fw (er (jO::([b.name]++[b.range]))))=_;rw[sn qT (fun x hx=>by rw[cz.1 hx];exact(h b (.head _)).nm)]
def Ar {R:List au}(hR:hd R≠some ir/\hd R≠some jO):∀{l:List iT},(∀b∈l,MR b)->rU (ma l++R)=(l,R)
 |[],_=>FY (qh (.inl ae) hR.2)
 |b::r,h=>by
  have ih:=Ar hR (l:=r) fun x hx=>h x (.tail _ hx)
  have hb:=h b (.head _);have hw:=BA (s:=b.when') (R:=ma r++R) fun _=>by
   rw[HK fun x hx=>h x (.tail _ hx)];split
   .exact hR.1
   .decide
  have hn:fI jO 3 true (ma (b::r)++R)=some ([jO,b.name,b.range],jJ b.when'++(ma r++R)):=by
   have:=uQ (n:=3) (w:=jO) (p:=[b.name]) (t:=b.range) (R:=jJ b.when'++(ma r++R)) qT (fun x hx=>by rw[cz.1 hx];exact hb.nm) hb.rg.1 rfl
   grind [jO,ma,Ap]
  rw[FZ hn,hw,ih];rfl
structure M4 (f:bW):Prop where
 nm:bN f.name
 o:∀t∈f.of,bN t
def ym:∀{l:List bW},(∀f∈l,M4 f)->ux (l.map j0)=(l,[])
 |[],_=>rfl
 |f::r,h=>by
  have ih:=ym (l:=r) fun x hx=>h x (.tail _ hx)
  have hf:=h f (.head _);have hn:=pc (n:=0) (w:=dC) (l:=f.name::f.of) (R:=r.map j0) oN (fun x hx=>by
   rcases bZ.1 hx with rfl|hx
   .exact hf.nm
   .exact hf.o x hx) (.inl rfl)
  have hl:lE dC 0 false (j0 f)=some (dC::f.name::f.of):=by
   simp only[fI]at hn;show lE dC 0 false (er (dC::f.name::f.of))=_
   grind
  simp only[List.map_cons,ux,hl];rw[ax aQ,ih];rfl
end Go.Abs
namespace Go.Abs
variable {Y:Ctx}(hm:(Y.at 0).bU)
structure Df (r:Rec):Prop where
 nm:bN r.name
 v:eH r.v=true
 n:∀n∈r.needs,Dd n
 b:∀b∈r.bars,MR b
 f:∀f∈r.feats,M4 f
def qx (r:Rec):List au:=m9 r.needs++(ma r.bars++r.feats.map j0)
def iD (r:Rec):List au:=er [jk,r.name,jN r.v]::qx r
def iM (l:List au):au:=(l.map fun t=>t++[10]).flatten
theorem pX (a b:List au):iM (a++b)=iM a++iM b:=by simp[iM]
def uv {α:Type}(f:α->List au):∀l:List α,iM ((l.map f).flatten)=(l.map fun x=>iM (f x)).flatten
 |[]=>rfl
 |a::r=>by simp only[List.map_cons,List.flatten_cons,pX,uv f r]
theorem rj (l:List au):bV l=er l++[10]:=rfl
def NK (t:au):iM [t]=t++[10]:=by simp[iM]
theorem BB (s:au):iM (jJ s)=gI s:=by
 unfold jJ gI;split
 .rfl
 .rw[NK,rj]
theorem O1 (s:au):iM (mg s)=pG s:=by
 unfold mg pG;split
 .rfl
 .rw[NK,rj]
theorem Fj (l:List cg):iM (kq l)=(l.map fun w=>bV (iv w)).flatten:=by
 unfold kq iM;rw[List.map_map];rfl
theorem mG (t:au)(l:List au):iM (t::l)=t++[10]++iM l:=by simp[iM]
def LD (n:bS):iM (uP n)=ow n:=by
 grind [uP,ow,mG,pX,Fj,BB,O1,rj]
def Nt (b:iT):iM (Ap b)=tf b:=by
 unfold Ap tf;rw[mG,BB,rj]
def Gc (l:List bW):iM (l.map j0)=(l.map pw).flatten:=by
 unfold iM;rw[List.map_map];rfl
theorem sS (r:Rec):fq r=iM (iD r):=by
 unfold iD qx fq py;rw[mG,pX,pX,Gc];unfold m9 ma;rw[uv,uv,rj];simp only[LD,Nt,dx]
def yF:∀ls:List au,aT [10] (ls++[[]])=iM ls
 |[]=>rfl
 |a::r=>by
  rw[eN,gS _ _ _ aQ,yF r,mG]
def fG {l:List au}(h:∀w∈l,jo w):jo (er l):=by
 intro c hc;rcases mM 32 l c hc with rfl|⟨w,hw,hc⟩
 .decide
 .exact h w hw c hc
def FF {w:au}(h:bN w):jo w:=fun c hc=>(h.2 c hc).2
def vv {v:c9}(h:eH v=true):bN (jN v):=by
 have e:jN v=rM v:=by unfold jN;rw[ax h]
 rw[e];refine⟨?_,fun c hc=>?_⟩
 .unfold rM;have:=wN v.major.toNat;cases hd:dp v.major.toNat with
  |nil=>exact absurd hd this
  |cons a b=>simp
 .have:=Sc h hc;exact⟨fun e=>this.1 (by rw[e];rfl),fun e=>this.2 (by rw[e];rfl)⟩
def vR {r:Rec}(h:Df r):∀t∈iD r,jo t:=by
 have hwhen:∀s,jo s->∀t∈jJ s,jo t:=fun s hs t ht=>by
  unfold jJ at ht;split at ht
  .cases ht
  .obtain rfl:=cz.1 ht;refine fG fun w hw=>?_
   simp only[bZ,dX,or_false]at hw;rcases hw with rfl|rfl
   .exact FF mY
   .exact hs
 intro t ht;unfold iD qx m9 ma at ht;simp only[bZ,List.mem_append,List.mem_flatten,dN]at ht;rcases ht with rfl|⟨_,⟨n,hn,rfl⟩,ht⟩|⟨_,⟨b,hb,rfl⟩,ht⟩|⟨f,hf,rfl⟩
 .refine fG fun w hw=>?_
  simp only[bZ,dX,or_false]at hw;rcases hw with rfl|rfl|rfl
  .exact FF sc
  .exact FF h.nm
  .exact FF (vv h.v)
 .have hw:=h.n n hn;unfold uP at ht;simp only[bZ,List.mem_append]at ht;rcases ht with rfl|ht|ht|ht
  .exact fG fun w hw=>by rw[cz.1 hw];exact FF oO
  .obtain⟨w,hw2,rfl⟩:=dN.1 ht;have hww:=hw.a w hw2;rw[zG];refine fG fun x hx=>?_
   rcases bZ.1 hx with rfl|hx
   .exact FF uj
   .rcases List.mem_append.1 hx with hx|hx
    .exact FF (sV hww x hx)
    .rw[cz.1 hx];exact hww.rg.2
  .exact hwhen _ hw.w t ht
  .unfold mg at ht;split at ht
   .cases ht
   .rename_i hne;obtain rfl:=cz.1 ht;refine fG fun x hx=>?_
    simp only[bZ,dX,or_false]at hx;rcases hx with rfl|rfl
    .exact FF qU
    .exact FF (hw.o.resolve_left hne)
 .have hw:=h.b b hb;unfold Ap at ht;rcases bZ.1 ht with rfl|ht
  .refine fG fun x hx=>?_
   simp only[bZ,dX,or_false]at hx;rcases hx with rfl|rfl|rfl
   .exact FF qT
   .exact FF hw.nm
   .exact hw.rg.2
  .exact hwhen _ hw.w t ht
 .have hw:=h.f f hf;refine fG fun x hx=>?_
  simp only[List.mem_append,bZ,dX,or_false]at hx;rcases hx with(rfl|rfl)|hx
  .exact FF oN
  .exact FF hw.nm
  .exact FF (hw.o x hx)
theorem we {ls:List au}(h:∀t∈ls,jo t):aq (iM ls) 10=ls++[[]]:=by
 rw[<-yF];refine jD (x:=10) rfl aQ fun w hw c hc e=>?_
 rcases List.mem_append.1 hw with hw|hw
 .exact h w hw c hc (je.1 (by have:(10:UInt8).toNat=10:=rfl;omega))
 grind
def NS {l:List bW}(h:∀f∈l,M4 f):hd (l.map j0)=none\/hd (l.map j0)=some dC:=by
 match l with
 |[]=>exact .inl rfl
 |f::r=>
  right;have hf:=h f (.head _);show some (fw (er (dC::(f.name::f.of))))=_;rw[od oN (fun x hx=>by
   rcases bZ.1 hx with rfl|hx
   .exact hf.nm
   .exact hf.o x hx)]
theorem PA {r:Rec}(h:Df r):RX (iD r)=some (r,[]):=by
 have hf:=ym h.f;have hfh:=NS h.f;have hb:=Ar (R:=r.feats.map j0) (by rcases hfh with e|e<;>rw[e]<;>decide) h.b;have hbh:=HK (R:=r.feats.map j0) h.b;have h1:hd (ma r.bars++r.feats.map j0)=none\/hd (ma r.bars++r.feats.map j0)=some dC\/hd (ma r.bars++r.feats.map j0)=some jO:=by
  grind
 have hn:=yP (R:=ma r.bars++r.feats.map j0) (by unfold OP;rcases h1 with e|e|e<;>rw[e]<;>decide) (by rcases h1 with e|e|e<;>rw[e]<;>decide) h.n;have hp:=pc (n:=3) (w:=jk) (l:=[r.name,jN r.v]) (R:=qx r) sc (fun x hx=>by
  simp only[bZ,dX,or_false]at hx;rcases hx with rfl|rfl
  .exact h.nm
  .exact vv h.v) (.inr rfl)
 unfold RX iD;rw[hp];show(match Sb (jN r.v)with|some v=>some (HO r.name v (qx r))|none=>none)=_;rw[VK h.v];show some (HO r.name r.v (qx r))=_;unfold HO qx;rw[hn,hb,hf]
def LX {r:Rec}(h:Df r)(hc:cw r=(0,0)):zl (fq r)=(r,0,0):=by
 have hl:¬4096<(fq r).length:=by
  grind [cw]
 have hs:aq (fq r) 10=iD r++[[]]:=by rw[sS];exact we (vR h)
 have ht:(aq (fq r) 10).take ((aq (fq r) 10).length-1)=iD r:=by
  rw[hs];simp
 have hz:(aq (fq r) 10)[(aq (fq r) 10).length-1]! =[]:=by
  rw[hs];simp
 grind [LZ,iD,PA,zl]
end Go.Abs
end
namespace Go.Abs
variable {Y:Ctx}(hm:(Y.at 0).bU)
def GM {w:au}(h:∀c∈w,c.toNat≠32/\c.toNat≠10):∀c∈w,c≠32/\c≠10:=fun c hc=>⟨fun e=>(h c hc).1 (by rw[e];rfl),fun e=>(h c hc).2 (by rw[e];rfl)⟩
theorem wT (n:Int):bN (ep n):=⟨(wZ (p8 n).1).1,GM (wZ (p8 n).1).2.2⟩
theorem HZ (n:Int):bN (lz n):=⟨Sf (qa n).1,GM fun c hc=>⟨(Jc (qa n).1 hc).1,(Jc (qa n).1 hc).2.1⟩⟩
def Jf:(∀t∈zJ,bN t/\∀c∈t,c≠44)/\aT [44] zJ≠[45]/\aT [44] (zJ.take 1)≠[45]:=by unfold bN;decide
def Rd (l:List Int)(i own:Int)(al:Bool):Dj (lx l i own al):=by
 have hf:=oU l (i+1);obtain⟨_,_,c⟩:=uB l i own al;refine⟨wT _,⟨hf.2.2.1,hf.2.2.2⟩,fun t ht=>?_, ?_⟩
 .rcases c with e|e|e<;>rw[e]at ht
  .cases ht
  .exact Jf.1 t (qP ht)
  .exact Jf.1 t ht
 .rcases c with e|e|e<;>rw[e]
  .decide
  .exact Jf.2.2
  .exact Jf.2.1
def Rc (l:List Int)(i own:Int):Dd (gD l i own):=by
 refine⟨fun w hw=>?_,(m3 l (i+14)).2.2, ?_⟩
 .obtain⟨q,_,rfl⟩:=dN.1 (show w∈sr l i own (e7 l i)from hw);exact Rd _ _ _ _
 .rcases B6 l i own with e|⟨n,e⟩
  .exact .inl e
  .exact .inr (by rw[e];exact HZ n)
def UH (l:List Int)(i own:Int):MR (yw l i own):=⟨wT _,⟨(oU l (i+47)).2.2.1,(oU l (i+47)).2.2.2⟩,(m3 l (i+50)).2.2⟩
def S1:∀k,k<4->bN mA[k]! :=by unfold bN;decide
theorem Ax {a b:au}(ha:bN a)(hb:∀c∈b,c≠32/\c≠10):bN (a++b):=⟨fun e=>ha.1 (List.append_eq_nil_iff.1 e).1,fun c hc=>(List.mem_append.1 hc).elim (ha.2 c) (hb c)⟩
def Y7 {l:List Int}{i:Int}{r:Rec}{t:au}(h:VN l i r t)(hr:NdG r):bN t:=by
 rcases h with⟨m,hm,h1,rfl⟩|⟨m,hm,h1,rfl⟩|⟨k,hk,_,rfl⟩
 .obtain⟨n,e⟩:=(hr m hm).1.resolve_left h1
  grind [Ax,bN,HZ]
 .obtain⟨n,e⟩:=(hr m hm).2 h1
  grind [Ax,wT]
 .exact S1 _ ae
def UJ (l:List Int)(i own:Int):Df (yB l i own):=by
 refine⟨wT own,(HY l i).1,fun n hn=>?_,fun b hb=>?_,fun f hf=>?_⟩
 .obtain⟨k,rfl⟩:=tE (show n∈DI l i own (gK l i)from hn);exact Rc l k own
 .obtain rfl:=AJ (show b∈p7 l i own from hb);exact UH l i own
 .obtain⟨k,hk,e,_,_,hi,_⟩:=oT (show f∈js l (i+52) (oo l i own)from hf);exact⟨by rw[e];exact S1 k hk,fun t ht=>Y7 (hi t ht) (uA l i own)⟩
abbrev S0 (s:au):List au:=(aq s 10).take ((aq s 10).length-1)
abbrev yM (s:au):au:=(aq s 10)[(aq s 10).length-1]!
theorem GD {s:au}(h:yM s=[]):cr s=(S0 s,true):=by unfold cr;rw[ax h]
theorem Ls {s:au}(h:¬yM s=[]):cr s=(S0 s++[yM s],false):=by
 unfold cr;rw[ai h];have hp:1<=(aq s 10).length:=ff 10 s [];have:=(drop_one (l:=aq s 10) (n:=(aq s 10).length-1) ae).2;exact ar (fun l=>(l,false)) this
def GG (s:au):((cr s).2=true/\yM s=[]/\(cr s).1=S0 s)\/((cr s).2=false/\yM s≠[]/\(cr s).1=S0 s++[yM s]):=by
 by_cases h:yM s=[]
 .grind [GD]
 grind [Ls]
end Go.Abs
