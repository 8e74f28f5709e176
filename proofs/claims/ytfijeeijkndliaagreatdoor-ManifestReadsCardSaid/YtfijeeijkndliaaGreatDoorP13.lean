/- A part of the proofs. -/
import Derived.Test.YtfijeeijkndliaaGreatDoorP07
set_option linter.all false
set_option maxRecDepth 60000
set_option maxHeartbeats 2000000
namespace Go.Abs
variable {Y:Ctx}(hm:(Y.at 0).cP)
noncomputable def nJ:aN:=dy 241
def Vc {Y:Ctx}(hm:(Y.at 2).cP)(W:List av)(w:List av)(nd:List Nd)(h952:La (Y.at 2) (6*w.length))(h1033:tR (Y.at 2))(h1034:tx (Y.at 2))(h1097:Ay (Y.at 2) (6*w.length))(h1126:yD (Y.at 2))(hp0:w<:+W/\W.length<=1000)(hp1:nd.length+2*w.length<=1000):cg (Y.at 2) nJ.body (kJ nJ (Ch 4 (j5 W) (fh (kq w nd) w nd) Va):Ex->List cA->St->Prop) (gz nJ [.ptr 0 4 0 0]) ⟨2,[(0,.buf 4 [j5 W w (.own 1 5 0 nd.length) false]),(1,.buf 5 (nd.map Nd.D))]⟩:=by
 show cg _ _ _ [⟨true,.ptr 0 4 0 0⟩,.un,.un,.un,.un,.un,.un,.un] ⟨2,[(0,.buf 4 [j5 W w (.own 1 5 0 nd.length) false]),(1,.buf 5 (nd.map Nd.D))]⟩;refine ay ?_;refine dJ ?_;refine az (fun hc0=>?_) (fun hc0=>?_)
 .skip
  exact absurd hc0 aG
 skip
 refine aK ?_;refine dd (nx':=7) (v:=.bool (iJ w tE)) (m':=[(0,.buf 4 [j5 W (q9 w tE) (.own 1 5 0 nd.length) false]),(1,.buf 5 (nd.map Nd.D))]) (hc:=fun K' hK=>h1033 tE W w nd false hp0 _ 0 1 _ K' ah ah cD cD (fun o ho=>by subst ho;exact hK)) (hn:=aG) ?_;refine aE ?_;refine az (fun hc1=>?_) (fun hc1=>?_)
 .obtain⟨r,rfl⟩:=pZ hc1;rw[nD];have hsr:r<:+W/\W.length<=1000:=⟨(List.suffix_cons _ r).trans hp0.1,hp0.2⟩;simp only[aM]at hp1;refine aF ?_;refine iC (fh (kq r nd) r nd) Va 10 (fun o=>[(10,.buf 5 (o.nd.map Nd.D)),(0,.buf 4 [j5 W o.w (.own 10 5 0 o.nd.length) o.bad])]) (fun o1 ho1=>?_) (hc:=fun K' hK=>h1097 W r nd hsr ae (by simp only[aM];omega) _ 0 1 _ K' ah ah cD cD (fun o ho=>hK o ho)) (hn:=aG);have hl3:=ho1.2.2.1;have hl4:=ho1.2.1;refine aQ ?_;refine bj (Nd.D (⟨2,o1.a,0,0,[]⟩:Nd)) ?_;refine dd (nx':=14) (v:=.int .i64 (o1.nd.length:Nat)) (m':=[(16,.buf 5 ((o1.nd++[(⟨2,o1.a,0,0,[]⟩:Nd)]).map Nd.D)),(0,.buf 4 [j5 W o1.w (.own 16 5 0 (o1.nd++[(⟨2,o1.a,0,0,[]⟩:Nd)]).length) o1.bad])]) (hc:=fun K' hK=>h1034 (⟨2,o1.a,0,0,[]⟩:Nd) W o1.w o1.nd o1.bad ae _ 0 10 _ K' ah ah cD cD (fun o ho=>by subst ho;exact hK)) (hn:=aG) ?_;refine aF ?_;refine ch trivial eP (cn ah (ak (D.int .i64) ?_)) ah ⟨⟨(o1.nd.length:Nat),o1.w,o1.nd++[(⟨2,o1.a,0,0,[]⟩:Nd)],o1.bad⟩,16,aG,UB ho1,rfl,rfl,rfl⟩;rfl
 have hn1:iJ w tE=false:=hc1;rw[sc hn1];refine aK ?_;refine dd (nx':=9) (v:=.bool (iJ w iV)) (m':=[(0,.buf 4 [j5 W (q9 w iV) (.own 1 5 0 nd.length) false]),(1,.buf 5 (nd.map Nd.D))]) (hc:=fun K' hK=>h1033 iV W w nd false hp0 _ 0 1 _ K' ah ah cD cD (fun o ho=>by subst ho;exact hK)) (hn:=aG) ?_;refine aE ?_;refine az (fun hc2=>?_) (fun hc2=>?_)
 .obtain⟨r,rfl⟩:=pZ hc2;rw[nD];have hsr:r<:+W/\W.length<=1000:=⟨(List.suffix_cons _ r).trans hp0.1,hp0.2⟩;simp only[aM]at hp1;refine aF ?_;refine iC (fh (jR r nd) r nd) Va 12 (fun o=>[(12,.buf 5 (o.nd.map Nd.D)),(0,.buf 4 [j5 W o.w (.own 12 5 0 o.nd.length) o.bad])]) (fun o1 ho1=>?_) (hc:=fun K' hK=>h952 W r nd hsr ae (by simp only[aM];omega) _ 0 1 _ K' ah ah cD cD (fun o ho=>hK o ho)) (hn:=aG);refine aQ ?_;refine dd (nx':=15) (v:=.bool (iJ o1.w mO)) (m':=[(12,.buf 5 (o1.nd.map Nd.D)),(0,.buf 4 [j5 W (q9 o1.w mO) (.own 12 5 0 o1.nd.length) o1.bad])]) (hc:=fun K' hK=>h1033 mO W o1.w o1.nd o1.bad ⟨ho1.2.BC hsr.1,hp0.2⟩ _ 0 12 _ K' ah ah cD cD (fun o ho=>by subst ho;exact hK)) (hn:=aG) ?_;refine aD ?_;refine az (fun hc3=>?_) (fun hc3=>?_)
  .simp only[bE]at hc3;rw[sc hc3];refine aK ?_;refine aR (j5 W o1.w (.own 12 5 0 o1.nd.length) true) (he:=aW) ?_;refine bw ?_;refine ch trivial eP (cn ah (ak (D.int .i64) ?_)) ah ⟨⟨o1.a,o1.w,o1.nd,true⟩,12,aG,JM ho1 hc3,rfl,rfl,rfl⟩;rfl
  simp only[cq]at hc3;obtain⟨q,hq⟩:=pZ hc3;rw[show q9 o1.w mO=q by rw[hq,nD]];refine bw ?_;refine ch trivial eP (cn ah (ak (D.int .i64) ?_)) ah ⟨⟨o1.a,q,o1.nd,o1.bad⟩,12,aG,W6 ho1 hq,rfl,rfl,rfl⟩;rfl
 have hn2:iJ w iV=false:=hc2;rw[sc hn2];refine aF ?_;refine iC (fh (ER w nd) w nd) Va 12 (fun o=>[(12,.buf 5 (o.nd.map Nd.D)),(0,.buf 4 [j5 W o.w (.own 12 5 0 o.nd.length) o.bad])]) (fun o1 ho1=>?_) (hc:=fun K' hK=>h1126 W w nd hp0 hp1 _ 0 1 _ K' ah ah cD cD (fun o ho=>hK o ho)) (hn:=aG);rw[<-ah4 hn1 hn2]at ho1;refine aF ?_;refine ch trivial eP (cn ah (ak (D.int .i64) ?_)) ah ⟨o1,12,aG,ho1,rfl,rfl,rfl⟩;rfl
noncomputable def mF:aN:=dy 232
def U5 {Y:Ctx}(hm:(Y.at 2).cP)(W:List av)(w:List av)(nd:List Nd)(h1033:tR (Y.at 2))(h1034:tx (Y.at 2))(h1097:Ay (Y.at 2) (6*w.length+1))(hp0:w<:+W/\W.length<=1000)(hp1:nd.length+2*w.length<=1000):cg (Y.at 2) mF.body (kJ mF (Ch 4 (j5 W) (fh (kG w nd) w nd) Va):Ex->List cA->St->Prop) (gz mF [.ptr 0 4 0 0]) ⟨2,[(0,.buf 4 [j5 W w (.own 1 5 0 nd.length) false]),(1,.buf 5 (nd.map Nd.D))]⟩:=by
 show cg _ _ _ [⟨true,.ptr 0 4 0 0⟩,.un,.un,.un,.un] ⟨2,[(0,.buf 4 [j5 W w (.own 1 5 0 nd.length) false]),(1,.buf 5 (nd.map Nd.D))]⟩;have hgo:yH kq:=pV;have hun:kG w nd=jK kq lr 3 w nd:=rfl;refine ay ?_;refine aK ?_;refine iC (fh (kq w nd) w nd) Va 4 (fun o=>[(4,.buf 5 (o.nd.map Nd.D)),(0,.buf 4 [j5 W o.w (.own 4 5 0 o.nd.length) o.bad])]) (fun o0 ho0=>?_) (hc:=fun K' hK=>h1097 W w nd hp0 hp1 ae _ 0 1 _ K' ah ah cD cD (fun o ho=>hK o ho)) (hn:=aG);refine aD ?_;refine br hm (ι:=PO) (fun o=>[⟨true,.ptr 0 4 0 0⟩,.un,.un,⟨true,.int .i64 o.a⟩,.un]) (fun o=>[(0,.buf 4 [j5 W o.w (.own 2 5 0 o.nd.length) o.bad]),(2,.buf 5 (o.nd.map Nd.D))]) 7 (fun o=>NN kq lr 3 (kG w nd) w nd o) (fun o=>o.w.length) o0 (NN.first ho0) (bm.to [(4,2)] ah ah fC (by refine hY ?_;refine bF.nl 4 ah ah ah fM ?_;exact bF.nil)) ?_;rintro⟨a,w1,nd1,bad⟩ hI;dsimp only;have hpb:=hI.2;have hl1:=hpb.1;have hl2:=hpb.2.1;dsimp only at hl1 hl2;have hsw:w1<:+W/\W.length<=1000:=⟨hpb.BC hp0.1,hp0.2⟩;refine aD ?_;cases bad
 .refine bw ?_;refine si (ι:=PO) (am7:=[.ptr 0 4 0 0,.str lr]) (fun o=>o=⟨0,q9 w1 lr,nd1,false⟩) (fun _=>.bool (iJ w1 lr)) 7 (fun o=>[(0,.buf 4 [j5 W o.w (.own 2 5 0 nd1.length) o.bad]),(2,.buf 5 (nd1.map Nd.D))]) (fun o2 ho2=>?_) (hc:=fun K' hK=>h1033 lr W w1 nd1 false hsw _ 0 2 _ K' ah ah cD cD (fun o ho=>hK o ho)) (hn:=aG);subst ho2;dsimp only;refine aD ?_;refine az (fun hc0=>?_) (fun hc0=>?_)
  .obtain⟨r,rfl⟩:=pZ (s:=lr) hc0;rw[nD];have hsr:r<:+W/\W.length<=1000:=⟨(List.suffix_cons _ r).trans hsw.1,hp0.2⟩;simp only[aM]at hl1 hl2;refine aK ?_;refine iC (fh (kq r nd1) r nd1) Va 17 (fun o=>[(17,.buf 5 (o.nd.map Nd.D)),(0,.buf 4 [j5 W o.w (.own 17 5 0 o.nd.length) o.bad])]) (fun o2 ho2=>?_) (hc:=fun K' hK=>h1097 W r nd1 hsr ae ae _ 0 2 _ K' ah ah cD cD (fun o ho=>hK o ho)) (hn:=aG);have hl3:=ho2.2.2.1;have hl4:=ho2.2.1;refine aQ ?_;refine bj (Nd.D (⟨3,a,o2.a,0,[]⟩:Nd)) ?_;refine dd (nx':=21) (v:=.int .i64 (o2.nd.length:Nat)) (m':=[(24,.buf 5 ((o2.nd++[(⟨3,a,o2.a,0,[]⟩:Nd)]).map Nd.D)),(0,.buf 4 [j5 W o2.w (.own 24 5 0 (o2.nd++[(⟨3,a,o2.a,0,[]⟩:Nd)]).length) o2.bad])]) (hc:=fun K' hK=>h1034 (⟨3,a,o2.a,0,[]⟩:Nd) W o2.w o2.nd o2.bad ae _ 0 17 _ K' ah ah cD cD (fun o ho=>by subst ho;exact hK)) (hn:=aG) ?_;refine aK ?_;exact⟨⟨(o2.nd.length:Nat),o2.w,o2.nd++[(⟨3,a,o2.a,0,[]⟩:Nd)],o2.bad⟩,NN.next hgo hI ho2,by dsimp only;simp only[aM];omega,(bm.to [(24,2)] ah ah fC (by refine hY ?_;refine bF.nl 24 ah ah ah fM ?_;exact bF.nil))⟩
  have hnb:iJ w1 lr=false:=hc0;rw[sc hnb];have hx:false=true\/w1.head? ≠some lr:=.inr (Fw hnb);refine bw ?_;refine ch trivial eP (cn ah (ak (D.int .i64) ?_)) ah ⟨⟨a,w1,nd1,false⟩,2,aG,hI.last hx,rfl,rfl,rfl⟩;rfl
 .refine bw ?_;refine C2 ?_;refine aa9 (t:=false) ?_;refine aE ?_;refine az (fun hc0=>?_) (fun hc0=>?_)
  .skip
   exact absurd hc0 aG
  have hx:true=true\/w1.head? ≠some lr:=.inl rfl;refine bw ?_;refine ch trivial eP (cn ah (ak (D.int .i64) ?_)) ah ⟨⟨a,w1,nd1,true⟩,2,aG,hI.last hx,rfl,rfl,rfl⟩;rfl
noncomputable def kR:aN:=dy 223
def w952 {Y:Ctx}(hm:(Y.at 2).cP)(W:List av)(w:List av)(nd:List Nd)(h1032:Dl (Y.at 2) (6*w.length+2))(h1033:tR (Y.at 2))(h1034:tx (Y.at 2))(hp0:w<:+W/\W.length<=1000)(hp1:nd.length+2*w.length<=1000):cg (Y.at 2) kR.body (kJ kR (Ch 4 (j5 W) (fh (jR w nd) w nd) Va):Ex->List cA->St->Prop) (gz kR [.ptr 0 4 0 0]) ⟨2,[(0,.buf 4 [j5 W w (.own 1 5 0 nd.length) false]),(1,.buf 5 (nd.map Nd.D))]⟩:=by
 show cg _ _ _ [⟨true,.ptr 0 4 0 0⟩,.un,.un,.un,.un] ⟨2,[(0,.buf 4 [j5 W w (.own 1 5 0 nd.length) false]),(1,.buf 5 (nd.map Nd.D))]⟩;have hgo:yH kG:=qh;have hun:jR w nd=jK kG rD 4 w nd:=rfl;refine ay ?_;refine aK ?_;refine iC (fh (kG w nd) w nd) Va 4 (fun o=>[(4,.buf 5 (o.nd.map Nd.D)),(0,.buf 4 [j5 W o.w (.own 4 5 0 o.nd.length) o.bad])]) (fun o0 ho0=>?_) (hc:=fun K' hK=>h1032 W w nd hp0 hp1 ae _ 0 1 _ K' ah ah cD cD (fun o ho=>hK o ho)) (hn:=aG);refine aD ?_;refine br hm (ι:=PO) (fun o=>[⟨true,.ptr 0 4 0 0⟩,.un,.un,⟨true,.int .i64 o.a⟩,.un]) (fun o=>[(0,.buf 4 [j5 W o.w (.own 2 5 0 o.nd.length) o.bad]),(2,.buf 5 (o.nd.map Nd.D))]) 7 (fun o=>NN kG rD 4 (jR w nd) w nd o) (fun o=>o.w.length) o0 (NN.first ho0) (bm.to [(4,2)] ah ah fC (by refine hY ?_;refine bF.nl 4 ah ah ah fM ?_;exact bF.nil)) ?_;rintro⟨a,w1,nd1,bad⟩ hI;dsimp only;have hpb:=hI.2;have hl1:=hpb.1;have hl2:=hpb.2.1;dsimp only at hl1 hl2;have hsw:w1<:+W/\W.length<=1000:=⟨hpb.BC hp0.1,hp0.2⟩;refine aD ?_;cases bad
 .refine bw ?_;refine si (ι:=PO) (am7:=[.ptr 0 4 0 0,.str rD]) (fun o=>o=⟨0,q9 w1 rD,nd1,false⟩) (fun _=>.bool (iJ w1 rD)) 7 (fun o=>[(0,.buf 4 [j5 W o.w (.own 2 5 0 nd1.length) o.bad]),(2,.buf 5 (nd1.map Nd.D))]) (fun o2 ho2=>?_) (hc:=fun K' hK=>h1033 rD W w1 nd1 false hsw _ 0 2 _ K' ah ah cD cD (fun o ho=>hK o ho)) (hn:=aG);subst ho2;dsimp only;refine aD ?_;refine az (fun hc0=>?_) (fun hc0=>?_)
  .obtain⟨r,rfl⟩:=pZ (s:=rD) hc0;rw[nD];have hsr:r<:+W/\W.length<=1000:=⟨(List.suffix_cons _ r).trans hsw.1,hp0.2⟩;simp only[aM]at hl1 hl2;refine aK ?_;refine iC (fh (kG r nd1) r nd1) Va 17 (fun o=>[(17,.buf 5 (o.nd.map Nd.D)),(0,.buf 4 [j5 W o.w (.own 17 5 0 o.nd.length) o.bad])]) (fun o2 ho2=>?_) (hc:=fun K' hK=>h1032 W r nd1 hsr ae ae _ 0 2 _ K' ah ah cD cD (fun o ho=>hK o ho)) (hn:=aG);have hl3:=ho2.2.2.1;have hl4:=ho2.2.1;refine aQ ?_;refine bj (Nd.D (⟨4,a,o2.a,0,[]⟩:Nd)) ?_;refine dd (nx':=21) (v:=.int .i64 (o2.nd.length:Nat)) (m':=[(24,.buf 5 ((o2.nd++[(⟨4,a,o2.a,0,[]⟩:Nd)]).map Nd.D)),(0,.buf 4 [j5 W o2.w (.own 24 5 0 (o2.nd++[(⟨4,a,o2.a,0,[]⟩:Nd)]).length) o2.bad])]) (hc:=fun K' hK=>h1034 (⟨4,a,o2.a,0,[]⟩:Nd) W o2.w o2.nd o2.bad ae _ 0 17 _ K' ah ah cD cD (fun o ho=>by subst ho;exact hK)) (hn:=aG) ?_;refine aK ?_;exact⟨⟨(o2.nd.length:Nat),o2.w,o2.nd++[(⟨4,a,o2.a,0,[]⟩:Nd)],o2.bad⟩,NN.next hgo hI ho2,by dsimp only;simp only[aM];omega,(bm.to [(24,2)] ah ah fC (by refine hY ?_;refine bF.nl 24 ah ah ah fM ?_;exact bF.nil))⟩
  have hnb:iJ w1 rD=false:=hc0;rw[sc hnb];have hx:false=true\/w1.head? ≠some rD:=.inr (Fw hnb);refine bw ?_;refine ch trivial eP (cn ah (ak (D.int .i64) ?_)) ah ⟨⟨a,w1,nd1,false⟩,2,aG,hI.last hx,rfl,rfl,rfl⟩;rfl
 .refine bw ?_;refine C2 ?_;refine aa9 (t:=false) ?_;refine aE ?_;refine az (fun hc0=>?_) (fun hc0=>?_)
  .skip
   exact absurd hc0 aG
  have hx:true=true\/w1.head? ≠some rD:=.inl rfl;refine bw ?_;refine ch trivial eP (cn ah (ak (D.int .i64) ?_)) ah ⟨⟨a,w1,nd1,true⟩,2,aG,hI.last hx,rfl,rfl,rfl⟩;rfl
noncomputable def S4:aN:=dy 187
def w568 {Y:Ctx}(hm:(Y.at 0).cP)(h217:K2 Y)(h470:wI Y)(h741:C741 Y)(h742:C742 Y)(s:av)  (hp0:s.length<=1048576):dX Y S4 (.tup [dz.D ((hH s).getD hX),.int .i64 (qT s)]) [.str s]:=by
 show cg _ _ _ [⟨_,_⟩,_,_,_,_,_,_,_,_,_,_,_,_] _;have hb1:=lK s 43;have GQ:=lK (aP s 43).2 45;have t1:=tl s 43;have t2:=tl (aP s 43).2 45;have hq:=abY s;have p1:=nG s 43;have p2:=nG (aP s 43).2 45;refine ay ?_;refine dJ ?_;refine au (hc:=h741 s 43) ?_;refine aU ?_;refine ga (aP s 43).2.length ?_;refine aU ?_;refine lf (aP s 43).2.length ?_;rw[t1];refine aK ?_;refine au (hc:=h741 (aP s 43).2 45) ?_;refine aU ?_;refine ga (aP (aP s 43).2 45).2.length ?_;refine aU ?_;refine lf (aP (aP s 43).2 45).2.length ?_;rw[t2];refine au (hc:=h470 (aP (aP s 43).2 45).2 46 ae) ?_;refine au (hc:=h742 (ai (aP (aP s 43).2 45).2 46)) ?_;rw[Tu];refine aE ?_;refine fJ (dz.D _) ?_;refine aD ?_;refine aR (dz.D ⟨(eS (ai (aP (aP s 43).2 45).2 46)).1.major,(eS (ai (aP (aP s 43).2 45).2 46)).1.minor,(eS (ai (aP (aP s 43).2 45).2 46)).1.patch,[],[]⟩) (he:=aW) ?_;refine bW ?_;refine gN ?_;refine aK ?_;refine gN ?_;refine aF ?_;refine di (fun hc0=>?_) fun hc0=>?_
 .refine aD ?_;refine bj (dz.D hX) ?_;refine aR (dz.D hX) (he:=aW) ?_;refine aF ?_;refine bT (aS ?_ (ak (D.int .i64) ?_));all_goals
   have hn:hH s=none:=by
    rw[hq,ar];rintro⟨⟨⟨a,b⟩,c⟩,d⟩;rcases hc0 with(h|h)|h
    .rw[a]at h;cases h
    .omega
    .omega
   simp only[qT,hn];first|done|rfl
 refine aQ ?_;refine az (fun hc1=>?_) (fun hc1=>?_)
 .simp only[bE,bC]at hc1;have hd6:=Ts (s:=(aP s 43).2) (b:=45) hc1;refine aD ?_;refine ga 1 (hb:=fun _=>hd6.1) ?_;rw[hd6.2];refine aE ?_;refine aR (dz.D ⟨(eS (ai (aP (aP s 43).2 45).2 46)).1.major,(eS (ai (aP (aP s 43).2 45).2 46)).1.minor,(eS (ai (aP (aP s 43).2 45).2 46)).1.patch,(aP (aP s 43).2 45).1,[]⟩) (he:=aW) ?_;refine aQ ?_;refine az (fun hc2=>?_) (fun hc2=>?_)
  .simp only[bE,bC]at hc2;have hd7:=Ts (s:=s) (b:=43) hc2;refine aD ?_;refine ga 1 (hb:=fun _=>hd7.1) ?_;rw[hd7.2];refine aE ?_;first|refine aR (dz.D ⟨(eS (ai (aP (aP s 43).2 45).2 46)).1.major,(eS (ai (aP (aP s 43).2 45).2 46)).1.minor,(eS (ai (aP (aP s 43).2 45).2 46)).1.patch,(aP (aP s 43).2 45).1,(aP s 43).1⟩) (he:=aW) ?_|refine aR (dz.D ⟨(eS (ai (aP (aP s 43).2 45).2 46)).1.major,(eS (ai (aP (aP s 43).2 45).2 46)).1.minor,(eS (ai (aP (aP s 43).2 45).2 46)).1.patch,[],(aP s 43).1⟩) (he:=aW) ?_
   refine aF ?_;first|refine aV (v:=dz.D (dV s)) (hv:=fun _=>rfl) ?_|refine aV (v:=dz.D (dV s)) (hv:=fun _=>by rw[dV,hz6];rfl) ?_|refine aV (v:=dz.D (dV s)) (hv:=fun _=>by rw[dV,hz7];rfl) ?_|refine aV (v:=dz.D (dV s)) (hv:=fun _=>by rw[dV,hz6,hz7];rfl) ?_
   refine au (hc:=h217 (dV s) ⟨by simp only[dV];omega,by simp only[dV];omega⟩) ?_;refine aD ?_;refine az (fun hc3=>?_) (fun hc3=>?_)
   .simp only[bE]at hc3;refine aD ?_;refine bj (dz.D hX) ?_;refine aR (dz.D hX) (he:=aW) ?_;refine aF ?_;refine bT (aS ?_ (ak (D.int .i64) ?_));all_goals
     have hn:hH s=none:=by
      rw[hq,ar];rintro⟨_,d⟩;rw[hc3]at d;cases d
     simp only[qT,hn];first|done|rfl
   simp only[cq]at hc3;refine aD ?_;first|refine aV (v:=dz.D (dV s)) (hv:=fun _=>rfl) ?_|refine aV (v:=dz.D (dV s)) (hv:=fun _=>by rw[dV,hz6];rfl) ?_|refine aV (v:=dz.D (dV s)) (hv:=fun _=>by rw[dV,hz7];rfl) ?_|refine aV (v:=dz.D (dV s)) (hv:=fun _=>by rw[dV,hz6,hz7];rfl) ?_
   refine aR (dz.D (dV s)) (he:=aW) ?_;refine aF ?_;refine bT (aS ?_ (ak (D.int .i64) ?_));all_goals
    have hn:hH s=some (dV s):=by
     rw[hq,aC ⟨⟨⟨by first|exact hc0.1.1|simpa using hc0.1.1,ae⟩,ae⟩,hc3⟩]
    simp only[qT,hn];first|done|rfl
  simp only[cq,bh]at hc2;have hz7:=Tr (s:=s) (b:=43) hc2;refine aF ?_;first|refine aV (v:=dz.D (dV s)) (hv:=fun _=>rfl) ?_|refine aV (v:=dz.D (dV s)) (hv:=fun _=>by rw[dV,hz6];rfl) ?_|refine aV (v:=dz.D (dV s)) (hv:=fun _=>by rw[dV,hz7];rfl) ?_|refine aV (v:=dz.D (dV s)) (hv:=fun _=>by rw[dV,hz6,hz7];rfl) ?_
  refine au (hc:=h217 (dV s) ⟨by simp only[dV];omega,by simp only[dV];omega⟩) ?_;refine aD ?_;refine az (fun hc3=>?_) (fun hc3=>?_)
  .simp only[bE]at hc3;refine aD ?_;refine bj (dz.D hX) ?_;refine aR (dz.D hX) (he:=aW) ?_;refine aF ?_;refine bT (aS ?_ (ak (D.int .i64) ?_));all_goals
    have hn:hH s=none:=by
     rw[hq,ar];rintro⟨_,d⟩;rw[hc3]at d;cases d
    simp only[qT,hn];first|done|rfl
  simp only[cq]at hc3;refine aD ?_;first|refine aV (v:=dz.D (dV s)) (hv:=fun _=>rfl) ?_|refine aV (v:=dz.D (dV s)) (hv:=fun _=>by rw[dV,hz6];rfl) ?_|refine aV (v:=dz.D (dV s)) (hv:=fun _=>by rw[dV,hz7];rfl) ?_|refine aV (v:=dz.D (dV s)) (hv:=fun _=>by rw[dV,hz6,hz7];rfl) ?_
  refine aR (dz.D (dV s)) (he:=aW) ?_;refine aF ?_;refine bT (aS ?_ (ak (D.int .i64) ?_));all_goals
   have hn:hH s=some (dV s):=by
    rw[hq,aC ⟨⟨⟨by first|exact hc0.1.1|simpa using hc0.1.1,ae⟩,ae⟩,hc3⟩]
   simp only[qT,hn];first|done|rfl
 simp only[cq,bh]at hc1;have hz6:=Tr (s:=(aP s 43).2) (b:=45) hc1;refine aQ ?_;refine az (fun hc2=>?_) (fun hc2=>?_)
 .simp only[bE,bC]at hc2;have hd7:=Ts (s:=s) (b:=43) hc2;refine aD ?_;refine ga 1 (hb:=fun _=>hd7.1) ?_;rw[hd7.2];refine aE ?_;first|refine aR (dz.D ⟨(eS (ai (aP (aP s 43).2 45).2 46)).1.major,(eS (ai (aP (aP s 43).2 45).2 46)).1.minor,(eS (ai (aP (aP s 43).2 45).2 46)).1.patch,(aP (aP s 43).2 45).1,(aP s 43).1⟩) (he:=aW) ?_|refine aR (dz.D ⟨(eS (ai (aP (aP s 43).2 45).2 46)).1.major,(eS (ai (aP (aP s 43).2 45).2 46)).1.minor,(eS (ai (aP (aP s 43).2 45).2 46)).1.patch,[],(aP s 43).1⟩) (he:=aW) ?_
  refine aF ?_;first|refine aV (v:=dz.D (dV s)) (hv:=fun _=>rfl) ?_|refine aV (v:=dz.D (dV s)) (hv:=fun _=>by rw[dV,hz6];rfl) ?_|refine aV (v:=dz.D (dV s)) (hv:=fun _=>by rw[dV,hz7];rfl) ?_|refine aV (v:=dz.D (dV s)) (hv:=fun _=>by rw[dV,hz6,hz7];rfl) ?_
  refine au (hc:=h217 (dV s) ⟨by simp only[dV];omega,by simp only[dV];omega⟩) ?_;refine aD ?_;refine az (fun hc3=>?_) (fun hc3=>?_)
  .simp only[bE]at hc3;refine aD ?_;refine bj (dz.D hX) ?_;refine aR (dz.D hX) (he:=aW) ?_;refine aF ?_;refine bT (aS ?_ (ak (D.int .i64) ?_));all_goals
    have hn:hH s=none:=by
     rw[hq,ar];rintro⟨_,d⟩;rw[hc3]at d;cases d
    simp only[qT,hn];first|done|rfl
  simp only[cq]at hc3;refine aD ?_;first|refine aV (v:=dz.D (dV s)) (hv:=fun _=>rfl) ?_|refine aV (v:=dz.D (dV s)) (hv:=fun _=>by rw[dV,hz6];rfl) ?_|refine aV (v:=dz.D (dV s)) (hv:=fun _=>by rw[dV,hz7];rfl) ?_|refine aV (v:=dz.D (dV s)) (hv:=fun _=>by rw[dV,hz6,hz7];rfl) ?_
  refine aR (dz.D (dV s)) (he:=aW) ?_;refine aF ?_;refine bT (aS ?_ (ak (D.int .i64) ?_));all_goals
   have hn:hH s=some (dV s):=by
    rw[hq,aC ⟨⟨⟨by first|exact hc0.1.1|simpa using hc0.1.1,ae⟩,ae⟩,hc3⟩]
   simp only[qT,hn];first|done|rfl
 simp only[cq,bh]at hc2;have hz7:=Tr (s:=s) (b:=43) hc2;refine aF ?_;first|refine aV (v:=dz.D (dV s)) (hv:=fun _=>rfl) ?_|refine aV (v:=dz.D (dV s)) (hv:=fun _=>by rw[dV,hz6];rfl) ?_|refine aV (v:=dz.D (dV s)) (hv:=fun _=>by rw[dV,hz7];rfl) ?_|refine aV (v:=dz.D (dV s)) (hv:=fun _=>by rw[dV,hz6,hz7];rfl) ?_
 refine au (hc:=h217 (dV s) ⟨by simp only[dV];omega,by simp only[dV];omega⟩) ?_;refine aD ?_;refine az (fun hc3=>?_) (fun hc3=>?_)
 .simp only[bE]at hc3;refine aD ?_;refine bj (dz.D hX) ?_;refine aR (dz.D hX) (he:=aW) ?_;refine aF ?_;refine bT (aS ?_ (ak (D.int .i64) ?_));all_goals
   have hn:hH s=none:=by
    rw[hq,ar];rintro⟨_,d⟩;rw[hc3]at d;cases d
   simp only[qT,hn];first|done|rfl
 simp only[cq]at hc3;refine aD ?_;first|refine aV (v:=dz.D (dV s)) (hv:=fun _=>rfl) ?_|refine aV (v:=dz.D (dV s)) (hv:=fun _=>by rw[dV,hz6];rfl) ?_|refine aV (v:=dz.D (dV s)) (hv:=fun _=>by rw[dV,hz7];rfl) ?_|refine aV (v:=dz.D (dV s)) (hv:=fun _=>by rw[dV,hz6,hz7];rfl) ?_
 refine aR (dz.D (dV s)) (he:=aW) ?_;refine aF ?_;refine bT (aS ?_ (ak (D.int .i64) ?_));all_goals
  have hn:hH s=some (dV s):=by
   rw[hq,aC ⟨⟨⟨by first|exact hc0.1.1|simpa using hc0.1.1,ae⟩,ae⟩,hc3⟩]
  simp only[qT,hn];first|done|rfl
noncomputable def SN:aN:=dy 236
def U9 {Y:Ctx}(hm:(Y.at 0).cP)(h1099:Hi Y)(h1100:KY Y)(l:List Nd)(i:Int)(h1036:Dm (Y.at 0) (2*i.toNat))(hp0:kQ l/\l.length<=15/\0<=i/\i<l.length):dX Y SN (.str (oZ l i)) [.sl 5 (l.map Nd.D),.int .i64 i]:=by
 show cg _ _ _ [⟨_,_⟩,⟨_,_⟩,_,_,_,_,_,_,_,_,_,_] _;obtain⟨hk,hl15,hi0,hi1⟩:=hp0;have htx:=UZ hk hi0 hi1;obtain⟨k1,k2,k3⟩:=hk i.toNat ae;refine ay ?_;refine aQ ?_;first|refine bp (v:=(Nd.D _)) ?_|refine gI (v:=(Nd.D _)) ?_
 refine mZ ?_;refine wp_cond (fun hc0=>?_) (fun hc0=>?_)
 .simp only[bh]at hc0;have k1:=k1 hc0;have hkl:=rX l[i.toNat]!.key;refine aF ?_;refine au (hc:=h1099 l[i.toNat]!.key ⟨k1.1,k1.2.1⟩) ?_;refine gv ?_;refine aD ?_;refine gv ?_;refine aK ?_;refine du ?_;rw[htx,aC hc0]
 simp only[bC]at hc0;have ka:=k2 hc0;have hla:=vy hk hl15 (i:=l[i.toNat]!.a) ae ae;have hwa:=fun b=>qc (oZ l l[i.toNat]!.a) b
 refine aK ?_;refine wp_cond (fun hc1=>?_) (fun hc1=>?_)
 .simp only[bh]at hc1;refine aK ?_;refine bz l[i.toNat]!.a.toNat ?_;first|refine bp (v:=(Nd.D _)) ?_|refine gI (v:=(Nd.D _)) ?_
  refine dJ ?_;refine az (fun hc2=>?_) (fun hc2=>?_)
  .simp only[bh]at hc2;have k4:=(hk l[i.toNat]!.a.toNat ae).1 hc2;have hkl:=rX l[l[i.toNat]!.a.toNat]!.key;refine aK ?_;refine au (hc:=h1099 l[l[i.toNat]!.a.toNat]!.key ⟨k4.1,k4.2.1⟩) ?_;refine gv ?_;refine aD ?_;refine gv ?_;refine aK ?_;refine du ?_;rw[htx,ar hc0,aC hc1,aC hc2]
  try simp only[cX]at hc2
  refine aU ?_;refine au (hc:=h1036 l l[i.toNat]!.a ⟨hk,hl15,ae,ae⟩ ae) ?_;refine aF ?_;refine au (hc:=h1100 (oZ l l[i.toNat]!.a) _ ae) ?_;have hwx:=hwa (!decide (l[l[i.toNat]!.a.toNat]!.op=2));refine gv ?_;refine aK ?_;refine du ?_;rw[htx,ar hc0,aC hc1,ar hc2]
 simp only[bC]at hc1;have kb:=k3 hc0 hc1;have hlb:=vy hk hl15 (i:=l[i.toNat]!.b) ae ae;have hwb:=fun b=>qc (oZ l l[i.toNat]!.b) b
 refine aK ?_;refine iI (fun hc3=>?_) fun hc3=>?_
 .refine aK ?_;refine bz l[i.toNat]!.a.toNat ?_;refine aU ?_;refine bz l[i.toNat]!.b.toNat ?_;refine dJ ?_;refine au (hc:=h1036 l l[i.toNat]!.a ⟨hk,hl15,ae,ae⟩ ae) ?_;refine aD ?_;refine au (hc:=h1100 (oZ l l[i.toNat]!.a) _ ae) ?_;have hwx:=hwa (decide (l[l[i.toNat]!.a.toNat]!.op=4));refine gv ?_;refine aF ?_;refine au (hc:=h1036 l l[i.toNat]!.b ⟨hk,hl15,ae,ae⟩ ae) ?_;refine aQ ?_;refine au (hc:=h1100 (oZ l l[i.toNat]!.b) _ ae) ?_;have hwy:=hwb (decide (l[l[i.toNat]!.b.toNat]!.op=4) ||decide (l[l[i.toNat]!.b.toNat]!.op=3));refine gv ?_;refine aK ?_;refine du ?_;rw[htx,ar hc0,ar hc1,aC hc3]
 refine aQ ?_;refine au (hc:=h1036 l l[i.toNat]!.a ⟨hk,hl15,ae,ae⟩ ae) ?_;refine gv ?_;refine aF ?_;refine au (hc:=h1036 l l[i.toNat]!.b ⟨hk,hl15,ae,ae⟩ ae) ?_;refine aF ?_;refine bz l[i.toNat]!.b.toNat ?_;refine aF ?_;refine au (hc:=h1100 (oZ l l[i.toNat]!.b) _ ae) ?_;have hwy:=hwb (decide (l[l[i.toNat]!.b.toNat]!.op=4));refine gv ?_;refine aF ?_;refine du ?_;rw[htx,ar hc0,ar hc1,ar hc3]
noncomputable def SO:aN:=dy 235
def U8 (h1098:KX Y)(l:List Nd)  (hp0:l.length<=15):dX Y SO (.bool (ri l)) [.sl 5 (l.map Nd.D)]:=by
 show cg _ _ _ [⟨_,_⟩,_,_,_,_,_,_,_,_,_,_] _;refine ay ?_;refine dJ ?_;refine br hm (ι:=(Nat×List Int)) (fun p=>[⟨true,.sl 5 (l.map Nd.D)⟩,.un,⟨true,.int .i64 (p.1:Nat)⟩,.un,⟨true,.own 0 1 0 p.2.length⟩,.un,.un,.un,.un,.un,.un]) (fun p=>[(0,.buf 1 (p.2.map (D.int .i64)))]) 3 (fun p=>p.1<=l.length/\p.2.length<=p.1/\pG l 0 []=pG (l.drop p.1) p.1 p.2) (fun p=>l.length-p.1) (0,[]) ⟨aI,aI,aI⟩ (bm.to [] ah ah (by repeat(first|exact de.nil|refine de.un ?_|refine de.eq ah ?_|refine de.nl ah ah ?_|refine de.ni (Or.inr ⟨_,_,_,rfl⟩) ?_)) (by repeat(first|exact bF.nil|refine bF.mt ah ah ah ah ?_))) ?_;rintro⟨i,o⟩ ⟨hi,ho,hr⟩;dsimp only at hi ho hr⊢;refine aU ?_;intro u0;refine aD ?_;refine di (fun hc0=>?_) fun hc0=>?_
 .refine aQ ?_;first|refine bp (v:=(Nd.D _)) ?_|refine gI (v:=(Nd.D _)) ?_
  refine aD ?_;intro u1;refine aE ?_;refine aR (Nd.D l[i]!) (he:=aW) ?_;refine GL ?_;refine au (hc:=h1098 _) ?_;refine aD ?_;refine iI (fun hc1=>?_) fun hc1=>?_
  .refine aU ?_;refine dq [(.int _ _)] ?_;refine B3 ((o++[(i:Int)]).map (D.int .i64)) (n:=(o++[(i:Int)]).length) (ha:=by simp<;>omega) (he:=vO.all (es:=[.int .i64 (i:Nat)]) ah rfl) (hz:=by rw[bR,fq aI,List.map_append];rfl) (hn:=by simp<;>omega) (hb:=by simp<;>omega) ?_;refine dJ ?_;have hs:kl l[i]! i o=some (o++[(i:Int)]):=by rw[C6,aC hc1]
   exact⟨(i+1,(o++[(i:Int)])),⟨dE,dk,by rw[hr];exact ke ae hs⟩,dE,(bm.to [(31,0)] ah ah fC (by refine bF.nl 31 ah ah ah fM ?_;exact bF.nil))⟩
  refine GM ?_;refine kg (o.length-1) ?_;refine uW (q:=D.int .i64) (xs:=o) (v:=(.int .i64 o[o.length-1]!)) (hv:=fun _=>by rw[bI];rfl) ?_;refine dJ ?_;refine wp_cond (fun hc2=>?_) (fun hc2=>?_)
  .replace hc2:ZF l[i]! o=true:=hc2;have hk1:1<=o.length:=by have hq:=hc2;simp only[ZF,bM,bh]at hq;omega
   refine aK ?_;refine zq (o.length-1) ?_;refine aQ ?_;refine dq [(.int _ _)] ?_;refine B3 ((o.take (o.length-1)++[(i:Int)]).map (D.int .i64)) (n:=(o.take (o.length-1)++[(i:Int)]).length) (ha:=by simp<;>omega) (he:=vO.all (es:=[.int .i64 (i:Nat)]) ah rfl) (hz:=by rw[bR,<-List.map_take,List.map_append];rfl) (hn:=by simp<;>omega) (hb:=by simp<;>omega) ?_;refine dJ ?_;have hs:kl l[i]! i o=some (o.take (o.length-1)++[(i:Int)]):=by rw[C6,ar (by rw[hc1];simp),aC hc2]
   exact⟨(i+1,(o.take (o.length-1)++[(i:Int)])),⟨dE,dk,by rw[hr];exact ke ae hs⟩,dE,(bm.to [(62,0)] ah ah fC (by refine bF.nl 62 ah ah ah fM ?_;exact bF.nil))⟩
  replace hc2:ZF l[i]! o=false:=hc2;refine agP ?_;refine kg (o.length-2) ?_;refine uW (q:=D.int .i64) (xs:=o) (v:=(.int .i64 o[o.length-2]!)) (hv:=fun _=>by rw[bI];rfl) ?_;refine bW ?_;refine kg (o.length-1) ?_;refine uW (q:=D.int .i64) (xs:=o) (v:=(.int .i64 o[o.length-1]!)) (hv:=fun _=>by rw[bI];rfl) ?_;refine aK ?_;refine wp_cond (fun hc3=>?_) (fun hc3=>?_)
  .replace hc3:ZG l[i]! o=true:=hc3;have hk1:2<=o.length:=by have hq:=hc3;simp only[ZG,bM,bh]at hq;omega
   refine aK ?_;refine zq (o.length-2) ?_;refine aQ ?_;refine dq [(.int _ _)] ?_;refine B3 ((o.take (o.length-2)++[(i:Int)]).map (D.int .i64)) (n:=(o.take (o.length-2)++[(i:Int)]).length) (ha:=by simp<;>omega) (he:=vO.all (es:=[.int .i64 (i:Nat)]) ah rfl) (hz:=by rw[bR,<-List.map_take,List.map_append];rfl) (hn:=by simp<;>omega) (hb:=by simp<;>omega) ?_;refine dJ ?_;have hs:kl l[i]! i o=some (o.take (o.length-2)++[(i:Int)]):=by rw[C6,ar (by rw[hc1];simp),ar (by rw[hc2];simp),aC hc3]
   exact⟨(i+1,(o.take (o.length-2)++[(i:Int)])),⟨dE,dk,by rw[hr];exact ke ae hs⟩,dE,(bm.to [(98,0)] ah ah fC (by refine bF.nl 98 ah ah ah fM ?_;exact bF.nil))⟩
  replace hc3:ZG l[i]! o=false:=hc3;refine bw ?_;refine cd ?_;symm;refine Nq ?_;rw[hr];refine iF ae ?_;rw[C6,ar (by rw[hc1];simp),ar (by rw[hc2];simp),ar (by rw[hc3];simp)]
 refine aU ?_;intro u2;refine aF ?_;refine gN ?_;refine aU ?_;refine cd ?_;simp only[ri,hr,H7 (show l.length<=i by omega)];rw[jO.2 (show((l.length:Nat):Int)=0↔l.length=0 by omega),jO.2 (show((o.length:Nat):Int)=1↔o.length=1 by omega)]
noncomputable def Fo:aN:=dy 10
def w247 (h70:C70 Y)(h208:K0 Y)(h495:VC Y)(h496:VD Y)(m:fD)  (hp0:qY m):dX Y Fo (.tup [.int .i64 (ey m).1,.int .i64 (ey m).2]) [fD.D m]:=by
 show cg _ _ _ [⟨_,_⟩,_,_,_,_,_,_,_,_,_,_,_,_,_,_,_,_,_,_,_,_,_,_,_,_] _;refine ay ?_;refine bw ?_;refine aV (v:=Rec.D m.r) ?_;refine au (hc:=h70 m.r hp0.1) ?_;refine gE ?_;refine az (fun hc0=>?_) (fun hc0=>?_)
 .simp only[cX]at hc0;refine bW ?_;refine bT (aS (ak (D.int .i64) ?_) (ak (D.int .i64) ?_));all_goals rw[Lw hc0]
 simp only[cX]at hc0;have q0:¬¬(cE m.r).1=0:=fun h=>h hc0
 refine aK ?_;refine aV (v:=.sl 2 (m.ps.map dH.D)) ?_;refine aE ?_;intro u0;refine aF ?_;refine aV (v:=.sl 2 (m.hs.map bV.D)) ?_;refine gN ?_;refine aF ?_;refine az (fun hc1=>?_) (fun hc1=>?_)
 .simp only[cX]at hc1;have hz:=Lv q0 ae;refine aQ ?_;refine bT (aS (ak (D.int .i64) ?_) (ak (D.int .i64) ?_));all_goals rw[hz]
 simp only[cX]at hc1;have q1:¬(8<m.ps.length\/8<m.hs.length):=ae;refine aK ?_;refine aV (v:=.sl 2 (m.ps.map dH.D)) ?_;refine aE ?_;intro u1;refine aD ?_;refine br hm (ι:=Nat) (fun i=>[.un,.un,.un,⟨true,.ptr 0 11 0 0⟩,.un,.un,.un,.un,⟨true,.int .i64 (i:Nat)⟩,⟨true,.int .i64 (m.ps.length:Nat)⟩,.un,⟨true,.sl 2 (m.ps.map dH.D)⟩,.un,.un,.un,.un,.un,.un,.un,.un,.un,.un,.un,.un,.un]) (fun i=>[(0,.buf 11 [fD.D m])]) 60 (fun i=>i<=m.ps.length/\qE m.ps=gA (SE m.ps) i m.ps.length) (fun i=>m.ps.length-i) 0 ⟨ae,rfl⟩ (dQ [(0,0)]) ?_;rintro i ⟨hi,hr⟩;refine aF ?_;refine di (fun hc2=>?_) fun hc2=>?_
 .refine aK ?_;refine bz i (hb:=fun _=>ae) ?_;refine bp (v:=dH.D m.ps[i]!) (hi:=fun _=>ae) ?_;refine aD ?_;refine aR (dH.D m.ps[i]!) (he:=aW) ?_;refine aF ?_;refine aV (v:=.str m.ps[i]!.name) ?_;refine au (hc:=h208 m.ps[i]!.name) ?_;refine aF ?_;refine aV (v:=.str m.ps[i]!.shelf) ?_;refine eD (hc:=fun hf=>h208 m.ps[i]!.shelf) ?_;refine bw ?_;refine aV (v:=.sl 2 (m.ps.map dH.D)) ?_;refine aE ?_;refine mz (hb:=fun hf=>by simp at hf;omega) ?_;refine bz (i-1) (hj:=fun hf=>by simp at hf;omega) (hb:=fun hf=>by simp at hf;omega) ?_;refine aE ?_;refine bp (v:=.str m.ps[(i-1)]!.name) (hi:=fun hf=>by simp at hf;omega) ?_;refine aE ?_;refine aV (v:=.str m.ps[i]!.name) ?_;refine aK ?_;refine wp_cond (fun hc3=>?_) (fun hc3=>?_)
  .simp only[cX]at hc3;simp only[gt_iff_lt,Int.natCast_pos]at hc3;have hz:=Ms hc3;refine bW ?_;refine bT (aS (ak (D.int .i64) ?_) (ak (D.int .i64) ?_));all_goals rw[EM q0 q1 (show qE m.ps=(15,((i:Nat):Int))by rw[hr,gl ae (by rw[hz];decide),hz]) (show ¬(15:Int)=0 by decide)]
  simp only[cX]at hc3;simp only[gt_iff_lt,Int.natCast_pos]at hc3;have hz:=UE (l:=m.ps) (i:=i) (by rintro((h|h)|⟨h,h2⟩)<;>simp_all);refine bw ?_;exact⟨i+1,⟨ae,by rw[hr,iq ae hz]⟩,ae,(dQ [(0,0)])⟩
 refine aK ?_;have q2:(qE m.ps).1=0:=by rw[hr,fT ae]
 refine aE ?_;refine aV (v:=.sl 2 (m.hs.map bV.D)) ?_;refine aE ?_;intro u2;refine aD ?_;refine br hm (ι:=Nat) (fun i=>[.un,.un,.un,⟨true,.ptr 0 11 0 0⟩,.un,.un,.un,.un,.un,.un,.un,.un,.un,.un,.un,⟨true,.int .i64 (i:Nat)⟩,⟨true,.int .i64 (m.hs.length:Nat)⟩,.un,⟨true,.sl 2 (m.hs.map bV.D)⟩,.un,.un,.un,.un,.un,.un]) (fun i=>[(0,.buf 11 [fD.D m])]) 90 (fun i=>i<=m.hs.length/\nr m.hs=gA (xa m.hs) i m.hs.length) (fun i=>m.hs.length-i) 0 ⟨ae,rfl⟩ (dQ [(0,0)]) ?_;rintro i ⟨hi,hr⟩;refine aF ?_;refine di (fun hc4=>?_) fun hc4=>?_
 .refine aK ?_;refine bz i (hb:=fun _=>ae) ?_;refine bp (v:=bV.D m.hs[i]!) (hi:=fun _=>ae) ?_;refine aD ?_;refine aR (bV.D m.hs[i]!) (he:=aW) ?_;refine aK ?_;refine aV (v:=.str m.hs[i]!.name) ?_;refine au (hc:=h208 m.hs[i]!.name) ?_;refine aQ ?_;refine aV (v:=.sl 2 (m.hs.map bV.D)) ?_;refine aE ?_;refine mz (hb:=fun hf=>by simp at hf;omega) ?_;refine bz (i-1) (hj:=fun hf=>by simp at hf;omega) (hb:=fun hf=>by simp at hf;omega) ?_;refine aE ?_;refine bp (v:=.str m.hs[(i-1)]!.name) (hi:=fun hf=>by simp at hf;omega) ?_;refine aE ?_;refine aV (v:=.str m.hs[i]!.name) ?_;refine aK ?_;refine az (fun hc5=>?_) (fun hc5=>?_)
  .simp only[cX]at hc5;simp only[gt_iff_lt,Int.natCast_pos]at hc5;have hz:=T3 hc5;refine dJ ?_;refine bT (aS (ak (D.int .i64) ?_) (ak (D.int .i64) ?_));all_goals rw[ug q0 q1 q2 (show nr m.hs=(4,((i:Nat):Int))by rw[hr,gl ae (by rw[hz];decide),hz])]
  simp only[cX]at hc5;simp only[gt_iff_lt,Int.natCast_pos]at hc5;have hq:¬(eV m.hs[i]!.name=false\/(0<i/\Op.bytesLess m.hs[i-1]!.name m.hs[i]!.name=false)):=by rintro(h|⟨h,h2⟩)<;>simp_all
  refine aF ?_;refine aV (v:=.str m.hs[i]!.range) ?_;refine au (hc:=h495 m.hs[i]!.range (hp0.2 _ (bL ae))) ?_;refine aE ?_;refine fJ (iN _) ?_;refine aD ?_;refine aR (iN (iS m.hs[i]!.range).1) (he:=aW) ?_;refine aQ ?_;refine cO (d:=iN (iS m.hs[i]!.range).1) ?_;refine eD (hc:=fun hf=>h496 (iS m.hs[i]!.range).1 J7.1) ?_;refine aE ?_;refine aV (v:=.str m.hs[i]!.range) ?_;refine aF ?_;refine wp_cond (fun hc6=>?_) (fun hc6=>?_)
  .simp only[cX]at hc6;have hrz:kC m.hs[i]!.range=false:=by
    unfold kC;rcases hc6 with h|h
    .rw[cy h];rfl
    .rw[cy h,Bool.and_false]
   have hz:=T4 hq hrz;refine bW ?_;refine bT (aS (ak (D.int .i64) ?_) (ak (D.int .i64) ?_));all_goals rw[ug q0 q1 q2 (show nr m.hs=(6,((i:Nat):Int))by rw[hr,gl ae (by rw[hz];decide),hz])]
  simp only[cX]at hc6;have hz:=LY hq (show kC m.hs[i]!.range=true by unfold kC;simp_all);refine bw ?_;exact⟨i+1,⟨ae,by rw[hr,iq ae hz]⟩,ae,(dQ [(0,0)])⟩
 refine bw ?_;refine bT (aS (ak (D.int .i64) ?_) (ak (D.int .i64) ?_));all_goals rw[ug q0 q1 q2 (show nr m.hs=(0,0)by rw[hr,fT ae])]
noncomputable def MG:aN:=dy 199
def w813 {Y:Ctx}(hm:(Y.at 0).cP)(h470:wI Y)(h952:I1 Y)(h953:VR Y)(s:av)   :dX Y MG (.tup [mU (oU s).1,.int .i64 (oU s).2]) [.str s]:=by
 show cg _ _ _ [⟨_,_⟩,_,_,_,_,_,_,_] _;refine ay ?_;refine aQ ?_;refine gN ?_;refine aD ?_;refine di (fun hc0=>?_) fun hc0=>?_
 .refine aD ?_;refine dL [.bg] ?_;refine aR (.agg [.bg]) (he:=aW) ?_;refine aF ?_;refine bT (aS ?_ (ak (D.int .i64) ?_));all_goals (have hq:oU s=([],3):=(by simp only[oU];rw[aC ae]);rw[hq];first|done|rfl)
 refine aQ ?_;refine az (fun hc1=>?_) (fun hc1=>?_)
 .try simp only[cX]at hc1
  refine aD ?_;refine dL [.bg] ?_;refine aR (.agg [.bg]) (he:=aW) ?_;refine aF ?_;refine bT (aS ?_ (ak (D.int .i64) ?_));all_goals (have hq:oU s=([],0):=(by simp only[oU];rw[ar ae,aC hc1]);rw[hq];first|done|rfl)
 simp only[bC]at hc1;have hnl:¬96<s.length:=ae;have hsl:=cJ s 32;refine aF ?_;refine au (hc:=h470 s 32 ae) ?_;refine bj (j5 (ai s 32) (ai s 32) .bg false) (hv:=fun _=>by show D.agg _=D.agg _;rw[Nat.sub_self];rfl) ?_;refine aF ?_;refine iW (bm.to (env':=[⟨true,.str s⟩,⟨true,.ptr 0 1 0 0⟩,.un,.un,.un,⟨true,.ptr 1 4 0 0⟩,.un,.un]) (c:=20) (nx':=20) (m':=[(0,.buf 1 [.agg [.bg]]),(1,.buf 4 [j5 (ai s 32)  (ai s 32) (.own 2 5 0 ([]:List Nd).length) false]),(2,.buf 5 (([]:List Nd).map Nd.D))]) [(0,0),(10,1)] rfl ah fC (by refine bF.iM ah ah ah ?_;refine bF.ni 10 ah ah (by exact⟨_,_,rfl,⟨_,rfl,⟨_,_,rfl,⟨rfl,rfl⟩,⟨_,_,rfl,⟨rfl,rfl⟩,⟨_,_,rfl,Or.inr ⟨_,_,_,rfl⟩,⟨_,_,rfl,⟨rfl,rfl⟩,rfl⟩⟩⟩⟩⟩,rfl⟩) ?_;refine bF.mt ah ah ah ah ?_;exact bF.nil)) ?_;refine aD ?_;refine iC (fh (jR (ai s 32) []) (ai s 32) []) Va 21 (fun o=>[(21,.buf 5 (o.nd.map Nd.D)),(0,.buf 1 [.agg [.bg]]),(1,.buf 4 [j5 (ai s 32) o.w (.own 21 5 0 o.nd.length) o.bad])]) (fun o1 ho1=>?_) (hc:=fun K' hK=>h952 (ai s 32) (ai s 32) [] ⟨nQ _,ae⟩ (by simp only[aX];omega) _ 1 2 _ K' ah ah cD cD (fun o ho=>hK o ho)) (hn:=aG);refine aE ?_;refine e7 21 ?_ (he:=by simp only[j8,ig,ij,ku,kW,cM,Nat.reduceEqDiff,ba,aZ,cC,cj,cb,cH,cK,bI,bB,aH,bR,aL,reduceCtorEq,aM,aX,Nat.reduceAdd,Nat.reduceLeDiff,j5];exact rfl) (hm:=by simp only[j8,ig,ij,ku,kW,cM,Nat.reduceEqDiff,ba,aZ,cC,cj,cb,cH,cK,bI,bB,aH,bR,aL,reduceCtorEq,aM,aX,Nat.reduceAdd,Nat.reduceLeDiff,j5];exact rfl);refine aK ?_;refine aV (v:=.sl 5 (o1.nd.map Nd.D)) ?_;refine bj (mU o1.nd) ?_;refine aE ?_;refine aR (mU o1.nd) (he:=aW) ?_;refine aQ ?_;refine aV (v:=.bool o1.bad) ?_;refine aK ?_;refine aV (v:=.int .i64 (((ai s 32).length-o1.w.length:Nat):Int)) ?_;refine aF ?_;refine aV (v:=.sl 1 ((ai s 32).map D.str)) ?_;refine gN ?_;refine aF ?_;refine cO (d:=mU o1.nd) ?_;refine au (hc:=h953 o1.nd) ?_;refine aF ?_;refine az (fun hc2=>?_) (fun hc2=>?_)
 .have hwl:=ho1.2.1;have hlt:decide ((((ai s 32).length-o1.w.length:Nat):Int)<((ai s 32).length:Nat))=decide ((0:Int)<(o1.w.length:Nat)):=jO.2 ae;rw[hlt]at hc2;have hmx:=aau ho1 hc2;refine aD ?_;refine dL [.bg] ?_;refine aR (.agg [.bg]) (he:=aW) ?_;refine aF ?_;refine bT (aS ?_ (ak (D.int .i64) ?_));all_goals (have hq:=Uq hnl hc1 hmx;rw[hq];first|done|rfl)
 have hwl:=ho1.2.1;have hlt:decide ((((ai s 32).length-o1.w.length:Nat):Int)<((ai s 32).length:Nat))=decide ((0:Int)<(o1.w.length:Nat)):=jO.2 ae;rw[hlt]at hc2;have hmx:=Us ho1 hc2;refine aD ?_;refine cO (d:=mU o1.nd) ?_;refine aR (mU o1.nd) (he:=aW) ?_;refine aF ?_;refine bT (aS ?_ (ak (D.int .i64) ?_));all_goals (have hq:=Ur hnl hc1 hmx;rw[hq];first|done|rfl)
noncomputable def MH:aN:=dy 169
def w670 {Y:Ctx}(hm:(Y.at 0).cP)(h813:YU Y)(h814:YV Y)(s:av)   :dX Y MH (.bool (tf s)) [.str s]:=by
 show cg _ _ _ [⟨_,_⟩,_,_,_] _;refine ay ?_;refine aK ?_;refine au (hc:=h813 s) ?_;refine aE ?_;refine fJ (mU _) ?_;refine aD ?_;refine aR (mU (oU s).1) (he:=aW) ?_;refine aQ ?_;refine cO (d:=mU (oU s).1) ?_;refine au (hc:=h814 (oU s).1) ?_;refine aQ ?_;exact cd rfl
noncomputable def Ss:aN:=dy 154
def w662 {Y:Ctx}(hm:(Y.at 0).cP)(h811:YS Y)(l:List Nd)  (hp0:kQ l/\l.length<=15):dX Y Ss (.str (tu l)) [.sl 5 (l.map Nd.D)]:=by
 show cg _ _ _ [⟨_,_⟩,_,_] _;refine ay ?_;refine aQ ?_;intro u0;refine aD ?_;refine di (fun hc0=>?_) fun hc0=>?_
 .refine aU ?_;refine du ?_;simp only[tu];rw[aC ae]
 refine aU ?_;intro u1;refine aE ?_;refine au (hc:=h811 l ((l.length:Int) -1) ⟨hp0.1,hp0.2,ae,ae⟩) ?_;refine aF ?_;refine du ?_;simp only[tu];rw[ar ae]
noncomputable def MJ:aN:=dy 225
def w954 {Y:Ctx}(hm:(Y.at 0).cP)(h1036:KV Y)(l:List Nd)  (hp0:kQ l/\l.length<=15):dX Y MJ (.str (tu l)) [.sl 5 (l.map Nd.D)]:=by
 show cg _ _ _ [⟨_,_⟩,_,_] _;refine ay ?_;refine aQ ?_;intro u0;refine aD ?_;refine di (fun hc0=>?_) fun hc0=>?_
 .refine aU ?_;refine du ?_;simp only[tu];rw[aC ae]
 refine aU ?_;intro u1;refine aE ?_;refine au (hc:=h1036 l ((l.length:Int) -1) ⟨hp0.1,hp0.2,ae,ae⟩) ?_;refine aF ?_;refine du ?_;simp only[tu];rw[ar ae]
noncomputable def aat:aN:=dy 153
def w661 {Y:Ctx}(hm:(Y.at 0).cP)(h662:VF Y)(h810:YR Y)(m:Mrk)   :dX Y aat (.bool (Fs m)) [mU m]:=by
 show cg _ _ _ [⟨_,_⟩,_,_] _;refine ay ?_;refine aQ ?_;refine au (hc:=h810 m) ?_;refine aF ?_;refine eD (hc:=fun hf=>h662 m (by simp only[bM,beq_iff_eq,bh,cj]at hf;exact⟨tt hf.2,ae⟩)) ?_;refine gN ?_;refine aU ?_;refine cd ?_;simp only[Fs];congr 1;exact jO.2 ae
noncomputable def Xd:aN:=dy 224
def w953 {Y:Ctx}(hm:(Y.at 0).cP)(h954:VT Y)(h1035:KU Y)(m:Mrk)   :dX Y Xd (.bool (Fs m)) [mU m]:=by
 show cg _ _ _ [⟨_,_⟩,_,_] _;refine ay ?_;refine bw ?_;intro u0;refine aK ?_;refine eD (hc:=fun hf=>h1035 m (by simp at hf;omega)) ?_;refine aK ?_;refine eD (hc:=fun hf=>h954 m (by simp only[bM,beq_iff_eq,bh,cj]at hf;exact⟨tt hf.2,ae⟩)) ?_;refine gN ?_;refine aU ?_;refine cd ?_;simp only[Fs];rw[jO.2 (show((m.length:Nat):Int)<=15↔m.length<=15 by omega)];congr 1;exact jO.2 ae
noncomputable def Sr:aN:=dy 96
def w446 {Y:Ctx}(hm:(Y.at 0).cP)(h661:VE Y)(h662:VF Y)(m:Mrk)   :dX Y Sr (.str (prN m)) [mU m]:=by
 show cg _ _ _ [⟨_,_⟩,_,_,_] _;refine ay ?_;refine aQ ?_;refine au (hc:=h661 m) ?_;refine aD ?_;refine az (fun hc0=>?_) (fun hc0=>?_)
 .simp only[bE]at hc0;refine aU ?_;refine du ?_;simp[prN,hc0]
 simp only[cq]at hc0;have hfw:(decide (m.length<=15)&&ri m)=true:=by simp only[Fs,bM]at hc0;simp only[bM];exact hc0.1
 simp only[bM,bh]at hfw;refine aK ?_;refine au (hc:=h662 m ⟨tt hfw.2,hfw.1⟩) ?_;refine aF ?_;refine du ?_;simp[prN,hc0]
noncomputable def MI:aN:=dy 200
def w814 {Y:Ctx}(hm:(Y.at 0).cP)(h953:VR Y)(h954:VT Y)(m:Mrk)   :dX Y MI (.str (prN m)) [mU m]:=by
 show cg _ _ _ [⟨_,_⟩,_,_,_] _;refine ay ?_;refine aQ ?_;refine au (hc:=h953 m) ?_;refine aD ?_;refine az (fun hc0=>?_) (fun hc0=>?_)
 .simp only[bE]at hc0;refine aU ?_;refine du ?_;simp[prN,hc0]
 simp only[cq]at hc0;have hfw:(decide (m.length<=15)&&ri m)=true:=by simp only[Fs,bM]at hc0;simp only[bM];exact hc0.1
 simp only[bM,bh]at hfw;refine aK ?_;refine au (hc:=h954 m ⟨tt hfw.2,hfw.1⟩) ?_;refine aF ?_;refine du ?_;simp[prN,hc0]
noncomputable def mq:aN:=dy 73
def w490 {Y:Ctx}(hm:(Y.at 3).cP)(r:Rec)(ps:List dH)(hs:List bV)(a:av)(b:av)(h491:Yz (Y.at 3))(hp0:ps.length<=100000/\b.length<=1048576):cg (Y.at 3) mq.body (kJ mq (Zp r (ps++[⟨a,b⟩],hs) (decide (hs.length=0)&& !b.contains 32)):Ex->List cA->St->Prop) (gz mq [.str a,.str b,.fn 3000000 [.ptr 0 11 0 0]]) ⟨3,[(0,.buf 11 [gB r (.own 1 2 0 ps.length) (.own 2 2 0 hs.length)]),(1,.buf 2 (ps.map dH.D)),(2,.buf 2 (hs.map bV.D))]⟩:=by
 show cg _ _ _ [⟨true,.str a⟩,⟨true,.str b⟩,⟨true,.fn 3000000 [.ptr 0 11 0 0]⟩,.un] ⟨3,[(0,.buf 11 [gB r (.own 1 2 0 ps.length) (.own 2 2 0 hs.length)]),(1,.buf 2 (ps.map dH.D)),(2,.buf 2 (hs.map bV.D))]⟩;refine ay ?_;refine aF ?_;refine abf ?_;refine SJ ?_;refine aD ?_;refine aV (v:=(.own 1 2 0 ps.length)) ?_;refine aD ?_;refine bj (dH.D ⟨a,b⟩) ?_;refine dq [dH.D ⟨a,b⟩] ?_;refine iG (q:=dH.D) (xs:=ps) (e:=⟨a,b⟩) (hb:=ae) ?_;refine aD ?_;refine aR (gB r (.own 13 2 0 (ps++[(⟨a,b⟩:dH)]).length) (.own 2 2 0 hs.length)) (he:=aW) ?_;refine aD ?_;refine SJ ?_;refine aD ?_;refine aV (v:=(.own 2 2 0 hs.length)) ?_;refine aE ?_;intro u0;refine aF ?_;refine eD (hc:=fun hf=>h491 b 32 hp0.2) ?_;refine aU ?_;refine ch trivial eP (cn ah (ak D.bool ?_)) ah ⟨rfl,13,2,aG,aW,aW,aW⟩;simp
noncomputable def mr:aN:=dy 75
def w492 {Y:Ctx}(hm:(Y.at 3).cP)(r:Rec)(ps:List dH)(hs:List bV)(a:av)(b:av)  (hp0:hs.length<=100000/\b.length<=1048576):cg (Y.at 3) mr.body (kJ mr (Zp r (ps,hs++[⟨a,b⟩]) (true)):Ex->List cA->St->Prop) (gz mr [.str a,.str b,.fn 3000000 [.ptr 0 11 0 0]]) ⟨3,[(0,.buf 11 [gB r (.own 1 2 0 ps.length) (.own 2 2 0 hs.length)]),(1,.buf 2 (ps.map dH.D)),(2,.buf 2 (hs.map bV.D))]⟩:=by
 show cg _ _ _ [⟨true,.str a⟩,⟨true,.str b⟩,⟨true,.fn 3000000 [.ptr 0 11 0 0]⟩,.un] ⟨3,[(0,.buf 11 [gB r (.own 1 2 0 ps.length) (.own 2 2 0 hs.length)]),(1,.buf 2 (ps.map dH.D)),(2,.buf 2 (hs.map bV.D))]⟩;refine ay ?_;refine aF ?_;refine abf ?_;refine SJ ?_;refine aD ?_;refine aV (v:=(.own 2 2 0 hs.length)) ?_;refine aD ?_;refine bj (bV.D ⟨a,b⟩) ?_;refine dq [bV.D ⟨a,b⟩] ?_;refine iG (q:=bV.D) (xs:=hs) (e:=⟨a,b⟩) (hb:=ae) ?_;refine aD ?_;refine aR (gB r (.own 1 2 0 ps.length) (.own 13 2 0 (hs++[(⟨a,b⟩:bV)]).length)) (he:=aW) ?_;refine aU ?_;refine ch trivial eP (cn ah (ak D.bool ?_)) ah ⟨rfl,1,13,aG,aW,aW,aW⟩;rfl
noncomputable def He:aN:=dy 94
def w444 {Y:Ctx}(hm:(Y.at 0).cP)(h495:VC Y)(h496:VD Y)(s:av)  (hp0:s.length<=1048576):dX Y He (.bool (kC s)) [.str s]:=by
 show cg _ _ _ [⟨_,_⟩,_,_,_] _;refine ay ?_;refine aK ?_;refine au (hc:=h495 s hp0) ?_;refine aE ?_;refine fJ (iN _) ?_;refine aD ?_;refine aR (iN (iS s).1) (he:=aW) ?_;refine aQ ?_;refine cO (d:=iN (iS s).1) ?_;refine eD (hc:=fun hf=>h496 (iS s).1 J7.1) ?_;refine aQ ?_;exact cd rfl
end Go.Abs
