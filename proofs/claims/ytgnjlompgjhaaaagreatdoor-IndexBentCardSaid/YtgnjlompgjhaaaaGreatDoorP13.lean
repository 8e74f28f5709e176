/- A part of the proofs. -/
import Derived.Test.YtgnjlompgjhaaaaGreatDoorP08
set_option linter.all false
set_option maxRecDepth 60000
set_option maxHeartbeats 2000000
namespace Go.Abs
variable {Y:Ctx}(hm:(Y.at 0).b8)
noncomputable def mB:aC:=cR 281
def w1097 {Y:Ctx}(hm:(Y.at 2).b8)(W:List au)(w:List au)(nd:List Nd)(h952:WR (Y.at 2) (6*w.length))(h1033:Ge (Y.at 2))(h1034:CW (Y.at 2))(h1097:I7 (Y.at 2) (6*w.length))(h1126:QL (Y.at 2))(hp0:w<:+W/\W.length<=1000)(hp1:nd.length+2*w.length<=1000):bK (Y.at 2) mB.body (j5 mB (yE 4 (jn W) (eC (kn w nd) w nd) Va):Ex->List ch->St->Prop) (fF mB [.ptr 0 4 0 0]) ⟨2,[(0,.buf 4 [jn W w (.own 1 5 0 nd.length) false]),(1,.buf 5 (nd.map Nd.D))]⟩:=by
 show bK _ _ _ [⟨true,.ptr 0 4 0 0⟩,.un,.un,.un,.un,.un,.un,.un] ⟨2,[(0,.buf 4 [jn W w (.own 1 5 0 nd.length) false]),(1,.buf 5 (nd.map Nd.D))]⟩;refine ar ?_;refine c7 ?_;refine av (fun hc0=>?_) (fun hc0=>?_)
 .skip
  exact absurd hc0 aF
 skip
 refine aB ?_;refine cy (nx':=7) (v:=.bool (gZ w rb)) (m':=[(0,.buf 4 [jn W (pk w rb) (.own 1 5 0 nd.length) false]),(1,.buf 5 (nd.map Nd.D))]) (hc:=fun K' hK=>h1033 rb W w nd false hp0 _ 0 1 _ K' ah ah cd cd (fun o ho=>by subst ho;exact hK)) (hn:=aF) ?_;refine aA ?_;refine av (fun hc1=>?_) (fun hc1=>?_)
 .obtain⟨r,rfl⟩:=oc hc1;rw[mr];have hsr:r<:+W/\W.length<=1000:=⟨(List.suffix_cons _ r).trans hp0.1,hp0.2⟩;simp only[aP]at hp1;refine ay ?_;refine gR (eC (kn r nd) r nd) Va 10 (fun o=>[(10,.buf 5 (o.nd.map Nd.D)),(0,.buf 4 [jn W o.w (.own 10 5 0 o.nd.length) o.bad])]) (fun o1 ho1=>?_) (hc:=fun K' hK=>h1097 W r nd hsr ae (by simp only[aP];omega) _ 0 1 _ K' ah ah cd cd (fun o ho=>hK o ho)) (hn:=aF);have hl3:=ho1.2.2.1;have hl4:=ho1.2.1;refine aD ?_;refine bg (Nd.D (⟨2,o1.a,0,0,[]⟩:Nd)) ?_;refine cy (nx':=14) (v:=.int .i64 (o1.nd.length:Nat)) (m':=[(16,.buf 5 ((o1.nd++[(⟨2,o1.a,0,0,[]⟩:Nd)]).map Nd.D)),(0,.buf 4 [jn W o1.w (.own 16 5 0 (o1.nd++[(⟨2,o1.a,0,0,[]⟩:Nd)]).length) o1.bad])]) (hc:=fun K' hK=>h1034 (⟨2,o1.a,0,0,[]⟩:Nd) W o1.w o1.nd o1.bad ae _ 0 10 _ K' ah ah cd cd (fun o ho=>by subst ho;exact hK)) (hn:=aF) ?_;refine ay ?_;refine bP trivial eh (bS ah (aj (D.int .i64) ?_)) ah ⟨⟨(o1.nd.length:Nat),o1.w,o1.nd++[(⟨2,o1.a,0,0,[]⟩:Nd)],o1.bad⟩,16,aF,L4 ho1,rfl,rfl,rfl⟩;rfl
 have hn1:gZ w rb=false:=hc1;rw[p9 hn1];refine aB ?_;refine cy (nx':=9) (v:=.bool (gZ w ij)) (m':=[(0,.buf 4 [jn W (pk w ij) (.own 1 5 0 nd.length) false]),(1,.buf 5 (nd.map Nd.D))]) (hc:=fun K' hK=>h1033 ij W w nd false hp0 _ 0 1 _ K' ah ah cd cd (fun o ho=>by subst ho;exact hK)) (hn:=aF) ?_;refine aA ?_;refine av (fun hc2=>?_) (fun hc2=>?_)
 .obtain⟨r,rfl⟩:=oc hc2;rw[mr];have hsr:r<:+W/\W.length<=1000:=⟨(List.suffix_cons _ r).trans hp0.1,hp0.2⟩;simp only[aP]at hp1;refine ay ?_;refine gR (eC (jf r nd) r nd) Va 12 (fun o=>[(12,.buf 5 (o.nd.map Nd.D)),(0,.buf 4 [jn W o.w (.own 12 5 0 o.nd.length) o.bad])]) (fun o1 ho1=>?_) (hc:=fun K' hK=>h952 W r nd hsr ae (by simp only[aP];omega) _ 0 1 _ K' ah ah cd cd (fun o ho=>hK o ho)) (hn:=aF);refine aD ?_;refine cy (nx':=15) (v:=.bool (gZ o1.w lJ)) (m':=[(12,.buf 5 (o1.nd.map Nd.D)),(0,.buf 4 [jn W (pk o1.w lJ) (.own 12 5 0 o1.nd.length) o1.bad])]) (hc:=fun K' hK=>h1033 lJ W o1.w o1.nd o1.bad ⟨ho1.2.xK hsr.1,hp0.2⟩ _ 0 12 _ K' ah ah cd cd (fun o ho=>by subst ho;exact hK)) (hn:=aF) ?_;refine ax ?_;refine av (fun hc3=>?_) (fun hc3=>?_)
  .simp only[bd]at hc3;rw[p9 hc3];refine aB ?_;refine aI (jn W o1.w (.own 12 5 0 o1.nd.length) true) (he:=aQ) ?_;refine aZ ?_;refine bP trivial eh (bS ah (aj (D.int .i64) ?_)) ah ⟨⟨o1.a,o1.w,o1.nd,true⟩,12,aF,Fk ho1 hc3,rfl,rfl,rfl⟩;rfl
  simp only[bM]at hc3;obtain⟨q,hq⟩:=oc hc3;rw[show pk o1.w lJ=q by rw[hq,mr]];refine aZ ?_;refine bP trivial eh (bS ah (aj (D.int .i64) ?_)) ah ⟨⟨o1.a,q,o1.nd,o1.bad⟩,12,aF,Pz ho1 hq,rfl,rfl,rfl⟩;rfl
 have hn2:gZ w ij=false:=hc2;rw[p9 hn2];refine ay ?_;refine gR (eC (AI w nd) w nd) Va 12 (fun o=>[(12,.buf 5 (o.nd.map Nd.D)),(0,.buf 4 [jn W o.w (.own 12 5 0 o.nd.length) o.bad])]) (fun o1 ho1=>?_) (hc:=fun K' hK=>h1126 W w nd hp0 hp1 _ 0 1 _ K' ah ah cd cd (fun o ho=>hK o ho)) (hn:=aF);rw[<-Y0 hn1 hn2]at ho1;refine ay ?_;refine bP trivial eh (bS ah (aj (D.int .i64) ?_)) ah ⟨o1,12,aF,ho1,rfl,rfl,rfl⟩;rfl
noncomputable def lA:aC:=cR 266
def w1032 {Y:Ctx}(hm:(Y.at 2).b8)(W:List au)(w:List au)(nd:List Nd)(h1033:Ge (Y.at 2))(h1034:CW (Y.at 2))(h1097:I7 (Y.at 2) (6*w.length+1))(hp0:w<:+W/\W.length<=1000)(hp1:nd.length+2*w.length<=1000):bK (Y.at 2) lA.body (j5 lA (yE 4 (jn W) (eC (kZ w nd) w nd) Va):Ex->List ch->St->Prop) (fF lA [.ptr 0 4 0 0]) ⟨2,[(0,.buf 4 [jn W w (.own 1 5 0 nd.length) false]),(1,.buf 5 (nd.map Nd.D))]⟩:=by
 show bK _ _ _ [⟨true,.ptr 0 4 0 0⟩,.un,.un,.un,.un] ⟨2,[(0,.buf 4 [jn W w (.own 1 5 0 nd.length) false]),(1,.buf 5 (nd.map Nd.D))]⟩;have hgo:vn kn:=wM;have hun:kZ w nd=iZ kn lW 3 w nd:=rfl;refine ar ?_;refine aB ?_;refine gR (eC (kn w nd) w nd) Va 4 (fun o=>[(4,.buf 5 (o.nd.map Nd.D)),(0,.buf 4 [jn W o.w (.own 4 5 0 o.nd.length) o.bad])]) (fun o0 ho0=>?_) (hc:=fun K' hK=>h1097 W w nd hp0 hp1 ae _ 0 1 _ K' ah ah cd cd (fun o ho=>hK o ho)) (hn:=aF);refine ax ?_;refine ba hm (ι:=PO) (fun o=>[⟨true,.ptr 0 4 0 0⟩,.un,.un,⟨true,.int .i64 o.a⟩,.un]) (fun o=>[(0,.buf 4 [jn W o.w (.own 2 5 0 o.nd.length) o.bad]),(2,.buf 5 (o.nd.map Nd.D))]) 7 (fun o=>I2 kn lW 3 (kZ w nd) w nd o) (fun o=>o.w.length) o0 (I2.first ho0) (a7.to [(4,2)] ah ah ei (by refine eN ?_;refine bo.nl 4 ah ah ah eL ?_;exact bo.nil)) ?_;rintro⟨a,w1,nd1,bad⟩ hI;dsimp only;have hpb:=hI.2;have hl1:=hpb.1;have hl2:=hpb.2.1;dsimp only at hl1 hl2;have hsw:w1<:+W/\W.length<=1000:=⟨hpb.xK hp0.1,hp0.2⟩;refine ax ?_;cases bad
 .refine aZ ?_;refine xx (ι:=PO) (apT:=[.ptr 0 4 0 0,.str lW]) (fun o=>o=⟨0,pk w1 lW,nd1,false⟩) (fun _=>.bool (gZ w1 lW)) 7 (fun o=>[(0,.buf 4 [jn W o.w (.own 2 5 0 nd1.length) o.bad]),(2,.buf 5 (nd1.map Nd.D))]) (fun o2 ho2=>?_) (hc:=fun K' hK=>h1033 lW W w1 nd1 false hsw _ 0 2 _ K' ah ah cd cd (fun o ho=>hK o ho)) (hn:=aF);subst ho2;dsimp only;refine ax ?_;refine av (fun hc0=>?_) (fun hc0=>?_)
  .obtain⟨r,rfl⟩:=oc (s:=lW) hc0;rw[mr];have hsr:r<:+W/\W.length<=1000:=⟨(List.suffix_cons _ r).trans hsw.1,hp0.2⟩;simp only[aP]at hl1 hl2;refine aB ?_;refine gR (eC (kn r nd1) r nd1) Va 17 (fun o=>[(17,.buf 5 (o.nd.map Nd.D)),(0,.buf 4 [jn W o.w (.own 17 5 0 o.nd.length) o.bad])]) (fun o2 ho2=>?_) (hc:=fun K' hK=>h1097 W r nd1 hsr ae ae _ 0 2 _ K' ah ah cd cd (fun o ho=>hK o ho)) (hn:=aF);have hl3:=ho2.2.2.1;have hl4:=ho2.2.1;refine aD ?_;refine bg (Nd.D (⟨3,a,o2.a,0,[]⟩:Nd)) ?_;refine cy (nx':=21) (v:=.int .i64 (o2.nd.length:Nat)) (m':=[(24,.buf 5 ((o2.nd++[(⟨3,a,o2.a,0,[]⟩:Nd)]).map Nd.D)),(0,.buf 4 [jn W o2.w (.own 24 5 0 (o2.nd++[(⟨3,a,o2.a,0,[]⟩:Nd)]).length) o2.bad])]) (hc:=fun K' hK=>h1034 (⟨3,a,o2.a,0,[]⟩:Nd) W o2.w o2.nd o2.bad ae _ 0 17 _ K' ah ah cd cd (fun o ho=>by subst ho;exact hK)) (hn:=aF) ?_;refine aB ?_;exact⟨⟨(o2.nd.length:Nat),o2.w,o2.nd++[(⟨3,a,o2.a,0,[]⟩:Nd)],o2.bad⟩,I2.next hgo hI ho2,by dsimp only;simp only[aP];omega,(a7.to [(24,2)] ah ah ei (by refine eN ?_;refine bo.nl 24 ah ah ah eL ?_;exact bo.nil))⟩
  have hnb:gZ w1 lW=false:=hc0;rw[p9 hnb];have hx:false=true\/w1.head? ≠some lW:=.inr (Bg hnb);refine aZ ?_;refine bP trivial eh (bS ah (aj (D.int .i64) ?_)) ah ⟨⟨a,w1,nd1,false⟩,2,aF,hI.last hx,rfl,rfl,rfl⟩;rfl
 .refine aZ ?_;refine Fq ?_;refine Tf (t:=false) ?_;refine aA ?_;refine av (fun hc0=>?_) (fun hc0=>?_)
  .skip
   exact absurd hc0 aF
  have hx:true=true\/w1.head? ≠some lW:=.inl rfl;refine aZ ?_;refine bP trivial eh (bS ah (aj (D.int .i64) ?_)) ah ⟨⟨a,w1,nd1,true⟩,2,aF,hI.last hx,rfl,rfl,rfl⟩;rfl
noncomputable def jW:aC:=cR 246
def w952 {Y:Ctx}(hm:(Y.at 2).b8)(W:List au)(w:List au)(nd:List Nd)(h1032:QI (Y.at 2) (6*w.length+2))(h1033:Ge (Y.at 2))(h1034:CW (Y.at 2))(hp0:w<:+W/\W.length<=1000)(hp1:nd.length+2*w.length<=1000):bK (Y.at 2) jW.body (j5 jW (yE 4 (jn W) (eC (jf w nd) w nd) Va):Ex->List ch->St->Prop) (fF jW [.ptr 0 4 0 0]) ⟨2,[(0,.buf 4 [jn W w (.own 1 5 0 nd.length) false]),(1,.buf 5 (nd.map Nd.D))]⟩:=by
 show bK _ _ _ [⟨true,.ptr 0 4 0 0⟩,.un,.un,.un,.un] ⟨2,[(0,.buf 4 [jn W w (.own 1 5 0 nd.length) false]),(1,.buf 5 (nd.map Nd.D))]⟩;have hgo:vn kZ:=Az;have hun:jf w nd=iZ kZ rv 4 w nd:=rfl;refine ar ?_;refine aB ?_;refine gR (eC (kZ w nd) w nd) Va 4 (fun o=>[(4,.buf 5 (o.nd.map Nd.D)),(0,.buf 4 [jn W o.w (.own 4 5 0 o.nd.length) o.bad])]) (fun o0 ho0=>?_) (hc:=fun K' hK=>h1032 W w nd hp0 hp1 ae _ 0 1 _ K' ah ah cd cd (fun o ho=>hK o ho)) (hn:=aF);refine ax ?_;refine ba hm (ι:=PO) (fun o=>[⟨true,.ptr 0 4 0 0⟩,.un,.un,⟨true,.int .i64 o.a⟩,.un]) (fun o=>[(0,.buf 4 [jn W o.w (.own 2 5 0 o.nd.length) o.bad]),(2,.buf 5 (o.nd.map Nd.D))]) 7 (fun o=>I2 kZ rv 4 (jf w nd) w nd o) (fun o=>o.w.length) o0 (I2.first ho0) (a7.to [(4,2)] ah ah ei (by refine eN ?_;refine bo.nl 4 ah ah ah eL ?_;exact bo.nil)) ?_;rintro⟨a,w1,nd1,bad⟩ hI;dsimp only;have hpb:=hI.2;have hl1:=hpb.1;have hl2:=hpb.2.1;dsimp only at hl1 hl2;have hsw:w1<:+W/\W.length<=1000:=⟨hpb.xK hp0.1,hp0.2⟩;refine ax ?_;cases bad
 .refine aZ ?_;refine xx (ι:=PO) (apT:=[.ptr 0 4 0 0,.str rv]) (fun o=>o=⟨0,pk w1 rv,nd1,false⟩) (fun _=>.bool (gZ w1 rv)) 7 (fun o=>[(0,.buf 4 [jn W o.w (.own 2 5 0 nd1.length) o.bad]),(2,.buf 5 (nd1.map Nd.D))]) (fun o2 ho2=>?_) (hc:=fun K' hK=>h1033 rv W w1 nd1 false hsw _ 0 2 _ K' ah ah cd cd (fun o ho=>hK o ho)) (hn:=aF);subst ho2;dsimp only;refine ax ?_;refine av (fun hc0=>?_) (fun hc0=>?_)
  .obtain⟨r,rfl⟩:=oc (s:=rv) hc0;rw[mr];have hsr:r<:+W/\W.length<=1000:=⟨(List.suffix_cons _ r).trans hsw.1,hp0.2⟩;simp only[aP]at hl1 hl2;refine aB ?_;refine gR (eC (kZ r nd1) r nd1) Va 17 (fun o=>[(17,.buf 5 (o.nd.map Nd.D)),(0,.buf 4 [jn W o.w (.own 17 5 0 o.nd.length) o.bad])]) (fun o2 ho2=>?_) (hc:=fun K' hK=>h1032 W r nd1 hsr ae ae _ 0 2 _ K' ah ah cd cd (fun o ho=>hK o ho)) (hn:=aF);have hl3:=ho2.2.2.1;have hl4:=ho2.2.1;refine aD ?_;refine bg (Nd.D (⟨4,a,o2.a,0,[]⟩:Nd)) ?_;refine cy (nx':=21) (v:=.int .i64 (o2.nd.length:Nat)) (m':=[(24,.buf 5 ((o2.nd++[(⟨4,a,o2.a,0,[]⟩:Nd)]).map Nd.D)),(0,.buf 4 [jn W o2.w (.own 24 5 0 (o2.nd++[(⟨4,a,o2.a,0,[]⟩:Nd)]).length) o2.bad])]) (hc:=fun K' hK=>h1034 (⟨4,a,o2.a,0,[]⟩:Nd) W o2.w o2.nd o2.bad ae _ 0 17 _ K' ah ah cd cd (fun o ho=>by subst ho;exact hK)) (hn:=aF) ?_;refine aB ?_;exact⟨⟨(o2.nd.length:Nat),o2.w,o2.nd++[(⟨4,a,o2.a,0,[]⟩:Nd)],o2.bad⟩,I2.next hgo hI ho2,by dsimp only;simp only[aP];omega,(a7.to [(24,2)] ah ah ei (by refine eN ?_;refine bo.nl 24 ah ah ah eL ?_;exact bo.nil))⟩
  have hnb:gZ w1 rv=false:=hc0;rw[p9 hnb];have hx:false=true\/w1.head? ≠some rv:=.inr (Bg hnb);refine aZ ?_;refine bP trivial eh (bS ah (aj (D.int .i64) ?_)) ah ⟨⟨a,w1,nd1,false⟩,2,aF,hI.last hx,rfl,rfl,rfl⟩;rfl
 .refine aZ ?_;refine Fq ?_;refine Tf (t:=false) ?_;refine aA ?_;refine av (fun hc0=>?_) (fun hc0=>?_)
  .skip
   exact absurd hc0 aF
  have hx:true=true\/w1.head? ≠some rv:=.inl rfl;refine aZ ?_;refine bP trivial eh (bS ah (aj (D.int .i64) ?_)) ah ⟨⟨a,w1,nd1,true⟩,2,aF,hI.last hx,rfl,rfl,rfl⟩;rfl
noncomputable def Ie:aC:=cR 177
def w495 (h124:N4 Y)(h682:C682 Y)(h683:C683 Y)(h684:UG Y)(h685:C685 Y)(h9124:WN Y)(s:au)  (hp0:s.length<=1048576):di Y Ie (.tup [iJ (iR s).1,.int .i64 (iR s).2]) [.str s]:=by
 show bK _ _ _ [⟨_,_⟩,_,_,_,_,_,_,_,_,_,_,_,_,_,_,_,_,_,_,_,_,_] _;have hdl:=oR s [];have hgl:∀i,i<(aR s []).length->(aR s [])[i]!.length<=s.length:=fun i hi=>by
  have:=hdl.2 _ (bF hi);simpa using this
 refine ar ?_;refine aZ ?_;intro u0;refine ax ?_;refine cG (fun hc0=>?_) fun hc0=>?_
 .refine ax ?_;refine df [.bq] ?_;refine aI (.agg [.bq]) (he:=aQ) ?_;refine ay ?_;refine bG (aH ?_ (aj (D.int .i64) ?_));all_goals
   have hq:iR s=([],3):=by
    unfold iR;rw[aw ae]
   rw[hq];first|done|rfl
 refine aZ ?_;refine aq (hc:=h9124 s ae) ?_;refine aA ?_;intro u1;refine ax ?_;refine ba hm (ι:=Nat) (fun i=>[.un,⟨true,.ptr 0 1 0 0⟩,.un,.un,⟨true,.int .i64 (i:Nat)⟩,⟨true,.int .i64 ((aR s []).length:Nat)⟩,.un,⟨true,.sl 1 ((aR s []).map D.str)⟩,.un,.un,.un,.un,.un,.un,.un,.un,.un,.un,⟨true,.ptr 5 1 0 0⟩,.un,.un,.un]) (fun i=>[(0,.buf 1 [.agg [.bq]]),(5,.buf 1 [.agg [.own 1 1 0 ((iS s).take i).length]]),(1,.buf 1 (((iS s).take i).map rz))]) 10 (fun i=>i<=(aR s []).length/\BX s=cS (fun i=>wOK (aR s [])[i]!) i (aR s []).length) (fun i=>(aR s []).length-i) 0 ⟨ae,rfl⟩ (a7.to [(0,0),(5,5)] ah ah ei (by refine eN ?_;refine bo.ni 5 ah ah (by exact⟨_,_,rfl,⟨_,rfl,⟨_,_,rfl,Or.inr ⟨_,_,_,rfl⟩,rfl⟩⟩,rfl⟩) ?_;refine bo.mt ah ah ah ah ?_;exact bo.nil)) ?_;rintro i ⟨hi,hr⟩;have hrt:((iS s).take i).length<=i:=by rw[eu];omega
 refine ay ?_;refine cG (fun hc1=>?_) fun hc1=>?_
 .refine gD ?_;have hgi:=hgl i ae;have hsl:=dm (aR s [])[i]! 44;have hsp:1<=(ai (aR s [])[i]! 44).length:=er _ _ _;refine aA ?_;refine aq (v:=.sl 1 ((ai (aR s [])[i]! 44).map D.str)) (hc:=h124 (aR s [])[i]! 44 ae) ?_;refine aA ?_;intro u2;refine ax ?_;refine ba hm (ι:=Nat) (fun k=>[.un,⟨true,.ptr 0 1 0 0⟩,.un,.un,⟨true,.int .i64 (i:Nat)⟩,⟨true,.int .i64 ((aR s []).length:Nat)⟩,.un,⟨true,.sl 1 ((aR s []).map D.str)⟩,.un,⟨true,.int .i64 (k:Nat)⟩,⟨true,.int .i64 ((ai (aR s [])[i]! 44).length:Nat)⟩,.un,⟨true,.sl 1 ((ai (aR s [])[i]! 44).map D.str)⟩,.un,.un,.un,⟨true,.own 2 7 0 ((nq (aR s [])[i]!).take k).length⟩,.un,⟨true,.ptr 5 1 0 0⟩,.un,.un,.un]) (fun k=>[(0,.buf 1 [.agg [.bq]]),(5,.buf 1 [.agg [.own 1 1 0 ((iS s).take i).length]]),(1,.buf 1 (((iS s).take i).map rz)),(2,.buf 7 (((nq (aR s [])[i]!).take k).map dI.D))]) 19 (fun k=>k<=(ai (aR s [])[i]! 44).length/\wOK (aR s [])[i]! =cS (fun k=>(eP (eO (ai (aR s [])[i]! 44)[k]!)).isSome) k (ai (aR s [])[i]! 44).length) (fun k=>(ai (aR s [])[i]! 44).length-k) 0 ⟨ae,rfl⟩ (a7.to [(0,0),(5,5),(1,1)] ah ah (by repeat(first|exact dr.nil|refine dr.un ?_|refine dr.eq ah ?_|refine dr.nl ah ah ?_|refine dr.ni (Or.inr ⟨_,_,_,rfl⟩) ?_)) (by refine eN ?_;refine eN ?_;refine eN ?_;refine bo.mt ah ah ah ah ?_;exact bo.nil)) ?_;rintro k ⟨hk,hwk⟩;have htk:((nq (aR s [])[i]!).take k).length<=k:=by rw[eu];omega
  refine ay ?_;refine cG (fun hc2=>?_) fun hc2=>?_
  .refine bN ?_;have hwl:=qO (aR s [])[i]! 44 (show k<(ai (aR s [])[i]! 44).length by omega);have hbl:=wA (ai (aR s [])[i]! 44)[k]!;refine aA ?_;refine aq (hc:=h683 (ai (aR s [])[i]! 44)[k]! 32 rfl ae) ?_;refine aq (v:=.tup [dI.D ((eP (eO (ai (aR s [])[i]! 44)[k]!)).getD eQ),.int .i64 (if(eP (eO (ai (aR s [])[i]! 44)[k]!)).isSome=true then 0 else 6)]) (hc:=by rw[<-Rp];exact h682 (eO (ai (aR s [])[i]! 44)[k]!) ae) ?_;refine aA ?_;refine eZ (dI.D _) ?_;refine ax ?_;refine aI (dI.D ((eP (eO (ai (aR s [])[i]! 44)[k]!)).getD eQ)) (he:=aQ) ?_;refine aZ ?_;refine av (fun hc3=>?_) (fun hc3=>?_)
   .have hsm:(eP (eO (ai (aR s [])[i]! 44)[k]!)).isSome=false:=by cases hx:(eP (eO (ai (aR s [])[i]! 44)[k]!)).isSome with|false=>rfl|true=>rw[hx]at hc3;exact absurd hc3 aF
    refine ax ?_;refine df [.bq] ?_;refine aI (.agg [.bq]) (he:=aQ) ?_;refine aZ ?_;refine bG (aH ?_ (aj (D.int .i64) ?_));all_goals
     have hq:iR s=([],6):=by
      have hno:BX s=false:=by rw[hr,aU ae,hwk,aU ae,hsm];rfl
      unfold iR;rw[ak ae,aw hno]
     rw[hq];first|done|rfl
   have hsm:(eP (eO (ai (aR s [])[i]! 44)[k]!)).isSome=true:=by cases hx:(eP (eO (ai (aR s [])[i]! 44)[k]!)).isSome with|true=>rfl|false=>rw[hx]at hc3;exact absurd hc3 aF
   refine ay ?_;refine cA (d:=dI.D ((eP (eO (ai (aR s [])[i]! 44)[k]!)).getD eQ)) ?_;refine dh [(dI.D _)] ?_;refine c7 ?_;have hq:=iY (fun x=>(eP (eO x)).getD eQ) (ai (aR s [])[i]! 44) (show k<(ai (aR s [])[i]! 44).length by omega);rw[show(fun x=>(eP (eO x)).getD eQ)=fun x=>(eP (eO x)).getD eQ from rfl]at hq;have hq:(nq (aR s [])[i]!).take (k+1)=_:=hq;rw[show(nq (aR s [])[i]!).take k++[(eP (eO (ai (aR s [])[i]! 44)[k]!)).getD eQ]=(nq (aR s [])[i]!).take (k+1)from hq.symm];exact⟨k+1,⟨ae,by rw[hwk,aU ae,hsm];rfl⟩,ae,(a7.to [(0,0),(5,5),(1,1),(37,2)] ah ah ei (by refine eN ?_;refine eN ?_;refine eN ?_;refine bo.nl 37 ah ah ah eL ?_;exact bo.nil))⟩
  refine ax ?_;refine eI 2 ?_ (he:=by simp only[lf,iL,iV,lQ,nk,cJ,Nat.reduceEqDiff,aW,aX,cO,ct,cu,cT,cX,bR,bO,aL,bZ,aN,reduceCtorEq,aP,a8,Nat.reduceAdd,Nat.reduceLeDiff,pg];exact rfl) (hm:=by simp only[lf,iL,iV,lQ,nk,cJ,Nat.reduceEqDiff,aW,aX,cO,ct,cu,cT,cX,bR,bO,aL,bZ,aN,reduceCtorEq,aP,a8,Nat.reduceAdd,Nat.reduceLeDiff,pg];exact rfl);refine aA ?_;obtain rfl:k=(ai (aR s [])[i]! 44).length:=ae;rw[ee (show(nq (aR s [])[i]!).length<=(ai (aR s [])[i]! 44).length by simp[nq])];refine aA ?_;refine aT (v:=.own _ _ _ _) ?_;refine aA ?_;refine dh [rz (nq (aR s [])[i]!)] ?_;refine ax ?_;refine aI (.agg [.own 24 1 0 ((iS s).take i++[nq (aR s [])[i]!]).length]) (he:=aQ) ?_;refine aZ ?_;have hq:(iS s).take (i+1)=(iS s).take i++[nq (aR s [])[i]!]:=iY nq (aR s []) (show i<(aR s []).length by omega);rw[<-hq];exact⟨i+1,⟨ae,by rw[hr,aU ae,hwk,cn ae];rfl⟩,ae,(a7.to [(0,0),(5,5),(24,1)] ah ah ei (by refine eN ?_;refine eN ?_;refine bo.nl 24 ah ah ah eL ?_;exact bo.nil))⟩
 refine ay ?_;refine eI 1 ?_ (he:=by simp only[lf,iL,iV,lQ,nk,cJ,Nat.reduceEqDiff,aW,aX,cO,ct,cu,cT,cX,bR,bO,aL,bZ,aN,reduceCtorEq,aP,a8,Nat.reduceAdd,Nat.reduceLeDiff,pg];exact rfl) (hm:=by simp only[lf,iL,iV,lQ,nk,cJ,Nat.reduceEqDiff,aW,aX,cO,ct,cu,cT,cX,bR,bO,aL,bZ,aN,reduceCtorEq,aP,a8,Nat.reduceAdd,Nat.reduceLeDiff,pg];exact rfl);refine aA ?_;obtain rfl:i=(aR s []).length:=ae;have hok:BX s=true:=by rw[hr,cn ae]
 rw[ee (show(iS s).length<=(aR s []).length by simp[iS])];have hrs:=FH (s:=s) ae;refine cA (d:=iJ (iS s)) ?_;refine aq (hc:=h684 (iS s) hrs) ?_;refine fK ?_;refine av (fun hc4=>?_) (fun hc4=>?_)
 .simp only[bd]at hc4;refine ax ?_;refine df [.bq] ?_;refine aI (.agg [.bq]) (he:=aQ) ?_;refine ay ?_;refine bG (aH ?_ (aj (D.int .i64) ?_));all_goals
   have hq:iR s=([],6):=by
    unfold iR;rw[ak ae,ak (by rw[hok];simp),aw hc4]
   rw[hq];first|done|rfl
 simp only[bM]at hc4;refine ay ?_;refine cA (d:=iJ (iS s)) ?_;refine aq (hc:=h685 (iS s) hrs) ?_;refine ax ?_;refine av (fun hc5=>?_) (fun hc5=>?_)
 .simp only[bd,uH,hc4,gH,bc]at hc5;refine ax ?_;refine df [.bq] ?_;refine aI (.agg [.bq]) (he:=aQ) ?_;refine ay ?_;refine bG (aH ?_ (aj (D.int .i64) ?_));all_goals
   have hq:iR s=([],3):=by
    unfold iR;rw[ak ae,ak (by rw[hok];simp),ak (by rw[hc4];simp),aw ae]
   rw[hq];first|done|rfl
 simp only[bM,uH,hc4,gH,aK]at hc5;refine ax ?_;refine cA (d:=iJ (iS s)) ?_;refine aI (iJ (iS s)) (he:=aQ) ?_;refine ay ?_;refine bG (aH ?_ (aj (D.int .i64) ?_));all_goals
  have hq:iR s=(iS s,0):=by
   unfold iR;rw[ak ae,ak (by rw[hok];simp),ak (by rw[hc4];simp),ak ae]
  rw[hq];first|done|rfl
noncomputable def P0:aC:=cR 173
def w630 {Y:Ctx}(hm:(Y.at 0).b8)  (a:Int)(b:Int)   :di Y P0 (.int .i64 (fE a b)) [.int .i64 a,.int .i64 b]:=by
 show bK _ _ _ [⟨_,_⟩,⟨_,_⟩,_,_,_] _;refine ar ?_;refine c7 ?_;refine fO (fun hc0=>?_) fun hc0=>?_
 .refine aE ?_;refine cY ?_;unfold fE;rw[aw hc0]
 refine aD ?_;refine fO (fun hc1=>?_) fun hc1=>?_
 .refine aE ?_;refine cY ?_;unfold fE;rw[ak hc0,aw hc1]
 refine aD ?_;refine cY ?_;unfold fE;rw[ak hc0,ak hc1]
noncomputable def Ks:aC:=cR 228
def w927 {Y:Ctx}(hm:(Y.at 0).b8)  (a:au)(b:au)   :di Y Ks (.int .i64 (Cz a b)) [.str a,.str b]:=by
 show bK _ _ _ [⟨_,_⟩,⟨_,_⟩,_,_,_] _;refine ar ?_;refine c7 ?_;refine fO (fun hc0=>?_) fun hc0=>?_
 .refine aE ?_;refine cY ?_;simp[Cz,hc0]
 refine aD ?_;refine fO (fun hc1=>?_) fun hc1=>?_
 .refine aE ?_;refine cY ?_;simp_all[Cz]
 refine aD ?_;refine cY ?_;simp_all[Cz]
noncomputable def TB:aC:=cR 205
def w783 {Y:Ctx}(hm:(Y.at 0).b8)(h630:UF Y)(h667:QP Y)(h668:X9 Y)(h927:C927 Y)(a:au)(b:au)   :di Y TB (.int .i64 (tN a b)) [.str a,.str b]:=by
 show bK _ _ _ [⟨_,_⟩,⟨_,_⟩,_,_,_,_,_,_,_,_] _;refine ar ?_;refine aB ?_;refine aq (hc:=h668 _) ?_;refine aA ?_;refine aq (hc:=h668 _) ?_;refine fK ?_;refine fO (fun hc0=>?_) fun hc0=>?_
 .refine ax ?_;refine aq (hc:=h667 _) ?_;refine bN ?_;refine aq (hc:=h667 _) ?_;refine c7 ?_;refine aq (hc:=h630 _ _) ?_;refine aB ?_;refine cY ?_;unfold tN;rw[aw hc0]
 refine aB ?_;refine fO (fun hc1=>?_) fun hc1=>?_
 .refine aE ?_;refine cY ?_;have hn:¬(dd a=true/\dd b=true):=by rintro⟨h1,h2⟩;simp[h1,h2]at hc0
  unfold tN;rw[ak hn];rw[aw hc1]
 refine aB ?_;refine fO (fun hc2=>?_) fun hc2=>?_
 .refine aE ?_;refine cY ?_;have hn:¬(dd a=true/\dd b=true):=by rintro⟨h1,h2⟩;simp[h1,h2]at hc0
  unfold tN;rw[ak hn];rw[ak (by simp[hc1]),aw hc2]
 refine aE ?_;refine aq (hc:=h927 _ _) ?_;refine ay ?_;refine cY ?_;have hn:¬(dd a=true/\dd b=true):=by rintro⟨h1,h2⟩;simp[h1,h2]at hc0
 unfold tN;rw[ak hn];rw[ak (by simp[hc1]),ak (by simp[hc2])]
noncomputable def P1:aC:=cR 174
def w631 (h470:tZ Y)(h630:UF Y)(h783:C783 Y)(a:au)(b:au)  (hp0:a.length<=1048576/\b.length<=1048576):di Y P1 (.int .i64 (xr a b)) [.str a,.str b]:=by
 show bK _ _ _ [⟨_,_⟩,⟨_,_⟩,_,_,_,_,_,_,_,_,_,_] _;refine ar ?_;refine c7 ?_;refine fO (fun hc0=>?_) fun hc0=>?_
 .refine aE ?_;refine cY ?_;unfold xr;rw[aw hc0]
 refine aE ?_;refine fO (fun hc1=>?_) fun hc1=>?_
 .refine aE ?_;refine cY ?_;unfold xr;rw[ak hc0,aw hc1]
 refine aE ?_;refine fO (fun hc2=>?_) fun hc2=>?_
 .refine aE ?_;refine cY ?_;unfold xr;rw[ak hc0,ak hc1,aw hc2]
 refine aB ?_;refine aq (hc:=h470 a 46 hp0.1) ?_;refine aA ?_;refine aq (hc:=h470 b 46 hp0.2) ?_;refine aZ ?_;refine ba hm (ι:=Nat) (fun i=>[.un,.un,.un,.un,.un,.un,⟨true,.int .i64 (i:Nat)⟩,⟨true,.sl 1 ((ai a 46).map D.str)⟩,⟨true,.sl 1 ((ai b 46).map D.str)⟩,.un,.un,.un]) (fun i=>[]) 18 (fun i=>(i<=(ai a 46).length/\i<=(ai b 46).length)/\xr a b=tX (ai a 46) (ai b 46) i) (fun i=>(ai a 46).length-i) 0 ⟨⟨ae,ae⟩,by unfold xr;rw[ak hc0,ak hc1,ak hc2]⟩ (du []) ?_;rintro i ⟨hi,hr⟩;refine aE ?_;intro u0;refine aB ?_;refine iy ?_;refine ay ?_;refine cG (fun hc3=>?_) fun hc3=>?_
 .refine aE ?_;refine bI i (hb:=fun _=>ae) ?_;refine bE (v:=.str (ai a 46)[i]!) (hi:=fun _=>ae) ?_;refine ax ?_;refine bI i (hb:=fun _=>ae) ?_;refine bE (v:=.str (ai b 46)[i]!) (hi:=fun _=>ae) ?_;refine aq (hc:=h783 _ _) ?_;refine aD ?_;refine fO (fun hc4=>?_) fun hc4=>?_
  .refine aZ ?_;refine cY ?_;rw[hr,Ef ae hc4]
  refine bN ?_;exact⟨i+1,⟨⟨ae,ae⟩,by rw[hr,Ir ae hc4]⟩,ae,(du [])⟩
 refine aE ?_;intro u1;refine ax ?_;intro u2;refine aq (hc:=h630 _ _) ?_;refine ay ?_;refine cY ?_;rw[hr,Ee ae]
def FB:aC:=⟨2,12,[⟨2,none⟩],ha1,(sq (rg [gb 5 s0,gb 5 s1,gm Lv] [(3,0),(4,1),(2,2)]) (sq (sq (r1 [gk 5 true s3,gx 217 [l0] Z9,gno l1,gm l2,tI 3 (.ld 5 true s4),tI 3 (.call 217 [l4] Z9),tI 3 (.un .not l5),Ut l3 l6] 5 7) (.cond s5 (sq (r1 [gm Lv] 2 0) .ret) .skip)) (sq (sq (r1 [gf 0 s3,gd l0,gf 0 s4,gd l2,gx 630 [l1,l3] tJ,gm l4] 6 5) (sq (r1 [gm s6,r6 l0 Lv] 7 1) (.cond s7 (sq (r1 [gm s6,gm l0] 2 1) .ret) .skip))) (sq (sq (r1 [gf 1 s3,gd l0,gf 1 s4,gd l2,gx 630 [l1,l3] tJ,gm l4] 8 5) (sq (r1 [gm s8,r6 l0 Lv] 9 1) (.cond s9 (sq (r1 [gm s8,gm l0] 2 1) .ret) .skip))) (sq (sq (r1 [gf 2 s3,gd l0,gf 2 s4,gd l2,gx 630 [l1,l3] tJ,gm l4] 10 5) (sq (r1 [gm Xp,r6 l0 Lv] 11 1) (.cond s11 (sq (r1 [gm Xp,gm l0] 2 1) .ret) .skip))) (sq (r1 [gf 3 s3,gd l0,gf 3 s4,gd l2,gx 631 [l1,l3] tJ,gm l4] 2 5) .ret))))))⟩
def w424 {Y:Ctx}(hm:(Y.at 0).b8)(h217:Ja Y)(h630:UF Y)(h631:C631 Y)(a:cq)(b:cq)  (hp0:a.sm/\b.sm):di Y FB (.int .i64 (pR a b)) [cq.D a,cq.D b]:=by
 show bK _ _ _ [⟨_,_⟩,⟨_,_⟩,_,_,_,_,_,_,_,_,_,_] _;refine ar ?_;refine aZ ?_;refine aq (hc:=h217 a hp0.1) ?_;refine ay ?_;refine c9 (hc:=fun hf=>h217 b hp0.2) ?_;refine ay ?_;refine av (fun hc0=>?_) (fun hc0=>?_)
 .simp only[cN,bd]at hc0;refine aE ?_;refine cY ?_;unfold pR;rw[aw hc0]
 simp only[de,bM]at hc0;have hv:¬(e8 a=false\/e8 b=false):=by simp only[not_or,Bool.not_eq_false];first|exact hc0|exact hc0.1
 refine aZ ?_;refine aq (hc:=h630 _ _) ?_;refine aZ ?_;refine cG (fun hc1=>?_) fun hc1=>?_
 .refine aD ?_;refine cY ?_;unfold pR;rw[ak hv,aw hc1]
 refine aZ ?_;refine aq (hc:=h630 _ _) ?_;refine aZ ?_;refine cG (fun hc2=>?_) fun hc2=>?_
 .refine aD ?_;refine cY ?_;unfold pR;rw[ak hv,ak (by simpa using hc1),aw hc2]
 refine aZ ?_;refine aq (hc:=h630 _ _) ?_;refine aZ ?_;refine cG (fun hc3=>?_) fun hc3=>?_
 .refine aD ?_;refine cY ?_;unfold pR;rw[ak hv,ak (by simpa using hc1),ak (by simpa using hc2),aw hc3]
 refine aD ?_;refine aq (hc:=h631 a.pre b.pre ⟨hp0.1.1,hp0.2.1⟩) ?_;refine ay ?_;refine cY ?_;unfold pR;rw[ak hv,ak (by simpa using hc1),ak (by simpa using hc2),ak (by simpa using hc3)]
noncomputable def xz:aC:=cR 41
def w261 {Y:Ctx}(hm:(Y.at 2).b8)(nm:au)(es:List cx)(x:cx)(t:au)(h75:C75 (Y.at 2))(h77:C77 (Y.at 2))(h501:XY (Y.at 2))(hp0:Ua es):bK (Y.at 2) xz.body (j5 xz (AddQ nm es x t):Ex->List ch->St->Prop) (fF xz [.ptr 0 2 0 0,cx.D x,.str t]) ⟨2,[(0,.buf 2 [.agg [.str nm,.own 1 11 0 es.length]]),(1,.buf 11 (es.map cx.D))]⟩:=by
 show bK _ _ _ [⟨true,.ptr 0 2 0 0⟩,⟨true,cx.D x⟩,⟨true,.str t⟩,.un,.un,.un,.un,.un,.un,.un,.un,.un,.un,.un] ⟨2,[(0,.buf 2 [.agg [.str nm,.own 1 11 0 es.length]]),(1,.buf 11 (es.map cx.D))]⟩;refine ar ?_;refine aE ?_;refine aq (hc:=h77 t) ?_;refine aA ?_;refine eZ (Rec.D _) ?_;refine ay ?_;refine aI (Rec.D (cB t).1) (he:=aQ) ?_;refine bN ?_;refine av (fun hc0=>?_) (fun hc0=>?_)
 .simp only[bd,bc]at hc0;have hz:=Gt (es:=es) (n:=x.sum) (off:=x.off) hc0;refine aD ?_;refine bP trivial eh (bS ah (aj (D.int .i64) ?_)) ah (.inl ⟨by rw[hz];exact hc0,rfl,aQ,aQ⟩);rw[hz]
 simp only[bM,aK]at hc0;have hrv:=DP hc0;have hrs:=BL t;refine ax ?_;refine cA (d:=Rec.D (cB t).1) ?_;refine aq (hc:=h75 (cB t).1 hrs) ?_;refine fU ?_;refine aT (v:=.int .u64 x.sum) ?_;refine ax ?_;refine av (fun hc1=>?_) (fun hc1=>?_)
 .simp only[bd,bc]at hc1;have hf:jg es (cB t).1 x.sum=13:=aw hc1;refine aE ?_;refine bP trivial eh (bS ah (aj (D.int .i64) ?_)) ah (.inl ⟨by rw[ov hc0 (by rw[hf];decide),hf];decide,rfl,aQ,aQ⟩);rw[ov hc0 (by rw[hf];decide),hf]
 simp only[bM,aK]at hc1;refine aE ?_;refine ba hm (ι:=Nat) (fun i=>[⟨true,.ptr 0 2 0 0⟩,⟨true,cx.D x⟩,⟨true,.str t⟩,.un,.un,.un,⟨true,.ptr 3 9 0 0⟩,.un,⟨true,.ptr 2 11 0 0⟩,.un,⟨true,.int .i64 (i:Nat)⟩,.un,.un,.un]) (fun i=>[(0,.buf 2 [.agg [.str nm,.own 1 11 0 es.length]]),(1,.buf 11 (es.map cx.D)),(2,.buf 11 [cx.D x]),(3,.buf 9 [Rec.D (cB t).1])]) 60 (fun i=>i<=es.length/\qR es (cB t).1=(es.drop i).any (Uu (cB t).1)) (fun i=>es.length-i) 0 ⟨ae,rfl⟩ (a7.to [(2,2),(10,3)] ah ah ei (by first|(refine bo.Gc ah ah ah ?_;refine bo.fY ah ah (br (fun _=>rfl) _) ?_;refine bo.nl 2 ah ah rfl ah ?_;refine bo.nl 10 ah ah rfl ah ?_;exact bo.nil)|(refine bo.Gc ah ah ah ?_;refine bo.fY ah ah (br (fun _=>rfl) _) ?_;refine bo.fY ah ah ah ?_;refine bo.fY ah ah ah ?_;exact bo.nil))) ?_;rintro i ⟨hi,hr⟩;refine aD ?_;refine aT (v:=.own 1 11 0 es.length) ?_;refine aA ?_;intro u0;refine ax ?_;refine cG (fun hc2=>?_) fun hc2=>?_
 .refine aD ?_;refine aT (v:=.own 1 11 0 es.length) ?_;refine aA ?_;refine iv i (hb:=fun _=>ae) ?_;refine ax ?_;refine qf (q:=cx.D) (xs:=es) (v:=.str es[i]!.r.name) (hi:=fun _=>ae) (hv:=fun _=>by rw[bR];rfl) ?_;refine aA ?_;refine aT (v:=.str (cB t).1.name) ?_;refine aE ?_;refine aT (v:=.own 1 11 0 es.length) ?_;refine aA ?_;refine iv i (hb:=fun _=>ae) ?_;refine ax ?_;refine qf (q:=cx.D) (xs:=es) (v:=cq.D es[i]!.r.v) (hi:=fun _=>ae) (hv:=fun _=>by rw[bR];rfl) ?_;refine aA ?_;refine aT (v:=cq.D (cB t).1.v) ?_;refine c9 (hc:=fun hf=>h501 es[i]!.r.v (cB t).1.v ⟨(hp0 _ (bF ae)).1,hrs.1.2⟩) ?_;refine ax ?_;refine wp_cond (fun hc3=>?_) (fun hc3=>?_)
  .simp only[dq]at hc3;have htw:Uu (cB t).1 es[i]! =true:=by rw[Ms (hp0 _ (bF ae)).2 hrv];simpa using hc3
   have htz:qR es (cB t).1=true:=by rw[hr,vv ae htw]
   have hf:jg es (cB t).1 x.sum=8:=by unfold jg;rw[ak (fun h=>h hc1),aw htz]
   refine aD ?_;refine bP trivial eh (bS ah (aj (D.int .i64) ?_)) ah (.inl ⟨by rw[ov hc0 (by rw[hf];decide),hf];decide,rfl,aQ,aQ⟩);rw[ov hc0 (by rw[hf];decide),hf]
  simp only[dq]at hc3;have htw:Uu (cB t).1 es[i]! =false:=by rw[Ms (hp0 _ (bF ae)).2 hrv];exact hc3.elim (fun h=>by rw[cI h];rfl) (fun h=>by rw[h,Bool.and_false])
  refine bN ?_;exact⟨i+1,⟨ae,by rw[hr,Ap ae htw]⟩,ae,(a7.to [(2,2),(3,3)] ah ah ei (by first|(refine bo.Gc ah ah ah ?_;refine bo.fY ah ah (br (fun _=>rfl) _) ?_;refine bo.nl 2 ah ah rfl ah ?_;refine bo.nl 10 ah ah rfl ah ?_;exact bo.nil)|(refine bo.Gc ah ah ah ?_;refine bo.fY ah ah (br (fun _=>rfl) _) ?_;refine bo.fY ah ah ah ?_;refine bo.fY ah ah ah ?_;exact bo.nil)))⟩
 refine aB ?_;have htz:qR es (cB t).1=false:=by rw[hr,vu ae]
 refine ay ?_;refine aT (v:=.own 1 11 0 es.length) ?_;refine aA ?_;intro u1;refine ax ?_;refine av (fun hc4=>?_) (fun hc4=>?_)
 .simp only[dq]at hc4;have hf:jg es (cB t).1 x.sum=10:=by unfold jg;rw[ak (fun h=>h hc1),ak (by simp[htz]),aw ae]
  refine aE ?_;refine bP trivial eh (bS ah (aj (D.int .i64) ?_)) ah (.inl ⟨by rw[ov hc0 (by rw[hf];decide),hf];decide,rfl,aQ,aQ⟩);rw[ov hc0 (by rw[hf];decide),hf]
 simp only[dq]at hc4;have hf:jg es (cB t).1 x.sum=0:=by unfold jg;rw[ak (fun h=>h hc1),ak (by simp[htz]),ak ae]
 have hz:=K4 (off:=x.off) hc0 hf;refine ax ?_;refine cA (d:=Rec.D (cB t).1) ?_;refine aA ?_;refine aI (cx.D (⟨(cB t).1,x.sum,x.off⟩:cx)) (he:=aQ) ?_;refine aD ?_;refine aT (v:=.own 1 11 0 es.length) ?_;refine cA (d:=cx.D (⟨(cB t).1,x.sum,x.off⟩:cx)) ?_;refine dh [cx.D (⟨(cB t).1,x.sum,x.off⟩:cx)] ?_;refine gV (q:=cx.D) (xs:=es) (e:=(⟨(cB t).1,x.sum,x.off⟩:cx)) (hb:=ae) ?_;refine ax ?_;refine aI (.agg [.str nm,.own 83 11 0 (es++[(⟨(cB t).1,x.sum,x.off⟩:cx)]).length]) (he:=aQ) ?_;refine aE ?_;refine bP trivial eh (bS ah (aj (D.int .i64) ?_)) ah (.inr ⟨by rw[hz],rfl,83,aF,by rw[hz];exact rfl,by rw[hz];exact rfl⟩);rfl
noncomputable def PW:aC:=cR 76
def w501 {Y:Ctx}(hm:(Y.at 0).b8)(h217:Ja Y)(h424:C424 Y)(a:cq)(b:cq)  (hp0:a.sm/\b.sm):di Y PW (.bool (Bn a b)) [cq.D a,cq.D b]:=by
 show bK _ _ _ [⟨_,_⟩,⟨_,_⟩,_,_,_] _;refine ar ?_;refine aD ?_;refine aq (hc:=h217 a hp0.1) ?_;refine ax ?_;refine c9 (hc:=fun hf=>h217 b hp0.2) ?_;refine aB ?_;refine c9 (hc:=fun hf=>h424 a b hp0) ?_;refine aE ?_;exact bV rfl
noncomputable def HY:aC:=cR 61
def w580 (h501:XY Y)(l:List cx)(nm:au)(v:cq)  (hp0:(∀x∈l,x.r.v.sm)/\v.sm):di Y HY (.int .i64 (tM l nm v 0)) [.sl 11 (l.map cx.D),.str nm,cq.D v]:=by
 show bK _ _ _ [⟨_,_⟩,⟨_,_⟩,⟨_,_⟩,_,_,_,_,_] _;refine ar ?_;refine aZ ?_;refine ba hm (ι:=Nat) (fun i=>[⟨true,.sl 11 (l.map cx.D)⟩,⟨true,.str nm⟩,.un,.un,⟨true,.int .i64 (i:Nat)⟩,.un,⟨true,.ptr 0 5 0 0⟩,.un]) (fun i=>[(0,.buf 5 [cq.D v])]) 3 (fun i=>i<=l.length/\tM l nm v 0=tM l nm v i) (fun i=>l.length-i) 0 ⟨ae,rfl⟩ (du [(0,0)]) ?_;rintro i ⟨hi,hr⟩;refine aE ?_;intro u0;refine ax ?_;refine cG (fun hc0=>?_) fun hc0=>?_
 .refine aE ?_;refine bI i ?_;refine ax ?_;refine bE (v:=.str l[i]!.r.name) ?_;refine aE ?_;refine bI i ?_;refine ax ?_;refine bE (v:=cq.D l[i]!.r.v) ?_;refine aA ?_;refine c9 (hc:=fun hf=>h501 l[i]!.r.v v ⟨hp0.1 _ (bF ae),hp0.2⟩) ?_;refine ax ?_;refine fO (fun hc1=>?_) fun hc1=>?_
  .refine aZ ?_;refine cY ?_;rw[hr,S2 ae (VA hc1)]
  refine bN ?_;exact⟨i+1,⟨ae,by rw[hr,S4 ae (Za hc1)]⟩,ae,(du [(0,0)])⟩
 refine aD ?_;refine cY ?_;rw[hr,L6 ae]
noncomputable def PV:aC:=cR 25
def w358 (h75:C75 Y)(h216:I9 Y)(h580:X2 Y)(s:fR)  (hp0:∀x∈s.es,fC x.r):di Y PV (.bool (kA s)) [fR.D s]:=by
 show bK _ _ _ [⟨_,_⟩,_,_,_,_,_,_,_,_,_] _;refine ar ?_;refine aD ?_;refine aT (v:=.str s.name) ?_;refine aq (hc:=h216 _) ?_;refine ay ?_;refine aT (v:=.sl 11 (s.es.map cx.D)) ?_;refine iy ?_;refine ay ?_;refine av (fun hc0=>?_) (fun hc0=>?_)
 .simp only[cN,bd,aK]at hc0;have hf:kA s=false:=by
   unfold kA;rcases hc0 with h|h
   .rw[h];rfl
   .rw[show decide (s.es.length<=64)=false from cI ae];simp
  refine aE ?_;refine bV ?_;exact hf.symm
 simp only[de,bM,bc]at hc0;have hq:kA s=cS (pF s.es) 0 s.es.length:=by unfold kA;rw[hc0.1,ca (show s.es.length<=64 by omega)];simp
 refine aE ?_;refine ba hm (ι:=Nat) (fun i=>[.un,.un,⟨true,.ptr 0 2 0 0⟩,.un,⟨true,.int .i64 (i:Nat)⟩,.un,.un,.un,.un,.un]) (fun i=>[(0,.buf 2 [fR.D s])]) 13 (fun i=>i<=s.es.length/\kA s=cS (pF s.es) i s.es.length) (fun i=>s.es.length-i) 0 ⟨ae,hq⟩ (du [(0,0)]) ?_;rintro i ⟨hi,hr⟩;refine aB ?_;refine aT (v:=.sl 11 (s.es.map cx.D)) ?_;refine aA ?_;intro u0;refine ax ?_;refine cG (fun hc1=>?_) fun hc1=>?_
 .refine ay ?_;have hsm:=hp0 _ (bF (show i<s.es.length by omega));refine aA ?_;refine aT (v:=.sl 11 (s.es.map cx.D)) ?_;refine aA ?_;refine bI i ?_;refine bE (v:=cx.D s.es[i]!) ?_;refine aA ?_;refine aI (cx.D s.es[i]!) (he:=aQ) ?_;refine ay ?_;refine aT (v:=Rec.D s.es[i]!.r) ?_;refine aq (hc:=h75 s.es[i]!.r hsm) ?_;refine gD ?_;refine aT (v:=.int .u64 s.es[i]!.sum) ?_;refine aB ?_;refine aT (v:=.sl 11 (s.es.map cx.D)) ?_;refine ax ?_;refine aT (v:=.str s.es[i]!.r.name) ?_;refine ax ?_;refine aT (v:=cq.D s.es[i]!.r.v) ?_;refine c9 (hc:=fun hf=>h580 s.es s.es[i]!.r.name s.es[i]!.r.v ⟨fun x hx=>(hp0 x hx).1.2,hsm.1.2⟩) ?_;refine aB ?_;refine wp_cond (fun hc2=>?_) (fun hc2=>?_)
  .have hen:pF s.es i=false:=by
    simp only[cN,bd,aK,bc]at hc2;exact U4 ae hc2
   refine aD ?_;refine bV ?_;rw[hr,aU ae,hen];rfl
  have hen:pF s.es i=true:=by
   simp only[de,bM,aK,bc]at hc2;exact Rw ae hc2.1.1 hc2.1.2 hc2.2
  refine bN ?_;exact⟨i+1,⟨ae,by rw[hr,aU ae,hen];rfl⟩,ae,(du [(0,0)])⟩
 refine aD ?_;refine bV ?_;rw[hr,cn ae]
noncomputable def JS:aC:=cR 181
def w662 {Y:Ctx}(hm:(Y.at 0).b8)(h811:C811 Y)(l:List Nd)  (hp0:jV l/\l.length<=15):di Y JS (.str (qS l)) [.sl 5 (l.map Nd.D)]:=by
 show bK _ _ _ [⟨_,_⟩,_,_] _;refine ar ?_;refine aD ?_;intro u0;refine ax ?_;refine cG (fun hc0=>?_) fun hc0=>?_
 .refine aE ?_;refine dc ?_;simp only[qS];rw[aw ae]
 refine aE ?_;intro u1;refine aA ?_;refine aq (hc:=h811 l ((l.length:Int) -1) ⟨hp0.1,hp0.2,ae,ae⟩) ?_;refine ay ?_;refine dc ?_;simp only[qS];rw[ak ae]
noncomputable def HQ:aC:=cR 248
def w954 {Y:Ctx}(hm:(Y.at 0).b8)(h1036:WE Y)(l:List Nd)  (hp0:jV l/\l.length<=15):di Y HQ (.str (qS l)) [.sl 5 (l.map Nd.D)]:=by
 show bK _ _ _ [⟨_,_⟩,_,_] _;refine ar ?_;refine aD ?_;intro u0;refine ax ?_;refine cG (fun hc0=>?_) fun hc0=>?_
 .refine aE ?_;refine dc ?_;simp only[qS];rw[aw ae]
 refine aE ?_;intro u1;refine aA ?_;refine aq (hc:=h1036 l ((l.length:Int) -1) ⟨hp0.1,hp0.2,ae,ae⟩) ?_;refine ay ?_;refine dc ?_;simp only[qS];rw[ak ae]
noncomputable def Sm:aC:=cR 180
def w661 {Y:Ctx}(hm:(Y.at 0).b8)(h662:X6 Y)(h810:C810 Y)(m:WW)   :di Y Sm (.bool (Ba m)) [lO m]:=by
 show bK _ _ _ [⟨_,_⟩,_,_] _;refine ar ?_;refine aD ?_;refine aq (hc:=h810 m) ?_;refine ay ?_;refine c9 (hc:=fun hf=>h662 m (by simp only[bC,beq_iff_eq,aK,ct]at hf;exact⟨qQ hf.2,ae⟩)) ?_;refine iy ?_;refine aE ?_;refine bV ?_;simp only[Ba];congr 1;exact gY.2 ae
noncomputable def PM:aC:=cR 247
def w953 {Y:Ctx}(hm:(Y.at 0).b8)(h954:Yn Y)(h1035:WD Y)(m:WW)   :di Y PM (.bool (Ba m)) [lO m]:=by
 show bK _ _ _ [⟨_,_⟩,_,_] _;refine ar ?_;refine aZ ?_;intro u0;refine aB ?_;refine c9 (hc:=fun hf=>h1035 m (by simp at hf;omega)) ?_;refine aB ?_;refine c9 (hc:=fun hf=>h954 m (by simp only[bC,beq_iff_eq,aK,ct]at hf;exact⟨qQ hf.2,ae⟩)) ?_;refine iy ?_;refine aE ?_;refine bV ?_;simp only[Ba];rw[gY.2 (show((m.length:Nat):Int)<=15↔m.length<=15 by omega)];congr 1;exact gY.2 ae
noncomputable def JR:aC:=cR 140
def w446 {Y:Ctx}(hm:(Y.at 0).b8)(h661:X5 Y)(h662:X6 Y)(m:WW)   :di Y JR (.str (Xj m)) [lO m]:=by
 show bK _ _ _ [⟨_,_⟩,_,_,_] _;refine ar ?_;refine aD ?_;refine aq (hc:=h661 m) ?_;refine ax ?_;refine av (fun hc0=>?_) (fun hc0=>?_)
 .simp only[bd]at hc0;refine aE ?_;refine dc ?_;simp[Xj,hc0]
 simp only[bM]at hc0;have hfw:(decide (m.length<=15)&&py m)=true:=by simp only[Ba,bC]at hc0;simp only[bC];exact hc0.1
 simp only[bC,aK]at hfw;refine aB ?_;refine aq (hc:=h662 m ⟨qQ hfw.2,hfw.1⟩) ?_;refine ay ?_;refine dc ?_;simp[Xj,hc0]
noncomputable def HP:aC:=cR 218
def w814 {Y:Ctx}(hm:(Y.at 0).b8)(h953:Ym Y)(h954:Yn Y)(m:WW)   :di Y HP (.str (Xj m)) [lO m]:=by
 show bK _ _ _ [⟨_,_⟩,_,_,_] _;refine ar ?_;refine aD ?_;refine aq (hc:=h953 m) ?_;refine ax ?_;refine av (fun hc0=>?_) (fun hc0=>?_)
 .simp only[bd]at hc0;refine aE ?_;refine dc ?_;simp[Xj,hc0]
 simp only[bM]at hc0;have hfw:(decide (m.length<=15)&&py m)=true:=by simp only[Ba,bC]at hc0;simp only[bC];exact hc0.1
 simp only[bC,aK]at hfw;refine aB ?_;refine aq (hc:=h954 m ⟨qQ hfw.2,hfw.1⟩) ?_;refine ay ?_;refine dc ?_;simp[Xj,hc0]
noncomputable def Sd:aC:=cR 92
def w483  (l:List au)(s:au)  (hp0:l.length<=1000):di Y Sd (.sl 1 ((ic l s).map D.str)) [.sl 1 (l.map D.str),.str s]:=by
 show bK _ _ _ [⟨_,_⟩,⟨_,_⟩,_,_,_,_] _;refine ar ?_;refine aE ?_;refine ba hm (ι:=Nat) (fun i=>[⟨true,.sl 1 (l.map D.str)⟩,⟨true,.str s⟩,.un,⟨true,.int .i64 (i:Nat)⟩,.un,.un]) (fun i=>[]) 2 (fun i=>i<=mA s l) (fun i=>l.length-i) 0 (Nat.zero_le _) (du []) ?_;rintro i hi;have hpl:=Fm s l;refine aE ?_;intro u0;refine aB ?_;refine bI i ?_;refine bE (v:=.str l[i]!) ?_;refine aB ?_;refine av (fun hc0=>?_) (fun hc0=>?_)
 .simp only[bC,aK]at hc0;have hip:i+1<=mA s l:=by
   by_cases he:i=mA s l
   .have h1:=xw s l ae;rw[<-he,hc0.2]at h1;cases h1
   .omega
  refine c7 ?_;exact⟨i+1,ae,ae,(du [])⟩
 simp only[dz,bc]at hc0;obtain rfl:i=mA s l:=by
  by_cases he:i<mA s l
  .have h1:=Fo s l i he;rcases hc0 with h|h
   .omega
   .rw[h1]at h;cases h
  .omega
 refine aZ ?_;intro u1;refine aB ?_;refine bI (mA s l) ?_;refine bE (v:=.str l[mA s l]!) ?_;refine aB ?_;refine cG (fun hc1=>?_) fun hc1=>?_
 .refine aD ?_;refine bG (?_);rw[ic,aw ⟨ae,hc1.2⟩];rfl
 refine aB ?_;refine oJ (mA s l) ?_;refine L9 (he:=sR.sl) (n:=(l.take (mA s l)).length) (hn:=aJ) (hb:=by simp only[eu];omega) ?_;refine aA ?_;refine dh [.str s] ?_;refine gV (q:=D.str) (xs:=l.take (mA s l)) (e:=s) (hb:=by simp only[eu];omega) ?_;refine ax ?_;refine sr (mA s l) ?_;refine Th (xs:=l.take (mA s l)++[s]) (ys:=l.drop (mA s l)) (he:=sR.sl) (hb:=by simp only[bQ,eu,jY,aP,a8];omega) ?_;refine ax ?_;refine eI 36 ?_;refine aA ?_;refine bG (?_);rw[ic,ak (by rintro⟨h1,h2⟩;rcases hc1 with h|h;omega;exact h h2)];rfl
noncomputable def CP:aC:=cR 138
def w444 {Y:Ctx}(hm:(Y.at 0).b8)(h495:C495 Y)(h496:C496 Y)(s:au)  (hp0:s.length<=1048576):di Y CP (.bool (tt s)) [.str s]:=by
 show bK _ _ _ [⟨_,_⟩,_,_,_] _;refine ar ?_;refine aB ?_;refine aq (hc:=h495 s hp0) ?_;refine aA ?_;refine eZ (iJ _) ?_;refine ax ?_;refine aI (iJ (iR s).1) (he:=aQ) ?_;refine aD ?_;refine cA (d:=iJ (iR s).1) ?_;refine c9 (hc:=fun hf=>h496 (iR s).1 Mj.1) ?_;refine aD ?_;exact bV rfl
end Go.Abs
