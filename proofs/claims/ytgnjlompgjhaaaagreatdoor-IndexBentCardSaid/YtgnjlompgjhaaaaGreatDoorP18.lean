/- A part of the proofs. -/
import Derived.Test.YtgnjlompgjhaaaaGreatDoorP08
set_option linter.all false
set_option maxRecDepth 60000
set_option maxHeartbeats 2000000
namespace Go.Abs
variable {Y:Ctx}(hm:(Y.at 0).b8)
noncomputable def BM:aC:=cR 216
def w812 (h357:Jd Y)(h815:Yg Y)(l:List au)(al:Bool)   :di Y BM (.bool (jN l al)) [.sl 1 (l.map D.str),.bool al]:=by
 show bK _ _ _ [⟨_,_⟩,⟨_,_⟩,_,_,_,_] _;refine ar ?_;refine aD ?_;refine ba hm (ι:=Nat) (fun i=>[⟨true,.sl 1 (l.map D.str)⟩,⟨true,.bool al⟩,.un,⟨true,.int .i64 (i:Nat)⟩,.un,.un]) (fun i=>[]) 2 (fun i=>i<=l.length/\jN l al=(cS (fun i=>cW l[i]!) i l.length&&((decide (l.length<=6)&&rising l)&&(al ||decide (l.length=0))))) (fun i=>l.length-i) 0 ⟨ae,(wf_2 l al).symm⟩ (du []) ?_;rintro i ⟨hi,hr⟩;refine aE ?_;intro u0;refine ax ?_;refine cG (fun hc0=>?_) fun hc0=>?_
 .refine aZ ?_;refine aq (hc:=h357 _) ?_;refine ax ?_;refine wp_cond (fun hc1=>?_) (fun hc1=>?_)
  .simp only[bd]at hc1;refine aD ?_;refine bV ?_;rw[hr,aU ae,hc1];rfl
  simp only[bM]at hc1;refine bN ?_;exact⟨i+1,⟨ae,by rw[hr,aU ae,hc1];rfl⟩,ae,(du [])⟩
 refine aE ?_;intro u1;refine ay ?_;refine aq (hc:=h815 _) ?_;refine aE ?_;refine iy ?_;refine aD ?_;refine bV ?_;rw[hr,cn ae,gH,gY.2 (show((l.length:Nat):Int)<=6↔l.length<=6 by omega),gY.2 (show((l.length:Nat):Int)=0↔l.length=0 by omega)]
noncomputable def Ki:aC:=cR 187
def w669 {Y:Ctx}(hm:(Y.at 0).b8)(h216:I9 Y)(h572:X1 Y)(h812:C812 Y)(r:Rec)(w:bT)(al:Bool)  (hp0:w.sm):di Y Ki (.int .i64 (jP r w al)) [Rec.D r,bT.D w,.bool al]:=by
 show bK _ _ _ [⟨_,_⟩,⟨_,_⟩,⟨_,_⟩,_,_,_,_,_,_,_] _;refine ar ?_;refine bN ?_;refine aq (hc:=h216 _) ?_;refine ay ?_;refine fO (fun hc0=>?_) fun hc0=>?_
 .refine aE ?_;refine cY ?_;have hw:fT r w.name w.range=4:=by rw[fT,aw hc0]
  rw[jP,aw (by rw[hw];decide),hw]
 refine bN ?_;refine fO (fun hc1=>?_) fun hc1=>?_
 .refine aE ?_;refine cY ?_;have hw:fT r w.name w.range=8:=by rw[fT,ak (by simp[hc0]),aw hc1]
  rw[jP,aw (by rw[hw];decide),hw]
 refine ay ?_;refine aq (hc:=h572 w.range hp0.1.2) ?_;refine ay ?_;refine wp_cond (fun hc2=>?_) (fun hc2=>?_)
 .try simp only[dq]at hc2
  refine aE ?_;refine cY ?_;have hw:fT r w.name w.range=6:=by rw[fT,ak (by simp[hc0]),ak hc1,aw hc2]
  rw[jP,aw (by rw[hw];decide),hw]
 simp only[bM]at hc2;have hw0:fT r w.name w.range=0:=by rw[fT,ak (by simp[hc0]),ak hc1,ak (by simp[hc2])]
 refine aB ?_;refine aq (hc:=h812 w.feats al) ?_;refine ay ?_;refine fO (fun hc3=>?_) fun hc3=>?_
 .refine aE ?_;refine cY ?_;rw[jP,ak (by simp[hw0]),aw hc3]
 refine aD ?_;refine cY ?_;rw[jP,ak (by simp[hw0]),ak (by simp[hc3])]
noncomputable def Ke:aC:=cR 149
def w457 (h357:Jd Y)(h669:C669 Y)(h670:Ya Y)(r:Rec)(n:bp)  (hp0:n.sm):di Y Ke (.int .i64 (jh r n)) [Rec.D r,bp.D n]:=by
 show bK _ _ _ [⟨_,_⟩,⟨_,_⟩,_,_,_,_,_,_,_,_,_,_,_] _;refine ar ?_;refine c7 ?_;intro u0;refine ax ?_;refine cG (fun hc0=>?_) fun hc0=>?_
 .refine aE ?_;refine cY ?_;rw[jh,aw ae]
 refine aD ?_;intro u1;refine ax ?_;refine cG (fun hc1=>?_) fun hc1=>?_
 .refine aE ?_;refine cY ?_;rw[jh,ak ae,aw ae]
 refine aE ?_;refine ba hm (ι:=Nat) (fun i=>[.un,.un,.un,⟨true,.ptr 1 3 0 0⟩,.un,.un,⟨true,.int .i64 (i:Nat)⟩,.un,⟨true,.ptr 0 9 0 0⟩,.un,.un,.un,.un]) (fun i=>[(0,.buf 9 [Rec.D r]),(1,.buf 3 [bp.D n])]) 12 (fun i=>i<=n.any.length/\mP r n.any=fL (fun i=>jP r n.any[i]! (decide ((n.any.length:Int)=1))) i n.any.length) (fun i=>n.any.length-i) 0 ⟨ae,rfl⟩ (du [(0,0),(1,1)]) ?_;rintro i ⟨hi,hr⟩;refine aD ?_;intro u2;refine ax ?_;refine cG (fun hc2=>?_) fun hc2=>?_
 .refine aZ ?_;refine bI i ?_;first|refine bE (v:=(bT.D _)) ?_|refine ff (v:=(bT.D _)) ?_
  refine ax ?_;refine iy ?_;refine aA ?_;refine aq (hc:=h669 r n.any[i]! _ (hp0.1 _ (bF ae))) ?_;refine aD ?_;refine fO (fun hc3=>?_) fun hc3=>?_
  .refine aZ ?_;refine cY ?_;have hw:mP r n.any=jP r n.any[i]! (decide ((n.any.length:Int)=1)):=by rw[hr,mc ae hc3]
   rw[jh,ak ae,ak ae,aw (by rw[hw];exact hc3),hw]
  refine bN ?_;exact⟨i+1,⟨ae,by rw[hr,n5 ae hc3]⟩,ae,(du [(0,0),(1,1)])⟩
 refine aB ?_;have hw0:mP r n.any=0:=by rw[hr,nZ ae]
 refine ax ?_;refine aq (hc:=h670 _) ?_;refine ax ?_;refine av (fun hc4=>?_) (fun hc4=>?_)
 .try simp only[dq]at hc4
  refine aE ?_;refine cY ?_;rw[jh,ak ae,ak ae,ak (by simp[hw0]),aw hc4]
 simp only[bM]at hc4;refine c7 ?_;refine aq (hc:=h357 _) ?_;refine ay ?_;refine av (fun hc5=>?_) (fun hc5=>?_)
 .try simp only[dq]at hc5
  refine aE ?_;refine cY ?_;rw[jh,ak ae,ak ae,ak (by simp[hw0]),ak (by simp[hc4]),aw hc5]
 simp only[dz,bM,aK]at hc5;refine aE ?_;refine cY ?_;rw[jh,ak ae,ak ae,ak (by simp[hw0]),ak (by simp[hc4]),ak (by rintro⟨g1,g2⟩;rcases hc5 with h|h;exact g1 h;rw[g2]at h;cases h)]
noncomputable def PT:aC:=cR 150
def w458 {Y:Ctx}(hm:(Y.at 0).b8)(h216:I9 Y)(h572:X1 Y)(h670:Ya Y)(r:Rec)(b:fA)  (hp0:b.sm):di Y PT (.int .i64 (pL r b)) [Rec.D r,fA.D b]:=by
 show bK _ _ _ [⟨_,_⟩,⟨_,_⟩,_,_,_,_,_,_,_] _;refine ar ?_;refine bN ?_;refine aq (hc:=h216 _) ?_;refine ay ?_;refine fO (fun hc0=>?_) fun hc0=>?_
 .refine aE ?_;refine cY ?_;have hw:fT r b.name b.range=4:=by rw[fT,aw hc0]
  rw[pL,aw (by rw[hw];decide),hw]
 refine bN ?_;refine fO (fun hc1=>?_) fun hc1=>?_
 .refine aE ?_;refine cY ?_;have hw:fT r b.name b.range=8:=by rw[fT,ak (by simp[hc0]),aw hc1]
  rw[pL,aw (by rw[hw];decide),hw]
 refine ay ?_;refine aq (hc:=h572 b.range hp0.2.1) ?_;refine ay ?_;refine wp_cond (fun hc2=>?_) (fun hc2=>?_)
 .try simp only[dq]at hc2
  refine aE ?_;refine cY ?_;have hw:fT r b.name b.range=6:=by rw[fT,ak (by simp[hc0]),ak hc1,aw hc2]
  rw[pL,aw (by rw[hw];decide),hw]
 simp only[bM]at hc2;have hw0:fT r b.name b.range=0:=by rw[fT,ak (by simp[hc0]),ak hc1,ak (by simp[hc2])]
 refine ay ?_;refine aq (hc:=h670 _) ?_;refine ay ?_;refine fO (fun hc3=>?_) fun hc3=>?_
 .refine aE ?_;refine cY ?_;rw[pL,ak (by simp[hw0]),aw hc3]
 refine aD ?_;refine cY ?_;rw[pL,ak (by simp[hw0]),ak (by simp[hc3])]
noncomputable def Fy:aC:=cR 193
def w673  (r:Rec)(x:au)   :di Y Fy (.bool (Hw r.needs x)) [Rec.D r,.str x]:=by
 show bK _ _ _ [⟨_,_⟩,⟨_,_⟩,_,_,_,_,_] _;refine ar ?_;refine aZ ?_;refine ba hm (ι:=Nat) (fun i=>[.un,⟨true,.str x⟩,.un,⟨true,.int .i64 (i:Nat)⟩,⟨true,.ptr 0 9 0 0⟩,.un,.un]) (fun i=>[(0,.buf 9 [Rec.D r])]) 3 (fun i=>i<=r.needs.length/\Hw r.needs x=(r.needs.drop i).any (fun n=>decide (n.option=x))) (fun i=>r.needs.length-i) 0 ⟨ae,rfl⟩ (du [(0,0)]) ?_;rintro i ⟨hi,hr⟩;refine aD ?_;intro u0;refine ax ?_;refine cG (fun hc0=>?_) fun hc0=>?_
 .refine aD ?_;refine bI i ?_;refine aE ?_;refine fO (fun hc1=>?_) fun hc1=>?_
  .refine aD ?_;refine bV ?_;rw[hr,vv (c:=fun n:bp=>decide (n.option=x)) ae (ca hc1)]
  refine bN ?_;exact⟨i+1,⟨ae,by rw[hr,Ap (c:=fun n:bp=>decide (n.option=x)) ae (cI hc1)]⟩,ae,(du [(0,0)])⟩
 refine aD ?_;refine bV ?_;rw[hr,vu ae]
noncomputable def Fz:aC:=cR 194
def w674  (r:Rec)(x:au)   :di Y Fz (.bool (yq r.needs x)) [Rec.D r,.str x]:=by
 show bK _ _ _ [⟨_,_⟩,⟨_,_⟩,_,_,_,_,_] _;refine ar ?_;refine aZ ?_;refine ba hm (ι:=Nat) (fun i=>[.un,⟨true,.str x⟩,.un,⟨true,.int .i64 (i:Nat)⟩,⟨true,.ptr 0 9 0 0⟩,.un,.un]) (fun i=>[(0,.buf 9 [Rec.D r])]) 3 (fun i=>i<=r.needs.length/\yq r.needs x=(r.needs.drop i).any (fun n=>decide (n.any.length=1)&&decide (n.any[0]!.name=x))) (fun i=>r.needs.length-i) 0 ⟨ae,rfl⟩ (du [(0,0)]) ?_;rintro i ⟨hi,hr⟩;refine aD ?_;intro u0;refine ax ?_;refine cG (fun hc0=>?_) fun hc0=>?_
 .refine aD ?_;refine bI i ?_;refine ay ?_;intro u1;refine aE ?_;refine bI i (hb:=fun _=>ae) ?_;refine aA ?_;refine bE (q:=bp.D) (xs:=r.needs) (i:=i) (hi:=fun _=>ae) (v:=(.sl 4 (r.needs[i]!.any.map bT.D))) ?_;refine bI 0 (hb:=fun h=>by simp only[gH,beq_iff_eq,bC,aK]at h;omega) ?_;refine aA ?_;refine bE (q:=bT.D) (xs:=r.needs[i]!.any) (i:=0) (hi:=fun h=>by simp only[gH,beq_iff_eq,bC,aK]at h;omega) (v:=(.str r.needs[i]!.any[0]!.name)) ?_;refine aB ?_;refine wp_cond (fun hc1=>?_) (fun hc1=>?_)
  .rw[gY.2 (show((r.needs[i]!.any.length:Nat):Int)=1↔r.needs[i]!.any.length=1 by omega)]at hc1;have hz:=hc1;refine aD ?_;refine bV ?_;rw[hr,vv ae hz]
  rw[gY.2 (show((r.needs[i]!.any.length:Nat):Int)=1↔r.needs[i]!.any.length=1 by omega)]at hc1;have hz:=hc1;refine bN ?_;exact⟨i+1,⟨ae,by rw[hr,Ap ae hz]⟩,ae,(du [(0,0)])⟩
 refine aD ?_;refine bV ?_;rw[hr,vu ae]
noncomputable def HW:aC:=cR 152
def w460 (h672:Yb Y)(h673:C673 Y)(h674:C674 Y)(r:Rec)(of:List au)  (hp0:∀t∈of,t.length<=1048576):di Y HW (.int .i64 (lj r of)) [Rec.D r,.sl 1 (of.map D.str)]:=by
 show bK _ _ _ [⟨_,_⟩,⟨_,_⟩,_,_,_,_,_,_,_,_] _;refine ar ?_;refine aZ ?_;refine ba hm (ι:=Nat) (fun i=>[.un,⟨true,.sl 1 (of.map D.str)⟩,.un,⟨true,.int .i64 (i:Nat)⟩,.un,.un,⟨true,.ptr 0 9 0 0⟩,.un,.un,.un]) (fun i=>[(0,.buf 9 [Rec.D r])]) 3 (fun i=>i<=of.length/\lj r of=fL (fun i=>j9 r of[i]!) i of.length) (fun i=>of.length-i) 0 ⟨ae,rfl⟩ (du [(0,0)]) ?_;rintro i ⟨hi,hr⟩;refine aE ?_;intro u0;refine ax ?_;refine cG (fun hc0=>?_) fun hc0=>?_
 .refine aZ ?_;refine aq (hc:=h672 of[i]! (hp0 _ (bF ae))) ?_;refine Cn ?_;refine aq (hc:=h673 r (dK of[i]!).2.1) ?_;refine ay ?_;refine av (fun hc1=>?_) (fun hc1=>?_)
  .try simp only[dq]at hc1
   refine aZ ?_;refine cY ?_;have he:j9 r of[i]! =14:=by rw[j9,aw hc1]
   rw[hr,mc ae (by rw[he];decide),he]
  have hn1:¬((dK of[i]!).1=2/\Hw r.needs (dK of[i]!).2.1=false):=by rintro⟨g1,g2⟩;rw[g1,g2]at hc1;cases hc1
  refine aZ ?_;refine aq (hc:=h674 r (dK of[i]!).2.1) ?_;refine ay ?_;refine wp_cond (fun hc2=>?_) (fun hc2=>?_)
  .try simp only[dq]at hc2
   refine aD ?_;refine cY ?_;have he:j9 r of[i]! =16:=by rw[j9,ak hn1,aw hc2]
   rw[hr,mc ae (by rw[he];decide),he]
  have hn2:¬((dK of[i]!).1=3/\yq r.needs (dK of[i]!).2.1=false):=by rintro⟨g1,g2⟩;rw[g1,g2]at hc2;cases hc2
  refine bN ?_;exact⟨i+1,⟨ae,by rw[hr,n5 ae (by rw[j9,ak hn1,ak hn2])]⟩,ae,(du [(0,0)])⟩
 refine aD ?_;refine cY ?_;rw[hr,nZ ae]
noncomputable def lr:aC:=cR 211
def w808 {Y:Ctx}(hm:(Y.at 2).b8)(part:List au->List Nd->PR)(pn:Nat)(wd:au)(op:Int)(w:List au)(nd:List Nd)(h946:Yj (Y.at 2))(h947:N9 (Y.at 2))(h948:QS (Y.at 2))(hp0:nd.length+2*w.length<=1000)(hp1:vn part)(hp2:pn<1000000)(hp3:wd≠[])(hp4:∀(w2:List au)(nd2:List Nd),w2.length<=w.length->nd2.length+2*w2.length<=1000->pD (Y.at 2) 3 iW pn [] w2 nd2 false (eC (part w2 nd2) w2 nd2) Va):bK (Y.at 2) lr.body (j5 lr (yE 3 iW (eC (iZ part wd op w nd) w nd) Va):Ex->List ch->St->Prop) (fF lr [.ptr 0 3 0 0,.str wd,.int .i64 op,.fn pn []]) ⟨2,[(0,.buf 3 [iW w (.own 1 5 0 nd.length) false]),(1,.buf 5 (nd.map Nd.D))]⟩:=by
 show bK _ _ _ [⟨true,.ptr 0 3 0 0⟩,⟨true,.str wd⟩,⟨true,.int .i64 op⟩,⟨true,.fn pn []⟩,.un,.un,.un,.un] ⟨2,[(0,.buf 3 [iW w (.own 1 5 0 nd.length) false]),(1,.buf 5 (nd.map Nd.D))]⟩;have hpn:Cy pn=pn:=aw hp2;have hpa:∀apT:List D,Ay pn apT []=apT:=fun apT=>by rw[Ay,aw hp2,gX]
 refine ar ?_;refine aE ?_;refine od (apT:=[.ptr 0 3 0 0]) (eC (part w nd) w nd) Va 4 (fun o=>[(5,.buf 5 (o.nd.map Nd.D)),(0,.buf 3 [iW o.w (.own 5 5 0 o.nd.length) o.bad])]) (fun o0 ho0=>?_) (hc:=fun K' hK=>by rw[hpn];exact hp4 w nd (aL _) ae _ 0 1 _ K' ah ah cd cd (fun o ho=>hK o ho)) (hn:=aF) (hn2:=ae) (ha:=hpa _);refine ax ?_;refine ba hm (ι:=PO) (fun o=>[⟨true,.ptr 0 3 0 0⟩,⟨true,.str wd⟩,⟨true,.int .i64 op⟩,⟨true,.fn pn []⟩,.un,.un,⟨true,.int .i64 o.a⟩,.un]) (fun o=>[(0,.buf 3 [iW o.w (.own 2 5 0 o.nd.length) o.bad]),(2,.buf 5 (o.nd.map Nd.D))]) 8 (fun o=>I2 part wd op (iZ part wd op w nd) w nd o) (fun o=>o.w.length) o0 (I2.first ho0) (a7.to [(5,2)] ah ah ei (by refine eN ?_;refine bo.nl 5 ah ah ah eL ?_;exact bo.nil)) ?_;rintro⟨a,w1,nd1,bad⟩ hI;dsimp only;have hpb:=hI.2;have hl1:=hpb.1;have hl2:=hpb.2.1;dsimp only at hl1 hl2;refine c7 ?_;refine c9 (hc:=fun _=>h946 w1 _ bad) (hp:=fun _=>Sz ah ah) ?_;refine aB ?_;refine av (fun hc0=>?_) (fun hc0=>?_)
 .simp only[bC,bd,aK]at hc0;obtain⟨rfl,hts⟩:=hc0;obtain⟨r,rfl⟩:=tz hp3 hts;simp only[aP]at hl1 hl2;refine aB ?_;refine cy (nx':=19) (v:=.str wd) (m':=[(0,.buf 3 [iW r (.own 2 5 0 nd1.length) false]),(2,.buf 5 (nd1.map Nd.D))]) (hc:=fun K' hK=>take_cons h947 hp3 r nd1 false _ 0 2 _ K' ah ah cd cd (fun o ho=>by subst ho;exact hK)) (hn:=aF) ?_;refine aB ?_;refine od (apT:=[.ptr 0 3 0 0]) (eC (part r nd1) r nd1) Va 22 (fun o=>[(23,.buf 5 (o.nd.map Nd.D)),(0,.buf 3 [iW o.w (.own 23 5 0 o.nd.length) o.bad])]) (fun o2 ho2=>?_) (hc:=fun K' hK=>by rw[hpn];exact hp4 r nd1 ae ae _ 0 2 _ K' ah ah cd cd (fun o ho=>hK o ho)) (hn:=aF) (hn2:=ae) (ha:=hpa _);have hl3:=ho2.2.2.1;have hl4:=ho2.2.1;refine aZ ?_;refine bg (Nd.D (⟨op,a,o2.a,0,[]⟩:Nd)) ?_;refine cy (nx':=27) (v:=.int .i64 (o2.nd.length:Nat)) (m':=[(31,.buf 5 ((o2.nd++[(⟨op,a,o2.a,0,[]⟩:Nd)]).map Nd.D)),(0,.buf 3 [iW o2.w (.own 31 5 0 (o2.nd++[(⟨op,a,o2.a,0,[]⟩:Nd)]).length) o2.bad])]) (hc:=fun K' hK=>h948 (⟨op,a,o2.a,0,[]⟩:Nd) o2.w o2.nd o2.bad ae _ 0 23 _ K' ah ah cd cd (fun o ho=>by subst ho;exact hK)) (hn:=aF) ?_;refine aB ?_;exact⟨⟨(o2.nd.length:Nat),o2.w,o2.nd++[(⟨op,a,o2.a,0,[]⟩:Nd)],o2.bad⟩,I2.next hp1 hI ho2,by dsimp only;simp only[aP];omega,(a7.to [(31,2)] ah ah ei (by refine eN ?_;refine bo.nl 31 ah ah ah eL ?_;exact bo.nil))⟩
 have hx:=Ot hc0;refine aZ ?_;refine bP trivial eh (bS ah (aj (D.int .i64) ?_)) ah ⟨⟨a,w1,nd1,bad⟩,2,aF,hI.last hx,rfl,rfl,rfl⟩;rfl
noncomputable def nw:aC:=cR 179
def w660 {Y:Ctx}(hm:(Y.at 2).b8)(w:List au)(nd:List Nd)(h808:QQ (Y.at 2) (6*w.length+4))(hp0:nd.length+2*w.length<=1000):bK (Y.at 2) nw.body (j5 nw (yE 3 iW (eC (jf w nd) w nd) Va):Ex->List ch->St->Prop) (fF nw [.ptr 0 3 0 0]) ⟨2,[(0,.buf 3 [iW w (.own 1 5 0 nd.length) false]),(1,.buf 5 (nd.map Nd.D))]⟩:=by
 show bK _ _ _ [⟨true,.ptr 0 3 0 0⟩,.un] ⟨2,[(0,.buf 3 [iW w (.own 1 5 0 nd.length) false]),(1,.buf 5 (nd.map Nd.D))]⟩;refine ar ?_;refine aB ?_;refine gR (eC (jf w nd) w nd) Va 4 (fun o=>[(4,.buf 5 (o.nd.map Nd.D)),(0,.buf 3 [iW o.w (.own 4 5 0 o.nd.length) o.bad])]) (fun o1 ho1=>?_) (hc:=fun K' hK=>h808.1 w nd hp0 ae _ 0 1 _ K' ah ah cd cd (fun o ho=>hK o ho)) (hn:=aF);refine ay ?_;refine bP trivial eh (bS ah (aj (D.int .i64) ?_)) ah ⟨o1,4,aF,ho1,rfl,rfl,rfl⟩;rfl
noncomputable def mi:aC:=cR 212
def w809 {Y:Ctx}(hm:(Y.at 2).b8)(w:List au)(nd:List Nd)(h808:QQ (Y.at 2) (6*w.length+2))(hp0:nd.length+2*w.length<=1000):bK (Y.at 2) mi.body (j5 mi (yE 3 iW (eC (kZ w nd) w nd) Va):Ex->List ch->St->Prop) (fF mi [.ptr 0 3 0 0]) ⟨2,[(0,.buf 3 [iW w (.own 1 5 0 nd.length) false]),(1,.buf 5 (nd.map Nd.D))]⟩:=by
 show bK _ _ _ [⟨true,.ptr 0 3 0 0⟩,.un] ⟨2,[(0,.buf 3 [iW w (.own 1 5 0 nd.length) false]),(1,.buf 5 (nd.map Nd.D))]⟩;refine ar ?_;refine aB ?_;refine gR (eC (kZ w nd) w nd) Va 4 (fun o=>[(4,.buf 5 (o.nd.map Nd.D)),(0,.buf 3 [iW o.w (.own 4 5 0 o.nd.length) o.bad])]) (fun o1 ho1=>?_) (hc:=fun K' hK=>h808.2 w nd hp0 ae _ 0 1 _ K' ah ah cd cd (fun o ho=>hK o ho)) (hn:=aF);refine ay ?_;refine bP trivial eh (bS ah (aj (D.int .i64) ?_)) ah ⟨o1,4,aF,ho1,rfl,rfl,rfl⟩;rfl
noncomputable def nv:aC:=cR 242
def w949 {Y:Ctx}(hm:(Y.at 2).b8)(w:List au)(nd:List Nd)(h660:WL (Y.at 2) (6*w.length))(h947:N9 (Y.at 2))(h948:QS (Y.at 2))(h949:WO (Y.at 2) (6*w.length))(h1031:QH (Y.at 2))(hp0:nd.length+2*w.length<=1000):bK (Y.at 2) nv.body (j5 nv (yE 3 iW (eC (kn w nd) w nd) Va):Ex->List ch->St->Prop) (fF nv [.ptr 0 3 0 0]) ⟨2,[(0,.buf 3 [iW w (.own 1 5 0 nd.length) false]),(1,.buf 5 (nd.map Nd.D))]⟩:=by
 show bK _ _ _ [⟨true,.ptr 0 3 0 0⟩,.un,.un,.un,.un,.un,.un,.un,.un,.un] ⟨2,[(0,.buf 3 [iW w (.own 1 5 0 nd.length) false]),(1,.buf 5 (nd.map Nd.D))]⟩;refine ar ?_;refine c7 ?_;refine av (fun hc0=>?_) (fun hc0=>?_)
 .skip
  exact absurd hc0 aF
 skip
 refine ay ?_;refine cy (nx':=7) (v:=.str (bA w)) (m':=[(0,.buf 3 [iW (bY w) (.own 1 5 0 nd.length) (dR w false)]),(1,.buf 5 (nd.map Nd.D))]) (hc:=fun K' hK=>h947 w nd false _ 0 1 _ K' ah ah cd cd (fun o ho=>by subst ho;exact hK)) (hn:=aF) ?_;refine fU ?_;refine wp_cond (fun hc1=>?_) (fun hc1=>?_)
 .simp only[aK]at hc1;obtain⟨r,rfl⟩:=tz aF hc1;rw[kC aF,kB aF];simp only[aP]at hp0;refine ax ?_;refine gR (eC (kn r nd) r nd) Va 14 (fun o=>[(14,.buf 5 (o.nd.map Nd.D)),(0,.buf 3 [iW o.w (.own 14 5 0 o.nd.length) o.bad])]) (fun o1 ho1=>?_) (hc:=fun K' hK=>h949 r nd ae (by simp only[aP];omega) _ 0 1 _ K' ah ah cd cd (fun o ho=>hK o ho)) (hn:=aF);have hl3:=ho1.2.2.1;have hl4:=ho1.2.1;refine aE ?_;refine bg (Nd.D (⟨2,o1.a,0,0,[]⟩:Nd)) ?_;refine cy (nx':=18) (v:=.int .i64 (o1.nd.length:Nat)) (m':=[(20,.buf 5 ((o1.nd++[(⟨2,o1.a,0,0,[]⟩:Nd)]).map Nd.D)),(0,.buf 3 [iW o1.w (.own 20 5 0 (o1.nd++[(⟨2,o1.a,0,0,[]⟩:Nd)]).length) o1.bad])]) (hc:=fun K' hK=>h948 (⟨2,o1.a,0,0,[]⟩:Nd) o1.w o1.nd o1.bad ae _ 0 14 _ K' ah ah cd cd (fun o ho=>by subst ho;exact hK)) (hn:=aF) ?_;refine aB ?_;refine bP trivial eh (bS ah (aj (D.int .i64) ?_)) ah ⟨⟨(o1.nd.length:Nat),o1.w,o1.nd++[(⟨2,o1.a,0,0,[]⟩:Nd)],o1.bad⟩,20,aF,L4 ho1,rfl,rfl,rfl⟩;rfl
 simp only[bc]at hc1;refine aB ?_;refine wp_cond (fun hc2=>?_) (fun hc2=>?_)
 .simp only[aK]at hc2;obtain⟨r,rfl⟩:=tz aF hc2;rw[kC aF,kB aF];simp only[aP]at hp0;refine ax ?_;refine gR (eC (jf r nd) r nd) Va 16 (fun o=>[(16,.buf 5 (o.nd.map Nd.D)),(0,.buf 3 [iW o.w (.own 16 5 0 o.nd.length) o.bad])]) (fun o1 ho1=>?_) (hc:=fun K' hK=>h660 r nd ae (by simp only[aP];omega) _ 0 1 _ K' ah ah cd cd (fun o ho=>hK o ho)) (hn:=aF);refine aE ?_;refine cy (nx':=19) (v:=.str (bA o1.w)) (m':=[(16,.buf 5 (o1.nd.map Nd.D)),(0,.buf 3 [iW (bY o1.w) (.own 16 5 0 o1.nd.length) (dR o1.w o1.bad)])]) (hc:=fun K' hK=>h947 o1.w o1.nd o1.bad _ 0 16 _ K' ah ah cd cd (fun o ho=>by subst ho;exact hK)) (hn:=aF) ?_;refine ax ?_;refine av (fun hc3=>?_) (fun hc3=>?_)
  .simp only[bd,bc]at hc3;refine aB ?_;refine aI (iW (bY o1.w) (.own 16 5 0 o1.nd.length) true) (he:=aQ) ?_;refine aZ ?_;refine bP trivial eh (bS ah (aj (D.int .i64) ?_)) ah ⟨⟨o1.a,bY o1.w,o1.nd,true⟩,16,aF,Hx ho1 hc3,rfl,rfl,rfl⟩;rfl
  simp only[bM,aK]at hc3;refine aZ ?_;refine bP trivial eh (bS ah (aj (D.int .i64) ?_)) ah ⟨⟨o1.a,bY o1.w,o1.nd,dR o1.w o1.bad⟩,16,aF,SU ho1 hc3,rfl,rfl,rfl⟩;rfl
 simp only[bc]at hc2;have hfa:=RE (nd:=nd) hc1 hc2;have htl:=(qm w nd).1;refine ay ?_;refine gR (eC (ow (dR w false) (bA w) (bY w) nd) (bY w) nd) Va 16 (fun o=>[(17,.buf 5 (o.nd.map Nd.D)),(0,.buf 3 [iW o.w (.own 17 5 0 o.nd.length) o.bad])]) (fun o1 ho1=>?_) (hc:=fun K' hK=>h1031 (bA w) (bY w) nd (dR w false) ae _ 0 1 _ K' ah ah cd cd (fun o ho=>hK o ho)) (hn:=aF);refine aB ?_;refine bP trivial eh (bS ah (aj (D.int .i64) ?_)) ah ⟨o1,17,aF,SS hfa ho1,rfl,rfl,rfl⟩;rfl
noncomputable def KE:aC:=cR 209
def w684 (h242:QN Y)(h827:UH Y)(h828:Yh Y)(r:An)  (hp0:oQ r):di Y KE (.tup [.str (if kQ r=true then FG r else []),.bool (kQ r)]) [iJ r]:=by
 show bK _ _ _ [⟨_,_⟩,_,_,_,_,_,_,_,_,_,_,_,_,_,_,_,_,_,_] _;refine ar ?_;refine c7 ?_;intro u0;refine aB ?_;refine iy ?_;refine ay ?_;refine cG (fun hc0=>?_) fun hc0=>?_
 .refine aD ?_;refine bG (aH (aj D.str ?_) (aj D.bool ?_));all_goals
   have hq:kQ r=false:=by
    simp only[kQ];rcases hc0 with h|h
    .rw[cI ae];rfl
    .rw[cI (by omega:¬r.length<=6),Bool.and_false];rfl
   simp[hq]
 refine c7 ?_;intro u1;refine ax ?_;have hb:kQ r=cS (fun i=>kU r[i]!) 0 r.length:=by simp only[kQ];rw[ca ae,ca ae];rfl
 refine ba hm (ι:=Nat) (fun i=>[.un,.un,.un,⟨true,.ptr 0 1 0 0⟩,.un,⟨true,.int .i64 (i:Nat)⟩,⟨true,.int .i64 (r.length:Nat)⟩,.un,⟨true,.sl 1 (r.map rz)⟩,.un,.un,.un,.un,.un,.un,.un,.un,.un,⟨true,.own 1 1 0 ((r.map jR).take i).length⟩]) (fun i=>[(0,.buf 1 [iJ r]),(1,.buf 1 (((r.map jR).take i).map D.str))]) 18 (fun i=>i<=r.length/\kQ r=cS (fun i=>kU r[i]!) i r.length/\1<=r.length/\r.length<=6) (fun i=>r.length-i) 0 ⟨ae,hb,ae,ae⟩ (a7.to [(0,0)] ah ah (by repeat(first|exact dr.nil|refine dr.un ?_|refine dr.eq ah ?_|refine dr.nl ah ah ?_|refine dr.ni (Or.inr ⟨_,_,_,rfl⟩) ?_)) (by refine eN ?_;refine bo.mt ah ah ah ah ?_;exact bo.nil)) ?_;rintro i ⟨hi,hr,hr1,hr6⟩;have hti:((r.map jR).take i).length<=i:=by rw[eu];omega
 refine ay ?_;refine cG (fun hc1=>?_) fun hc1=>?_
 .refine fK ?_;intro u2;refine ay ?_;refine iy ?_;refine ay ?_;refine cG (fun hc2=>?_) fun hc2=>?_
  .refine bN ?_;refine bG (aH (aj D.str ?_) (aj D.bool ?_));all_goals
    have hq:kQ r=false:=by
     rw[hr,aU ae];have:kU r[i]! =false:=by
      simp only[kU];rcases hc2 with h|h
      .rw[cI ae];rfl
      .rw[cI (by omega:¬r[i]!.length<=6),Bool.and_false];rfl
     rw[this];rfl
    simp[hq]
  refine bN ?_;intro u3;refine ax ?_;have hal:1<=r[i]!.length/\r[i]!.length<=6:=ae;have hkb:kU r[i]! =cS (fun k=>nN r[i]![k]!) 0 r[i]!.length:=by simp only[kU];rw[ca ae,ca ae];rfl
  refine ba hm (ι:=Nat) (fun k=>[.un,.un,.un,⟨true,.ptr 0 1 0 0⟩,.un,⟨true,.int .i64 (i:Nat)⟩,⟨true,.int .i64 (r.length:Nat)⟩,.un,⟨true,.sl 1 (r.map rz)⟩,.un,.un,⟨true,.int .i64 (k:Nat)⟩,⟨true,.int .i64 (r[i]!.length:Nat)⟩,.un,⟨true,.sl 7 (r[i]!.map dI.D)⟩,.un,.un,⟨true,.own 2 1 0 ((r[i]!.map ep).take k).length⟩,⟨true,.own 1 1 0 ((r.map jR).take i).length⟩]) (fun k=>[(0,.buf 1 [iJ r]),(1,.buf 1 (((r.map jR).take i).map D.str)),(2,.buf 1 (((r[i]!.map ep).take k).map D.str))]) 34 (fun k=>k<=r[i]!.length/\kU r[i]! =cS (fun k=>nN r[i]![k]!) k r[i]!.length) (fun k=>r[i]!.length-k) 0 ⟨ae,hkb⟩ (a7.to [(0,0),(1,1)] ah ah (by repeat(first|exact dr.nil|refine dr.un ?_|refine dr.eq ah ?_|refine dr.nl ah ah ?_|refine dr.ni (Or.inr ⟨_,_,_,rfl⟩) ?_)) (by refine eN ?_;refine eN ?_;refine bo.mt ah ah ah ah ?_;exact bo.nil)) ?_;rintro k ⟨hk,hkr⟩;have htk:((r[i]!.map ep).take k).length<=k:=by rw[eu];omega
  refine ay ?_;refine cG (fun hc3=>?_) fun hc3=>?_
  .refine aB ?_;first|refine bE (v:=(dI.D _)) ?_|refine ff (v:=(dI.D _)) ?_
   refine aA ?_;refine aI (dI.D r[i]![k]!) (he:=aQ) ?_;refine ay ?_;have hlo:=hp0 r[i]! (bF ae) _ (bF (show k<r[i]!.length by omega));refine aA ?_;refine aq (hc:=h827 r[i]![k]! hlo.sm) ?_;refine ax ?_;refine av (fun hc4=>?_) (fun hc4=>?_)
   .simp only[bd]at hc4;refine fU ?_;refine bG (aH (aj D.str ?_) (aj D.bool ?_));all_goals
     have hq:kQ r=false:=by rw[hr,aU ae,hkr,aU ae,hc4];rfl
     simp[hq]
   simp only[bM]at hc4;refine aB ?_;refine aq (hc:=h828 r[i]![k]! hlo.sm) ?_;refine dh [(.str _)] ?_;refine c7 ?_;have hq:=iY ep r[i]! (show k<r[i]!.length by omega);rw[<-hq];exact⟨k+1,⟨ae,by rw[hkr,aU ae,hc4];rfl⟩,ae,(a7.to [(0,0),(1,1),(46,2)] ah ah ei (by refine eN ?_;refine eN ?_;refine bo.nl 46 ah ah ah eL ?_;exact bo.nil))⟩
  refine ay ?_;obtain rfl:k=r[i]!.length:=ae;have hok:kU r[i]! =true:=by rw[hkr,cn ae]
  rw[ee (show(r[i]!.map ep).length<=r[i]!.length by rw[bO];exact aL _)];have hj:∀t∈(r[i]!.map ep),t.length<=2097200:=fun t ht=>by
   obtain⟨c,hc,rfl⟩:=ez.1 ht;exact dp (AE (hp0 r[i]! (bF ae) c hc)) aF
  refine ax ?_;refine aq (hc:=h242 (r[i]!.map ep) [44,32] (by rw[bO];omega) aJ hj) (ha:=fun _=>aj (fun d=>[d,D.str [44,32]]) (pB (q:=D.str) (fun _=>rfl) ah)) (hp:=fun _=>⟨nj (q:=D.str) (fun _=>rfl) ah,rfl,trivial⟩) ?_;refine dh [.str (jR r[i]!)] ?_;refine c7 ?_;have hq:=iY jR r (show i<r.length by omega);rw[<-hq];exact⟨i+1,⟨ae,by rw[hr,aU ae,hok];rfl,hr1,hr6⟩,ae,(a7.to [(0,0),(39,1)] ah ah ei (by refine eN ?_;refine bo.nl 39 ah ah ah eL ?_;exact bo.nil))⟩
 refine ay ?_;obtain rfl:i=r.length:=ae;have hfw:kQ r=true:=by rw[hr,cn ae]
 rw[ee (show(r.map jR).length<=r.length by rw[bO];exact aL _)];have hj:∀t∈(r.map jR),t.length<=2097200:=fun t ht=>by
  obtain⟨a,ha,rfl⟩:=ez.1 ht;obtain⟨i,hi,rfl⟩:=List.mem_iff_getElem.1 ha;have h1:=AK hfw hi;rw[show r[i]! =r[i]by simp[hi]]at h1;exact dp (Ao (hp0 _ ha) (wv h1).2) aF
 refine aA ?_;refine aq (hc:=h242 (r.map jR) [32,124,124,32] (by rw[bO];omega) aJ hj) (ha:=fun _=>aj (fun d=>[d,D.str [32,124,124,32]]) (pB (q:=D.str) (fun _=>rfl) ah)) (hp:=fun _=>⟨nj (q:=D.str) (fun _=>rfl) ah,rfl,trivial⟩) ?_;refine aB ?_;refine bG (aH (aj D.str ?_) (aj D.bool ?_));all_goals (simp only[hfw,aW];first|done|rfl)
noncomputable def Qd:aC:=cR 210
def w685 {Y:Ctx}(hm:(Y.at 0).b8)(h684:UG Y)(r:An)  (hp0:oQ r):di Y Qd (.bool (uH r)) [iJ r]:=by
 show bK _ _ _ [⟨_,_⟩,_,_,_,_] _;refine ar ?_;refine aE ?_;refine aq (hc:=h684 r hp0) ?_;refine fU ?_;refine iy ?_;refine aE ?_;refine bV ?_;cases hf:kQ r with
 |false=>simp[uH,hf]
 |true=>simp only[uH,hf,aW,gH];exact gY.2 ae
noncomputable def Ig:aC:=cR 178
def w496 {Y:Ctx}(hm:(Y.at 0).b8)(h684:UG Y)(r:An)  (hp0:oQ r):di Y Ig (.str (yv r)) [iJ r]:=by
 show bK _ _ _ [⟨_,_⟩,_,_,_,_,_] _;refine ar ?_;refine aD ?_;refine aq (hc:=h684 r hp0) ?_;refine fK ?_;refine iy ?_;refine ay ?_;refine av (fun hc0=>?_) (fun hc0=>?_)
 .simp only[bC,aK]at hc0;refine aD ?_;refine dc ?_;have hm:uH r=true:=by simp only[uH,hc0.1,gH,aK];have:=hc0.2;rw[hc0.1,aw rfl]at this;omega
  simp only[yv,hm,hc0.1,aW]
 skip
 refine aE ?_;refine dc ?_;have hm:uH r=false:=by
  cases hf:kQ r with
  |false=>simp[uH,hf]
  |true=>
   rw[hf]at hc0;simp only[aW,gH,bc]at hc0;simp only[uH,hf,gH,bc];omega
 simp[yv,hm]
noncomputable def JJ:aC:=cR 17
def w478 {Y:Ctx}(hm:(Y.at 0).b8)  (v:Int)(n:Int)  (hp0:0<n/\n<=9223372036854775807):di Y JJ (.int .i64 (v%n)) [.int .i64 v,.int .i64 n]:=by
 show bK _ _ _ [⟨_,_⟩,⟨_,_⟩,_,_,_] _;refine ar ?_;refine aE ?_;refine Mc (v.tmod n) (hn:=by intro _;omega) (hb:=fun _=>rfl) ?_;have ht:=KU v n ae;refine aZ ?_;refine cG (fun hc0=>?_) fun hc0=>?_
 .refine fK ?_;refine cY ?_;exact V4 hp0.1 hc0
 refine aD ?_;refine cY ?_;exact V5 hp0.1 hc0
noncomputable def VI:aC:=cR 79
def w479 {Y:Ctx}(hm:(Y.at 0).b8)  (l:List Int)(i:Int)   :di Y VI (.int .i64 (kS l i)) [.sl 1 (l.map (D.int .i64)),.int .i64 i]:=by
 show bK _ _ _ [⟨_,_⟩,⟨_,_⟩,_,_] _;refine ar ?_;refine c7 ?_;refine iy ?_;refine ay ?_;refine cG (fun hc0=>?_) fun hc0=>?_
 .refine aE ?_;refine cY ?_;simp only[kS];rw[aw hc0]
 refine aB ?_;refine Tj ?_;refine aB ?_;refine cY ?_;simp only[kS];rw[ak ae]
noncomputable def O7:aC:=cR 44
def w228 {Y:Ctx}(hm:(Y.at 0).b8)(h478:N7 Y)(h479:UC Y)(l:List Int)(i:Int)(n:Int)  (hp0:0<n/\n<=9223372036854775807):di Y O7 (.int .i64 (fX l i n)) [.sl 1 (l.map (D.int .i64)),.int .i64 i,.int .i64 n]:=by
 show bK _ _ _ [⟨_,_⟩,⟨_,_⟩,⟨_,_⟩,_] _;refine ar ?_;refine aE ?_;refine aq (hc:=h479 l i) ?_;refine aA ?_;refine aq (hc:=h478 _ n hp0) ?_;refine ay ?_;exact cY rfl
noncomputable def O8:aC:=cR 50
def w227 {Y:Ctx}(hm:(Y.at 0).b8)(h478:N7 Y)(n:Int)   :di Y O8 (.str (fh n)) [.int .i64 n]:=by
 show bK _ _ _ [⟨_,_⟩,_] _;refine ar ?_;refine ay ?_;have hr:=kH n 5 aF;refine df (Sx.map D.str) ?_;refine aA ?_;refine aq (hc:=h478 n 5 aF) ?_;refine Mb (n%5).toNat (.str Sx[(n%5).toNat]!) (hj:=fun _=>ae) (hb:=fun _=>ae) (hv:=fun _=>vC Sx (by show _<5;omega)) ?_;refine ay ?_;exact dc rfl
noncomputable def Pc:aC:=cR 90
def w481 {Y:Ctx}(hm:(Y.at 0).b8)(h478:N7 Y)(n:Int)   :di Y Pc (.str (mW n)) [.int .i64 n]:=by
 show bK _ _ _ [⟨_,_⟩,_] _;refine ar ?_;refine ay ?_;have hr:=kH n 4 aF;refine df (Wt.map D.str) ?_;refine aA ?_;refine aq (hc:=h478 n 4 aF) ?_;refine Mb (n%4).toNat (.str Wt[(n%4).toNat]!) (hj:=fun _=>ae) (hb:=fun _=>ae) (hv:=fun _=>vC Wt (by show _<4;omega)) ?_;refine ay ?_;exact dc rfl
noncomputable def Sc:aC:=cR 52
def w230 {Y:Ctx}(hm:(Y.at 0).b8)(h228:Jb Y)(h482:UD Y)(l:List Int)(i:Int)  (hp0:0<=i/\i<=4000000):di Y Sc (.str (uz l i)) [.sl 1 (l.map (D.int .i64)),.int .i64 i]:=by
 show bK _ _ _ [⟨_,_⟩,⟨_,_⟩,_,_,_,_] _;refine ar ?_;refine ay ?_;refine df (J0.map (D.int .i64)) ?_;refine aA ?_;refine aI (.agg (J0.map (D.int .i64))) (he:=aQ) ?_;refine ax ?_;have hr:=dP l i 6 aF;refine ax ?_;refine aq (hc:=h228 l (i) 6 aF) ?_;refine sk (fX l i 6).toNat (hj:=fun _=>ae) (hb:=fun _=>ae) ?_;refine aT (v:=.int .i64 J0[(fX l i 6).toNat]!) (hv:=fun _=>JM J0 (by show _<6;omega) rfl) (ho:=ae) ?_;refine ay ?_;refine aq (hc:=h228 l (i+1) 3 aF) ?_;refine ay ?_;refine aq (hc:=h228 l (i+2) 2 aF) ?_;refine bg (cq.D (yI l i).v) ?_;refine bg (dI.D (yI l i)) ?_;refine aA ?_;refine aI (dI.D (yI l i)) (he:=aQ) ?_;refine aB ?_;refine aT (v:=.int .i64 (yI l i).op) ?_;refine ax ?_;refine cG (fun hc0=>?_) fun hc0=>?_
 .refine aE ?_;refine dc ?_;unfold uz;rw[aw hc0]
 refine ax ?_;refine cA (d:=dI.D (yI l i)) ?_;refine aq (hc:=h482 (yI l i) (U7 l i)) ?_;refine ay ?_;refine dc ?_;unfold uz;rw[ak hc0]
noncomputable def Pa:aC:=cR 53
def w231 {Y:Ctx}(hm:(Y.at 0).b8)(h228:Jb Y)(h481:XW Y)(l:List Int)(i:Int)  (hp0:0<=i/\i<=4000000):di Y Pa (.str (mU l i)) [.sl 1 (l.map (D.int .i64)),.int .i64 i]:=by
 show bK _ _ _ [⟨_,_⟩,⟨_,_⟩,_,_,_] _;refine ar ?_;refine aE ?_;refine aq (hc:=h228 l (i) 6 aF) ?_;refine aZ ?_;refine av (fun hc0=>?_) (fun hc0=>?_)
 .try simp only[dq]at hc0
  refine aE ?_;refine dc ?_;unfold mU;rw[aw hc0]
 simp only[bc]at hc0;have hr:=dP l i 6 aF;have hr2:=dP l (i+1) 2 aF;have hr3:=dP l (i+1) 3 aF;have hw:=wS (1+fX l (i+1) 3);have hk:=O6 (fX l i 6).toNat ae;have he:=RB (fX l (i+1) 2).toNat ae;refine ax ?_;refine df (Dw.map D.str) ?_;refine aA ?_;refine Mb (fX l i 6).toNat (.str Dw[(fX l i 6).toNat]!) (hj:=fun _=>ae) (hb:=fun _=>ae) (hv:=fun _=>vC Dw (by show _<3;omega)) ?_;refine df (OJ.map D.str) ?_;refine ay ?_;refine aq (hc:=h228 l (i+1) 2 aF) ?_;refine Mb (fX l (i+1) 2).toNat (.str OJ[(fX l (i+1) 2).toNat]!) (hj:=fun _=>ae) (hb:=fun _=>ae) (hv:=fun _=>vC OJ (by show _<2;omega)) ?_;refine dk (hb:=fun _=>ae) ?_;refine ay ?_;refine aq (hc:=h228 l (i+1) 3 aF) ?_;refine aA ?_;refine aq (hc:=h481 _) ?_;refine dk (hb:=fun _=>by simp only[bQ];omega) ?_;refine ay ?_;refine dc ?_;unfold mU;rw[ak hc0]
noncomputable def Fw:aC:=cR 34
def w76 {Y:Ctx}(hm:(Y.at 0).b8)(h70:C70 Y)(h124:N4 Y)(h222:C222 Y)(s:au)   :di Y Fw (.tup [Rec.D (cB s).1,.int .i64 (cB s).2.1,.int .i64 (cB s).2.2]) [.str s]:=by
 show bK _ _ _ [⟨_,_⟩,_,_,_,_,_,_,_,_,_,_,_] _;refine ar ?_;refine bN ?_;intro u0;refine ax ?_;refine av (fun hc0=>?_) (fun hc0=>?_)
 .simp only[aK]at hc0;have hrr:cB s=(hH,3,0):=by unfold cB;rw[aw ae]
  rw[hrr];refine ax ?_;refine bg dy ?_;refine aI dy (he:=aQ) ?_;refine ay ?_;refine kP [(0,.buf 9 [Rec.D hH])] (.bf ah (.cons mN .nil) .nil) ?_;refine aA ?_;refine bG (dj ?_ (aj (D.int .i64) ?_) (aj (D.int .i64) ?_));all_goals rfl
 simp only[bc]at hc0;have hsp:=er 10 s [];have hsp:1<=(ai s 10).length:=hsp;have hsl:=dm s 10;refine ay ?_;refine aq (v:=.sl 1 ((ai s 10).map D.str)) (hc:=h124 s 10 ae) ?_;refine aD ?_;intro u1;refine aA ?_;refine oJ ((ai s 10).length-1) (hj:=fun _=>ae) (hb:=fun _=>ae) ?_;refine bg (Ld.D ⟨((ai s 10).take ((ai s 10).length-1)),0⟩) ?_;refine aB ?_;generalize hLS:((ai s 10).take ((ai s 10).length-1))=LS;have hLl:LS.length=(ai s 10).length-1:=by rw[<-hLS,eu];omega
 have hLm:Cs LS:=fun t ht=>by
  rw[<-hLS]at ht;have:=dT s 10 (kD ht);omega
 have hsm0:(⟨LS,0⟩:Ld).sm:=⟨⟨Nat.zero_le _,by simp only;omega⟩,hLm⟩;obtain⟨hrs,hsf⟩:=Fu hLm;have hsfl:=hsf.length_le;refine aA ?_;refine nV (v:=.tup [Rec.D (gy LS).1,.bool (oX LS).isSome]) (e:=Ld.D ((⟨LS,0⟩:Ld).to (gy LS).2)) (hc:=h222 ⟨LS,0⟩ hsm0) ?_;refine aA ?_;refine eZ (Rec.D _) ?_;refine ax ?_;refine aI (Rec.D (gy LS).1) (he:=aQ) ?_;refine fU ?_;refine aT (v:=.int .i64 ((LS.length-(gy LS).2.length:Nat):Int)) ?_;refine ay ?_;refine aT (v:=.sl 1 (LS.map D.str)) ?_;refine iy ?_;refine aE ?_;refine iy ?_;refine aA ?_;refine bI ((ai s 10).length-1) (hj:=fun _=>ae) (hb:=fun _=>ae) ?_;refine bE (v:=.str (ai s 10)[(ai s 10).length-1]!) (hi:=fun _=>ae) ?_;refine ay ?_;refine av (fun hc1=>?_) (fun hc1=>?_)
 .simp only[cN,bd,aK,bc]at hc1;have hrr:cB s=(hH,2,((LS.length-(gy LS).2.length:Nat):Int)+1):=by
   unfold cB;rw[ak ae];simp only[hLS];rw[aw];rcases hc1 with(h|h)|h
   .exact .inl h
   .refine .inr (.inl fun e=>?_);rw[e]at h;simp only[a8]at h;omega
   .exact .inr (.inr h)
  rw[hrr];refine aA ?_;refine eI 15 (he:=by simp only[lf,iL,iV,lQ,nk,cJ,Nat.reduceEqDiff,aW,aX,cO,ct,cu,cT,cX,bR,bO,aL,bZ,aN,reduceCtorEq,aP,a8,Nat.reduceAdd,Nat.reduceLeDiff,Ld.D,dy,qa];exact rfl) (hm:=by simp only[lf,iL,iV,lQ,nk,cJ,Nat.reduceEqDiff,aW,aX,cO,ct,cu,cT,cX,bR,bO,aL,bZ,aN,reduceCtorEq,aP,a8,Nat.reduceAdd,Nat.reduceLeDiff,Ld.D,dy,Rec.D];exact rfl) ?_;refine aA ?_;refine bg dy ?_;refine ay ?_;refine BF (v:=.int .i64 ((LS.length-(gy LS).2.length:Nat):Int)) ?_;refine aA ?_;refine aI dy (he:=aQ) ?_;refine ay ?_;refine kP [(0,.buf 9 [Rec.D hH]),(22,.buf 9 [Rec.D (gy LS).1])] (.bf ah (.cons mN .nil) (.id ah .nil)) ?_;refine aA ?_;refine bG (dj ?_ (aj (D.int .i64) ?_) (aj (D.int .i64) ?_));all_goals rfl
 simp only[de,bM,aK,bc]at hc1;have hrr:cB s=if(cM (gy LS).1).1≠0 then(hH,(cM (gy LS).1).1,0)else((gy LS).1,0,0):=by
  unfold cB;rw[ak ae];simp only[hLS];rw[ak];rintro(h|h|h)
  .rw[hc1.1.1]at h;cases h
  .exact h (mH (by have:=hc1.1.2;omega))
  .exact h hc1.2
 rw[hrr];refine ay ?_;refine cA (d:=Rec.D (gy LS).1) ?_;refine aq (hc:=h70 (gy LS).1 hrs) ?_;refine fK ?_;refine av (fun hc2=>?_) (fun hc2=>?_)
 .simp only[bd,bc]at hc2;rw[aw hc2];refine ax ?_;refine bg dy ?_;refine aA ?_;refine aI dy (he:=aQ) ?_;refine ay ?_;refine kP [(0,.buf 9 [Rec.D hH]),(15,.buf 2 [Ld.D ((⟨LS,0⟩:Ld).to (gy LS).2)]),(22,.buf 9 [Rec.D (gy LS).1])] (.bf ah (.cons mN .nil) (.id ah (.id ah .nil))) ?_;refine aA ?_;refine bG (dj ?_ (aj (D.int .i64) ?_) (aj (D.int .i64) ?_));all_goals rfl
 simp only[bM,aK]at hc2;rw[ak (by rw[hc2];simp)];refine ax ?_;refine cA (d:=Rec.D (gy LS).1) ?_;refine aI (Rec.D (gy LS).1) (he:=aQ) ?_;refine aB ?_;refine bG (dj ?_ (aj (D.int .i64) ?_) (aj (D.int .i64) ?_));all_goals rfl
noncomputable def KB:aC:=cR 124
def w688 {Y:Ctx}(hm:(Y.at 0).b8)  (c:Int)  (hp0:0<=c/\c<256):di Y KB (.int .i64 (if jI c=true then rp c else-1)) [.int .u8 c]:=by
 show bK _ _ _ [⟨_,_⟩,_,_,_] _;refine ar ?_;refine fK ?_;refine av (fun hc0=>?_) (fun hc0=>?_)
 .simp only[dq]at hc0;refine ay ?_;refine qM (c-48) (hb:=fun _=>IntWalk.u8_in _ ae) ?_;refine lT (c-48) (hb:=fun _=>wrap_i64 ae ae) ?_;refine ay ?_;refine cY ?_;have h1:bn c=true:=by unfold bn;simp[hc0.1,hc0.2]
  unfold jI rp;rw[h1];rfl
 simp only[dq]at hc0;refine fU ?_;refine av (fun hc1=>?_) (fun hc1=>?_)
 .simp only[dq]at hc1;refine ay ?_;refine qM (c-97) (hb:=fun _=>IntWalk.u8_in _ ae) ?_;refine lT (c-97) (hb:=fun _=>wrap_i64 ae ae) ?_;refine aB ?_;refine cY ?_;have h1:bn c=false:=by unfold bn;simp only[dz,bc];omega
  unfold jI rp;rw[h1,ca hc1.1,ca hc1.2];simp;omega
 simp only[dq]at hc1;refine aE ?_;refine cY ?_;have h1:bn c=false:=by unfold bn;simp only[dz,bc];omega
 unfold jI rp;rw[h1,show(decide (97<=c)&&decide (c<=102))=false by simp only[dz,bc];omega];rfl
noncomputable def P7:aC:=cR 74
def w500 (h688:C688 Y)(s:au)   :di Y P7 (.tup [.int .u64 (pr s),.bool (iQ s)]) [.str s]:=by
 show bK _ _ _ [⟨_,_⟩,_,_,_,_,_,_,_,_] _;refine ar ?_;refine aZ ?_;intro u0;refine ax ?_;refine cG (fun hc0=>?_) fun hc0=>?_
 .refine aD ?_;refine bG (aH (aj (D.int .u64) ?_) (aj D.bool ?_));all_goals
   have:iQ s=false:=by simp only[iQ];rw[cI (by omega:¬s.length=16)];rfl
   simp[pr,this]
 refine bN ?_;have h16:s.length=16:=ae;have hP:iQ s=cS (fun i=>jI (at8 s i)) 0 s.length:=by simp only[iQ];rw[ca h16];rfl
 refine ba hm (ι:=Nat) (fun i=>[⟨true,.str s⟩,.un,.un,.un,⟨true,.int .i64 (i:Nat)⟩,.un,.un,.un,⟨true,.int .u64 (oL (s.take i))⟩]) (fun i=>[]) 7 (fun i=>i<=16/\s.length=16/\iQ s=cS (fun i=>jI (at8 s i)) i s.length) (fun i=>16-i) 0 ⟨ae,h16,hP⟩ (du []) ?_;rintro i ⟨hi,h16,hr⟩;refine aE ?_;refine cG (fun hc1=>?_) fun hc1=>?_
 .refine ay ?_;have h256:=UR s i;refine ay ?_;refine aq (hc:=h688 (at8 s i) ae) ?_;refine aZ ?_;refine av (fun hc2=>?_) (fun hc2=>?_)
  .simp only[dq]at hc2;have hz:jI (at8 s i)=false:=by
    cases hq:jI (at8 s i)with
    |false=>rfl
    |true=>rw[hq,aw rfl]at hc2;have:=G3 hq;omega
   refine bN ?_;refine bG (aH (aj (D.int .u64) ?_) (aj D.bool ?_));all_goals
    have:iQ s=false:=by rw[hr,aU ae,hz];rfl
    simp[pr,this]
  simp only[dq]at hc2;have hz:jI (at8 s i)=true:=by
   cases hq:jI (at8 s i)with
   |true=>rfl
   |false=>rw[hq]at hc2;simp at hc2
  have hvv:(if jI (at8 s i)=true then rp (at8 s i)else-1)=rp (at8 s i):=aw hz;have hvb:=G3 hz;refine ay ?_;refine HF (tW (oL (s.take i)) 4) (hb:=fun _=>by rw[show min (Int.toNat (4:Int)) (IntKind.bits .u64)=4 by simp[IntKind.bits]];rfl) ?_;refine aA ?_;refine lT (rp (at8 s i)) (hb:=fun _=>by rw[hvv,IntKind.wrap_u64];omega) ?_;refine HE (oL (s.take (i+1))) (hb:=fun _=>by rw[uR s i ae];rfl) ?_;refine c7 ?_;exact⟨i+1,⟨ae,h16,by rw[hr,aU ae,hz];rfl⟩,ae,(du [])⟩
 refine bN ?_;refine bG (aH (aj (D.int .u64) ?_) (aj D.bool ?_));all_goals
  have:iQ s=true:=by rw[hr,cn ae]
  have ht:s.take i=s:=ee ae;simp[pr,this,ht]
noncomputable def P8:aC:=cR 27
def w313  (n:Int)   :di Y P8 (.str (fQ n)) [.int .u64 n]:=by
 show bK _ _ _ [⟨_,_⟩,_,_,_,_] _;refine ar ?_;refine c7 ?_;refine ba hm (ι:=Nat) (fun k=>[⟨true,.int .u64 n⟩,.un,⟨true,.int .i64 ((15:Int) -(k:Nat))⟩,.un,⟨true,.own 0 1 0 ((fQ n).take k).length⟩]) (fun k=>[(0,.buf 1 (((fQ n).take k).map fun b=>D.int .u8 b.toNat))]) 3 (fun k=>k<=16) (fun k=>16-k) 0 ae (a7.to [] ah ah (by repeat(first|exact dr.nil|refine dr.un ?_|refine dr.eq ah ?_|refine dr.ni (Or.inr ⟨0,1,0,rfl⟩) ?_)) (by repeat(first|exact bo.nil|refine bo.mt ah ah ah ah ?_))) ?_;intro k hk;have htk:=KR n k hk;refine aE ?_;refine cG (fun hc0=>?_) fun hc0=>?_
 .refine aD ?_;refine nW ?_;refine lT ((4*(15-k):Nat):Int) (hb:=fun _=>by rw[IntKind.wrap_u64];omega) ?_;refine tV (sG n (4*(15-k))) (hb:=fun _=>by rw[show min (Int.toNat ((4*(15-k):Nat):Int)) (IntKind.bits .u64)=4*(15-k)by simp[IntKind.bits];omega];rfl) ?_;refine uO ((LZ n (15-k):Nat):Int) (hb:=fun _=>Hp n (15-k)) ?_;have hnib:=xl n (15-k);refine aA ?_;refine dh [.int .u8 _] ?_;refine gV (hb:=ae) ?_;refine ax ?_;rw[<-B8 n k ae];refine aZ ?_;exact⟨k+1,ae,ae,(a7.to [(14,0)] ah ah (by repeat(first|exact dr.nil|refine dr.un ?_|refine dr.eq ah ?_|refine dr.nl (aj (D.int .i64) ae) ah ?_)) (by refine bo.nl 14 ah ah ah eL ?_;exact bo.nil))⟩
 refine aB ?_;refine HD (fQ n) (he:=fun _=>sR.all ah aJ) (hs:=fun _=>by rw[ee (by rw[ig];omega)]) ?_;refine ay ?_;exact dc rfl
noncomputable def Hg:aC:=cR 10
def w85 {Y:Ctx}(hm:(Y.at 0).b8)(h251:C251 Y)(h9086:WM Y)    :di Y Hg (.bool true) []:=by
 show bK _ _ _ [_,_,_,_,_,_,_,_] _;refine ar ?_;refine ay ?_;refine bg (.agg [.str nC,.bq]) ?_;refine aq (v:=.tup [.str Oo,.int .i64 0]) (hc:=by have:=h251 ⟨nC,[]⟩ aJ;rw[aws_p]at this;exact this) ?_;refine aZ ?_;refine aq (v:=.tup [fR.D ⟨nC,[]⟩,.int .i64 0,.int .i64 0]) (hc:=by have:=h9086 Oo aF YM;rw[aws_1]at this;exact this) ?_;refine aA ?_;refine eZ (fR.D _) ?_;refine ay ?_;refine aI (fR.D ⟨nC,[]⟩) (he:=aQ) ?_;refine aB ?_;refine aq (v:=.tup [fR.D (hX Jh).1,.int .i64 2,.int .i64 2]) (hc:=by have:=h9086 Jh aF YN;rw[aj Prod.fst W1,aj Prod.snd W1]at this;exact this) ?_;refine aA ?_;refine eZ (fR.D _) ?_;refine ay ?_;refine aI (fR.D (hX Jh).1) (he:=aQ) ?_;refine Xu ?_;refine aT (v:=.str nC) ?_;refine lX ?_;refine bV ?_;decide
end Go.Abs
