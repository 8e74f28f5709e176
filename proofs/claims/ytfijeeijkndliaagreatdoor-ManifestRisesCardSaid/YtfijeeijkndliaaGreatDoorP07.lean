/- A part of the proofs. -/
import Derived.Test.YtfijeeijkndliaaGreatDoorP06
set_option linter.all false
set_option maxRecDepth 4000
namespace Go.Abs
variable {Y:Ctx}(hm:(Y.at 0).cQ)
def lF:aN:=⟨2,14,[⟨2,none⟩],di,(sq (r1 [gm b7] 2 0) (sq (rg [gm s0,gn (.callM 947 [l0]),gm s0,gn (.callM 947 [l2]),gm l1,gm l3] [(8,4),(9,5)]) (sq (sq (rg [gx 950 [] [],gl l0,gm b7] [(6,0),(4,1),(3,2)]) (.block 0 (.loop (sq (r1 [bo s3 s4] 5 0) (sq (jG s5 0) (sq (.block 1 (sq (rg [gm s3,ga 1 s6 s3,gd l1,gm l0,gm l2] [(11,3),(7,4)]) (sq (sq (r1 [gm s7,gm s1,dd l0 l1,gm l2,fZ 3 s0,dc 3 (.nilck l4),mh 3 2 l5,mg 3 l6,gR l3 l7,gm l8,fZ 9 s8,dc 9 (gO l10 (cs [61])),fZ 9 kl,gmt 12 s8,dC 12 (gO nQ (cs [33,61])),Ei 9 mG n7,gR l9 pL,gm si,fZ 17 s9,dc 17 (.call 349 [yg] di),dc 17 (.un .not Bc),gR xd C1] 10 21) (.cond mL (.exit 1) .skip)) (sq (r1 [gm s0,gm pU,gm s9,gn (.build [.int .i64 0,.int .i64 0,.int .i64 0,.int .i64 0,.str []] [(0,1,cN),(3,1,l1),(4,1,l2)]),gn (.callM 948 [l0,l3]),gm l4] 13 5) (sq (sq (r1 [gm s8,aU l0 (cs [33,61])] 12 1) (.cond m6 (r1 [gm s0,gm rq,gn (.build [.int .i64 0,.int .i64 0,.int .i64 0,.int .i64 0,.str []] [(0,1,mi),(1,1,l1)]),gn (.callM 948 [l0,l2]),gm l3] 13 4) .skip)) (sq (r1 [gm rq,gm l0] 2 1) .ret)))))) (r1 [ay s3 cN,gm l0] 3 1))))))) (sq (rg [gm s0,gc l0,gf 2 l1,gt 1 l2 xc] []) (sq (r1 [gm b7] 2 0) .ret)))))⟩
def TB {Y:Ctx}(hm:(Y.at 2).cQ)(k:ak)(w:List ak)(nd:List Nd)(b:Bool)(h349:Ct (Y.at 2))(h947:Gf (Y.at 2))(h948:Iv (Y.at 2))(h950:O8 (Y.at 2))(hp0:nd.length+2*w.length<=1000):ca (Y.at 2) lF.body (nU lF (Cx 3 gy (fB (lz b k w nd) w nd) Va):Ex->List bE->St->Prop) (gh lF [.ptr 0 3 0 0,.str k]) ⟨2,[(0,.buf 3 [gy w (.own 1 5 0 nd.length) b]),(1,.buf 5 (nd.map Nd.D))]⟩:=by
 show ca _ _ _ [⟨true,.ptr 0 3 0 0⟩,⟨true,.str k⟩,.un,.un,.un,.un,.un,.un,.un,.un,.un,.un,.un,.un] ⟨2,[(0,.buf 3 [gy w (.own 1 5 0 nd.length) b]),(1,.buf 5 (nd.map Nd.D))]⟩;refine av ?_;refine aK ?_;refine dp (nx':=3) (v:=.str (cF w)) (m':=[(0,.buf 3 [gy (bn w) (.own 1 5 0 nd.length) (cO w b)]),(1,.buf 5 (nd.map Nd.D))]) (hc:=fun K' hK=>h947 w nd b _ 0 1 _ K' ah ah dK dK (fun o ho=>by subst ho;exact hK)) (hn:=aE) ?_;refine az ?_;refine dp (nx':=3) (v:=.str (cF (bn w))) (m':=[(0,.buf 3 [gy (bn (bn w)) (.own 1 5 0 nd.length) (cO (bn w) (cO w b))]),(1,.buf 5 (nd.map Nd.D))]) (hc:=fun K' hK=>h947 (bn w) nd (cO w b) _ 0 1 _ K' ah ah dK dK (fun o ho=>by subst ho;exact hK)) (hn:=aE) ?_;refine bm ?_;refine aq (hc:=h950) ?_;refine az ?_;intro u0;refine aA ?_;refine bO hm (ι:=Nat) (fun i=>[⟨true,.ptr 0 3 0 0⟩,⟨true,.str k⟩,.un,⟨true,.int .i64 (i:Nat)⟩,⟨true,.int .i64 3⟩,.un,⟨true,.sl 1 (oG.map D.str)⟩,.un,⟨true,.str (cF w)⟩,⟨true,.str (cF (bn w))⟩,.un,.un,.un,.un]) (fun i=>[(0,.buf 3 [gy (bn (bn w)) (.own 1 5 0 nd.length) (cO (bn w) (cO w b))]),(1,.buf 5 (nd.map Nd.D))]) 12 (fun i=>i<=3/\∀j,j<i->CX j k (cF w) (cF (bn w)) (cO (bn w) (cO w b))=false) (fun i=>3-i) 0 ⟨ae,fun j hj=>ae⟩ (aW.to [] ah ah fF (by refine jS ?_;refine jS ?_;exact bg.nil)) ?_;rintro i ⟨hi,hr⟩;refine aG ?_;refine dR (fun hc0=>?_) fun hc0=>?_
 .refine aK ?_;refine cr i (hb:=fun _=>by show _<3;omega) ?_;refine b6 (q:=D.str) (xs:=oG) (i:=i) (k:=1) (o:=0) (hi:=fun _=>by show i<3;omega) (v:=(.str oG[i]!)) ?_;refine TH ?_;refine aq (hc:=h349 _) ?_;refine aG ?_;refine ax (fun hc1=>?_) (fun hc1=>?_)
  .have hno:CX i k (cF w) (cF (bn w)) (cO (bn w) (cO w b))=false:=ar (!·) hc1;refine bI ?_;exact⟨i+1,⟨ae,fun j hj=>by rcases fH j i with h|h;exact hr j h;obtain rfl:j=i:=ae;exact hno⟩,ae,(aW.to [] ah ah fF (by refine jS ?_;refine jS ?_;exact bg.nil))⟩
  have hyes:CX i k (cF w) (cF (bn w)) (cO (bn w) (cO w b))=true:=ar (!·) hc1;obtain⟨ha,hk,iZ⟩:=Jj (nd:=nd) (w:=w) (b:=b) (show i<3 by omega) hyes;have hap:=D3 w nd;have hl1:=hap.1;refine bm ?_;refine bq (Nd.D ⟨1,0,0,(i:Nat),(cF (bn w))⟩) ?_;refine dp (nx':=41) (v:=.int .i64 (nd.length:Nat)) (m':=[(44,.buf 5 ((nd++[(⟨1,0,0,(i:Nat),(cF (bn w))⟩:Nd)]).map Nd.D)),(0,.buf 3 [gy (bn (bn w)) (.own 44 5 0 (nd++[(⟨1,0,0,(i:Nat),(cF (bn w))⟩:Nd)]).length) (cO (bn w) (cO w b))])]) (hc:=fun K' hK=>h948 ⟨1,0,0,(i:Nat),(cF (bn w))⟩ (bn (bn w)) nd (cO (bn w) (cO w b)) ae _ 0 1 _ K' ah ah dK dK (fun o ho=>by subst ho;exact hK)) (hn:=aE) ?_;refine bI ?_;refine ax (fun hc2=>?_) (fun hc2=>?_)
  .simp only[a8]at hc2;have hat:lz b k w nd=some ((((nd++[(⟨1,0,0,(i:Nat),(cF (bn w))⟩:Nd)]).length:Nat):Int),(bn (bn w)),((nd++[(⟨1,0,0,(i:Nat),(cF (bn w))⟩:Nd)])++[(⟨2,(nd.length:Nat),0,0,[]⟩:Nd)])):=by rw[ha];simp only[Ay,hk,aw hc2]
   refine aG ?_;refine bq (Nd.D ⟨2,(nd.length:Nat),0,0,[]⟩) ?_;refine dp (nx':=50) (v:=.int .i64 ((nd++[(⟨1,0,0,(i:Nat),(cF (bn w))⟩:Nd)]).length:Nat)) (m':=[(52,.buf 5 (((nd++[(⟨1,0,0,(i:Nat),(cF (bn w))⟩:Nd)])++[(⟨2,(nd.length:Nat),0,0,[]⟩:Nd)]).map Nd.D)),(0,.buf 3 [gy (bn (bn w)) (.own 52 5 0 ((nd++[(⟨1,0,0,(i:Nat),(cF (bn w))⟩:Nd)])++[(⟨2,(nd.length:Nat),0,0,[]⟩:Nd)]).length) (cO (bn w) (cO w b))])]) (hc:=fun K' hK=>h948 ⟨2,(nd.length:Nat),0,0,[]⟩ (bn (bn w)) (nd++[(⟨1,0,0,(i:Nat),(cF (bn w))⟩:Nd)]) (cO (bn w) (cO w b)) cX _ 0 44 _ K' ah ah dK dK (fun o ho=>by subst ho;exact hK)) (hn:=aE) ?_;refine ez ?_;refine ff trivial js (dw ah (ar (D.int .i64) ?_)) ah ⟨⟨((nd++[(⟨1,0,0,(i:Nat),(cF (bn w))⟩:Nd)]).length:Nat),(bn (bn w)),((nd++[(⟨1,0,0,(i:Nat),(cF (bn w))⟩:Nd)])++[(⟨2,(nd.length:Nat),0,0,[]⟩:Nd)]),(cO (bn w) (cO w b))⟩,52,aE,⟨.inl ⟨hat,iZ⟩,ve hat⟩,rfl,rfl,rfl⟩;rfl
  simp only[bC]at hc2;have hat:lz b k w nd=some (((nd.length:Nat):Int),(bn (bn w)),(nd++[(⟨1,0,0,(i:Nat),(cF (bn w))⟩:Nd)])):=by rw[ha];simp only[Ay,hk,aj hc2]
  refine cH ?_;refine ff trivial js (dw ah (ar (D.int .i64) ?_)) ah ⟨⟨(nd.length:Nat),(bn (bn w)),(nd++[(⟨1,0,0,(i:Nat),(cF (bn w))⟩:Nd)]),(cO (bn w) (cO w b))⟩,44,aE,⟨.inl ⟨hat,iZ⟩,ve hat⟩,rfl,rfl,rfl⟩;rfl
 refine aA ?_;have hn:lz b k w nd=none:=Mr (fun j hj=>hr j ae);refine iL (aW.to (env':=[⟨true,.ptr 0 3 0 0⟩,.un,.un,.un,.un,.un,.un,.un,.un,.un,.un,.un,.un,.un]) (c:=90) (nx':=90) (m':=[(0,.buf 3 [gy (bn (bn w)) (.own 2 5 0 nd.length) (cO (bn w) (cO w b))]),(2,.buf 5 (nd.map Nd.D))]) [(1,2)] rfl ah fF (by refine bg.Ih ah ah ah ?_;refine bg.nl 1 ah ah rfl (by exact bj (fun _=>rfl) _) ?_;exact bg.nil)) ?_;refine aK ?_;refine aQ (gy (bn (bn w)) (.own 2 5 0 nd.length) true) (he:=aT) ?_;refine bm ?_;refine ff trivial js (dw ah (ar (D.int .i64) ?_)) ah ⟨⟨0,(bn (bn w)),nd,true⟩,2,aE,⟨.inr ⟨hn,rfl⟩,D3 w nd⟩,rfl,rfl,rfl⟩;rfl
def Ik (Y:Ctx):Prop:=∀(k:ak) (w:List ak) (nd:List Nd) (b:Bool),nd.length+2*w.length<=1000->sn Y 3 gy 1031 [.str k] w nd b (fB (lz b k w nd) w nd) Va
def C808 (Y:Ctx):Prop:=(∀(w:List ak) (nd:List Nd),nd.length+2*w.length<=1000->sn Y 3 gy 808 [.str B8,.int .i64 4,.fn 809 []] w nd false (fB (lA w nd) w nd) Va)/\(∀(w:List ak) (nd:List Nd),nd.length+2*w.length<=1000->sn Y 3 gy 808 [.str tT,.int .i64 3,.fn 949 []] w nd false (fB (rC w nd) w nd) Va)
def It (Y:Ctx)(u:Nat):Prop:=(∀(w:List ak) (nd:List Nd),nd.length+2*w.length<=1000->6*w.length+3<u->sn Y 3 gy 808 [.str B8,.int .i64 4,.fn 809 []] w nd false (fB (lA w nd) w nd) Va)/\(∀(w:List ak) (nd:List Nd),nd.length+2*w.length<=1000->6*w.length+1<u->sn Y 3 gy 808 [.str tT,.int .i64 3,.fn 949 []] w nd false (fB (rC w nd) w nd) Va)
def O0 (Y:Ctx):Prop:=∀(w:List ak) (nd:List Nd),nd.length+2*w.length<=1000->sn Y 3 gy 660 [] w nd false (fB (lA w nd) w nd) Va
def NR (Y:Ctx)(u:Nat):Prop:=∀(w:List ak) (nd:List Nd),nd.length+2*w.length<=1000->6*w.length+4<u->sn Y 3 gy 660 [] w nd false (fB (lA w nd) w nd) Va
def C809 (Y:Ctx):Prop:=∀(w:List ak) (nd:List Nd),nd.length+2*w.length<=1000->sn Y 3 gy 809 [] w nd false (fB (rC w nd) w nd) Va
def RX (Y:Ctx)(u:Nat):Prop:=∀(w:List ak) (nd:List Nd),nd.length+2*w.length<=1000->6*w.length+2<u->sn Y 3 gy 809 [] w nd false (fB (rC w nd) w nd) Va
def C949 (Y:Ctx):Prop:=∀(w:List ak) (nd:List Nd),nd.length+2*w.length<=1000->sn Y 3 gy 949 [] w nd false (fB (nw w nd) w nd) Va
def NT (Y:Ctx)(u:Nat):Prop:=∀(w:List ak) (nd:List Nd),nd.length+2*w.length<=1000->6*w.length+0<u->sn Y 3 gy 949 [] w nd false (fB (nw w nd) w nd) Va
def je:aN:=⟨4,8,[⟨4,none⟩],di,(sq (r1 [gm b7] 4 0) (sq (r1 [gm s3,gm s0,gn (.callvM l0 [l1]),gm l2] 6 3) (sq (.block 0 (.loop (sq (sq (r1 [gm s0,gc l0,gf 2 l1,gd l2,p8 l3,gm l4,gmt 5 s0,dC 5 (.call 946 [l6] [[.pt [.sl 1 [.a],.sl 5 [.a,.a,.a,.a,.a],.a]]]),gmt 5 s1,dC 5 (dP l7 l8),iM l5 l9] 5 10) (jG s5 0)) (.block 1 (sq (rg [gm s0,gn (.callM 947 [l0])] []) (sq (r1 [gm s3,gm s0,gn (.callvM l0 [l1]),gm l2] 7 3) (r1 [gm s0,gm s2,gm s6,gm s7,gn (.build [.int .i64 0,.int .i64 0,.int .i64 0,.int .i64 0,.str []] [(0,1,l1),(1,1,l2),(2,1,l3)]),gn (.callM 948 [l0,l4]),gm l5] 6 6))))))) (sq (r1 [gm s6,gm l0] 4 1) .ret))))⟩
def take_cons {Y:Ctx}(h:Gf Y){x:ak}(hx:x≠[])(r:List ak)(nd:List Nd)(b:Bool):SI Y 3 gy 947 [] (x::r) nd b (fun o=>o=⟨0,r,nd,b⟩) (fun _=>.str x):=by
 have:=h (x::r) nd b;rw[iD hx,iC hx]at this;exact this
def Gt {bad:Bool}{w:List ak}{wd:ak}(h:(!bad&&decide (cF w=wd))=false):bad=true\/w.head? ≠some wd:=by
 cases bad with
 |true=>exact .inl rfl
 |false=>
  right;simp only[Bool.not_false,iF,bC]at h
  match w,h with
  |[],_=>simp
  |x::r,h=>intro e;exact h (show x=wd by simpa using e)
def TF {Y:Ctx}(hm:(Y.at 2).cQ)(part:List ak->List Nd->PR)(pn:Nat)(wd:ak)(op:Int)(w:List ak)(nd:List Nd)(h946:O7 (Y.at 2))(h947:Gf (Y.at 2))(h948:Iv (Y.at 2))(hp0:nd.length+2*w.length<=1000)(hp1:tW part)(hp2:pn<1000000)(hp3:wd≠[])(hp4:∀(w2:List ak)(nd2:List Nd),w2.length<=w.length->nd2.length+2*w2.length<=1000->sn (Y.at 2) 3 gy pn [] w2 nd2 false (fB (part w2 nd2) w2 nd2) Va):ca (Y.at 2) je.body (nU je (Cx 3 gy (fB (hY part wd op w nd) w nd) Va):Ex->List bE->St->Prop) (gh je [.ptr 0 3 0 0,.str wd,.int .i64 op,.fn pn []]) ⟨2,[(0,.buf 3 [gy w (.own 1 5 0 nd.length) false]),(1,.buf 5 (nd.map Nd.D))]⟩:=by
 show ca _ _ _ [⟨true,.ptr 0 3 0 0⟩,⟨true,.str wd⟩,⟨true,.int .i64 op⟩,⟨true,.fn pn []⟩,.un,.un,.un,.un] ⟨2,[(0,.buf 3 [gy w (.own 1 5 0 nd.length) false]),(1,.buf 5 (nd.map Nd.D))]⟩;have hpn:xh pn=pn:=aw hp2;have hpa:∀aai:List D,vl pn aai []=aai:=fun aai=>by rw[vl,aw hp2,gD]
 refine av ?_;refine bm ?_;refine ll (aai:=[.ptr 0 3 0 0]) (fB (part w nd) w nd) Va 4 (fun o=>[(5,.buf 5 (o.nd.map Nd.D)),(0,.buf 3 [gy o.w (.own 5 5 0 o.nd.length) o.bad])]) (fun o0 ho0=>?_) (hc:=fun K' hK=>by rw[hpn];exact hp4 w nd (aF _) ae _ 0 1 _ K' ah ah dK dK (fun o ho=>hK o ho)) (hn:=aE) (hn2:=ae) (ha:=hpa _);refine aA ?_;refine bO hm (ι:=PO) (fun o=>[⟨true,.ptr 0 3 0 0⟩,⟨true,.str wd⟩,⟨true,.int .i64 op⟩,⟨true,.fn pn []⟩,.un,.un,⟨true,.int .i64 o.a⟩,.un]) (fun o=>[(0,.buf 3 [gy o.w (.own 2 5 0 o.nd.length) o.bad]),(2,.buf 5 (o.nd.map Nd.D))]) 8 (fun o=>Lo part wd op (hY part wd op w nd) w nd o) (fun o=>o.w.length) o0 (Lo.first ho0) (aW.to [(5,2)] ah ah fF (by refine jS ?_;refine bg.nl 5 ah ah ah eL ?_;exact bg.nil)) ?_;rintro⟨a,w1,nd1,bad⟩ hI;dsimp only;have hpb:=hI.2;have hl1:=hpb.1;have hl2:=hpb.2.1;dsimp only at hl1 hl2;refine ez ?_;refine er (hc:=fun _=>h946 w1 _ bad) (hp:=fun _=>JL ah ah) ?_;refine aK ?_;refine ax (fun hc0=>?_) (fun hc0=>?_)
 .simp only[bt,bP,a8]at hc0;obtain⟨rfl,hts⟩:=hc0;obtain⟨r,rfl⟩:=pV hp3 hts;simp only[aH]at hl1 hl2;refine aK ?_;refine dp (nx':=19) (v:=.str wd) (m':=[(0,.buf 3 [gy r (.own 2 5 0 nd1.length) false]),(2,.buf 5 (nd1.map Nd.D))]) (hc:=fun K' hK=>take_cons h947 hp3 r nd1 false _ 0 2 _ K' ah ah dK dK (fun o ho=>by subst ho;exact hK)) (hn:=aE) ?_;refine aK ?_;refine ll (aai:=[.ptr 0 3 0 0]) (fB (part r nd1) r nd1) Va 22 (fun o=>[(23,.buf 5 (o.nd.map Nd.D)),(0,.buf 3 [gy o.w (.own 23 5 0 o.nd.length) o.bad])]) (fun o2 ho2=>?_) (hc:=fun K' hK=>by rw[hpn];exact hp4 r nd1 ae ae _ 0 2 _ K' ah ah dK dK (fun o ho=>hK o ho)) (hn:=aE) (hn2:=ae) (ha:=hpa _);have hl3:=ho2.2.2.1;have hl4:=ho2.2.1;refine bI ?_;refine bq (Nd.D (⟨op,a,o2.a,0,[]⟩:Nd)) ?_;refine dp (nx':=27) (v:=.int .i64 (o2.nd.length:Nat)) (m':=[(31,.buf 5 ((o2.nd++[(⟨op,a,o2.a,0,[]⟩:Nd)]).map Nd.D)),(0,.buf 3 [gy o2.w (.own 31 5 0 (o2.nd++[(⟨op,a,o2.a,0,[]⟩:Nd)]).length) o2.bad])]) (hc:=fun K' hK=>h948 (⟨op,a,o2.a,0,[]⟩:Nd) o2.w o2.nd o2.bad ae _ 0 23 _ K' ah ah dK dK (fun o ho=>by subst ho;exact hK)) (hn:=aE) ?_;refine aK ?_;exact⟨⟨(o2.nd.length:Nat),o2.w,o2.nd++[(⟨op,a,o2.a,0,[]⟩:Nd)],o2.bad⟩,Lo.next hp1 hI ho2,by dsimp only;simp only[aH];omega,(aW.to [(31,2)] ah ah fF (by refine jS ?_;refine bg.nl 31 ah ah ah eL ?_;exact bg.nil))⟩
 have hx:=Gt hc0;refine bI ?_;refine ff trivial js (dw ah (ar (D.int .i64) ?_)) ah ⟨⟨a,w1,nd1,bad⟩,2,aE,hI.last hx,rfl,rfl,rfl⟩;rfl
def kp:aN:=⟨1,2,mJ,di,(sq (r1 [gm b7] 1 0) (sq (r1 [gm s0,gn (.callM 808 [l0,(cs [111,114]),ud,(.c (.fn 809 []))]),gm l1] 1 2) .ret))⟩
def w660 {Y:Ctx}(hm:(Y.at 2).cQ)(w:List ak)(nd:List Nd)(h808:It (Y.at 2) (6*w.length+4))(hp0:nd.length+2*w.length<=1000):ca (Y.at 2) kp.body (nU kp (Cx 3 gy (fB (lA w nd) w nd) Va):Ex->List bE->St->Prop) (gh kp [.ptr 0 3 0 0]) ⟨2,[(0,.buf 3 [gy w (.own 1 5 0 nd.length) false]),(1,.buf 5 (nd.map Nd.D))]⟩:=by
 show ca _ _ _ [⟨true,.ptr 0 3 0 0⟩,.un] ⟨2,[(0,.buf 3 [gy w (.own 1 5 0 nd.length) false]),(1,.buf 5 (nd.map Nd.D))]⟩;refine av ?_;refine aK ?_;refine mY (fB (lA w nd) w nd) Va 4 (fun o=>[(4,.buf 5 (o.nd.map Nd.D)),(0,.buf 3 [gy o.w (.own 4 5 0 o.nd.length) o.bad])]) (fun o1 ho1=>?_) (hc:=fun K' hK=>h808.1 w nd hp0 ae _ 0 1 _ K' ah ah dK dK (fun o ho=>hK o ho)) (hn:=aE);refine aG ?_;refine ff trivial js (dw ah (ar (D.int .i64) ?_)) ah ⟨o1,4,aE,ho1,rfl,rfl,rfl⟩;rfl
def jJ:aN:=⟨1,2,mJ,di,(sq (r1 [gm b7] 1 0) (sq (r1 [gm s0,gn (.callM 808 [l0,(cs [97,110,100]),k9,(.c (.fn 949 []))]),gm l1] 1 2) .ret))⟩
def w809 {Y:Ctx}(hm:(Y.at 2).cQ)(w:List ak)(nd:List Nd)(h808:It (Y.at 2) (6*w.length+2))(hp0:nd.length+2*w.length<=1000):ca (Y.at 2) jJ.body (nU jJ (Cx 3 gy (fB (rC w nd) w nd) Va):Ex->List bE->St->Prop) (gh jJ [.ptr 0 3 0 0]) ⟨2,[(0,.buf 3 [gy w (.own 1 5 0 nd.length) false]),(1,.buf 5 (nd.map Nd.D))]⟩:=by
 show ca _ _ _ [⟨true,.ptr 0 3 0 0⟩,.un] ⟨2,[(0,.buf 3 [gy w (.own 1 5 0 nd.length) false]),(1,.buf 5 (nd.map Nd.D))]⟩;refine av ?_;refine aK ?_;refine mY (fB (rC w nd) w nd) Va 4 (fun o=>[(4,.buf 5 (o.nd.map Nd.D)),(0,.buf 3 [gy o.w (.own 4 5 0 o.nd.length) o.bad])]) (fun o1 ho1=>?_) (hc:=fun K' hK=>h808.2 w nd hp0 ae _ 0 1 _ K' ah ah dK dK (fun o ho=>hK o ho)) (hn:=aE);refine aG ?_;refine ff trivial js (dw ah (ar (D.int .i64) ?_)) ah ⟨o1,4,aE,ho1,rfl,rfl,rfl⟩;rfl
def ko:aN:=⟨1,10,mJ,di,(sq (r1 [gm b7] 1 0) (sq (sq (r1 [gm s0,gc l0,gf 2 l1,gd l2] 2 3) (qj s2 b7)) (sq (r1 [gm s0,gn (.callM 947 [l0]),gm l1] 3 2) (sq (r1 [gm s3] 4 0) (.block 0 (sq (r1 [aU s4 (cs [110,111,116]),gm l0] 5 1) (.cond s5 (sq (r1 [gm s0,gn (.callM 949 [l0]),gm l1] 6 2) (sq (r1 [gm s0,gm s6,gn (.build [.int .i64 0,.int .i64 0,.int .i64 0,.int .i64 0,.str []] [(0,1,mi),(1,1,l1)]),gn (.callM 948 [l0,l2]),gm l3] 1 4) .ret)) (sq (r1 [aU s4 (cs [40]),gm l0] 7 1) (.cond s7 (sq (r1 [gm s0,gn (.callM 660 [l0]),gm l1] 9 2) (sq (sq (r1 [gm s0,gn (.callM 947 [l0]),dd l1 (cs [41])] 8 2) (.cond s8 (rg [gm s0,gc l0,gf 2 l1,gt 1 l2 xc] []) .skip)) (sq (r1 [gm s9,gm l0] 1 1) .ret))) (sq (r1 [gm s0,gm s3,gn (.callM 1031 [l0,l1]),gm l2] 1 3) .ret))))))))))⟩
def w949 {Y:Ctx}(hm:(Y.at 2).cQ)(w:List ak)(nd:List Nd)(h660:NR (Y.at 2) (6*w.length))(h947:Gf (Y.at 2))(h948:Iv (Y.at 2))(h949:NT (Y.at 2) (6*w.length))(h1031:Ik (Y.at 2))(hp0:nd.length+2*w.length<=1000):ca (Y.at 2) ko.body (nU ko (Cx 3 gy (fB (nw w nd) w nd) Va):Ex->List bE->St->Prop) (gh ko [.ptr 0 3 0 0]) ⟨2,[(0,.buf 3 [gy w (.own 1 5 0 nd.length) false]),(1,.buf 5 (nd.map Nd.D))]⟩:=by
 show ca _ _ _ [⟨true,.ptr 0 3 0 0⟩,.un,.un,.un,.un,.un,.un,.un,.un,.un] ⟨2,[(0,.buf 3 [gy w (.own 1 5 0 nd.length) false]),(1,.buf 5 (nd.map Nd.D))]⟩;refine av ?_;refine ez ?_;refine ax (fun hc0=>?_) (fun hc0=>?_)
 .skip
  exact absurd hc0 aE
 skip
 refine aG ?_;refine dp (nx':=7) (v:=.str (cF w)) (m':=[(0,.buf 3 [gy (bn w) (.own 1 5 0 nd.length) (cO w false)]),(1,.buf 5 (nd.map Nd.D))]) (hc:=fun K' hK=>h947 w nd false _ 0 1 _ K' ah ah dK dK (fun o ho=>by subst ho;exact hK)) (hn:=aE) ?_;refine lV ?_;refine wp_cond (fun hc1=>?_) (fun hc1=>?_)
 .simp only[a8]at hc1;obtain⟨r,rfl⟩:=pV aE hc1;rw[iD aE,iC aE];simp only[aH]at hp0;refine aA ?_;refine mY (fB (nw r nd) r nd) Va 14 (fun o=>[(14,.buf 5 (o.nd.map Nd.D)),(0,.buf 3 [gy o.w (.own 14 5 0 o.nd.length) o.bad])]) (fun o1 ho1=>?_) (hc:=fun K' hK=>h949 r nd ae (by simp only[aH];omega) _ 0 1 _ K' ah ah dK dK (fun o ho=>hK o ho)) (hn:=aE);have hl3:=ho1.2.2.1;have hl4:=ho1.2.1;refine bm ?_;refine bq (Nd.D (⟨2,o1.a,0,0,[]⟩:Nd)) ?_;refine dp (nx':=18) (v:=.int .i64 (o1.nd.length:Nat)) (m':=[(20,.buf 5 ((o1.nd++[(⟨2,o1.a,0,0,[]⟩:Nd)]).map Nd.D)),(0,.buf 3 [gy o1.w (.own 20 5 0 (o1.nd++[(⟨2,o1.a,0,0,[]⟩:Nd)]).length) o1.bad])]) (hc:=fun K' hK=>h948 (⟨2,o1.a,0,0,[]⟩:Nd) o1.w o1.nd o1.bad ae _ 0 14 _ K' ah ah dK dK (fun o ho=>by subst ho;exact hK)) (hn:=aE) ?_;refine aK ?_;refine ff trivial js (dw ah (ar (D.int .i64) ?_)) ah ⟨⟨(o1.nd.length:Nat),o1.w,o1.nd++[(⟨2,o1.a,0,0,[]⟩:Nd)],o1.bad⟩,20,aE,M9 ho1,rfl,rfl,rfl⟩;rfl
 simp only[bC]at hc1;refine aK ?_;refine wp_cond (fun hc2=>?_) (fun hc2=>?_)
 .simp only[a8]at hc2;obtain⟨r,rfl⟩:=pV aE hc2;rw[iD aE,iC aE];simp only[aH]at hp0;refine aA ?_;refine mY (fB (lA r nd) r nd) Va 16 (fun o=>[(16,.buf 5 (o.nd.map Nd.D)),(0,.buf 3 [gy o.w (.own 16 5 0 o.nd.length) o.bad])]) (fun o1 ho1=>?_) (hc:=fun K' hK=>h660 r nd ae (by simp only[aH];omega) _ 0 1 _ K' ah ah dK dK (fun o ho=>hK o ho)) (hn:=aE);refine bm ?_;refine dp (nx':=19) (v:=.str (cF o1.w)) (m':=[(16,.buf 5 (o1.nd.map Nd.D)),(0,.buf 3 [gy (bn o1.w) (.own 16 5 0 o1.nd.length) (cO o1.w o1.bad)])]) (hc:=fun K' hK=>h947 o1.w o1.nd o1.bad _ 0 16 _ K' ah ah dK dK (fun o ho=>by subst ho;exact hK)) (hn:=aE) ?_;refine aA ?_;refine ax (fun hc3=>?_) (fun hc3=>?_)
  .simp only[bP,bC]at hc3;refine aK ?_;refine aQ (gy (bn o1.w) (.own 16 5 0 o1.nd.length) true) (he:=aT) ?_;refine bI ?_;refine ff trivial js (dw ah (ar (D.int .i64) ?_)) ah ⟨⟨o1.a,bn o1.w,o1.nd,true⟩,16,aE,Bu ho1 hc3,rfl,rfl,rfl⟩;rfl
  simp only[cL,a8]at hc3;refine bI ?_;refine ff trivial js (dw ah (ar (D.int .i64) ?_)) ah ⟨⟨o1.a,bn o1.w,o1.nd,cO o1.w o1.bad⟩,16,aE,J2 ho1 hc3,rfl,rfl,rfl⟩;rfl
 simp only[bC]at hc2;have hfa:=I6 (nd:=nd) hc1 hc2;have htl:=(na w nd).1;refine aG ?_;refine mY (fB (lz (cO w false) (cF w) (bn w) nd) (bn w) nd) Va 16 (fun o=>[(17,.buf 5 (o.nd.map Nd.D)),(0,.buf 3 [gy o.w (.own 17 5 0 o.nd.length) o.bad])]) (fun o1 ho1=>?_) (hc:=fun K' hK=>h1031 (cF w) (bn w) nd (cO w false) ae _ 0 1 _ K' ah ah dK dK (fun o ho=>hK o ho)) (hn:=aE);refine aK ?_;refine ff trivial js (dw ah (ar (D.int .i64) ?_)) ah ⟨o1,17,aE,J1 hfa ho1,rfl,rfl,rfl⟩;rfl
def De:aN:=⟨1,8,[⟨1,some (1,true)⟩,⟨2,none⟩],[[.sl 5 [.a,.a,.a,.a,.a]],[.a]],(sq (rg [gb 1 (.c (.agg [.au])),gm b7] [(1,0),(2,1)]) (sq (sq (r1 [gm s0,uE l0,eI l1 (i6 96)] 3 2) (.cond s3 (sq (r1 [gn (.build [.au] []),gt 1 s1 l0,gm k9] 2 2) .ret) .skip)) (sq (sq (r1 [gm s0,aU l0 cse] 4 1) (.cond s4 (sq (r1 [gn (.build [.au] []),gt 1 s1 l0,gm b7] 2 2) .ret) .skip)) (sq (r1 [gm s0,gx 124 [l0,(cs [32])] iZ,gn (.build [.au,.au,.bool false] [(0,1,l1)]),gb 3 l2,gm l3] 5 4) (sq (rg [gm s5,gn (.callM 660 [l0])] []) (sq (r1 [gm s5,gc l0,gf 1 l1,gd l2,gn (.build [.au] [(0,1,l3)]),gb 1 (.c (.agg [.au])),gt 1 l5 l4] 6 5) (sq (sq (r1 [gm s5,gc l0,gf 2 l1,gd l2,gm l3,fZ 4 s5,dc 4 (.nilck l5),mh 4 0 l6,mg 4 l7,dc 4 (.len l8),dc 4 (ew l9 b7),gR l4 l10,gm kl,dc 12 (.ld 1 true s6),dc 12 (.call 661 [nQ] [[.sl 5 [.a,.a,.a,.a,.a]]]),dc 12 (.un .not n7),gR mG pL] 7 16) (.cond s7 (sq (r1 [gn (.build [.au] []),gt 1 s1 l0,gm PH] 2 2) .ret) .skip)) (sq (r1 [gk 1 true s6,gt 1 s1 l0,gm b7] 2 2) .ret))))))))⟩
def w445 {Y:Ctx}(hm:(Y.at 0).cQ)(h124:Il Y)(h660:O0 Y)(h661:O1 Y)(s:ak)   :fo Y De (.tup [oJ (oK s).1,.int .i64 (oK s).2]) [.str s]:=by
 show ca _ _ _ [⟨_,_⟩,_,_,_,_,_,_,_] _;refine av ?_;refine bh ?_;refine nk ?_;refine aA ?_;refine dR (fun hc0=>?_) fun hc0=>?_
 .refine aA ?_;refine ep [.au] ?_;refine aQ (.agg [.au]) (he:=aT) ?_;refine aG ?_;refine cv (aZ ?_ (ar (D.int .i64) ?_));all_goals (have hq:oK s=([],3):=(by simp only[oK];rw[aw ae]);rw[hq];first|done|rfl)
 refine bh ?_;refine ax (fun hc1=>?_) (fun hc1=>?_)
 .try simp only[ed]at hc1
  refine aA ?_;refine ep [.au] ?_;refine aQ (.agg [.au]) (he:=aT) ?_;refine aG ?_;refine cv (aZ ?_ (ar (D.int .i64) ?_));all_goals (have hq:oK s=([],0):=(by simp only[oK];rw[aj ae,aw hc1]);rw[hq];first|done|rfl)
 simp only[bC]at hc1;have hnl:¬96<s.length:=ae;have hsl:=dE s 32;refine aG ?_;refine aq (hc:=h124 s 32 ae) ?_;refine bq (gy (ai s 32) .au false) ?_;refine aG ?_;refine iL (aW.to (env':=[⟨true,.str s⟩,⟨true,.ptr 0 1 0 0⟩,.un,.un,.un,⟨true,.ptr 1 3 0 0⟩,.un,.un]) (c:=20) (nx':=20) (m':=[(0,.buf 1 [.agg [.au]]),(1,.buf 3 [gy (ai s 32) (.own 2 5 0 ([]:List Nd).length) false]),(2,.buf 5 (([]:List Nd).map Nd.D))]) [(0,0),(10,1)] rfl ah fF (by refine bg.gH ah ah ah ?_;refine bg.ni 10 ah ah (by exact⟨_,_,rfl,⟨_,rfl,⟨_,_,rfl,⟨rfl,rfl⟩,⟨_,_,rfl,Or.inr ⟨_,_,_,rfl⟩,⟨_,_,rfl,⟨rfl,rfl⟩,rfl⟩⟩⟩⟩,rfl⟩) ?_;refine bg.mt ah ah ah ah ?_;exact bg.nil)) ?_;refine aA ?_;refine mY (fB (lA (ai s 32) []) (ai s 32) []) Va 21 (fun o=>[(21,.buf 5 (o.nd.map Nd.D)),(0,.buf 1 [.agg [.au]]),(1,.buf 3 [gy o.w (.own 21 5 0 o.nd.length) o.bad])]) (fun o1 ho1=>?_) (hc:=fun K' hK=>h660 (ai s 32) [] (by simp only[aO];omega) _ 1 2 _ K' ah ah dK dK (fun o ho=>hK o ho)) (hn:=aE);refine az ?_;refine eF 21 ?_ (he:=by simp only[kg,hZ,jo,kR,lY,cd,Nat.reduceEqDiff,aP,aM,cA,bY,bQ,cx,cy,bD,bz,aF,bN,aI,reduceCtorEq,aH,aO,Nat.reduceAdd,Nat.reduceLeDiff,gy];exact rfl) (hm:=by simp only[kg,hZ,jo,kR,lY,cd,Nat.reduceEqDiff,aP,aM,cA,bY,bQ,cx,cy,bD,bz,aF,bN,aI,reduceCtorEq,aH,aO,Nat.reduceAdd,Nat.reduceLeDiff,gy];exact rfl);refine aK ?_;refine bZ (v:=.sl 5 (o1.nd.map Nd.D)) ?_;refine bq (oJ o1.nd) ?_;refine az ?_;refine aQ (oJ o1.nd) (he:=aT) ?_;refine bh ?_;refine bZ (v:=.bool o1.bad) ?_;refine aK ?_;refine bZ (v:=.sl 1 (o1.w.map D.str)) ?_;refine nk ?_;refine aG ?_;refine dj (d:=oJ o1.nd) ?_;refine aq (hc:=h661 o1.nd) ?_;refine aG ?_;refine ax (fun hc2=>?_) (fun hc2=>?_)
 .have hmx:=PT ho1 hc2;refine aA ?_;refine ep [.au] ?_;refine aQ (.agg [.au]) (he:=aT) ?_;refine aG ?_;refine cv (aZ ?_ (ar (D.int .i64) ?_));all_goals (have hq:=MT hnl hc1 hmx;rw[hq];first|done|rfl)
 have hmx:=MV ho1 hc2;refine aA ?_;refine dj (d:=oJ o1.nd) ?_;refine aQ (oJ o1.nd) (he:=aT) ?_;refine aG ?_;refine cv (aZ ?_ (ar (D.int .i64) ?_));all_goals (have hq:=MU hnl hc1 hmx;rw[hq];first|done|rfl)
def FB (T:List D->D->Prop):Prop:=∀(s:ak),T [.str s] (.tup [oJ (oK s).1,.int .i64 (oK s).2])
def Rs (Y:Ctx):Prop:=FB (ch Y 445)
def xy:aN:=⟨1,4,mJ,di,(sq (r1 [gm eS] 1 0) (sq (rg [gm s0,gx 445 [l0] di,gm l1,ge l2 0,ge l2 1,gb 1 (.c (.agg [.au])),gt 1 l5 l3,gm l4] [(3,5),(2,7)]) (sq (r1 [gm s2,aU l0 b7,gm l1,dC 2 (.ld 1 true s3),dC 2 (.call 446 [l3] [[.sl 5 [.a,.a,.a,.a,.a]]]),gmt 2 s0,dC 2 (dP l4 l5),iM l2 l6,gm l7] 1 8) .ret)))⟩
def w212 {Y:Ctx}(hm:(Y.at 0).cQ)(h445:Rs Y)(h446:Rt Y)(s:ak)   :fo Y xy (.bool (pN s)) [.str s]:=by
 show ca _ _ _ [⟨_,_⟩,_,_,_] _;refine av ?_;refine aK ?_;refine aq (hc:=h445 s) ?_;refine az ?_;refine hX (oJ _) ?_;refine aA ?_;refine aQ (oJ (oK s).1) (he:=aT) ?_;refine bh ?_;refine dj (d:=oJ (oK s).1) ?_;refine aq (hc:=h446 (oK s).1) ?_;refine bh ?_;exact cz rfl
def E9 (T:List D->D->Prop):Prop:=∀(s:ak),T [.str s] (.bool (pN s))
def OH (Y:Ctx):Prop:=E9 (ch Y 212)
def zY:aN:=⟨2,8,[⟨2,none⟩],di,(sq (r1 [gm b7] 2 0) (sq (sq (rg [gm s0,gl l0,gm b7] [(4,1),(3,2)]) (.block 0 (.loop (sq (r1 [bo s3 s4] 5 0) (sq (jG s5 0) (sq (.block 1 (sq (r1 [gm s3,gm l0] 6 1) (sq (r1 [gm s1,gm s0,gm s6,ga 1 l1 l2,gd l3,aU l0 l4] 7 5) (.cond s7 (sq (r1 [gm s6,gm l0] 2 1) .ret) .skip)))) (r1 [ay s3 cN,gm l0] 3 1))))))) (sq (r1 [gn (.mv (.c (.int .i64 (-1))))] 2 0) .ret)))⟩
def w494  (l:List ak)(x:ak)   :fo Y zY (.int .i64 (sN l x 0)) [.sl 1 (l.map D.str),.str x]:=by
 show ca _ _ _ [⟨_,_⟩,⟨_,_⟩,_,_,_,_,_,_] _;refine av ?_;refine bh ?_;intro u0;refine aA ?_;refine bO hm (ι:=Nat) (fun i=>[⟨true,.sl 1 (l.map D.str)⟩,⟨true,.str x⟩,.un,⟨true,.int .i64 (i:Nat)⟩,⟨true,.int .i64 (l.length:Nat)⟩,.un,.un,.un]) (fun i=>[]) 4 (fun i=>i<=l.length/\sN l x 0=sN l x i) (fun i=>l.length-i) 0 ⟨ae,rfl⟩ (fP []) ?_;rintro i ⟨hi,hr⟩;refine aG ?_;refine dR (fun hc0=>?_) fun hc0=>?_
 .refine y6 ?_;refine iR (fun hc1=>?_) fun hc1=>?_
  .refine bI ?_;refine jj ?_;rw[hr,Mv ae hc1]
  refine bI ?_;exact⟨i+1,⟨ae,by rw[hr,Mw ae hc1]⟩,ae,(fP [])⟩
 refine bh ?_;refine jj ?_;rw[hr,Jo ae]
def FQ (T:List D->D->Prop):Prop:=∀(l:List ak) (x:ak),T [.sl 1 (l.map D.str),.str x] (.int .i64 (sN l x 0))
def RH (Y:Ctx):Prop:=FQ (ch Y 494)
def um:aN:=⟨2,3,[⟨2,none⟩],di,(sq (r1 [gm eS] 2 0) (sq (r1 [gm s0,gm s1,gx 494 [l0,l1] [[.sl 1 [.a]],[.a]],jf l2 b7,gm l3] 2 4) .ret))⟩
def w246 {Y:Ctx}(hm:(Y.at 0).cQ)(h494:RH Y)(l:List ak)(x:ak)   :fo Y um (.bool (decide (x∈l))) [.sl 1 (l.map D.str),.str x]:=by
 show ca _ _ _ [⟨_,_⟩,⟨_,_⟩,_] _;refine av ?_;refine bm ?_;refine aq (hc:=h494 l x) ?_;refine aK ?_;refine cz ?_;exact Jp l x
def Fs (T:List D->D->Prop):Prop:=∀(l:List ak) (x:ak),T [.sl 1 (l.map D.str),.str x] (.bool (decide (x∈l)))
def OM (Y:Ctx):Prop:=Fs (ch Y 246)
def Fq (T:List D->D->Prop):Prop:=∀(s:ak) (n:Int),(s.length<=1048576)->(n=-1\/(1<=n/\n<=1000))->T [.str s,.str [32],.int .i64 n] (.sl 1 ((iE n s).map D.str))
def OL (Y:Ctx):Prop:=Fq (ch Y 245)
def FI (T:List D->D->Prop):Prop:=∀(l:List ak),(l.length<=1048600)->T [.sl 1 (l.map D.str)] (.sl 1 (l.map D.str))
def RA (Y:Ctx):Prop:=FI (ch Y 469)
def iA:aN:=⟨4,11,[⟨4,none⟩,⟨5,none⟩],[[.sl 1 [.a]],[.a]],(sq (rg [gm (.c (.au)),gm eS] [(4,0),(5,1)]) (sq (sq (r2 [gm s0,gc l0,gf 1 l1,gd l2,gm s0,gc l4,gf 0 l5,gd l6,gl l7,jf l3 l8] 6 9) (.cond s6 (sq (rg [gm (.c (.au)),gm eS] [(4,0),(5,1)]) .ret) .skip)) (sq (r1 [gn (.mv (.c (.int .i64 (-1))))] 8 0) (sq (sq (r1 [gm s3] 7 0) (.cond s7 (r1 [gm s2,gm l0] 8 1) .skip)) (sq (r2 [gm s0,gc l0,gf 0 l1,gd l2,gm s0,gc l4,gf 1 l5,gd l6,ga 1 l3 l7,gd l8,gm s8,gx 245 [l9,(cs [32]),l10] QQ,gm kl] 9 12) (sq (sq (r1 [gm s9,ga 1 l0 b7,gd l1,gm s1,dd l2 l3,gm l4,fZ 5 s9,dc 5 (.len l6),dc 5 (rz l7 cN),gR l5 l8,gm l9,fZ 10 s2,dc 10 (ew kl b7),fZ 10 mG,gmt 13 s9,dC 13 (.len n7),gmt 13 s2,dC 13 (gO pL si),Ei 10 nQ xd,gR l10 yg,gm Bc,fZ 20 s9,dc 20 (.call 246 [En,cse] [[.sl 1 [.a]],[.a]]),gR C1 Ii] 10 23) (.cond mL (sq (rg [gm (.c (.au)),gm eS] [(4,0),(5,1)]) .ret) .skip)) (sq (rg [gm s0,gc l0,gf 1 l1,gd l2,ay l3 cN,gc l0,gf 1 l5,gt 1 l6 l4] []) (sq (rg [gm s9,gm l0,gm xc] [(4,1),(5,2)]) .ret))))))))⟩
def TE {Y:Ctx}(hm:(Y.at 1).cQ)(h245:OL (Y.at 1))(h246:OM (Y.at 1))(r:Ld)(w:ak)(n:Nat)(op:Bool)(hp0:r.sm)(hp1:n<=1000)(hp2:op=true->1<=n):ca (Y.at 1) iA.body (Gl iA 2 (.tup [xu (cb w n op r.rest),.bool (cb w n op r.rest).isSome]) (Ld.D (r.after (cb w n op r.rest))):Ex->List bE->St->Prop) (gh iA (.ptr 0 2 0 0::[.str w,.int .i64 (n:Nat),.bool op])) ⟨1,[(0,.buf 2 [(Ld.D r)])]⟩:=by
 show ca _ _ _ [⟨true,.ptr 0 2 0 0⟩,⟨true,.str w⟩,⟨true,.int .i64 (n:Nat)⟩,⟨true,.bool op⟩,.un,.un,.un,.un,.un,.un,.un] ⟨1,[(0,.buf 2 [(Ld.D r)])]⟩;refine av ?_;refine nT ?_;refine nk ?_;refine aA ?_;refine dR (fun hc0=>?_) fun hc0=>?_
 .refine aA ?_;have hv:cb w n op r.rest=none:=by rw[Ld.KI ae];rfl
  rw[hv];refine aK ?_;refine fT trivial js (dw ah (aZ ?_ (ar D.bool ?_))) ah ah ah;all_goals (first|done|rfl)
 refine bh ?_;have hll:=hp0.1;have hlt:r.at'<r.ls.length:=ae;have hwl:=H7 n op r.ls[r.at']! hp2;have hw1:op=true->iE n r.ls[r.at']! =dZ n op r.ls[r.at']! :=fun h=>by rw[<-yU,aw h]
 have hw2:op=false->iE (-1) r.ls[r.at']! =dZ n op r.ls[r.at']! :=fun h=>by rw[<-yU,aj (by rw[h];simp)]
 refine aA ?_;refine dR (fun hc1=>?_) fun hc1=>?_
 .refine y6 ?_;refine b6 (v:=.str r.ls[r.at']!) (hi:=fun _=>ae) ?_;refine az ?_;first|(refine aq (hc:=h245 r.ls[r.at']! (n:Int) (hp0.2 _ (bL ae)) (.inr ⟨by have:=hp2 hc1;omega,ae⟩)) ?_;rw[hw1 hc1])|(refine aq (hc:=h245 r.ls[r.at']! (-1) (hp0.2 _ (bL ae)) (.inl rfl)) ?_;rw[hw2 hc1])
  refine bm ?_;refine cr 0 ?_;refine bm ?_;refine nk ?_;refine aK ?_;first|refine Du ?_|refine Dv ?_
  refine aA ?_;refine nk ?_;refine bh ?_;refine aq (hc:=h246 _ _) ?_;refine aA ?_;refine dR (fun hc2=>?_) fun hc2=>?_
  .refine aA ?_;have hv:cb w n op r.rest=none:=by rw[Ld.pT hlt,cb,Bp hc2 hwl]
   rw[hv];refine aK ?_;refine fT trivial js (dw ah (aZ ?_ (ar D.bool ?_))) ah ah ah;all_goals (first|done|rfl)
  refine ez ?_;refine aQ (Ld.D ⟨r.ls,r.at'+1⟩) (he:=aT) ?_;refine aA ?_;have hv:cb w n op r.rest=some (dZ n op r.ls[r.at']!,r.ls.drop (r.at'+1)):=by rw[Ld.pT hlt,cb,yp hc2]
  rw[hv];refine bm ?_;refine fT trivial js (dw ah (aZ ?_ (ar D.bool ?_))) ah ah ah;all_goals (first|done|rfl)
 refine fJ ?_;refine b6 (v:=.str r.ls[r.at']!) (hi:=fun _=>ae) ?_;refine az ?_;first|(refine aq (hc:=h245 r.ls[r.at']! (n:Int) (hp0.2 _ (bL ae)) (.inr ⟨by have:=hp2 hc1;omega,ae⟩)) ?_;rw[hw1 hc1])|(refine aq (hc:=h245 r.ls[r.at']! (-1) (hp0.2 _ (bL ae)) (.inl rfl)) ?_;rw[hw2 hc1])
 refine bm ?_;refine cr 0 ?_;refine bm ?_;refine nk ?_;refine aK ?_;first|refine Du ?_|refine Dv ?_
 refine aA ?_;refine nk ?_;refine bh ?_;refine aq (hc:=h246 _ _) ?_;refine aA ?_;refine dR (fun hc2=>?_) fun hc2=>?_
 .refine aA ?_;have hv:cb w n op r.rest=none:=by rw[Ld.pT hlt,cb,Bp hc2 hwl]
  rw[hv];refine aK ?_;refine fT trivial js (dw ah (aZ ?_ (ar D.bool ?_))) ah ah ah;all_goals (first|done|rfl)
 refine ez ?_;refine aQ (Ld.D ⟨r.ls,r.at'+1⟩) (he:=aT) ?_;refine aA ?_;have hv:cb w n op r.rest=some (dZ n op r.ls[r.at']!,r.ls.drop (r.at'+1)):=by rw[Ld.pT hlt,cb,yp hc2]
 rw[hv];refine bm ?_;refine fT trivial js (dw ah (aZ ?_ (ar D.bool ?_))) ah ah ah;all_goals (first|done|rfl)
def Lv (Y:Ctx):Prop:=∀(r:Ld) (w:ak) (n:Nat) (op:Bool),(r.sm)->(n<=1000)->(op=true->1<=n)->Y.fp 465 (Ld.D r) [.str w,.int .i64 (n:Nat),.bool op]/\Y.fv 465 (Ld.D r) [.str w,.int .i64 (n:Nat),.bool op]=.tup [xu (cb w n op r.rest),.bool (cb w n op r.rest).isSome]/\Y.fs 465 (Ld.D r) [.str w,.int .i64 (n:Nat),.bool op]=Ld.D (r.after (cb w n op r.rest))
def oV:aN:=⟨2,2,[],[],(sq (rg [gm s0,gm s1,gx 242 [l1,(cs [32])] [[.sl 1 [.a]],[.a]],gn (.callM 489 [l0,l2])] []) (rg [gm s0,gn (.callM 664 [l0,(i8 10)])] []))⟩
def w450 {Y:Ctx}(hm:(Y.at 3).cQ)(ws:List ak)(t:ak)(m0:List (Nat×bp))(h242:Iq (Y.at 3))(h489:OV (Y.at 3))(h664:O3 (Y.at 3))(hp0:qf m0 0 t)(hp1:look m0 1=some (.buf 1 (ws.map D.str)))(hp2:y9 ws t):ca (Y.at 3) oV.body (nU oV (fun d m=>d=.tup []/\look m 0=some (.bld (some 9) (t++b9 ws).length true)/\look m 9=some (.row (t++b9 ws))):Ex->List bE->St->Prop) (gh oV [.ptr 0 2 0 0,.own 1 1 0 ws.length]) ⟨3,m0⟩:=by
 show ca _ _ _ [⟨true,.ptr 0 2 0 0⟩,⟨true,.own 1 1 0 ws.length⟩] ⟨3,m0⟩;obtain⟨⟨q1,q2⟩,q3,q4⟩:=hp2;have hlt:t++b9 ws=t++aR [32] ws++[10]:=by unfold b9;simp
 refine av ?_;refine aA ?_;refine aq (hc:=h242 ws [32] q2 aE q3) (ha:=fun _=>ar (fun d=>[d,D.str [32]]) (uS (q:=D.str) (fun _=>rfl) hp1)) (hp:=fun _=>⟨se (q:=D.str) (fun _=>rfl) hp1,rfl,trivial⟩) ?_;refine dp (nx':=4) (v:=.any) (m':=oe m0 0 6 (t++aR [32] ws)) (hc:=fun K' hK=>h489 _ _ K' ⟨_,0,t,rfl,hp0,eC (by decide:0<3) (Nat.le_add_right _ _),q1,ae,hK⟩) (hn:=aE) ?_;refine aG ?_;refine dp (nx':=9) (v:=.any) (m':=oe (oe m0 0 6 (t++aR [32] ws)) 0 9 (t++aR [32] ws++[10])) (hc:=fun K' hK=>h664 _ _ K' ⟨10,0,t++aR [32] ws,rfl,LZ aE,eC (by decide:0<8) (Nat.le_add_right _ _),aJ,by rw[bA];exact q4,hK⟩) (hn:=aE) ?_;refine az ?_

 refine ff trivial js (dw ah (?_)) ah ⟨rfl,by rw[hlt];exact(sR aE).1,by rw[hlt];exact(sR aE).2⟩;rfl
def BG:aN:=⟨1,31,mJ,di,(sq (rg [gb 9 s0,gm cse] [(2,0),(1,1)]) (sq (r1 [⟨.mkB,none⟩] 3 0) (sq (rt [gf 0 s2,gd l0,gf 1 s2,gk 5 true l2,gx 451 [l3] PE,gn (.bsl 1 (.str []) 3 [(0,(cs [112,97,99,107,97,103,101])),(1,l1),(2,l4)]),gn (.callM 450 [s3,l5])] []) (sq (sq (rg [gf 6 s2,gd l0,gl l1,gm b7] [(7,1),(5,2),(4,3)]) (.block 0 (.loop (sq (r1 [bo s4 s5] 6 0) (sq (jG s6 0) (sq (.block 1 (sq (r1 [ga 3 s7 s4,gk 3 true l0,gb 3 (.c (.agg [.au,.str [],.str []])),gt 3 l2 l1] 8 2) (sq (rg [gn (.bsl 1 (.str []) 1 [(0,(cs [110,101,101,100]))]),gn (.callM 450 [s3,l0])] []) (sq (sq (rg [gf 0 s8,gd l0,gl l1,gm b7] [(12,1),(10,2),(9,3)]) (.block 2 (.loop (sq (r1 [bo s9 mL] 11 0) (sq (jG pU 2) (sq (.block 3 (sq (r1 [ga 4 m6 s9,gk 4 true l0,gb 4 (.c (.agg [.str [],.str [],.au,.bool false])),gt 4 l2 l1] 13 2) (sq (rg [gm (cs [45]),gm (cs [102,117,108,108])] [(16,0),(17,1)]) (sq (sq (r1 [gf 2 rq,gd l0,gl l1,eI l2 b7] 14 3) (.cond rr (r1 [gf 2 rq,gd l0,gx 242 [l1,(cs [44])] [[.sl 1 [.a]],[.a]],gm l2] 16 3) .skip)) (sq (sq (r1 [gf 3 rq,gd l0] 15 1) (.cond tP (r1 [gm (cs [98,97,114,101])] 17 0) .skip)) (rg [gf 0 rq,gd l0,gm An,gm yz,gf 1 rq,gd l4,gn (.bsl 1 (.str []) 5 [(0,(cs [97,110,121])),(1,l1),(2,l2),(3,l3),(4,l5)]),gn (.callM 450 [s3,l6])] [])))))) (r1 [ay s9 cN,gm l0] 9 1))))))) (sq (sq (r1 [gf 1 s8,gd l0,dd l1 cse] 18 2) (.cond yA (rg [gf 1 s8,gd l0,gn (.bsl 1 (.str []) 2 [(0,(cs [119,104,101,110])),(1,l1)]),gn (.callM 450 [s3,l2])] []) .skip)) (sq (r1 [gf 2 s8,gd l0,dd l1 cse] 19 2) (.cond HQ (rg [gf 2 s8,gd l0,gn (.bsl 1 (.str []) 2 [(0,(cs [111,112,116,105,111,110])),(1,l1)]),gn (.callM 450 [s3,l2])] []) .skip))))))) (r1 [ay s4 cN,gm l0] 4 1))))))) (sq (sq (rg [gf 7 s2,gd l0,gl l1,gm b7] [(23,1),(21,2),(20,3)]) (.block 4 (.loop (sq (r1 [bo DI Qt] 22 0) (sq (jG QY 4) (sq (.block 5 (sq (r1 [ga 3 s23 DI,gk 3 true l0,gb 3 (.c (.agg [.str [],.str [],.str []])),gt 3 l2 l1] 24 2) (sq (rg [gf 0 Qu,gd l0,gf 1 Qu,gd l2,gn (.bsl 1 (.str []) 3 [(0,(cs [98,97,114])),(1,l1),(2,l3)]),gn (.callM 450 [s3,l4])] []) (sq (r1 [gf 2 Qu,gd l0,dd l1 cse] 25 2) (.cond QZ (rg [gf 2 Qu,gd l0,gn (.bsl 1 (.str []) 2 [(0,(cs [119,104,101,110])),(1,l1)]),gn (.callM 450 [s3,l2])] []) .skip))))) (r1 [ay DI cN,gm l0] 20 1))))))) (sq (sq (rg [gf 8 s2,gd l0,gl l1,gm b7] [(29,1),(27,2),(26,3)]) (.block 6 (.loop (sq (r1 [bo Ts s27] 28 0) (sq (jG s28 6) (sq (.block 7 (sq (r1 [ga 2 s29 Ts,gk 2 true l0,gb 2 (.c (.agg [.str [],.au])),gt 2 l2 l1] 30 2) (rg [gf 0 Ot,gd l0,gn (.bsl 1 (.str []) 2 [(0,(cs [102,101,97,116,117,114,101])),(1,l1)]),gf 1 Ot,gd l3,gn (.app 1 l2 l4),gn (.callM 450 [s3,l5])] []))) (r1 [ay Ts cN,gm l0] 26 1))))))) (sq (r1 [gn (.callM 452 [s3]),gm l0] 1 1) .ret)))))))⟩
def w215 (h242:Iq Y)(h450:OP Y)(h451:OQ Y)(h452:OR Y)(r:Rec)  (hp0:x8 r/\m4 r):fo Y BG (.str (jm r)) [Rec.D r]:=by
 show ca _ _ _ [⟨_,_⟩,_,_,_,_,_,_,_,_,_,_,_,_,_,_,_,_,_,_,_,_,_,_,_,_,_,_,_,_,_,_] _;have hft:=G0 hp0;have q0:=hft.nm;have q00:=B4 r.v hft.v;have hs:=hp0.2;refine av ?_;refine lV ?_;refine bZ (v:=gE.D r.v) ?_;refine aq (hc:=h451 r.v hft.v) ?_;refine cZ [(.str _),(.str _),(.str _)] ?_;refine dp (nx':=4) (v:=.tup []) (m':=[(9,.row (qk r)),(0,.buf 9 [Rec.D r]),(2,.bld (some 9) (qk r).length true)]) (hc:=fun K' hK=>h450 [fg,r.name,qe r.v] ([]) 2 8 _ _ K' (.inl ⟨false,aT,rfl⟩) ah dK dK (.mk aE (by simp only[aH,aO,eV,eN];omega) (cR.2 ⟨aE,cR.2 ⟨ae,cR.2 ⟨ae,fun _ h=>nomatch h⟩⟩⟩) (by first|omega|(simp only[bA,aO];omega))) (by rw[show([])++b9 [fg,r.name,qe r.v]=qk r from rfl];exact hK)) (hn:=aE) ?_;refine bh ?_;intro u0;refine aA ?_;refine bO hm (ι:=Nat) (fun i=>[.un,.un,⟨true,.ptr 0 9 0 0⟩,⟨true,.ptr 2 2 0 0⟩,⟨true,.int .i64 (i:Nat)⟩,⟨true,.int .i64 (r.needs.length:Nat)⟩,.un,⟨true,.sl 3 (r.needs.map bT.D)⟩,.un,.un,.un,.un,.un,.un,.un,.un,.un,.un,.un,.un,.un,.un,.un,.un,.un,.un,.un,.un,.un,.un,.un]) (fun i=>[(0,.buf 9 [Rec.D r]),(2,.bld (some 3) (jY r i).length true),(3,.row (jY r i))]) 10 (fun i=>i<=r.needs.length) (fun i=>r.needs.length-i) 0 ae (aW.to [(0,0),(2,2),(9,3)] ah ah fF (by refine bg.gH ah ah ah ?_;refine bg.bl 2 ah ah ah (ar List.length (by rw[Ox])) rfl ?_;refine bg.rw 9 ah ah (by rw[Ox]) ?_;exact bg.nil)) ?_;intro i hi;have q1:=EX hft i hi;refine aG ?_;refine dR (fun hc0=>?_) fun hc0=>?_
 .refine aG ?_;have hnf:=hft.n _ (bL (show i<r.needs.length by omega));have hn3:=hnf.1.1;refine az ?_;refine b6 (v:=bT.D r.needs[i]!) (hi:=fun _=>ae) ?_;refine az ?_;refine aQ (bT.D r.needs[i]!) (he:=aT) ?_;refine aA ?_;refine cZ [(.str _)] ?_;refine dp (nx':=16) (v:=.tup []) (m':=[(16,.row (jY r i++dG r.needs[i]! 0)),(0,.buf 9 [Rec.D r]),(2,.bld (some 16) (jY r i++dG r.needs[i]! 0).length true),(13,.buf 3 [bT.D r.needs[i]!])]) (hc:=fun K' hK=>h450 [jB] (jY r i) 2 15 _ _ K' (.inr ⟨3,true,aT,aT⟩) ah dK dK (.mk aE (by simp only[aH,aO,eV,eN];omega) (cR.2 ⟨aE,fun _ h=>nomatch h⟩) (by first|omega|(simp only[bA,aO];omega))) (by rw[show(jY r i)++b9 [jB]=jY r i++dG r.needs[i]! 0 from rfl];exact hK)) (hn:=aE) ?_;refine bh ?_;intro u1;refine aA ?_;refine bO hm (ι:=Nat) (fun j=>[.un,.un,⟨true,.ptr 0 9 0 0⟩,⟨true,.ptr 2 2 0 0⟩,⟨true,.int .i64 (i:Nat)⟩,⟨true,.int .i64 (r.needs.length:Nat)⟩,.un,⟨true,.sl 3 (r.needs.map bT.D)⟩,⟨true,.ptr 4 3 0 0⟩,⟨true,.int .i64 (j:Nat)⟩,⟨true,.int .i64 (r.needs[i]!.any.length:Nat)⟩,.un,⟨true,.sl 4 (r.needs[i]!.any.map cu.D)⟩,.un,.un,.un,.un,.un,.un,.un,.un,.un,.un,.un,.un,.un,.un,.un,.un,.un,.un]) (fun j=>[(0,.buf 9 [Rec.D r]),(4,.buf 3 [bT.D r.needs[i]!]),(2,.bld (some 3) (jY r i++dG r.needs[i]! j).length true),(3,.row (jY r i++dG r.needs[i]! j))]) 20 (fun j=>j<=r.needs[i]!.any.length) (fun j=>r.needs[i]!.any.length-j) 0 ae (aW.to [(0,0),(13,4),(2,2),(16,3)] ah ah fF (by refine bg.gH ah ah ah ?_;refine bg.nl 13 ah ah rfl ah ?_;refine bg.bl 2 ah ah ah (ar List.length (rfl)) rfl ?_;refine bg.rw 16 ah ah (rfl) ?_;exact bg.nil)) ?_;intro j hj;have q2:=Hr hnf j ae;refine aG ?_;refine dR (fun hc1=>?_) fun hc1=>?_
  .refine aG ?_;have hwf:=hnf.1.2 _ (bL (show j<r.needs[i]!.any.length by omega));have q3:=Ae hwf;have q4:=hwf.1.1.1;have q5:=hwf.1.1.2;refine az ?_;refine b6 (v:=cu.D r.needs[i]!.any[j]!) (hi:=fun _=>ae) ?_;refine az ?_;refine aQ (cu.D r.needs[i]!.any[j]!) (he:=aT) ?_;refine lV ?_;intro u2;refine aA ?_;refine dR (fun hc2=>?_) fun hc2=>?_
   .refine aG ?_;refine aq (hc:=h242 r.needs[i]!.any[j]!.feats [44] (by have:=hwf.2.1;omega) aE (fun t ht=>by have:=hwf.2.2 t ht;omega)) ?_;refine bI ?_;refine dR (fun hc3=>?_) fun hc3=>?_
    .refine aK ?_;have hwl:b9 [ma,r.needs[i]!.any[j]!.name,(aR [44] r.needs[i]!.any[j]!.feats),kf,r.needs[i]!.any[j]!.range]=kP r.needs[i]!.any[j]! :=by
      unfold kP nR;first|rw[aw (show r.needs[i]!.any[j]!.feats.length=0 by omega)]|rw[aj (show ¬r.needs[i]!.any[j]!.feats.length=0 by omega)]
      rw[hc3];rfl
     have hwj:=nF (n:=r.needs[i]!) (j:=j) ae;refine bh ?_;refine cZ [(.str _),(.str _),(.str _),(.str _),(.str _)] ?_;refine dp (nx':=39) (v:=.tup []) (m':=[(45,.row (jY r i++dG r.needs[i]! (j+1))),(0,.buf 9 [Rec.D r]),(4,.buf 3 [bT.D r.needs[i]!]),(2,.bld (some 45) (jY r i++dG r.needs[i]! (j+1)).length true),(23,.buf 4 [cu.D r.needs[i]!.any[j]!])]) (hc:=fun K' hK=>h450 [ma,r.needs[i]!.any[j]!.name,(aR [44] r.needs[i]!.any[j]!.feats),kf,r.needs[i]!.any[j]!.range] (jY r i++dG r.needs[i]! j) 2 44 _ _ K' (.inr ⟨3,true,aT,aT⟩) ah dK dK (.mk aE (by simp only[aH,aO,eV,eN];omega) (cR.2 ⟨aE,cR.2 ⟨ae,cR.2 ⟨by first|omega|decide,cR.2 ⟨aE,cR.2 ⟨ae,fun _ h=>nomatch h⟩⟩⟩⟩⟩) (by first|omega|(simp only[bA,aO];omega))) (by rw[show(jY r i++dG r.needs[i]! j)++b9 [ma,r.needs[i]!.any[j]!.name,(aR [44] r.needs[i]!.any[j]!.feats),kf,r.needs[i]!.any[j]!.range]=jY r i++dG r.needs[i]! (j+1)from by rw[hwl,hwj,dU]];exact hK)) (hn:=aE) ?_;refine bI ?_;exact⟨j+1,ae,ae,(aW.to [(0,0),(4,4),(2,2),(45,3)] ah ah fF (by refine bg.gH ah ah ah ?_;refine bg.nl 4 ah ah rfl ah ?_;refine bg.bl 2 ah ah ah (ar List.length (rfl)) rfl ?_;refine bg.rw 45 ah ah (rfl) ?_;exact bg.nil))⟩
    refine aA ?_;have hwl:b9 [ma,r.needs[i]!.any[j]!.name,(aR [44] r.needs[i]!.any[j]!.feats),pj,r.needs[i]!.any[j]!.range]=kP r.needs[i]!.any[j]! :=by
     unfold kP nR;first|rw[aw (show r.needs[i]!.any[j]!.feats.length=0 by omega)]|rw[aj (show ¬r.needs[i]!.any[j]!.feats.length=0 by omega)]
     rw[hc3];rfl
    have hwj:=nF (n:=r.needs[i]!) (j:=j) ae;refine bh ?_;refine cZ [(.str _),(.str _),(.str _),(.str _),(.str _)] ?_;refine dp (nx':=38) (v:=.tup []) (m':=[(44,.row (jY r i++dG r.needs[i]! (j+1))),(0,.buf 9 [Rec.D r]),(4,.buf 3 [bT.D r.needs[i]!]),(2,.bld (some 44) (jY r i++dG r.needs[i]! (j+1)).length true),(23,.buf 4 [cu.D r.needs[i]!.any[j]!])]) (hc:=fun K' hK=>h450 [ma,r.needs[i]!.any[j]!.name,(aR [44] r.needs[i]!.any[j]!.feats),pj,r.needs[i]!.any[j]!.range] (jY r i++dG r.needs[i]! j) 2 43 _ _ K' (.inr ⟨3,true,aT,aT⟩) ah dK dK (.mk aE (by simp only[aH,aO,eV,eN];omega) (cR.2 ⟨aE,cR.2 ⟨ae,cR.2 ⟨by first|omega|decide,cR.2 ⟨aE,cR.2 ⟨ae,fun _ h=>nomatch h⟩⟩⟩⟩⟩) (by first|omega|(simp only[bA,aO];omega))) (by rw[show(jY r i++dG r.needs[i]! j)++b9 [ma,r.needs[i]!.any[j]!.name,(aR [44] r.needs[i]!.any[j]!.feats),pj,r.needs[i]!.any[j]!.range]=jY r i++dG r.needs[i]! (j+1)from by rw[hwl,hwj,dU]];exact hK)) (hn:=aE) ?_;refine bI ?_;exact⟨j+1,ae,ae,(aW.to [(0,0),(4,4),(2,2),(44,3)] ah ah fF (by refine bg.gH ah ah ah ?_;refine bg.nl 4 ah ah rfl ah ?_;refine bg.bl 2 ah ah ah (ar List.length (rfl)) rfl ?_;refine bg.rw 44 ah ah (rfl) ?_;exact bg.nil))⟩
   refine bh ?_;refine dR (fun hc3=>?_) fun hc3=>?_
   .refine aK ?_;have hwl:b9 [ma,r.needs[i]!.any[j]!.name,[45],kf,r.needs[i]!.any[j]!.range]=kP r.needs[i]!.any[j]! :=by
     unfold kP nR;first|rw[aw (show r.needs[i]!.any[j]!.feats.length=0 by omega)]|rw[aj (show ¬r.needs[i]!.any[j]!.feats.length=0 by omega)]
     rw[hc3];rfl
    have hwj:=nF (n:=r.needs[i]!) (j:=j) ae;refine bh ?_;refine cZ [(.str _),(.str _),(.str _),(.str _),(.str _)] ?_;refine dp (nx':=35) (v:=.tup []) (m':=[(41,.row (jY r i++dG r.needs[i]! (j+1))),(0,.buf 9 [Rec.D r]),(4,.buf 3 [bT.D r.needs[i]!]),(2,.bld (some 41) (jY r i++dG r.needs[i]! (j+1)).length true),(23,.buf 4 [cu.D r.needs[i]!.any[j]!])]) (hc:=fun K' hK=>h450 [ma,r.needs[i]!.any[j]!.name,[45],kf,r.needs[i]!.any[j]!.range] (jY r i++dG r.needs[i]! j) 2 40 _ _ K' (.inr ⟨3,true,aT,aT⟩) ah dK dK (.mk aE (by simp only[aH,aO,eV,eN];omega) (cR.2 ⟨aE,cR.2 ⟨ae,cR.2 ⟨by first|omega|decide,cR.2 ⟨aE,cR.2 ⟨ae,fun _ h=>nomatch h⟩⟩⟩⟩⟩) (by first|omega|(simp only[bA,aO];omega))) (by rw[show(jY r i++dG r.needs[i]! j)++b9 [ma,r.needs[i]!.any[j]!.name,[45],kf,r.needs[i]!.any[j]!.range]=jY r i++dG r.needs[i]! (j+1)from by rw[hwl,hwj,dU]];exact hK)) (hn:=aE) ?_;refine bI ?_;exact⟨j+1,ae,ae,(aW.to [(0,0),(4,4),(2,2),(41,3)] ah ah fF (by refine bg.gH ah ah ah ?_;refine bg.nl 4 ah ah rfl ah ?_;refine bg.bl 2 ah ah ah (ar List.length (rfl)) rfl ?_;refine bg.rw 41 ah ah (rfl) ?_;exact bg.nil))⟩
   refine aA ?_;have hwl:b9 [ma,r.needs[i]!.any[j]!.name,[45],pj,r.needs[i]!.any[j]!.range]=kP r.needs[i]!.any[j]! :=by
    unfold kP nR;first|rw[aw (show r.needs[i]!.any[j]!.feats.length=0 by omega)]|rw[aj (show ¬r.needs[i]!.any[j]!.feats.length=0 by omega)]
    rw[hc3];rfl
   have hwj:=nF (n:=r.needs[i]!) (j:=j) ae;refine bh ?_;refine cZ [(.str _),(.str _),(.str _),(.str _),(.str _)] ?_;refine dp (nx':=34) (v:=.tup []) (m':=[(40,.row (jY r i++dG r.needs[i]! (j+1))),(0,.buf 9 [Rec.D r]),(4,.buf 3 [bT.D r.needs[i]!]),(2,.bld (some 40) (jY r i++dG r.needs[i]! (j+1)).length true),(23,.buf 4 [cu.D r.needs[i]!.any[j]!])]) (hc:=fun K' hK=>h450 [ma,r.needs[i]!.any[j]!.name,[45],pj,r.needs[i]!.any[j]!.range] (jY r i++dG r.needs[i]! j) 2 39 _ _ K' (.inr ⟨3,true,aT,aT⟩) ah dK dK (.mk aE (by simp only[aH,aO,eV,eN];omega) (cR.2 ⟨aE,cR.2 ⟨ae,cR.2 ⟨by first|omega|decide,cR.2 ⟨aE,cR.2 ⟨ae,fun _ h=>nomatch h⟩⟩⟩⟩⟩) (by first|omega|(simp only[bA,aO];omega))) (by rw[show(jY r i++dG r.needs[i]! j)++b9 [ma,r.needs[i]!.any[j]!.name,[45],pj,r.needs[i]!.any[j]!.range]=jY r i++dG r.needs[i]! (j+1)from by rw[hwl,hwj,dU]];exact hK)) (hn:=aE) ?_;refine bI ?_;exact⟨j+1,ae,ae,(aW.to [(0,0),(4,4),(2,2),(40,3)] ah ah fF (by refine bg.gH ah ah ah ?_;refine bg.nl 4 ah ah rfl ah ?_;refine bg.bl 2 ah ah ah (ar List.length (rfl)) rfl ?_;refine bg.rw 40 ah ah (rfl) ?_;exact bg.nil))⟩
  refine aK ?_;have hnA:=Hq (n:=r.needs[i]!) (j:=j) ae;have w4:=pW hnf.2.1;have w5:=hnf.2.2;have w6:=hnf.2.1;refine aK ?_;refine dR (fun hc4=>?_) fun hc4=>?_
  .refine az ?_;have hwt:jC r.needs[i]!.when'=b9 [my,r.needs[i]!.when']:=aj hc4;refine aA ?_;refine cZ [(.str _),(.str _)] ?_;refine dp (nx':=25) (v:=.tup []) (m':=[(27,.row (jY r i++(dG r.needs[i]! j++jC r.needs[i]!.when'))),(0,.buf 9 [Rec.D r]),(4,.buf 3 [bT.D r.needs[i]!]),(2,.bld (some 27) (jY r i++(dG r.needs[i]! j++jC r.needs[i]!.when')).length true)]) (hc:=fun K' hK=>h450 [my,r.needs[i]!.when'] (jY r i++dG r.needs[i]! j) 2 26 _ _ K' (.inr ⟨3,true,aT,aT⟩) ah dK dK (.mk aE (by simp only[aH,aO,eV,eN];omega) (cR.2 ⟨aE,cR.2 ⟨ae,fun _ h=>nomatch h⟩⟩) (by first|omega|(simp only[bA,aO];omega))) (by rw[show(jY r i++dG r.needs[i]! j)++b9 [my,r.needs[i]!.when']=jY r i++(dG r.needs[i]! j++jC r.needs[i]!.when')from by rw[hwt,dU]];exact hK)) (hn:=aE) ?_;refine bh ?_;refine iR (fun hc5=>?_) fun hc5=>?_
   .refine az ?_;have hot:xw r.needs[i]!.option=b9 [fA,r.needs[i]!.option]:=aj hc5;refine aA ?_;refine cZ [(.str _),(.str _)] ?_;refine dp (nx':=33) (v:=.tup []) (m':=[(35,.row (jY r (i+1))),(0,.buf 9 [Rec.D r]),(4,.buf 3 [bT.D r.needs[i]!]),(2,.bld (some 35) (jY r (i+1)).length true)]) (hc:=fun K' hK=>h450 [fA,r.needs[i]!.option] (jY r i++(dG r.needs[i]! j++jC r.needs[i]!.when')) 2 34 _ _ K' (.inr ⟨27,true,aT,aT⟩) ah dK dK (.mk aE (by simp only[aH,aO,eV,eN];omega) (cR.2 ⟨aE,cR.2 ⟨ae,fun _ h=>nomatch h⟩⟩) (by first|omega|(simp only[bA,aO];omega))) (by rw[show(jY r i++(dG r.needs[i]! j++jC r.needs[i]!.when'))++b9 [fA,r.needs[i]!.option]=jY r (i+1)from by rw[nb ae,hnA,hot];simp only[dU,gD]];exact hK)) (hn:=aE) ?_;refine bI ?_;exact⟨i+1,ae,ae,(aW.to [(0,0),(2,2),(35,3)] ah ah fF (by refine bg.gH ah ah ah ?_;refine bg.bl 2 ah ah ah (ar List.length (rfl)) rfl ?_;refine bg.rw 35 ah ah (rfl) ?_;exact bg.nil))⟩
   refine aG ?_;have hno:xw r.needs[i]!.option=[]:=aw (by simpa using hc5);refine aK ?_;exact⟨i+1,ae,ae,(aW.to [(0,0),(2,2),(27,3)] ah ah fF (by refine bg.gH ah ah ah ?_;refine bg.bl 2 ah ah ah (ar List.length (by rw[nb ae,hnA,hno];simp only[dU,gD])) rfl ?_;refine bg.rw 27 ah ah (by rw[nb ae,hnA,hno];simp only[dU,gD]) ?_;exact bg.nil))⟩
  refine aA ?_;have hnw:jC r.needs[i]!.when'=[]:=aw (by simpa using hc4);refine aK ?_;refine iR (fun hc5=>?_) fun hc5=>?_
  .refine az ?_;have hot:xw r.needs[i]!.option=b9 [fA,r.needs[i]!.option]:=aj hc5;refine aA ?_;refine cZ [(.str _),(.str _)] ?_;refine dp (nx':=28) (v:=.tup []) (m':=[(30,.row (jY r (i+1))),(0,.buf 9 [Rec.D r]),(4,.buf 3 [bT.D r.needs[i]!]),(2,.bld (some 30) (jY r (i+1)).length true)]) (hc:=fun K' hK=>h450 [fA,r.needs[i]!.option] (jY r i++dG r.needs[i]! j) 2 29 _ _ K' (.inr ⟨3,true,aT,aT⟩) ah dK dK (.mk aE (by simp only[aH,aO,eV,eN];omega) (cR.2 ⟨aE,cR.2 ⟨ae,fun _ h=>nomatch h⟩⟩) (by first|omega|(simp only[bA,aO];omega))) (by rw[show(jY r i++dG r.needs[i]! j)++b9 [fA,r.needs[i]!.option]=jY r (i+1)from by rw[nb ae,hnA,hot,hnw];simp only[dU,gD]];exact hK)) (hn:=aE) ?_;refine bI ?_;exact⟨i+1,ae,ae,(aW.to [(0,0),(2,2),(30,3)] ah ah fF (by refine bg.gH ah ah ah ?_;refine bg.bl 2 ah ah ah (ar List.length (rfl)) rfl ?_;refine bg.rw 30 ah ah (rfl) ?_;exact bg.nil))⟩
  refine aG ?_;have hno:xw r.needs[i]!.option=[]:=aw (by simpa using hc5);refine aK ?_;exact⟨i+1,ae,ae,(aW.to [(0,0),(2,2),(3,3)] ah ah fF (by refine bg.gH ah ah ah ?_;refine bg.bl 2 ah ah ah (ar List.length (by rw[nb ae,hnA,hno,hnw];simp only[dU,gD])) rfl ?_;refine bg.rw 3 ah ah (by rw[nb ae,hnA,hno,hnw];simp only[dU,gD]) ?_;exact bg.nil))⟩
 refine aK ?_;have h33:i=r.needs.length:=ae;subst h33;refine aG ?_;intro u3;refine aA ?_;refine bO hm (ι:=Nat) (fun i=>[.un,.un,⟨true,.ptr 0 9 0 0⟩,⟨true,.ptr 2 2 0 0⟩,.un,.un,.un,.un,.un,.un,.un,.un,.un,.un,.un,.un,.un,.un,.un,.un,⟨true,.int .i64 (i:Nat)⟩,⟨true,.int .i64 (r.bars.length:Nat)⟩,.un,⟨true,.sl 3 (r.bars.map jT.D)⟩,.un,.un,.un,.un,.un,.un,.un]) (fun i=>[(0,.buf 9 [Rec.D r]),(2,.bld (some 3) (xf r i).length true),(3,.row (xf r i))]) 10 (fun i=>i<=r.bars.length) (fun i=>r.bars.length-i) 0 ae (aW.to [(0,0),(2,2),(3,3)] ah ah fF (by refine bg.gH ah ah ah ?_;refine bg.bl 2 ah ah ah (ar List.length (by rw[Oy])) rfl ?_;refine bg.rw 3 ah ah (by rw[Oy]) ?_;exact bg.nil)) ?_;intro i hi;have q1:=EY hft i hi;refine aG ?_;refine dR (fun hc6=>?_) fun hc6=>?_
 .refine aG ?_;have q4:=hft.b _ (bL (show i<r.bars.length by omega));have q5:=q4.1;have q6:=q4.2.1;have q7:=q4.2.2;have hbt:vj r.bars[i]! =b9 [kX,r.bars[i]!.name,r.bars[i]!.range]++jC r.bars[i]!.when':=rfl;have hxb:=KY (r:=r) (i:=i) ae;have w7:=pW q7;refine az ?_;refine b6 (v:=jT.D r.bars[i]!) (hi:=fun _=>ae) ?_;refine az ?_;refine aQ (jT.D r.bars[i]!) (he:=aT) ?_;refine bh ?_;refine cZ [(.str _),(.str _),(.str _)] ?_;refine dp (nx':=16) (v:=.tup []) (m':=[(20,.row (xf r i++b9 [kX,r.bars[i]!.name,r.bars[i]!.range])),(0,.buf 9 [Rec.D r]),(2,.bld (some 20) (xf r i++b9 [kX,r.bars[i]!.name,r.bars[i]!.range]).length true),(13,.buf 3 [jT.D r.bars[i]!])]) (hc:=fun K' hK=>h450 [kX,r.bars[i]!.name,r.bars[i]!.range] (xf r i) 2 19 _ _ K' (.inr ⟨3,true,aT,aT⟩) ah dK dK (.mk aE (by simp only[aH,aO,eV,eN];omega) (cR.2 ⟨aE,cR.2 ⟨ae,cR.2 ⟨ae,fun _ h=>nomatch h⟩⟩⟩) (by first|omega|(simp only[bA,aO];omega))) (by rw[show(xf r i)++b9 [kX,r.bars[i]!.name,r.bars[i]!.range]=xf r i++b9 [kX,r.bars[i]!.name,r.bars[i]!.range]from rfl];exact hK)) (hn:=aE) ?_;refine aA ?_;have w8:(b9 [kX,r.bars[i]!.name,r.bars[i]!.range]).length<=2200000:=by unfold b9;simp only[aR,kX,bA,aH,aO];omega
  refine aK ?_;refine iR (fun hc7=>?_) fun hc7=>?_
  .refine az ?_;have hwt:jC r.bars[i]!.when'=b9 [my,r.bars[i]!.when']:=aj hc7;refine aA ?_;refine cZ [(.str _),(.str _)] ?_;refine dp (nx':=26) (v:=.tup []) (m':=[(28,.row (xf r (i+1))),(0,.buf 9 [Rec.D r]),(2,.bld (some 28) (xf r (i+1)).length true),(13,.buf 3 [jT.D r.bars[i]!])]) (hc:=fun K' hK=>h450 [my,r.bars[i]!.when'] (xf r i++b9 [kX,r.bars[i]!.name,r.bars[i]!.range]) 2 27 _ _ K' (.inr ⟨20,true,aT,aT⟩) ah dK dK (.mk aE (by simp only[aH,aO,eV,eN];omega) (cR.2 ⟨aE,cR.2 ⟨ae,fun _ h=>nomatch h⟩⟩) (by first|omega|(simp only[bA,aO];omega))) (by rw[show(xf r i++b9 [kX,r.bars[i]!.name,r.bars[i]!.range])++b9 [my,r.bars[i]!.when']=xf r (i+1)from by rw[hxb,hbt,hwt,dU]];exact hK)) (hn:=aE) ?_;refine bI ?_;exact⟨i+1,ae,ae,(aW.to [(0,0),(2,2),(28,3)] ah ah fF (by refine bg.gH ah ah ah ?_;refine bg.bl 2 ah ah ah (ar List.length (rfl)) rfl ?_;refine bg.rw 28 ah ah (rfl) ?_;exact bg.nil))⟩
  refine aG ?_;have hno:jC r.bars[i]!.when'=[]:=aw (by simpa using hc7);refine aK ?_;exact⟨i+1,ae,ae,(aW.to [(0,0),(2,2),(20,3)] ah ah fF (by refine bg.gH ah ah ah ?_;refine bg.bl 2 ah ah ah (ar List.length (by rw[hxb,hbt,hno,gD])) rfl ?_;refine bg.rw 20 ah ah (by rw[hxb,hbt,hno,gD]) ?_;exact bg.nil))⟩
 refine aK ?_;have h33:i=r.bars.length:=ae;subst h33;refine aG ?_;intro u4;refine aA ?_;refine bO hm (ι:=Nat) (fun i=>[.un,.un,⟨true,.ptr 0 9 0 0⟩,⟨true,.ptr 2 2 0 0⟩,.un,.un,.un,.un,.un,.un,.un,.un,.un,.un,.un,.un,.un,.un,.un,.un,.un,.un,.un,.un,.un,.un,⟨true,.int .i64 (i:Nat)⟩,⟨true,.int .i64 (r.feats.length:Nat)⟩,.un,⟨true,.sl 2 (r.feats.map ct.D)⟩,.un]) (fun i=>[(0,.buf 9 [Rec.D r]),(2,.bld (some 3) (z8 r i).length true),(3,.row (z8 r i))]) 10 (fun i=>i<=r.feats.length) (fun i=>r.feats.length-i) 0 ae (aW.to [(0,0),(2,2),(3,3)] ah ah fF (by refine bg.gH ah ah ah ?_;refine bg.bl 2 ah ah ah (ar List.length (by rw[Oz])) rfl ?_;refine bg.rw 3 ah ah (by rw[Oz]) ?_;exact bg.nil)) ?_;intro i hi;have q1:=NG hft i hi;refine aG ?_;refine dR (fun hc8=>?_) fun hc8=>?_
 .refine aG ?_;have q4:=hft.f _ (bL (show i<r.feats.length by omega));have q5:=q4.1.1;have q6:=q4.2;have q8:∀t∈r.feats[i]!.of,t.length<=2097200:=fun t ht=>cC (q4.1.2.2 t ht) aE
  have hxf:=KZ (r:=r) (i:=i) ae;refine az ?_;refine b6 (v:=ct.D r.feats[i]!) (hi:=fun _=>ae) ?_;refine az ?_;refine aQ (ct.D r.feats[i]!) (he:=aT) ?_;refine aK ?_;refine cZ [(.str _),(.str _)] ?_;refine aA ?_;refine EC (zs:=([dQ,r.feats[i]!.name]++r.feats[i]!.of).map D.str) (n:=([dQ,r.feats[i]!.name]++r.feats[i]!.of).length) (ha:=aJ) (he:=sg.sl) (hz:=by rw[bN];rfl) (hn:=by simp<;>omega) (hb:=by simp only[aH,aO,eV,eN];omega) ?_;refine dp (nx':=16) (v:=.tup []) (m':=[(21,.row (z8 r (i+1))),(0,.buf 9 [Rec.D r]),(2,.bld (some 21) (z8 r (i+1)).length true),(13,.buf 2 [ct.D r.feats[i]!])]) (hc:=fun K' hK=>h450 ([dQ,r.feats[i]!.name]++r.feats[i]!.of) (z8 r i) 2 20 _ _ K' (.inr ⟨3,true,aT,aT⟩) ah dK dK (.mk (l:=r.feats[i]!.name::r.feats[i]!.of) aE (by simp only[aH,aO,eV,eN];omega) (cR.2 ⟨aE,cR.2 ⟨ae,q8⟩⟩) (by first|omega|(simp only[bA,aO];omega))) (by rw[show(z8 r i)++b9 ([dQ,r.feats[i]!.name]++r.feats[i]!.of)=z8 r (i+1)from by rw[hxf];rfl];exact hK)) (hn:=aE) ?_;refine bI ?_;exact⟨i+1,ae,ae,(aW.to [(0,0),(2,2),(21,3)] ah ah fF (by refine bg.gH ah ah ah ?_;refine bg.bl 2 ah ah ah (ar List.length (rfl)) rfl ?_;refine bg.rw 21 ah ah (rfl) ?_;exact bg.nil))⟩
 refine aG ?_;have h33:i=r.feats.length:=ae;subst h33;have hne:z8 r r.feats.length≠[]:=by
  rw[EZ];unfold jm qk b9;simp[aR,fg]
 refine dp (nx':=11) (v:=.str (z8 r r.feats.length)) (m':=[(0,.buf 9 [Rec.D r])]) (hc:=fun K' hK=>h452 _ _ K' ⟨2,z8 r r.feats.length,rfl,.inr ⟨3,true,aT,aT⟩,hne,hK⟩) (hn:=aE) ?_;refine aG ?_;refine du ?_;exact EZ r
def Ld.z7 {r:Ld}(h:r.sm):r.to r.rest=r:=by
 obtain⟨ls,n⟩:=r;have h1:n<=ls.length:=h.1.1
 grind [Ld.to,Ld.rest]
def Ld.uP {r:Ld}{q:List ak}(h:q<:+r.ls):(r.to q).rest=q:=by
 obtain⟨ls,n⟩:=r;obtain⟨a,e⟩:=h;simp only at e;subst e;simp[Ld.rest,Ld.to]
theorem Ld.sm.to {r:Ld}(h:r.sm)(q:List ak):(r.to q).sm:=⟨⟨Nat.sub_le _ _,h.1.2⟩,h.2⟩
def Ld.wF (r:Ld):r.rest<:+r.ls:=List.drop_suffix _ _
def dL (w:ak)(n:Nat)(op:Bool)(p:List ak):List ak:=match cb w n op p with
 |some (_,q)=>q
 |none=>p
theorem mU {w:ak}{n:Nat}{op:Bool}{p l q:List ak}(h:cb w n op p=some (l,q)):q<:+p:=by
 grind [eJ]
def Ld.Au {r:Ld}{p:List ak}(hp:p<:+r.ls){w:ak}{n:Nat}{op:Bool}:(r.to p).after (cb w n op p)=r.to (dL w n op p):=by
 grind [dL,cb,jL,Ld.after,Ld.to]
def uI {Y:Ctx}(h:Lv Y){r:Ld}(hr:r.sm){p:List ak}(hp:p<:+r.ls){w:ak}{n:Nat}{op:Bool}(hn:n<=1000)(ho:op=true->1<=n):
  Y.fp 465 (Ld.D (r.to p)) [.str w,.int .i64 (n:Nat),.bool op]/\Y.fv 465 (Ld.D (r.to p)) [.str w,.int .i64 (n:Nat),.bool op]=.tup [xu (cb w n op p),.bool (cb w n op p).isSome]/\Y.fs 465 (Ld.D (r.to p)) [.str w,.int .i64 (n:Nat),.bool op]=Ld.D (r.to (dL w n op p)):=by
 have:=h (r.to p) w n op (hr.to p) hn ho;rw[Ld.uP hp,Ld.Au hp]at this;exact this
def sS {w:ak}{n:Nat}{op:Bool}{t:ak}{l:List ak}(h:lK w n op t=some l):(n=0\/l.length=n)/\[]∉l/\l=dZ n op t:=by
 grind [lK]
theorem oE (x:UInt8):∀(l:List ak) (n:Nat),(aR [x] (l.drop n)).length<=(aR [x] l).length
 |[],n=>aJ
 |a::r,0=>aF _
 |[a],n+1=>by simp[aR]
 |a::b::r,n+1=>by
  have:=oE x (b::r) n
  grind [fQ]
def Cb {n:Nat}{op:Bool}{t w:ak}(h:w∈dZ n op t):w.length<=t.length:=by
 unfold dZ at h;split at h
 .unfold nX at h;split at h
  .exact dm t 32 h
  .rw[List.mem_append]at h;rcases h with h|h
   .exact dm t 32 (lU h)
   grind [oE,ai,j6]
 .exact dm t 32 h
def mj {r:Ld}(hr:r.sm){p:List ak}(hp:p<:+r.ls){w:ak}{n:Nat}{op:Bool}{l q:List ak}(h:cb w n op p=some (l,q)):
  (n=0\/l.length=n)/\(∀u∈l,u.length<=1048576)/\q<:+r.ls/\q.length+1=p.length:=by
 obtain⟨t,rfl,ht⟩:=eJ h;obtain⟨h1,_,h3⟩:=sS ht;refine⟨h1,fun u hu=>?_,(List.suffix_cons _ _).trans hp,rfl⟩;rw[h3]at hu;have:=Cb hu;have:=hr.2 t (hp.subset (.head _));omega
def Ld.back {r:Ld}{t:ak}{q:List ak}(h:(t::q)<:+r.ls):wM (Ld.D (r.to q)) 2 1 1 (.int .i64 (((r.to q).at':Nat) -1:Int))=Ld.D (r.to (t::q)):=by
 have:=h.length_le;show D.agg [.sl 1 (r.ls.map D.str),.int .i64 (((r.ls.length-q.length:Nat):Int) -1)]=D.agg [.sl 1 (r.ls.map D.str),.int .i64 ((r.ls.length-(q.length+1):Nat):Int)]
 grind
def jb {α:Type}{o:Option α}(h:o.isSome=true):∃a,o=some a:=Option.isSome_iff_exists.1 h
theorem ja {α:Type}{o:Option α}(h:o.isSome=false):o=none:=by cases o with
 |none=>rfl
 |some a=>cases h
def cu.N (x:cu):Go.Abs.D:=.agg [.str x.name,.str x.range,PV x.feats,.bool x.bare]
def PX:∀l:List ak,uu (PV l) (.sl 1 (l.map D.str))
 |[]=>.nil 1
 |_::_=>.refl _
def cu.wk (x:cu):uu x.N x.D:=.ag (.cons (.refl _) (.cons (.refl _) (.cons (PX _) (.cons (.refl _) .nil))))
def cu.nn (x:cu):x.N.aX=true:=by
 simp only[cu.N,D.aX,aY,yq,kE]
def Ag {p:List ak}(h:cb ma 5 true p=none):cV p=([],p):=by
 match p,h with
 |[],_=>rfl
 |t::r,h=>
  grind [cb,cV]
def DU {p l q:List ak}(h:cb ma 5 true p=some (l,q))(ho:tE l=false):cV p=([],p):=by
 grind [eJ,cV]
def Ca {p l q:List ak}(h:cb ma 5 true p=some (l,q))(ho:tE l=true):cV p=(ic l::(cV q).1,(cV q).2):=by
 grind [eJ,cV]
def m8 (s:ak)(b:Int):ai s b≠[]:=by
 grind [fm,ai]
def PW {l:List ak}(h:l≠[]):PV l=.sl 1 (l.map D.str):=by
 match l,h with
 |_::_,_=>rfl
def iK (p:List ak):(bW p).2<:+p:=by
 grind [bW,mU]
def JX (p:List ak):(sT p).2<:+p:=by
 grind [sT,mU]
def iB:aN:=⟨1,5,mJ,di,(sq (r1 [gm cse] 1 0) (sq (sq (rg [gm s0,gn (.callF 465 l0 [(cs [119,104,101,110]),mi,xc] QQ),gm l1,ge l2 0,ge l2 1,gm l3,gm l4] [(4,5),(2,6)]) (sq (r1 [gm s2] 3 0) (.cond s3 (sq (r1 [gm s4,ga 1 l0 cN,gd l1,gm l2] 1 3) .ret) .skip))) (CW cse)))⟩
def w468 {Y:Ctx}(hm:(Y.at 1).cQ)(h465:Lv (Y.at 1))(r:Ld)  (hp0:r.sm):ca (Y.at 1) iB.body (Gl iB 2 (.str (bW r.rest).1) (Ld.D (r.to (bW r.rest).2)):Ex->List bE->St->Prop) (gh iB (.ptr 0 2 0 0::[])) ⟨1,[(0,.buf 2 [(Ld.D r)])]⟩:=by
 show ca _ _ _ [⟨true,.ptr 0 2 0 0⟩,.un,.un,.un,.un] ⟨1,[(0,.buf 2 [(Ld.D r)])]⟩;have hself:=Ld.z7 hp0;have hq1:=r.wF;refine av ?_;refine aK ?_;rw[show Ld.D r=Ld.D (r.to r.rest)by rw[hself]];refine az ?_;refine kW (hc:=uI h465 hp0 (p:=r.rest) hq1 (w:=my) (n:=2) (op:=true) aE aE) ?_;refine az ?_;refine hX _ ?_;refine cH ?_;refine dR (fun hc0=>?_) fun hc0=>?_
 .refine aA ?_;obtain⟨⟨l,q2⟩,hq⟩:=jb hc0;have hnr:dL my 2 true r.rest=q2:=by simp only[dL,hq]
  obtain⟨hl,hlm,hq2,hqp⟩:=mj hp0 hq1 hq;rw[hnr,hq];have hwp:bW r.rest=(l[1]!,q2):=by simp only[bW,hq]
  rw[hwp];refine az ?_;refine cr 1 (hb:=fun _=>ae) ?_;refine b6 (v:=.str l[1]!) (hi:=fun _=>ae) ?_;refine aG ?_;refine fT trivial js (dw ah (ar D.str ?_)) ah ah ah;rfl
 refine aA ?_;have hq:=ja hc0;have hnr:dL my 2 true r.rest=r.rest:=by simp only[dL,hq]
 rw[hnr];have hwp:bW r.rest=([],r.rest):=by simp only[bW,hq]
 rw[hwp];refine aG ?_;refine fT trivial js (dw ah (ar D.str ?_)) ah ah ah;rfl
def Lw (Y:Ctx):Prop:=∀(r:Ld),(r.sm)->Y.fp 468 (Ld.D r) []/\Y.fv 468 (Ld.D r) []=.str (bW r.rest).1/\Y.fs 468 (Ld.D r) []=Ld.D (r.to (bW r.rest).2)
def iz:aN:=⟨1,12,[⟨1,some (3,true)⟩],[[.sl 4 [.a,.a,.sl 1 [.a],.a],.a,.a]],(sq (r1 [gb 3 (.c (.agg [.au,.str [],.str []]))] 1 0) (sq (r1 [gb 3 (.c (.agg [.au,.str [],.str []]))] 8 0) (sq (.block 0 (.loop (.block 1 (sq (rg [gm s0,gn (.callF 465 l0 [(cs [97,110,121]),Ek,xc] QQ),gm l1,ge l2 0,ge l2 1,gm l3,gm l4] [(4,5),(2,6)]) (sq (sq (r1 [gm s2,p8 l0] 3 1) (.cond s3 (.exit 0) .skip)) (sq (sq (r1 [gm s4,ga 1 l0 k9,gd l1,dd l2 (cs [98,97,114,101]),gm l3,gmt 4 s4,dC 4 (.ia 1 l5 k9),pJ 4 l6,dC 4 (gO l7 (cs [102,117,108,108])),iM l4 l8] 5 9) (.cond s5 (sq (rg [gm s0,gc l0,gf 1 l1,gd l2,gA l3 cN,gc l0,gf 1 l5,gt 1 l6 l4] []) (.exit 0)) .skip)) (sq (r2 [gm s4,ga 1 l0 cN,gd l1,gm s4,ga 1 l3 ud,gd l4,gm s4,ga 1 l6 k9,gd l7,aU l8 (cs [98,97,114,101]),gn (.build [.str [],.str [],.au,.bool false] [(0,1,l2),(1,1,l5),(3,1,l9)]),gb 4 (.c (.agg [.str [],.str [],.au,.bool false])),gt 4 kl l10] 7 11) (sq (sq (r1 [gm s4,ga 1 l0 mi,gd l1,dd l2 (cs [45])] 6 3) (.cond s6 (rg [gm s4,ga 1 l0 mi,gd l1,gx 124 [l2,(cs [44])] iZ,gf 2 s7,gt 1 l4 l3] []) .skip)) (rg [gf 0 s8,gd l0,gk 4 true s7,gn (.bsl 4 (.agg [.str [],.str [],.au,.bool false]) 1 [(0,l2)]),gn (.app 4 l1 l3),gf 0 s8,gt 1 l5 l4] []))))))))) (sq (rg [gm s0,gn (.callF 468 l0 [] []),gf 1 s8,gt 1 l2 l1] []) (sq (sq (rg [gm s0,gn (.callF 465 l0 [(cs [111,112,116,105,111,110]),mi,eS] QQ),gm l1,ge l2 0,ge l2 1,gm l3,gm l4] [(11,5),(9,6)]) (sq (r1 [gm s9] 10 0) (.cond mL (rg [gm pU,ga 1 l0 cN,gd l1,gf 2 s8,gt 1 l3 l2] []) .skip))) (sq (rg [gk 3 true s8,gt 3 s1 l0] []) .ret))))))⟩
def Af {Y:Ctx}(h:Lw Y){r:Ld}(hr:r.sm){p:List ak}(hp:p<:+r.ls):Y.fp 468 (Ld.D (r.to p)) []/\Y.fv 468 (Ld.D (r.to p)) []=.str (bW p).1/\Y.fs 468 (Ld.D (r.to p)) []=Ld.D (r.to (bW p).2):=by
 have:=h (r.to p) (hr.to p);rw[Ld.uP hp]at this;exact this
def w467 {Y:Ctx}(hm:(Y.at 1).cQ)(h124:Il (Y.at 1))(h465:Lv (Y.at 1))(h468:Lw (Y.at 1))(r:Ld)  (hp0:r.sm):ca (Y.at 1) iz.body (Gl iz 2 (bT.D (eE r.rest).1) (Ld.D (r.to (eE r.rest).2)):Ex->List bE->St->Prop) (gh iz (.ptr 0 2 0 0::[])) ⟨1,[(0,.buf 2 [(Ld.D r)])]⟩:=by
 show ca _ _ _ [⟨true,.ptr 0 2 0 0⟩,.un,.un,.un,.un,.un,.un,.un,.un,.un,.un,.un] ⟨1,[(0,.buf 2 [(Ld.D r)])]⟩;have hself:=Ld.z7 hp0;have hq0:=r.wF;refine av ?_;refine bm ?_;refine bO hm (ι:=(List cu×List ak)) (fun p=>[⟨true,.ptr 0 2 0 0⟩,⟨true,.ptr 1 3 0 0⟩,.un,.un,.un,.un,.un,.un,⟨true,.ptr 2 3 0 0⟩,.un,.un,.un]) (fun p=>[(0,.buf 2 [Ld.D (r.to p.2)]),(1,.buf 3 [.agg [.au,.str [],.str []]]),(2,.buf 3 [.agg [.own 3 4 0 (p.1).length,.str [],.str []]]),(3,.buf 4 (p.1.map cu.N))]) 10 (fun p=>p.2<:+r.ls/\p.1.length+p.2.length<=r.ls.length/\cV r.rest=(p.1++(cV p.2).1,(cV p.2).2)) (fun p=>p.2.length) ([],r.rest) ⟨hq0,by simpa using hq0.length_le,aJ⟩ (aW.to [(1,1),(2,2)] ah ah fF (by refine bg.nl 0 ah ah (by rw[hself]) ah ?_;refine bg.gH ah ah ah ?_;refine bg.ni 2 ah ah (by exact⟨_,_,rfl,⟨_,rfl,⟨_,_,rfl,Or.inr ⟨_,_,_,rfl⟩,⟨_,_,rfl,⟨rfl,rfl⟩,⟨_,_,rfl,⟨rfl,rfl⟩,rfl⟩⟩⟩⟩,rfl⟩) ?_;refine bg.mt ah ah ah ah ?_;exact bg.nil)) ?_;rintro⟨A,p⟩ ⟨hq1,hlen,hw⟩;dsimp only at hq1 hlen hw⊢;have hll:=hp0.1.2;refine aG ?_;refine kW (hc:=uI h465 hp0 (p:=p) hq1 (w:=ma) (n:=5) (op:=true) aE aE) ?_;refine az ?_;refine hX _ ?_;refine ez ?_;refine ax (fun hc0=>?_) (fun hc0=>?_)
 .simp only[bP]at hc0;have hq:=ja hc0;have hnr:dL ma 5 true p=p:=by simp only[dL,hq]
  rw[hnr];have hw2:cV r.rest=(A,p):=by rw[hw,Ag hq,gD]
  refine aK ?_;have hq3:=(iK p).trans hq1;refine az ?_;refine kW (hc:=Af h468 hp0 hq1) ?_;refine az ?_;refine aQ (.agg [.own 3 4 0 A.length,.str (bW p).1,.str []]) (he:=aT) ?_;refine aK ?_;refine kW (hc:=uI h465 hp0 (p:=(bW p).2) hq3 (w:=fA) (n:=2) (op:=false) aE aE) ?_;refine az ?_;refine hX _ ?_;refine cH ?_;refine dR (fun hc3=>?_) fun hc3=>?_
  .refine az ?_;obtain⟨⟨l,q2⟩,hq⟩:=jb hc3;have hnr:dL fA 2 false (bW p).2=q2:=by simp only[dL,hq]
   obtain⟨hl,hlm,hq2,hqp⟩:=mj hp0 hq3 hq;rw[hnr,hq];obtain hl:l.length=2:=by rcases hl with h|h;cases h;exact h
   refine az ?_;refine cr 1 (hb:=fun _=>ae) ?_;refine b6 (v:=.str l[1]!) (hi:=fun _=>ae) ?_;refine az ?_;refine aQ (.agg [.own 3 4 0 A.length,.str (bW p).1,.str l[1]!]) (he:=aT) ?_;refine az ?_;have hnp:eE r.rest=(⟨A,(bW p).1,l[1]!⟩,q2):=by simp only[eE,hw2,sT,hq]
   rw[hnp];refine eF 3 (hn:=bj cu.nn _) (he:=by simp only[kg,hZ,jo,kR,lY,cd,Nat.reduceEqDiff,aP,aM,cA,bY,bQ,cx,cy,bD,bz,aF,bN,aI,reduceCtorEq,aH,aO,Nat.reduceAdd,Nat.reduceLeDiff,Ld.D];exact rfl) (hm:=by simp only[kg,hZ,jo,kR,lY,cd,Nat.reduceEqDiff,aP,aM,cA,bY,bQ,cx,cy,bD,bz,aF,bN,aI,reduceCtorEq,aH,aO,Nat.reduceAdd,Nat.reduceLeDiff,Ld.D];exact rfl) ?_;refine nS [(0,.buf 2 [Ld.D (r.to q2)]),(1,.buf 3 [.agg [.au,.str [],.str []]]),(2,.buf 3 [bT.D ⟨A,(bW p).1,l[1]!⟩])] (.id ah (.id ah (.bf ah (.cons (.ag (.cons (.ss (.map fun x _=>x.wk)) (.rf _))) .nil) .nil))) ?_;refine az ?_;refine dj (d:=bT.D ⟨A,(bW p).1,l[1]!⟩) ?_;refine aQ (bT.D ⟨A,(bW p).1,l[1]!⟩) (he:=aT) ?_;refine aA ?_;refine fT trivial uk (dw ah (?_)) ah ah ah;rfl
  refine az ?_;have hq:=ja hc3;have hnr:dL fA 2 false (bW p).2=(bW p).2:=by simp only[dL,hq]
  rw[hnr];have hnp:eE r.rest=(⟨A,(bW p).1,[]⟩,(bW p).2):=by simp only[eE,hw2,sT,hq]
  rw[hnp];refine eF 3 (hn:=bj cu.nn _) (he:=by simp only[kg,hZ,jo,kR,lY,cd,Nat.reduceEqDiff,aP,aM,cA,bY,bQ,cx,cy,bD,bz,aF,bN,aI,reduceCtorEq,aH,aO,Nat.reduceAdd,Nat.reduceLeDiff,Ld.D];exact rfl) (hm:=by simp only[kg,hZ,jo,kR,lY,cd,Nat.reduceEqDiff,aP,aM,cA,bY,bQ,cx,cy,bD,bz,aF,bN,aI,reduceCtorEq,aH,aO,Nat.reduceAdd,Nat.reduceLeDiff,Ld.D];exact rfl) ?_;refine nS [(0,.buf 2 [Ld.D (r.to (bW p).2)]),(1,.buf 3 [.agg [.au,.str [],.str []]]),(2,.buf 3 [bT.D ⟨A,(bW p).1,[]⟩])] (.id ah (.id ah (.bf ah (.cons (.ag (.cons (.ss (.map fun x _=>x.wk)) (.rf _))) .nil) .nil))) ?_;refine az ?_;refine dj (d:=bT.D ⟨A,(bW p).1,[]⟩) ?_;refine aQ (bT.D ⟨A,(bW p).1,[]⟩) (he:=aT) ?_;refine aA ?_;refine fT trivial uk (dw ah (?_)) ah ah ah;rfl
 simp only[cL]at hc0;obtain⟨⟨l,q2⟩,hq⟩:=jb hc0;have hnr:dL ma 5 true p=q2:=by simp only[dL,hq]
 obtain⟨hl,hlm,hq2,hqp⟩:=mj hp0 hq1 hq;rw[hnr,hq];obtain hl:l.length=5:=by rcases hl with h|h;cases h;exact h
 refine aK ?_;refine cr 3 (hb:=fun _=>ae) ?_;refine b6 (v:=.str l[3]!) (hi:=fun _=>ae) ?_;refine aG ?_;refine cr 3 (hb:=fun _=>ae) ?_;refine b6 (v:=.str l[3]!) (hi:=fun _=>ae) ?_;refine aG ?_;refine ax (fun hc1=>?_) (fun hc1=>?_)
 .simp only[bt,bP,bC]at hc1;have hho:tE l=false:=by unfold tE;rw[dJ (show ¬l[3]! =kf from hc1.1),dJ (show ¬l[3]! =pj from hc1.2)];rfl
  have hw2:cV r.rest=(A,p):=by rw[hw,DU hq hho,gD]
  obtain⟨t,hpt,_⟩:=eJ hq;refine aA ?_;obtain⟨hab1,hab2⟩:=(hp0.to q2).1;refine aG ?_;refine bZ (v:=.int .i64 ((r.to q2).at':Nat)) ?_;refine aG ?_;refine aQ (Ld.D (r.to p)) (he:=by rw[hpt];exact Ld.back (hpt▸hq1)) ?_;refine bm ?_;have hq3:=(iK p).trans hq1;refine az ?_;refine kW (hc:=Af h468 hp0 hq1) ?_;refine az ?_;refine aQ (.agg [.own 3 4 0 A.length,.str (bW p).1,.str []]) (he:=aT) ?_;refine aK ?_;refine kW (hc:=uI h465 hp0 (p:=(bW p).2) hq3 (w:=fA) (n:=2) (op:=false) aE aE) ?_;refine az ?_;refine hX _ ?_;refine cH ?_;refine dR (fun hc3=>?_) fun hc3=>?_
  .refine az ?_;obtain⟨⟨l,q2⟩,hq⟩:=jb hc3;have hnr:dL fA 2 false (bW p).2=q2:=by simp only[dL,hq]
   obtain⟨hl,hlm,hq2,hqp⟩:=mj hp0 hq3 hq;rw[hnr,hq];obtain hl:l.length=2:=by rcases hl with h|h;cases h;exact h
   refine az ?_;refine cr 1 (hb:=fun _=>ae) ?_;refine b6 (v:=.str l[1]!) (hi:=fun _=>ae) ?_;refine az ?_;refine aQ (.agg [.own 3 4 0 A.length,.str (bW p).1,.str l[1]!]) (he:=aT) ?_;refine az ?_;have hnp:eE r.rest=(⟨A,(bW p).1,l[1]!⟩,q2):=by simp only[eE,hw2,sT,hq]
   rw[hnp];refine eF 3 (hn:=bj cu.nn _) (he:=by simp only[kg,hZ,jo,kR,lY,cd,Nat.reduceEqDiff,aP,aM,cA,bY,bQ,cx,cy,bD,bz,aF,bN,aI,reduceCtorEq,aH,aO,Nat.reduceAdd,Nat.reduceLeDiff,Ld.D];exact rfl) (hm:=by simp only[kg,hZ,jo,kR,lY,cd,Nat.reduceEqDiff,aP,aM,cA,bY,bQ,cx,cy,bD,bz,aF,bN,aI,reduceCtorEq,aH,aO,Nat.reduceAdd,Nat.reduceLeDiff,Ld.D];exact rfl) ?_;refine nS [(0,.buf 2 [Ld.D (r.to q2)]),(1,.buf 3 [.agg [.au,.str [],.str []]]),(2,.buf 3 [bT.D ⟨A,(bW p).1,l[1]!⟩])] (.id ah (.id ah (.bf ah (.cons (.ag (.cons (.ss (.map fun x _=>x.wk)) (.rf _))) .nil) .nil))) ?_;refine az ?_;refine dj (d:=bT.D ⟨A,(bW p).1,l[1]!⟩) ?_;refine aQ (bT.D ⟨A,(bW p).1,l[1]!⟩) (he:=aT) ?_;refine aA ?_;refine fT trivial uk (dw ah (?_)) ah ah ah;rfl
  refine az ?_;have hq:=ja hc3;have hnr:dL fA 2 false (bW p).2=(bW p).2:=by simp only[dL,hq]
  rw[hnr];have hnp:eE r.rest=(⟨A,(bW p).1,[]⟩,(bW p).2):=by simp only[eE,hw2,sT,hq]
  rw[hnp];refine eF 3 (hn:=bj cu.nn _) (he:=by simp only[kg,hZ,jo,kR,lY,cd,Nat.reduceEqDiff,aP,aM,cA,bY,bQ,cx,cy,bD,bz,aF,bN,aI,reduceCtorEq,aH,aO,Nat.reduceAdd,Nat.reduceLeDiff,Ld.D];exact rfl) (hm:=by simp only[kg,hZ,jo,kR,lY,cd,Nat.reduceEqDiff,aP,aM,cA,bY,bQ,cx,cy,bD,bz,aF,bN,aI,reduceCtorEq,aH,aO,Nat.reduceAdd,Nat.reduceLeDiff,Ld.D];exact rfl) ?_;refine nS [(0,.buf 2 [Ld.D (r.to (bW p).2)]),(1,.buf 3 [.agg [.au,.str [],.str []]]),(2,.buf 3 [bT.D ⟨A,(bW p).1,[]⟩])] (.id ah (.id ah (.bf ah (.cons (.ag (.cons (.ss (.map fun x _=>x.wk)) (.rf _))) .nil) .nil))) ?_;refine az ?_;refine dj (d:=bT.D ⟨A,(bW p).1,[]⟩) ?_;refine aQ (bT.D ⟨A,(bW p).1,[]⟩) (he:=aT) ?_;refine aA ?_;refine fT trivial uk (dw ah (?_)) ah ah ah;rfl
 simp only[dF,cL,a8]at hc1;have hho:tE l=true:=by
  unfold tE;rcases hc1 with h|h
  .rw[cK (show l[3]! =kf from h)];rfl
  .rw[cK (show l[3]! =pj from h),Bool.or_true]
 have hwy:=Ca hq hho;refine aG ?_;refine cr 1 (hb:=fun _=>ae) ?_;refine b6 (v:=.str l[1]!) (hi:=fun _=>ae) ?_;refine az ?_;refine cr 4 (hb:=fun _=>ae) ?_;refine b6 (v:=.str l[4]!) (hi:=fun _=>ae) ?_;refine az ?_;refine cr 3 (hb:=fun _=>ae) ?_;refine b6 (v:=.str l[3]!) (hi:=fun _=>ae) ?_;refine az ?_;refine bq (.agg [.str l[1]!,.str l[4]!,.au,.bool (decide (l[3]! =kf))]) ?_;refine az ?_;refine aQ (.agg [.str l[1]!,.str l[4]!,.au,.bool (decide (l[3]! =kf))]) (he:=aT) ?_;refine aK ?_;refine cr 2 (hb:=fun _=>ae) ?_;refine b6 (v:=.str l[2]!) (hi:=fun _=>ae) ?_;refine aA ?_;refine dR (fun hc2=>?_) fun hc2=>?_
 .refine aA ?_;refine cr 2 (hb:=fun _=>ae) ?_;refine b6 (v:=.str l[2]!) (hi:=fun _=>ae) ?_;refine aq (hc:=h124 l[2]! 44 (hlm _ (bL ae))) ?_;refine az ?_;refine aQ (cu.N (ic l)) (he:=by show _=D.agg [.str l[1]!,.str l[4]!,PV (if l[2]! =[45]then []else ai l[2]! 44),.bool (decide (l[3]! =kf))];rw[aj hc2,PW (m8 _ _)];exact rfl) ?_;refine aG ?_;refine bZ (v:=.own 3 4 0 A.length) ?_;refine dj (d:=cu.N (ic l)) ?_;refine cZ [cu.N (ic l)] ?_;refine jg (q:=cu.N) (xs:=A) (e:=ic l) ?_;refine az ?_;refine aQ (.agg [.own 56 4 0 (A++[ic l]).length,.str [],.str []]) (he:=aT) ?_;refine aG ?_;exact⟨(A++[ic l],q2),⟨hq2,by simp only[bA,aH,aO];omega,by rw[hw,hwy];simp⟩,ea,(aW.to [(1,1),(2,2),(56,3)] ah ah fF (by refine bg.gH ah ah ah ?_;refine bg.gH ah ah ah ?_;refine bg.eq 2 ah ah ah ?_;refine bg.nl 56 ah ah rfl (by exact bj cu.nn _) ?_;exact bg.nil))⟩
 refine aA ?_;rw[show(D.agg [.str l[1]!,.str l[4]!,.au,.bool (decide (l[3]! =kf))])=cu.N (ic l)by show _=D.agg [.str l[1]!,.str l[4]!,PV (if l[2]! =[45]then []else ai l[2]! 44),.bool (decide (l[3]! =kf))];rw[aw hc2];rfl];refine az ?_;refine bZ (v:=.own 3 4 0 A.length) ?_;refine dj (d:=cu.N (ic l)) ?_;refine cZ [cu.N (ic l)] ?_;refine jg (q:=cu.N) (xs:=A) (e:=ic l) ?_;refine az ?_;refine aQ (.agg [.own 50 4 0 (A++[ic l]).length,.str [],.str []]) (he:=aT) ?_;refine aG ?_;exact⟨(A++[ic l],q2),⟨hq2,by simp only[bA,aH,aO];omega,by rw[hw,hwy];simp⟩,ea,(aW.to [(1,1),(2,2),(50,3)] ah ah fF (by refine bg.gH ah ah ah ?_;refine bg.gH ah ah ah ?_;refine bg.eq 2 ah ah ah ?_;refine bg.nl 50 ah ah rfl (by exact bj cu.nn _) ?_;exact bg.nil))⟩
def OS (Y:Ctx):Prop:=∀(r:Ld),(r.sm)->Y.fp 467 (Ld.D r) []/\Y.fv 467 (Ld.D r) []=bT.D (eE r.rest).1/\Y.fs 467 (Ld.D r) []=Ld.D (r.to (eE r.rest).2)
def DZ (Y:Ctx):Prop:=∀(r:Ld) (w:ak) (n:Nat) (op:Bool) (l nx:Nat) (m:List (Nat×bp)) (K:D->St->Prop),r.sm->n<=1000->(op=true->1<=n)->look m l=some (.buf 2 [Ld.D r])->
 K (.tup [xu (cb w n op r.rest),.bool (cb w n op r.rest).isSome]) ⟨nx,cM m l (.buf 2 [Ld.D (r.after (cb w n op r.rest))])⟩->Y.tr 465 [.ptr l 2 0 0,.str w,.int .i64 (n:Nat),.bool op] ⟨nx,m⟩ K
def uJ {Y:Ctx}(h:DZ Y){r:Ld}(hr:r.sm){p:List ak}(hp:p<:+r.ls){w:ak}{n:Nat}{op:Bool}(hn:n<=1000)(ho:op=true->1<=n){nx:Nat}{m:List (Nat×bp)}{K:D->St->Prop}(hl:look m 0=some (.buf 2 [Ld.D (r.to p)]))
  (hK:K (.tup [xu (cb w n op p),.bool (cb w n op p).isSome]) ⟨nx,cM m 0 (.buf 2 [Ld.D (r.to (dL w n op p))])⟩):Y.tr 465 [.ptr 0 2 0 0,.str w,.int .i64 (n:Nat),.bool op] ⟨nx,m⟩ K:=by
 refine h (r.to p) w n op 0 nx m K (hr.to p) hn ho hl ?_;rw[Ld.uP hp,Ld.Au hp];exact hK
def MY {Y:Ctx}(h:OS Y){r:Ld}(hr:r.sm){p:List ak}(hp:p<:+r.ls):Y.fp 467 (Ld.D (r.to p)) []/\Y.fv 467 (Ld.D (r.to p)) []=bT.D (eE p).1/\Y.fs 467 (Ld.D (r.to p)) []=Ld.D (r.to (eE p).2):=by
 have:=h (r.to p) (hr.to p);rw[Ld.uP hp]at this;exact this
def mB:∀p:List ak,(cV p).2<:+p
 |[]=>kD _
 |t::r=>by
  simp only[cV];split
  .split
   .exact(mB r).trans (List.suffix_cons _ _)
   .exact kD _
  .exact kD _
def pO (p:List ak):(eE p).2<:+p:=(JX _).trans ((iK _).trans (mB p))
def AQ {p:List ak}(h:cb dQ 0 false p=none):fj p=([],p):=by
 match p,h with
 |[],_=>rfl
 |t::r,h=>
  grind [cb,fj]
def GK {p l q:List ak}(h:cb dQ 0 false p=some (l,q))(ho:¬2<=l.length):fj p=([],p):=by
 grind [eJ,fj]
def CR {p l q:List ak}(h:cb dQ 0 false p=some (l,q))(ho:2<=l.length):fj p=(⟨l[1]!,l.drop 2⟩::(fj q).1,(fj q).2):=by
 grind [eJ,fj]
def gM (ls:List ak):Rec×List ak:=match sY ls with
 |some p=>p
 |none=>(qd,ls)
def ey:D:=.agg [.str [],.int .i64 0,.int .i64 0,.int .i64 0,.str [],.str [],.au,.au,.au]
def r6:uu ey qd.D:=.ag (.cons (.refl _) (.cons (.refl _) (.cons (.refl _) (.cons (.refl _) (.cons (.refl _) (.cons (.refl _) (.cons (.nil 3) (.cons (.nil 3) (.cons (.nil 2) .nil)))))))))
def mV (nm:ak)(v:gE)(n b f:D):D:=.agg [.str nm,.int .i64 v.major,.int .i64 v.minor,.int .i64 v.patch,.str v.pre,.str v.build,n,b,f]
def QE {s:ak}(h:xB s=0):∃v,ph s=some v:=by
 unfold xB at h;split at h
 .rename_i hs;exact jb hs
 .cases h
def QD {s:ak}(h:¬xB s=0):ph s=none:=by
 grind [xB,ja]
theorem yV (n:Nat)(op:Bool)(t:ak):(dZ n op t).length<=t.length+1:=by
 grind [dE,fm,dZ,nX,ai]
def JJ {r:Ld}(hr:r.sm){p:List ak}(hp:p<:+r.ls){w:ak}{n:Nat}{op:Bool}{l q:List ak}(h:cb w n op p=some (l,q)):l.length<=1048577:=by
 obtain⟨t,rfl,ht⟩:=eJ h;obtain⟨_,_,h3⟩:=sS ht;have:=yV n op t;have:=hr.2 t (hp.subset (.head _));rw[h3];omega
def gU:aN:=⟨1,20,[⟨1,some (9,true)⟩,⟨2,none⟩],[rm,[.a]],(sq (rg [gb 9 (.c (.agg [.str [],.int .i64 0,.int .i64 0,.int .i64 0,.str [],.str [],.au,.au,.au])),gm eS] [(1,0),(2,1)]) (sq (r1 [gm s0,gn (.mkf 1000465 [l0]),gm l1] 3 2) (sq (rg [gm s3,gn (.callvM l0 [(cs [112,97,99,107,97,103,101]),k9,eS]),gm l1,ge l2 0,ge l2 1,gm l3,gm l4] [(6,5),(4,6)]) (sq (sq (r1 [gm s4,p8 l0] 5 1) (.cond s5 (sq (r1 [gn (.build [.str [],.int .i64 0,.int .i64 0,.int .i64 0,.str [],.str [],.au,.au,.au] []),gt 9 s1 l0,gm eS] 2 2) .ret) .skip)) (sq (rg [gm s6,ga 1 l0 mi,gd l1,gx 466 [l2] di,gm l3,ge l4 0,ge l4 1,gb 5 (.c (.agg [.int .i64 0,.int .i64 0,.int .i64 0,.str [],.str []])),gt 5 l7 l5,gm l6] [(9,7),(7,9)]) (sq (sq (r1 [gm s7,dd l0 b7] 8 1) (.cond s8 (sq (rg [gm s0,gc l0,gf 1 l1,gd l2,gA l3 cN,gc l0,gf 1 l5,gt 1 l6 l4] []) (sq (r1 [gn (.build [.str [],.int .i64 0,.int .i64 0,.int .i64 0,.str [],.str [],.au,.au,.au] []),gt 9 s1 l0,gm eS] 2 2) .ret)) .skip)) (sq (r2 [gm s6,ga 1 l0 cN,gd l1,gk 5 true s9,gn (.build [.str [],.int .i64 0,.int .i64 0,.int .i64 0,.str [],.str [],.au,.au,.au] [(0,1,l2),(1,5,l3)]),gb 9 (.c (.agg [.str [],.int .i64 0,.int .i64 0,.int .i64 0,.str [],.str [],.au,.au,.au])),gt 9 l5 l4] 12 5) (sq (.block 0 (.loop (.block 1 (sq (sq (r1 [gm s3,gn (.callvM l0 [(cs [110,101,101,100]),cN,eS]),gm l1,ge l2 0,ge l2 1,gm l3,gm l4] 10 6) (sq (r1 [gm mL,p8 l0] 11 1) (.cond pU (.exit 0) .skip))) (rt [gf 6 m6,gn (.ldU 1 false l0),gm s0,gn (.callF 467 l2 [] []),gn (.bsl 3 (.agg [.au,.str [],.str []]) 1 [(0,l3)]),gn (.app 3 l1 l4),gf 6 m6,gt 1 l6 l5] []))))) (sq (.block 2 (.loop (.block 3 (sq (rg [gm s3,gn (.callvM l0 [(cs [98,97,114]),k9,xc]),gm l1,ge l2 0,ge l2 1,gm l3,gm l4] [(15,5),(13,6)]) (sq (sq (r1 [gm rq,p8 l0] 14 1) (.cond rr (.exit 2) .skip)) (rt [gf 7 m6,gn (.ldU 1 false l0),gm tP,ga 1 l2 cN,gn (.ldU 1 false l3),gm tP,ga 1 l5 mi,gn (.ldU 1 false l6),gm s0,gn (.callF 468 l8 [] []),gn (.build [.str [],.str [],.str []] [(0,1,l4),(1,1,l7),(2,1,l9)]),gn (.bsl 3 (.agg [.str [],.str [],.str []]) 1 [(0,l10)]),gn (.app 3 l1 kl),gf 7 m6,gt 1 nQ mG] [])))))) (sq (.block 4 (.loop (.block 5 (sq (rg [gm s3,gn (.callvM l0 [(cs [102,101,97,116,117,114,101]),b7,eS]),gm l1,ge l2 0,ge l2 1,gm l3,gm l4] [(18,5),(16,6)]) (sq (sq (r1 [gm An,p8 l0] 17 1) (.cond yz (.exit 4) .skip)) (sq (sq (r1 [gm yA,gl l0,bo l1 mi] 19 2) (.cond HQ (sq (rg [gm s0,gc l0,gf 1 l1,gd l2,gA l3 cN,gc l0,gf 1 l5,gt 1 l6 l4] []) (.exit 4)) .skip)) (rt [gf 8 m6,gd l0,gm yA,ga 1 l2 cN,gd l3,gm yA,gn (.slA 1 l5 (some mi) none),gx 469 [l6] [[.sl 1 [.a]]],gn (.build [.str [],.au] [(0,1,l4),(1,1,l7)]),gn (.bsl 2 (.agg [.str [],.au]) 1 [(0,l8)]),gn (.app 2 l1 l9),gf 8 m6,gt 1 kl l10] []))))))) (sq (r1 [gk 9 true m6,gt 9 s1 l0,gm xc] 2 2) .ret)))))))))))⟩
def w222 {Y:Ctx}(hm:(Y.at 1).cQ)(h466:Rz (Y.at 1))(h467:OS (Y.at 1))(h468:Lw (Y.at 1))(h469:RA (Y.at 1))(h9465:DZ (Y.at 1))(r:Ld)  (hp0:r.sm):ca (Y.at 1) gU.body (Gl gU 2 (.tup [Rec.D (gM r.rest).1,.bool (sY r.rest).isSome]) (Ld.D (r.to (gM r.rest).2)):Ex->List bE->St->Prop) (gh gU (.ptr 0 2 0 0::[])) ⟨1,[(0,.buf 2 [(Ld.D r)])]⟩:=by
 show ca _ _ _ [⟨true,.ptr 0 2 0 0⟩,.un,.un,.un,.un,.un,.un,.un,.un,.un,.un,.un,.un,.un,.un,.un,.un,.un,.un,.un] ⟨1,[(0,.buf 2 [(Ld.D r)])]⟩;have hself:=Ld.z7 hp0;have hq1:=r.wF;have hll:=hp0.1.2;refine av ?_;refine bm ?_;refine Tk _ ?_;refine aG ?_;rw[show Ld.D r=Ld.D (r.to r.rest)by rw[hself]];refine az ?_;refine ll (n:=1000465) (aai:=[.ptr 0 2 0 0,.str fg,.int .i64 ((3:Nat):Int),.bool false]) (ι:=Unit) (fun _=>True) (fun _=>.tup [xu (cb fg 3 false r.rest),.bool (cb fg 3 false r.rest).isSome]) 6 (fun _=>[(0,.buf 2 [Ld.D (r.to (dL fg 3 false r.rest))]),(1,.buf 9 [ey])]) (fun _ _=>?_) (hc:=fun K' hK=>uJ h9465 hp0 hq1 (w:=fg) (n:=3) (op:=false) aE aE ah (hK () trivial)) (hn:=aE);refine az ?_;refine hX _ ?_;refine ez ?_;refine ax (fun hc0=>?_) (fun hc0=>?_)
 .simp only[bP]at hc0;have hq:=ja hc0;have hnr:dL fg 3 false r.rest=r.rest:=by simp only[dL,hq]
  rw[hnr];have hrp:sY r.rest=none:=by simp only[sY,hq]
  have hrv:gM r.rest=(qd,r.rest):=by simp only[gM,hrp]
  rw[hrv,hrp];refine aA ?_;refine bq ey ?_;refine aQ ey (he:=aT) ?_;refine aA ?_;refine nS [(0,.buf 2 [Ld.D (r.to r.rest)]),(1,.buf 9 [Rec.D qd])] (.id ah (.bf ah (.cons r6 .nil) .nil)) ?_;refine az ?_;refine fT trivial uk (dw ah (aZ ?_ ?_)) ah ah ah;all_goals rfl
 simp only[cL]at hc0;obtain⟨⟨l,q0⟩,hq⟩:=jb hc0;have hnr:dL fg 3 false r.rest=q0:=by simp only[dL,hq]
 obtain⟨hl,hlm,hq0,hqp⟩:=mj hp0 hq1 hq;rw[hnr,hq];obtain hl:l.length=3:=by rcases hl with h|h;cases h;exact h
 refine aG ?_;refine cr 2 (hb:=fun _=>ae) ?_;refine b6 (v:=.str l[2]!) (hi:=fun _=>ae) ?_;refine aq (hc:=h466 l[2]! (hlm _ (bL ae))) ?_;refine az ?_;refine hX (gE.D _) ?_;refine aA ?_;refine aQ (gE.D ((ph l[2]!).getD kB)) (he:=aT) ?_;refine bI ?_;refine ax (fun hc1=>?_) (fun hc1=>?_)
 .simp only[bP,bC]at hc1;have hv:=QD hc1;have hrp:sY r.rest=none:=by simp only[sY,hq,hv]
  have hrv:gM r.rest=(qd,r.rest):=by simp only[gM,hrp]
  rw[hrv,hrp];obtain⟨t,hpt,_⟩:=eJ hq;refine aA ?_;obtain⟨hab1,hab2⟩:=(hp0.to q0).1;refine aG ?_;refine bZ (v:=.int .i64 ((r.to q0).at':Nat)) ?_;refine aG ?_;refine aQ (Ld.D (r.to r.rest)) (he:=by rw[hpt];exact Ld.back (hpt▸hq1)) ?_;refine aG ?_;refine bq ey ?_;refine aQ ey (he:=aT) ?_;refine aA ?_;refine nS [(0,.buf 2 [Ld.D (r.to r.rest)]),(1,.buf 9 [Rec.D qd]),(22,.buf 5 [gE.D ((ph l[2]!).getD kB)])] (.id ah (.bf ah (.cons r6 .nil) (.id ah .nil))) ?_;refine az ?_;refine fT trivial uk (dw ah (aZ ?_ ?_)) ah ah ah;all_goals rfl
 simp only[cL,a8]at hc1;obtain⟨v,hv⟩:=QE hc1;rw[hv];have hrp:sY r.rest=some (vn l[1]! v q0):=by simp only[sY,hq,hv]
 have hrv:gM r.rest=vn l[1]! v q0:=by simp only[gM,hrp]
 rw[hrv,hrp];generalize hnm:l[1]! =nm;have hq01:=hq0.length_le;refine aA ?_;rw[<-hnm];refine az ?_;refine cr 1 (hb:=fun _=>ae) ?_;refine b6 (v:=.str l[1]!) (hi:=fun _=>ae) ?_;refine dj (d:=gE.D v) ?_;refine bq (mV l[1]! v .au .au .au) ?_;refine az ?_;refine aQ (mV l[1]! v .au .au .au) (he:=aT) ?_;refine az ?_;rw[hnm];refine bO hm (ι:=(List bT×List ak)) (fun z=>[⟨true,.ptr 0 2 0 0⟩,⟨true,.ptr 1 9 0 0⟩,⟨true,.bool false⟩,⟨true,.fn 1000465 [.ptr 0 2 0 0]⟩,.un,.un,.un,.un,.un,.un,.un,.un,⟨true,.ptr 2 9 0 0⟩,.un,.un,.un,.un,.un,.un,.un]) (fun z=>[(0,.buf 2 [Ld.D (r.to z.2)]),(1,.buf 9 [ey]),(2,.buf 9 [mV nm v (.own 3 3 0 (z.1).length) (.au) (.au)]),(3,.buf 3 (z.1.map bT.D))]) 10 (fun z=>z.2<:+r.ls/\z.1.length+z.2.length<=r.ls.length/\gS q0=(z.1++(gS z.2).1,(gS z.2).2)) (fun z=>z.2.length) ([],q0) ⟨hq0,by simpa using hq01,aJ⟩ (aW.to [(1,1),(32,2)] ah ah fF (by refine bg.gH ah ah ah ?_;refine bg.gH ah ah ah ?_;refine bg.ni 32 ah ah (by exact⟨_,_,rfl,⟨_,rfl,⟨_,_,rfl,⟨rfl,rfl⟩,⟨_,_,rfl,⟨rfl,rfl⟩,⟨_,_,rfl,⟨rfl,rfl⟩,⟨_,_,rfl,⟨rfl,rfl⟩,⟨_,_,rfl,⟨rfl,rfl⟩,⟨_,_,rfl,⟨rfl,rfl⟩,⟨_,_,rfl,Or.inr ⟨_,_,_,rfl⟩,⟨_,_,rfl,Or.inl rfl,⟨_,_,rfl,Or.inl rfl,rfl⟩⟩⟩⟩⟩⟩⟩⟩⟩⟩,rfl⟩) ?_;refine bg.mt ah ah ah ah ?_;exact bg.nil)) ?_;rintro⟨N,p⟩ ⟨hq1,hlen,hw⟩;dsimp only at hq1 hlen hw⊢;refine aK ?_;refine ll (n:=1000465) (aai:=[.ptr 0 2 0 0,.str jB,.int .i64 ((1:Nat):Int),.bool false]) (ι:=Unit) (fun _=>True) (fun _=>.tup [xu (cb jB 1 false p),.bool (cb jB 1 false p).isSome]) 10 (fun _=>[(0,.buf 2 [Ld.D (r.to (dL jB 1 false p))]),(1,.buf 9 [ey]),(2,.buf 9 [mV nm v (.own 3 3 0 (N).length) (.au) (.au)]),(3,.buf 3 (N.map bT.D))]) (fun _ _=>?_) (hc:=fun K' hK=>uJ h9465 hp0 hq1 (w:=jB) (n:=1) (op:=false) aE aE ah (hK () trivial)) (hn:=aE);refine az ?_;refine hX _ ?_;refine ez ?_;refine ax (fun hc2=>?_) (fun hc2=>?_)
 .simp only[bP]at hc2;have hq:=ja hc2;have hnr:dL jB 1 false p=p:=by simp only[dL,hq]
  rw[hnr];have hn2:gS q0=(N,p):=by rw[hw,Bn hq,gD]
  have hpl:=hq1.length_le;refine aG ?_;refine eF 3 (hn:=bj (fun _=>rfl) _) (he:=by simp only[kg,hZ,jo,kR,lY,cd,Nat.reduceEqDiff,aP,aM,cA,bY,bQ,cx,cy,bD,bz,aF,bN,aI,reduceCtorEq,aH,aO,Nat.reduceAdd,Nat.reduceLeDiff,Ld.D,ey,mV];exact rfl) (hm:=by simp only[kg,hZ,jo,kR,lY,cd,Nat.reduceEqDiff,aP,aM,cA,bY,bQ,cx,cy,bD,bz,aF,bN,aI,reduceCtorEq,aH,aO,Nat.reduceAdd,Nat.reduceLeDiff,Ld.D,ey,mV];exact rfl) ?_;refine bO hm (ι:=(List jT×List ak)) (fun z=>[⟨true,.ptr 0 2 0 0⟩,⟨true,.ptr 1 9 0 0⟩,⟨true,.bool false⟩,⟨true,.fn 1000465 [.ptr 0 2 0 0]⟩,.un,.un,.un,.un,.un,.un,.un,.un,⟨true,.ptr 2 9 0 0⟩,.un,.un,.un,.un,.un,.un,.un]) (fun z=>[(0,.buf 2 [Ld.D (r.to z.2)]),(1,.buf 9 [ey]),(2,.buf 9 [mV nm v ((.sl 3 (N.map bT.D))) (.own 3 3 0 (z.1).length) (.au)]),(3,.buf 3 (z.1.map jT.D))]) 10 (fun z=>z.2<:+r.ls/\z.1.length+z.2.length<=r.ls.length/\mc p=(z.1++(mc z.2).1,(mc z.2).2)) (fun z=>z.2.length) ([],p) ⟨hq1,by simpa using hpl,aJ⟩ (aW.to [(1,1),(2,2)] ah ah fF (by refine bg.gH ah ah ah ?_;refine bg.gH ah ah ah ?_;refine bg.ni 2 ah ah (by exact⟨_,_,rfl,⟨_,rfl,⟨_,_,rfl,⟨rfl,rfl⟩,⟨_,_,rfl,⟨rfl,rfl⟩,⟨_,_,rfl,⟨rfl,rfl⟩,⟨_,_,rfl,⟨rfl,rfl⟩,⟨_,_,rfl,⟨rfl,rfl⟩,⟨_,_,rfl,⟨rfl,rfl⟩,⟨_,_,rfl,⟨rfl,rfl⟩,⟨_,_,rfl,Or.inr ⟨_,_,_,rfl⟩,⟨_,_,rfl,Or.inl rfl,rfl⟩⟩⟩⟩⟩⟩⟩⟩⟩⟩,rfl⟩) ?_;refine bg.mt ah ah ah ah ?_;exact bg.nil)) ?_;rintro⟨B,pb⟩ ⟨hq1,hlen,hw⟩;dsimp only at hq1 hlen hw⊢;refine aG ?_;refine ll (n:=1000465) (aai:=[.ptr 0 2 0 0,.str kX,.int .i64 ((3:Nat):Int),.bool true]) (ι:=Unit) (fun _=>True) (fun _=>.tup [xu (cb kX 3 true pb),.bool (cb kX 3 true pb).isSome]) 10 (fun _=>[(0,.buf 2 [Ld.D (r.to (dL kX 3 true pb))]),(1,.buf 9 [ey]),(2,.buf 9 [mV nm v ((.sl 3 (N.map bT.D))) (.own 3 3 0 (B).length) (.au)]),(3,.buf 3 (B.map jT.D))]) (fun _ _=>?_) (hc:=fun K' hK=>uJ h9465 hp0 hq1 (w:=kX) (n:=3) (op:=true) aE aE ah (hK () trivial)) (hn:=aE);refine az ?_;refine hX _ ?_;refine ez ?_;refine ax (fun hc3=>?_) (fun hc3=>?_)
  .simp only[bP]at hc3;have hq:=ja hc3;have hnr:dL kX 3 true pb=pb:=by simp only[dL,hq]
   rw[hnr];have iZ:mc p=(B,pb):=by rw[hw,CB hq,gD]
   have hpl2:=hq1.length_le;refine aG ?_;refine eF 3 (hn:=bj (fun _=>rfl) _) (he:=by simp only[kg,hZ,jo,kR,lY,cd,Nat.reduceEqDiff,aP,aM,cA,bY,bQ,cx,cy,bD,bz,aF,bN,aI,reduceCtorEq,aH,aO,Nat.reduceAdd,Nat.reduceLeDiff,Ld.D,ey,mV];exact rfl) (hm:=by simp only[kg,hZ,jo,kR,lY,cd,Nat.reduceEqDiff,aP,aM,cA,bY,bQ,cx,cy,bD,bz,aF,bN,aI,reduceCtorEq,aH,aO,Nat.reduceAdd,Nat.reduceLeDiff,Ld.D,ey,mV];exact rfl) ?_;refine bO hm (ι:=(List ct×List ak)) (fun z=>[⟨true,.ptr 0 2 0 0⟩,⟨true,.ptr 1 9 0 0⟩,⟨true,.bool false⟩,⟨true,.fn 1000465 [.ptr 0 2 0 0]⟩,.un,.un,.un,.un,.un,.un,.un,.un,⟨true,.ptr 2 9 0 0⟩,.un,.un,.un,.un,.un,.un,.un]) (fun z=>[(0,.buf 2 [Ld.D (r.to z.2)]),(1,.buf 9 [ey]),(2,.buf 9 [mV nm v ((.sl 3 (N.map bT.D))) ((.sl 3 (B.map jT.D))) (.own 3 2 0 (z.1).length)]),(3,.buf 2 (z.1.map ct.D))]) 10 (fun z=>z.2<:+r.ls/\z.1.length+z.2.length<=r.ls.length/\fj pb=(z.1++(fj z.2).1,(fj z.2).2)) (fun z=>z.2.length) ([],pb) ⟨hq1,by simpa using hpl2,aJ⟩ (aW.to [(1,1),(2,2)] ah ah fF (by refine bg.gH ah ah ah ?_;refine bg.gH ah ah ah ?_;refine bg.ni 2 ah ah (by exact⟨_,_,rfl,⟨_,rfl,⟨_,_,rfl,⟨rfl,rfl⟩,⟨_,_,rfl,⟨rfl,rfl⟩,⟨_,_,rfl,⟨rfl,rfl⟩,⟨_,_,rfl,⟨rfl,rfl⟩,⟨_,_,rfl,⟨rfl,rfl⟩,⟨_,_,rfl,⟨rfl,rfl⟩,⟨_,_,rfl,⟨rfl,rfl⟩,⟨_,_,rfl,⟨rfl,rfl⟩,⟨_,_,rfl,Or.inr ⟨_,_,_,rfl⟩,rfl⟩⟩⟩⟩⟩⟩⟩⟩⟩⟩,rfl⟩) ?_;refine bg.mt ah ah ah ah ?_;exact bg.nil)) ?_;rintro⟨Z,pf⟩ ⟨hq1,hlen,hw⟩;dsimp only at hq1 hlen hw⊢;refine aG ?_;refine ll (n:=1000465) (aai:=[.ptr 0 2 0 0,.str dQ,.int .i64 ((0:Nat):Int),.bool false]) (ι:=Unit) (fun _=>True) (fun _=>.tup [xu (cb dQ 0 false pf),.bool (cb dQ 0 false pf).isSome]) 10 (fun _=>[(0,.buf 2 [Ld.D (r.to (dL dQ 0 false pf))]),(1,.buf 9 [ey]),(2,.buf 9 [mV nm v ((.sl 3 (N.map bT.D))) ((.sl 3 (B.map jT.D))) (.own 3 2 0 (Z).length)]),(3,.buf 2 (Z.map ct.D))]) (fun _ _=>?_) (hc:=fun K' hK=>uJ h9465 hp0 hq1 (w:=dQ) (n:=0) (op:=false) aE aE ah (hK () trivial)) (hn:=aE);refine az ?_;refine hX _ ?_;refine ez ?_;refine ax (fun hc4=>?_) (fun hc4=>?_)
   .simp only[bP]at hc4;have hq:=ja hc4;have hnr:dL dQ 0 false pf=pf:=by simp only[dL,hq]
    rw[hnr];have hf2:fj pb=(Z,pf):=by rw[hw,AQ hq,gD]
    refine aG ?_;have hbd:vn nm v q0=(⟨nm,v,N,B,Z⟩,pf):=by simp only[vn,hn2,iZ,hf2]
    rw[hbd];refine eF 3 (hn:=bj (fun _=>rfl) _) (he:=by simp only[kg,hZ,jo,kR,lY,cd,Nat.reduceEqDiff,aP,aM,cA,bY,bQ,cx,cy,bD,bz,aF,bN,aI,reduceCtorEq,aH,aO,Nat.reduceAdd,Nat.reduceLeDiff,Ld.D,ey,mV];exact rfl) (hm:=by simp only[kg,hZ,jo,kR,lY,cd,Nat.reduceEqDiff,aP,aM,cA,bY,bQ,cx,cy,bD,bz,aF,bN,aI,reduceCtorEq,aH,aO,Nat.reduceAdd,Nat.reduceLeDiff,Ld.D,ey,mV];exact rfl) ?_;refine az ?_;refine dj (d:=Rec.D ⟨nm,v,N,B,Z⟩) ?_;refine aQ (Rec.D ⟨nm,v,N,B,Z⟩) (he:=aT) ?_;refine aG ?_;refine fT trivial uk (dw ah (aZ ?_ ?_)) ah ah ah;all_goals rfl
   simp only[cL]at hc4;obtain⟨⟨l,q2⟩,hq⟩:=jb hc4;have hnr:dL dQ 0 false pf=q2:=by simp only[dL,hq]
   obtain⟨hl,hlm,hq2,hqp⟩:=mj hp0 hq1 hq;rw[hnr,hq];have hll2:=JJ hp0 hq1 hq;refine bm ?_;intro u0;refine aA ?_;refine dR (fun hc5=>?_) fun hc5=>?_
   .refine aA ?_;have hf2:fj pb=(Z,pf):=by rw[hw,GK hq ae,gD]
    obtain⟨t,hpt,_⟩:=eJ hq;obtain⟨hab1,hab2⟩:=(hp0.to q2).1;refine aG ?_;refine bZ (v:=.int .i64 ((r.to q2).at':Nat)) ?_;refine aG ?_;refine aQ (Ld.D (r.to pf)) (he:=by rw[hpt];exact Ld.back (hpt▸hq1)) ?_;refine aK ?_;have hbd:vn nm v q0=(⟨nm,v,N,B,Z⟩,pf):=by simp only[vn,hn2,iZ,hf2]
    rw[hbd];refine eF 3 (hn:=bj (fun _=>rfl) _) (he:=by simp only[kg,hZ,jo,kR,lY,cd,Nat.reduceEqDiff,aP,aM,cA,bY,bQ,cx,cy,bD,bz,aF,bN,aI,reduceCtorEq,aH,aO,Nat.reduceAdd,Nat.reduceLeDiff,Ld.D,ey,mV];exact rfl) (hm:=by simp only[kg,hZ,jo,kR,lY,cd,Nat.reduceEqDiff,aP,aM,cA,bY,bQ,cx,cy,bD,bz,aF,bN,aI,reduceCtorEq,aH,aO,Nat.reduceAdd,Nat.reduceLeDiff,Ld.D,ey,mV];exact rfl) ?_;refine az ?_;refine dj (d:=Rec.D ⟨nm,v,N,B,Z⟩) ?_;refine aQ (Rec.D ⟨nm,v,N,B,Z⟩) (he:=aT) ?_;refine aG ?_;refine fT trivial uk (dw ah (aZ ?_ ?_)) ah ah ah;all_goals rfl
   refine aA ?_;have h2l:2<=l.length:=ae;refine az ?_;refine bZ (v:=.own 3 2 0 Z.length) ?_;refine az ?_;refine cr 1 (hb:=fun _=>ae) ?_;refine b6 (v:=.str l[1]!) (hi:=fun _=>ae) ?_;refine az ?_;refine wy 2 (hb:=fun _=>ae) ?_;refine aq (hc:=h469 (l.drop 2) (by rw[pr];omega)) ?_;refine bq (ct.D ⟨l[1]!,l.drop 2⟩) ?_;refine cZ [ct.D ⟨l[1]!,l.drop 2⟩] ?_;refine jg (q:=ct.D) (xs:=Z) (e:=⟨l[1]!,l.drop 2⟩) ?_;refine az ?_;refine aQ (mV nm v (.sl 3 (N.map bT.D)) (.sl 3 (B.map jT.D)) (.own 32 2 0 (Z++[(⟨l[1]!,l.drop 2⟩:ct)]).length)) (he:=aT) ?_;refine aG ?_;have hsl:=aF 0;exact⟨(Z++[⟨l[1]!,l.drop 2⟩],q2),⟨hq2,by simp only[bA,aH,aO];omega,by rw[hw,CR hq h2l];simp⟩,ea,(aW.to [(1,1),(2,2),(32,3)] ah ah fF (by refine bg.gH ah ah ah ?_;refine bg.gH ah ah ah ?_;refine bg.eq 2 ah ah ah ?_;refine bg.nl 32 ah ah rfl (by exact bj (fun _=>rfl) _) ?_;exact bg.nil))⟩
  simp only[cL]at hc3;obtain⟨⟨l,q2⟩,hq⟩:=jb hc3;have hnr:dL kX 3 true pb=q2:=by simp only[dL,hq]
  obtain⟨hl,hlm,hq2,hqp⟩:=mj hp0 hq1 hq;rw[hnr,hq];obtain hl:l.length=3:=by rcases hl with h|h;cases h;exact h
  refine aG ?_;refine Kt (v:=.own 3 3 0 B.length) ?_;refine az ?_;refine cr 1 (hb:=fun _=>ae) ?_;refine Ku (v:=.str l[1]!) (hi:=fun _=>ae) ?_;refine az ?_;refine cr 2 (hb:=fun _=>ae) ?_;refine Ku (v:=.str l[2]!) (hi:=fun _=>ae) ?_;refine az ?_;refine kW (hc:=Af h468 hp0 hq2) ?_;refine bq (jT.D ⟨l[1]!,l[2]!,(bW q2).1⟩) ?_;refine cZ [jT.D ⟨l[1]!,l[2]!,(bW q2).1⟩] ?_;refine jg (q:=jT.D) (xs:=B) (e:=⟨l[1]!,l[2]!,(bW q2).1⟩) ?_;refine az ?_;refine aQ (mV nm v (.sl 3 (N.map bT.D)) (.own 31 3 0 (B++[(⟨l[1]!,l[2]!,(bW q2).1⟩:jT)]).length) .au) (he:=aT) ?_;refine aG ?_;have hsl:=(iK q2).length_le;exact⟨(B++[⟨l[1]!,l[2]!,(bW q2).1⟩],(bW q2).2),⟨(iK q2).trans hq2,by simp only[bA,aH,aO];omega,by rw[hw,CD hq];simp⟩,ea,(aW.to [(1,1),(2,2),(31,3)] ah ah fF (by refine bg.gH ah ah ah ?_;refine bg.gH ah ah ah ?_;refine bg.eq 2 ah ah ah ?_;refine bg.nl 31 ah ah rfl (by exact bj (fun _=>rfl) _) ?_;exact bg.nil))⟩
 simp only[cL]at hc2;obtain⟨⟨l,q2⟩,hq⟩:=jb hc2;have hnr:dL jB 1 false p=q2:=by simp only[dL,hq]
 obtain⟨hl,hlm,hq2,hqp⟩:=mj hp0 hq1 hq;rw[hnr,hq];refine aG ?_;refine Kt (v:=.own 3 3 0 N.length) ?_;refine az ?_;refine kW (hc:=MY h467 hp0 hq2) ?_;refine cZ [bT.D (eE q2).1] ?_;refine jg (q:=bT.D) (xs:=N) (e:=(eE q2).1) ?_;refine az ?_;refine aQ (mV nm v (.own 24 3 0 (N++[(eE q2).1]).length) .au .au) (he:=aT) ?_;refine aG ?_;have hsl:=(pO q2).length_le;exact⟨(N++[(eE q2).1],(eE q2).2),⟨(pO q2).trans hq2,by simp only[bA,aH,aO];omega,by rw[hw,Bo hq];simp⟩,ea,(aW.to [(1,1),(2,2),(24,3)] ah ah fF (by refine bg.gH ah ah ah ?_;refine bg.gH ah ah ah ?_;refine bg.eq 2 ah ah ah ?_;refine bg.nl 24 ah ah rfl (by exact bj (fun _=>rfl) _) ?_;exact bg.nil))⟩
def Rb (Y:Ctx):Prop:=∀(r:Ld),(r.sm)->Y.fp 222 (Ld.D r) []/\Y.fv 222 (Ld.D r) []=.tup [Rec.D (gM r.rest).1,.bool (sY r.rest).isSome]/\Y.fs 222 (Ld.D r) []=Ld.D (r.to (gM r.rest).2)
def xI (p:List ak):Prop:=∀t∈p,t.length<=1048576
def xI.get {l:List ak}(h:xI l)(i:Nat):l[i]!.length<=1048576:=by
 rcases fH i l.length with hi|hi
 .exact h _ (bL hi)
 .simp[hi];exact Nat.zero_le _
def xI.next {p:List ak}(hp:xI p){w:ak}{n:Nat}{op:Bool}{l q:List ak}(h:cb w n op p=some (l,q)):xI l/\xI q/\l.length<=1048577:=by
 obtain⟨t,rfl,ht⟩:=eJ h;obtain⟨_,_,h3⟩:=sS ht;have h0:=hp t (.head _);refine⟨fun u hu=>?_,fun u hu=>hp u (.tail _ hu), ?_⟩
 .rw[h3]at hu;have:=Cb hu;omega
 grind [yV]
def xI.uO {p q:List ak}(hp:xI p)(h:q<:+p):xI q:=fun t ht=>hp t (h.subset ht)
def H6 {l:List ak}(h:xI l):(ic l).sm:=by
 refine⟨⟨h.get 1,h.get 4⟩,fun t ht=>?_⟩;unfold ic at ht;simp only at ht;split at ht
 .cases ht
 .have:=dm _ _ ht;have:=h.get 2;omega
def Eu {w:ak}{n:Nat}{op:Bool}{t:ak}{r l:List ak}(h:lK w n op t=some l):cb w n op (t::r)=some (l,r):=by simp only[cb,h]
def wZ:∀p:List ak,xI p->∀x∈(cV p).1,x.sm
 |[],_,x,hx=>by simp[cV]at hx
 |t::r,hp,x,hx=>by
  have ih:=wZ r (fun u hu=>hp u (.tail _ hu));simp only[cV]at hx;split at hx
  .rename_i l hl;split at hx
   .simp only[cD]at hx;rcases hx with rfl|hx
    .exact H6 (hp.next (Eu (r:=r) hl)).1
    .exact ih x hx
   .simp at hx
  .simp at hx
def B9 {p:List ak}(hp:xI p):(bW p).1.length<=1048576:=by
 unfold bW;split
 .rename_i h;exact(hp.next h).1.get 1
 .simp
def M8 {p:List ak}(hp:xI p):(sT p).1.length<=1048576:=by
 unfold sT;split
 .rename_i h;exact(hp.next h).1.get 1
 .simp
theorem JH {p:List ak}(hp:xI p):(eE p).1.sm:=⟨wZ p hp,B9 (hp.uO (mB p)),M8 ((hp.uO (mB p)).uO (iK _))⟩
def yo:∀(f:Nat) (p:List ak),xI p->(∀x∈(kr f p).1,x.sm)/\(kr f p).2<:+p
 |0,p,_=>⟨fun x hx=>by simp[kr]at hx,kD _⟩
 |f+1,p,hp=>by
  simp only[kr];split
  .rename_i l r h;have hr:=(hp.next h).2.1;obtain⟨i1,i2⟩:=yo f (eE r).2 (hr.uO (pO r));refine⟨fun x hx=>?_,i2.trans ((pO r).trans (mU h))⟩
   grind [JH]
  grind
def AA:∀(f:Nat) (p:List ak),xI p->(∀x∈(nN f p).1,x.sm)/\(nN f p).2<:+p
 |0,p,_=>⟨fun x hx=>by simp[nN]at hx,kD _⟩
 |f+1,p,hp=>by
  simp only[nN];split
  .rename_i l r h;obtain⟨hl,hr,_⟩:=hp.next h;obtain⟨i1,i2⟩:=AA f (bW r).2 (hr.uO (iK r));refine⟨fun x hx=>?_,i2.trans ((iK r).trans (mU h))⟩;simp only[cD]at hx;rcases hx with rfl|hx
   .exact⟨hl.get 1,hl.get 2,B9 hr⟩
   .exact i1 x hx
  grind
def xW:∀(p:List ak),xI p->(∀x∈(fj p).1,x.sm)/\(fj p).2<:+p
 |[],_=>⟨fun x hx=>by simp[fj]at hx,kD _⟩
 |t::r,hp=>by
  obtain⟨i1,i2⟩:=xW r (fun u hu=>hp u (.tail _ hu));simp only[fj];split
  .rename_i l hl;obtain⟨hlm,_,hll⟩:=hp.next (Eu (r:=r) hl);split
   .refine⟨fun x hx=>?_,i2.trans (List.suffix_cons _ _)⟩;simp only[cD]at hx;rcases hx with rfl|hx
    .refine⟨hlm.get 1, ?_,fun u hu=>hlm u (List.mem_of_mem_drop hu)⟩;simp only[pr];omega
    .exact i1 x hx
   .exact⟨fun x hx=>by simp at hx,kD _⟩
  .exact⟨fun x hx=>by simp at hx,kD _⟩
theorem uM:m4 qd:=⟨⟨aE,aE,aE⟩,fun n hn=>(by cases hn),fun n hn=>(by cases hn),fun n hn=>(by cases hn)⟩
theorem EJ {p:List ak}(hp:xI p):m4 (gM p).1/\(gM p).2<:+p:=by
 unfold gM sY;cases h:cb fg 3 false p with
 |none=>exact⟨uM,kD _⟩
 |some lq=>
  obtain⟨l,r⟩:=lq;obtain⟨hl,hr,_⟩:=hp.next h;simp only;cases hv:ph l[2]! with
  |none=>exact⟨uM,kD _⟩
  |some v=>
   have hvs:=NL (hl.get 2);rw[hv]at hvs;obtain⟨n1,n2⟩:=yo r.length r hr;obtain⟨b1,b2⟩:=AA (gS r).2.length (gS r).2 (hr.uO n2);obtain⟨f1,f2⟩:=xW (mc (gS r).2).2 ((hr.uO n2).uO b2);exact⟨⟨⟨hl.get 1,hvs⟩,n1,b1,f1⟩,f2.trans (b2.trans (n2.trans (mU h)))⟩
def dq (s:ak):Rec×Int×Int:=
 if 4096<s.length then(qd,3,0)
 else
  let ls:=(ai s 10).take ((ai s 10).length-1)
  if(sY ls).isSome=false\/(gM ls).2≠[]\/(ai s 10)[(ai s 10).length-1]! ≠[]then(qd,2,((ls.length-(gM ls).2.length:Nat):Int)+1)
  else if(cw (gM ls).1).1≠0 then(qd,(cw (gM ls).1).1,0)
  else((gM ls).1,0,0)
def BH:aN:=⟨3,8,[⟨3,none⟩],di,(sq (rg [gb 9 s0,gm b7] [(5,0),(3,1)]) (sq (.block 0 (sq (r1 [gm s1,gx 208 [l0] di,p8 l1,gm l2] 4 3) (.cond s4 (sq (r1 [gm ud] 3 0) .ret) (sq (r1 [gm s1,gf 0 s5,gd l1,aU l0 l2,gm l3] 6 4) (.cond s6 (sq (r1 [gm Jn] 3 0) .ret) (sq (r1 [gm s2,gx 444 [l0] di,p8 l1,gm l2] 7 3) (.cond s7 (sq (r1 [gm Al] 3 0) .ret) .skip))))))) (sq (r1 [gm b7] 3 0) .ret)))⟩
def w211 {Y:Ctx}(hm:(Y.at 0).cQ)(h208:Im Y)(h444:Rr Y)(r:Rec)(name:ak)(sa:ak)  (hp0:sa.length<=1048576):fo Y BH (.int .i64 (kO r name sa)) [Rec.D r,.str name,.str sa]:=by
 show ca _ _ _ [⟨_,_⟩,⟨_,_⟩,⟨_,_⟩,_,_,_,_,_] _;refine av ?_;refine bh ?_;refine aq (hc:=h208 _) ?_;refine aG ?_;refine iR (fun hc0=>?_) fun hc0=>?_
 .refine bm ?_;refine jj ?_;rw[kO,aw hc0]
 refine bI ?_;refine iR (fun hc1=>?_) fun hc1=>?_
 .refine bm ?_;refine jj ?_;rw[kO,aj (by simp[hc0]),aw hc1]
 refine aA ?_;refine aq (hc:=h444 sa hp0) ?_;refine aG ?_;refine iR (fun hc2=>?_) fun hc2=>?_
 .refine bm ?_;refine jj ?_;rw[kO,aj (by simp[hc0]),aj hc1,aw hc2]
 refine bh ?_;refine jj ?_;rw[kO,aj (by simp[hc0]),aj hc1,aj (by simp[hc2])]
def E8 (T:List D->D->Prop):Prop:=∀(r:Rec) (name:ak) (sa:ak),(sa.length<=1048576)->T [Rec.D r,.str name,.str sa] (.int .i64 (kO r name sa))
def OG (Y:Ctx):Prop:=E8 (ch Y 211)
def BI:aN:=⟨3,16,[⟨3,none⟩],di,(sq (rg [gb 9 s0,gb 4 s1,gm b7] [(4,0),(5,1),(3,2)]) (sq (sq (r1 [gk 9 true s4,gf 0 s5,gd l1,gf 1 s5,gd l3,gx 211 [l0,l2,l4] [rm,[.a],[.a]],gm l5] 6 6) (sq (r1 [gm s6,dd l0 b7] 7 1) (.cond s7 (sq (r1 [gm s6,gm l0] 3 1) .ret) .skip))) (sq (sq (r1 [gf 2 s5,gd l0,gl l1,eI l2 Al,gm l3,mh 4 2 s5,mg 4 l5,dc 4 (.len l6),dc 4 (ew l7 b7),fZ 4 l8,gmt 9 s2,dC 9 (.un .not l10),Ei 4 l9 kl,gR l4 mG] 8 13) (.cond s8 (sq (r1 [gm (i6 11)] 3 0) .ret) .skip)) (sq (sq (rg [gf 2 s5,gd l0,gl l1,gm b7] [(12,1),(10,2),(9,3)]) (.block 0 (.loop (sq (r1 [bo s9 mL] 11 0) (sq (jG pU 0) (sq (.block 1 (sq (rg [gm s9,ga 1 m6 s9,gd l1,gm l0,gm l2] [(14,3),(13,4)]) (sq (r1 [gm rq,gx 349 [l0] di,p8 l1,gm l2,fZ 3 rr,dc 3 (ew l4 b7),fZ 3 l5,rp 6 2 s5,pJ 6 l7,gmt 6 rr,dC 6 (mb l9 cN),dC 6 (.ia 1 l8 l10),pJ 6 kl,gmt 6 rq,dC 6 (vg mG nQ),Ei 3 l6 n7,gR l3 pL] 15 16) (.cond tP (sq (r1 [gm (i6 11)] 3 0) .ret) .skip)))) (r1 [ay s9 cN,gm l0] 9 1))))))) (sq (r1 [gm b7] 3 0) .ret)))))⟩
def w443 (h211:OG Y)(h349:Ct Y)(r:Rec)(w:cu)(al:Bool)  (hp0:w.sm):fo Y BI (.int .i64 (mA r w al)) [Rec.D r,cu.D w,.bool al]:=by
 show ca _ _ _ [⟨_,_⟩,⟨_,_⟩,⟨_,_⟩,_,_,_,_,_,_,_,_,_,_,_,_,_] _;refine av ?_;refine fJ ?_;refine aq (hc:=h211 r w.name w.range hp0.1.2) ?_;refine bI ?_;refine dR (fun hc0=>?_) fun hc0=>?_
 .refine bh ?_;refine jj ?_;rw[mA,aw hc0]
 refine bh ?_;intro u0;refine aK ?_;refine nk ?_;refine bI ?_;refine ax (fun hc1=>?_) (fun hc1=>?_)
 .have hq:(decide (w.feats.length<=6)&&(al ||decide (w.feats.length=0)))=false:=by rw[<-bP,<-K1];exact hc1
  refine bm ?_;refine jj ?_;rw[mA,aj (by simp[hc0]),aw (by unfold mz;rw[hq];rfl)]
 have hq:(decide (w.feats.length<=6)&&(al ||decide (w.feats.length=0)))=true:=by rw[<-cL,<-K1];exact hc1
 refine bh ?_;intro u1;refine aA ?_;refine bO hm (ι:=Nat) (fun i=>[.un,.un,⟨true,.bool al⟩,.un,⟨true,.ptr 0 9 0 0⟩,⟨true,.ptr 1 4 0 0⟩,.un,.un,.un,⟨true,.int .i64 (i:Nat)⟩,⟨true,.int .i64 (w.feats.length:Nat)⟩,.un,⟨true,.sl 1 (w.feats.map D.str)⟩,.un,.un,.un]) (fun i=>[(0,.buf 9 [Rec.D r]),(1,.buf 4 [cu.D w])]) 30 (fun i=>i<=w.feats.length/\mz w.feats al=dz (QG w.feats) i w.feats.length) (fun i=>w.feats.length-i) 0 ⟨ae,by unfold mz;rw[hq,iF]⟩ (fP [(0,0),(1,1)]) ?_;rintro i ⟨hi,hr⟩;refine aG ?_;refine dR (fun hc2=>?_) fun hc2=>?_
 .refine fJ ?_;refine aq (hc:=h349 _) ?_;refine ez ?_;refine cr (i-1) ?_;refine bh ?_;refine wp_cond (fun hc3=>?_) (fun hc3=>?_)
  .have hz:QG w.feats i=false:=by rw[<-bP,<-TG];exact hc3
   refine bh ?_;refine jj ?_;rw[mA,aj (by simp[hc0]),aw (by rw[hr,bc ae,hz];rfl)]
  have hz:QG w.feats i=true:=by rw[<-cL,<-TG];exact hc3
  refine bI ?_;exact⟨i+1,⟨ae,by rw[hr,bc ae,hz];rfl⟩,ae,(fP [(0,0),(1,1)])⟩
 refine bh ?_;refine jj ?_;rw[mA,aj (by simp[hc0]),aj (by rw[hr,c8 ae];simp)]
def FA (T:List D->D->Prop):Prop:=∀(r:Rec) (w:cu) (al:Bool),(w.sm)->T [Rec.D r,cu.D w,.bool al] (.int .i64 (mA r w al))
def Rq (Y:Ctx):Prop:=FA (ch Y 443)
def BF:aN:=⟨2,16,[⟨2,none⟩],di,(sq (rg [gb 9 s0,gb 3 s1,gm b7] [(10,0),(3,1),(2,2)]) (sq (sq (r1 [gf 0 s3,gd l0,gl l1,aU l2 b7] 4 3) (.cond s4 (sq (r1 [gm El] 2 0) .ret) .skip)) (sq (sq (r1 [gf 0 s3,gd l0,gl l1,eI l2 k9] 5 3) (.cond s5 (sq (r1 [gm k9] 2 0) .ret) .skip)) (sq (sq (rg [gf 0 s3,gd l0,gl l1,gm b7] [(9,1),(7,2),(6,3)]) (.block 0 (.loop (sq (r1 [bo s6 s7] 8 0) (sq (jG s8 0) (sq (.block 1 (sq (r1 [ga 4 s9 s6,gk 4 true l0,gb 4 (.c (.agg [.str [],.str [],.au,.bool false])),gt 4 l2 l1] 11 2) (sq (r1 [gk 9 true mL,gk 4 true pU,gf 0 s3,gd l2,gl l3,aU l4 cN,gx 443 [l0,l1,l5] [rm,[.a,.a,.sl 1 [.a],.a],[.a]],gm l6] 12 7) (sq (r1 [gm m6,dd l0 b7] 13 1) (.cond rq (sq (r1 [gm m6,gm l0] 2 1) .ret) .skip))))) (r1 [ay s6 cN,gm l0] 6 1))))))) (sq (sq (r1 [gf 1 s3,gd l0,gx 212 [l1] di,p8 l2] 14 3) (.cond rr (sq (r1 [gm PH] 2 0) .ret) .skip)) (sq (sq (r1 [gf 2 s3,gd l0,dd l1 cse,gm l2,rp 3 2 s3,pJ 3 l4,dC 3 (.call 349 [l5] di),dC 3 (.un .not l6),iM l3 l7] 15 8) (.cond tP (sq (r1 [gm (i6 14)] 2 0) .ret) .skip)) (sq (r1 [gm b7] 2 0) .ret)))))))⟩
def w210 (h212:OH Y)(h349:Ct Y)(h443:Rq Y)(r:Rec)(n:bT)  (hp0:n.sm):fo Y BF (.int .i64 (lI r n)) [Rec.D r,bT.D n]:=by
 show ca _ _ _ [⟨_,_⟩,⟨_,_⟩,_,_,_,_,_,_,_,_,_,_,_,_,_,_] _;refine av ?_;refine ez ?_;intro u0;refine aA ?_;refine dR (fun hc0=>?_) fun hc0=>?_
 .refine bm ?_;refine jj ?_;rw[lI,aw ae]
 refine bh ?_;intro u1;refine aA ?_;refine dR (fun hc1=>?_) fun hc1=>?_
 .refine bm ?_;refine jj ?_;rw[lI,aj ae,aw ae]
 refine bh ?_;intro u2;refine aA ?_;refine bO hm (ι:=Nat) (fun i=>[.un,.un,.un,⟨true,.ptr 1 3 0 0⟩,.un,.un,⟨true,.int .i64 (i:Nat)⟩,⟨true,.int .i64 (n.any.length:Nat)⟩,.un,⟨true,.sl 4 (n.any.map cu.D)⟩,⟨true,.ptr 0 9 0 0⟩,.un,.un,.un,.un,.un]) (fun i=>[(0,.buf 9 [Rec.D r]),(1,.buf 3 [bT.D n])]) 15 (fun i=>i<=n.any.length/\nJ r n.any=iV (fun i=>mA r n.any[i]! (decide ((n.any.length:Int)=1))) i n.any.length) (fun i=>n.any.length-i) 0 ⟨ae,rfl⟩ (fP [(0,0),(1,1)]) ?_;rintro i ⟨hi,hr⟩;refine aG ?_;refine dR (fun hc2=>?_) fun hc2=>?_
 .refine aK ?_;first|refine b6 (v:=(cu.D _)) ?_|refine jx (v:=(cu.D _)) ?_
  refine az ?_;refine aQ (cu.D n.any[i]!) (he:=aT) ?_;refine bI ?_;intro u3;refine az ?_;refine aq (hc:=h443 r n.any[i]! _ (hp0.1 _ (bL ae))) ?_;refine bh ?_;refine iR (fun hc3=>?_) fun hc3=>?_
  .refine bI ?_;refine jj ?_;have hw:nJ r n.any=mA r n.any[i]! (decide ((n.any.length:Int)=1)):=by rw[hr,vA ae hc3]
   rw[lI,aj ae,aj ae,aw (by rw[hw];exact hc3),hw]
  refine bI ?_;exact⟨i+1,⟨ae,by rw[hr,sE ae hc3]⟩,ae,(fP [(0,0),(1,1)])⟩
 refine aK ?_;have hw0:nJ r n.any=0:=by rw[hr,sD ae]
 refine aA ?_;refine aq (hc:=h212 _) ?_;refine aA ?_;refine ax (fun hc4=>?_) (fun hc4=>?_)
 .try simp only[ed]at hc4
  refine bm ?_;refine jj ?_;rw[lI,aj ae,aj ae,aj (by simp[hw0]),aw hc4]
 simp only[cL]at hc4;refine ez ?_;refine aq (hc:=h349 _) ?_;refine aG ?_;refine ax (fun hc5=>?_) (fun hc5=>?_)
 .try simp only[ed]at hc5
  refine bm ?_;refine jj ?_;rw[lI,aj ae,aj ae,aj (by simp[hw0]),aj (by simp[hc4]),aw hc5]
 simp only[dF,cL,a8]at hc5;refine bm ?_;refine jj ?_;rw[lI,aj ae,aj ae,aj (by simp[hw0]),aj (by simp[hc4]),aj (by rintro⟨g1,g2⟩;rcases hc5 with h|h;exact g1 h;rw[g2]at h;cases h)]
def E7 (T:List D->D->Prop):Prop:=∀(r:Rec) (n:bT),(n.sm)->T [Rec.D r,bT.D n] (.int .i64 (lI r n))
def Q7 (Y:Ctx):Prop:=E7 (ch Y 210)
def BE:aN:=⟨2,15,[⟨2,none⟩],di,(sq (rg [gb 9 s0,gm b7] [(3,0),(2,1)]) (sq (rg [gm s1,gx 448 [l0] di,gm l1,ge l2 0,ge l2 1,ge l2 2,gm l3,gm l4,gm l5] [(8,6),(10,7)]) (sq (sq (rg [gf 6 s3,gd l0,gl l1,gm b7] [(7,1),(5,2),(4,3)]) (.block 0 (.loop (sq (r1 [bo s4 s5] 6 0) (sq (jG s6 0) (sq (.block 1 (sq (r1 [ga 3 s7 s4,gk 3 true l0,gb 3 (.c (.agg [.au,.str [],.str []])),gt 3 l2 l1] 9 2) (sq (r1 [gm s8,aU l0 mi,gm l1,rp 2 2 s9,pJ 2 l3,gmt 2 mL,dC 2 (dP l4 l5),iM l2 l6,gm l7,fZ 8 s8,dc 8 (dP l9 k9),fZ 8 l10,rp 11 0 s9,pJ 11 mG,dC 11 (.len nQ),dC 11 (dP n7 cN),Ei 8 kl pL,fZ 8 si,rp 17 0 s9,pJ 17 yg,dC 17 (.ia 4 Bc b7),rp 17 0 C1,pJ 17 En,gmt 17 mL,dC 17 (dP Ii MI),Ei 8 xd MJ,gR l8 Oi] 11 26) (.cond pU (sq (r1 [gm b7] 2 0) .ret) .skip)))) (r1 [ay s4 cN,gm l0] 4 1))))))) (sq (sq (r1 [gm s8] 12 0) (.block 2 (sq (r1 [aU m6 mi,gm l0] 13 1) (.cond rq (sq (r1 [gm (i6 14)] 2 0) .ret) (sq (r1 [aU m6 k9,gm l0] 14 1) (.cond rr (sq (r1 [gm (i6 16)] 2 0) .ret) .skip)))))) (sq (r1 [gm b7] 2 0) .ret)))))⟩
def w214 (h448:OO Y)(r:Rec)(s:ak)  (hp0:s.length<=1048576):fo Y BE (.int .i64 (lD r s)) [Rec.D r,.str s]:=by
 show ca _ _ _ [⟨_,_⟩,⟨_,_⟩,_,_,_,_,_,_,_,_,_,_,_,_,_] _;refine av ?_;refine bm ?_;refine aq (hc:=h448 s hp0) ?_;refine nT ?_;intro u0;refine aA ?_;refine bO hm (ι:=Nat) (fun i=>[.un,.un,.un,⟨true,.ptr 0 9 0 0⟩,⟨true,.int .i64 (i:Nat)⟩,⟨true,.int .i64 (r.needs.length:Nat)⟩,.un,⟨true,.sl 3 (r.needs.map bT.D)⟩,⟨true,.int .i64 (dy s).1⟩,.un,⟨true,.str (dy s).2.1⟩,.un,.un,.un,.un]) (fun i=>[(0,.buf 9 [Rec.D r])]) 15 (fun i=>i<=r.needs.length/\lD r s=(if(r.needs.drop i).any (S3 (dy s).1 (dy s).2.1)=true then 0 else PK (dy s).1)) (fun i=>r.needs.length-i) 0 ⟨ae,Js r s⟩ (fP [(0,0)]) ?_;rintro i ⟨hi,hr⟩;refine aG ?_;refine dR (fun hc0=>?_) fun hc0=>?_
 .refine aK ?_;first|refine b6 (v:=(bT.D _)) ?_|refine jx (v:=(bT.D _)) ?_
  refine az ?_;refine aQ (bT.D r.needs[i]!) (he:=aT) ?_;refine y7 ?_;refine nk ?_;refine bm ?_;refine cr 0 (hb:=fun h=>by simp only[iF,beq_iff_eq,bt,a8]at h;omega) ?_;refine az ?_;refine b6 (q:=cu.D) (xs:=r.needs[i]!.any) (i:=0) (hi:=fun h=>by simp only[iF,beq_iff_eq,bt,a8]at h;omega) (v:=(.str r.needs[i]!.any[0]!.name)) ?_;refine bm ?_;refine wp_cond (fun hc1=>?_) (fun hc1=>?_)
  .have hz:S3 (dy s).1 (dy s).2.1 r.needs[i]! =true:=hc1;refine bh ?_;refine jj ?_;rw[hr,LR ae hz];rfl
  have hz:S3 (dy s).1 (dy s).2.1 r.needs[i]! =false:=hc1;refine bI ?_;exact⟨i+1,⟨ae,by rw[hr,Pq ae hz]⟩,ae,(fP [(0,0)])⟩
 refine aK ?_;have he:lD r s=PK (dy s).1:=by rw[hr,LP ae];rfl
 refine bI ?_;refine iR (fun hc2=>?_) fun hc2=>?_
 .refine bm ?_;refine jj ?_;rw[he,PK,aw hc2]
 refine aK ?_;refine iR (fun hc3=>?_) fun hc3=>?_
 .refine bm ?_;refine jj ?_;rw[he,PK,aj hc2,aw hc3]
 refine bh ?_;refine jj ?_;rw[he,PK,aj hc2,aj hc3]
def Fa (T:List D->D->Prop):Prop:=∀(r:Rec) (s:ak),(s.length<=1048576)->T [Rec.D r,.str s] (.int .i64 (lD r s))
def Q9 (Y:Ctx):Prop:=Fa (ch Y 214)
def zT:aN:=⟨1,39,[⟨1,none⟩,⟨2,none⟩],iZ,(sq (rg [gb 9 s0,gm b7,gm b7] [(3,0),(1,1),(2,2)]) (sq (.block 0 (sq (r1 [gf 0 s3,gd l0,gx 208 [l1] di,p8 l2,gm l3] 4 4) (.cond s4 (sq (rg [gm ud,gm b7] [(1,0),(2,1)]) .ret) (sq (r1 [gf 1 s3,gk 5 true l0,gx 209 [l1] PE,p8 l2,gm l3] 5 4) (.cond s5 (sq (rg [gm Ek,gm b7] [(1,0),(2,1)]) .ret) (sq (r1 [gf 6 s3,gd l0,gl l1,eI l2 Jn,gm l3,mh 4 7 s3,mg 4 l5,dc 4 (.len l6),dc 4 (ew l7 Jn),gR l4 l8,gm l9] 6 10) (.cond s6 (sq (rg [gm k9,gm b7] [(1,0),(2,1)]) .ret) .skip))))))) (sq (sq (rg [gf 6 s3,gd l0,gl l1,gm b7] [(10,1),(8,2),(7,3)]) (.block 1 (.loop (sq (r1 [bo s7 s8] 9 0) (sq (jG s9 1) (sq (.block 2 (sq (rg [gm s7,ga 3 mL s7,gk 3 true l1,gb 3 (.c (.agg [.au,.str [],.str []])),gm l0,gt 3 l3 l2] [(11,3),(14,4)]) (sq (r1 [gk 9 true s3,gk 3 true pU,gx 210 [l0,l1] [rm,[.sl 4 [.a,.a,.sl 1 [.a],.a],.a,.a]],gm l2] 12 3) (sq (r1 [gm m6,dd l0 b7] 13 1) (.cond rq (sq (rg [gm m6,gm rr,gm l0,gm l1] [(1,2),(2,3)]) .ret) .skip))))) (r1 [ay s7 cN,gm l0] 7 1))))))) (sq (sq (rg [gf 7 s3,gd l0,gl l1,gm b7] [(18,1),(16,2),(15,3)]) (.block 3 (.loop (sq (r1 [bo tP An] 17 0) (sq (jG yz 3) (sq (.block 4 (sq (rg [gm tP,ga 3 yA tP,gk 3 true l1,gb 3 (.c (.agg [.str [],.str [],.str []])),gm l0,gt 3 l3 l2] [(19,3),(22,4)]) (sq (sq (r1 [gk 9 true s3,gf 0 HQ,gd l1,gf 1 HQ,gd l3,gx 211 [l0,l2,l4] [rm,[.a],[.a]],gm l5] 20 6) (sq (r1 [gm DI,dd l0 b7] 21 1) (.cond Qt (sq (rg [gm DI,gm QY,gm l0,gm l1] [(1,2),(2,3)]) .ret) .skip))) (sq (r1 [gf 2 HQ,gd l0,gx 212 [l1] di,p8 l2] 23 3) (.cond s23 (sq (rg [gm QY,gm PH,gm l0] [(1,1),(2,2)]) .ret) .skip))))) (r1 [ay tP cN,gm l0] 15 1))))))) (sq (sq (r1 [gf 8 s3,gd l0,gx 213 [l1] [[.sl 2 [.a,.sl 1 [.a]]]],p8 l2] 24 3) (.cond Qu (sq (rg [gm (i6 11),gm b7] [(1,0),(2,1)]) .ret) .skip)) (sq (sq (rg [gf 8 s3,gd l0,gl l1,gm b7] [(28,1),(26,2),(25,3)]) (.block 5 (.loop (sq (r1 [bo QZ Ts] 27 0) (sq (jG s27 5) (sq (.block 6 (sq (rg [gm QZ,ga 2 s28 QZ,gk 2 true l1,gb 2 (.c (.agg [.str [],.au])),gm l0,gt 2 l3 l2] [(29,3),(37,4)]) (sq (rg [gf 1 s29,gd l0,gl l1,gm b7] [(33,1),(31,2),(30,3)]) (.block 7 (.loop (sq (r1 [bo Ot s31] 32 0) (sq (jG s32 7) (sq (.block 8 (sq (r1 [ga 1 s33 Ot,gd l0,gm l1] 34 2) (sq (r1 [gk 9 true s3,gm s34,gx 214 [l0,l1] [rm,[.a]],gm l2] 35 3) (sq (r1 [gm s35,dd l0 b7] 36 1) (.cond s36 (sq (rg [gm s35,gm s37,gm l0,gm l1] [(1,2),(2,3)]) .ret) .skip))))) (r1 [ay Ot cN,gm l0] 30 1))))))))) (r1 [ay QZ cN,gm l0] 25 1))))))) (sq (sq (r1 [gk 9 true s3,gx 215 [l0] [rm],uE l1,eI l2 (i6 4096)] 38 3) (.cond s38 (sq (rg [gm k9,gm b7] [(1,0),(2,1)]) .ret) .skip)) (sq (rg [gm b7,gm b7] [(1,0),(2,1)]) .ret))))))))⟩
def w70 (h208:Im Y)(h209:Io Y)(h210:Q7 Y)(h211:OG Y)(h212:OH Y)(h213:Q8 Y)(h214:Q9 Y)(h215:OI Y)(r:Rec)  (hp0:m4 r):fo Y zT (.tup [.int .i64 (cw r).1,.int .i64 (cw r).2]) [Rec.D r]:=by
 show ca _ _ _ (⟨true,Rec.D r⟩::.un::.un::.un::.un::.un::.un::.un::.un::.un::.un::.un::.un::.un::.un::.un::.un::.un::.un::.un::.un::.un::.un::.un::.un::.un::.un::.un::.un::.un::.un::.un::.un::.un::.un::.un::.un::.un::.un::[]) ⟨0,[]⟩;refine av ?_;refine cH ?_;refine aq (hc:=h208 _) ?_;refine aG ?_;refine wp_cond (fun hc0=>?_) (fun hc0=>?_)
 .try simp only[ed]at hc0
  refine bh ?_;refine cv (aZ (ar (D.int .i64) ?_) (ar (D.int .i64) ?_));all_goals (have hq:cw r=(4,0):=(by rw[cw,aw hc0]);rw[hq];first|done|rfl)
 simp only[cL]at hc0;refine aA ?_;refine bZ (v:=gE.D r.v) ?_;refine aq (hc:=h209 r.v hp0.1.2) ?_;refine aG ?_;refine wp_cond (fun hc1=>?_) (fun hc1=>?_)
 .try simp only[ed]at hc1
  refine bh ?_;refine cv (aZ (ar (D.int .i64) ?_) (ar (D.int .i64) ?_));all_goals (have hq:cw r=(5,0):=(by rw[cw,aj (by simp[hc0]),aw hc1]);rw[hq];first|done|rfl)
 simp only[cL]at hc1;refine aK ?_;intro u0;refine aK ?_;refine nk ?_;refine aK ?_;refine iR (fun hc2=>?_) fun hc2=>?_
 .refine bh ?_;refine cv (aZ (ar (D.int .i64) ?_) (ar (D.int .i64) ?_));all_goals (have hq:cw r=(3,0):=(by rw[cw,aj (by simp[hc0]),aj (by simp[hc1]),aw ae]);rw[hq];first|done|rfl)
 refine bI ?_;intro u1;refine aA ?_;refine bO hm (ι:=Nat) (fun i=>(.un::.un::.un::⟨true,.ptr 0 9 0 0⟩::.un::.un::.un::⟨true,.int .i64 (i:Nat)⟩::⟨true,.int .i64 (r.needs.length:Nat)⟩::.un::⟨true,.sl 3 (r.needs.map bT.D)⟩::.un::.un::.un::.un::.un::.un::.un::.un::.un::.un::.un::.un::.un::.un::.un::.un::.un::.un::.un::.un::.un::.un::.un::.un::.un::.un::.un::.un::[])) (fun i=>[(0,.buf 9 [Rec.D r])]) 28 (fun i=>i<=r.needs.length/\lJ r=fD (fun i=>lI r r.needs[i]!) i r.needs.length) (fun i=>r.needs.length-i) 0 ⟨ae,rfl⟩ (fP [(0,0)]) ?_;rintro i ⟨hi,hr⟩;refine aG ?_;refine dR (fun hc3=>?_) fun hc3=>?_
 .refine bm ?_;first|refine b6 (v:=(bT.D _)) ?_|refine jx (v:=(bT.D _)) ?_
  refine aA ?_;refine aQ (bT.D r.needs[i]!) (he:=aT) ?_;refine aK ?_;refine aq (hc:=h210 r r.needs[i]! (hp0.2.1 _ (bL ae))) ?_;refine bh ?_;refine iR (fun hc4=>?_) fun hc4=>?_
  .refine ez ?_;refine cv (aZ (ar (D.int .i64) ?_) (ar (D.int .i64) ?_));all_goals
    have hq:cw r=(lI r r.needs[i]!,((i:Nat):Int)):=by
     exact om hc0 hc1 ae ae (J4 (by rw[hr,iv ae hc4]) hc4) hc4
    rw[hq];first|done|rfl
  refine bI ?_;exact⟨i+1,⟨ae,by rw[hr,kZ ae hc4]⟩,ae,(fP [(0,0)])⟩
 refine aK ?_;have hn0:lJ r=(0,0):=by rw[hr,kY ae]
 refine aG ?_;intro u2;refine aA ?_;refine bO hm (ι:=Nat) (fun i=>(.un::.un::.un::⟨true,.ptr 0 9 0 0⟩::.un::.un::.un::.un::.un::.un::.un::.un::.un::.un::.un::⟨true,.int .i64 (i:Nat)⟩::⟨true,.int .i64 (r.bars.length:Nat)⟩::.un::⟨true,.sl 3 (r.bars.map jT.D)⟩::.un::.un::.un::.un::.un::.un::.un::.un::.un::.un::.un::.un::.un::.un::.un::.un::.un::.un::.un::.un::[])) (fun i=>[(0,.buf 9 [Rec.D r])]) 33 (fun i=>i<=r.bars.length/\tu r=fD (fun i=>vi r r.bars[i]!) i r.bars.length) (fun i=>r.bars.length-i) 0 ⟨ae,rfl⟩ (fP [(0,0)]) ?_;rintro i ⟨hi,hr⟩;refine aG ?_;refine dR (fun hc5=>?_) fun hc5=>?_
 .refine bm ?_;first|refine b6 (v:=(jT.D _)) ?_|refine jx (v:=(jT.D _)) ?_
  refine aA ?_;refine aQ (jT.D r.bars[i]!) (he:=aT) ?_;refine cH ?_;refine aq (hc:=h211 r r.bars[i]!.name r.bars[i]!.range (hp0.2.2.1 _ (bL ae)).2.1) ?_;refine bI ?_;refine ax (fun hc6=>?_) (fun hc6=>?_)
  .simp only[bP,bC]at hc6;have hbe:vi r r.bars[i]! =kO r r.bars[i]!.name r.bars[i]!.range:=by rw[vi,aw hc6]
   refine lV ?_;refine cv (aZ (ar (D.int .i64) ?_) (ar (D.int .i64) ?_));all_goals
    have hq:cw r=(kO r r.bars[i]!.name r.bars[i]!.range,((i:Nat):Int)):=by
     exact om hc0 hc1 ae ae (Bv hn0 (by rw[hr,iv ae (by rw[hbe];exact hc6),hbe]) hc6) hc6
    rw[hq];first|done|rfl
  try simp only[ed]at hc6
  refine aK ?_;refine aq (hc:=h212 _) ?_;refine aA ?_;refine wp_cond (fun hc7=>?_) (fun hc7=>?_)
  .simp only[bP]at hc7;have hbe:vi r r.bars[i]! =7:=by rw[vi,aj (fun h=>h hc6),aw hc7]
   refine cH ?_;refine cv (aZ (ar (D.int .i64) ?_) (ar (D.int .i64) ?_));all_goals
    have hq:cw r=((7:Int),((i:Nat):Int)):=by
     exact om hc0 hc1 ae ae (Bv hn0 (by rw[hr,iv ae (by rw[hbe];decide),hbe]) (show(7:Int)≠0 by decide)) (show(7:Int)≠0 by decide)
    rw[hq];first|done|rfl
  simp only[cL]at hc7;have hbz:vi r r.bars[i]! =0:=by rw[vi,aj (fun h=>h hc6),aj (by rw[hc7];simp)]
  refine bI ?_;exact⟨i+1,⟨ae,by rw[hr,kZ ae hbz]⟩,ae,(fP [(0,0)])⟩
 refine aK ?_;have hb0:tu r=(0,0):=by rw[hr,kY ae]
 refine aA ?_;refine aq (hc:=h213 r.feats hp0.2.2.2) ?_;refine aA ?_;refine ax (fun hc8=>?_) (fun hc8=>?_)
 .try simp only[ed]at hc8
  refine bh ?_;refine cv (aZ (ar (D.int .i64) ?_) (ar (D.int .i64) ?_));all_goals
   have hq:cw r=(11,0):=by
    exact om hc0 hc1 ae ae (J5 hn0 hb0 hc8) aE
   rw[hq];first|done|rfl
 simp only[cL]at hc8;refine bh ?_;intro u3;refine aA ?_;refine bO hm (ι:=Nat) (fun i=>(.un::.un::.un::⟨true,.ptr 0 9 0 0⟩::.un::.un::.un::.un::.un::.un::.un::.un::.un::.un::.un::.un::.un::.un::.un::.un::.un::.un::.un::.un::.un::⟨true,.int .i64 (i:Nat)⟩::⟨true,.int .i64 (r.feats.length:Nat)⟩::.un::⟨true,.sl 2 (r.feats.map ct.D)⟩::.un::.un::.un::.un::.un::.un::.un::.un::.un::.un::[])) (fun i=>[(0,.buf 9 [Rec.D r])]) 42 (fun i=>i<=r.feats.length/\sC r=fD (fun i=>qK r r.feats[i]!.of) i r.feats.length) (fun i=>r.feats.length-i) 0 ⟨ae,rfl⟩ (fP [(0,0)]) ?_;rintro i ⟨hi,hr⟩;refine aG ?_;refine dR (fun hc9=>?_) fun hc9=>?_
 .refine bm ?_;first|refine b6 (v:=(ct.D _)) ?_|refine jx (v:=(ct.D _)) ?_
  refine aA ?_;refine aQ (ct.D r.feats[i]!) (he:=aT) ?_;refine bm ?_;intro u4;refine aA ?_;refine sc hm (ι:=Nat) (fun j=>(.un::.un::.un::⟨true,.ptr 0 9 0 0⟩::.un::.un::.un::.un::.un::.un::.un::.un::.un::.un::.un::.un::.un::.un::.un::.un::.un::.un::.un::.un::.un::⟨true,.int .i64 (i:Nat)⟩::⟨true,.int .i64 (r.feats.length:Nat)⟩::.un::⟨true,.sl 2 (r.feats.map ct.D)⟩::.un::⟨true,.int .i64 (j:Nat)⟩::⟨true,.int .i64 (r.feats[i]!.of.length:Nat)⟩::.un::⟨true,.sl 1 (r.feats[i]!.of.map D.str)⟩::.un::.un::.un::⟨true,.int .i64 (i:Nat)⟩::.un::[])) (fun j=>[(0,.buf 9 [Rec.D r])]) 53 (fun j=>j<=r.feats[i]!.of.length/\qK r r.feats[i]!.of=iV (fun j=>lD r r.feats[i]!.of[j]!) j r.feats[i]!.of.length) (fun j=>r.feats[i]!.of.length-j) 0 ⟨ae,rfl⟩ (fP [(0,0)]) ?_;rintro j ⟨hj,hjr⟩;refine aG ?_;refine dR (fun hc10=>?_) fun hc10=>?_
  .refine lV ?_;refine aq (hc:=h214 r r.feats[i]!.of[j]! ((hp0.2.2.2 _ (bL ae)).2.2 _ (bL ae))) ?_;refine bh ?_;refine iR (fun hc11=>?_) fun hc11=>?_
   .refine fJ ?_;refine cv (aZ (ar (D.int .i64) ?_) (ar (D.int .i64) ?_));all_goals
     have hq:cw r=(lD r r.feats[i]!.of[j]!,((i:Nat):Int)):=by
      have hie:qK r r.feats[i]!.of=lD r r.feats[i]!.of[j]! :=by rw[hjr,vA ae hc11]
      exact om hc0 hc1 ae ae (wi hn0 hb0 hc8 (by rw[hr,iv (f:=(fun i=>qK r r.feats[i]!.of)) ae (by rw[hie];exact hc11),hie])) hc11
     rw[hq];first|done|rfl
   refine bI ?_;exact⟨j+1,⟨ae,by rw[hjr,sE ae hc11]⟩,ae,(fP [(0,0)])⟩
  refine cH ?_;exact⟨i+1,⟨ae,by rw[hr,kZ (f:=(fun i=>qK r r.feats[i]!.of)) ae (by rw[hjr,sD ae])]⟩,ae,(fP [(0,0)])⟩
 refine aK ?_;have hpz:gC r=(0,0):=wi hn0 hb0 hc8 (by rw[hr,kY ae]);have hgd:x8 r:=⟨⟨hc0,hc1⟩,⟨ae,ae⟩,hpz⟩;refine az ?_;refine aq (hc:=h215 r ⟨hgd,hp0⟩) ?_;refine az ?_;intro u5;refine aA ?_;refine dR (fun hc12=>?_) fun hc12=>?_
 .refine bh ?_;refine cv (aZ (ar (D.int .i64) ?_) (ar (D.int .i64) ?_));all_goals
   have hq:cw r=(3,0):=by
    rw[vv hc0 hc1 ae ae hpz,aw ae]
   rw[hq];first|done|rfl
 refine bh ?_;refine cv (aZ (ar (D.int .i64) ?_) (ar (D.int .i64) ?_));all_goals
  have hq:cw r=(0,0):=by
   rw[vv hc0 hc1 ae ae hpz,aj ae]
  rw[hq];first|done|rfl
def Lc (T:List D->D->Prop):Prop:=∀(r:Rec),(m4 r)->T [Rec.D r] (.tup [.int .i64 (cw r).1,.int .i64 (cw r).2])
def C70 (Y:Ctx):Prop:=Lc (ch Y 70)
def zU:aN:=⟨1,12,[⟨1,some (9,true)⟩,⟨2,none⟩,⟨3,none⟩],[rm,[.a],[.a]],(sq (rg [gb 9 (.c (.agg [.str [],.int .i64 0,.int .i64 0,.int .i64 0,.str [],.str [],.au,.au,.au])),gm b7,gm b7] [(1,0),(2,1),(3,2)]) (sq (sq (r1 [gm s0,uE l0,eI l1 (i6 4096)] 4 2) (.cond s4 (sq (rg [gn (.build [.str [],.int .i64 0,.int .i64 0,.int .i64 0,.str [],.str [],.au,.au,.au] []),gt 9 s1 l0,gm k9,gm b7] [(2,2),(3,3)]) .ret) .skip)) (sq (r1 [gm s0,gx 124 [l0,(cs [10])] iZ,gm l1] 5 2) (sq (r1 [gm s5,gm s5,gl l1,gA l2 cN,gn (.slA 1 l0 none (some l3)),gn (.build [.au,.int .i64 0] [(0,1,l4)]),gb 2 l5,gm l6] 6 7) (sq (rg [gm s6,gn (.callF 222 l0 [] []),gm l1,ge l2 0,ge l2 1,gb 9 (.c (.agg [.str [],.int .i64 0,.int .i64 0,.int .i64 0,.str [],.str [],.au,.au,.au])),gt 9 l5 l3,gm l4] [(9,5),(7,7)]) (sq (sq (r2 [gm s7,p8 l0,gm l1,fZ 2 s6,dc 2 (.nilck l3),mh 2 1 l4,mg 2 l5,fZ 2 s6,dc 2 (.nilck l7),mh 2 0 l8,mg 2 l9,dc 2 (.len l10),dc 2 (rz l6 kl),gR l2 mG,gm nQ,fZ 14 s5,fZ 14 s5,dc 14 (.len si),dc 14 (mb xd cN),dc 14 (.ia 1 pL yg),mg 14 Bc,dc 14 (gO C1 cse),gR n7 En] 8 22) (.cond s8 (sq (rt [gn (.build [.str [],.int .i64 0,.int .i64 0,.int .i64 0,.str [],.str [],.au,.au,.au] []),gm s6,gc l1,gf 1 l2,gn (.ldI 1 false l3),ay l4 cN,gt 9 s1 l0,gm mi,gm l5] [(2,7),(3,8)]) .ret) .skip)) (sq (sq (r1 [gk 9 true s9,gx 70 [l0] [rm],gm l1,ge l2 0,ge l2 1,gm l3,gm l4] 10 5) (sq (r1 [gm mL,dd l0 b7] 11 1) (.cond pU (sq (rg [gn (.build [.str [],.int .i64 0,.int .i64 0,.int .i64 0,.str [],.str [],.au,.au,.au] []),gm mL,gt 9 s1 l0,gm l1,gm b7] [(2,3),(3,4)]) .ret) .skip))) (sq (rg [gk 9 true s9,gt 9 s1 l0,gm b7,gm b7] [(2,2),(3,3)]) .ret))))))))⟩
def w76 {Y:Ctx}(hm:(Y.at 0).cQ)(h70:C70 Y)(h124:Il Y)(h222:Rb Y)(s:ak)   :fo Y zU (.tup [Rec.D (dq s).1,.int .i64 (dq s).2.1,.int .i64 (dq s).2.2]) [.str s]:=by
 show ca _ _ _ [⟨_,_⟩,_,_,_,_,_,_,_,_,_,_,_] _;refine av ?_;refine cH ?_;intro u0;refine aA ?_;refine ax (fun hc0=>?_) (fun hc0=>?_)
 .simp only[a8]at hc0;have hrr:dq s=(qd,3,0):=by unfold dq;rw[aw ae]
  rw[hrr];refine aA ?_;refine bq ey ?_;refine aQ ey (he:=aT) ?_;refine aG ?_;refine nS [(0,.buf 9 [Rec.D qd])] (.bf ah (.cons r6 .nil) .nil) ?_;refine az ?_;refine cv (fV ?_ (ar (D.int .i64) ?_) (ar (D.int .i64) ?_));all_goals rfl
 simp only[bC]at hc0;have hsp:=fm 10 s [];have hsp:1<=(ai s 10).length:=hsp;have hsl:=dE s 10;refine aG ?_;refine aq (v:=.sl 1 ((ai s 10).map D.str)) (hc:=h124 s 10 ae) ?_;refine bh ?_;intro u1;refine az ?_;refine oU ((ai s 10).length-1) (hj:=fun _=>ae) (hb:=fun _=>ae) ?_;refine bq (Ld.D ⟨((ai s 10).take ((ai s 10).length-1)),0⟩) ?_;refine aK ?_;generalize hLS:((ai s 10).take ((ai s 10).length-1))=LS;have hLl:LS.length=(ai s 10).length-1:=by rw[<-hLS,fW];omega
 have hLm:xI LS:=fun t ht=>by
  rw[<-hLS]at ht;have:=dm s 10 (lU ht);omega
 have hsm0:(⟨LS,0⟩:Ld).sm:=⟨⟨Nat.zero_le _,by simp only;omega⟩,hLm⟩;obtain⟨hrs,hsf⟩:=EJ hLm;have hsfl:=hsf.length_le;refine az ?_;refine kW (v:=.tup [Rec.D (gM LS).1,.bool (sY LS).isSome]) (e:=Ld.D ((⟨LS,0⟩:Ld).to (gM LS).2)) (hc:=h222 ⟨LS,0⟩ hsm0) ?_;refine az ?_;refine hX (Rec.D _) ?_;refine aA ?_;refine aQ (Rec.D (gM LS).1) (he:=aT) ?_;refine lV ?_;refine bZ (v:=.int .i64 ((LS.length-(gM LS).2.length:Nat):Int)) ?_;refine aG ?_;refine bZ (v:=.sl 1 (LS.map D.str)) ?_;refine nk ?_;refine bm ?_;refine nk ?_;refine az ?_;refine cr ((ai s 10).length-1) (hj:=fun _=>ae) (hb:=fun _=>ae) ?_;refine b6 (v:=.str (ai s 10)[(ai s 10).length-1]!) (hi:=fun _=>ae) ?_;refine aG ?_;refine ax (fun hc1=>?_) (fun hc1=>?_)
 .simp only[dk,bP,a8,bC]at hc1;have hrr:dq s=(qd,2,((LS.length-(gM LS).2.length:Nat):Int)+1):=by
   unfold dq;rw[aj ae];simp only[hLS];rw[aw];rcases hc1 with(h|h)|h
   .exact .inl h
   .refine .inr (.inl fun e=>?_);rw[e]at h;simp only[aO]at h;omega
   .exact .inr (.inr h)
  rw[hrr];refine az ?_;refine eF 15 (he:=by simp only[kg,hZ,jo,kR,lY,cd,Nat.reduceEqDiff,aP,aM,cA,bY,bQ,cx,cy,bD,bz,aF,bN,aI,reduceCtorEq,aH,aO,Nat.reduceAdd,Nat.reduceLeDiff,Ld.D,ey,mV];exact rfl) (hm:=by simp only[kg,hZ,jo,kR,lY,cd,Nat.reduceEqDiff,aP,aM,cA,bY,bQ,cx,cy,bD,bz,aF,bN,aI,reduceCtorEq,aH,aO,Nat.reduceAdd,Nat.reduceLeDiff,Ld.D,ey,Rec.D];exact rfl) ?_;refine az ?_;refine bq ey ?_;refine aG ?_;refine Dy (v:=.int .i64 ((LS.length-(gM LS).2.length:Nat):Int)) ?_;refine az ?_;refine aQ ey (he:=aT) ?_;refine aG ?_;refine nS [(0,.buf 9 [Rec.D qd]),(22,.buf 9 [Rec.D (gM LS).1])] (.bf ah (.cons r6 .nil) (.id ah .nil)) ?_;refine az ?_;refine cv (fV ?_ (ar (D.int .i64) ?_) (ar (D.int .i64) ?_));all_goals rfl
 simp only[dT,cL,a8,bC]at hc1;have hrr:dq s=if(cw (gM LS).1).1≠0 then(qd,(cw (gM LS).1).1,0)else((gM LS).1,0,0):=by
  unfold dq;rw[aj ae];simp only[hLS];rw[aj];rintro(h|h|h)
  .rw[hc1.1.1]at h;cases h
  .exact h (kC (by have:=hc1.1.2;omega))
  .exact h hc1.2
 rw[hrr];refine aG ?_;refine dj (d:=Rec.D (gM LS).1) ?_;refine aq (hc:=h70 (gM LS).1 hrs) ?_;refine fJ ?_;refine ax (fun hc2=>?_) (fun hc2=>?_)
 .simp only[bP,bC]at hc2;rw[aw hc2];refine aA ?_;refine bq ey ?_;refine az ?_;refine aQ ey (he:=aT) ?_;refine aG ?_;refine nS [(0,.buf 9 [Rec.D qd]),(15,.buf 2 [Ld.D ((⟨LS,0⟩:Ld).to (gM LS).2)]),(22,.buf 9 [Rec.D (gM LS).1])] (.bf ah (.cons r6 .nil) (.id ah (.id ah .nil))) ?_;refine az ?_;refine cv (fV ?_ (ar (D.int .i64) ?_) (ar (D.int .i64) ?_));all_goals rfl
 simp only[cL,a8]at hc2;rw[aj (by rw[hc2];simp)];refine aA ?_;refine dj (d:=Rec.D (gM LS).1) ?_;refine aQ (Rec.D (gM LS).1) (he:=aT) ?_;refine aK ?_;refine cv (fV ?_ (ar (D.int .i64) ?_) (ar (D.int .i64) ?_));all_goals rfl
def Lh (T:List D->D->Prop):Prop:=∀(s:ak),T [.str s] (.tup [Rec.D (dq s).1,.int .i64 (dq s).2.1,.int .i64 (dq s).2.2])
def C76 (Y:Ctx):Prop:=Lh (ch Y 76)
def aD (s:ak):List ak×Bool:=if(ai s 10)[(ai s 10).length-1]! =[]then((ai s 10).take ((ai s 10).length-1),true)else(ai s 10,false)
end Go.Abs
section
namespace Go.Abs
variable {Y:Ctx}(hm:(Y.at 0).cQ)
def RdS.ok (x:RdS):Prop:=(x.st=0->x.r.needs=[]/\x.r.bars=[]/\x.r.feats=[])/\((x.st=2\/x.st=3)->x.r.needs≠[])/\(x.st=5->x.r.bars≠[])
end Go.Abs
namespace Go.Abs
variable {Y:Ctx}(hm:(Y.at 0).cQ)
end Go.Abs
end
