/- A part of the proofs. -/
import Derived.Test.YtfeebkgpalkobaaGreatDoorP08
set_option linter.all false
set_option maxRecDepth 60000
set_option maxHeartbeats 2000000
namespace Go.Abs
variable {Y:Ctx}(hm:(Y.at 0).cj)
noncomputable def Gg:ax:=b8 68
def w601 {Y:Ctx}(hm:(Y.at 0).cj)     :dh Y Gg (Cut.D nP) []:=by
 show bO _ _ _ [_] _;refine ai ?_;refine ar ?_;refine b6 (Cut.D (⟨(-1),⟨0,0,0,[],[]⟩,false⟩)) ?_;refine bD (Cut.D (⟨(-1),⟨0,0,0,[],[]⟩,false⟩)) (he:=bm) ?_;refine av ?_;refine cy (?_);rfl
noncomputable def KO:ax:=b8 70
def w603 {Y:Ctx}(hm:(Y.at 0).cj)     :dh Y KO (Cut.D r5) []:=by
 show bO _ _ _ [_] _;refine ai ?_;refine ar ?_;refine b6 (Cut.D (⟨1,⟨0,0,0,[],[]⟩,false⟩)) ?_;refine bD (Cut.D (⟨1,⟨0,0,0,[],[]⟩,false⟩)) (he:=bm) ?_;refine av ?_;refine cy (?_);rfl
noncomputable def KI:ax:=b8 66
def w599 {Y:Ctx}(hm:(Y.at 0).cj)  (v:aQ)   :dh Y KI (aQ.D (kj v)) [aQ.D v]:=by
 show bO _ _ _ [⟨_,_⟩,_,_] _;refine ai ?_;refine aD ?_;refine bD (aQ.D ({v with build:=[]})) (he:=bm) ?_;refine av ?_;refine bo (d:=aQ.D ({v with build:=[]})) ?_;refine bD (aQ.D ({v with build:=[]})) (he:=bm) ?_;refine av ?_;refine cy (?_);rfl
noncomputable def D3:ax:=b8 32
def w376 {Y:Ctx}(hm:(Y.at 0).cj)(h599:So Y)(v:aQ)   :dh Y D3 (Cut.D (mg v)) [aQ.D v]:=by
 show bO _ _ _ [⟨_,_⟩,_,_] _;refine ai ?_;refine aF ?_;refine bo (d:=aQ.D v) ?_;refine ak (hc:=h599 (v)) ?_;refine b6 (Cut.D (⟨0,(kj (v)),false⟩)) ?_;refine bD (Cut.D (⟨0,(kj (v)),false⟩)) (he:=bm) ?_;refine av ?_;refine cy (?_);rfl
noncomputable def D4:ax:=b8 33
def w377 {Y:Ctx}(hm:(Y.at 0).cj)(h599:So Y)(v:aQ)   :dh Y D4 (Cut.D (vg v)) [aQ.D v]:=by
 show bO _ _ _ [⟨_,_⟩,_,_] _;refine ai ?_;refine aF ?_;refine bo (d:=aQ.D v) ?_;refine ak (hc:=h599 (v)) ?_;refine b6 (Cut.D (⟨0,(kj (v)),true⟩)) ?_;refine bD (Cut.D (⟨0,(kj (v)),true⟩)) (he:=bm) ?_;refine av ?_;refine cy (?_);rfl
noncomputable def KH:ax:=b8 109
def w769 {Y:Ctx}(hm:(Y.at 0).cj)(h217:qB Y)(v:aQ)(p:Int)  (hp0:v.sm):dh Y KH (.tup [aQ.D (gF v p).1,.bool (gF v p).2]) [aQ.D v,.int .i64 p]:=by
 show bO _ _ _ [⟨_,_⟩,⟨_,_⟩,_,_,_,_,_,_,_,_,_] _;refine ai ?_;refine aH ?_;refine bo (d:=aQ.D v) ?_;refine ak (hc:=h217 (v) ?_) ?_;rotate_left;first|assumption|omega|(grind [Cut.sm,Span.sm,bQ.sm,bR,aq,Want.sm,dA.sm,cQ.sm,bZ.sm])
 refine k8 ?_;refine cd (fun hc0=>?_) fun hc0=>?_
 .refine av ?_;refine b6 (aQ.D (⟨0,0,0,[],[]⟩)) ?_;refine bD (aQ.D (⟨0,0,0,[],[]⟩)) (he:=bm) ?_;refine ar ?_;refine cy (ct (aC aQ.D ?_) (aC D.bool ?_));all_goals
   have hE:gF v p=(zV,false):=by
    unfold gF;rw[ay (by grind)]
   rw[hE];all_goals rfl
 refine av ?_;have hbf:¬(fE v=false\/p<0\/2<p):=by grind
 have hf:=OG (v:=v) (by grind);refine kK ?_;refine ed (fun hc1=>?_) fun hc1=>?_
 .refine av ?_;refine az (v:=.int .i64 v.major) ?_;refine aw ?_;refine b6 (aQ.D (fq v p)) (hv:=fun _=>by rw[show fq v p=⟨v.major+1,0,0,[],[]⟩from by unfold fq;rw[ay hc1]];rfl) ?_;refine bD (aQ.D (fq v p)) (he:=bm) ?_;refine aF ?_;have hbs:=rJ v p;refine bo (d:=aQ.D (fq v p)) ?_;refine ak (hc:=h217 ((fq v p)) ?_) ?_;rotate_left;first|assumption|omega|(grind [Cut.sm,Span.sm,bQ.sm,bR,aq,Want.sm,dA.sm,cQ.sm,bZ.sm])
  refine av ?_;refine cd (fun hc3=>?_) fun hc3=>?_
  .refine av ?_;refine b6 (aQ.D (⟨0,0,0,[],[]⟩)) ?_;refine bD (aQ.D (⟨0,0,0,[],[]⟩)) (he:=bm) ?_;refine ar ?_;refine cy (ct (aC aQ.D ?_) (aC D.bool ?_));all_goals
    have hE:gF v p=(zV,false):=by
     unfold gF;rw[aj hbf,ay hc3]
    rw[hE];all_goals rfl
  refine av ?_;refine bo (d:=aQ.D (fq v p)) ?_;refine bD (aQ.D (fq v p)) (he:=bm) ?_;refine ar ?_;refine cy (ct (aC aQ.D ?_) (aC D.bool ?_));all_goals
   have hE:gF v p=(fq v p,true):=by
    unfold gF;rw[aj hbf,aj (by simp[hc3])]
   rw[hE];all_goals rfl
 refine aF ?_;refine ed (fun hc2=>?_) fun hc2=>?_
 .refine av ?_;refine az (v:=.int .i64 v.major) ?_;refine aw ?_;refine az (v:=.int .i64 v.minor) ?_;refine aw ?_;refine b6 (aQ.D (fq v p)) (hv:=fun _=>by rw[show fq v p=⟨v.major,v.minor+1,0,[],[]⟩from by unfold fq;rw[aj hc1,ay hc2]];rfl) ?_;refine bD (aQ.D (fq v p)) (he:=bm) ?_;refine aF ?_;have hbs:=rJ v p;refine bo (d:=aQ.D (fq v p)) ?_;refine ak (hc:=h217 ((fq v p)) ?_) ?_;rotate_left;first|assumption|omega|(grind [Cut.sm,Span.sm,bQ.sm,bR,aq,Want.sm,dA.sm,cQ.sm,bZ.sm])
  refine av ?_;refine cd (fun hc3=>?_) fun hc3=>?_
  .refine av ?_;refine b6 (aQ.D (⟨0,0,0,[],[]⟩)) ?_;refine bD (aQ.D (⟨0,0,0,[],[]⟩)) (he:=bm) ?_;refine ar ?_;refine cy (ct (aC aQ.D ?_) (aC D.bool ?_));all_goals
    have hE:gF v p=(zV,false):=by
     unfold gF;rw[aj hbf,ay hc3]
    rw[hE];all_goals rfl
  refine av ?_;refine bo (d:=aQ.D (fq v p)) ?_;refine bD (aQ.D (fq v p)) (he:=bm) ?_;refine ar ?_;refine cy (ct (aC aQ.D ?_) (aC D.bool ?_));all_goals
   have hE:gF v p=(fq v p,true):=by
    unfold gF;rw[aj hbf,aj (by simp[hc3])]
   rw[hE];all_goals rfl
 refine av ?_;refine az (v:=.int .i64 v.major) ?_;refine aw ?_;refine az (v:=.int .i64 v.minor) ?_;refine aw ?_;refine az (v:=.int .i64 v.patch) ?_;refine aw ?_;refine b6 (aQ.D (fq v p)) (hv:=fun _=>by rw[show fq v p=⟨v.major,v.minor,v.patch+1,[],[]⟩from by unfold fq;rw[aj hc1,aj hc2]];rfl) ?_;refine bD (aQ.D (fq v p)) (he:=bm) ?_;refine aF ?_;have hbs:=rJ v p;refine bo (d:=aQ.D (fq v p)) ?_;refine ak (hc:=h217 ((fq v p)) ?_) ?_;rotate_left;first|assumption|omega|(grind [Cut.sm,Span.sm,bQ.sm,bR,aq,Want.sm,dA.sm,cQ.sm,bZ.sm])
 refine av ?_;refine cd (fun hc3=>?_) fun hc3=>?_
 .refine av ?_;refine b6 (aQ.D (⟨0,0,0,[],[]⟩)) ?_;refine bD (aQ.D (⟨0,0,0,[],[]⟩)) (he:=bm) ?_;refine ar ?_;refine cy (ct (aC aQ.D ?_) (aC D.bool ?_));all_goals
   have hE:gF v p=(zV,false):=by
    unfold gF;rw[aj hbf,ay hc3]
   rw[hE];all_goals rfl
 refine av ?_;refine bo (d:=aQ.D (fq v p)) ?_;refine bD (aQ.D (fq v p)) (he:=bm) ?_;refine ar ?_;refine cy (ct (aC aQ.D ?_) (aC D.bool ?_));all_goals
  have hE:gF v p=(fq v p,true):=by
   unfold gF;rw[aj hbf,aj (by simp[hc3])]
  rw[hE];all_goals rfl
noncomputable def KK:ax:=b8 69
def w602 (h217:qB Y)(h769:XM Y)(v:aQ)  (hp0:v.sm):dh Y KK (.tup [aQ.D (jq v).1,.bool (jq v).2]) [aQ.D v]:=by
 show bO _ _ _ [⟨_,_⟩,_,_,_,_,_,_,_,_,_,_] _;refine ai ?_;refine aH ?_;refine bo (d:=aQ.D v) ?_;refine ak (hc:=h217 (v) ?_) ?_;rotate_left;first|assumption|omega|(grind [Cut.sm,Span.sm,bQ.sm,bR,aq,Want.sm,dA.sm,cQ.sm,bZ.sm])
 refine av ?_;refine cd (fun hc0=>?_) fun hc0=>?_
 .refine av ?_;refine b6 (aQ.D (⟨0,0,0,[],[]⟩)) ?_;refine bD (aQ.D (⟨0,0,0,[],[]⟩)) (he:=bm) ?_;refine ar ?_;refine cy (ct (aC aQ.D ?_) (aC D.bool ?_));all_goals
   have hE:jq v=(zV,false):=by
    unfold jq;rw[ay hc0]
   rw[hE];all_goals rfl
 refine aF ?_;refine az (v:=.str v.pre) ?_;refine av ?_;refine cd (fun hc1=>?_) fun hc1=>?_
 .refine ar ?_;refine az (v:=.int .i64 v.major) ?_;refine aw ?_;refine az (v:=.int .i64 v.minor) ?_;refine aw ?_;refine az (v:=.int .i64 v.patch) ?_;refine b6 (aQ.D (oF v)) ?_;refine bD (aQ.D (oF v)) (he:=bm) ?_;refine ar ?_;refine cy (ct (aC aQ.D ?_) (aC D.bool ?_));all_goals
   have hE:jq v=(oF v,true):=by
    unfold jq;rw[aj (by simp[hc0]),ay (by simpa using hc1)]
   rw[hE];all_goals rfl
 refine aD ?_;refine a7 hm (ι:=Int) (fun n=>[.un,⟨true,.ptr 1 5 0 0⟩,.un,⟨true,.ptr 0 5 0 0⟩,.un,.un,⟨true,.int .i64 n⟩,.un,.un,.un,.un]) (fun n=>[(0,.buf 5 [aQ.D v]),(1,.buf 5 [aQ.D zV])]) 10 (fun n=>(-1<=n/\n<=2)/\jq v=xF v (n+1).toNat) (fun n=>(n+1).toNat) 2 ⟨ah,by unfold jq;rw[aj (by simp[hc0]),aj (by simpa using hc1)];rfl⟩ (du [(0,0),(1,1)]) ?_;rintro n ⟨hn,hr⟩;refine aD ?_;refine cd (fun hc2=>?_) fun hc2=>?_
 .refine ar ?_;refine bo (d:=aQ.D v) ?_;refine aw ?_;refine ak (hc:=h769 (v) (n) ?_) ?_;rotate_left;first|assumption|omega|(grind [Cut.sm,Span.sm,bQ.sm,bR,aq,Want.sm,dA.sm,cQ.sm,bZ.sm])
  refine aw ?_;refine mw (aQ.D _) ?_;refine av ?_;refine bD (aQ.D ((gF (v) (n)).1)) (he:=bm) ?_;refine aD ?_;refine ed (fun hc3=>?_) fun hc3=>?_
  .refine aw ?_;refine bo (d:=aQ.D ((gF (v) (n)).1)) ?_;refine bD (aQ.D ((gF (v) (n)).1)) (he:=bm) ?_;refine aD ?_;refine cy (ct (aC aQ.D ?_) (aC D.bool ?_));all_goals
    have hE:jq v=((gF v n).1,true):=by
     rw[hr,show(n+1).toNat=n.toNat+1 by omega,xF,show((n.toNat:Nat):Int)=n by omega,ay hc3]
    rw[hE];all_goals rfl
  refine dj ?_;exact⟨(n-1),⟨ah,by rw[hr,show(n+1).toNat=n.toNat+1 by omega,xF,show((n.toNat:Nat):Int)=n by omega,aj (by simp[hc3]),show n-1+1=n by omega]⟩,ah,(du [(0,0),(1,1)])⟩
 refine ar ?_;refine b6 (aQ.D (⟨0,0,0,[],[]⟩)) ?_;refine bD (aQ.D (⟨0,0,0,[],[]⟩)) (he:=bm) ?_;refine ar ?_;refine cy (ct (aC aQ.D ?_) (aC D.bool ?_));all_goals
  have hE:jq v=(zV,false):=by
   rw[hr,show(n+1).toNat=0 by omega];rfl
  rw[hE];all_goals rfl
noncomputable def KQ:ax:=b8 31
def w375 {Y:Ctx}(hm:(Y.at 0).cj)     :dh Y KQ (bQ.D xI) []:=by
 show bO _ _ _ [_] _;refine ai ?_;refine ar ?_;refine cJ _ ?_;refine ar ?_;refine cy (?_);rfl
noncomputable def Gn:ax:=b8 112
def w598 {Y:Ctx}(hm:(Y.at 0).cj)(h601:Ph Y)(h603:Pj Y)    :dh Y Gn (.sl 14 (rq.map Span.D)) []:=by
 show bO _ _ _ [_] _;refine ai ?_;refine ar ?_;refine ak (hc:=h601) ?_;refine ak (hc:=h603) ?_;refine b6 (Span.D ⟨nP,r5⟩) ?_;refine bY (rq.map Span.D) ?_;refine av ?_;refine dd 4 ?_;refine aw ?_;refine cy (?_);rfl
noncomputable def N5:ax:=b8 72
def w374 {Y:Ctx}(hm:(Y.at 0).cj)(h598:Xi Y)    :dh Y N5 (bQ.D LK) []:=by
 show bO _ _ _ [_] _;refine ai ?_;refine ar ?_;refine ak (hc:=h598) ?_;refine ak (hc:=h598) ?_;refine b6 (bQ.D (⟨rq,rq⟩)) ?_;refine ar ?_;refine cy (?_);rfl
noncomputable def Gk:ax:=b8 34
def w378 {Y:Ctx}(hm:(Y.at 0).cj)(h376:Pd Y)(h600:Sp Y)(h601:Ph Y)(v:aQ)   :dh Y Gk (Cut.D (oP v)) [aQ.D v]:=by
 show bO _ _ _ [⟨_,_⟩,_,_,_] _;refine ai ?_;refine aD ?_;refine bo (d:=aQ.D v) ?_;refine ak (hc:=h600 (v)) ?_;refine aw ?_;refine cd (fun hc0=>?_) fun hc0=>?_
 .refine av ?_;refine ak (hc:=h601) ?_;refine bD (Cut.D nP) (he:=bm) ?_;refine av ?_;refine cy (?_);unfold oP;rw[ay hc0];rfl
 refine ar ?_;refine az (v:=.int .i64 v.major) ?_;refine aw ?_;refine az (v:=.int .i64 v.minor) ?_;refine aw ?_;refine az (v:=.int .i64 v.patch) ?_;refine b6 (aQ.D (oF v)) ?_;refine ak (hc:=h376 ((oF v))) ?_;refine bD (Cut.D ((mg ((oF v))))) (he:=bm) ?_;refine av ?_;refine cy (?_);unfold oP;rw[aj (by simp[hc0])];rfl
noncomputable def D5:ax:=b8 35
def w379 {Y:Ctx}(hm:(Y.at 0).cj)(h376:Pd Y)(h602:Xj Y)(h603:Pj Y)(v:aQ)   :dh Y D5 (Cut.D (Cv v)) [aQ.D v]:=by
 show bO _ _ _ [⟨_,_⟩,_,_,_,_,_] _;refine ai ?_;refine aF ?_;have hrv:=BY v;refine aw ?_;refine az (v:=.int .i64 v.major) ?_;refine aw ?_;refine az (v:=.int .i64 v.minor) ?_;refine aw ?_;refine az (v:=.int .i64 v.patch) ?_;refine b6 (aQ.D (oF v)) ?_;refine ak (hc:=h602 ((oF v)) ?_) ?_;rotate_left;first|assumption|omega|(grind [Cut.sm,Span.sm,bQ.sm,bR,aq,Want.sm,dA.sm,cQ.sm,bZ.sm])
 refine aw ?_;refine mw (aQ.D _) ?_;refine av ?_;refine bD (aQ.D ((jq ((oF v))).1)) (he:=bm) ?_;refine bF ?_;refine cd (fun hc0=>?_) fun hc0=>?_
 .refine av ?_;refine ak (hc:=h603) ?_;refine bD (Cut.D r5) (he:=bm) ?_;refine av ?_;refine cy (?_);unfold Cv;rw[ay (by simpa using hc0)];rfl
 refine av ?_;refine bo (d:=aQ.D ((jq ((oF v))).1)) ?_;refine ak (hc:=h376 ((jq ((oF v))).1)) ?_;refine bD (Cut.D ((mg ((jq ((oF v))).1)))) (he:=bm) ?_;refine av ?_;refine cy (?_);unfold Cv;rw[aj (by simpa using hc0)];rfl
noncomputable def Gj:ax:=b8 14
def w156 {Y:Ctx}(hm:(Y.at 0).cj)(h217:qB Y)(h375:Ll Y)(h376:Pd Y)(h377:WG Y)(h378:WH Y)(h379:WI Y)(v:aQ)  (hp0:v.sm):dh Y Gj (bQ.D (bX v)) [aQ.D v]:=by
 show bO _ _ _ [⟨_,_⟩,_,_,_,_] _;refine ai ?_;refine aD ?_;refine bo (d:=aQ.D v) ?_;refine ak (hc:=h217 (v) ?_) ?_;rotate_left;first|assumption|omega|(grind [Cut.sm,Span.sm,bQ.sm,bR,aq,Want.sm,dA.sm,cQ.sm,bZ.sm])
 refine av ?_;refine cd (fun hc0=>?_) fun hc0=>?_
 .refine av ?_;refine ak (hc:=h375) ?_;refine ar ?_;refine cy (?_);unfold bX;rw[ay hc0];rfl
 refine aF ?_;refine az (v:=.str v.pre) ?_;refine av ?_;refine cd (fun hc1=>?_) fun hc1=>?_
 .refine av ?_;refine bo (d:=aQ.D v) ?_;refine ak (hc:=h376 (v)) ?_;refine bo (d:=aQ.D v) ?_;refine ak (hc:=h377 (v)) ?_;refine b6 (Span.D ⟨mg v,vg v⟩) ?_;refine bY [(Span.D _)] ?_;refine cJ _ ?_;refine av ?_;refine dd 13 ?_;refine aw ?_;refine cy (?_);unfold bX;rw[aj (by simp[hc0]),ay (by simpa using hc1)];rfl
 refine av ?_;refine bo (d:=aQ.D v) ?_;refine ak (hc:=h378 (v)) ?_;refine bo (d:=aQ.D v) ?_;refine ak (hc:=h379 (v)) ?_;refine b6 (Span.D ⟨oP v,Cv v⟩) ?_;refine bY [(Span.D _)] ?_;refine cJ _ ?_;refine av ?_;refine dd 13 ?_;refine aw ?_;refine cy (?_);unfold bX;rw[aj (by simp[hc0]),aj (by simpa using hc1)];rfl
noncomputable def EE:ax:=b8 48
def w408 {Y:Ctx}(hm:(Y.at 0).cj)(h516:Sl Y)(h531:Sm Y)(a:Key)(b:Key)   :dh Y EE (.int .i64 (xP a b)) [Key.D a,Key.D b]:=by
 show bO _ _ _ [⟨_,_⟩,⟨_,_⟩,_,_,_] _;refine ai ?_;refine aH ?_;refine az (v:=.str a.n) ?_;refine aw ?_;refine az (v:=.str b.n) ?_;refine ak (hc:=h516 (a.n) (b.n)) ?_;refine aw ?_;refine az (v:=.str a.f) ?_;refine aw ?_;refine az (v:=.str b.f) ?_;refine ak (hc:=h516 (a.f) (b.f)) ?_;refine bY [.int .i64 (mb a.n b.n),.int .i64 (mb a.f b.f)] ?_;refine ak (hc:=h531 [mb a.n b.n,mb a.f b.f]) (ha:=fun _=>aC (fun d=>[d]) (qc (q:=D.int .i64) (xs:=[mb a.n b.n,mb a.f b.f]) (fun _=>rfl) ae)) (hp:=fun _=>⟨ny (q:=D.int .i64) (xs:=[mb a.n b.n,mb a.f b.f]) (fun _=>rfl) ae,trivial⟩) ?_;refine ar ?_;refine cq ?_;unfold xP;simp[e8,oZ];grind
noncomputable def EF:ax:=b8 99
def w622 (h780:SA Y)(l:List Want)(n:Int)  (hp0:∀x∈l,x.sm):dh Y EF (.bool (oc n l)) [.sl 3 (l.map Want.D),.int .i64 n]:=by
 show bO _ _ _ [⟨_,_⟩,⟨_,_⟩,_,_,_,_,_,_,_] _;refine ai ?_;refine aH ?_;intro u0;refine av ?_;refine a7 hm (ι:=Nat) (fun i=>[.un,⟨true,.int .i64 n⟩,.un,⟨true,.int .i64 (i:Nat)⟩,⟨true,.int .i64 (l.length:Nat)⟩,.un,⟨true,.sl 3 ((l).map Want.D)⟩,.un,.un]) (fun i=>[]) 4 (fun i=>i<=l.length/\oc n l=cF (fun i=>pF n l[i]!) i l.length) (fun i=>l.length-i) 0 ⟨ah,rfl⟩ (du []) ?_;rintro i ⟨hi,hr⟩;refine ar ?_;refine cd (fun hc0=>?_) fun hc0=>?_
 .refine ar ?_;refine aV (i) (hj:=fun hf=>by first|omega|(simp at hf;omega)) (hb:=fun hf=>by first|omega|(simp at hf;omega)) ?_;refine aW (v:=Want.D ((l)[i]!)) (hi:=fun hf=>by first|omega|(simp at hf;omega)) ?_;refine Jx ?_;refine az (v:=(bQ.D _)) ?_;refine bK (hc:=fun hf=>h780 _ ?_) ?_;rotate_left;first|assumption|omega|exact hp0 _ (aq ah)
  refine ar ?_;refine ed (fun hc1=>?_) fun hc1=>?_
  .refine aH ?_;refine bG ?_;rw[hr,aN ah];simp only[pF];grind
  refine ar ?_;refine ba (hb:=fun hf=>by first|omega|(simp at hf;omega)) ?_;refine ar ?_;exact⟨i+1,⟨ah,by rw[hr,aN ah];simp only[pF];grind⟩,ah,(du [])⟩
 refine aH ?_;refine bG ?_;rw[hr,b7 ah]
noncomputable def F7:ax:=b8 149
def w778 {Y:Ctx}(hm:(Y.at 0).cj)(h770:Lp Y)(w:Want)(n:Int)  (hp0:w.sm):dh Y F7 (.bool (pF n w)) [Want.D w,.int .i64 n]:=by
 show bO _ _ _ [⟨_,_⟩,⟨_,_⟩,_,_] _;refine ai ?_;refine aD ?_;refine az (v:=.int .i64 w.u) ?_;refine ar ?_;refine az (v:=.int .i64 w.u) ?_;refine aD ?_;refine az (v:=bQ.D w.s) ?_;refine bK (hc:=fun hf=>h770 (w.s) ?_) ?_;rotate_left;first|assumption|omega|(grind [Cut.sm,Span.sm,bQ.sm,bR,aq,Want.sm,dA.sm,cQ.sm,bZ.sm])
 refine aF ?_;refine bG ?_;first|(grind [pF];done)|(simp_all[pF];done)
noncomputable def DT:ax:=b8 148
def w777 (h778:Sz Y)(l:List Want)(n:Int)  (hp0:∀x∈l,x.sm):dh Y DT (.bool (oz n l)) [.sl 3 (l.map Want.D),.int .i64 n]:=by
 show bO _ _ _ [⟨_,_⟩,⟨_,_⟩,_,_,_,_] _;refine ai ?_;refine aH ?_;refine a7 hm (ι:=Nat) (fun i=>[⟨true,.sl 3 ((l).map Want.D)⟩,⟨true,.int .i64 n⟩,.un,⟨true,.int .i64 (i:Nat)⟩,.un,.un]) (fun i=>[]) 2 (fun i=>i<=l.length/\oc n l=cF (fun i=>pF n l[i]!) i l.length) (fun i=>l.length-i) 0 ⟨ah,rfl⟩ (du []) ?_;rintro i ⟨hi,hr⟩;refine aD ?_;intro u0;refine av ?_;refine cd (fun hc0=>?_) fun hc0=>?_
 .refine aD ?_;refine aV (i) (hj:=fun hf=>by first|omega|(simp at hf;omega)) (hb:=fun hf=>by first|omega|(simp at hf;omega)) ?_;refine aW (v:=Want.D ((l)[i]!)) (hi:=fun hf=>by first|omega|(simp at hf;omega)) ?_;refine aw ?_;refine ak (hc:=h778 ((l)[i]!) (n) ?_) ?_;rotate_left;first|assumption|omega|exact hp0 _ (aq ah)
  refine av ?_;refine ed (fun hc1=>?_) fun hc1=>?_
  .refine aH ?_;refine bG ?_;unfold oz;rw[hr,aN ah];grind
  refine aF ?_;refine ba (hb:=fun hf=>by first|omega|(simp at hf;omega)) ?_;refine ar ?_;exact⟨i+1,⟨ah,by rw[hr,aN ah];grind⟩,ah,(du [])⟩
 refine aD ?_;intro u1;refine ar ?_;refine j6 ?_;refine aD ?_;refine bG ?_;unfold oz;rw[hr,b7 ah];grind
noncomputable def F5:ax:=b8 121
def w618 (h217:qB Y)(h777:XP Y)(h778:Sz Y)(c:dA)(n:Int)  (hp0:c.sm):dh Y F5 (.bool (fE c.v&&mh n c)) [dA.D c,.int .i64 n]:=by
 show bO _ _ _ [⟨_,_⟩,⟨_,_⟩,_,_,_,_,_,_,_,_,_] _;refine ai ?_;refine aH ?_;refine az (v:=aQ.D c.v) ?_;refine ak (hc:=h217 (c.v) ?_) ?_;rotate_left;first|assumption|omega|exact hp0.1|exact hp0.2.1 _ (aq ah)|exact hp0.2.2 _ (aq ah)
 refine ar ?_;refine az (v:=.sl 1 ((c.needs).map ei)) ?_;refine j6 ?_;refine aF ?_;refine az (v:=.sl 3 ((c.bars).map Want.D)) ?_;refine j6 ?_;refine ar ?_;refine cd (fun hc0=>?_) fun hc0=>?_
 .refine aD ?_;refine bG ?_;unfold mh;grind
 refine aD ?_;refine a7 hm (ι:=Nat) (fun i=>[.un,⟨true,.int .i64 n⟩,.un,⟨true,.ptr 0 8 0 0⟩,.un,⟨true,.int .i64 (i:Nat)⟩,.un,.un,.un,.un,.un]) (fun i=>[(0,.buf 8 [dA.D c])]) 19 (fun i=>i<=c.needs.length/\cF (fun i=>oz n c.needs[i]!) 0 c.needs.length=cF (fun i=>oz n c.needs[i]!) i c.needs.length) (fun i=>c.needs.length-i) 0 ⟨ah,rfl⟩ (du [(0,0)]) ?_;rintro i ⟨hi,hr⟩;refine aF ?_;refine az (v:=.sl 1 ((c.needs).map ei)) ?_;refine aw ?_;intro u0;refine av ?_;refine cd (fun hc1=>?_) fun hc1=>?_
 .refine aF ?_;refine az (v:=.sl 1 ((c.needs).map ei)) ?_;refine aw ?_;refine aV (i) (hj:=fun hf=>by first|omega|(simp at hf;omega)) (hb:=fun hf=>by first|omega|(simp at hf;omega)) ?_;refine aW (v:=.sl 3 (((c.needs)[i]!).map Want.D)) (hi:=fun hf=>by first|omega|(simp at hf;omega)) ?_;refine aw ?_;refine ak (hc:=h777 ((c.needs)[i]!) (n) ?_) ?_;rotate_left;first|assumption|omega|exact hp0.1|exact hp0.2.1 _ (aq ah)|exact hp0.2.2 _ (aq ah)
  refine av ?_;refine ed (fun hc2=>?_) fun hc2=>?_
  .refine aH ?_;refine bG ?_;unfold mh;rw[hr,aN ah];grind
  refine aF ?_;refine ba (hb:=fun hf=>by first|omega|(simp at hf;omega)) ?_;refine ar ?_;exact⟨i+1,⟨ah,by rw[hr,aN ah];grind⟩,ah,(du [(0,0)])⟩
 refine aH ?_;refine a7 hm (ι:=Nat) (fun k=>[.un,⟨true,.int .i64 n⟩,.un,⟨true,.ptr 0 8 0 0⟩,.un,.un,.un,.un,⟨true,.int .i64 (k:Nat)⟩,.un,.un]) (fun k=>[(0,.buf 8 [dA.D c])]) 25 (fun k=>k<=c.bars.length/\oc n c.bars=cF (fun i=>pF n c.bars[i]!) k c.bars.length) (fun k=>c.bars.length-k) 0 ⟨ah,rfl⟩ (du [(0,0)]) ?_;rintro k ⟨hk,hr2⟩;refine aF ?_;refine az (v:=.sl 3 ((c.bars).map Want.D)) ?_;refine aw ?_;intro u1;refine av ?_;refine cd (fun hc3=>?_) fun hc3=>?_
 .refine aF ?_;refine az (v:=.sl 3 ((c.bars).map Want.D)) ?_;refine aw ?_;refine aV (k) (hj:=fun hf=>by first|omega|(simp at hf;omega)) (hb:=fun hf=>by first|omega|(simp at hf;omega)) ?_;refine aW (v:=Want.D ((c.bars)[k]!)) (hi:=fun hf=>by first|omega|(simp at hf;omega)) ?_;refine aw ?_;refine ak (hc:=h778 ((c.bars)[k]!) (n) ?_) ?_;rotate_left;first|assumption|omega|exact hp0.1|exact hp0.2.1 _ (aq ah)|exact hp0.2.2 _ (aq ah)
  refine av ?_;refine ed (fun hc4=>?_) fun hc4=>?_
  .refine aH ?_;refine bG ?_;unfold mh;rw[hr2,aN (i:=k) ah];grind
  refine aF ?_;refine ba (hb:=fun hf=>by first|omega|(simp at hf;omega)) ?_;refine ar ?_;exact⟨k+1,⟨ah,by rw[hr2,aN ah];grind⟩,ah,(du [(0,0)])⟩
 refine aH ?_;refine bG ?_;unfold mh;rw[hr2,b7 (i:=k) ah,hr,b7 (i:=i) ah];grind
noncomputable def uY:ax:=b8 51
def w409 (h622:Xo Y)(c:dA)(n:Int)  (hp0:c.sm):dh Y uY (.bool (mh n c)) [dA.D c,.int .i64 n]:=by
 show bO _ _ _ [⟨_,_⟩,⟨_,_⟩,_,_,_,_,_,_,_,_,_] _;refine ai ?_;refine aH ?_;refine az (v:=.sl 1 ((c.needs).map ei)) ?_;refine aw ?_;intro u0;refine ar ?_;refine az (v:=.sl 3 ((c.bars).map Want.D)) ?_;refine j6 ?_;refine ar ?_;refine cd (fun hc0=>?_) fun hc0=>?_
 .refine aD ?_;refine bG ?_;unfold mh;grind
 refine aF ?_;refine az (v:=.sl 1 ((c.needs).map ei)) ?_;refine aw ?_;intro u1;refine av ?_;refine a7 hm (ι:=Nat) (fun i=>[.un,⟨true,.int .i64 n⟩,.un,⟨true,.ptr 0 8 0 0⟩,.un,⟨true,.int .i64 (i:Nat)⟩,⟨true,.int .i64 (c.needs.length:Nat)⟩,.un,⟨true,.sl 1 ((c.needs).map ei)⟩,.un,.un]) (fun i=>[(0,.buf 8 [dA.D c])]) 16 (fun i=>i<=c.needs.length/\cF (fun i=>oz n c.needs[i]!) 0 c.needs.length=cF (fun i=>oz n c.needs[i]!) i c.needs.length) (fun i=>c.needs.length-i) 0 ⟨ah,rfl⟩ (du [(0,0)]) ?_;rintro i ⟨hi,hr⟩;refine ar ?_;refine cd (fun hc1=>?_) fun hc1=>?_
 .refine ar ?_;refine aV (i) (hj:=fun hf=>by first|omega|(simp at hf;omega)) (hb:=fun hf=>by first|omega|(simp at hf;omega)) ?_;refine aW (v:=.sl 3 (((c.needs)[i]!).map Want.D)) (hi:=fun hf=>by first|omega|(simp at hf;omega)) ?_;refine aD ?_;intro u2;refine ar ?_;refine j6 ?_;refine aD ?_;refine bK (hc:=fun hf=>h622 ((c.needs)[i]!) (n) ?_) ?_;rotate_left;first|assumption|omega|exact hp0.1|exact hp0.2.1 _ (aq (by first|omega|(simp at hf;omega)))|exact hp0.2.2
  refine ar ?_;refine ed (fun hc2=>?_) fun hc2=>?_
  .refine aH ?_;refine bG ?_;unfold mh;rw[hr,aN ah];simp only[oz];grind
  refine ar ?_;refine ba (hb:=fun hf=>by first|omega|(simp at hf;omega)) ?_;refine ar ?_;exact⟨i+1,⟨ah,by rw[hr,aN ah];simp only[oz];grind⟩,ah,(du [(0,0)])⟩
 refine aF ?_;refine az (v:=.sl 3 ((c.bars).map Want.D)) ?_;refine aw ?_;refine ak (hc:=h622 (c.bars) (n) ?_) ?_;rotate_left;first|assumption|omega|exact hp0.1|exact hp0.2.1 _ (aq (by first|omega|(simp at hf;omega)))|exact hp0.2.2
 refine ar ?_;refine bG ?_;unfold mh;rw[hr,b7 ah];grind
noncomputable def DS:ax:=b8 120
def w617 {Y:Ctx}(hm:(Y.at 0).cj)  (a:cQ)(b:cQ)   :dh Y DS (.bool (jz a b)) [cQ.D a,cQ.D b]:=by
 show bO _ _ _ [⟨_,_⟩,⟨_,_⟩,_,_,_] _;refine ai ?_;refine aH ?_;refine az (v:=.str a.name) ?_;refine aw ?_;refine az (v:=.str b.name) ?_;refine ar ?_;refine az (v:=.str a.name) ?_;refine aw ?_;refine az (v:=.str b.name) ?_;refine ar ?_;refine az (v:=.str a.feat) ?_;refine aw ?_;refine az (v:=.str b.feat) ?_;refine aH ?_;refine bG ?_;first|(grind [jz];done)|(simp_all[jz];done)
noncomputable def CX:ax:=b8 97
def w533  (s:aU)(b:Int)  (hp0:s.length<=1048576):dh Y CX (.sl 1 ((bE s b).map D.str)) [.str s,.int .u8 b]:=by
 show bO _ _ _ [⟨_,_⟩,⟨_,_⟩,_,_,_,_,_,_,_,_] _;refine ai ?_;refine mF ?_;intro u0;refine av ?_;refine a7 hm (ι:=(Nat×Nat×List aU)) (fun p:Nat×Nat×List aU=>[⟨true,.str s⟩,⟨true,.int .u8 b⟩,.un,⟨true,.int .i64 (p.1:Nat)⟩,⟨true,.int .i64 (s.length:Nat)⟩,.un,.un,.un,⟨true,.own 0 1 0 p.2.2.length⟩,⟨true,.int .i64 (p.2.1:Nat)⟩]) (fun p=>[(0,.buf 1 (p.2.2.map D.str))]) 6 (fun p=>p.1<=s.length/\p.2.1<=p.1/\p.2.2.length<=p.1/\bE s b=p.2.2++eU b (s.drop p.1) ((s.take p.1).drop p.2.1)) (fun p=>s.length-p.1) (0,0,[]) ⟨bg,bg,bg,rfl⟩ (aO.to [] ae ae (by repeat(first|exact aL.nil|refine aL.un ?_|refine aL.eq ae ?_|refine aL.nl ae ae ?_|refine aL.ni (Or.inr ⟨0,1,0,rfl⟩) ?_)) (by repeat(first|exact aB.nil|refine aB.mt ae ae ae ae ?_))) ?_;rintro⟨i,fr,acc⟩ ⟨hi,hf,ha,hr⟩;dsimp only at hi hf ha hr⊢;refine ar ?_;refine cd (fun hc0=>?_) fun hc0=>?_
 .refine EN ?_;refine wp_cond (fun hc1=>?_) (fun hc1=>?_)
  .try simp only[jU]at hc1
   refine aD ?_;refine DE _ _ ?_;refine bY [(.str _)] ?_;refine OW ?_;exact⟨(i+1,i+1,acc++[(s.take i).drop fr]),⟨ec,ec,dH,by rw[hr,Aj ah hc1];simp⟩,ec,(aO.to [(20,0)] ae ae mM (by refine aB.nl 20 ae ae ae cK ?_;exact aB.nil))⟩
  simp only[dn]at hc1;refine bF ?_;exact⟨(i+1,fr,acc),⟨ec,ec,ec,by rw[hr,Ak ah ah hc1]⟩,ec,(aO.to [(0,0)] ae ae mM (by refine aB.nl 0 ae ae ae cK ?_;exact aB.nil))⟩
 refine aH ?_;refine DF _ ?_;refine bY [(.str _)] ?_;refine ar ?_;refine dd 12 ?_;refine aw ?_;refine cy (?_);have hs:bE s b=acc++[s.drop fr]:=by rw[hr,yt ah]
 rw[hs];exact rfl
noncomputable def uX:ax:=b8 130
def w659  (t:aU)   :dh Y uX (.bool (cV t)) [.str t]:=by
 show bO _ _ _ [⟨_,_⟩,_,_,_,_,_,_] _;refine ai ?_;refine aH ?_;intro u0;refine av ?_;refine a7 hm (ι:=Nat) (fun i=>[⟨true,.str t⟩,.un,⟨true,.int .i64 (i:Nat)⟩,⟨true,.int .i64 (t.length:Nat)⟩,.un,.un,.un]) (fun i=>[]) 4 (fun i=>i<=t.length/\cF (fun i=>cn (at8 t i)) 0 t.length=cF (fun i=>cn (at8 t i)) i t.length) (fun i=>t.length-i) 0 ⟨ah,rfl⟩ (du []) ?_;rintro i ⟨hi,hr⟩;refine ar ?_;refine cd (fun hc0=>?_) fun hc0=>?_
 .refine OY ?_;refine ed (fun hc1=>?_) fun hc1=>?_
  .refine aH ?_;refine bG ?_;simp only[cV];rw[hr,aN ah];rcases hc1 with h|h<;>simp[cn]<;>omega
  refine bF ?_;exact⟨i+1,⟨ah,by rw[hr,aN ah];rw[show cn (at8 t i)=true by simp only[cn,br,bU];omega];rfl⟩,ah,(du [])⟩
 refine dj ?_;refine bG ?_;simp only[cV];rw[hr,b7 ah];cases t<;>simp
noncomputable def Ca:ax:=b8 92
def w440 {Y:Ctx}(hm:(Y.at 0).cj)  (n:Int)   :dh Y Ca (.bool (o8 n)) [.int .i64 n]:=by
 show bO _ _ _ [⟨_,_⟩,_] _;refine ai ?_;refine mF ?_;exact bG rfl
noncomputable def Cb:ax:=b8 94
def w442 (h533:Lm Y)(s:aU)  (hp0:s.length<=1048576):dh Y Cb (.bool (nu s false)) [.str s]:=by
 show bO _ _ _ [⟨_,_⟩,_,_,_,_,_,_,_,_,_,_,_,_,_,_] _;refine ai ?_;refine aF ?_;refine ak (hc:=h533 _ _ ?_) ?_;rotate_left;first|assumption|omega;have hlen:=n8 s 46
 refine aD ?_;intro u0;refine dj ?_;intro u1;refine av ?_;refine a7 hm (ι:=Nat) (fun i=>[.un,.un,⟨true,.sl 1 ((bE s 46).map D.str)⟩,⟨true,.int .i64 (i:Nat)⟩,⟨true,.int .i64 ((bE s 46).length:Nat)⟩,.un,⟨true,.sl 1 ((bE s 46).map D.str)⟩,.un,.un,.un,.un,.un,.un,.un,⟨true,.bool (decide (((bE s 46).length:Int)<=4))⟩]) (fun i=>[]) 11 (fun i=>i<=(bE s 46).length/\nu s false=(decide ((bE s 46).length<=4)&&cF (fun i=>ie false (bE s 46)[i]!) i (bE s 46).length)) (fun i=>(bE s 46).length-i) 0 ⟨ah,rfl⟩ (du []) ?_;rintro i ⟨hi,hr⟩;refine ar ?_;refine cd (fun hc0=>?_) fun hc0=>?_
 .refine eW ?_;generalize ht:(bE s 46)[i]! =t;refine aF ?_;refine j6 ?_;refine ar ?_;refine cd (fun hc1=>?_) fun hc1=>?_
  .refine mF ?_;refine bG ?_;first
    |(rw[hr,b7 ah,fh];exact mQ.2 ah)
    |(have hb:qk t=false:=by
       first
       |(simp only[qk];rcases hc1 with h|h
         .subst h;simp
         .rw[dx (by omega:¬t.length<=8)];simp)
       |(have hz:kY (at8 t j)=false:=by
          rcases hcw with⟨_,h,_⟩|⟨_,h⟩<;>(simp only[kY,iT,cn,gA,ey,dn];omega)
         rw[hj,aN hnx,hz];rfl)
      rw[hr,aN ah,show ie false (bE s 46)[i]! =false from(by simp only[ie,ht,hb,Bool.false_and])];simp)
  refine aD ?_;have hT:qk t=cF (fun i=>kY (at8 t i)) 0 t.length:=by
   have:=List.length_pos_iff.2 hc1.1;simp only[qk];rw[cX ah,cX ah];rfl
  refine sz hm (ι:=Nat) (fun j=>[.un,.un,⟨true,.sl 1 ((bE s 46).map D.str)⟩,⟨true,.int .i64 (i:Nat)⟩,⟨true,.int .i64 ((bE s 46).length:Nat)⟩,.un,⟨true,.sl 1 ((bE s 46).map D.str)⟩,.un,.un,⟨true,.it 23⟩,.un,.un,.un,.un,⟨true,.bool (decide (((bE s 46).length:Int)<=4))⟩]) (fun j=>[(23,.iter t j)]) 24 (fun j=>j<=t.length/\qk t=cF (fun i=>kY (at8 t i)) j t.length) (fun j=>t.length-j) 0 ⟨ah,hT⟩ (du [(23,23)]) ?_;rintro j ⟨hj0,hj⟩;refine aw ?_;by_cases hnx:j<t.length
  .obtain⟨c,w,hdec,hw,hcw⟩:=rQ t j hnx;refine BJ c w (hp:=hnx) (hc:=hdec) ?_;refine av ?_;refine bC (t:=true) (fun _=>?_) (fun h=>by cases h);refine zzz26 ?_;refine ed (fun hc3=>?_) fun hc3=>?_
   .refine EN ?_;refine bG ?_;first
     |(rw[hr,b7 ah,fh];exact mQ.2 ah)
     |(have hb:qk t=false:=by
        first
        |(simp only[qk];rcases hc1 with h|h
          .subst h;simp
          .rw[dx (by omega:¬t.length<=8)];simp)
        |(have hz:kY (at8 t j)=false:=by
           rcases hcw with⟨_,h,_⟩|⟨_,h⟩<;>(simp only[kY,iT,cn,gA,ey,dn];omega)
          rw[hj,aN hnx,hz];rfl)
       rw[hr,aN ah,show ie false (bE s 46)[i]! =false from(by simp only[ie,ht,hb,Bool.false_and])];simp)
   refine ar ?_;obtain⟨rfl,hat,-⟩:w=1/\(c:Int)=at8 t j/\c<128:=by
    rcases hcw with h|h
    .exact h
    .omega
   have hz:kY (at8 t j)=true:=by
    simp only[kY,iT,cn,dW,br,bU];omega
   exact⟨j+1,⟨ah,by rw[hj,aN hnx,hz];rfl⟩,ah,(du [(23,23)])⟩
  .refine BI (hp:=hnx) ?_;refine av ?_;refine bC (t:=false) (fun h=>by cases h) (fun _=>?_);refine dj ?_;exact⟨i+1,⟨ah,by rw[hr,aN ah];rw[show ie false (bE s 46)[i]! =true from(by simp only[ie,Bool.false_and,Bool.not_false,fh];rw[ht,hj,b7 ah])];rfl⟩,ah,(du [])⟩
 refine bF ?_;refine bG ?_;first
  |(rw[hr,b7 ah,fh];exact mQ.2 ah)
  |(have hb:qk t=false:=by
     first
     |(simp only[qk];rcases hc1 with h|h
       .subst h;simp
       .rw[dx (by omega:¬t.length<=8)];simp)
     |(have hz:kY (at8 t j)=false:=by
        rcases hcw with⟨_,h,_⟩|⟨_,h⟩<;>(simp only[kY,iT,cn,gA,ey,dn];omega)
       rw[hj,aN hnx,hz];rfl)
    rw[hr,aN ah,show ie false (bE s 46)[i]! =false from(by simp only[ie,ht,hb,Bool.false_and])];simp)
noncomputable def F6:ax:=b8 81
def w403 (h424:JD Y)(h617:Xm Y)(h618:Xn Y)(w:bZ)(i:Int)  (hp0:w.sm/\(0<=i/\i<w.us.length)/\w.us.length<=48):dh Y F6 (.bool (oB w.us i.toNat)) [bZ.D w,.int .i64 i]:=by
 show bO _ _ _ [⟨_,_⟩,⟨_,_⟩,_,_,_,_,_,_,_,_,_] _;refine ai ?_;obtain⟨j,rfl⟩:∃j:Nat,i=(j:Int):=⟨i.toNat,ah⟩
 have hjl:j<w.us.length:=ah;have hju:=hp0.1 _ (aq hjl);simp only[Int.toNat_natCast];refine aD ?_;refine az (v:=.sl 3 ((w.us).map cQ.D)) ?_;refine aw ?_;refine aV (j) (hj:=fun hf=>by first|omega|(simp at hf;omega)) (hb:=fun hf=>by first|omega|(simp at hf;omega)) ?_;refine aW (v:=cQ.D ((w.us)[j]!)) (hi:=fun hf=>by first|omega|(simp at hf;omega)) ?_;refine dj ?_;intro u0;refine av ?_;refine cd (fun hc0=>?_) fun hc0=>?_
 .refine aD ?_;refine bG ?_;unfold oB lX;grind
 refine Jy ?_;refine j6 ?_;refine aF ?_;refine cd (fun hc1=>?_) fun hc1=>?_
 .refine aD ?_;refine bG ?_;unfold oB lX ub;grind
 refine Jx ?_;refine az (v:=.sl 3 ((w.us).map cQ.D)) ?_;refine aw ?_;refine iN (hb:=fun hf=>by first|omega|(simp at hf;omega)) ?_;refine aV ((j-1)) (hj:=fun hf=>by first|omega|(simp at hf;omega)) (hb:=fun hf=>by first|omega|(simp at hf;omega)) ?_;refine aW (v:=cQ.D ((w.us)[(j-1)]!)) (hi:=fun hf=>by first|omega|(simp at hf;omega)) ?_;refine aw ?_;refine ak (hc:=h617 ((w.us)[(j-1)]!) _) ?_;refine aF ?_;refine cd (fun hc2=>?_) fun hc2=>?_
 .refine aD ?_;refine bG ?_;unfold oB lX;grind
 refine aD ?_;refine a7 hm (ι:=Nat) (fun k=>[.un,⟨true,.int .i64 (j:Nat)⟩,.un,⟨true,.ptr 0 1 0 0⟩,⟨true,.ptr 1 3 0 0⟩,.un,.un,.un,⟨true,.int .i64 (k:Nat)⟩,.un,.un]) (fun k=>[(0,.buf 1 [bZ.D w]),(1,.buf 3 [cQ.D (w.us[j]!)])]) 54 (fun k=>k<=w.us[j]!.cands.length/\cF (oV w.us.length w.us[j]!.cands) 0 w.us[j]!.cands.length=cF (oV w.us.length w.us[j]!.cands) k w.us[j]!.cands.length) (fun k=>w.us[j]!.cands.length-k) 0 ⟨ah,rfl⟩ (aO.to [(0,0),(7,1)] ae ae lT (by repeat(first|exact aB.nil|refine aB.ee ae ae cK ?_|refine aB.ep ae ae ae ?_|refine aB.oE ae ae ae ae ?_|refine aB.nl 7 ae ae ae ae ?_))) ?_;rintro k ⟨hk,hr⟩;refine aF ?_;refine az (v:=.sl 8 ((w.us[j]!.cands).map dA.D)) ?_;refine aw ?_;intro u1;refine av ?_;refine cd (fun hc3=>?_) fun hc3=>?_
 .refine aF ?_;refine az (v:=.sl 8 ((w.us[j]!.cands).map dA.D)) ?_;refine aw ?_;refine aV (k) (hj:=fun hf=>by first|omega|(simp at hf;omega)) (hb:=fun hf=>by first|omega|(simp at hf;omega)) ?_;refine aW (v:=dA.D ((w.us[j]!.cands)[k]!)) (hi:=fun hf=>by first|omega|(simp at hf;omega)) ?_;refine aw ?_;refine az (v:=.sl 3 ((w.us).map cQ.D)) ?_;refine j6 ?_;refine ak (hc:=h618 ((w.us[j]!.cands)[k]!) _ ?_) ?_;rotate_left;first|assumption|omega|(grind [bZ.sm,cQ.sm,dA.sm,aq])
  refine aH ?_;refine az (v:=.sl 8 ((w.us[j]!.cands).map dA.D)) ?_;refine aw ?_;refine iN (hb:=fun hf=>by first|omega|(simp at hf;omega)) ?_;refine aV ((k-1)) (hj:=fun hf=>by first|omega|(simp at hf;omega)) (hb:=fun hf=>by first|omega|(simp at hf;omega)) ?_;refine aw ?_;refine aW (v:=aQ.D ((w.us[j]!.cands)[(k-1)]!.v)) (hi:=fun hf=>by first|omega|(simp at hf;omega)) ?_;refine aw ?_;refine az (v:=.sl 8 ((w.us[j]!.cands).map dA.D)) ?_;refine aw ?_;refine aV (k) (hj:=fun hf=>by first|omega|(simp at hf;omega)) (hb:=fun hf=>by first|omega|(simp at hf;omega)) ?_;refine aw ?_;refine aW (v:=aQ.D ((w.us[j]!.cands)[k]!.v)) (hi:=fun hf=>by first|omega|(simp at hf;omega)) ?_;refine bK (hc:=fun hf=>h424 ((w.us[j]!.cands)[(k-1)]!.v) ((w.us[j]!.cands)[k]!.v) ?_) ?_;rotate_left;first|assumption|omega|(grind [bZ.sm,cQ.sm,dA.sm,aq])
  refine aF ?_;refine ed (fun hc4=>?_) fun hc4=>?_
  .refine aH ?_;refine bG ?_;unfold oB lX;rw[hr,aN (i:=k) ah];simp only[oV];grind
  refine aF ?_;refine ba (hb:=fun hf=>by first|omega|(simp at hf;omega)) ?_;refine ar ?_;exact⟨k+1,⟨ah,by rw[hr,aN ah];simp only[oV];grind⟩,ah,(aO.to [(0,0),(1,1)] ae ae lT (by repeat(first|exact aB.nil|refine aB.ee ae ae cK ?_|refine aB.ep ae ae ae ?_|refine aB.oE ae ae ae ae ?_|refine aB.nl 7 ae ae ae ae ?_)))⟩
 refine aH ?_;refine bG ?_;unfold oB lX ub;rw[hr,b7 (i:=k) ah];grind
noncomputable def KA:ax:=b8 41
def w169 (h403:WJ Y)(w:bZ)  (hp0:w.sm):dh Y KA (.bool (jo w)) [bZ.D w]:=by
 show bO _ _ _ [⟨_,_⟩,_,_,_,_,_,_] _;refine ai ?_;refine aH ?_;refine az (v:=.sl 3 ((w.us).map cQ.D)) ?_;refine aw ?_;intro u0;refine ar ?_;refine az (v:=.sl 3 ((w.us).map cQ.D)) ?_;refine j6 ?_;refine ar ?_;refine cd (fun hc0=>?_) fun hc0=>?_
 .refine aD ?_;refine bG ?_;rw[yG];grind
 refine aD ?_;refine a7 hm (ι:=Nat) (fun i=>[.un,.un,⟨true,.ptr 0 1 0 0⟩,.un,⟨true,.int .i64 (i:Nat)⟩,.un,.un]) (fun i=>[(0,.buf 1 [bZ.D w])]) 13 (fun i=>i<=w.us.length/\cF (oB w.us) 0 w.us.length=cF (oB w.us) i w.us.length) (fun i=>w.us.length-i) 0 ⟨ah,rfl⟩ (du [(0,0)]) ?_;rintro i ⟨hi,hr⟩;refine aF ?_;refine az (v:=.sl 3 ((w.us).map cQ.D)) ?_;refine aw ?_;intro u1;refine av ?_;refine cd (fun hc1=>?_) fun hc1=>?_
 .refine ar ?_;refine bo (d:=bZ.D w) ?_;refine aw ?_;refine ak (hc:=h403 (w) _ ?_) ?_;rotate_left;first|assumption|omega|exact⟨hp0,ah,ah⟩
  refine av ?_;refine ed (fun hc2=>?_) fun hc2=>?_
  .refine aH ?_;refine bG ?_;rw[yG,hr,aN ah];grind
  refine aF ?_;refine ba (hb:=fun hf=>by first|omega|(simp at hf;omega)) ?_;refine ar ?_;exact⟨i+1,⟨ah,by rw[hr,aN ah];grind⟩,ah,(du [(0,0)])⟩
 refine aH ?_;refine bG ?_;rw[yG,hr,b7 ah];grind
noncomputable def Kx:ax:=b8 115
def w501 {Y:Ctx}(hm:(Y.at 0).cj)(h217:qB Y)(h424:JD Y)(a:aQ)(b:aQ)  (hp0:a.sm/\b.sm):dh Y Kx (.bool (Dn a b)) [aQ.D a,aQ.D b]:=by
 show bO _ _ _ [⟨_,_⟩,⟨_,_⟩,_,_,_] _;refine ai ?_;refine aH ?_;refine ak (hc:=h217 a hp0.1) ?_;refine av ?_;refine bK (hc:=fun hf=>h217 b hp0.2) ?_;refine aF ?_;refine bK (hc:=fun hf=>h424 a b hp0) ?_;refine aD ?_;exact bG rfl
noncomputable def DQ:ax:=b8 75
def w580 (h501:W7 Y)(l:List gC)(nm:aU)(v:aQ)  (hp0:(∀x∈l,x.r.v.sm)/\v.sm):dh Y DQ (.int .i64 (ow l nm v 0)) [.sl 11 (l.map gC.D),.str nm,aQ.D v]:=by
 show bO _ _ _ [⟨_,_⟩,⟨_,_⟩,⟨_,_⟩,_,_,_,_,_] _;refine ai ?_;refine bF ?_;refine a7 hm (ι:=Nat) (fun i=>[⟨true,.sl 11 (l.map gC.D)⟩,⟨true,.str nm⟩,.un,.un,⟨true,.int .i64 (i:Nat)⟩,.un,⟨true,.ptr 0 5 0 0⟩,.un]) (fun i=>[(0,.buf 5 [aQ.D v])]) 3 (fun i=>i<=l.length/\ow l nm v 0=ow l nm v i) (fun i=>l.length-i) 0 ⟨ah,rfl⟩ (du [(0,0)]) ?_;rintro i ⟨hi,hr⟩;refine aD ?_;intro u0;refine av ?_;refine cd (fun hc0=>?_) fun hc0=>?_
 .refine aD ?_;refine aV i ?_;refine av ?_;refine aW (v:=.str l[i]!.r.name) ?_;refine aD ?_;refine aV i ?_;refine av ?_;refine aW (v:=aQ.D l[i]!.r.v) ?_;refine aw ?_;refine bK (hc:=fun hf=>h501 l[i]!.r.v v ⟨hp0.1 _ (aq ah),hp0.2⟩) ?_;refine av ?_;refine ed (fun hc1=>?_) fun hc1=>?_
  .refine bF ?_;refine cq ?_;rw[hr,Nn ah (Qd hc1)]
  refine dj ?_;exact⟨i+1,⟨ah,by rw[hr,No ah (Up hc1)]⟩,ah,(du [(0,0)])⟩
 refine aH ?_;refine cq ?_;rw[hr,HF ah]
noncomputable def Kw:ax:=b8 74
def w358 (h75:C75 Y)(h216:EW Y)(h580:Ln Y)(s:cC)  (hp0:∀x∈s.es,eC x.r):dh Y Kw (.bool (jn s)) [cC.D s]:=by
 show bO _ _ _ [⟨_,_⟩,_,_,_,_,_,_,_,_,_] _;refine ai ?_;refine aH ?_;refine az (v:=.str s.name) ?_;refine ak (hc:=h216 _) ?_;refine ar ?_;refine az (v:=.sl 11 (s.es.map gC.D)) ?_;refine j6 ?_;refine ar ?_;refine bC (fun hc0=>?_) (fun hc0=>?_)
 .simp only[dW,cW,bU]at hc0;have hf:jn s=false:=by
   unfold jn;rcases hc0 with h|h
   .rw[h];rfl
   .rw[show decide (s.es.length<=64)=false from dx ah];simp
  refine aD ?_;refine bG ?_;exact hf.symm
 simp only[gA,dS,dn]at hc0;have hq:jn s=cF (qI s.es) 0 s.es.length:=by unfold jn;rw[hc0.1,cX (show s.es.length<=64 by omega)];simp
 refine aD ?_;refine a7 hm (ι:=Nat) (fun i=>[.un,.un,⟨true,.ptr 0 2 0 0⟩,.un,⟨true,.int .i64 (i:Nat)⟩,.un,.un,.un,.un,.un]) (fun i=>[(0,.buf 2 [cC.D s])]) 13 (fun i=>i<=s.es.length/\jn s=cF (qI s.es) i s.es.length) (fun i=>s.es.length-i) 0 ⟨ah,hq⟩ (du [(0,0)]) ?_;rintro i ⟨hi,hr⟩;refine aF ?_;refine az (v:=.sl 11 (s.es.map gC.D)) ?_;refine aw ?_;intro u0;refine av ?_;refine cd (fun hc1=>?_) fun hc1=>?_
 .refine ar ?_;have hsm:=hp0 _ (aq (show i<s.es.length by omega));refine aw ?_;refine az (v:=.sl 11 (s.es.map gC.D)) ?_;refine aw ?_;refine aV i ?_;refine aW (v:=gC.D s.es[i]!) ?_;refine aw ?_;refine bD (gC.D s.es[i]!) (he:=bm) ?_;refine ar ?_;refine az (v:=Rec.D s.es[i]!.r) ?_;refine ak (hc:=h75 s.es[i]!.r hsm) ?_;refine mF ?_;refine az (v:=.int .u64 s.es[i]!.sum) ?_;refine aF ?_;refine az (v:=.sl 11 (s.es.map gC.D)) ?_;refine av ?_;refine az (v:=.str s.es[i]!.r.name) ?_;refine av ?_;refine az (v:=aQ.D s.es[i]!.r.v) ?_;refine bK (hc:=fun hf=>h580 s.es s.es[i]!.r.name s.es[i]!.r.v ⟨fun x hx=>(hp0 x hx).1.2,hsm.1.2⟩) ?_;refine aF ?_;refine wp_cond (fun hc2=>?_) (fun hc2=>?_)
  .have hen:qI s.es i=false:=by
    simp only[dW,cW,bU,dn]at hc2;exact PY ah hc2
   refine aH ?_;refine bG ?_;rw[hr,aN ah,hen];rfl
  have hen:qI s.es i=true:=by
   simp only[gA,dS,bU,dn]at hc2;exact L4 ah hc2.1.1 hc2.1.2 hc2.2
  refine dj ?_;exact⟨i+1,⟨ah,by rw[hr,aN ah,hen];rfl⟩,ah,(du [(0,0)])⟩
 refine aH ?_;refine bG ?_;rw[hr,b7 ah]
noncomputable def C3:ax:=b8 4
def w89 {Y:Ctx}(hm:(Y.at 0).cj)(h29:C29 Y)(h264:Pc Y)(h265:R7 Y)    :dh Y C3 (.bool true) []:=by
 show bO _ _ _ [_,_,_,_,_,_,_,_] _;refine ai ?_;refine ar ?_;refine cJ [.int .i64 0,.int .i64 0,.int .i64 0,.str [],.str [],.int .i64 (-1),.bM,.bM] ?_;refine bY [.agg [.int .i64 0,.int .i64 0,.int .i64 0,.str [],.str [],.int .i64 (-1),.bM,.bM]] ?_;refine cJ [.str [],.str [],.own 2 8 0 1] ?_;refine bY [.agg [.str [],.str [],.own 2 8 0 1]] ?_;refine cJ [.own 4 3 0 1] ?_;refine aw ?_;refine bD (.agg [.own 4 3 0 1]) (he:=bm) ?_;refine aw ?_;refine sA [(2,.buf 8 [dA.D ⟨zV,-1,[],[]⟩]),(4,.buf 3 [.agg [.str [],.str [],.own 2 8 0 1]]),(6,.buf 1 [.agg [.own 4 3 0 1]])] (.bf ae (.cons (.ag (.cons (.refl _) (.cons (.refl _) (.cons (.refl _) (.cons (.refl _) (.cons (.refl _) (.cons (.refl _) (.cons (.nil 1) (.cons (.nil 3) .nil))))))))) .nil) (.id ae (.id ae .nil))) ?_;refine dd 2 ?_;refine dd 4 ?_;refine aw ?_;refine cJ [.str [],.str [],.str []] ?_;refine az (v:=bZ.D GZ) ?_;refine cJ [.str [],.str [],.str [],.bM] ?_;refine ak (hc:=h264 [] eZ GZ ⟨eZ,[]⟩ (G0 ⟨bj,(fun _ h=>by cases h),(fun i=>by unfold Env.at;split<;>decide)⟩)) ?_;refine aw ?_;refine mw (.sl _ _) ?_;refine aH ?_;rw[Zm];refine aw ?_;refine cJ [.str [],.str [],.str []] ?_;refine az (v:=bZ.D GZ) ?_;refine cJ [.str [],.str [],.str [],.bM] ?_;refine ak (hc:=h265 [] eZ GZ ⟨eZ,[]⟩ (G0 ⟨bj,(fun _ h=>by cases h),(fun i=>by unfold Env.at;split<;>decide)⟩)) ?_;refine aH ?_;rw[Zn];refine aw ?_;refine cJ [.str [],.str [],.str []] ?_;refine az (v:=bZ.D GZ) ?_;refine ak (hc:=h29 1) ?_;refine cJ [.str (sW 1).e0,.str (sW 1).e1,.str (sW 1).e2,.bM] ?_;refine ak (hc:=h265 [] eZ GZ ⟨sW 1,[]⟩ (G0 ⟨bj,(fun _ h=>by cases h),T7 1⟩)) ?_;refine aH ?_;rw[Zo];refine aw ?_;refine cJ [.str [],.str [],.str []] ?_;refine az (v:=bZ.D GZ) ?_;refine cJ [.str [97,110,116],.int .i64 0,.int .i64 0,.int .i64 0,.str [],.str [],.str [],.int .u64 0,.bM] ?_;refine bY [.agg [.str [97,110,116],.int .i64 0,.int .i64 0,.int .i64 0,.str [],.str [],.str [],.int .u64 0,.bM]] ?_;refine cJ [.str [],.str [],.str [],.own 41 9 0 1] ?_;refine ak (hc:=h265 [] eZ GZ ⟨eZ,[Zj]⟩ (G0 ⟨bj,(fun x hx=>by rw[bJ.1 hx];exact⟨⟨bj,bj⟩,bj,bj,bj,fun _ h=>by cases h⟩),(fun i=>by unfold Env.at;split<;>decide)⟩)) (hp:=fun _=>by repeat' first|exact trivial|exact rfl|refine And.intro ?_ ?_|(intro e he;obtain rfl:=bJ.1 he)|simp) ?_;refine aH ?_;rw[Zp];refine aD ?_;refine j6 ?_;refine aF ?_;refine aV 0 (hj:=fun _=>rfl) (hb:=fun _=>bj) ?_;refine aW (v:=.int .i64 0) (hi:=fun _=>bj) ?_;refine zzz21 ?_;refine bG ?_;decide
noncomputable def pB:ax:=b8 177
def w450 {Y:Ctx}(hm:(Y.at 3).cj)(ws:List aU)(t:aU)(m0:List (Nat×bL))(h242:Pa (Y.at 3))(h489:Sg (Y.at 3))(h664:Su (Y.at 3))(hp0:qo m0 0 t)(hp1:look m0 1=some (.buf 1 (ws.map D.str)))(hp2:AH ws t):bO (Y.at 3) pB.body (nC pB (fun d m=>d=.tup []/\look m 0=some (.bld (some 9) (t++cO ws).length true)/\look m 9=some (.row (t++cO ws))):Ex->List bI->St->Prop) (fC pB [.ptr 0 2 0 0,.own 1 1 0 ws.length]) ⟨3,m0⟩:=by
 show bO _ _ _ [⟨true,.ptr 0 2 0 0⟩,⟨true,.own 1 1 0 ws.length⟩] ⟨3,m0⟩;obtain⟨⟨q1,q2⟩,q3,q4⟩:=hp2;have hlt:t++cO ws=t++cL [32] ws++[10]:=by unfold cO;simp
 refine ai ?_;refine av ?_;refine ak (hc:=h242 ws [32] q2 bj q3) (ha:=fun _=>aC (fun d=>[d,D.str [32]]) (qc (q:=D.str) (fun _=>rfl) hp1)) (hp:=fun _=>⟨ny (q:=D.str) (fun _=>rfl) hp1,rfl,trivial⟩) ?_;refine dX (nx':=4) (v:=.any) (m':=oS m0 0 6 (t++cL [32] ws)) (hc:=fun K' hK=>h489 _ _ K' ⟨_,0,t,rfl,hp0,iV (by decide:0<3) (Nat.le_add_right _ _),q1,ah,hK⟩) (hn:=bj) ?_;refine ar ?_;refine dX (nx':=9) (v:=.any) (m':=oS (oS m0 0 6 (t++cL [32] ws)) 0 9 (t++cL [32] ws++[10])) (hc:=fun K' hK=>h664 _ _ K' ⟨10,0,t++cL [32] ws,rfl,PF bj,iV (by decide:0<8) (Nat.le_add_right _ _),bg,by rw[bS];exact q4,hK⟩) (hn:=bj) ?_;refine aw ?_

 refine eD trivial jv (dG ae (?_)) ae ⟨rfl,by rw[hlt];exact(tg bj).1,by rw[hlt];exact(tg bj).2⟩;rfl
end Go.Abs
