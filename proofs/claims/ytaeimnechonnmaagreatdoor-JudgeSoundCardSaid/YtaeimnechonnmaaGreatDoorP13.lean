/- A part of the proofs. -/
import Derived.Test.YtaeimnechonnmaaGreatDoorP07
set_option linter.all false
set_option maxRecDepth 4000
namespace Go.Abs
variable {Y:Ctx}(hm:(Y.at 0).cM)
def CE:aM:=⟨0,1,[⟨0,some (7,true)⟩],xo,(sq (r1 [gb 7 (.c (.agg [.int .i64 0,.int .i64 0,.int .i64 0,.int .i64 0,.str [],.str [],.bool false]))] 0 0) (sq (rg [gn (.build [.int .i64 0,.int .i64 0,.int .i64 0,.int .i64 0,.str [],.str [],.bool false] [(0,1,(.c (.int .i64 (-1))))]),gt 7 s0 l0] []) .ret))⟩
def w601 {Y:Ctx}(hm:(Y.at 0).cM)     :dR Y CE (Cut.D mW) []:=by
 show cq _ _ _ [_] _;refine aq ?_;refine aw ?_;refine bK (Cut.D (⟨(-1),⟨0,0,0,[],[]⟩,false⟩)) ?_;refine dm (Cut.D (⟨(-1),⟨0,0,0,[],[]⟩,false⟩)) (he:=bX) ?_;refine aC ?_;refine cP (?_);rfl
def Gp:aM:=⟨0,1,[⟨0,some (7,true)⟩],xo,(sq (r1 [gb 7 (.c (.agg [.int .i64 0,.int .i64 0,.int .i64 0,.int .i64 0,.str [],.str [],.bool false]))] 0 0) (sq (rg [gn (.build [.int .i64 0,.int .i64 0,.int .i64 0,.int .i64 0,.str [],.str [],.bool false] [(0,1,cO)]),gt 7 s0 l0] []) .ret))⟩
def w603 {Y:Ctx}(hm:(Y.at 0).cM)     :dR Y Gp (Cut.D qN) []:=by
 show cq _ _ _ [_] _;refine aq ?_;refine aw ?_;refine bK (Cut.D (⟨1,⟨0,0,0,[],[]⟩,false⟩)) ?_;refine dm (Cut.D (⟨1,⟨0,0,0,[],[]⟩,false⟩)) (he:=bX) ?_;refine aC ?_;refine cP (?_);rfl
def Gj:aM:=⟨1,3,[⟨1,some (5,true)⟩],oP,(sq (rg [gb 5 s0,gb 5 (.c (.agg [.int .i64 0,.int .i64 0,.int .i64 0,.str [],.str []]))] [(2,0),(1,1)]) (sq (rg [gf 4 s2,gt 1 l0 cse] []) (sq (rg [gk 5 true s2,gt 5 s1 l0] []) .ret)))⟩
def w599 {Y:Ctx}(hm:(Y.at 0).cM)  (v:bp)   :dR Y Gj (bp.D (jO v)) [bp.D v]:=by
 show cq _ _ _ [⟨_,_⟩,_,_] _;refine aq ?_;refine aH ?_;refine dm (bp.D ({v with build:=[]})) (he:=bX) ?_;refine aC ?_;refine bd (d:=bp.D ({v with build:=[]})) ?_;refine dm (bp.D ({v with build:=[]})) (he:=bX) ?_;refine aC ?_;refine cP (?_);rfl
def AN:aM:=⟨1,3,[⟨1,some (7,true)⟩],xo,(sq (rg [gb 5 s0,gb 7 (.c (.agg [.int .i64 0,.int .i64 0,.int .i64 0,.int .i64 0,.str [],.str [],.bool false]))] [(2,0),(1,1)]) (sq (rg [gk 5 true s2,gx 599 [l0] oP,gn (.build [.int .i64 0,.int .i64 0,.int .i64 0,.int .i64 0,.str [],.str [],.bool false] [(1,5,l1)]),gt 7 s1 l2] []) .ret))⟩
def w376 {Y:Ctx}(hm:(Y.at 0).cM)(h599:Ng Y)(v:bp)   :dR Y AN (Cut.D (lr v)) [bp.D v]:=by
 show cq _ _ _ [⟨_,_⟩,_,_] _;refine aq ?_;refine aT ?_;refine bd (d:=bp.D v) ?_;refine au (hc:=h599 (v)) ?_;refine bK (Cut.D (⟨0,(jO (v)),false⟩)) ?_;refine dm (Cut.D (⟨0,(jO (v)),false⟩)) (he:=bX) ?_;refine aC ?_;refine cP (?_);rfl
def AO:aM:=⟨1,3,[⟨1,some (7,true)⟩],xo,(sq (rg [gb 5 s0,gb 7 (.c (.agg [.int .i64 0,.int .i64 0,.int .i64 0,.int .i64 0,.str [],.str [],.bool false]))] [(2,0),(1,1)]) (sq (rg [gk 5 true s2,gx 599 [l0] oP,gn (.build [.int .i64 0,.int .i64 0,.int .i64 0,.int .i64 0,.str [],.str [],.bool false] [(1,5,l1),(6,1,py)]),gt 7 s1 l2] []) .ret))⟩
def w377 {Y:Ctx}(hm:(Y.at 0).cM)(h599:Ng Y)(v:bp)   :dR Y AO (Cut.D (tJ v)) [bp.D v]:=by
 show cq _ _ _ [⟨_,_⟩,_,_] _;refine aq ?_;refine aT ?_;refine bd (d:=bp.D v) ?_;refine au (hc:=h599 (v)) ?_;refine bK (Cut.D (⟨0,(jO (v)),true⟩)) ?_;refine dm (Cut.D (⟨0,(jO (v)),true⟩)) (he:=bX) ?_;refine aC ?_;refine cP (?_);rfl
def Gi:aM:=⟨2,11,[⟨2,some (5,true)⟩,⟨3,none⟩],[[.a,.a,.a,.a,.a],[.a]],(sq (rg [gb 5 s0,gb 5 (.c (.agg [.int .i64 0,.int .i64 0,.int .i64 0,.str [],.str []])),gm dK] [(4,0),(2,1),(3,2)]) (sq (sq (r1 [gk 5 true s4,gx 217 [l0] oP,nA l1,gm l2,gB 3 s1,dn 3 (jo l4 ch),gC l3 l5,gm l6,gB 7 s1,dn 7 (fE l8 zj),gC l7 l9] 5 10) (.cond s5 (sq (r1 [gn (.build [.int .i64 0,.int .i64 0,.int .i64 0,.str [],.str []] []),gt 5 s2 l0,gm dK] 3 2) .ret) .skip)) (sq (r1 [gb 5 (.c (.agg [.int .i64 0,.int .i64 0,.int .i64 0,.str [],.str []]))] 8 0) (sq (sq (r1 [gm s1] 6 0) (.block 0 (sq (r1 [cr s6 ch,gm l0] 7 1) (.cond s7 (rg [gf 0 s4,gd l0,aV l1 cO,gn (.build [.int .i64 0,.int .i64 0,.int .i64 0,.str [],.str []] [(0,1,l2)]),gt 5 s8 l3] []) (sq (r1 [cr s6 cO,gm l0] 9 1) (.cond s9 (rg [gf 0 s4,gd l0,gf 1 s4,gd l2,aV l3 cO,gn (.build [.int .i64 0,.int .i64 0,.int .i64 0,.str [],.str []] [(0,1,l1),(1,1,l4)]),gt 5 s8 l5] []) (rg [gf 0 s4,gd l0,gf 1 s4,gd l2,gf 2 s4,gd l4,aV l5 cO,gn (.build [.int .i64 0,.int .i64 0,.int .i64 0,.str [],.str []] [(0,1,l1),(1,1,l3),(2,1,l6)]),gt 5 s8 l7] []))))))) (sq (sq (r1 [gk 5 true s8,gx 217 [l0] oP,nA l1] 10 2) (.cond jf (sq (r1 [gn (.build [.int .i64 0,.int .i64 0,.int .i64 0,.str [],.str []] []),gt 5 s2 l0,gm dK] 3 2) .ret) .skip)) (sq (r1 [gk 5 true s8,gt 5 s2 l0,gm py] 3 2) .ret))))))⟩
def w769 {Y:Ctx}(hm:(Y.at 0).cM)(h217:yg Y)(v:bp)(p:Int)  (hp0:v.sm):dR Y Gi (.tup [bp.D (fT v p).1,.bool (fT v p).2]) [bp.D v,.int .i64 p]:=by
 show cq _ _ _ [⟨_,_⟩,⟨_,_⟩,_,_,_,_,_,_,_,_,_] _;refine aq ?_;refine bw ?_;refine bd (d:=bp.D v) ?_;refine au (hc:=h217 (v) ?_) ?_;rotate_left;first|assumption|omega|(grind [Cut.sm,Span.sm,bQ.sm,bW,aj,Want.sm,dJ.sm,bI.sm,bH.sm])
 refine j4 ?_;refine dk (fun hc0=>?_) fun hc0=>?_
 .refine aC ?_;refine bK (bp.D (⟨0,0,0,[],[]⟩)) ?_;refine dm (bp.D (⟨0,0,0,[],[]⟩)) (he:=bX) ?_;refine aw ?_;refine cP (er (b8 bp.D ?_) (b8 D.bool ?_));all_goals
   have hE:fT v p=(zV,false):=by
    unfold fT;rw[ax (by grind)]
   rw[hE];all_goals rfl
 refine aC ?_;have hbf:¬(j3 v=false\/p<0\/2<p):=by grind
 have hf:=JS (v:=v) (by grind);refine sX ?_;refine im (fun hc1=>?_) fun hc1=>?_
 .refine aC ?_;refine az (v:=.int .i64 v.major) ?_;refine av ?_;refine bK (bp.D (eR v p)) (hv:=fun _=>by rw[show eR v p=⟨v.major+1,0,0,[],[]⟩from by unfold eR;rw[ax hc1]];rfl) ?_;refine dm (bp.D (eR v p)) (he:=bX) ?_;refine aT ?_;have hbs:=qy v p;refine bd (d:=bp.D (eR v p)) ?_;refine au (hc:=h217 ((eR v p)) ?_) ?_;rotate_left;first|assumption|omega|(grind [Cut.sm,Span.sm,bQ.sm,bW,aj,Want.sm,dJ.sm,bI.sm,bH.sm])
  refine aC ?_;refine dk (fun hc3=>?_) fun hc3=>?_
  .refine aC ?_;refine bK (bp.D (⟨0,0,0,[],[]⟩)) ?_;refine dm (bp.D (⟨0,0,0,[],[]⟩)) (he:=bX) ?_;refine aw ?_;refine cP (er (b8 bp.D ?_) (b8 D.bool ?_));all_goals
    have hE:fT v p=(zV,false):=by
     unfold fT;rw[ai hbf,ax hc3]
    rw[hE];all_goals rfl
  refine aC ?_;refine bd (d:=bp.D (eR v p)) ?_;refine dm (bp.D (eR v p)) (he:=bX) ?_;refine aw ?_;refine cP (er (b8 bp.D ?_) (b8 D.bool ?_));all_goals
   have hE:fT v p=(eR v p,true):=by
    unfold fT;rw[ai hbf,ai (by simp[hc3])]
   rw[hE];all_goals rfl
 refine aT ?_;refine im (fun hc2=>?_) fun hc2=>?_
 .refine aC ?_;refine az (v:=.int .i64 v.major) ?_;refine av ?_;refine az (v:=.int .i64 v.minor) ?_;refine av ?_;refine bK (bp.D (eR v p)) (hv:=fun _=>by rw[show eR v p=⟨v.major,v.minor+1,0,[],[]⟩from by unfold eR;rw[ai hc1,ax hc2]];rfl) ?_;refine dm (bp.D (eR v p)) (he:=bX) ?_;refine aT ?_;have hbs:=qy v p;refine bd (d:=bp.D (eR v p)) ?_;refine au (hc:=h217 ((eR v p)) ?_) ?_;rotate_left;first|assumption|omega|(grind [Cut.sm,Span.sm,bQ.sm,bW,aj,Want.sm,dJ.sm,bI.sm,bH.sm])
  refine aC ?_;refine dk (fun hc3=>?_) fun hc3=>?_
  .refine aC ?_;refine bK (bp.D (⟨0,0,0,[],[]⟩)) ?_;refine dm (bp.D (⟨0,0,0,[],[]⟩)) (he:=bX) ?_;refine aw ?_;refine cP (er (b8 bp.D ?_) (b8 D.bool ?_));all_goals
    have hE:fT v p=(zV,false):=by
     unfold fT;rw[ai hbf,ax hc3]
    rw[hE];all_goals rfl
  refine aC ?_;refine bd (d:=bp.D (eR v p)) ?_;refine dm (bp.D (eR v p)) (he:=bX) ?_;refine aw ?_;refine cP (er (b8 bp.D ?_) (b8 D.bool ?_));all_goals
   have hE:fT v p=(eR v p,true):=by
    unfold fT;rw[ai hbf,ai (by simp[hc3])]
   rw[hE];all_goals rfl
 refine aC ?_;refine az (v:=.int .i64 v.major) ?_;refine av ?_;refine az (v:=.int .i64 v.minor) ?_;refine av ?_;refine az (v:=.int .i64 v.patch) ?_;refine av ?_;refine bK (bp.D (eR v p)) (hv:=fun _=>by rw[show eR v p=⟨v.major,v.minor,v.patch+1,[],[]⟩from by unfold eR;rw[ai hc1,ai hc2]];rfl) ?_;refine dm (bp.D (eR v p)) (he:=bX) ?_;refine aT ?_;have hbs:=qy v p;refine bd (d:=bp.D (eR v p)) ?_;refine au (hc:=h217 ((eR v p)) ?_) ?_;rotate_left;first|assumption|omega|(grind [Cut.sm,Span.sm,bQ.sm,bW,aj,Want.sm,dJ.sm,bI.sm,bH.sm])
 refine aC ?_;refine dk (fun hc3=>?_) fun hc3=>?_
 .refine aC ?_;refine bK (bp.D (⟨0,0,0,[],[]⟩)) ?_;refine dm (bp.D (⟨0,0,0,[],[]⟩)) (he:=bX) ?_;refine aw ?_;refine cP (er (b8 bp.D ?_) (b8 D.bool ?_));all_goals
   have hE:fT v p=(zV,false):=by
    unfold fT;rw[ai hbf,ax hc3]
   rw[hE];all_goals rfl
 refine aC ?_;refine bd (d:=bp.D (eR v p)) ?_;refine dm (bp.D (eR v p)) (he:=bX) ?_;refine aw ?_;refine cP (er (b8 bp.D ?_) (b8 D.bool ?_));all_goals
  have hE:fT v p=(eR v p,true):=by
   unfold fT;rw[ai hbf,ai (by simp[hc3])]
  rw[hE];all_goals rfl
def Gl:aM:=⟨1,11,[⟨1,some (5,true)⟩,⟨2,none⟩],[[.a,.a,.a,.a,.a],[.a]],(sq (rg [gb 5 s0,gb 5 (.c (.agg [.int .i64 0,.int .i64 0,.int .i64 0,.str [],.str []])),gm dK] [(3,0),(1,1),(2,2)]) (sq (sq (r1 [gk 5 true s3,gx 217 [l0] oP,nA l1] 4 2) (.cond s4 (sq (r1 [gn (.build [.int .i64 0,.int .i64 0,.int .i64 0,.str [],.str []] []),gt 5 s1 l0,gm dK] 2 2) .ret) .skip)) (sq (sq (r1 [gf 3 s3,gd l0,dT l1 cse] 5 2) (.cond s5 (sq (r1 [gf 0 s3,gd l0,gf 1 s3,gd l2,gf 2 s3,gd l4,gn (.build [.int .i64 0,.int .i64 0,.int .i64 0,.str [],.str []] [(0,1,l1),(1,1,l3),(2,1,l5)]),gt 5 s1 l6,gm py] 2 8) .ret) .skip)) (sq (sq (r1 [gm zj] 6 0) (.block 0 (.loop (sq (sq (r1 [gm s6,lP l0 ch] 7 1) (fR s7 0)) (sq (.block 1 (sq (rg [gk 5 true s3,gm s6,gx 769 [l0,l1] [[.a,.a,.a,.a,.a],[.a]],gm l2,ge l3 0,ge l3 1,gb 5 (.c (.agg [.int .i64 0,.int .i64 0,.int .i64 0,.str [],.str []])),gt 5 l6 l4,gm l5] [(10,6),(8,8)]) (sq (r1 [gm s8] 9 0) (.cond s9 (sq (r1 [gk 5 true jf,gt 5 s1 l0,gm py] 2 2) .ret) .skip)))) (r1 [gm s6,fw l0 cO,gm l1] 6 2)))))) (sq (r1 [gn (.build [.int .i64 0,.int .i64 0,.int .i64 0,.str [],.str []] []),gt 5 s1 l0,gm dK] 2 2) .ret)))))⟩
def w602 (h217:yg Y)(h769:P2 Y)(v:bp)  (hp0:v.sm):dR Y Gl (.tup [bp.D (iI v).1,.bool (iI v).2]) [bp.D v]:=by
 show cq _ _ _ [⟨_,_⟩,_,_,_,_,_,_,_,_,_,_] _;refine aq ?_;refine bw ?_;refine bd (d:=bp.D v) ?_;refine au (hc:=h217 (v) ?_) ?_;rotate_left;first|assumption|omega|(grind [Cut.sm,Span.sm,bQ.sm,bW,aj,Want.sm,dJ.sm,bI.sm,bH.sm])
 refine aC ?_;refine dk (fun hc0=>?_) fun hc0=>?_
 .refine aC ?_;refine bK (bp.D (⟨0,0,0,[],[]⟩)) ?_;refine dm (bp.D (⟨0,0,0,[],[]⟩)) (he:=bX) ?_;refine aw ?_;refine cP (er (b8 bp.D ?_) (b8 D.bool ?_));all_goals
   have hE:iI v=(zV,false):=by
    unfold iI;rw[ax hc0]
   rw[hE];all_goals rfl
 refine aT ?_;refine az (v:=.str v.pre) ?_;refine aC ?_;refine dk (fun hc1=>?_) fun hc1=>?_
 .refine aw ?_;refine az (v:=.int .i64 v.major) ?_;refine av ?_;refine az (v:=.int .i64 v.minor) ?_;refine av ?_;refine az (v:=.int .i64 v.patch) ?_;refine bK (bp.D (nD v)) ?_;refine dm (bp.D (nD v)) (he:=bX) ?_;refine aw ?_;refine cP (er (b8 bp.D ?_) (b8 D.bool ?_));all_goals
   have hE:iI v=(nD v,true):=by
    unfold iI;rw[ai (by simp[hc0]),ax (by simpa using hc1)]
   rw[hE];all_goals rfl
 refine aH ?_;refine bJ hm (ι:=Int) (fun n=>[.un,⟨true,.ptr 1 5 0 0⟩,.un,⟨true,.ptr 0 5 0 0⟩,.un,.un,⟨true,.int .i64 n⟩,.un,.un,.un,.un]) (fun n=>[(0,.buf 5 [bp.D v]),(1,.buf 5 [bp.D zV])]) 10 (fun n=>(-1<=n/\n<=2)/\iI v=vC v (n+1).toNat) (fun n=>(n+1).toNat) 2 ⟨ae,by unfold iI;rw[ai (by simp[hc0]),ai (by simpa using hc1)];rfl⟩ (fo [(0,0),(1,1)]) ?_;rintro n ⟨hn,hr⟩;refine aH ?_;refine dk (fun hc2=>?_) fun hc2=>?_
 .refine aw ?_;refine bd (d:=bp.D v) ?_;refine av ?_;refine au (hc:=h769 (v) (n) ?_) ?_;rotate_left;first|assumption|omega|(grind [Cut.sm,Span.sm,bQ.sm,bW,aj,Want.sm,dJ.sm,bI.sm,bH.sm])
  refine av ?_;refine gR (bp.D _) ?_;refine aC ?_;refine dm (bp.D ((fT (v) (n)).1)) (he:=bX) ?_;refine aH ?_;refine im (fun hc3=>?_) fun hc3=>?_
  .refine av ?_;refine bd (d:=bp.D ((fT (v) (n)).1)) ?_;refine dm (bp.D ((fT (v) (n)).1)) (he:=bX) ?_;refine aH ?_;refine cP (er (b8 bp.D ?_) (b8 D.bool ?_));all_goals
    have hE:iI v=((fT v n).1,true):=by
     rw[hr,show(n+1).toNat=n.toNat+1 by omega,vC,show((n.toNat:Nat):Int)=n by omega,ax hc3]
    rw[hE];all_goals rfl
  refine iO ?_;exact⟨(n-1),⟨ae,by rw[hr,show(n+1).toNat=n.toNat+1 by omega,vC,show((n.toNat:Nat):Int)=n by omega,ai (by simp[hc3]),show n-1+1=n by omega]⟩,ae,(fo [(0,0),(1,1)])⟩
 refine aw ?_;refine bK (bp.D (⟨0,0,0,[],[]⟩)) ?_;refine dm (bp.D (⟨0,0,0,[],[]⟩)) (he:=bX) ?_;refine aw ?_;refine cP (er (b8 bp.D ?_) (b8 D.bool ?_));all_goals
  have hE:iI v=(zV,false):=by
   rw[hr,show(n+1).toNat=0 by omega];rfl
  rw[hE];all_goals rfl
def Gr:aM:=⟨0,1,[⟨0,some (2,true)⟩],[[.sl 14 [.a,.a,.a,.a,.a,.a,.a,.a,.a,.a,.a,.a,.a,.a],.sl 14 [.a,.a,.a,.a,.a,.a,.a,.a,.a,.a,.a,.a,.a,.a]]],(sq (r1 [gb 2 (.c (.agg [.aG,.aG]))] 0 0) (sq (rg [gn (.build [.aG,.aG] []),gt 2 s0 l0] []) .ret))⟩
def w375 {Y:Ctx}(hm:(Y.at 0).cM)     :dR Y Gr (bQ.D vE) []:=by
 show cq _ _ _ [_] _;refine aq ?_;refine aw ?_;refine dI _ ?_;refine aw ?_;refine cP (?_);rfl
def CL:aM:=⟨0,1,[⟨0,none⟩],[[.sl 14 [.a,.a,.a,.a,.a,.a,.a,.a,.a,.a,.a,.a,.a,.a]]],(sq (r1 [gm (.c (.aG))] 0 0) (sq (r1 [gx 601 [] [],gx 603 [] [],gn (.build [.int .i64 0,.int .i64 0,.int .i64 0,.int .i64 0,.str [],.str [],.bool false,.int .i64 0,.int .i64 0,.int .i64 0,.int .i64 0,.str [],.str [],.bool false] [(0,7,l0),(7,7,l1)]),gn (.bsl 14 (.agg [.int .i64 0,.int .i64 0,.int .i64 0,.int .i64 0,.str [],.str [],.bool false,.int .i64 0,.int .i64 0,.int .i64 0,.int .i64 0,.str [],.str [],.bool false]) 1 [(0,l2)]),gm l3] 0 4) .ret))⟩
def w598 {Y:Ctx}(hm:(Y.at 0).cM)(h601:Kv Y)(h603:Kw Y)    :dR Y CL (.sl 14 (qm.map Span.D)) []:=by
 show cq _ _ _ [_] _;refine aq ?_;refine aw ?_;refine au (hc:=h601) ?_;refine au (hc:=h603) ?_;refine bK (Span.D ⟨mW,qN⟩) ?_;refine cH (qm.map Span.D) ?_;refine aC ?_;refine cu 4 ?_;refine av ?_;refine cP (?_);rfl
def Jn:aM:=⟨0,1,[⟨0,some (2,true)⟩],[[.sl 14 [.a,.a,.a,.a,.a,.a,.a,.a,.a,.a,.a,.a,.a,.a],.sl 14 [.a,.a,.a,.a,.a,.a,.a,.a,.a,.a,.a,.a,.a,.a]]],(sq (r1 [gb 2 (.c (.agg [.aG,.aG]))] 0 0) (sq (rg [gx 598 [] [],gx 598 [] [],gn (.build [.aG,.aG] [(0,1,l0),(1,1,l1)]),gt 2 s0 l2] []) .ret))⟩
def w374 {Y:Ctx}(hm:(Y.at 0).cM)(h598:PH Y)    :dR Y Jn (bQ.D wN) []:=by
 show cq _ _ _ [_] _;refine aq ?_;refine aw ?_;refine au (hc:=h598) ?_;refine au (hc:=h598) ?_;refine bK (bQ.D (⟨qm,qm⟩)) ?_;refine aw ?_;refine cP (?_);rfl
def CH:aM:=⟨1,4,[⟨1,some (7,true)⟩],xo,(sq (rg [gb 5 s0,gb 7 (.c (.agg [.int .i64 0,.int .i64 0,.int .i64 0,.int .i64 0,.str [],.str [],.bool false]))] [(2,0),(1,1)]) (sq (sq (r1 [gk 5 true s2,gx 600 [l0] oP] 3 1) (.cond s3 (sq (rg [gx 601 [] [],gt 7 s1 l0] []) .ret) .skip)) (sq (rg [gf 0 s2,gd l0,gf 1 s2,gd l2,gf 2 s2,gd l4,gn (.build [.int .i64 0,.int .i64 0,.int .i64 0,.str [],.str []] [(0,1,l1),(1,1,l3),(2,1,l5)]),gx 376 [l6] oP,gt 7 s1 l7] []) .ret)))⟩
def w378 {Y:Ctx}(hm:(Y.at 0).cM)(h376:Ko Y)(h600:Nh Y)(h601:Kv Y)(v:bp)   :dR Y CH (Cut.D (nP v)) [bp.D v]:=by
 show cq _ _ _ [⟨_,_⟩,_,_,_] _;refine aq ?_;refine aH ?_;refine bd (d:=bp.D v) ?_;refine au (hc:=h600 (v)) ?_;refine av ?_;refine dk (fun hc0=>?_) fun hc0=>?_
 .refine aC ?_;refine au (hc:=h601) ?_;refine dm (Cut.D mW) (he:=bX) ?_;refine aC ?_;refine cP (?_);unfold nP;rw[ax hc0];rfl
 refine aw ?_;refine az (v:=.int .i64 v.major) ?_;refine av ?_;refine az (v:=.int .i64 v.minor) ?_;refine av ?_;refine az (v:=.int .i64 v.patch) ?_;refine bK (bp.D (nD v)) ?_;refine au (hc:=h376 ((nD v))) ?_;refine dm (Cut.D ((lr ((nD v))))) (he:=bX) ?_;refine aC ?_;refine cP (?_);unfold nP;rw[ai (by simp[hc0])];rfl
def AP:aM:=⟨1,6,[⟨1,some (7,true)⟩],xo,(sq (rg [gb 5 s0,gb 7 (.c (.agg [.int .i64 0,.int .i64 0,.int .i64 0,.int .i64 0,.str [],.str [],.bool false]))] [(2,0),(1,1)]) (sq (rg [gf 0 s2,gd l0,gf 1 s2,gd l2,gf 2 s2,gd l4,gn (.build [.int .i64 0,.int .i64 0,.int .i64 0,.str [],.str []] [(0,1,l1),(1,1,l3),(2,1,l5)]),gx 602 [l6] oP,gm l7,ge l8 0,ge l8 1,gb 5 (.c (.agg [.int .i64 0,.int .i64 0,.int .i64 0,.str [],.str []])),gt 5 ib l9,gm l10] [(5,11),(3,13)]) (sq (sq (r1 [gm s3,nA l0] 4 1) (.cond s4 (sq (rg [gx 603 [] [],gt 7 s1 l0] []) .ret) .skip)) (sq (rg [gk 5 true s5,gx 376 [l0] oP,gt 7 s1 l1] []) .ret))))⟩
def w379 {Y:Ctx}(hm:(Y.at 0).cM)(h376:Ko Y)(h602:PI Y)(h603:Kw Y)(v:bp)   :dR Y AP (Cut.D (zH v)) [bp.D v]:=by
 show cq _ _ _ [⟨_,_⟩,_,_,_,_,_] _;refine aq ?_;refine aT ?_;have hrv:=y8 v;refine av ?_;refine az (v:=.int .i64 v.major) ?_;refine av ?_;refine az (v:=.int .i64 v.minor) ?_;refine av ?_;refine az (v:=.int .i64 v.patch) ?_;refine bK (bp.D (nD v)) ?_;refine au (hc:=h602 ((nD v)) ?_) ?_;rotate_left;first|assumption|omega|(grind [Cut.sm,Span.sm,bQ.sm,bW,aj,Want.sm,dJ.sm,bI.sm,bH.sm])
 refine av ?_;refine gR (bp.D _) ?_;refine aC ?_;refine dm (bp.D ((iI ((nD v))).1)) (he:=bX) ?_;refine cU ?_;refine dk (fun hc0=>?_) fun hc0=>?_
 .refine aC ?_;refine au (hc:=h603) ?_;refine dm (Cut.D qN) (he:=bX) ?_;refine aC ?_;refine cP (?_);unfold zH;rw[ax (by simpa using hc0)];rfl
 refine aC ?_;refine bd (d:=bp.D ((iI ((nD v))).1)) ?_;refine au (hc:=h376 ((iI ((nD v))).1)) ?_;refine dm (Cut.D ((lr ((iI ((nD v))).1)))) (he:=bX) ?_;refine aC ?_;refine cP (?_);unfold zH;rw[ai (by simpa using hc0)];rfl
def CG:aM:=⟨1,5,[⟨1,some (2,true)⟩],[[.sl 14 [.a,.a,.a,.a,.a,.a,.a,.a,.a,.a,.a,.a,.a,.a],.sl 14 [.a,.a,.a,.a,.a,.a,.a,.a,.a,.a,.a,.a,.a,.a]]],(sq (rg [gb 5 s0,gb 2 (.c (.agg [.aG,.aG]))] [(2,0),(1,1)]) (sq (sq (r1 [gk 5 true s2,gx 217 [l0] oP,nA l1] 3 2) (.cond s3 (sq (rg [gx 375 [] [],gt 2 s1 l0] []) .ret) .skip)) (sq (sq (r1 [gf 3 s2,gd l0,dT l1 cse] 4 2) (.cond s4 (sq (rt [gk 5 true s2,gx 376 [l0] oP,gk 5 true s2,gx 377 [l2] oP,gn (.build [.int .i64 0,.int .i64 0,.int .i64 0,.int .i64 0,.str [],.str [],.bool false,.int .i64 0,.int .i64 0,.int .i64 0,.int .i64 0,.str [],.str [],.bool false] [(0,7,l1),(7,7,l3)]),gn (.bsl 14 (.agg [.int .i64 0,.int .i64 0,.int .i64 0,.int .i64 0,.str [],.str [],.bool false,.int .i64 0,.int .i64 0,.int .i64 0,.int .i64 0,.str [],.str [],.bool false]) 1 [(0,l4)]),gn (.build [.aG,.aG] [(1,1,l5)]),gt 2 s1 l6] []) .ret) .skip)) (sq (rt [gk 5 true s2,gx 378 [l0] oP,gk 5 true s2,gx 379 [l2] oP,gn (.build [.int .i64 0,.int .i64 0,.int .i64 0,.int .i64 0,.str [],.str [],.bool false,.int .i64 0,.int .i64 0,.int .i64 0,.int .i64 0,.str [],.str [],.bool false] [(0,7,l1),(7,7,l3)]),gn (.bsl 14 (.agg [.int .i64 0,.int .i64 0,.int .i64 0,.int .i64 0,.str [],.str [],.bool false,.int .i64 0,.int .i64 0,.int .i64 0,.int .i64 0,.str [],.str [],.bool false]) 1 [(0,l4)]),gn (.build [.aG,.aG] [(0,1,l5)]),gt 2 s1 l6] []) .ret))))⟩
def w156 {Y:Ctx}(hm:(Y.at 0).cM)(h217:yg Y)(h375:G3 Y)(h376:Ko Y)(h377:Pq Y)(h378:Pr Y)(h379:Ps Y)(v:bp)  (hp0:v.sm):dR Y CG (bQ.D (bY v)) [bp.D v]:=by
 show cq _ _ _ [⟨_,_⟩,_,_,_,_] _;refine aq ?_;refine aH ?_;refine bd (d:=bp.D v) ?_;refine au (hc:=h217 (v) ?_) ?_;rotate_left;first|assumption|omega|(grind [Cut.sm,Span.sm,bQ.sm,bW,aj,Want.sm,dJ.sm,bI.sm,bH.sm])
 refine aC ?_;refine dk (fun hc0=>?_) fun hc0=>?_
 .refine aC ?_;refine au (hc:=h375) ?_;refine aw ?_;refine cP (?_);unfold bY;rw[ax hc0];rfl
 refine aT ?_;refine az (v:=.str v.pre) ?_;refine aC ?_;refine dk (fun hc1=>?_) fun hc1=>?_
 .refine aC ?_;refine bd (d:=bp.D v) ?_;refine au (hc:=h376 (v)) ?_;refine bd (d:=bp.D v) ?_;refine au (hc:=h377 (v)) ?_;refine bK (Span.D ⟨lr v,tJ v⟩) ?_;refine cH [(Span.D _)] ?_;refine dI _ ?_;refine aC ?_;refine cu 13 ?_;refine av ?_;refine cP (?_);unfold bY;rw[ai (by simp[hc0]),ax (by simpa using hc1)];rfl
 refine aC ?_;refine bd (d:=bp.D v) ?_;refine au (hc:=h378 (v)) ?_;refine bd (d:=bp.D v) ?_;refine au (hc:=h379 (v)) ?_;refine bK (Span.D ⟨nP v,zH v⟩) ?_;refine cH [(Span.D _)] ?_;refine dI _ ?_;refine aC ?_;refine cu 13 ?_;refine av ?_;refine cP (?_);unfold bY;rw[ai (by simp[hc0]),ai (by simpa using hc1)];rfl
def zX:aM:=⟨2,10,[⟨2,none⟩],[[.sl 1 [.a]]],(sq (r1 [gm (.c (.aG))] 2 0) (sq (r1 [gm (.c (.aG))] 8 0) (sq (r1 [gm ch] 9 0) (sq (sq (rg [gm s0,K5 l0,gm ch] [(4,1),(3,2)]) (.block 0 (.loop (sq (r1 [aS s3 s4] 5 0) (sq (fR s5 0) (sq (.block 1 (sq (r1 [gm s3,gm l0] 6 1) (sq (r1 [gm s0,gm s6,N1 l0 l1,gm s1,cr l2 l3] 7 4) (.cond s7 (sq (r1 [gm s8,gm s0,gm s9,gm s6,gn (.slS l1 (some l2) (some l3)),gn (.bsl 1 (.str []) 1 [(0,l4)]),gn (.app 1 l0 l5),gm l6] 8 7) (r1 [gm s6,aV l0 cO,gm l1] 9 2)) .skip)))) (r1 [aV s3 cO,gm l0] 3 1))))))) (sq (r1 [gm s8,gm s0,gm s9,gn (.slS l1 (some l2) none),gn (.bsl 1 (.str []) 1 [(0,l3)]),gn (.app 1 l0 l4),gm l5] 2 6) .ret)))))⟩
def w533  (s:dF)(b:Int)  (hp0:s.length<=1048576):dR Y zX (.sl 1 ((bM s b).map D.str)) [.str s,.int .u8 b]:=by
 show cq _ _ _ [⟨_,_⟩,⟨_,_⟩,_,_,_,_,_,_,_,_] _;refine aq ?_;refine lF ?_;intro u0;refine aC ?_;refine bJ hm (ι:=(Nat×Nat×List dF)) (fun p:Nat×Nat×List dF=>[⟨true,.str s⟩,⟨true,.int .u8 b⟩,.un,⟨true,.int .i64 (p.1:Nat)⟩,⟨true,.int .i64 (s.length:Nat)⟩,.un,.un,.un,⟨true,.own 0 1 0 p.2.2.length⟩,⟨true,.int .i64 (p.2.1:Nat)⟩]) (fun p=>[(0,.buf 1 (p.2.2.map D.str))]) 6 (fun p=>p.1<=s.length/\p.2.1<=p.1/\p.2.2.length<=p.1/\bM s b=p.2.2++iE b (s.drop p.1) ((s.take p.1).drop p.2.1)) (fun p=>s.length-p.1) (0,0,[]) ⟨bz,bz,bz,rfl⟩ (aU.to [] ah ah (by repeat(first|exact aN.nil|refine aN.un ?_|refine aN.eq ah ?_|refine aN.nl ah ah ?_|refine aN.ni (Or.inr ⟨0,1,0,rfl⟩) ?_)) (by repeat(first|exact aK.nil|refine aK.mt ah ah ah ah ?_))) ?_;rintro⟨i,fr,acc⟩ ⟨hi,hf,ha,hr⟩;dsimp only at hi hf ha hr⊢;refine aw ?_;refine dk (fun hc0=>?_) fun hc0=>?_
 .refine Fl ?_;refine wp_cond (fun hc1=>?_) (fun hc1=>?_)
  .try simp only[qt]at hc1
   refine aH ?_;refine AG _ _ ?_;refine cH [(.str _)] ?_;refine MU ?_;exact⟨(i+1,i+1,acc++[(s.take i).drop fr]),⟨e8,e8,eB,by rw[hr,xT ae hc1];simp⟩,e8,(aU.to [(20,0)] ah ah Lz (by refine aK.nl 20 ah ah ah cF ?_;exact aK.nil))⟩
  simp only[dc]at hc1;refine cU ?_;exact⟨(i+1,fr,acc),⟨e8,e8,e8,by rw[hr,xU ae ae hc1]⟩,e8,(aU.to [(0,0)] ah ah Lz (by refine aK.nl 0 ah ah ah cF ?_;exact aK.nil))⟩
 refine bw ?_;refine AH _ ?_;refine cH [(.str _)] ?_;refine aw ?_;refine cu 12 ?_;refine av ?_;refine cP (?_);have hs:bM s b=acc++[s.drop fr]:=by rw[hr,v8 ae]
 rw[hs];exact rfl
def tz:aM:=⟨1,7,nr,dN,(sq (r1 [gm dK] 1 0) (sq (sq (rg [gm s0,K5 l0,gm ch] [(3,1),(2,2)]) (.block 0 (.loop (sq (r1 [aS s2 s3] 4 0) (sq (fR s4 0) (sq (.block 1 (sq (r1 [gm s2,gm l0] 5 1) (sq (r1 [gm s0,gm s5,N1 l0 l1,aS l2 (i8 48),gm l3,gB 4 s0,gB 4 s5,dn 4 (.ixS l5 l6),dn 4 (fE l7 (i8 57)),gC l4 l8] 6 9) (BT s6 dK)))) (r1 [aV s2 cO,gm l0] 2 1))))))) (sq (r1 [gm s0,dT l0 cse,gm l1] 1 2) .ret)))⟩
def w659  (t:dF)   :dR Y tz (.bool (cI t)) [.str t]:=by
 show cq _ _ _ [⟨_,_⟩,_,_,_,_,_,_] _;refine aq ?_;refine bw ?_;intro u0;refine aC ?_;refine bJ hm (ι:=Nat) (fun i=>[⟨true,.str t⟩,.un,⟨true,.int .i64 (i:Nat)⟩,⟨true,.int .i64 (t.length:Nat)⟩,.un,.un,.un]) (fun i=>[]) 4 (fun i=>i<=t.length/\dd (fun i=>dj (at8 t i)) 0 t.length=dd (fun i=>dj (at8 t i)) i t.length) (fun i=>t.length-i) 0 ⟨ae,rfl⟩ (fo []) ?_;rintro i ⟨hi,hr⟩;refine aw ?_;refine dk (fun hc0=>?_) fun hc0=>?_
 .refine Sp ?_;refine im (fun hc1=>?_) fun hc1=>?_
  .refine bw ?_;refine cg ?_;simp only[cI];rw[hr,bD ae];rcases hc1 with h|h<;>simp[dj]<;>omega
  refine cU ?_;exact⟨i+1,⟨ae,by rw[hr,bD ae];rw[show dj (at8 t i)=true by simp only[dj,br,bC];omega];rfl⟩,ae,(fo [])⟩
 refine iO ?_;refine cg ?_;simp only[cI];rw[hr,dr ae];cases t<;>simp
def zf:aM:=⟨1,2,nr,dN,(sq (r1 [gm dK] 1 0) (sq (r1 [gm s0,lP l0 ch,gm l1,gmt 2 s0,cN 2 (zF l3 (i6 9999)),gX l2 l4,gm l5] 1 6) .ret))⟩
def w440 {Y:Ctx}(hm:(Y.at 0).cM)  (n:Int)   :dR Y zf (.bool (BP n)) [.int .i64 n]:=by
 show cq _ _ _ [⟨_,_⟩,_] _;refine aq ?_;refine lF ?_;exact cg rfl
def zg:aM:=⟨1,15,nr,dN,(sq (r1 [gm dK] 1 0) (sq (r1 [gm s0,gx 533 [l0,(i8 46)] lg,gm l1] 2 2) (sq (r1 [gm s2,gl l0,Cd l1 N5,gm l2] 14 3) (sq .skip (sq (sq (rg [gm s2,gl l0,gm ch] [(6,0),(4,1),(3,2)]) (.block 0 (.loop (sq (r1 [aS s3 s4] 5 0) (sq (fR s5 0) (sq (.block 1 (sq (r1 [ga 1 s6 s3,gd l0,gm l1] 7 2) (sq (sq (r1 [gm s7,cr l0 cse,gm l1,gB 2 s7,dn 2 (.lenS l3),dn 2 (fE l4 ic8),gC l2 l5] 8 6) (.cond s8 (sq (r1 [gm dK] 14 0) (.exit 0)) .skip)) (sq (r1 [gm s7,gn (.rng l0)] 9 1) (.block 2 (.loop (sq (rg [gn (.bR s9),ge l0 0] [(11,0),(10,1)]) (sq (fR jf 2) (.block 3 (sq (r1 [ge pj 2,gm l0] 12 1) (sq (r1 [gm mz,aS l0 (i3 97),gm l1,gB 2 mz,dn 2 (fE l3 (i3 122)),gC l2 l4,gm l5,gmt 6 mz,cN 6 (jo l7 (i3 48)),gmt 6 l8,gB 9 mz,dn 9 (fE l10 (i3 57)),Rv 6 l9 ib,gX l6 iP,gm jL,gmt 14 mz,cN 14 (mc mG (i3 45)),gX kR oS] 13 17) (.cond tW (sq (r1 [gm dK] 14 0) (.exit 0)) .skip)))))))))))) (r1 [aV s3 cO,gm l0] 3 1))))))) (sq (r1 [gm zl,gm l0] 1 1) .ret))))))⟩
def w442 (h533:Ku Y)(s:dF)  (hp0:s.length<=1048576):dR Y zg (.bool (mC s false)) [.str s]:=by
 show cq _ _ _ [⟨_,_⟩,_,_,_,_,_,_,_,_,_,_,_,_,_,_] _;refine aq ?_;refine aT ?_;refine au (hc:=h533 _ _ ?_) ?_;rotate_left;first|assumption|omega;have hlen:=qi s 46
 refine aH ?_;intro u0;refine iO ?_;intro u1;refine aC ?_;refine bJ hm (ι:=Nat) (fun i=>[.un,.un,⟨true,.sl 1 ((bM s 46).map D.str)⟩,⟨true,.int .i64 (i:Nat)⟩,⟨true,.int .i64 ((bM s 46).length:Nat)⟩,.un,⟨true,.sl 1 ((bM s 46).map D.str)⟩,.un,.un,.un,.un,.un,.un,.un,⟨true,.bool (decide (((bM s 46).length:Int)<=4))⟩]) (fun i=>[]) 11 (fun i=>i<=(bM s 46).length/\mC s false=(decide ((bM s 46).length<=4)&&dd (fun i=>gG false (bM s 46)[i]!) i (bM s 46).length)) (fun i=>(bM s 46).length-i) 0 ⟨ae,rfl⟩ (fo []) ?_;rintro i ⟨hi,hr⟩;refine aw ?_;refine dk (fun hc0=>?_) fun hc0=>?_
 .refine jl ?_;generalize ht:(bM s 46)[i]! =t;refine aT ?_;refine lY ?_;refine aw ?_;refine dk (fun hc1=>?_) fun hc1=>?_
  .refine lF ?_;refine cg ?_;first
    |(rw[hr,dr ae,eM];exact wH.2 ae)
    |(have hb:pk t=false:=by
       first
       |(simp only[pk];rcases hc1 with h|h
         .subst h;simp
         .rw[df (by omega:¬t.length<=8)];simp)
       |(have hz:kH (at8 t j)=false:=by
          rcases hcw with⟨_,h,_⟩|⟨_,h⟩<;>(simp only[kH,B6,dj,ig,fD,dc];omega)
         rw[hj,bD hnx,hz];rfl)
      rw[hr,bD ae,show gG false (bM s 46)[i]! =false from(by simp only[gG,ht,hb,Bool.false_and])];simp)
  refine aH ?_;have hT:pk t=dd (fun i=>kH (at8 t i)) 0 t.length:=by
   have:=List.length_pos_iff.2 hc1.1;simp only[pk];rw[cB ae,cB ae];rfl
  refine pc hm (ι:=Nat) (fun j=>[.un,.un,⟨true,.sl 1 ((bM s 46).map D.str)⟩,⟨true,.int .i64 (i:Nat)⟩,⟨true,.int .i64 ((bM s 46).length:Nat)⟩,.un,⟨true,.sl 1 ((bM s 46).map D.str)⟩,.un,.un,⟨true,.it 23⟩,.un,.un,.un,.un,⟨true,.bool (decide (((bM s 46).length:Int)<=4))⟩]) (fun j=>[(23,.iter t j)]) 24 (fun j=>j<=t.length/\pk t=dd (fun i=>kH (at8 t i)) j t.length) (fun j=>t.length-j) 0 ⟨ae,hT⟩ (fo [(23,23)]) ?_;rintro j ⟨hj0,hj⟩;refine av ?_;by_cases hnx:j<t.length
  .obtain⟨c,w,hdec,hw,hcw⟩:=zO t j hnx;refine I6 c w (hp:=hnx) (hc:=hdec) ?_;refine aC ?_;refine bA (t:=true) (fun _=>?_) (fun h=>by cases h);refine Sr ?_;refine im (fun hc3=>?_) fun hc3=>?_
   .refine Fl ?_;refine cg ?_;first
     |(rw[hr,dr ae,eM];exact wH.2 ae)
     |(have hb:pk t=false:=by
        first
        |(simp only[pk];rcases hc1 with h|h
          .subst h;simp
          .rw[df (by omega:¬t.length<=8)];simp)
        |(have hz:kH (at8 t j)=false:=by
           rcases hcw with⟨_,h,_⟩|⟨_,h⟩<;>(simp only[kH,B6,dj,ig,fD,dc];omega)
          rw[hj,bD hnx,hz];rfl)
       rw[hr,bD ae,show gG false (bM s 46)[i]! =false from(by simp only[gG,ht,hb,Bool.false_and])];simp)
   refine aw ?_;obtain⟨rfl,hat,-⟩:w=1/\(c:Int)=at8 t j/\c<128:=by
    rcases hcw with h|h
    .exact h
    .omega
   have hz:kH (at8 t j)=true:=by
    simp only[kH,B6,dj,dZ,br,bC];omega
   exact⟨j+1,⟨ae,by rw[hj,bD hnx,hz];rfl⟩,ae,(fo [(23,23)])⟩
  .refine I5 (hp:=hnx) ?_;refine aC ?_;refine bA (t:=false) (fun h=>by cases h) (fun _=>?_);refine iO ?_;exact⟨i+1,⟨ae,by rw[hr,bD ae];rw[show gG false (bM s 46)[i]! =true from(by simp only[gG,Bool.false_and,Bool.not_false,eM];rw[ht,hj,dr ae])];rfl⟩,ae,(fo [])⟩
 refine cU ?_;refine cg ?_;first
  |(rw[hr,dr ae,eM];exact wH.2 ae)
  |(have hb:pk t=false:=by
     first
     |(simp only[pk];rcases hc1 with h|h
       .subst h;simp
       .rw[df (by omega:¬t.length<=8)];simp)
     |(have hz:kH (at8 t j)=false:=by
        rcases hcw with⟨_,h,_⟩|⟨_,h⟩<;>(simp only[kH,B6,dj,ig,fD,dc];omega)
       rw[hj,bD hnx,hz];rfl)
    rw[hr,bD ae,show gG false (bM s 46)[i]! =false from(by simp only[gG,ht,hb,Bool.false_and])];simp)
def AM:aM:=⟨2,7,[⟨2,none⟩],[[.sl 2 [.a,.a]]],(sq (rg [gb 1 s0,gm (.c (.aG))] [(6,0),(2,1)]) (sq (r1 [gm (.c (.aG))] 5 0) (sq (sq (r1 [gm ch] 3 0) (.block 0 (.loop (sq (sq (r1 [gm s3,gm s1,gl l1,aS l0 l2] 4 3) (fR s4 0)) (sq (.block 1 (r2 [gm s5,gm s1,gm s3,ga 3 l1 l2,gf 0 l3,gd l4,gk 1 true s6,gm s1,gm s3,ga 3 l7 l8,gk 3 true l9,gx 415 [l6,l10] [[.sl 3 [.a,.a,.sl 8 [.a,.a,.a,.a,.a,.a,.sl 1 [.sl 3 [.a,.a]],.sl 3 [.a,.a,.a]]]],[.a,.sl 14 [.a,.a,.a,.a,.a,.a,.a,.a,.a,.a,.a,.a,.a,.a],.sl 14 [.a,.a,.a,.a,.a,.a,.a,.a,.a,.a,.a,.a,.a,.a]]],gn (.build [.int .i64 0,.int .i64 0] [(0,1,l5),(1,1,ib)]),gn (.bsl 2 (.agg [.int .i64 0,.int .i64 0]) 1 [(0,iP)]),gn (.app 2 l0 jL),gm kR] 5 15)) (r1 [gm s3,aV l0 cO,gm l1] 3 2)))))) (sq (r1 [gm s5,gm l0] 2 1) .ret))))⟩
def w183 (h415:M7 Y)(w:bH)(l:List Want)  (hp0:w.sm/\(∀x∈l,x.sm)/\l.length<=1000):dR Y AM (.sl 2 ((eL w.us l).map bB.D)) [bH.D w,.sl 3 (l.map Want.D)]:=by
 show cq _ _ _ [⟨_,_⟩,⟨_,_⟩,_,_,_,_,_] _;refine aq ?_;refine j4 ?_;refine bJ hm (ι:=Nat) (fun i=>[.un,⟨true,.sl 3 ((l).map Want.D)⟩,.un,⟨true,.int .i64 (i:Nat)⟩,.un,⟨true,.own 0 2 0 (eL w.us (l.take i)).length⟩,⟨true,.ptr 1 1 0 0⟩]) (fun i=>[(0,.buf 2 ((eL w.us (l.take i)).map bB.D)),(1,.buf 1 [bH.D w])]) 4 (fun i=>i<=l.length) (fun i=>l.length-i) 0 ae (aU.to [(0,1)] ah ah (by repeat(first|exact aN.nil|refine aN.un ?_|refine aN.eq ah ?_|refine aN.nl ah ah ?_|refine aN.ni (Or.inr ⟨_,_,_,rfl⟩) ?_)) (by repeat(first|exact aK.nil|refine aK.gH ah ah cF ?_|refine aK.eF ah ah ah ?_|refine aK.qo ah ah ah ah ?_|refine aK.nl 0 ah ah ah ah ?_|refine aK.mt ah ah ah ah ?_))) ?_;intro i hi;have hwl:=GK w.us l i;refine aH ?_;intro u0;refine aC ?_;refine dk (fun hc0=>?_) fun hc0=>?_
 .refine bw ?_;refine bn (i) (hj:=fun hf=>by first|omega|(simp at hf;omega)) (hb:=fun hf=>by first|omega|(simp at hf;omega)) ?_;refine av ?_;refine bj (v:=.int .i64 (l)[i]!.u) (hi:=fun hf=>by first|omega|(simp at hf;omega)) ?_;refine bd (d:=bH.D w) ?_;refine aC ?_;refine bn (i) (hj:=fun hf=>by first|omega|(simp at hf;omega)) (hb:=fun hf=>by first|omega|(simp at hf;omega)) ?_;refine bj (v:=Want.D ((l)[i]!)) (hi:=fun hf=>by first|omega|(simp at hf;omega)) ?_;refine au (hc:=h415 (w) ((l)[i]!) ?_) ?_;rotate_left;first|assumption|omega|exact⟨hp0.1,hp0.2.1 _ (aj ae)⟩
  refine bK (bB.D ⟨l[i]!.u,eP w.us l[i]!⟩) ?_;refine cH [bB.D ⟨l[i]!.u,eP w.us l[i]!⟩] ?_;refine ee (q:=bB.D) (xs:=(eL w.us (l.take i))) (e:=⟨l[i]!.u,eP w.us l[i]!⟩) (hb:=ae) ?_;refine aH ?_;refine aL (hb:=fun hf=>by first|omega|(simp at hf;omega)) ?_;refine aw ?_;rw[GJ ae];exact⟨i+1,ae,ae,(aU.to [(22,0),(1,1)] ah ah (by repeat(first|exact aN.nil|refine aN.un ?_|refine aN.eq ah ?_|refine aN.nl ah ah ?_|refine aN.ni (Or.inr ⟨_,_,_,rfl⟩) ?_)) (by refine aK.nl 22 ah ah ah cF ?_;refine jI ?_;exact aK.nil))⟩
 refine aC ?_;obtain rfl:i=l.length:=ae;rw[List.take_length];refine cu 0 ?_;refine aH ?_;refine cP (?_);rfl
def AL:aM:=⟨2,4,[⟨2,none⟩],dN,(sq (rg [gb 2 s1,gm dK] [(3,0),(2,1)]) (sq (r2 [gm s0,gf 0 s3,gd l1,ga 1 l0 l2,gd l3,lP l4 ch,gm l5,gw 6 1 s3,j6 6 l7,gmt 6 s0,gw 6 0 s3,j6 6 l10,cN 6 (.ia 1 l9 ib),j6 6 iP,cN 6 (.cvi .u64 jL),cN 6 (.bin .shl zj kR),cN 6 (Hs l8 mG),cN 6 (mc oS ch),gX l6 rQ,gm uX] 2 19) .ret))⟩
def w416 {Y:Ctx}(hm:(Y.at 0).cM)  (c:List Int)(x:bB)  (hp0:uu c x):dR Y AL (.bool (sL c x)) [.sl 1 (c.map (D.int .i64)),bB.D x]:=by
 show cq _ _ _ [⟨_,_⟩,⟨_,_⟩,_,_] _;refine aq ?_;refine aT ?_;obtain⟨j,hj⟩:∃j:Nat,x.u=(j:Int):=⟨x.u.toNat,by have:=hp0.1;omega⟩
 obtain⟨hjl,hj30⟩:=hp0;rw[hj,Int.toNat_natCast]at hj30;refine aC ?_;refine az (v:=.int .i64 x.u) ?_;refine bn j (hj:=fun _=>ae) (hb:=fun _=>ae) ?_;refine bj (v:=.int .i64 c[j]!) (hi:=fun hf=>by first|omega|(simp at hf;omega)) ?_;refine aw ?_;refine az (v:=.int .i64 x.m) ?_;refine aC ?_;refine az (v:=.int .i64 x.u) ?_;refine bn j (hj:=fun _=>ae) (hb:=fun _=>ae) ?_;refine bj (v:=.int .i64 c[j]!) (hi:=fun hf=>by first|omega|(simp at hf;omega)) ?_;refine xI (c[j]!) (hb:=fun hf=>by have hf:0<=c[j]! :=(by simpa only[ik,beq_iff_eq,bC]using hf);rw[IntKind.wrap_u64];omega) ?_;refine vS (2^(c[j]!.toNat+1)) (hn:=fun hf=>by have hf:0<=c[j]! :=(by simpa only[ik,beq_iff_eq,bC]using hf);omega) (hb:=fun hf=>by have hf:0<=c[j]! :=(by simpa only[ik,beq_iff_eq,bC]using hf);exact A4 (n:=c[j]!.toNat) ae ae) ?_;refine gQ (il x.m (2^(c[j]!.toNat+1))) (hb:=fun _=>rfl) ?_;refine aH ?_;refine cg ?_;unfold sL;rw[hj,Int.toNat_natCast];simp
def CA:aM:=⟨2,6,[⟨2,none⟩],dN,(sq (r1 [gm dK] 2 0) (sq (sq (r1 [gm ch] 3 0) (.block 0 (.loop (sq (sq (r1 [gm s3,gm s1,gl l1,aS l0 l2] 4 3) (fR s4 0)) (sq (.block 1 (sq (r1 [gm s0,gm s1,gm s3,ga 2 l1 l2,gk 2 true l3,gx 416 [l0,l4] [[.sl 1 [.a]],[.a,.a]]] 5 5) (.cond s5 (sq (r1 [gm py] 2 0) .ret) .skip))) (r1 [gm s3,aV l0 cO,gm l1] 3 2)))))) (sq (r1 [gm dK] 2 0) .ret)))⟩
def w184 (h416:Pv Y)(c:List Int)(l:List bB)  (hp0:∀x∈l,uu c x):dR Y CA (.bool (lz c l)) [.sl 1 (c.map (D.int .i64)),.sl 2 (l.map bB.D)]:=by
 show cq _ _ _ [⟨_,_⟩,⟨_,_⟩,_,_,_,_] _;refine aq ?_;refine bw ?_;refine bJ hm (ι:=Nat) (fun i=>[⟨true,.sl 1 ((c).map (D.int .i64))⟩,⟨true,.sl 2 ((l).map bB.D)⟩,.un,⟨true,.int .i64 (i:Nat)⟩,.un,.un]) (fun i=>[]) 2 (fun i=>i<=l.length/\lz c l=qq (fun i=>sL c l[i]!) i l.length) (fun i=>l.length-i) 0 ⟨ae,rfl⟩ (fo []) ?_;rintro i ⟨hi,hr⟩;refine aH ?_;intro u0;refine aC ?_;refine dk (fun hc0=>?_) fun hc0=>?_
 .refine bw ?_;refine bn (i) (hj:=fun hf=>by first|omega|(simp at hf;omega)) (hb:=fun hf=>by first|omega|(simp at hf;omega)) ?_;refine bj (v:=bB.D ((l)[i]!)) (hi:=fun hf=>by first|omega|(simp at hf;omega)) ?_;refine au (hc:=h416 (c) ((l)[i]!) ?_) ?_;rotate_left;first|assumption|omega|exact hp0 _ (aj ae)
  refine av ?_;refine im (fun hc1=>?_) fun hc1=>?_
  .refine bw ?_;refine cg ?_;rw[hr,lq ae];simp only[hc1,Bool.true_or]
  refine aT ?_;refine aL (hb:=fun hf=>by first|omega|(simp at hf;omega)) ?_;refine aw ?_;exact⟨i+1,⟨ae,by rw[hr,lq ae];simp only[hc1,Bool.false_or]⟩,ae,(fo [])⟩
 refine bw ?_;refine cg ?_;rw[hr,tF ae]
def yD:aM:=⟨1,10,[⟨1,none⟩,⟨2,none⟩],lg,(sq (rg [gm ch,gm dK] [(1,0),(2,1)]) (sq (sq (r1 [gm s0,cr l0 cse,gm l1,gB 2 s0,dn 2 (.lenS l3),dn 2 (fE l4 N5),gC l2 l5,gm l6,gB 7 s0,dn 7 (.ixS l8 ch),dn 7 (fS l9 (i8 48)),gB 7 l10,gmt 11 s0,cN 11 (.lenS iP),cN 11 (fE jL cO),BS 7 ib kR,gC l7 mG] 3 16) (.cond s3 (sq (rg [gm ch,gm dK] [(1,0),(2,1)]) .ret) .skip)) (sq (r1 [gm ch] 9 0) (sq (sq (r1 [gm s0,gn (.rng l0)] 4 1) (.block 0 (.loop (sq (rg [gn (.bR s4),ge l0 0] [(6,0),(5,1)]) (sq (fR s5 0) (.block 1 (sq (r1 [ge s6 2,gm l0] 7 1) (.block 2 (sq (r1 [gm s7,lP l0 (i3 48),gm l1,gmt 2 s7,cN 2 (zF l3 (i3 57)),gX l2 l4,gm l5] 8 6) (.cond s8 (r1 [gm s9,gn (.bin .mul (i6 10) l0),gm s7,fw l2 (i3 48),gn (.cvi .i64 l3),aV l1 l4,gm l5] 9 6) (sq (rg [gm ch,gm dK] [(1,0),(2,1)]) .ret))))))))))) (sq (rg [gm s9,gm s9,Cd l1 (i6 9999),gm l0,gm l2] [(1,3),(2,4)]) .ret)))))⟩
def w658  (s:dF)   :dR Y yD (.tup [.int .i64 (tq s),.bool (kf s)]) [.str s]:=by
 show cq _ _ _ [⟨_,_⟩,_,_,_,_,_,_,_,_,_] _;refine aq ?_;refine jl ?_;refine lY ?_;refine aT ?_;refine I0 0 (hb:=fun h=>by simp at h;exact List.length_pos_iff.2 h.1) ?_;refine aw ?_;refine lY ?_;refine aT ?_;refine dk (fun hc0=>?_) fun hc0=>?_
 .refine bw ?_;refine cP (er (b8 (D.int .i64) ?_) (b8 D.bool ?_));all_goals
   have:kf s=false:=by
    rw[Iv];rcases hc0 with(h|h)|h
    .subst h;simp
    .rw[df (by omega:¬s.length<=4)];simp
    .rw[cB (by omega:1<s.length),cB h.1];simp
   simp[tq,this]
 refine jl ?_;have h0:=List.length_pos_iff.2 hc0.1.1;have hP:kf s=dd (fun i=>dj (at8 s i)) 0 s.length:=by
  rw[Iv,cB (by omega:1<=s.length),cB (by omega:s.length<=4)];rcases hc0.2 with h|h
  .rw[df h,Bool.and_false];rfl
  .rw[df (by omega:¬1<s.length)];rfl
 refine bJ hm (ι:=Nat) (fun i=>[⟨true,.str s⟩,.un,.un,.un,⟨true,.it 21⟩,.un,.un,.un,.un,⟨true,.int .i64 (ey (s.take i):Nat)⟩]) (fun i=>[(21,.iter s i)]) 22 (fun i=>i<=s.length/\s.length<=4/\kf s=dd (fun i=>dj (at8 s i)) i s.length) (fun i=>s.length-i) 0 ⟨ae,ae,hP⟩ (fo [(21,21)]) ?_;rintro i ⟨hi,h9,hr⟩;refine av ?_;by_cases hnx:i<s.length
 .obtain⟨c,w,hdec,hw,hcw⟩:=zO s i hnx;refine I6 c w (hp:=hnx) (hc:=hdec) ?_;refine aC ?_;refine bA (t:=true) (fun _=>?_) (fun h=>by cases h);refine So ?_;refine im (fun hc2=>?_) fun hc2=>?_
  .refine av ?_;obtain⟨rfl,hat,-⟩:w=1/\(c:Int)=at8 s i/\c<128:=by
    rcases hcw with h|h
    .exact h
    .omega
   have hn:=qS s i ae;have hn2:=sN s i ae;have h256:=Hr s i;refine av ?_;refine tV ?_;refine av ?_;refine Ja ((c:Int) -48) (hb:=fun _=>IntWalk.i32_in _ ae) ?_;refine xI ((c:Int) -48) (hb:=fun _=>IntWalk.i64_in _ ae) ?_;refine aw ?_;rw[show 10*(ey (s.take i):Int)+((c:Int) -48)=(ey (s.take (i+1)):Nat)by omega];refine aw ?_;have hz:dj (at8 s i)=true:=by
    simp only[dj,br,bC];omega
   exact⟨i+1,⟨ae,h9,by rw[hr,bD ae,hz];rfl⟩,ae,(fo [(21,21)])⟩
  refine iO ?_;refine cP (er (b8 (D.int .i64) ?_) (b8 D.bool ?_));all_goals
   have hz:dj (at8 s i)=false:=by
    rcases hcw with⟨_,h,_⟩|⟨_,h⟩<;>(simp only[dj,fD,dc];omega)
   have:kf s=false:=by rw[hr,bD ae,hz];rfl
   simp[tq,this]
 .refine I5 (hp:=hnx) ?_;refine aC ?_;refine bA (t:=false) (fun h=>by cases h) (fun _=>?_);refine j4 ?_;refine cP (er (b8 (D.int .i64) ?_) (b8 D.bool ?_));all_goals
   have this:kf s=true:=by rw[hr,dr ae]
   have ht:s.take i=s:=eZ ae;have h9:=this;simp only[kf,br,bC]at h9;have h99:=h9.2;rw[ht];first
   |(simp only[tq,this];rfl)
   |(rw[this,bC];omega)
end Go.Abs
