/- A part of the proofs. -/
import Derived.Test.YtfijeeijkndliaaGreatDoorP07
set_option linter.all false
set_option maxRecDepth 60000
set_option maxHeartbeats 2000000
namespace Go.Abs
variable {Y:Ctx}(hm:(Y.at 0).cP)
noncomputable def mK:aN:=dy 137
def w473 {Y:Ctx}(hm:(Y.at 5).cP)(t:av)(nm:av)(v:dz)(N:List bo)(B:List fZ)(Z:List ct)(st:Nat)(h475:Yw (Y.at 5))(hp0:t.length<=1048576)(hp1:st=2->N≠[])(hp2:st=5->B≠[])(hp3:N.length<=1000000)(hp4:B.length<=1000000):cg (Y.at 5) mK.body (kJ mK (RdQ (rj ⟨⟨nm,v,N,B,Z⟩,st⟩ t)):Ex->List cA->St->Prop) (gz mK [.ptr 0 10 0 0,.str t]) ⟨5,[(0,.buf 10 [p8 nm v N.length B.length Z.length ((st:Nat):Int) 1 3 4]),(1,.buf 3 (fE 2 N)),(2,.buf 4 (pd N)),(3,.buf 3 (B.map fZ.D)),(4,.buf 2 (Z.map ct.D))]⟩:=by
 show cg _ _ _ [⟨true,.ptr 0 10 0 0⟩,⟨true,.str t⟩,.un,.un,.un,.un,.un,.un] ⟨5,[(0,.buf 10 [p8 nm v N.length B.length Z.length ((st:Nat):Int) 1 3 4]),(1,.buf 3 (fE 2 N)),(2,.buf 4 (pd N)),(3,.buf 3 (B.map fZ.D)),(4,.buf 2 (Z.map ct.D))]⟩;have hrl:=J6 t 1;have hrn:=Bu t 1;have hre:=F5 t 1;obtain⟨⟨l,u,ok⟩,hq⟩:∃q,iK t 1=q:=⟨_,rfl⟩
 rw[hq]at hrl hrn hre;dsimp only at hrl hrn hre;refine ay ?_;refine aK ?_;refine au (v:=.tup [.sl 1 (l.map D.str),.str u,.bool ok]) (hc:=by have:=h475 t 1 hp0 aG;rw[hq]at this;exact this) ?_;refine aE ?_;refine fJ (.sl _ _) ?_;refine jX ?_;refine wp_cond (fun hc0=>?_) (fun hc0=>?_)
 .simp only[bE]at hc0;have ho:rj ⟨⟨nm,v,N,B,Z⟩,st⟩ t=none:=by unfold rj;rw[hrl,hc0];rfl
  rw[ho];refine aU ?_;refine ch trivial eP (cn ah (ak D.bool ?_)) ah ⟨rfl,fun y hy=>by cases hy⟩;rfl
 simp only[cq]at hc0;have hw:rj ⟨⟨nm,v,N,B,Z⟩,st⟩ t=(if st=2 then some ⟨⟨nm,v,hZ N fun n=>⟨n.any,u,n.option⟩,B,Z⟩,3⟩else if st=5 then some ⟨⟨nm,v,N,hZ B fun b=>⟨b.name,b.range,u⟩,Z⟩,6⟩else none):=by
  unfold rj;rw[hrl,aC hc0]
 refine aK ?_;refine aV (v:=.int .i64 ((st:Nat):Int)) ?_;refine aF ?_;refine wp_cond (fun hc1=>?_) (fun hc1=>?_)
 .simp only[bh]at hc1;obtain rfl:st=2:=ae;obtain⟨N,n,rfl⟩:=wB (hp1 rfl);have hnl:(N++[n]).length=N.length+1:=aI;rw[aC rfl,fQ]at hw;rw[hw,iA,ko];refine aU ?_;refine aV (v:=.own 1 3 0 (N++[n]).length) ?_;refine aK ?_;refine aV (v:=.own 1 3 0 (N++[n]).length) ?_;refine gN ?_;refine aF ?_;refine kg N.length (hj:=fun _=>ae) (hb:=fun _=>ae) ?_;refine aE ?_;refine xd (es:=N.map bo.D++[mV 2 n]) (N.map bo.D++[mV 2 ⟨n.any,u,n.option⟩]) (hi:=aI) (he:=by rw[oR _ _ _ _ aI,sv _ _ _ _ aI];exact rfl) ?_;refine aD ?_;refine aR (p8 nm v (N++[n]).length B.length Z.length ((3:Nat):Int) 1 3 4) (he:=aW) ?_;refine aQ ?_;refine ch trivial eP (cn ah (ak D.bool ?_)) ah ⟨rfl,fun y hy=>by cases hy;exact⟨1,2,3,4,aG,⟨(by have e:(N++[(⟨n.any,u,n.option⟩:bo)]).length=(N++[n]).length:=aI;show _=some (cr.buf 10 [p8 nm v (N++[(⟨n.any,u,n.option⟩:bo)]).length B.length Z.length ((3:Nat):Int) 1 3 4]);rw[e];exact rfl),(by rw[iA];exact rfl),(by rw[ko];exact rfl),ah,ah⟩⟩⟩;rfl
 simp only[bC]at hc1;rw[ar (show ¬st=2 by omega)]at hw;refine aK ?_;refine aV (v:=.int .i64 ((st:Nat):Int)) ?_;refine aF ?_;refine wp_cond (fun hc2=>?_) (fun hc2=>?_)
 .simp only[bh]at hc2;obtain rfl:st=5:=ae;obtain⟨B,b,rfl⟩:=wB (hp2 rfl);have hbl:(B++[b]).length=B.length+1:=aI;rw[aC rfl,fQ]at hw;rw[hw];rw[List.map_append];refine aU ?_;refine aV (v:=.own 3 3 0 (B++[b]).length) ?_;refine aK ?_;refine aV (v:=.own 3 3 0 (B++[b]).length) ?_;refine gN ?_;refine aF ?_;refine kg B.length (hj:=fun _=>ae) (hb:=fun _=>ae) ?_;refine aE ?_;refine xd (es:=B.map fZ.D++[b].map fZ.D) (B.map fZ.D++[fZ.D ⟨b.name,b.range,u⟩]) (hi:=aI) (he:=by rw[List.map_cons,List.map_nil,oR _ _ _ _ aI,sv _ _ _ _ aI];exact rfl) ?_;refine aD ?_;refine aR (p8 nm v N.length (B++[b]).length Z.length ((6:Nat):Int) 1 3 4) (he:=aW) ?_;refine aQ ?_;refine ch trivial eP (cn ah (ak D.bool ?_)) ah ⟨rfl,fun y hy=>by cases hy;exact⟨1,2,3,4,aG,⟨(by have e:(B++[(⟨b.name,b.range,u⟩:fZ)]).length=(B++[b]).length:=aI;show _=some (cr.buf 10 [p8 nm v N.length (B++[(⟨b.name,b.range,u⟩:fZ)]).length Z.length ((6:Nat):Int) 1 3 4]);rw[e];exact rfl),ah,ah,(by rw[List.map_append];exact rfl),ah⟩⟩⟩;rfl
 simp only[bC]at hc2;rw[ar (show ¬st=5 by omega)]at hw;rw[hw];refine aQ ?_;refine ch trivial eP (cn ah (ak D.bool ?_)) ah ⟨rfl,fun y hy=>by cases hy⟩;rfl
noncomputable def kj:aN:=dy 140
def w476 {Y:Ctx}(hm:(Y.at 5).cP)(l:List av)(nm:av)(v:dz)(N:List bo)(B:List fZ)(Z:List ct)(st:Nat)(h474:C474 (Y.at 5))(hp0:l.length<=1048577)(hp1:Z.length<=1000000):cg (Y.at 5) kj.body (kJ kj (RdQ ((if 2<=l.length/\Bk l l.length=true then some (⟨⟨nm,v,N,B,Z++[⟨l[1]!,l.drop 2⟩]⟩,7⟩:j6)else none))):Ex->List cA->St->Prop) (gz kj [.ptr 0 10 0 0,.sl 1 (l.map D.str)]) ⟨5,[(0,.buf 10 [p8 nm v N.length B.length Z.length ((st:Nat):Int) 1 3 4]),(1,.buf 3 (fE 2 N)),(2,.buf 4 (pd N)),(3,.buf 3 (B.map fZ.D)),(4,.buf 2 (Z.map ct.D))]⟩:=by
 show cg _ _ _ [⟨true,.ptr 0 10 0 0⟩,⟨true,.sl 1 (l.map D.str)⟩,.un,.un,.un] ⟨5,[(0,.buf 10 [p8 nm v N.length B.length Z.length ((st:Nat):Int) 1 3 4]),(1,.buf 3 (fE 2 N)),(2,.buf 4 (pd N)),(3,.buf 3 (B.map fZ.D)),(4,.buf 2 (Z.map ct.D))]⟩;refine ay ?_;refine aQ ?_;intro u0;refine aK ?_;refine gN ?_;refine au (hc:=h474 l l.length) ?_;refine aF ?_;refine az (fun hc0=>?_) (fun hc0=>?_)
 .simp only[dw,bE,bh]at hc0;have ho:(if 2<=l.length/\Bk l l.length=true then some (⟨⟨nm,v,N,B,Z++[⟨l[1]!,l.drop 2⟩]⟩,7⟩:j6)else none)=none:=ar (by rintro⟨a,b⟩;rcases hc0 with h|h;omega;rw[b]at h;cases h);rw[ho];refine aU ?_;refine ch trivial eP (cn ah (ak D.bool ?_)) ah ⟨rfl,fun y hy=>by cases hy⟩;rfl
 simp only[dt,cq,bC]at hc0;have h2l:2<=l.length:=ae;have ho:(if 2<=l.length/\Bk l l.length=true then some (⟨⟨nm,v,N,B,Z++[⟨l[1]!,l.drop 2⟩]⟩,7⟩:j6)else none)=some (⟨⟨nm,v,N,B,Z++[⟨l[1]!,l.drop 2⟩]⟩,7⟩:j6):=aC ⟨h2l,hc0.2⟩;rw[ho];refine aF ?_;refine bz 1 (hb:=fun _=>ae) ?_;refine bp (v:=.str l[1]!) (hi:=fun _=>ae) ?_;refine bj (.agg [.str l[1]!,.bg]) ?_;refine aE ?_;refine aR (.agg [.str l[1]!,.bg]) (he:=aW) ?_;refine aF ?_;refine aV (v:=.bg) ?_;refine aE ?_;refine sk 2 (hb:=fun _=>ae) ?_;refine FQ (n:=(l.drop 2).length) (he:=vO.sl) (hn:=by rw[bB]) (hb:=by rw[kT];omega) ?_;refine aE ?_;refine aR (.agg [.str l[1]!,.own 26 1 0 (l.drop 2).length]) (he:=aW) ?_;refine aE ?_;refine e7 26 (he:=by simp only[j8,ig,ij,ku,kW,cM,Nat.reduceEqDiff,ba,aZ,cC,cj,cb,cH,cK,bI,bB,aH,bR,aL,reduceCtorEq,aM,aX,Nat.reduceAdd,Nat.reduceLeDiff,p8];exact rfl) (hm:=by simp only[j8,ig,ij,ku,kW,cM,Nat.reduceEqDiff,ba,aZ,cC,cj,cb,cH,cK,bI,bB,aH,bR,aL,reduceCtorEq,aM,aX,Nat.reduceAdd,Nat.reduceLeDiff,p8,Bd 26 _ _ aG,AS,xN,xO];exact rfl) ?_;refine bw ?_;refine aV (v:=.own 4 2 0 Z.length) ?_;refine cO (d:=ct.D ⟨l[1]!,l.drop 2⟩) ?_;refine dq [ct.D ⟨l[1]!,l.drop 2⟩] ?_;refine iG (q:=ct.D) (xs:=Z) (e:=⟨l[1]!,l.drop 2⟩) ?_;refine aF ?_;refine aR (p8 nm v N.length B.length (Z++[(⟨l[1]!,l.drop 2⟩:ct)]).length ((st:Nat):Int) 1 3 38) (he:=aW) ?_;refine aD ?_;refine aR (p8 nm v N.length B.length (Z++[(⟨l[1]!,l.drop 2⟩:ct)]).length ((7:Nat):Int) 1 3 38) (he:=aW) ?_;refine aU ?_;refine ch trivial eP (cn ah (ak D.bool ?_)) ah ⟨rfl,fun y hy=>by cases hy;exact⟨1,2,3,38,aG,⟨ah,ah,ah,ah,ah⟩⟩⟩;rfl
noncomputable def mI:aN:=dy 135
def w471 {Y:Ctx}(hm:(Y.at 5).cP)(l:List av)(nm:av)(v:dz)(N:List bo)(B:List fZ)(Z:List ct)(st:Nat)(h568:C568 (Y.at 5))(hp0:∀w∈l,w.length<=1048576):cg (Y.at 5) mI.body (kJ mI (RdQ (uD ⟨⟨nm,v,N,B,Z⟩,st⟩ l)):Ex->List cA->St->Prop) (gz mI [.ptr 0 10 0 0,.sl 1 (l.map D.str)]) ⟨5,[(0,.buf 10 [p8 nm v N.length B.length Z.length ((st:Nat):Int) 1 3 4]),(1,.buf 3 (fE 2 N)),(2,.buf 4 (pd N)),(3,.buf 3 (B.map fZ.D)),(4,.buf 2 (Z.map ct.D))]⟩:=by
 show cg _ _ _ [⟨true,.ptr 0 10 0 0⟩,⟨true,.sl 1 (l.map D.str)⟩,.un,.un,.un,.un] ⟨5,[(0,.buf 10 [p8 nm v N.length B.length Z.length ((st:Nat):Int) 1 3 4]),(1,.buf 3 (fE 2 N)),(2,.buf 4 (pd N)),(3,.buf 3 (B.map fZ.D)),(4,.buf 2 (Z.map ct.D))]⟩;refine ay ?_;refine aQ ?_;intro u0;refine aF ?_;refine bz 0 (hb:=fun hf=>by simp at hf;omega) ?_;refine bp (v:=.str l[0]!) (hi:=fun hf=>by simp at hf;omega) ?_;refine aK ?_;refine bz 1 (hb:=fun hf=>by simp at hf;omega) ?_;refine bp (v:=.str l[1]!) (hi:=fun hf=>by simp at hf;omega) ?_;refine aF ?_;refine az (fun hc0=>?_) (fun hc0=>?_)
 .simp only[dw,bE,bh,bC]at hc0;have ho:uD ⟨⟨nm,v,N,B,Z⟩,st⟩ l=none:=by
   unfold uD;rw[ar];rintro⟨⟨a,b⟩,c⟩;rcases hc0 with(h|h)|h
   .exact h ae
   .exact h b
   .exact c h
  rw[ho];refine aU ?_;refine ch trivial eP (cn ah (ak D.bool ?_)) ah ⟨rfl,fun y hy=>by cases hy⟩;rfl
 simp only[dt,cq,bh,bC]at hc0;obtain⟨⟨hl3,hl0⟩,hl1⟩:=hc0;obtain hl3:l.length=3:=ae;have hhx:uD ⟨⟨nm,v,N,B,Z⟩,st⟩ l=(match hH l[2]! with
  |some v=>some ⟨⟨l[1]!,v,N,B,Z⟩,1⟩
  |none=>none):=aC ⟨⟨hl3,hl0⟩,hl1⟩
 rw[hhx];refine aF ?_;refine bz 2 (hb:=fun _=>ae) ?_;refine bp (v:=.str l[2]!) (hi:=fun _=>ae) ?_;refine au (hc:=h568 l[2]! (hp0 _ (bL ae))) ?_;refine aE ?_;refine fJ (dz.D _) ?_;refine aD ?_;refine aR (dz.D ((hH l[2]!).getD hX)) (he:=aW) ?_;refine aD ?_;refine e7 28 (he:=by simp only[j8,ig,ij,ku,kW,cM,Nat.reduceEqDiff,ba,aZ,cC,cj,cb,cH,cK,bI,bB,aH,bR,aL,reduceCtorEq,aM,aX,Nat.reduceAdd,Nat.reduceLeDiff,p8,dz.D];exact rfl) (hm:=by simp only[j8,ig,ij,ku,kW,cM,Nat.reduceEqDiff,ba,aZ,cC,cj,cb,cH,cK,bI,bB,aH,bR,aL,reduceCtorEq,aM,aX,Nat.reduceAdd,Nat.reduceLeDiff,p8,dz.D,Bd 28 _ _ aG,AS,xN,xO];exact rfl) ?_;refine aU ?_;refine bz 1 (hb:=fun _=>ae) ?_;refine bp (v:=.str l[1]!) (hi:=fun _=>ae) ?_;refine JT (v:=dz.D ((hH l[2]!).getD hX)) ?_;refine aF ?_;refine aR (p8 l[1]! v N.length B.length Z.length ((st:Nat):Int) 1 3 4) (he:=aW) ?_;refine aF ?_;refine aR (p8 l[1]! ((hH l[2]!).getD hX) N.length B.length Z.length ((st:Nat):Int) 1 3 4) (he:=aW) ?_;refine aD ?_;refine aR (p8 l[1]! ((hH l[2]!).getD hX) N.length B.length Z.length ((1:Nat):Int) 1 3 4) (he:=aW) ?_;refine bw ?_;refine ch trivial eP (cn ah (ak D.bool ?_)) ah ⟨rfl,fun y hy=>by obtain⟨w,hv⟩:∃w,hH l[2]! =some w:=(by cases hv:hH l[2]! with|none=>rw[hv]at hy;cases hy|some w=>exact⟨w,rfl⟩);rw[hv]at hy;cases hy;exact⟨1,2,3,4,aG,⟨(by rw[hv];exact rfl),ah,ah,ah,ah⟩⟩⟩;rw[abW];cases hH l[2]! <;>rfl
noncomputable def Se:aN:=dy 93
def w349  (s:av)   :dX Y Se (.bool (dj s)) [.str s]:=by
 show cg _ _ _ [⟨_,_⟩,_,_,_,_,_,_,_] _;refine ay ?_;refine bW ?_;refine gN ?_;refine aF ?_;refine di (fun hc0=>?_) fun hc0=>?_
 .refine aU ?_;refine cd ?_;symm;simp only[dj,ef,bC];rcases hc0 with h|h
  .subst h;exact Or.inl (Or.inl aI)
  .exact Or.inl ae
 refine aQ ?_;have hP:dj s=c9 (fun i=>Da (at8 s i)) 0 s.length:=by
  have:=List.length_pos_iff.2 hc0.1;simp only[dj];rw[bY ae,bY ae];rfl
 refine br hm (ι:=Nat) (fun i=>[⟨true,.str s⟩,.un,.un,⟨true,.it 9⟩,.un,.un,.un,.un]) (fun i=>[(9,.iter s i)]) 10 (fun i=>i<=s.length/\dj s=c9 (fun i=>Da (at8 s i)) i s.length) (fun i=>s.length-i) 0 ⟨ae,hP⟩ (dQ [(9,9)]) ?_;rintro i ⟨hi,hr⟩;refine aE ?_;by_cases hnx:i<s.length
 .obtain⟨c,w,hdec,hw,hcw⟩:=yT s i hnx;refine JV c w (hp:=hnx) (hc:=hdec) ?_;refine aD ?_;refine az (t:=true) (fun _=>?_) (fun h=>by cases h);refine GM ?_;refine di (fun hc2=>?_) fun hc2=>?_
  .refine aE ?_;refine iI (fun hc4=>?_) fun hc4=>?_
   .refine aK ?_;obtain⟨rfl,hat,-⟩:w=1/\(c:Int)=at8 s i/\c<128:=by
     rcases hcw with h|h
     .exact h
     .omega
    have hz:Da (at8 s i)=true:=by
     simp only[Da,jq,bJ,dw,bM,bh];omega
    exact⟨i+1,⟨ae,by rw[hr,bc hnx,hz];rfl⟩,ae,(dQ [(9,9)])⟩
   refine bw ?_;refine cd ?_;first
    |(exfalso;omega)
    |(rw[hr,cL ae];done)
    |(
     have hz:Da (at8 s i)=false:=by
      rcases hcw with⟨_,h,_⟩|⟨_,h⟩<;>(simp only[Da,jq,bJ,dt,ef,bC];omega)
     rw[hr,bc hnx,hz];rfl)
  refine ja ?_;refine di (fun hc3=>?_) fun hc3=>?_
  .refine aE ?_;refine iI (fun hc4=>?_) fun hc4=>?_
   .refine aK ?_;obtain⟨rfl,hat,-⟩:w=1/\(c:Int)=at8 s i/\c<128:=by
     rcases hcw with h|h
     .exact h
     .omega
    have hz:Da (at8 s i)=true:=by
     simp only[Da,jq,bJ,dw,bM,bh];omega
    exact⟨i+1,⟨ae,by rw[hr,bc hnx,hz];rfl⟩,ae,(dQ [(9,9)])⟩
   refine bw ?_;refine cd ?_;first
    |(exfalso;omega)
    |(rw[hr,cL ae];done)
    |(
     have hz:Da (at8 s i)=false:=by
      rcases hcw with⟨_,h,_⟩|⟨_,h⟩<;>(simp only[Da,jq,bJ,dt,ef,bC];omega)
     rw[hr,bc hnx,hz];rfl)
  refine aU ?_;refine iI (fun hc4=>?_) fun hc4=>?_
  .refine aK ?_;obtain⟨rfl,hat,-⟩:w=1/\(c:Int)=at8 s i/\c<128:=by
    rcases hcw with h|h
    .exact h
    .omega
   have hz:Da (at8 s i)=true:=by
    simp only[Da,jq,bJ,dw,bM,bh];omega
   exact⟨i+1,⟨ae,by rw[hr,bc hnx,hz];rfl⟩,ae,(dQ [(9,9)])⟩
  refine bw ?_;refine cd ?_;first
   |(exfalso;omega)
   |(rw[hr,cL ae];done)
   |(
    have hz:Da (at8 s i)=false:=by
     rcases hcw with⟨_,h,_⟩|⟨_,h⟩<;>(simp only[Da,jq,bJ,dt,ef,bC];omega)
    rw[hr,bc hnx,hz];rfl)
 .refine JU (hp:=hnx) ?_;refine aD ?_;refine az (t:=false) (fun h=>by cases h) (fun _=>?_);refine aQ ?_;refine cd ?_;first
   |(exfalso;omega)
   |(rw[hr,cL ae];done)
   |(
    have hz:Da (at8 s i)=false:=by
     rcases hcw with⟨_,h,_⟩|⟨_,h⟩<;>(simp only[Da,jq,bJ,dt,ef,bC];omega)
    rw[hr,bc hnx,hz];rfl)
noncomputable def Sd:aN:=dy 24
def w208  (s:av)   :dX Y Sd (.bool (eV s)) [.str s]:=by
 show cg _ _ _ [⟨_,_⟩,_,_,_,_,_,_,_,_,_,_,_,_] _;refine ay ?_;refine bW ?_;refine gN ?_;refine aF ?_;refine di (fun hc0=>?_) fun hc0=>?_
 .refine aU ?_;refine cd ?_;symm;simp only[eV];rcases hc0 with h|h
  .subst h;simp
  .rw[cy (by omega:¬s.length<=16)];simp
 refine aQ ?_;have h0:=List.length_pos_iff.2 hc0.1;have hP:=adq s ae ae;refine br hm (ι:=Nat) (fun i=>[⟨true,.str s⟩,.un,.un,⟨true,.it 9⟩,.un,.un,.un,.un,.un,.un,.un,.un,.un]) (fun i=>[(9,.iter s i)]) 10 (fun i=>i<=s.length/\eV s=c9 (rC s) i s.length) (fun i=>s.length-i) 0 ⟨ae,hP⟩ (dQ [(9,9)]) ?_;rintro i ⟨hi,hr⟩;refine aE ?_;by_cases hnx:i<s.length
 .obtain⟨c,w,hdec,hw,hcw⟩:=yT s i hnx;refine JV c w (hp:=hnx) (hc:=hdec) ?_;refine aD ?_;refine az (t:=true) (fun _=>?_) (fun h=>by cases h);refine acf ?_;refine iI (fun hc2=>?_) fun hc2=>?_
  .refine aK ?_;obtain⟨rfl,hat,-⟩:w=1/\(c:Int)=at8 s i/\c<128:=by
    rcases hcw with h|h
    .exact h
    .omega
   have hz:rC s i=true:=by
    simp only[rC,jq,bJ,dw,bM,bE,bh,bC];omega
   exact⟨i+1,⟨ae,by rw[hr,bc hnx,hz];rfl⟩,ae,(dQ [(9,9)])⟩
  refine dJ ?_;refine iI (fun hc3=>?_) fun hc3=>?_
  .refine aK ?_;refine iI (fun hc4=>?_) fun hc4=>?_
   .refine bw ?_;refine cd ?_;first
     |(exfalso;omega)
     |(rw[hr,cL ae];done)
     |(have hz:rC s i=false:=by
        rcases hcw with⟨_,h,_⟩|⟨_,h⟩<;>(simp only[rC,jq,bJ,dt,ef,cq,bh,bC];omega)
       rw[hr,bc hnx,hz];rfl)
   refine aK ?_;obtain⟨rfl,hat,-⟩:w=1/\(c:Int)=at8 s i/\c<128:=by
    rcases hcw with h|h
    .exact h
    .omega
   have hz:rC s i=true:=by
    simp only[rC,jq,bJ,dw,bM,bE,bh,bC];omega
   exact⟨i+1,⟨ae,by rw[hr,bc hnx,hz];rfl⟩,ae,(dQ [(9,9)])⟩
  refine aU ?_;refine iI (fun hc5=>?_) fun hc5=>?_
  .refine aQ ?_;refine gN ?_;refine bw ?_;refine sj (i-1) ?_;refine aF ?_;refine iI (fun hc6=>?_) fun hc6=>?_
   .refine bw ?_;refine cd ?_;first
     |(exfalso;omega)
     |(rw[hr,cL ae];done)
     |(have hz:rC s i=false:=by
        rcases hcw with⟨_,h,_⟩|⟨_,h⟩<;>(simp only[rC,jq,bJ,dt,ef,cq,bh,bC];omega)
       rw[hr,bc hnx,hz];rfl)
   refine aK ?_;obtain⟨rfl,hat,-⟩:w=1/\(c:Int)=at8 s i/\c<128:=by
    rcases hcw with h|h
    .exact h
    .omega
   have hz:rC s i=true:=by
    simp only[rC,jq,bJ,dw,bM,bE,bh,bC];omega
   exact⟨i+1,⟨ae,by rw[hr,bc hnx,hz];rfl⟩,ae,(dQ [(9,9)])⟩
  refine bw ?_;refine cd ?_;first
   |(exfalso;omega)
   |(rw[hr,cL ae];done)
   |(have hz:rC s i=false:=by
      rcases hcw with⟨_,h,_⟩|⟨_,h⟩<;>(simp only[rC,jq,bJ,dt,ef,cq,bh,bC];omega)
     rw[hr,bc hnx,hz];rfl)
 .refine JU (hp:=hnx) ?_;refine aD ?_;refine az (t:=false) (fun h=>by cases h) (fun _=>?_);refine aQ ?_;refine cd ?_;first
   |(exfalso;omega)
   |(rw[hr,cL ae];done)
   |(have hz:rC s i=false:=by
      rcases hcw with⟨_,h,_⟩|⟨_,h⟩<;>(simp only[rC,jq,bJ,dt,ef,cq,bh,bC];omega)
     rw[hr,bc hnx,hz];rfl)
noncomputable def Jy:aN:=dy 150
def w658  (s:av)   :dX Y Jy (.tup [.int .i64 (fe s),.bool (gV s)]) [.str s]:=by
 show cg _ _ _ [⟨_,_⟩,_,_,_,_,_,_,_,_,_] _;refine ay ?_;refine dJ ?_;refine gN ?_;refine aK ?_;refine sj 0 (hb:=fun h=>by simp at h;exact List.length_pos_iff.2 h.1) ?_;refine aF ?_;refine gN ?_;refine aK ?_;refine di (fun hc0=>?_) fun hc0=>?_
 .refine aQ ?_;refine bT (aS (ak (D.int .i64) ?_) (ak D.bool ?_));all_goals
   have:gV s=false:=by
    rw[JG];rcases hc0 with(h|h)|h
    .subst h;simp
    .rw[cy (by omega:¬s.length<=4)];simp
    .rw[bY (by omega:1<s.length),bY h.1];simp
   simp[fe,this]
 refine dJ ?_;have h0:=List.length_pos_iff.2 hc0.1.1;have hP:gV s=c9 (fun i=>bJ (at8 s i)) 0 s.length:=by
  rw[JG,bY (by omega:1<=s.length),bY (by omega:s.length<=4)];rcases hc0.2 with h|h
  .rw[cy h,Bool.and_false];rfl
  .rw[cy (by omega:¬1<s.length)];rfl
 refine br hm (ι:=Nat) (fun i=>[⟨true,.str s⟩,.un,.un,.un,⟨true,.it 21⟩,.un,.un,.un,.un,⟨true,.int .i64 (ed (s.take i):Nat)⟩]) (fun i=>[(21,.iter s i)]) 22 (fun i=>i<=s.length/\s.length<=4/\gV s=c9 (fun i=>bJ (at8 s i)) i s.length) (fun i=>s.length-i) 0 ⟨ae,ae,hP⟩ (dQ [(21,21)]) ?_;rintro i ⟨hi,h9,hr⟩;refine aE ?_;by_cases hnx:i<s.length
 .obtain⟨c,w,hdec,hw,hcw⟩:=yT s i hnx;refine JV c w (hp:=hnx) (hc:=hdec) ?_;refine aD ?_;refine az (t:=true) (fun _=>?_) (fun h=>by cases h);refine GL ?_;refine iI (fun hc2=>?_) fun hc2=>?_
  .refine aE ?_;obtain⟨rfl,hat,-⟩:w=1/\(c:Int)=at8 s i/\c<128:=by
    rcases hcw with h|h
    .exact h
    .omega
   have hn:=zo s i ae;have hn2:=B0 s i ae;have h256:=Zw s i;refine aE ?_;refine C3 ?_;refine aE ?_;refine abl ((c:Int) -48) (hb:=fun _=>IntWalk.i32_in _ ae) ?_;refine B4 ((c:Int) -48) (hb:=fun _=>IntWalk.i64_in _ ae) ?_;refine aF ?_;rw[show 10*(ed (s.take i):Int)+((c:Int) -48)=(ed (s.take (i+1)):Nat)by omega];refine aF ?_;have hz:bJ (at8 s i)=true:=by
    simp only[bJ,bM,bh];omega
   exact⟨i+1,⟨ae,h9,by rw[hr,bc ae,hz];rfl⟩,ae,(dQ [(21,21)])⟩
  refine bW ?_;refine bT (aS (ak (D.int .i64) ?_) (ak D.bool ?_));all_goals
   have hz:bJ (at8 s i)=false:=by
    rcases hcw with⟨_,h,_⟩|⟨_,h⟩<;>(simp only[bJ,ef,bC];omega)
   have:gV s=false:=by rw[hr,bc ae,hz];rfl
   simp[fe,this]
 .refine JU (hp:=hnx) ?_;refine aD ?_;refine az (t:=false) (fun h=>by cases h) (fun _=>?_);refine ja ?_;refine bT (aS (ak (D.int .i64) ?_) (ak D.bool ?_));all_goals
   have this:gV s=true:=by rw[hr,cL ae]
   have ht:s.take i=s:=fq ae;have h9:=this;simp only[gV,bM,bh]at h9;have h99:=h9.2;rw[ht];first
   |(simp only[fe,this];rfl)
   |(rw[this,bh];omega)
noncomputable def M7:aN:=dy 25
def w495 (h124:KZ Y)(h682:YM Y)(h683:YN Y)(h684:N1 Y)(h685:YO Y)(h9124:K7 Y)(s:av)  (hp0:s.length<=1048576):dX Y M7 (.tup [iN (iS s).1,.int .i64 (iS s).2]) [.str s]:=by
 show cg _ _ _ [⟨_,_⟩,_,_,_,_,_,_,_,_,_,_,_,_,_,_,_,_,_,_,_,_,_] _;have hdl:=qL s [];have hgl:∀i,i<(aT s []).length->(aT s [])[i]!.length<=s.length:=fun i hi=>by
  have:=hdl.2 _ (bL hi);simpa using this
 refine ay ?_;refine bw ?_;intro u0;refine aD ?_;refine di (fun hc0=>?_) fun hc0=>?_
 .refine aD ?_;refine dL [.bg] ?_;refine aR (.agg [.bg]) (he:=aW) ?_;refine aF ?_;refine bT (aS ?_ (ak (D.int .i64) ?_));all_goals
   have hq:iS s=([],3):=by
    unfold iS;rw[aC ae]
   rw[hq];first|done|rfl
 refine bw ?_;refine au (hc:=h9124 s ae) ?_;refine aE ?_;intro u1;refine aD ?_;refine br hm (ι:=Nat) (fun i=>[.un,⟨true,.ptr 0 1 0 0⟩,.un,.un,⟨true,.int .i64 (i:Nat)⟩,⟨true,.int .i64 ((aT s []).length:Nat)⟩,.un,⟨true,.sl 1 ((aT s []).map D.str)⟩,.un,.un,.un,.un,.un,.un,.un,.un,.un,.un,⟨true,.ptr 5 1 0 0⟩,.un,.un,.un]) (fun i=>[(0,.buf 1 [.agg [.bg]]),(5,.buf 1 [.agg [.own 1 1 0 ((jB s).take i).length]]),(1,.buf 1 (((jB s).take i).map tZ))]) 10 (fun i=>i<=(aT s []).length/\F7 s=c9 (fun i=>wOK (aT s [])[i]!) i (aT s []).length) (fun i=>(aT s []).length-i) 0 ⟨ae,rfl⟩ (bm.to [(0,0),(5,5)] ah ah fC (by refine hY ?_;refine bF.ni 5 ah ah (by exact⟨_,_,rfl,⟨_,rfl,⟨_,_,rfl,Or.inr ⟨_,_,_,rfl⟩,rfl⟩⟩,rfl⟩) ?_;refine bF.mt ah ah ah ah ?_;exact bF.nil)) ?_;rintro i ⟨hi,hr⟩;have hrt:((jB s).take i).length<=i:=by rw[eF];omega
 refine aF ?_;refine di (fun hc1=>?_) fun hc1=>?_
 .refine jX ?_;have hgi:=hgl i ae;have hsl:=cJ (aT s [])[i]! 44;have hsp:1<=(ai (aT s [])[i]! 44).length:=eN _ _ _;refine aE ?_;refine au (v:=.sl 1 ((ai (aT s [])[i]! 44).map D.str)) (hc:=h124 (aT s [])[i]! 44 ae) ?_;refine aE ?_;intro u2;refine aD ?_;refine br hm (ι:=Nat) (fun k=>[.un,⟨true,.ptr 0 1 0 0⟩,.un,.un,⟨true,.int .i64 (i:Nat)⟩,⟨true,.int .i64 ((aT s []).length:Nat)⟩,.un,⟨true,.sl 1 ((aT s []).map D.str)⟩,.un,⟨true,.int .i64 (k:Nat)⟩,⟨true,.int .i64 ((ai (aT s [])[i]! 44).length:Nat)⟩,.un,⟨true,.sl 1 ((ai (aT s [])[i]! 44).map D.str)⟩,.un,.un,.un,⟨true,.own 2 7 0 ((pc (aT s [])[i]!).take k).length⟩,.un,⟨true,.ptr 5 1 0 0⟩,.un,.un,.un]) (fun k=>[(0,.buf 1 [.agg [.bg]]),(5,.buf 1 [.agg [.own 1 1 0 ((jB s).take i).length]]),(1,.buf 1 (((jB s).take i).map tZ)),(2,.buf 7 (((pc (aT s [])[i]!).take k).map dZ.D))]) 19 (fun k=>k<=(ai (aT s [])[i]! 44).length/\wOK (aT s [])[i]! =c9 (fun k=>(fG (eB (ai (aT s [])[i]! 44)[k]!)).isSome) k (ai (aT s [])[i]! 44).length) (fun k=>(ai (aT s [])[i]! 44).length-k) 0 ⟨ae,rfl⟩ (bm.to [(0,0),(5,5),(1,1)] ah ah (by repeat(first|exact de.nil|refine de.un ?_|refine de.eq ah ?_|refine de.nl ah ah ?_|refine de.ni (Or.inr ⟨_,_,_,rfl⟩) ?_)) (by refine hY ?_;refine hY ?_;refine hY ?_;refine bF.mt ah ah ah ah ?_;exact bF.nil)) ?_;rintro k ⟨hk,hwk⟩;have htk:((pc (aT s [])[i]!).take k).length<=k:=by rw[eF];omega
  refine aF ?_;refine di (fun hc2=>?_) fun hc2=>?_
  .refine bW ?_;have hwl:=tp (aT s [])[i]! 44 (show k<(ai (aT s [])[i]! 44).length by omega);have hbl:=AH (ai (aT s [])[i]! 44)[k]!;refine aE ?_;refine au (hc:=h683 (ai (aT s [])[i]! 44)[k]! 32 rfl ae) ?_;refine au (v:=.tup [dZ.D ((fG (eB (ai (aT s [])[i]! 44)[k]!)).getD fH),.int .i64 (if(fG (eB (ai (aT s [])[i]! 44)[k]!)).isSome=true then 0 else 6)]) (hc:=by rw[<-ZK];exact h682 (eB (ai (aT s [])[i]! 44)[k]!) ae) ?_;refine aE ?_;refine fJ (dZ.D _) ?_;refine aD ?_;refine aR (dZ.D ((fG (eB (ai (aT s [])[i]! 44)[k]!)).getD fH)) (he:=aW) ?_;refine bw ?_;refine az (fun hc3=>?_) (fun hc3=>?_)
   .have hsm:(fG (eB (ai (aT s [])[i]! 44)[k]!)).isSome=false:=by cases hx:(fG (eB (ai (aT s [])[i]! 44)[k]!)).isSome with|false=>rfl|true=>rw[hx]at hc3;exact absurd hc3 aG
    refine aD ?_;refine dL [.bg] ?_;refine aR (.agg [.bg]) (he:=aW) ?_;refine bw ?_;refine bT (aS ?_ (ak (D.int .i64) ?_));all_goals
     have hq:iS s=([],6):=by
      have hno:F7 s=false:=by rw[hr,bc ae,hwk,bc ae,hsm];rfl
      unfold iS;rw[ar ae,aC hno]
     rw[hq];first|done|rfl
   have hsm:(fG (eB (ai (aT s [])[i]! 44)[k]!)).isSome=true:=by cases hx:(fG (eB (ai (aT s [])[i]! 44)[k]!)).isSome with|true=>rfl|false=>rw[hx]at hc3;exact absurd hc3 aG
   refine aF ?_;refine cO (d:=dZ.D ((fG (eB (ai (aT s [])[i]! 44)[k]!)).getD fH)) ?_;refine dq [(dZ.D _)] ?_;refine dJ ?_;have hq:=jI (fun x=>(fG (eB x)).getD fH) (ai (aT s [])[i]! 44) (show k<(ai (aT s [])[i]! 44).length by omega);rw[show(fun x=>(fG (eB x)).getD fH)=fun x=>(fG (eB x)).getD fH from rfl]at hq;have hq:(pc (aT s [])[i]!).take (k+1)=_:=hq;rw[show(pc (aT s [])[i]!).take k++[(fG (eB (ai (aT s [])[i]! 44)[k]!)).getD fH]=(pc (aT s [])[i]!).take (k+1)from hq.symm];exact⟨k+1,⟨ae,by rw[hwk,bc ae,hsm];rfl⟩,ae,(bm.to [(0,0),(5,5),(1,1),(37,2)] ah ah fC (by refine hY ?_;refine hY ?_;refine hY ?_;refine bF.nl 37 ah ah ah fM ?_;exact bF.nil))⟩
  refine aD ?_;refine e7 2 ?_ (he:=by simp only[j8,ig,ij,ku,kW,cM,Nat.reduceEqDiff,ba,aZ,cC,cj,cb,cH,cK,bI,bB,aH,bR,aL,reduceCtorEq,aM,aX,Nat.reduceAdd,Nat.reduceLeDiff,qW];exact rfl) (hm:=by simp only[j8,ig,ij,ku,kW,cM,Nat.reduceEqDiff,ba,aZ,cC,cj,cb,cH,cK,bI,bB,aH,bR,aL,reduceCtorEq,aM,aX,Nat.reduceAdd,Nat.reduceLeDiff,qW];exact rfl);refine aE ?_;obtain rfl:k=(ai (aT s [])[i]! 44).length:=ae;rw[fq (show(pc (aT s [])[i]!).length<=(ai (aT s [])[i]! 44).length by simp[pc])];refine aE ?_;refine aV (v:=.own _ _ _ _) ?_;refine aE ?_;refine dq [tZ (pc (aT s [])[i]!)] ?_;refine aD ?_;refine aR (.agg [.own 24 1 0 ((jB s).take i++[pc (aT s [])[i]!]).length]) (he:=aW) ?_;refine bw ?_;have hq:(jB s).take (i+1)=(jB s).take i++[pc (aT s [])[i]!]:=jI pc (aT s []) (show i<(aT s []).length by omega);rw[<-hq];exact⟨i+1,⟨ae,by rw[hr,bc ae,hwk,cL ae];rfl⟩,ae,(bm.to [(0,0),(5,5),(24,1)] ah ah fC (by refine hY ?_;refine hY ?_;refine bF.nl 24 ah ah ah fM ?_;exact bF.nil))⟩
 refine aF ?_;refine e7 1 ?_ (he:=by simp only[j8,ig,ij,ku,kW,cM,Nat.reduceEqDiff,ba,aZ,cC,cj,cb,cH,cK,bI,bB,aH,bR,aL,reduceCtorEq,aM,aX,Nat.reduceAdd,Nat.reduceLeDiff,qW];exact rfl) (hm:=by simp only[j8,ig,ij,ku,kW,cM,Nat.reduceEqDiff,ba,aZ,cC,cj,cb,cH,cK,bI,bB,aH,bR,aL,reduceCtorEq,aM,aX,Nat.reduceAdd,Nat.reduceLeDiff,qW];exact rfl);refine aE ?_;obtain rfl:i=(aT s []).length:=ae;have hok:F7 s=true:=by rw[hr,cL ae]
 rw[fq (show(jB s).length<=(aT s []).length by simp[jB])];have hrs:=J9 (s:=s) ae;refine cO (d:=iN (jB s)) ?_;refine au (hc:=h684 (jB s) hrs) ?_;refine gE ?_;refine az (fun hc4=>?_) (fun hc4=>?_)
 .simp only[bE]at hc4;refine aD ?_;refine dL [.bg] ?_;refine aR (.agg [.bg]) (he:=aW) ?_;refine aF ?_;refine bT (aS ?_ (ak (D.int .i64) ?_));all_goals
   have hq:iS s=([],6):=by
    unfold iS;rw[ar ae,ar (by rw[hok];simp),aC hc4]
   rw[hq];first|done|rfl
 simp only[cq]at hc4;refine aF ?_;refine cO (d:=iN (jB s)) ?_;refine au (hc:=h685 (jB s) hrs) ?_;refine aD ?_;refine az (fun hc5=>?_) (fun hc5=>?_)
 .simp only[bE,ya,hc4,gM,bC]at hc5;refine aD ?_;refine dL [.bg] ?_;refine aR (.agg [.bg]) (he:=aW) ?_;refine aF ?_;refine bT (aS ?_ (ak (D.int .i64) ?_));all_goals
   have hq:iS s=([],3):=by
    unfold iS;rw[ar ae,ar (by rw[hok];simp),ar (by rw[hc4];simp),aC ae]
   rw[hq];first|done|rfl
 simp only[cq,ya,hc4,gM,bh]at hc5;refine aD ?_;refine cO (d:=iN (jB s)) ?_;refine aR (iN (jB s)) (he:=aW) ?_;refine aF ?_;refine bT (aS ?_ (ak (D.int .i64) ?_));all_goals
  have hq:iS s=(jB s,0):=by
   unfold iS;rw[ar ae,ar (by rw[hok];simp),ar (by rw[hc4];simp),ar ae]
  rw[hq];first|done|rfl
noncomputable def SM:aN:=dy 242
def Vd {Y:Ctx}(hm:(Y.at 0).cP)(h357:GV Y)(n:Nd)   :dX Y SM (.bool (qX n)) [Nd.D n]:=by
 show cg _ _ _ [⟨_,_⟩,_,_] _;refine ay ?_;refine zzz20 ?_;refine au (hc:=h357 _) ?_;refine vN ?_;refine cd ?_;simp only[qX]
noncomputable def WS:aN:=dy 217
def w950 {Y:Ctx}(hm:(Y.at 0).cP)     :dX Y WS (.sl 1 (uI.map D.str)) []:=by
 show cg _ _ _ [_] _;refine ay ?_;refine aF ?_;refine dq [(.str _),(.str _),(.str _)] ?_;refine aD ?_;refine e7 1 ?_;refine aE ?_;refine bT (?_);rfl
noncomputable def Xe:aN:=dy 243
def Ve {Y:Ctx}(hm:(Y.at 0).cP)  (k:Int)  (hp0:0<=k/\k<3):dX Y Xe (.str (xS k)) [.int .i64 k]:=by
 show cg _ _ _ [⟨_,_⟩,_] _;refine ay ?_;refine aF ?_;refine dq [(.str _),(.str _),(.str _)] ?_;refine aE ?_;refine kg k.toNat ?_;refine abe (es:=[.str [111,115],.str [97,114,99,104],.str [97,98,105]]) (.str (xS k)) (hi:=fun _=>dk) (hv:=fun _=>aai hp0.1 hp0.2) ?_;refine aF ?_;exact du rfl
noncomputable def SP:aN:=dy 244
def Vf {Y:Ctx}(hm:(Y.at 0).cP)  (s:av)(b:Bool)  (hp0:s.length<=1000000000):dX Y SP (.str (mS s b)) [.str s,.bool b]:=by
 show cg _ _ _ [⟨_,_⟩,⟨_,_⟩,_,_] _;refine ay ?_;refine aQ ?_;refine di (fun hc0=>?_) fun hc0=>?_
 .refine aF ?_;refine gv ?_;refine gv ?_;refine aF ?_;refine du ?_;simp[mS,hc0]
 refine aQ ?_;refine du ?_;simp[mS,hc0]
noncomputable def WR:aN:=dy 218
def w951 {Y:Ctx}(hm:(Y.at 0).cP)  (l:List Nd)(i:Int)(b:Bool)(h811:Hk (Y.at 0) (2*i.toNat+1))(hp0:kQ l/\l.length<=15/\0<=i/\i<l.length):dX Y WR (.str (mS (oZ l i) b)) [.sl 5 (l.map Nd.D),.int .i64 i,.bool b]:=by
 show cg _ _ _ [⟨_,_⟩,⟨_,_⟩,⟨_,_⟩,_,_] _;have htl:=vy hp0.1 hp0.2.1 hp0.2.2.1 hp0.2.2.2;refine ay ?_;refine aQ ?_;refine di (fun hc0=>?_) fun hc0=>?_
 .refine aK ?_;refine au (hc:=h811 l i hp0 ae) ?_;refine gv ?_;refine gv ?_;refine aF ?_;refine du ?_;simp[mS,hc0]
 refine aK ?_;refine au (hc:=h811 l i hp0 ae) ?_;refine aF ?_;refine du ?_;simp[mS,hc0]
noncomputable def WT:aN:=dy 192
def w811 {Y:Ctx}(hm:(Y.at 0).cP)(h950:VQ Y)(l:List Nd)(i:Int)(h811:Hk (Y.at 0) (2*i.toNat))(h951:K9 (Y.at 0) (2*i.toNat))(hp0:kQ l/\l.length<=15/\0<=i/\i<l.length):dX Y WT (.str (oZ l i)) [.sl 5 (l.map Nd.D),.int .i64 i]:=by
 show cg _ _ _ [⟨_,_⟩,⟨_,_⟩,_,_,_,_,_,_,_,_] _;obtain⟨hk,hl15,hi0,hi1⟩:=hp0;have htx:=UZ hk hi0 hi1;obtain⟨k1,k2,k3⟩:=hk i.toNat ae;refine ay ?_;refine aQ ?_;first|refine bp (v:=(Nd.D _)) ?_|refine gI (v:=(Nd.D _)) ?_
 refine mZ ?_;refine wp_cond (fun hc0=>?_) (fun hc0=>?_)
 .simp only[bh]at hc0;have k1:=k1 hc0;have hkl:=rX l[i.toNat]!.key;refine aE ?_;refine au (hc:=h950) ?_;refine aD ?_;refine bz l[i.toNat]!.key.toNat (hb:=fun _=>by show _<3;omega) ?_;refine bp (q:=D.str) (xs:=uI) (hi:=fun _=>by show _<3;omega) (i:=l[i.toNat]!.key.toNat) (k:=1) (o:=0) (v:=(.str (xS l[i.toNat]!.key))) (hv:=fun _=>ak D.str (wg k1.1 k1.2.1)) ?_;refine gv ?_;refine aD ?_;refine gv ?_;refine aK ?_;refine du ?_;rw[htx,aC hc0]
 simp only[bC]at hc0;have ka:=k2 hc0;have hla:=vy hk hl15 (i:=l[i.toNat]!.a) ae ae;have hwa:=fun b=>qc (oZ l l[i.toNat]!.a) b
 refine aK ?_;refine wp_cond (fun hc1=>?_) (fun hc1=>?_)
 .simp only[bh]at hc1;refine aK ?_;refine bz l[i.toNat]!.a.toNat ?_;first|refine bp (v:=(Nd.D _)) ?_|refine gI (v:=(Nd.D _)) ?_
  refine dJ ?_;refine az (fun hc2=>?_) (fun hc2=>?_)
  .simp only[bh]at hc2;have k4:=(hk l[i.toNat]!.a.toNat ae).1 hc2;have hkl:=rX l[l[i.toNat]!.a.toNat]!.key;refine aD ?_;refine au (hc:=h950) ?_;refine aD ?_;refine bz l[l[i.toNat]!.a.toNat]!.key.toNat (hb:=fun _=>by show _<3;omega) ?_;refine bp (q:=D.str) (xs:=uI) (hi:=fun _=>by show _<3;omega) (i:=l[l[i.toNat]!.a.toNat]!.key.toNat) (k:=1) (o:=0) (v:=(.str (xS l[l[i.toNat]!.a.toNat]!.key))) (hv:=fun _=>ak D.str (wg k4.1 k4.2.1)) ?_;refine gv ?_;refine aD ?_;refine gv ?_;refine aK ?_;refine du ?_;rw[htx,ar hc0,aC hc1,aC hc2]
  try simp only[cX]at hc2
  refine bW ?_;refine au (hc:=h951 l l[i.toNat]!.a _ ⟨hk,hl15,ae,ae⟩ ae) ?_;have hwx:=hwa (!decide (l[l[i.toNat]!.a.toNat]!.op=2));refine gv ?_;refine aK ?_;refine du ?_;rw[htx,ar hc0,aC hc1,ar hc2]
 simp only[bC]at hc1;have kb:=k3 hc0 hc1;have hlb:=vy hk hl15 (i:=l[i.toNat]!.b) ae ae;have hwb:=fun b=>qc (oZ l l[i.toNat]!.b) b
 refine aK ?_;refine iI (fun hc3=>?_) fun hc3=>?_
 .refine bw ?_;refine bz l[i.toNat]!.a.toNat ?_;refine aF ?_;refine au (hc:=h951 l l[i.toNat]!.a _ ⟨hk,hl15,ae,ae⟩ ae) ?_;have hwx:=hwa (decide (l[l[i.toNat]!.a.toNat]!.op=4));refine gv ?_;refine aQ ?_;refine bz l[i.toNat]!.b.toNat ?_;refine bw ?_;refine bz l[i.toNat]!.b.toNat ?_;refine aK ?_;refine au (hc:=h951 l l[i.toNat]!.b _ ⟨hk,hl15,ae,ae⟩ ae) ?_;have hwy:=hwb (decide (l[l[i.toNat]!.b.toNat]!.op=4) ||decide (l[l[i.toNat]!.b.toNat]!.op=3));refine gv ?_;refine aK ?_;refine du ?_;rw[htx,ar hc0,ar hc1,aC hc3]
 refine aQ ?_;refine au (hc:=h811 l l[i.toNat]!.a ⟨hk,hl15,ae,ae⟩ ae) ?_;refine gv ?_;refine aQ ?_;refine bz l[i.toNat]!.b.toNat ?_;refine aF ?_;refine au (hc:=h951 l l[i.toNat]!.b _ ⟨hk,hl15,ae,ae⟩ ae) ?_;have hwy:=hwb (decide (l[l[i.toNat]!.b.toNat]!.op=4));refine gv ?_;refine aF ?_;refine du ?_;rw[htx,ar hc0,ar hc1,ar hc3]
noncomputable def JY:aN:=dy 34
def w76 {Y:Ctx}(hm:(Y.at 0).cP)(h70:C70 Y)(h124:KZ Y)(h222:XW Y)(s:av)   :dX Y JY (.tup [Rec.D (cW s).1,.int .i64 (cW s).2.1,.int .i64 (cW s).2.2]) [.str s]:=by
 show cg _ _ _ [⟨_,_⟩,_,_,_,_,_,_,_,_,_,_,_] _;refine ay ?_;refine bW ?_;intro u0;refine aD ?_;refine az (fun hc0=>?_) (fun hc0=>?_)
 .simp only[bh]at hc0;have hrr:cW s=(lh,3,0):=by unfold cW;rw[aC ae]
  rw[hrr];refine aD ?_;refine bj dM ?_;refine aR dM (he:=aW) ?_;refine aF ?_;refine mR [(0,.buf 9 [Rec.D lh])] (.bf ah (.cons nU .nil) .nil) ?_;refine aE ?_;refine bT (dG ?_ (ak (D.int .i64) ?_) (ak (D.int .i64) ?_));all_goals rfl
 simp only[bC]at hc0;have hsp:=eN 10 s [];have hsp:1<=(ai s 10).length:=hsp;have hsl:=cJ s 10;refine aF ?_;refine au (v:=.sl 1 ((ai s 10).map D.str)) (hc:=h124 s 10 ae) ?_;refine aQ ?_;intro u1;refine aE ?_;refine my ((ai s 10).length-1) (hj:=fun _=>ae) (hb:=fun _=>ae) ?_;refine bj (Ld.D ⟨((ai s 10).take ((ai s 10).length-1)),0⟩) ?_;refine aK ?_;generalize hLS:((ai s 10).take ((ai s 10).length-1))=LS;have hLl:LS.length=(ai s 10).length-1:=by rw[<-hLS,eF];omega
 have hLm:GO LS:=fun t ht=>by
  rw[<-hLS]at ht;have:=cG s 10 (jN ht);omega
 have hsm0:(⟨LS,0⟩:Ld).sm:=⟨⟨Nat.zero_le _,by simp only;omega⟩,hLm⟩;obtain⟨hrs,hsf⟩:=JW hLm;have hsfl:=hsf.length_le;refine aE ?_;refine pQ (v:=.tup [Rec.D (gF LS).1,.bool (pA LS).isSome]) (e:=Ld.D ((⟨LS,0⟩:Ld).to (gF LS).2)) (hc:=h222 ⟨LS,0⟩ hsm0) ?_;refine aE ?_;refine fJ (Rec.D _) ?_;refine aD ?_;refine aR (Rec.D (gF LS).1) (he:=aW) ?_;refine ja ?_;refine aV (v:=.int .i64 ((LS.length-(gF LS).2.length:Nat):Int)) ?_;refine aF ?_;refine aV (v:=.sl 1 (LS.map D.str)) ?_;refine gN ?_;refine aU ?_;refine gN ?_;refine aE ?_;refine bz ((ai s 10).length-1) (hj:=fun _=>ae) (hb:=fun _=>ae) ?_;refine bp (v:=.str (ai s 10)[(ai s 10).length-1]!) (hi:=fun _=>ae) ?_;refine aF ?_;refine az (fun hc1=>?_) (fun hc1=>?_)
 .simp only[dw,bE,bh,bC]at hc1;have hrr:cW s=(lh,2,((LS.length-(gF LS).2.length:Nat):Int)+1):=by
   unfold cW;rw[ar ae];simp only[hLS];rw[aC];rcases hc1 with(h|h)|h
   .exact .inl h
   .refine .inr (.inl fun e=>?_);rw[e]at h;simp only[aX]at h;omega
   .exact .inr (.inr h)
  rw[hrr];refine aE ?_;refine e7 15 (he:=by simp only[j8,ig,ij,ku,kW,cM,Nat.reduceEqDiff,ba,aZ,cC,cj,cb,cH,cK,bI,bB,aH,bR,aL,reduceCtorEq,aM,aX,Nat.reduceAdd,Nat.reduceLeDiff,Ld.D,dM,se];exact rfl) (hm:=by simp only[j8,ig,ij,ku,kW,cM,Nat.reduceEqDiff,ba,aZ,cC,cj,cb,cH,cK,bI,bB,aH,bR,aL,reduceCtorEq,aM,aX,Nat.reduceAdd,Nat.reduceLeDiff,Ld.D,dM,Rec.D];exact rfl) ?_;refine aE ?_;refine bj dM ?_;refine aF ?_;refine JT (v:=.int .i64 ((LS.length-(gF LS).2.length:Nat):Int)) ?_;refine aE ?_;refine aR dM (he:=aW) ?_;refine aF ?_;refine mR [(0,.buf 9 [Rec.D lh]),(22,.buf 9 [Rec.D (gF LS).1])] (.bf ah (.cons nU .nil) (.id ah .nil)) ?_;refine aE ?_;refine bT (dG ?_ (ak (D.int .i64) ?_) (ak (D.int .i64) ?_));all_goals rfl
 simp only[dt,cq,bh,bC]at hc1;have hrr:cW s=if(cE (gF LS).1).1≠0 then(lh,(cE (gF LS).1).1,0)else((gF LS).1,0,0):=by
  unfold cW;rw[ar ae];simp only[hLS];rw[ar];rintro(h|h|h)
  .rw[hc1.1.1]at h;cases h
  .exact h (nO (by have:=hc1.1.2;omega))
  .exact h hc1.2
 rw[hrr];refine aF ?_;refine cO (d:=Rec.D (gF LS).1) ?_;refine au (hc:=h70 (gF LS).1 hrs) ?_;refine gE ?_;refine az (fun hc2=>?_) (fun hc2=>?_)
 .simp only[bE,bC]at hc2;rw[aC hc2];refine aD ?_;refine bj dM ?_;refine aE ?_;refine aR dM (he:=aW) ?_;refine aF ?_;refine mR [(0,.buf 9 [Rec.D lh]),(15,.buf 2 [Ld.D ((⟨LS,0⟩:Ld).to (gF LS).2)]),(22,.buf 9 [Rec.D (gF LS).1])] (.bf ah (.cons nU .nil) (.id ah (.id ah .nil))) ?_;refine aE ?_;refine bT (dG ?_ (ak (D.int .i64) ?_) (ak (D.int .i64) ?_));all_goals rfl
 simp only[cq,bh]at hc2;rw[ar (by rw[hc2];simp)];refine aD ?_;refine cO (d:=Rec.D (gF LS).1) ?_;refine aR (Rec.D (gF LS).1) (he:=aW) ?_;refine aK ?_;refine bT (dG ?_ (ak (D.int .i64) ?_) (ak (D.int .i64) ?_));all_goals rfl
noncomputable def lG:aN:=dy 127
def Nw {Y:Ctx}(hm:(Y.at 1).cP)(h245:Vu (Y.at 1))(h246:Vv (Y.at 1))(r:Ld)(w:av)(n:Nat)(op:Bool)(hp0:r.sm)(hp1:n<=1000)(hp2:op=true->1<=n):cg (Y.at 1) lG.body (VW lG 2 (.tup [Bl (cu w n op r.rest),.bool (cu w n op r.rest).isSome]) (Ld.D (r.after (cu w n op r.rest))):Ex->List cA->St->Prop) (gz lG (.ptr 0 2 0 0::[.str w,.int .i64 (n:Nat),.bool op])) ⟨1,[(0,.buf 2 [(Ld.D r)])]⟩:=by
 show cg _ _ _ [⟨true,.ptr 0 2 0 0⟩,⟨true,.str w⟩,⟨true,.int .i64 (n:Nat)⟩,⟨true,.bool op⟩,.un,.un,.un,.un,.un,.un,.un] ⟨1,[(0,.buf 2 [(Ld.D r)])]⟩;refine ay ?_;refine mZ ?_;refine gN ?_;refine aD ?_;refine di (fun hc0=>?_) fun hc0=>?_
 .refine aD ?_;have hv:cu w n op r.rest=none:=by rw[Ld.abD ae];rfl
  rw[hv];refine aK ?_;refine js trivial eP (cn ah (aS ?_ (ak D.bool ?_))) ah ah ah;all_goals (first|done|rfl)
 refine aQ ?_;have hll:=hp0.1;have hlt:r.at'<r.ls.length:=ae;have hwl:=XI n op r.ls[r.at']! hp2;have hw1:op=true->eZ n r.ls[r.at']! =eU n op r.ls[r.at']! :=fun h=>by rw[<-IF,aC h]
 have hw2:op=false->eZ (-1) r.ls[r.at']! =eU n op r.ls[r.at']! :=fun h=>by rw[<-IF,ar (by rw[h];simp)]
 refine aD ?_;refine di (fun hc1=>?_) fun hc1=>?_
 .refine vN ?_;refine bp (v:=.str r.ls[r.at']!) (hi:=fun _=>ae) ?_;refine aE ?_;first|(refine au (hc:=h245 r.ls[r.at']! (n:Int) (hp0.2 _ (bL ae)) (.inr ⟨by have:=hp2 hc1;omega,ae⟩)) ?_;rw[hw1 hc1])|(refine au (hc:=h245 r.ls[r.at']! (-1) (hp0.2 _ (bL ae)) (.inl rfl)) ?_;rw[hw2 hc1])
  refine aU ?_;refine bz 0 ?_;refine aU ?_;refine gN ?_;refine aK ?_;first|refine SG ?_|refine SH ?_
  refine aD ?_;refine gN ?_;refine aQ ?_;refine au (hc:=h246 _ _) ?_;refine aD ?_;refine di (fun hc2=>?_) fun hc2=>?_
  .refine aD ?_;have hv:cu w n op r.rest=none:=by rw[Ld.wy hlt,cu,Mf hc2 hwl]
   rw[hv];refine aK ?_;refine js trivial eP (cn ah (aS ?_ (ak D.bool ?_))) ah ah ah;all_goals (first|done|rfl)
  refine dJ ?_;refine aR (Ld.D ⟨r.ls,r.at'+1⟩) (he:=aW) ?_;refine aD ?_;have hv:cu w n op r.rest=some (eU n op r.ls[r.at']!,r.ls.drop (r.at'+1)):=by rw[Ld.wy hlt,cu,H2 hc2]
  rw[hv];refine aU ?_;refine js trivial eP (cn ah (aS ?_ (ak D.bool ?_))) ah ah ah;all_goals (first|done|rfl)
 refine gE ?_;refine bp (v:=.str r.ls[r.at']!) (hi:=fun _=>ae) ?_;refine aE ?_;first|(refine au (hc:=h245 r.ls[r.at']! (n:Int) (hp0.2 _ (bL ae)) (.inr ⟨by have:=hp2 hc1;omega,ae⟩)) ?_;rw[hw1 hc1])|(refine au (hc:=h245 r.ls[r.at']! (-1) (hp0.2 _ (bL ae)) (.inl rfl)) ?_;rw[hw2 hc1])
 refine aU ?_;refine bz 0 ?_;refine aU ?_;refine gN ?_;refine aK ?_;first|refine SG ?_|refine SH ?_
 refine aD ?_;refine gN ?_;refine aQ ?_;refine au (hc:=h246 _ _) ?_;refine aD ?_;refine di (fun hc2=>?_) fun hc2=>?_
 .refine aD ?_;have hv:cu w n op r.rest=none:=by rw[Ld.wy hlt,cu,Mf hc2 hwl]
  rw[hv];refine aK ?_;refine js trivial eP (cn ah (aS ?_ (ak D.bool ?_))) ah ah ah;all_goals (first|done|rfl)
 refine dJ ?_;refine aR (Ld.D ⟨r.ls,r.at'+1⟩) (he:=aW) ?_;refine aD ?_;have hv:cu w n op r.rest=some (eU n op r.ls[r.at']!,r.ls.drop (r.at'+1)):=by rw[Ld.wy hlt,cu,H2 hc2]
 rw[hv];refine aU ?_;refine js trivial eP (cn ah (aS ?_ (ak D.bool ?_))) ah ah ah;all_goals (first|done|rfl)
noncomputable def J2:aN:=dy 87
def w461 {Y:Ctx}(hm:(Y.at 0).cP)(h249:GS Y)(w:bX)  (hp0:w.fit):dX Y J2 (.str (kI w)) [bX.D w]:=by
 show cg _ _ _ [⟨_,_⟩,_,_,_,_,_,_] _;have q1:=Gz hp0;have q2:=hp0.1.1.1;have q3:=hp0.1.1.2;refine ay ?_;refine jX ?_;intro u0;refine aD ?_;refine di (fun hc0=>?_) fun hc0=>?_
 .refine aF ?_;refine au (hc:=h249 w.feats 44 ae) ?_;refine bw ?_;refine di (fun hc1=>?_) fun hc1=>?_
  .refine aQ ?_;refine gv ?_;refine gv ?_;refine aE ?_;refine gv ?_;refine gv ?_;refine aE ?_;refine gv ?_;refine gv ?_;refine aD ?_;refine gv ?_;refine gv ?_;refine aF ?_;refine du ?_;all_goals
    simp only[kI,cN,jW,aO,ib,jV,dW];first|rw[aC (show w.feats.length=0 by omega)]|rw[ar (show ¬w.feats.length=0 by omega)]
    simp[hc1]
  refine aK ?_;refine gv ?_;refine gv ?_;refine aE ?_;refine gv ?_;refine gv ?_;refine aE ?_;refine gv ?_;refine gv ?_;refine aD ?_;refine gv ?_;refine gv ?_;refine aF ?_;refine du ?_;all_goals
   simp only[kI,cN,jW,aO,ib,jV,dW];first|rw[aC (show w.feats.length=0 by omega)]|rw[ar (show ¬w.feats.length=0 by omega)]
   simp[hc1]
 refine aQ ?_;refine di (fun hc1=>?_) fun hc1=>?_
 .refine aQ ?_;refine gv ?_;refine gv ?_;refine aE ?_;refine gv ?_;refine gv ?_;refine aE ?_;refine gv ?_;refine gv ?_;refine aD ?_;refine gv ?_;refine gv ?_;refine aF ?_;refine du ?_;all_goals
   simp only[kI,cN,jW,aO,ib,jV,dW];first|rw[aC (show w.feats.length=0 by omega)]|rw[ar (show ¬w.feats.length=0 by omega)]
   simp[hc1]
 refine aK ?_;refine gv ?_;refine gv ?_;refine aE ?_;refine gv ?_;refine gv ?_;refine aE ?_;refine gv ?_;refine gv ?_;refine aD ?_;refine gv ?_;refine gv ?_;refine aF ?_;refine du ?_;all_goals
  simp only[kI,cN,jW,aO,ib,jV,dW];first|rw[aC (show w.feats.length=0 by omega)]|rw[ar (show ¬w.feats.length=0 by omega)]
  simp[hc1]
noncomputable def SX:aN:=dy 88
def w462 {Y:Ctx}(hm:(Y.at 0).cP)  (s:av)  (hp0:s.length<=1048576):dX Y SX (.str (jf s)) [.str s]:=by
 show cg _ _ _ [⟨_,_⟩,_,_] _;refine ay ?_;refine bw ?_;refine di (fun hc0=>?_) fun hc0=>?_
 .refine aU ?_;refine du ?_;rw[jf,aC hc0]
 refine aF ?_;refine gv ?_;refine gv ?_;refine aF ?_;refine du ?_;rw[jf,ar hc0];simp[cN,aO,fo]
noncomputable def Kc:aN:=dy 77
def w494  (l:List av)(x:av)   :dX Y Kc (.int .i64 (A3 l x 0)) [.sl 1 (l.map D.str),.str x]:=by
 show cg _ _ _ [⟨_,_⟩,⟨_,_⟩,_,_,_,_,_,_] _;refine ay ?_;refine aQ ?_;intro u0;refine aD ?_;refine br hm (ι:=Nat) (fun i=>[⟨true,.sl 1 (l.map D.str)⟩,⟨true,.str x⟩,.un,⟨true,.int .i64 (i:Nat)⟩,⟨true,.int .i64 (l.length:Nat)⟩,.un,.un,.un]) (fun i=>[]) 4 (fun i=>i<=l.length/\A3 l x 0=A3 l x i) (fun i=>l.length-i) 0 ⟨ae,rfl⟩ (dQ []) ?_;rintro i ⟨hi,hr⟩;refine aF ?_;refine di (fun hc0=>?_) fun hc0=>?_
 .refine vN ?_;refine iI (fun hc1=>?_) fun hc1=>?_
  .refine bw ?_;refine gu ?_;rw[hr,ac5 ae hc1]
  refine bw ?_;exact⟨i+1,⟨ae,by rw[hr,ac6 ae hc1]⟩,ae,(dQ [])⟩
 refine aQ ?_;refine gu ?_;rw[hr,aab ae]
noncomputable def CD:aN:=dy 39
def w246 {Y:Ctx}(hm:(Y.at 0).cP)(h494:YA Y)(l:List av)(x:av)   :dX Y CD (.bool (decide (x∈l))) [.sl 1 (l.map D.str),.str x]:=by
 show cg _ _ _ [⟨_,_⟩,⟨_,_⟩,_] _;refine ay ?_;refine aU ?_;refine au (hc:=h494 l x) ?_;refine aK ?_;refine cd ?_;exact aac l x
end Go.Abs
