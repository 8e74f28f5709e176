/- A part of the proofs. -/
import Derived.Test.YtdhangmdmdegpaaGreatDoorP09
set_option linter.all false
set_option maxRecDepth 60000
set_option maxHeartbeats 2000000
noncomputable section
namespace Go.Abs
variable {Y:Ctx}(hm:(Y.at 0).bU)
def Nv:aj:=bd 226
def w215 (hA:C242 Y)(hB:C450 Y)(hC:C451 Y)(hD:C452 Y):um (ct Y Nv):=λr hp0=>by
 show dD _ _ _ [⟨_,_⟩,_,_,_,_,_,_,_,_,_,_,_,_,_,_,_,_,_,_,_,_,_,_,_,_,_,_,_,_,_,_] _;have hft:=tL hp0;have q0:=hft.nm;have q00:=E1 r.v hft.v;have hs:=hp0.2;refine aS ?_;refine Jw ?_;refine aE (hc:=hC r.v hft.v) ?_;refine bm [(.str _),(.str _),(.str _)] ?_;refine dT (nx':=4) (v:=.tup []) (m':=[(9,.row (vw r)),(0,.buf 9 [Rec.D r]),(2,.bld (some 9) (vw r).length true)]) (hc:=λK' hK=>hB [qC,r.name,vc r.v] ([]) 2 8 _ _ K' (.inl ⟨false,dh,rfl⟩) ai eL eL (.mk aX ma (dx.2 ⟨aX,dx.2 ⟨ae,dx.2 ⟨ae,λ_ h=>nomatch h⟩⟩⟩) na) (by rw[show([])++cw [qC,r.name,vc r.v]=vw r from rfl];exact hK)) (hn:=aX) ?_;refine zg ?_;intro u0;refine gE hm (ι:=Nat) (λi=>[.un,.un,⟨true,.ptr 0 9 0 0⟩,⟨true,.ptr 2 2 0 0⟩,⟨true,.int .i64 (i:Nat)⟩,⟨true,.int .i64 (r.needs.length:Nat)⟩,.un,⟨true,.sl 3 (r.needs.map bn.D)⟩,.un,.un,.un,.un,.un,.un,.un,.un,.un,.un,.un,.un,.un,.un,.un,.un,.un,.un,.un,.un,.un,.un,.un]) (λi=>[(0,.buf 9 [Rec.D r]),(2,.bld (some 3) (kO r i).length true),(3,.row (kO r i))]) 10 (λi=>i<=r.needs.length) (λi=>r.needs.length-i) 0 ae (a8.to [(0,0),(2,2),(9,3)] ai ai Qi (by refine bB.By ai ai ai ?_;refine bB.bl 2 ai ai ai (ay List.length (by rw[abr])) rfl ?_;refine bB.rw 9 ai ai (by rw[abr]) ?_;exact bB.nil)) ?_;intro i hi;have q1:=Jl hft i hi;refine zc ?_ ?_<;>intro hc0
 .refine dR ?_;have hnf:=hft.n _ (aq (show i<r.needs.length by omega));have hn3:=hnf.1.1;refine kv ?_;refine bm [(.str _)] ?_;refine dT (nx':=16) (v:=.tup []) (m':=[(16,.row (kO r i++dY r.needs[i]! 0)),(0,.buf 9 [Rec.D r]),(2,.bld (some 16) (kO r i++dY r.needs[i]! 0).length true),(13,.buf 3 [bn.D r.needs[i]!])]) (hc:=λK' hK=>hB [Hk] (kO r i) 2 15 _ _ K' (.inr ⟨3,true,dh,dh⟩) ai eL eL (.mk aX ma (dx.2 ⟨aX,λ_ h=>nomatch h⟩) na) (by rw[show(kO r i)++cw [Hk]=kO r i++dY r.needs[i]! 0 from rfl];exact hK)) (hn:=aX) ?_;refine zg ?_;intro u1;refine zf hm (λj=>[.u 2,.p 0 9,.p 2 2,.i i,.i r.needs.length,.u 1,.m 3 r.needs bn.D,.p 4 3,.i j,.i (r.needs[i]!.any.length:Nat),.u 1,.m 4 (r.needs[i]!.any) cP.D,.u 18]) (λj=>[(0,.buf 9 [Rec.D r]),(4,.buf 3 [bn.D r.needs[i]!]),(2,.bld (some 3) (kO r i++dY r.needs[i]! j).length true),(3,.row (kO r i++dY r.needs[i]! j))]) 20 (λj=>j<=r.needs[i]!.any.length) (λj=>r.needs[i]!.any.length-j) ae [(0,0),(13,4),(2,2),(16,3)] ?_;intro j hj;have q2:=GB hnf j ae;refine zc ?_ ?_<;>intro hc1
  .refine dR ?_;have hwf:=hnf.1.2 _ (aq (show j<r.needs[i]!.any.length by omega));have q3:=Jt hwf;have q4:=hwf.1.1.1;have q5:=hwf.1.1.2.len;refine zg ?_;intro u2;refine dF ?_ ?_<;>intro hc2
   .refine dR ?_;refine aE (hc:=hA r.needs[i]!.any[j]!.feats [44] (by have:=hwf.2.1;omega) aX (λt ht=>by have:=hwf.2.2 t ht;omega)) ?_;refine zc ?_ ?_<;>intro hc3
    .refine fA ?_;have hwl:cw [sb,r.needs[i]!.any[j]!.name,(cv [44] r.needs[i]!.any[j]!.feats),r7,r.needs[i]!.any[j]!.range]=j6 r.needs[i]!.any[j]! :=by
      unfold j6 tp;first|rw[ak (show r.needs[i]!.any[j]!.feats.length=0 by omega)]|rw[ah (show ¬r.needs[i]!.any[j]!.feats.length=0 by omega)]
      rw[hc3];rfl
     have hwj:=oF (n:=r.needs[i]!) (j:=j) ae;refine kv ?_;refine bm [(.str _),(.str _),(.str _),(.str _),(.str _)] ?_;refine dT (nx':=39) (v:=.tup []) (m':=[(45,.row (kO r i++dY r.needs[i]! (j+1))),(0,.buf 9 [Rec.D r]),(4,.buf 3 [bn.D r.needs[i]!]),(2,.bld (some 45) (kO r i++dY r.needs[i]! (j+1)).length true),(23,.buf 4 [cP.D r.needs[i]!.any[j]!])]) (hc:=λK' hK=>hB [sb,r.needs[i]!.any[j]!.name,(cv [44] r.needs[i]!.any[j]!.feats),r7,r.needs[i]!.any[j]!.range] (kO r i++dY r.needs[i]! j) 2 44 _ _ K' (.inr ⟨3,true,dh,dh⟩) ai eL eL (.mk aX ma (dx.2 ⟨aX,dx.2 ⟨ae,dx.2 ⟨by first|omega|decide,dx.2 ⟨aX,dx.2 ⟨ae,λ_ h=>nomatch h⟩⟩⟩⟩⟩) na) (by rw[show(kO r i++dY r.needs[i]! j)++cw [sb,r.needs[i]!.any[j]!.name,(cv [44] r.needs[i]!.any[j]!.feats),r7,r.needs[i]!.any[j]!.range]=kO r i++dY r.needs[i]! (j+1)from by rw[hwl,hwj,fL]];exact hK)) (hn:=aX) ?_;refine zg ?_;exact iw (j+1) [(0,0),(4,4),(2,2),(45,3)]
    refine c7 ?_;have hwl:cw [sb,r.needs[i]!.any[j]!.name,(cv [44] r.needs[i]!.any[j]!.feats),r9,r.needs[i]!.any[j]!.range]=j6 r.needs[i]!.any[j]! :=by
     unfold j6 tp;first|rw[ak (show r.needs[i]!.any[j]!.feats.length=0 by omega)]|rw[ah (show ¬r.needs[i]!.any[j]!.feats.length=0 by omega)]
     rw[hc3];rfl
    have hwj:=oF (n:=r.needs[i]!) (j:=j) ae;refine kv ?_;refine bm [(.str _),(.str _),(.str _),(.str _),(.str _)] ?_;refine dT (nx':=38) (v:=.tup []) (m':=[(44,.row (kO r i++dY r.needs[i]! (j+1))),(0,.buf 9 [Rec.D r]),(4,.buf 3 [bn.D r.needs[i]!]),(2,.bld (some 44) (kO r i++dY r.needs[i]! (j+1)).length true),(23,.buf 4 [cP.D r.needs[i]!.any[j]!])]) (hc:=λK' hK=>hB [sb,r.needs[i]!.any[j]!.name,(cv [44] r.needs[i]!.any[j]!.feats),r9,r.needs[i]!.any[j]!.range] (kO r i++dY r.needs[i]! j) 2 43 _ _ K' (.inr ⟨3,true,dh,dh⟩) ai eL eL (.mk aX ma (dx.2 ⟨aX,dx.2 ⟨ae,dx.2 ⟨by first|omega|decide,dx.2 ⟨aX,dx.2 ⟨ae,λ_ h=>nomatch h⟩⟩⟩⟩⟩) na) (by rw[show(kO r i++dY r.needs[i]! j)++cw [sb,r.needs[i]!.any[j]!.name,(cv [44] r.needs[i]!.any[j]!.feats),r9,r.needs[i]!.any[j]!.range]=kO r i++dY r.needs[i]! (j+1)from by rw[hwl,hwj,fL]];exact hK)) (hn:=aX) ?_;refine zg ?_;exact iw (j+1) [(0,0),(4,4),(2,2),(44,3)]
   refine zc ?_ ?_<;>intro hc3
   .refine fA ?_;have hwl:cw [sb,r.needs[i]!.any[j]!.name,[45],r7,r.needs[i]!.any[j]!.range]=j6 r.needs[i]!.any[j]! :=by
     unfold j6 tp;first|rw[ak (show r.needs[i]!.any[j]!.feats.length=0 by omega)]|rw[ah (show ¬r.needs[i]!.any[j]!.feats.length=0 by omega)]
     rw[hc3];rfl
    have hwj:=oF (n:=r.needs[i]!) (j:=j) ae;refine kv ?_;refine bm [(.str _),(.str _),(.str _),(.str _),(.str _)] ?_;refine dT (nx':=35) (v:=.tup []) (m':=[(41,.row (kO r i++dY r.needs[i]! (j+1))),(0,.buf 9 [Rec.D r]),(4,.buf 3 [bn.D r.needs[i]!]),(2,.bld (some 41) (kO r i++dY r.needs[i]! (j+1)).length true),(23,.buf 4 [cP.D r.needs[i]!.any[j]!])]) (hc:=λK' hK=>hB [sb,r.needs[i]!.any[j]!.name,[45],r7,r.needs[i]!.any[j]!.range] (kO r i++dY r.needs[i]! j) 2 40 _ _ K' (.inr ⟨3,true,dh,dh⟩) ai eL eL (.mk aX ma (dx.2 ⟨aX,dx.2 ⟨ae,dx.2 ⟨by first|omega|decide,dx.2 ⟨aX,dx.2 ⟨ae,λ_ h=>nomatch h⟩⟩⟩⟩⟩) na) (by rw[show(kO r i++dY r.needs[i]! j)++cw [sb,r.needs[i]!.any[j]!.name,[45],r7,r.needs[i]!.any[j]!.range]=kO r i++dY r.needs[i]! (j+1)from by rw[hwl,hwj,fL]];exact hK)) (hn:=aX) ?_;refine zg ?_;exact iw (j+1) [(0,0),(4,4),(2,2),(41,3)]
   refine c7 ?_;have hwl:cw [sb,r.needs[i]!.any[j]!.name,[45],r9,r.needs[i]!.any[j]!.range]=j6 r.needs[i]!.any[j]! :=by
    unfold j6 tp;first|rw[ak (show r.needs[i]!.any[j]!.feats.length=0 by omega)]|rw[ah (show ¬r.needs[i]!.any[j]!.feats.length=0 by omega)]
    rw[hc3];rfl
   have hwj:=oF (n:=r.needs[i]!) (j:=j) ae;refine kv ?_;refine bm [(.str _),(.str _),(.str _),(.str _),(.str _)] ?_;refine dT (nx':=34) (v:=.tup []) (m':=[(40,.row (kO r i++dY r.needs[i]! (j+1))),(0,.buf 9 [Rec.D r]),(4,.buf 3 [bn.D r.needs[i]!]),(2,.bld (some 40) (kO r i++dY r.needs[i]! (j+1)).length true),(23,.buf 4 [cP.D r.needs[i]!.any[j]!])]) (hc:=λK' hK=>hB [sb,r.needs[i]!.any[j]!.name,[45],r9,r.needs[i]!.any[j]!.range] (kO r i++dY r.needs[i]! j) 2 39 _ _ K' (.inr ⟨3,true,dh,dh⟩) ai eL eL (.mk aX ma (dx.2 ⟨aX,dx.2 ⟨ae,dx.2 ⟨by first|omega|decide,dx.2 ⟨aX,dx.2 ⟨ae,λ_ h=>nomatch h⟩⟩⟩⟩⟩) na) (by rw[show(kO r i++dY r.needs[i]! j)++cw [sb,r.needs[i]!.any[j]!.name,[45],r9,r.needs[i]!.any[j]!.range]=kO r i++dY r.needs[i]! (j+1)from by rw[hwl,hwj,fL]];exact hK)) (hn:=aX) ?_;refine zg ?_;exact iw (j+1) [(0,0),(4,4),(2,2),(40,3)]
  refine fA ?_;have hnA:=zD (n:=r.needs[i]!) (j:=j) ae;have w4:=n8 hnf.2.1;have w5:=hnf.2.2;have w6:=hnf.2.1;refine zc ?_ ?_<;>intro hc4
  .refine c9 ?_;have hwt:kL r.needs[i]!.when'=cw [yR,r.needs[i]!.when']:=ah hc4;refine c7 ?_;refine bm [(.str _),(.str _)] ?_;refine dT (nx':=25) (v:=.tup []) (m':=[(27,.row (kO r i++(dY r.needs[i]! j++kL r.needs[i]!.when'))),(0,.buf 9 [Rec.D r]),(4,.buf 3 [bn.D r.needs[i]!]),(2,.bld (some 27) (kO r i++(dY r.needs[i]! j++kL r.needs[i]!.when')).length true)]) (hc:=λK' hK=>hB [yR,r.needs[i]!.when'] (kO r i++dY r.needs[i]! j) 2 26 _ _ K' (.inr ⟨3,true,dh,dh⟩) ai eL eL (.mk aX ma (dx.2 ⟨aX,dx.2 ⟨ae,λ_ h=>nomatch h⟩⟩) na) (by rw[show(kO r i++dY r.needs[i]! j)++cw [yR,r.needs[i]!.when']=kO r i++(dY r.needs[i]! j++kL r.needs[i]!.when')from by rw[hwt,fL]];exact hK)) (hn:=aX) ?_;refine zc ?_ ?_<;>intro hc5
   .refine c9 ?_;have hot:ye r.needs[i]!.option=cw [nP,r.needs[i]!.option]:=ah hc5;refine c7 ?_;refine bm [(.str _),(.str _)] ?_;refine dT (nx':=33) (v:=.tup []) (m':=[(35,.row (kO r (i+1))),(0,.buf 9 [Rec.D r]),(4,.buf 3 [bn.D r.needs[i]!]),(2,.bld (some 35) (kO r (i+1)).length true)]) (hc:=λK' hK=>hB [nP,r.needs[i]!.option] (kO r i++(dY r.needs[i]! j++kL r.needs[i]!.when')) 2 34 _ _ K' (.inr ⟨27,true,dh,dh⟩) ai eL eL (.mk aX ma (dx.2 ⟨aX,dx.2 ⟨ae,λ_ h=>nomatch h⟩⟩) na) (by rw[show(kO r i++(dY r.needs[i]! j++kL r.needs[i]!.when'))++cw [nP,r.needs[i]!.option]=kO r (i+1)from by rw[mN ae,hnA,hot];simp only[fL,gw]];exact hK)) (hn:=aX) ?_;refine zg ?_;exact iw (i+1) [(0,0),(2,2),(35,3)]
   refine dR ?_;have hno:ye r.needs[i]!.option=[]:=ak pG;refine zg ?_;exact⟨i+1,ae,ae,(a8.to [(0,0),(2,2),(27,3)] ai ai Qi (by refine bB.By ai ai ai ?_;refine bB.bl 2 ai ai ai (ay List.length (by rw[mN ae,hnA,hno];simp only[fL,gw])) rfl ?_;refine bB.rw 27 ai ai (by rw[mN ae,hnA,hno];simp only[fL,gw]) ?_;exact bB.nil))⟩
  refine c7 ?_;have hnw:kL r.needs[i]!.when'=[]:=ak (by simpa using hc4);refine zc ?_ ?_<;>intro hc5
  .refine c9 ?_;have hot:ye r.needs[i]!.option=cw [nP,r.needs[i]!.option]:=ah hc5;refine c7 ?_;refine bm [(.str _),(.str _)] ?_;refine dT (nx':=28) (v:=.tup []) (m':=[(30,.row (kO r (i+1))),(0,.buf 9 [Rec.D r]),(4,.buf 3 [bn.D r.needs[i]!]),(2,.bld (some 30) (kO r (i+1)).length true)]) (hc:=λK' hK=>hB [nP,r.needs[i]!.option] (kO r i++dY r.needs[i]! j) 2 29 _ _ K' (.inr ⟨3,true,dh,dh⟩) ai eL eL (.mk aX ma (dx.2 ⟨aX,dx.2 ⟨ae,λ_ h=>nomatch h⟩⟩) na) (by rw[show(kO r i++dY r.needs[i]! j)++cw [nP,r.needs[i]!.option]=kO r (i+1)from by rw[mN ae,hnA,hot,hnw];simp only[fL,gw]];exact hK)) (hn:=aX) ?_;refine zg ?_;exact iw (i+1) [(0,0),(2,2),(30,3)]
  refine dR ?_;have hno:ye r.needs[i]!.option=[]:=ak pG;refine zg ?_;exact⟨i+1,ae,ae,(a8.to [(0,0),(2,2),(3,3)] ai ai Qi (by refine bB.By ai ai ai ?_;refine bB.bl 2 ai ai ai (ay List.length (by rw[mN ae,hnA,hno,hnw];simp only[fL,gw])) rfl ?_;refine bB.rw 3 ai ai (by rw[mN ae,hnA,hno,hnw];simp only[fL,gw]) ?_;exact bB.nil))⟩
 refine fA ?_;have h33:i=r.needs.length:=ae;subst h33;refine zg ?_;intro u3;refine gE hm (ι:=Nat) (λi=>[.un,.un,⟨true,.ptr 0 9 0 0⟩,⟨true,.ptr 2 2 0 0⟩,.un,.un,.un,.un,.un,.un,.un,.un,.un,.un,.un,.un,.un,.un,.un,.un,⟨true,.int .i64 (i:Nat)⟩,⟨true,.int .i64 (r.bars.length:Nat)⟩,.un,⟨true,.sl 3 (r.bars.map mR.D)⟩,.un,.un,.un,.un,.un,.un,.un]) (λi=>[(0,.buf 9 [Rec.D r]),(2,.bld (some 3) (EV r i).length true),(3,.row (EV r i))]) 10 (λi=>i<=r.bars.length) (λi=>r.bars.length-i) 0 ae (a8.to [(0,0),(2,2),(3,3)] ai ai Qi (by refine bB.By ai ai ai ?_;refine bB.bl 2 ai ai ai (ay List.length (by rw[abt])) rfl ?_;refine bB.rw 3 ai ai (by rw[abt]) ?_;exact bB.nil)) ?_;intro i hi;have q1:=Jm hft i hi;refine zc ?_ ?_<;>intro hc6
 .refine dR ?_;have q4:=hft.b _ (aq (show i<r.bars.length by omega));have q5:=q4.1;have q6:=q4.2.1.len;have q7:=q4.2.2.len;have hbt:HG r.bars[i]! =cw [z7,r.bars[i]!.name,r.bars[i]!.range]++kL r.bars[i]!.when':=rfl;have hxb:=OC (r:=r) (i:=i) ae;have w7:=n8 q7;refine se ?_;refine bm [(.str _),(.str _),(.str _)] ?_;refine dT (nx':=16) (v:=.tup []) (m':=[(20,.row (EV r i++cw [z7,r.bars[i]!.name,r.bars[i]!.range])),(0,.buf 9 [Rec.D r]),(2,.bld (some 20) (EV r i++cw [z7,r.bars[i]!.name,r.bars[i]!.range]).length true),(13,.buf 3 [mR.D r.bars[i]!])]) (hc:=λK' hK=>hB [z7,r.bars[i]!.name,r.bars[i]!.range] (EV r i) 2 19 _ _ K' (.inr ⟨3,true,dh,dh⟩) ai eL eL (.mk aX ma (dx.2 ⟨aX,dx.2 ⟨ae,dx.2 ⟨ae,λ_ h=>nomatch h⟩⟩⟩) na) (by rw[show(EV r i)++cw [z7,r.bars[i]!.name,r.bars[i]!.range]=EV r i++cw [z7,r.bars[i]!.name,r.bars[i]!.range]from rfl];exact hK)) (hn:=aX) ?_;refine c7 ?_;have w8:(cw [z7,r.bars[i]!.name,r.bars[i]!.range]).length<=2200000:=by unfold cw;simp only[cv,z7,cx,bJ,cj];omega
  refine zc ?_ ?_<;>intro hc7
  .refine c9 ?_;have hwt:kL r.bars[i]!.when'=cw [yR,r.bars[i]!.when']:=ah hc7;refine c7 ?_;refine bm [(.str _),(.str _)] ?_;refine dT (nx':=26) (v:=.tup []) (m':=[(28,.row (EV r (i+1))),(0,.buf 9 [Rec.D r]),(2,.bld (some 28) (EV r (i+1)).length true),(13,.buf 3 [mR.D r.bars[i]!])]) (hc:=λK' hK=>hB [yR,r.bars[i]!.when'] (EV r i++cw [z7,r.bars[i]!.name,r.bars[i]!.range]) 2 27 _ _ K' (.inr ⟨20,true,dh,dh⟩) ai eL eL (.mk aX ma (dx.2 ⟨aX,dx.2 ⟨ae,λ_ h=>nomatch h⟩⟩) na) (by rw[show(EV r i++cw [z7,r.bars[i]!.name,r.bars[i]!.range])++cw [yR,r.bars[i]!.when']=EV r (i+1)from by rw[hxb,hbt,hwt,fL]];exact hK)) (hn:=aX) ?_;refine zg ?_;exact iw (i+1) [(0,0),(2,2),(28,3)]
  refine dR ?_;have hno:kL r.bars[i]!.when'=[]:=ak (by simpa using hc7);refine zg ?_;exact⟨i+1,ae,ae,(a8.to [(0,0),(2,2),(20,3)] ai ai Qi (by refine bB.By ai ai ai ?_;refine bB.bl 2 ai ai ai (ay List.length (by rw[hxb,hbt,hno,gw])) rfl ?_;refine bB.rw 20 ai ai (by rw[hxb,hbt,hno,gw]) ?_;exact bB.nil))⟩
 refine fA ?_;have h33:i=r.bars.length:=ae;subst h33;refine zg ?_;intro u4;refine gE hm (ι:=Nat) (λi=>[.un,.un,⟨true,.ptr 0 9 0 0⟩,⟨true,.ptr 2 2 0 0⟩,.un,.un,.un,.un,.un,.un,.un,.un,.un,.un,.un,.un,.un,.un,.un,.un,.un,.un,.un,.un,.un,.un,⟨true,.int .i64 (i:Nat)⟩,⟨true,.int .i64 (r.feats.length:Nat)⟩,.un,⟨true,.sl 2 (r.feats.map b7.D)⟩,.un]) (λi=>[(0,.buf 9 [Rec.D r]),(2,.bld (some 3) (Hi r i).length true),(3,.row (Hi r i))]) 10 (λi=>i<=r.feats.length) (λi=>r.feats.length-i) 0 ae (a8.to [(0,0),(2,2),(3,3)] ai ai Qi (by refine bB.By ai ai ai ?_;refine bB.bl 2 ai ai ai (ay List.length (by rw[abu])) rfl ?_;refine bB.rw 3 ai ai (by rw[abu]) ?_;exact bB.nil)) ?_;intro i hi;have q1:=TQ hft i hi;refine zc ?_ ?_<;>intro hc8
 .refine dR ?_;have q4:=hft.f _ (aq (show i<r.feats.length by omega));have q5:=q4.1.1;have q6:=q4.2;have q8:∀t∈r.feats[i]!.of,t.length<=2097200:=λt ht=>fC (q4.1.2.2 t ht) aX
  have hxf:=OD (r:=r) (i:=i) ae;refine qH ?_;refine bm [(.str _),(.str _)] ?_;refine c7 ?_;refine yk (zs:=([j5,r.feats[i]!.name]++r.feats[i]!.of).map D.str) (n:=([j5,r.feats[i]!.name]++r.feats[i]!.of).length) (ha:=aJ) (he:=n9.sl) (hz:=by rw[dN];rfl) (hn:=by simp<;>omega) (hb:=ma) ?_;refine dT (nx':=16) (v:=.tup []) (m':=[(21,.row (Hi r (i+1))),(0,.buf 9 [Rec.D r]),(2,.bld (some 21) (Hi r (i+1)).length true),(13,.buf 2 [b7.D r.feats[i]!])]) (hc:=λK' hK=>hB ([j5,r.feats[i]!.name]++r.feats[i]!.of) (Hi r i) 2 20 _ _ K' (.inr ⟨3,true,dh,dh⟩) ai eL eL (.mk (l:=r.feats[i]!.name::r.feats[i]!.of) aX ma (dx.2 ⟨aX,dx.2 ⟨ae,q8⟩⟩) na) (by rw[show(Hi r i)++cw ([j5,r.feats[i]!.name]++r.feats[i]!.of)=Hi r (i+1)from by rw[hxf];rfl];exact hK)) (hn:=aX) ?_;refine zg ?_;exact iw (i+1) [(0,0),(2,2),(21,3)]
 refine zg ?_;have h33:i=r.feats.length:=ae;subst h33;have hne:Hi r r.feats.length≠[]:=by
  rw[Jn];unfold ES vw cw;simp[cv,qC]
 refine dT (nx':=11) (v:=.str (Hi r r.feats.length)) (m':=[(0,.buf 9 [Rec.D r])]) (hc:=λK' hK=>hD _ _ K' ⟨2,Hi r r.feats.length,rfl,.inr ⟨3,true,dh,dh⟩,hne,hK⟩) (hn:=aX) ?_;refine zr ?_;exact Jn r
def OJ:aj:=bd 127
def w441 (hA:C442 Y)(hB:WM Y)(hC:C658 Y)(hD:C659 Y):J9 (ct Y OJ):=λs hp0=>by
 refine zg ?_;refine aQ (λhc0=>?_) (λhc0=>?_)
 .simp only[b8]at hc0;refine zr ?_;symm;simp only[tk]at hc0⊢;rw[eJ]at hc0⊢;rcases hc0 with h|h
  .exact Or.inl h
  .right;rw[Bool.eq_false_iff]at h⊢;intro h2;apply h;rw[bw]at h2⊢;intro j a b;have:=h2 j a b;simp only[jr,aD]at this⊢;exact⟨this.1,rfl⟩
 simp only[cF]at hc0;refine zg ?_;intro u0;have hT:=hc0;simp only[tk,aD,aT]at hT;obtain⟨hT4,hTa⟩:=hT;rw[bw]at hTa;have hP:tk s true=bK (λi=>jr true (bh s 46)[i]!) 0 (bh s 46).length:=by
  simp only[tk];rw[aY hT4];rfl
 refine zf hm (λi=>[.u 3,.i i,.i ((bh s 46).length:Nat),.u 1,.m 1 (bh s 46) D.str,.u 3]) (λi=>[]) 8 (λi=>i<=(bh s 46).length/\tk s true=bK (λi=>jr true (bh s 46)[i]!) i (bh s 46).length) (λi=>(bh s 46).length-i) ⟨ae,hP⟩ [] ?_;rintro i ⟨hi,hr⟩;refine zc ?_ ?_<;>intro hc1
 .refine zg ?_;refine wp_cond (λhc2=>?_) (λhc2=>?_)
  .skip
   refine zr ?_;have hz:jr true (bh s 46)[i]! =false:=by
    simp only[jr];revert hc2;generalize wR (bh s 46)[i]! =c;generalize cT (bh s 46)[i]! =a;generalize oI (bh s 46)[i]! =b;cases a<;>cases b<;>cases c<;>simp
   rw[hr,ax ae,hz];rfl
  skip
  refine zg ?_;have hz:jr true (bh s 46)[i]! =true:=by
   have:=hTa i ae ae;simp only[jr,Bool.false_and,Bool.not_false,gW]at this;simp only[jr,this];revert hc2;generalize cT (bh s 46)[i]! =a;generalize oI (bh s 46)[i]! =b;cases a<;>cases b<;>simp
  refine fX (i+1) [] ?_;rw[hr,ax ae,hz];rfl
 refine zr ?_;rw[hr,bp ae]
def OI:aj:=bd 78
def w209 (hm:(Y.at 0).bU)(hA:C440 Y)(hB:C441 Y)(hC:C442 Y):uj (ct Y OI):=λv hp0=>by
 refine Fa ?_;refine se ?_;refine ca (hc:=λhf=>hB v.pre hp0.1) ?_;refine yZ ?_;refine ca (hc:=λhf=>hC v.build hp0.2) ?_;exact lL
def H3:aj:=bd 296
def w665 (hm:(Y.at 0).bU)(hA:C336 Y):pF (ct Y H3):=λn hp0=>by
 exact lL
def F0:aj:=bd 263
def w451 (hm:(Y.at 0).bU)(hA:Bn Y)(hB:C665 Y):uB (ct Y F0):=λv hp0=>by
 show dD _ _ _ [⟨_,_⟩,_,_,_,_,_,_] _;obtain⟨hs1,hs2⟩:=hp0;have hp0:v.sm:=⟨hs1,hs2⟩;refine aS ?_;refine zg ?_;refine aQ (λhc0=>?_) (λhc0=>?_)
 .simp only[b8]at hc0;refine zr ?_;simp[vc,hc0]
 simp only[cF]at hc0;refine c7 ?_;have hv:=hc0;simp only[gN,aD]at hv;obtain⟨⟨⟨⟨hv1,hv2⟩,hv3⟩,_⟩,_⟩:=hv;have hq1:=hv1;have hq2:=hv2;have hq3:=hv3;simp only[C6,aD,aT]at hq1 hq2 hq3;have hl1:=ie 4 v.major.toNat ae ae;have hl2:=ie 4 v.minor.toNat ae ae;have hl3:=ie 4 v.patch.toNat ae ae;refine zc ?_ ?_<;>intro hc1
 .refine zc ?_ ?_<;>intro hc2
  .refine zr ?_;simp[vc,FZ,hc0,hc1,hc2]
  refine zr ?_;simp[vc,FZ,hc0,hc1,hc2]
 refine zc ?_ ?_<;>intro hc2
 .refine zr ?_;simp[vc,FZ,hc0,hc1,hc2]
 refine zr ?_;simp[vc,FZ,hc0,hc1,hc2]
def rb:aj:=bd 227
def w463 (hm:(Y.at 0).bU):Kj (ct Y rb):=λh k hp0=>by
 show dD _ _ _ [⟨_,_⟩,⟨_,_⟩,_,_] _;subst hp0;refine aS ?_;refine fA ?_;refine rU 13 (hb:=λ_=>by rw[IntKind.wrap_u64];rfl) ?_;refine D0 13 (hb:=λ_=>by rw[IntKind.wrap_u64];rfl) ?_;refine j7 ?_;refine GR (abi h 13) (hb:=λ_=>by rw[show min (Int.toNat (13:Int)) (IntKind.bits .u64)=13 by simp[IntKind.bits]];rfl) ?_;refine c7 ?_;refine IN 51 (hb:=λ_=>by rw[IntKind.wrap_u64];rfl) ?_;refine Ts (G4 h 51) (hb:=λ_=>by rw[show min (Int.toNat (51:Int)) (IntKind.bits .u64)=51 by simp[IntKind.bits]];rfl) ?_;refine ag3 (rot h 13) (hb:=λ_=>rfl) ?_;refine zg ?_;refine fQ (ay (D.int .u64) ?_);rfl
def Pr:aj:=bd 181
def w220 (hA:C463 Y):uo (ct Y Pr):=λs=>by
 refine zg ?_;intro u0;refine zf hm (λi=>[.u 2,.i i,.i s.length,.u 1,.e (.sl 1 (s.map λb=>D.int .u8 b.toNat)),.e (.int .u64 (zZ (s.take i))),.u 1]) (λi=>[]) 5 (λi=>i<=s.length) (λi=>s.length-i) ae [] ?_;intro i hi;refine zc ?_ ?_<;>intro hc0
 .refine fA ?_;refine dj (v:=.int .u8 (at8 s i)) (hv:=λ_=>ld8 s i) ?_;refine j7 ?_;refine rU (at8 s i) (hb:=λ_=>by have:=HE s i;rw[IntKind.wrap_u64];omega) ?_;refine IH (T0 (zZ (s.take i)) (at8 s i)) (hb:=λ_=>rfl) ?_;refine c9 ?_;refine aaA (zZ (s.take (i+1))) (hb:=λ_=>by rw[Hd s i ae];rfl) ?_;exact iw (i+1) []
 refine dR ?_;have ht:s.take i=s:=gG ae;rw[ht];refine c7 ?_;refine Ts (G4 (zZ s) 29) (hb:=λ_=>rfl) ?_;refine IH (sumL s) (hb:=λ_=>rfl) ?_;refine zg ?_;refine fQ (ay (D.int .u64) ?_);rfl
def PX:aj:=bd 30
def w268 (hA:C25 Y)(hB:C159 Y):JQ (ct Y PX):=λw l hp0=>by
 refine zg ?_;intro u0;refine dF ?_ ?_<;>intro hc0
 .refine zr ?_;rw[ord_z ae];rfl
 refine zg ?_;refine zf hm (λu=>[.u 1,.m 1 l (D.int .i64),.u 2,.i u,.p 1 1,.u 11,.o 0 1 (qq w.us l u).length]) (λu=>[(0,.buf 1 ((qq w.us l u).map jW)),(1,.buf 1 [bP.D w])]) 7 (λu=>u<=w.us.length) (λu=>w.us.length-u) ae [(0,1)] ?_;intro u hu;have hol:=VB w.us l u;refine zg ?_;intro u1;refine dF ?_ ?_<;>intro hc1
 .refine kv ?_;have hu16:=(hp0.1 _ (aq (show u<w.us.length by omega))).1;refine zk17 ?_;intro u2;obtain⟨hk0,hk1⟩:=jG (atI l ((u:Nat):Int)) 24 aX;rw[show jl (atI l ((u:Nat):Int)) 24=jF w.us l u from rfl]at hk0 hk1⊢;refine zg ?_;refine zf hm (λi=>[.u 1,.m 1 l (D.int .i64),.u 2,.i u,.p 1 1,.u 1,.i i,.i (w.us[u]!.ar.length:Nat),.i ((jF w.us l u)),.u 2,.o 2 1 (kN w.us[u]!.ar.length (jF w.us l u) i).length,.u 4,.o 0 1 (qq w.us l u).length]) (λi=>[(0,.buf 1 ((qq w.us l u).map jW)),(1,.buf 1 [bP.D w]),(2,.buf 1 ((kN w.us[u]!.ar.length (jF w.us l u) i).map (D.int .i64)))]) 27 (λi=>i<=yf w.us[u]!.ar.length (jF w.us l u)) (λi=>w.us[u]!.ar.length-i) ae [(0,0),(1,1)] ?_;intro i hi;have hoc:yf w.us[u]!.ar.length (jF w.us l u)<=w.us[u]!.ar.length:=by unfold yf;omega
  have hil:=M9 (n:=w.us[u]!.ar.length) (k:=(jF w.us l u)) i;refine qH ?_;refine AU ((jF w.us l u)%5) (hn:=λ_=>aX) (hb:=λ_=>aa5 hk0) ?_;refine zc ?_ ?_<;>intro hc2
  .refine dR ?_;have hvb:=alx (i:=i) (k:=(jF w.us l u)) ae;refine c7 ?_;refine AU ((jF w.us l u)%3) (hn:=λ_=>aX) (hb:=λ_=>aa5 hk0) ?_;refine c9 ?_;refine yn (hb:=ae) ?_;refine dR ?_;refine AU (FQ w.us[u]!.ar.length (jF w.us l u) i) (hn:=λ_=>ae) (hb:=λ_=>aa5 ae) ?_;refine zg ?_;refine zf hm (λj=>[.u 1,.m 1 l (D.int .i64),.u 2,.i u,.p 1 1,.u 1,.i i,.i (w.us[u]!.ar.length:Nat),.i ((jF w.us l u)),.u 1,.i j,.o 2 1 (kN w.us[u]!.ar.length (jF w.us l u) i).length,.u 1,.e (.bool (pd (λk=>decide ((kN w.us[u]!.ar.length (jF w.us l u) i)[k]! =(FQ w.us[u]!.ar.length (jF w.us l u) i))) 0 j)),.i ((FQ w.us[u]!.ar.length (jF w.us l u) i)),.u 1,.o 0 1 (qq w.us l u).length]) (λj=>[(0,.buf 1 ((qq w.us l u).map jW)),(1,.buf 1 [bP.D w]),(2,.buf 1 ((kN w.us[u]!.ar.length (jF w.us l u) i).map (D.int .i64)))]) 48 (λj=>j<=(kN w.us[u]!.ar.length (jF w.us l u) i).length) (λj=>(kN w.us[u]!.ar.length (jF w.us l u) i).length-j) ae [(0,0),(1,1),(2,2)] ?_;intro j hj;refine zg ?_;intro _;refine dF ?_ ?_<;>intro hc3
   .refine qH ?_;refine ym (q:=D.int .i64) (xs:=(kN w.us[u]!.ar.length (jF w.us l u) i)) (v:=.int .i64 (kN w.us[u]!.ar.length (jF w.us l u) i)[j]!) (hi:=λ_=>ae) (hv:=λ_=>uT) ?_;refine zg ?_;rw[Yx ae];exact iw (j+1) [(0,0),(1,1),(2,2)]
   refine c7 ?_;obtain rfl:j=(kN w.us[u]!.ar.length (jF w.us l u) i).length:=ae;refine zc ?_ ?_<;>intro hc4
   .refine dR ?_;refine bm [.int .i64 (FQ w.us[u]!.ar.length (jF w.us l u) i)] ?_;refine cQ (q:=D.int .i64) (xs:=(kN w.us[u]!.ar.length (jF w.us l u) i)) (e:=(FQ w.us[u]!.ar.length (jF w.us l u) i)) (hb:=ae) ?_;refine zg ?_;rw[alu hc4];refine zl (i+1) [(0,0),(1,1),(57,2)] ?_;exact(by unfold yf;omega)
   refine zg ?_;rw[als hc4];refine zl (i+1) [(0,0),(1,1),(2,2)] ?_;exact(by unfold yf;omega)
  refine c7 ?_;obtain rfl:i=yf w.us[u]!.ar.length (jF w.us l u):=by unfold yf at hi⊢;omega
  rw[show kN w.us[u]!.ar.length (jF w.us l u) (yf w.us[u]!.ar.length (jF w.us l u))=FP w.us l u from rfl]at hil⊢;refine bG 2 ?_ (he:=Lo) (hm:=Lo);refine dR ?_;refine bm [jW (FP w.us l u)] ?_;refine cQ (q:=jW) (xs:=(qq w.us l u)) (e:=FP w.us l u) (hb:=ae) ?_;refine zg ?_;rw[ae9];exact iw (u+1) [(39,0),(1,1)]
 refine c7 ?_;obtain rfl:u=w.us.length:=ae;rw[<-ord_e ae];refine bG 0 ?_ (he:=Lo) (hm:=Lo);exact lL
def wH:aj:=bd 174
def w909 (hm:(Y.at 3).bU)(y:cu)(ns:Ψ)(nm:aw)(hA:C627 (Y.at 3))(hB:af9 (Y.at 3))(hC:aga (Y.at 3))(hD:agb (Y.at 3))(hE:agc (Y.at 3))(hp0:p0 y):dD (Y.at 3) wH.body (uV wH (LH y ns (u7 (dc y nm))):Ex->Φ->St->Prop) (fV wH [cu.D y (.ptr 0 2 0 0),.str nm]) ⟨3,[(0,.buf 2 [eS 1 2 ns.length]),(1,.buf 1 (ns.map D.str)),(2,.buf 1 (dn y ns))]⟩:=by
 show dD _ _ _ [⟨true,cu.D y (.ptr 0 2 0 0)⟩,⟨true,.str nm⟩,.un,.un,.un,.un,.un,.un,.un,.un,.un,.un,.un,.un,.un] ⟨3,[(0,.buf 2 [eS 1 2 ns.length]),(1,.buf 1 (ns.map D.str)),(2,.buf 1 (dn y ns))]⟩;refine aS ?_;refine qH ?_;refine aE (hc:=hB (y.l) (nm) Lh) ?_;refine zc ?_ ?_<;>intro hc0
 .refine c7 ?_;obtain⟨j,hj,hjl⟩:=(rl y.l nm).resolve_left ae;refine kv ?_;refine bc (qM.D ⟨y.l[j]!.r,-1⟩) ?_;refine bm [qM.D ⟨y.l[j]!.r,-1⟩] ?_;refine c7 ?_;refine bG 19 ?_;refine zg ?_;refine eB trivial jJ (dp ai (?_)) ai ⟨by first|(rw[Zb hj];done)|(rw[Zb hj];exact rfl),1,2,⟨ae,ae,ae⟩,tx⟩;rfl
 refine pW ?_;refine aE (hc:=hC (y.shop) (y.pins) (nm) Lh) ?_;refine F1 ?_;refine aE (hc:=hD (y.l) (nm) Lh) ?_;refine fA ?_;refine cE _ ?_;refine zg ?_;refine zf hm (λi=>[.u 1,.e (.str nm),.u 1,.p 3 8,.u 2,.i i,.m 1 (cA y.shop y.pins nm).2.1 (D.int .i64),.i ((cA y.shop y.pins nm).2.2),.u 1,.i ((cA y.shop y.pins nm).1),.u 1,.p 4 2,.u 1,.o 5 10 (gZ y nm (cA y.shop y.pins nm).1.toNat ((cA y.shop y.pins nm).2.1.take i)).length]) (λi=>[(0,.buf 2 [eS 1 2 ns.length]),(1,.buf 1 (ns.map D.str)),(2,.buf 1 (dn y ns)),(3,.buf 8 [cu.D y (.ptr 0 2 0 0)]),(4,.buf 2 [cy.D (kW y.l nm)]),(5,.buf 10 ((gZ y nm (cA y.shop y.pins nm).1.toNat ((cA y.shop y.pins nm).2.1.take i)).map qM.D))]) 20 (λi=>i<=(cA y.shop y.pins nm).2.1.length) (λi=>(cA y.shop y.pins nm).2.1.length-i) ae [(3,3),(32,4)] ?_;intro i hi;have hll:=(oA (y:=y) (nm:=nm) (a:=(cA y.shop y.pins nm).1.toNat) ((cA y.shop y.pins nm).2.1.take i)).1;have hl64:=aeN y nm;rw[eE]at hll;refine zg ?_;intro u0;refine dF ?_ ?_<;>intro hc1
 .refine dR ?_;obtain⟨j,hj,hjl,t,ht,htl,hxs⟩:=akV hp0 (nm:=nm) (i:=i) hc1.2 ae;refine F3 ?_;refine cE _ ?_;refine yZ ?_;refine ca (hc:=λhf=>hE y ns y.shop[j]!.es[t]!.r ⟨hp0.2.2.1,hxs⟩) (ha:=λ_=>by exact af3 y ns ⟨rfl,rfl,rfl⟩) (hp:=λ_=>by exact abU y ns ⟨rfl,rfl,rfl⟩ jJ) ?_;refine kv ?_;refine ca (hc:=λhf=>hA (kW y.l nm) y.shop[j]!.es[t]!.r.v ⟨Yz _ _,hxs⟩) ?_;refine zc ?_ ?_<;>intro hc2
  .refine j7 ?_;refine bc (qM.D ⟨y.shop[j]!.es[t]!.r,(cA y.shop y.pins nm).1⟩) ?_;refine bm [qM.D ⟨y.shop[j]!.es[t]!.r,(cA y.shop y.pins nm).1⟩] ?_;refine cQ (q:=qM.D) (xs:=(gZ y nm (cA y.shop y.pins nm).1.toNat ((cA y.shop y.pins nm).2.1.take i))) (e:=⟨y.shop[j]!.es[t]!.r,(cA y.shop y.pins nm).1⟩) (hb:=ae) ?_;refine zg ?_;rw[aeM hj ae ht hc2];exact iw (i+1) [(3,3),(4,4),(64,5)]
  refine zg ?_;rw[aeL hj ae ht hc2];exact iw (i+1) [(3,3),(4,4),(5,5)]
 refine c7 ?_;rw[akS ae hi hc1];refine bG 5 ?_ (he:=ab3) (hm:=ab3);refine zg ?_;refine eB trivial jJ (dp ai (?_)) ai ⟨dh,1,2,⟨ae,ae,ae⟩,tx⟩;rfl
def Qx:aj:=bd 252
def w1084 (hA:O0 Y)(hB:Um Y):Fj (ct Y Qx):=λs nm hp0=>by
 refine zc ?_ ?_<;>intro hc0
 .refine zr ?_;rw[show jk s nm=[]from ak hc0];rfl
 refine zg ?_;refine zf hm (λi=>[.u 1,.e (.str nm),.u 1,.p 1 2,.u 1,.i i,.u 3,.o 0 1 ((eG s.es nm i)).length,.u 1]) (λi=>[(0,.buf 1 (((eG s.es nm i)).map (D.int .i64))),(1,.buf 2 [bz.D s])]) 7 (λi=>i<=s.es.length) (λi=>s.es.length-i) ae [(0,1)] ?_;intro i hi;have hlt:=xR s.es nm i;refine zg ?_;intro u0;refine dF ?_ ?_<;>intro hc1
 .refine fA ?_;have h64:=TJ hc0;refine zg ?_;refine aQ (λhc2=>?_) (λhc2=>?_)
  .simp only[gR]at hc2;refine zg ?_;rw[aeJ hc2];exact iw (i+1) [(0,0),(1,1)]
  try simp only[gR]at hc2
  refine c9 ?_;refine bG 0 ?_;refine zg ?_;refine zf hm (λk=>[.u 1,.e (.str nm),.u 1,.p 0 2,.u 1,.i i,.u 2,.i k,.m 1 (eG s.es nm i) (D.int .i64),.u 1]) (λk=>[(0,.buf 2 [bz.D s])]) 22 (λk=>k<=(eG s.es nm i).length/\zm s.es (eG s.es nm i) i 0=zm s.es (eG s.es nm i) i k) (λk=>(eG s.es nm i).length-k) ⟨ae,rfl⟩ [(1,0)] ?_;rintro k ⟨hk,hr⟩;refine F3 ?_;refine cD ((eG s.es nm i)[k]!).toNat (hj:=λhf=>by
    have hkl:k<(eG s.es nm i).length:=by simp at hf;omega
    have hkr:=hlt.2 _ (aq hkl);omega) (hb:=λhf=>by
    have hkl:k<(eG s.es nm i).length:=by simp at hf;omega
    have hkr:=hlt.2 _ (aq hkl);omega) ?_
  refine c7 ?_;refine dj (v:=b6.D s.es[((eG s.es nm i)[k]!).toNat]!.r.v) (hi:=λhf=>by
    have hkl:k<(eG s.es nm i).length:=by simp at hf;omega
    have hkr:=hlt.2 _ (aq hkl);omega) ?_
  refine pW ?_;refine ca (hc:=λhf=>hB s.es[((eG s.es nm i)[k]!).toNat]!.r.v s.es[i]!.r.v (by
    have hkl:k<(eG s.es nm i).length:=by simp at hf;omega
    have hkr:=hlt.2 _ (aq hkl);exact⟨(hp0 _ (aq ae)).1.2,(hp0 _ (aq ae)).1.2⟩)) ?_
  refine zc ?_ ?_<;>intro hc3
  .refine fX (k+1) [(0,0)] ?_;rw[hr,U9 ae hc3.2]
  refine dR ?_;have hk2:zm s.es (eG s.es nm i) i 0=k:=by rw[hr];exact Va (λh=>by rcases hc3 with h1|h1;omega;exact h1)
  refine dR ?_;refine Cl (he:=n9.sl) (n:=((eG s.es nm i).take k).length) (hn:=aJ) (hb:=Ak) ?_;refine c9 ?_;refine bm [.int .i64 ((i:Nat):Int)] ?_;refine cQ (q:=D.int .i64) (xs:=(eG s.es nm i).take k) (e:=((i:Nat):Int)) (hb:=Ak) ?_;refine dR ?_;refine pO (q:=D.int .i64) (xs:=(eG s.es nm i).take k++[((i:Nat):Int)]) (ys:=(eG s.es nm i).drop k) (he:=n9.sl) (hb:=RJ) ?_;refine zg ?_;rw[aey hk2,aeK hc2];exact iw (i+1) [(57,0),(0,1)]
 refine c7 ?_;obtain rfl:i=s.es.length:=ae;rw[aeI hc0];refine bG 0 ?_;exact lL
def QE:aj:=bd 12
def w360 (hA:WI Y)(hB:C581 Y):J1 (ct Y QE):=λl hp0=>by
 refine c9 ?_;have hya:=yS hp0;refine bL ?_;refine bL ?_;refine bg (env':=[_,⟨_,.aO⟩,⟨_,(.int _ _)⟩,_,_,_,_,_,_,_,_,_,_]) ?_;refine gu ?_;refine aS ?_;refine bL ?_;refine aE (hc:=hA (l) (by first|assumption|omega)) ?_;refine bL ?_;refine lh (.int _ _) ?_;refine lh (.int _ _) ?_;refine bL ?_;refine bL ?_;refine bg (env':=[_,_,_,⟨_,(.int _ _)⟩,_,_,_,_,_,_,_,_,_]) ?_;refine gu ?_;refine aS ?_;refine bL ?_;refine oK ?_;refine bg (env':=[_,_,_,_,⟨_,(.bool _)⟩,_,_,_,_,_,_,_,_]) ?_;refine dF ?_ ?_<;>intro hc0
 .exact absurd trivial hc0
 refine dR ?_;refine bg (env':=[_,_,_,_,_,_,_,_,_,⟨_,.aO⟩,_,_,_]) ?_;refine iu (a8.nz _ [_,_,_,_,_,_,_,_,_,⟨true,.sl 2 []⟩,_,_,_] _ _ _ ⟨⟨rfl,.refl _⟩,⟨rfl,.refl _⟩,⟨rfl,.refl _⟩,⟨rfl,.refl _⟩,⟨rfl,.refl _⟩,⟨rfl,.refl _⟩,⟨rfl,.refl _⟩,⟨rfl,.refl _⟩,⟨rfl,.refl _⟩,⟨rfl,.nil 2⟩,⟨rfl,.refl _⟩,⟨rfl,.refl _⟩,⟨rfl,.refl _⟩,trivial⟩ RY.nil) ?_;refine dR ?_;refine bg (env':=[_,_,_,_,_,⟨_,(.int _ _)⟩,_,_,_,_,_,_,_]) ?_;refine zf hm (λi=>[.m 11 l gI.D,.u 4,.i i,.u 3,.m 2 ((fm l).take (if i=0 then 0 else(fm l).length)) gY.D,.u 3]) (λi=>[]) 13 (λi=>i<=l.length) (λi=>l.length-i) ae [] ?_;intro i hi;refine zg ?_;intro u0;refine dF ?_ ?_<;>intro hc1
 .refine dR ?_;obtain rfl:i=0:=by have:=hya.1;omega
  obtain⟨hyp1,hyp2,hyp3,hyp4⟩:=ue hp0 (i:=0) ae;rw[ak rfl];refine zg ?_;refine zfL hm (λk=>[.m 11 l gI.D,.u 4,.i 0,.u 1,.i k,.u 1,.m 2 ((fm l).take k) gY.D,.u 3]) (λk=>[]) 18 (λk=>k<=(fm l).length) (λk=>(fm l).length-k) ae [] ?_;intro k hk;refine pW ?_;refine dj (v:=.sl 2 ((fm l).map gY.D)) (hi:=λ_=>ae) ?_;refine zg ?_;intro u1;refine dF ?_ ?_<;>intro hc2
  .refine dR ?_;have hk0:k=0:=by have:(fm l).length<=1:=hyp3;omega
   have hpp:=Z1 hk0 (l:=fm l) ae;refine j7 ?_;refine dj (v:=.sl 2 ((fm l).map gY.D)) (hi:=λ_=>ae) ?_;refine zc ?_ ?_<;>intro hc3
   .exfalso;rw[hpp]at hc3;exact absurd hc3 aJ
   refine zg ?_;rw[hpp];exact iw (k+1) []
  refine zg ?_;obtain rfl:k=(fm l).length:=ae;exact iw (0+1) []
 refine zr ?_;rw[ah (by have:=hya.1;omega),List.take_length];rfl
def MN:aj:=bd 8
def w91 (hm:(Y.at 0).bU)(hA:C114 Y)(hB:C147 Y)(hC:C267 Y)(hD:C268 Y)(hE:C269 Y):Rz (ct Y MN):=λm shop e os hp0=>by
 refine c9 ?_;refine yl ?_;refine yl ?_;refine bL ?_;refine bL ?_;refine bg (env':=[_,_,_,_,⟨_,_⟩,⟨_,.aO⟩,⟨_,(.bool _)⟩,⟨_,_⟩,_,_,_,_,_]) ?_;refine aS ?_;refine bL ?_;refine bL ?_;refine mH (d:=Env.D e) ?_;refine aE (hc:=hB [m] shop e [] hp0) ?_;refine bL ?_;refine lh (bP.D _) ?_;refine lh (.int _ _) ?_;refine yl ?_;refine cE (bP.D (dt m shop e).1) (he:=dh) ?_;refine bL ?_;refine bg (env':=[_,_,_,_,_,_,_,_,⟨_,(.int _ _)⟩,⟨_,_⟩,_,_,_]) ?_;refine gu ?_;refine aS ?_;refine bL ?_;refine oK ?_;refine bL ?_;refine mH (d:=bP.D ((dt m shop e).1)) ?_;refine ca (hc:=λhf=>hA (dt m shop e).1 (oc hp0.1 (by simpa using hf)).1.sm) ?_;refine pP ?_;refine Nq ?_;refine bg (env':=[_,_,_,_,_,_,_,_,_,_,⟨_,(.bool _)⟩,_,_]) ?_;refine dF ?_ ?_<;>intro hc0
 .refine zg ?_;refine zr ?_;rw[tf (by rcases hc0 with h|h;exact .inl h;exact .inr ae)];rfl
 refine gv ?_;refine aS ?_;have hB0:=hc0.1;have hc0n:(dt m shop e).2=0/\¬5000<wC (dt m shop e).1.us:=⟨hc0.1,ae⟩;have hfp:=UQ hp0.1 hB0 os;refine fA ?_;refine bW _ ?_;refine aE (hc:=hC (dt m shop e).1 (iq (dt m shop e).1.us os) hfp) ?_;refine j7 ?_;refine aaw (λbq hbq=>?_) (hs:=Ta _);refine zg ?_;refine aQ (λhc1=>?_) (λhc1=>?_)
 .have hbt:bq=true:=hc1;have hn:=(Mc hp0.1 hB0 hbq).1 hbt;refine zr ?_;rw[tg hc0n hn];rfl
 have hbf:bq=false:=hc1;obtain⟨d,hd⟩:=(Mc hp0.1 hB0 hbq).2 hbf;have hdl:=UP hp0.1 hB0 hd;rw[hd];refine zr ?_;rw[th hc0n hd];rfl
def NJ:aj:=bd 57
def w345 (hA:Hy Y)(hB:C572 Y):JX (ct Y NJ):=λl hp0=>by
 refine zg ?_;refine zf hm (λi=>[.m 2 l kP.D,.u 2,.i i,.u 3]) (λi=>[]) 3 (λi=>i<=l.length/\Df l=gU (Dd l) i l.length) (λi=>l.length-i) ⟨ae,rfl⟩ [] ?_;rintro i ⟨hi,hr⟩;refine zg ?_;intro u0;refine dF ?_ ?_<;>intro hc0
 .refine iz ?_;refine fA ?_;refine cD (i-1) (hj:=λhf=>Cv) (hb:=λhf=>Cv) ?_;refine zg ?_;refine aQ (λhc1=>?_) (λhc1=>?_)
  .simp only[gR]at hc1;simp only[gt_iff_lt,Int.natCast_pos]at hc1;have hz:=aer hc1;refine zg ?_;refine fQ (bZ (ay (D.int .i64) ?_) (ay (D.int .i64) ?_));all_goals rw[hr,gV ae (by rw[hz];decide),hz]
  simp only[gR]at hc1;simp only[gt_iff_lt,Int.natCast_pos]at hc1;have hq:¬(di l[i]!.name=false\/(0<i/\Op.bytesLess l[i-1]!.name l[i]!.name=false)):=by rintro(h|⟨h,h2⟩)<;>simp_all
  refine zg ?_;refine wp_cond (λhc2=>?_) (λhc2=>?_)
  .simp only[gR]at hc2;have hz:=aes hq hc2;refine zg ?_;refine fQ (bZ (ay (D.int .i64) ?_) (ay (D.int .i64) ?_));all_goals rw[hr,gV ae (by rw[hz];decide),hz]
  simp only[gR]at hc2;have hz:=YA hq hc2;refine fX (i+1) [] ?_;rw[hr,kE ae hz]
 refine zg ?_;refine fQ (bZ (ay (D.int .i64) ?_) (ay (D.int .i64) ?_));all_goals rw[hr,kD ae]
def FW:aj:=⟨2,7,[⟨2,none⟩],H0,(sq (rg [gb 2 s1,gm HO] [(5,0),(2,1)]) (sq (sq (r1 [gm vx] 3 0) (.block 0 (.loop (sq (sq (r1 [gm s3,gm s0,gl l1,kj l0 l2] 4 3) (UT s4 0)) (sq (.block 1 (sq (r2 [gm s0,gm s3,ga 2 l0 l1,gk 2 true l2,gk 2 true s5,gn (.eqA false true [.i .i64,.i .i64] l3 l4)] 6 5) (.cond s6 (sq (r1 [gm cbT] 2 0) .ret) .skip))) (r1 [gm s3,lS l0 Mq,gm l1] 3 2)))))) (sq (r1 [gm HO] 2 0) .ret)))⟩
def w831:K4 (ct Y FW):=λl o=>by
 refine zg ?_;refine zf hm (λi=>[.m 2 l ek.D,.u 2,.i i,.u 1,.p 0 2,.u 1]) (λi=>[(0,.buf 2 [ek.D o])]) 3 (λi=>i<=l.length/\offB l o=pd (λi=>decide (l[i]! =o)) i l.length) (λi=>l.length-i) ⟨ae,rfl⟩ [(0,0)] ?_;rintro i ⟨hi,hr⟩;refine zg ?_;intro u0;refine dF ?_ ?_<;>intro hc0
 .refine zc ?_ ?_<;>intro hc1
  .refine zr ?_;rw[hr,j9 ae,aY hc1,Bool.true_or]
  refine fX (i+1) [(0,0)] ?_;rw[hr,j9 ae,bA hc1,Bool.false_or]
 refine zr ?_;rw[hr,tC ae]
def IW:aj:=bd 180
def w72 (hm:(Y.at 0).bU)(hA:C70 Y)(hB:C215 Y):Ae (ct Y IW):=λr hp0=>by
 refine zc ?_ ?_<;>intro hc0
 .refine zg ?_;refine fQ (bZ (ay D.str ?_) (ay (D.int .i64) ?_));all_goals
   simp[fJ,hc0]
 refine c7 ?_;have hgd:=mr hc0;refine zg ?_;refine fQ (bZ (ay D.str ?_) (ay (D.int .i64) ?_));all_goals
  simp[fJ,hc0]
def Qp:aj:=bd 135
def w74 (hm:(Y.at 0).bU)(hA:C72 Y)(hB:C220 Y):Af (ct Y Qp):=λr hp0=>by
 refine zc ?_ ?_<;>intro hc0
 .refine zg ?_;refine fQ (bZ (ay (D.int .u64) ?_) (ay (D.int .i64) ?_));all_goals
   simp[wQ,hc0]
 refine fA ?_;refine aE (hc:=hB (fJ r).1) (ha:=λ_=>ay (λd=>[d]) (ud (q:=λb:UInt8=>D.int .u8 b.toNat) (λ_=>rfl) ai)) (hp:=λ_=>⟨qD (q:=λb:UInt8=>D.int .u8 b.toNat) (λ_=>rfl) ai,trivial⟩) ?_;refine zg ?_;refine fQ (bZ (ay (D.int .u64) ?_) (ay (D.int .i64) ?_));all_goals
  simp[wQ,hc0]
def NK:aj:=bd 33
def w143 (hA:C136 Y)(hB:C356 Y):JA (ct Y NK):=λl hp0=>by
 refine c9 ?_;have hya:=yS hp0;refine zg ?_;intro u0;refine dF ?_ ?_<;>intro hc0
 .exfalso;have:=hya.1;omega
 refine zg ?_;intro u1;refine dF ?_ ?_<;>intro hc1
 .exfalso;have:=hya.1;omega
 refine zg ?_;refine zf hm (λi=>[.m 11 l gI.D,.u 4,.i i,.u 4]) (λi=>[]) 9 (λi=>i<=l.length) (λi=>l.length-i) ae [] ?_;intro i hi;refine zg ?_;intro u2;refine dF ?_ ?_<;>intro hc2
 .refine fA ?_;have hmi:=hya.2 i ae;have hck:=akX hmi;refine fA ?_;refine aE (hc:=hA l[i]! hmi.1.2) ?_;refine zc ?_ ?_<;>intro hc3
  .exfalso;rw[hck]at hc3;exact absurd rfl hc3
  refine zc ?_ ?_<;>intro hc4
  .exfalso;rw[Rr hp0 ae]at hc4;exact absurd rfl hc4
  exact iw (i+1) []
 exact lL
def QH:aj:=bd 222
def w1015 (hA:C501 Y):Fg (ct Y QH):=λy ns r hp0=>by
 refine zg ?_;refine zf hm (λi=>[.u 3,.i i,.p 0 8,.u 1,.p 1 9,.u 1]) (λi=>[(0,.buf 8 [cu.D y (fdR y ns)]),(1,.buf 9 [Rec.D r])]) 4 (λi=>i<=y.keeps.length/\AE y.keeps r=(y.keeps.drop i).any λk=>decide (k.name=r.name)&&Iw k.v r.v) (λi=>y.keeps.length-i) ⟨ae,rfl⟩ [(0,0),(1,1)] ?_;rintro i ⟨hi,hr⟩;refine zg ?_;intro u0;refine dF ?_ ?_<;>intro hc0
 .refine zc ?_ ?_<;>intro hc1
  .refine zr ?_;rw[hr,xg ae oY]
  refine fX (i+1) [(0,0),(1,1)] ?_;rw[hr,CE ae (by rcases hc1 with h|h<;>simp_all)]
 refine zr ?_;rw[hr,xf ae]
def aaQ:aj:=bd 167
def w816 (hm:(Y.at 0).bU)(hA:C955 Y):K1 (ct Y aaQ):=λl nm=>by
 exact lL
end Go.Abs
end
