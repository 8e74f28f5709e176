/- A part of the proofs. -/
import Derived.Test.YtfijeeijkndliaaGreatDoorP07
set_option linter.all false
set_option maxRecDepth 60000
set_option maxHeartbeats 2000000
namespace Go.Abs
variable {Y:Ctx}(hm:(Y.at 0).cP)
noncomputable def FY:aN:=dy 198
def w812 (h357:GV Y)(h815:VM Y)(l:List av)(al:Bool)   :dX Y FY (.bool (kE l al)) [.sl 1 (l.map D.str),.bool al]:=by
 show cg _ _ _ [⟨_,_⟩,⟨_,_⟩,_,_,_,_] _;refine ay ?_;refine aQ ?_;refine br hm (ι:=Nat) (fun i=>[⟨true,.sl 1 (l.map D.str)⟩,⟨true,.bool al⟩,.un,⟨true,.int .i64 (i:Nat)⟩,.un,.un]) (fun i=>[]) 2 (fun i=>i<=l.length/\kE l al=(c9 (fun i=>dj l[i]!) i l.length&&((decide (l.length<=6)&&rising l)&&(al ||decide (l.length=0))))) (fun i=>l.length-i) 0 ⟨ae,(wf_2 l al).symm⟩ (dQ []) ?_;rintro i ⟨hi,hr⟩;refine aU ?_;intro u0;refine aD ?_;refine di (fun hc0=>?_) fun hc0=>?_
 .refine bw ?_;refine au (hc:=h357 _) ?_;refine aD ?_;refine wp_cond (fun hc1=>?_) (fun hc1=>?_)
  .simp only[bE]at hc1;refine aQ ?_;refine cd ?_;rw[hr,bc ae,hc1];rfl
  simp only[cq]at hc1;refine bW ?_;exact⟨i+1,⟨ae,by rw[hr,bc ae,hc1];rfl⟩,ae,(dQ [])⟩
 refine aU ?_;intro u1;refine aF ?_;refine au (hc:=h815 _) ?_;refine aU ?_;refine gN ?_;refine aQ ?_;refine cd ?_;rw[hr,cL ae,gM,jO.2 (show((l.length:Nat):Int)<=6↔l.length<=6 by omega),jO.2 (show((l.length:Nat):Int)=0↔l.length=0 by omega)]
noncomputable def SY:aN:=dy 168
def w669 {Y:Ctx}(hm:(Y.at 0).cP)(h216:GR Y)(h572:NY Y)(h812:YT Y)(r:Rec)(w:bX)(al:Bool)  (hp0:w.sm):dX Y SY (.int .i64 (kH r w al)) [Rec.D r,bX.D w,.bool al]:=by
 show cg _ _ _ [⟨_,_⟩,⟨_,_⟩,⟨_,_⟩,_,_,_,_,_,_,_] _;refine ay ?_;refine bW ?_;refine au (hc:=h216 _) ?_;refine aF ?_;refine iI (fun hc0=>?_) fun hc0=>?_
 .refine aU ?_;refine gu ?_;have hw:gS r w.name w.range=4:=by rw[gS,aC hc0]
  rw[kH,aC (by rw[hw];decide),hw]
 refine bW ?_;refine iI (fun hc1=>?_) fun hc1=>?_
 .refine aU ?_;refine gu ?_;have hw:gS r w.name w.range=8:=by rw[gS,ar (by simp[hc0]),aC hc1]
  rw[kH,aC (by rw[hw];decide),hw]
 refine aF ?_;refine au (hc:=h572 w.range hp0.1.2) ?_;refine aF ?_;refine wp_cond (fun hc2=>?_) (fun hc2=>?_)
 .try simp only[cX]at hc2
  refine aU ?_;refine gu ?_;have hw:gS r w.name w.range=6:=by rw[gS,ar (by simp[hc0]),ar hc1,aC hc2]
  rw[kH,aC (by rw[hw];decide),hw]
 simp only[cq]at hc2;have hw0:gS r w.name w.range=0:=by rw[gS,ar (by simp[hc0]),ar hc1,ar (by simp[hc2])]
 refine aK ?_;refine au (hc:=h812 w.feats al) ?_;refine aF ?_;refine iI (fun hc3=>?_) fun hc3=>?_
 .refine aU ?_;refine gu ?_;rw[kH,ar (by simp[hw0]),aC hc3]
 refine aQ ?_;refine gu ?_;rw[kH,ar (by simp[hw0]),ar (by simp[hc3])]
noncomputable def SU:aN:=dy 116
def w457 (h357:GV Y)(h669:YH Y)(h670:VH Y)(r:Rec)(n:bo)  (hp0:n.sm):dX Y SU (.int .i64 (jS r n)) [Rec.D r,bo.D n]:=by
 show cg _ _ _ [⟨_,_⟩,⟨_,_⟩,_,_,_,_,_,_,_,_,_,_,_] _;refine ay ?_;refine dJ ?_;intro u0;refine aD ?_;refine di (fun hc0=>?_) fun hc0=>?_
 .refine aU ?_;refine gu ?_;rw[jS,aC ae]
 refine aQ ?_;intro u1;refine aD ?_;refine di (fun hc1=>?_) fun hc1=>?_
 .refine aU ?_;refine gu ?_;rw[jS,ar ae,aC ae]
 refine aU ?_;refine br hm (ι:=Nat) (fun i=>[.un,.un,.un,⟨true,.ptr 1 3 0 0⟩,.un,.un,⟨true,.int .i64 (i:Nat)⟩,.un,⟨true,.ptr 0 9 0 0⟩,.un,.un,.un,.un]) (fun i=>[(0,.buf 9 [Rec.D r]),(1,.buf 3 [bo.D n])]) 12 (fun i=>i<=n.any.length/\nW r n.any=kO (fun i=>kH r n.any[i]! (decide ((n.any.length:Int)=1))) i n.any.length) (fun i=>n.any.length-i) 0 ⟨ae,rfl⟩ (dQ [(0,0),(1,1)]) ?_;rintro i ⟨hi,hr⟩;refine aQ ?_;intro u2;refine aD ?_;refine di (fun hc2=>?_) fun hc2=>?_
 .refine bw ?_;refine bz i ?_;first|refine bp (v:=(bX.D _)) ?_|refine gI (v:=(bX.D _)) ?_
  refine aD ?_;refine gN ?_;refine aE ?_;refine au (hc:=h669 r n.any[i]! _ (hp0.1 _ (bL ae))) ?_;refine aQ ?_;refine iI (fun hc3=>?_) fun hc3=>?_
  .refine bw ?_;refine gu ?_;have hw:nW r n.any=kH r n.any[i]! (decide ((n.any.length:Int)=1)):=by rw[hr,qn ae hc3]
   rw[jS,ar ae,ar ae,aC (by rw[hw];exact hc3),hw]
  refine bW ?_;exact⟨i+1,⟨ae,by rw[hr,rR ae hc3]⟩,ae,(dQ [(0,0),(1,1)])⟩
 refine aK ?_;have hw0:nW r n.any=0:=by rw[hr,rQ ae]
 refine aD ?_;refine au (hc:=h670 _) ?_;refine aD ?_;refine az (fun hc4=>?_) (fun hc4=>?_)
 .try simp only[cX]at hc4
  refine aU ?_;refine gu ?_;rw[jS,ar ae,ar ae,ar (by simp[hw0]),aC hc4]
 simp only[cq]at hc4;refine dJ ?_;refine au (hc:=h357 _) ?_;refine aF ?_;refine az (fun hc5=>?_) (fun hc5=>?_)
 .try simp only[cX]at hc5
  refine aU ?_;refine gu ?_;rw[jS,ar ae,ar ae,ar (by simp[hw0]),ar (by simp[hc4]),aC hc5]
 simp only[ef,cq,bh]at hc5;refine aU ?_;refine gu ?_;rw[jS,ar ae,ar ae,ar (by simp[hw0]),ar (by simp[hc4]),ar (by rintro⟨g1,g2⟩;rcases hc5 with h|h;exact g1 h;rw[g2]at h;cases h)]
noncomputable def Xg:aN:=dy 117
def w458 {Y:Ctx}(hm:(Y.at 0).cP)(h216:GR Y)(h572:NY Y)(h670:VH Y)(r:Rec)(b:fZ)  (hp0:b.sm):dX Y Xg (.int .i64 (rH r b)) [Rec.D r,fZ.D b]:=by
 show cg _ _ _ [⟨_,_⟩,⟨_,_⟩,_,_,_,_,_,_,_] _;refine ay ?_;refine bW ?_;refine au (hc:=h216 _) ?_;refine aF ?_;refine iI (fun hc0=>?_) fun hc0=>?_
 .refine aU ?_;refine gu ?_;have hw:gS r b.name b.range=4:=by rw[gS,aC hc0]
  rw[rH,aC (by rw[hw];decide),hw]
 refine bW ?_;refine iI (fun hc1=>?_) fun hc1=>?_
 .refine aU ?_;refine gu ?_;have hw:gS r b.name b.range=8:=by rw[gS,ar (by simp[hc0]),aC hc1]
  rw[rH,aC (by rw[hw];decide),hw]
 refine aF ?_;refine au (hc:=h572 b.range hp0.2.1) ?_;refine aF ?_;refine wp_cond (fun hc2=>?_) (fun hc2=>?_)
 .try simp only[cX]at hc2
  refine aU ?_;refine gu ?_;have hw:gS r b.name b.range=6:=by rw[gS,ar (by simp[hc0]),ar hc1,aC hc2]
  rw[rH,aC (by rw[hw];decide),hw]
 simp only[cq]at hc2;have hw0:gS r b.name b.range=0:=by rw[gS,ar (by simp[hc0]),ar hc1,ar (by simp[hc2])]
 refine aF ?_;refine au (hc:=h670 _) ?_;refine aF ?_;refine iI (fun hc3=>?_) fun hc3=>?_
 .refine aU ?_;refine gu ?_;rw[rH,ar (by simp[hw0]),aC hc3]
 refine aQ ?_;refine gu ?_;rw[rH,ar (by simp[hw0]),ar (by simp[hc3])]
noncomputable def J0:aN:=dy 173
def w673  (r:Rec)(x:av)   :dX Y J0 (.bool (Mm r.needs x)) [Rec.D r,.str x]:=by
 show cg _ _ _ [⟨_,_⟩,⟨_,_⟩,_,_,_,_,_] _;refine ay ?_;refine bw ?_;refine br hm (ι:=Nat) (fun i=>[.un,⟨true,.str x⟩,.un,⟨true,.int .i64 (i:Nat)⟩,⟨true,.ptr 0 9 0 0⟩,.un,.un]) (fun i=>[(0,.buf 9 [Rec.D r])]) 3 (fun i=>i<=r.needs.length/\Mm r.needs x=(r.needs.drop i).any (fun n=>decide (n.option=x))) (fun i=>r.needs.length-i) 0 ⟨ae,rfl⟩ (dQ [(0,0)]) ?_;rintro i ⟨hi,hr⟩;refine aQ ?_;intro u0;refine aD ?_;refine di (fun hc0=>?_) fun hc0=>?_
 .refine aQ ?_;refine bz i ?_;refine aU ?_;refine iI (fun hc1=>?_) fun hc1=>?_
  .refine aQ ?_;refine cd ?_;rw[hr,Ja (c:=fun n:bo=>decide (n.option=x)) ae (bY hc1)]
  refine bW ?_;exact⟨i+1,⟨ae,by rw[hr,RU (c:=fun n:bo=>decide (n.option=x)) ae (cy hc1)]⟩,ae,(dQ [(0,0)])⟩
 refine aQ ?_;refine cd ?_;rw[hr,I9 ae]
noncomputable def J1:aN:=dy 174
def w674  (r:Rec)(x:av)   :dX Y J1 (.bool (B2 r.needs x)) [Rec.D r,.str x]:=by
 show cg _ _ _ [⟨_,_⟩,⟨_,_⟩,_,_,_,_,_] _;refine ay ?_;refine bw ?_;refine br hm (ι:=Nat) (fun i=>[.un,⟨true,.str x⟩,.un,⟨true,.int .i64 (i:Nat)⟩,⟨true,.ptr 0 9 0 0⟩,.un,.un]) (fun i=>[(0,.buf 9 [Rec.D r])]) 3 (fun i=>i<=r.needs.length/\B2 r.needs x=(r.needs.drop i).any (fun n=>decide (n.any.length=1)&&decide (n.any[0]!.name=x))) (fun i=>r.needs.length-i) 0 ⟨ae,rfl⟩ (dQ [(0,0)]) ?_;rintro i ⟨hi,hr⟩;refine aQ ?_;intro u0;refine aD ?_;refine di (fun hc0=>?_) fun hc0=>?_
 .refine aQ ?_;refine bz i ?_;refine aF ?_;intro u1;refine aU ?_;refine bz i (hb:=fun _=>ae) ?_;refine aE ?_;refine bp (q:=bo.D) (xs:=r.needs) (i:=i) (hi:=fun _=>ae) (v:=(.sl 4 (r.needs[i]!.any.map bX.D))) ?_;refine bz 0 (hb:=fun h=>by simp only[gM,beq_iff_eq,bM,bh]at h;omega) ?_;refine aE ?_;refine bp (q:=bX.D) (xs:=r.needs[i]!.any) (i:=0) (hi:=fun h=>by simp only[gM,beq_iff_eq,bM,bh]at h;omega) (v:=(.str r.needs[i]!.any[0]!.name)) ?_;refine aK ?_;refine wp_cond (fun hc1=>?_) (fun hc1=>?_)
  .rw[jO.2 (show((r.needs[i]!.any.length:Nat):Int)=1↔r.needs[i]!.any.length=1 by omega)]at hc1;have hz:=hc1;refine aQ ?_;refine cd ?_;rw[hr,Ja ae hz]
  rw[jO.2 (show((r.needs[i]!.any.length:Nat):Int)=1↔r.needs[i]!.any.length=1 by omega)]at hc1;have hz:=hc1;refine bW ?_;exact⟨i+1,⟨ae,by rw[hr,RU ae hz]⟩,ae,(dQ [(0,0)])⟩
 refine aQ ?_;refine cd ?_;rw[hr,I9 ae]
noncomputable def MP:aN:=dy 119
def w460 (h672:VI Y)(h673:YJ Y)(h674:YK Y)(r:Rec)(of:List av)  (hp0:∀t∈of,t.length<=1048576):dX Y MP (.int .i64 (mj r of)) [Rec.D r,.sl 1 (of.map D.str)]:=by
 show cg _ _ _ [⟨_,_⟩,⟨_,_⟩,_,_,_,_,_,_,_,_] _;refine ay ?_;refine bw ?_;refine br hm (ι:=Nat) (fun i=>[.un,⟨true,.sl 1 (of.map D.str)⟩,.un,⟨true,.int .i64 (i:Nat)⟩,.un,.un,⟨true,.ptr 0 9 0 0⟩,.un,.un,.un]) (fun i=>[(0,.buf 9 [Rec.D r])]) 3 (fun i=>i<=of.length/\mj r of=kO (fun i=>kZ r of[i]!) i of.length) (fun i=>of.length-i) 0 ⟨ae,rfl⟩ (dQ [(0,0)]) ?_;rintro i ⟨hi,hr⟩;refine aU ?_;intro u0;refine aD ?_;refine di (fun hc0=>?_) fun hc0=>?_
 .refine bw ?_;refine au (hc:=h672 of[i]! (hp0 _ (bL ae))) ?_;refine GK ?_;refine au (hc:=h673 r (ec of[i]!).2.1) ?_;refine aF ?_;refine az (fun hc1=>?_) (fun hc1=>?_)
  .try simp only[cX]at hc1
   refine bw ?_;refine gu ?_;have he:kZ r of[i]! =14:=by rw[kZ,aC hc1]
   rw[hr,qn ae (by rw[he];decide),he]
  have hn1:¬((ec of[i]!).1=2/\Mm r.needs (ec of[i]!).2.1=false):=by rintro⟨g1,g2⟩;rw[g1,g2]at hc1;cases hc1
  refine bw ?_;refine au (hc:=h674 r (ec of[i]!).2.1) ?_;refine aF ?_;refine wp_cond (fun hc2=>?_) (fun hc2=>?_)
  .try simp only[cX]at hc2
   refine aQ ?_;refine gu ?_;have he:kZ r of[i]! =16:=by rw[kZ,ar hn1,aC hc2]
   rw[hr,qn ae (by rw[he];decide),he]
  have hn2:¬((ec of[i]!).1=3/\B2 r.needs (ec of[i]!).2.1=false):=by rintro⟨g1,g2⟩;rw[g1,g2]at hc2;cases hc2
  refine bW ?_;exact⟨i+1,⟨ae,by rw[hr,rR ae (by rw[kZ,ar hn1,ar hn2])]⟩,ae,(dQ [(0,0)])⟩
 refine aQ ?_;refine gu ?_;rw[hr,rQ ae]
noncomputable def WU:aN:=dy 191
def w810 (h349:GU Y)(l:List Nd)   :dX Y WU (.bool (decide (l.length<=15)&&ri l)) [.sl 5 (l.map Nd.D)]:=by
 show cg _ _ _ [⟨_,_⟩,_,_,_,_,_,_,_,_,_,_,_,_,_,_,_,_,_] _;refine ay ?_;refine aQ ?_;intro u0;refine aD ?_;refine az (fun hc0=>?_) (fun hc0=>?_)
 .try simp only[cX]at hc0
  refine aU ?_;refine cd ?_;rw[show decide (l.length<=15)=false from cy ae];rfl
 simp only[bC]at hc0;have h15:l.length<=15:=ae;have hd15:decide (l.length<=15)=true:=bY h15;refine aK ?_;intro u1;refine r_mks l.length ?_;refine aQ ?_;intro u2;refine aD ?_;rw[show List.replicate l.length (D.int .i64 0)=(List.replicate l.length (0:Int)).map (D.int .i64)by simp];refine br hm (ι:=(Nat×List Int×List Int)) (fun p=>[⟨true,.sl 5 (l.map Nd.D)⟩,.un,.un,⟨true,.int .i64 (p.1:Nat)⟩,⟨true,.int .i64 (l.length:Nat)⟩,.un,⟨true,.sl 5 (l.map Nd.D)⟩,⟨true,.own 0 1 0 l.length⟩,.un,.un,.un,.un,.un,.un,.un,.un,.un,.un]) (fun p=>[(0,.buf 1 (p.2.1.map (D.int .i64)))]) 11 (fun p=>p.1<=l.length/\p.2.1.length=l.length/\KO p.2.1 (p.1:Nat) p.2.2.reverse/\pG l 0 []=pG (l.drop p.1) p.1 p.2.2) (fun p=>l.length-p.1) (0,List.replicate l.length 0,[]) ⟨aI,aI,rfl,aI⟩ (bm.to [(6,0)] ah ah fC (by refine bF.nl 6 ah ah ah fM ?_;exact bF.nil)) ?_;rintro⟨i,S,o⟩ ⟨hi,hS,hc,hr⟩;dsimp only at hi hS hc hr⊢;refine aF ?_;refine di (fun hc1=>?_) fun hc1=>?_
 .refine aU ?_;first|refine bp (v:=(Nd.D _)) ?_|refine gI (v:=(Nd.D _)) ?_
  refine aD ?_;refine aR (Nd.D l[i]!) (he:=aW) ?_;refine aU ?_;refine kg i ?_;refine xd ((S.set i (i:Int)).map (D.int .i64)) (hi:=dk) (he:=C5 ae _) ?_;have hch:KO (S.set i (i:Int)) (i:Nat) o.reverse:=Ji (Int.le_refl _) hc;have hSl:(S.set i (i:Int)).length=l.length:=by simp[hS]
  refine bW ?_;obtain⟨t1,t2⟩:=yQ hch;obtain⟨u1,u2⟩:=Jj hch;refine aF ?_;refine wp_cond (fun hc2=>?_) (fun hc2=>?_)
  .simp only[bh]at hc2;have hq1:=hc2;refine mZ ?_;refine au (hc:=h349 _) ?_;refine mZ ?_;refine az (fun hc3=>?_) (fun hc3=>?_)
   .have hlf:qX l[i]! =false:=by rw[Ug hq1,hc3];rfl
    refine bW ?_;refine cd ?_;rw[hd15];symm;refine lR ?_;rw[hr];refine iF ae ?_;exact Kd hq1 hlf
   have hlf:qX l[i]! =true:=by rw[Ug hq1,hc3];rfl
   refine dJ ?_;have hs:kl l[i]! i o=some (o++[(i:Int)]):=by exact Tn hlf
   have hp:KO (S.set i (i:Int)) ((i+1:Nat):Int) ((o++[(i:Int)])).reverse:=by
    rw[List.reverse_append,List.reverse_singleton,List.singleton_append];exact yP ae ae (Int.le_refl _) hc
   exact⟨(i+1,(S.set i (i:Int)),(o++[(i:Int)])),⟨dE,by simp[hS],hp,by rw[hr];exact ke ae hs⟩,dE,(bm.to [(0,0)] ah ah fC (by refine hY ?_;exact bF.nil))⟩
  simp only[bC]at hc2;have hq1:=hc2;refine aK ?_;refine wp_cond (fun hc4=>?_) (fun hc4=>?_)
  .simp only[bh]at hc4;have hq2:=hc4;refine GM ?_;refine az (fun hc5=>?_) (fun hc5=>?_)
   .try simp only[cX]at hc5
    refine bW ?_;refine cd ?_;rw[hd15];symm;refine lR ?_;rw[hr];refine iF ae ?_;rw[BB hch hq2,ar];rintro⟨⟨g1,g2,g3⟩,g4⟩;omega
   simp only[dt,bC,cq,bh]at hc5;refine bw ?_;refine kg (i-1) ?_;refine uW (q:=D.int .i64) (xs:=(S.set i (i:Int))) (v:=(.int .i64 (S.set i (i:Int))[i-1]!)) (hi:=fun _=>ae) (hv:=fun _=>by rw[bI];rfl) ?_;refine kg i ?_;refine xd (((S.set i (i:Int)).set i (S.set i (i:Int))[i-1]!).map (D.int .i64)) (hi:=dk) (he:=C5 ae _) ?_;refine jX ?_;refine wp_cond (fun hc9=>?_) (fun hc9=>?_)
   .have hb:l6 l[i]! =false:=by simp only[dw,bE,bC]at hc9;simp only[l6,ef,bC];exact hc9
    refine aQ ?_;refine cd ?_;rw[hd15];symm;refine lR ?_;rw[hr];refine iF ae ?_;rw[BB hch hq2,ar];rintro⟨⟨g1,g2,g3⟩,g4⟩;rw[hb]at g4;cases g4
   have hb:l6 l[i]! =true:=by simp only[dt,cq,bh]at hc9;simp only[l6,hc9.1,hc9.2,decide_true,Bool.and_self]
   refine bw ?_;have hs:kl l[i]! i o=some (o.take (o.length-1)++[(i:Int)]):=by rw[BB hch hq2,aC ⟨⟨ae,ae,ae⟩,hb⟩]
   have hp:KO ((S.set i (i:Int)).set i (S.set i (i:Int))[i-1]!) ((i+1:Nat):Int) ((o.take (o.length-1)++[(i:Int)])).reverse:=by
    rw[List.reverse_append,List.reverse_singleton,List.singleton_append];obtain⟨y1,y2,y3,y4⟩:=t2 ae;exact yP ae y2 ae y4
   exact⟨(i+1,((S.set i (i:Int)).set i (S.set i (i:Int))[i-1]!),(o.take (o.length-1)++[(i:Int)])),⟨dE,by simp[hS],hp,by rw[hr];exact ke ae hs⟩,dE,(bm.to [(0,0)] ah ah fC (by refine hY ?_;exact bF.nil))⟩
  simp only[bC]at hc4;have hq2:=hc4;refine aU ?_;refine di (fun hc6=>?_) fun hc6=>?_
  .refine aE ?_;refine iI (fun hc7=>?_) fun hc7=>?_
   .refine GK ?_;refine kg (i-1) ?_;refine uW (q:=D.int .i64) (xs:=(S.set i (i:Int))) (v:=(.int .i64 (S.set i (i:Int))[i-1]!)) (hi:=fun h=>by simp at h;omega) (hv:=fun _=>by rw[bI];rfl) ?_;refine bW ?_;refine kg (i-1) ?_;refine uW (q:=D.int .i64) (xs:=(S.set i (i:Int))) (v:=(.int .i64 (S.set i (i:Int))[i-1]!)) (hi:=fun h=>by simp at h;omega) (hv:=fun _=>by rw[bI];rfl) ?_;refine aK ?_;refine az (fun hc8=>?_) (fun hc8=>?_)
    .have hq34:l[i]!.op=3\/l[i]!.op=4:=ae;simp only[dw,bh,bE,bC]at hc8;refine bW ?_;refine cd ?_;rw[hd15];symm;refine lR ?_;rw[hr];refine iF ae ?_;rw[qa hch hq34,ar];rintro⟨⟨g1,g2,g3,g4⟩,g5⟩;omega
    simp only[dt,bC,cq,bh]at hc8;have hq34:l[i]!.op=3\/l[i]!.op=4:=ae;have hk2:=u1.2 ⟨ae,ae⟩;obtain⟨w1,w2,w3,w4⟩:=u2 hk2;obtain⟨y1,y2,y3,y4⟩:=t2 ae;refine bw ?_;refine kg l[i]!.a.toNat ?_;refine uW (q:=D.int .i64) (xs:=(S.set i (i:Int))) (v:=(.int .i64 (S.set i (i:Int))[l[i]!.a.toNat]!)) (hi:=fun _=>ae) (hv:=fun _=>by rw[bI];rfl) ?_;refine kg i ?_;refine xd (((S.set i (i:Int)).set i (S.set i (i:Int))[l[i]!.a.toNat]!).map (D.int .i64)) (hi:=dk) (he:=C5 ae _) ?_;refine jX ?_;refine wp_cond (fun hc9=>?_) (fun hc9=>?_)
    .have hb:l6 l[i]! =false:=by simp only[dw,bE,bC]at hc9;simp only[l6,ef,bC];exact hc9
     refine aQ ?_;refine cd ?_;rw[hd15];symm;refine lR ?_;rw[hr];refine iF ae ?_;rw[qa hch hq34,ar];rintro⟨⟨g1,g2,g3,g4⟩,g5⟩;rw[hb]at g5;cases g5
    have hb:l6 l[i]! =true:=by simp only[dt,cq,bh]at hc9;simp only[l6,hc9.1,hc9.2,decide_true,Bool.and_self]
    refine bw ?_;have hs:kl l[i]! i o=some (o.take (o.length-2)++[(i:Int)]):=by rw[qa hch hq34,aC ⟨⟨ae,ae,ae,ae⟩,hb⟩]
    have hp:KO ((S.set i (i:Int)).set i (S.set i (i:Int))[l[i]!.a.toNat]!) ((i+1:Nat):Int) ((o.take (o.length-2)++[(i:Int)])).reverse:=by
     rw[List.reverse_append,List.reverse_singleton,List.singleton_append];rw[show l[i]!.a=(S.set i (i:Int))[i-1]! -1 by omega];exact yP ae w2 ae w4
    exact⟨(i+1,((S.set i (i:Int)).set i (S.set i (i:Int))[l[i]!.a.toNat]!),(o.take (o.length-2)++[(i:Int)])),⟨dE,by simp[hS],hp,by rw[hr];exact ke ae hs⟩,dE,(bm.to [(0,0)] ah ah fC (by refine hY ?_;exact bF.nil))⟩
   refine bw ?_;refine cd ?_;exfalso;omega
  refine aK ?_;refine iI (fun hc7=>?_) fun hc7=>?_
  .refine GK ?_;refine kg (i-1) ?_;refine uW (q:=D.int .i64) (xs:=(S.set i (i:Int))) (v:=(.int .i64 (S.set i (i:Int))[i-1]!)) (hi:=fun h=>by simp at h;omega) (hv:=fun _=>by rw[bI];rfl) ?_;refine bW ?_;refine kg (i-1) ?_;refine uW (q:=D.int .i64) (xs:=(S.set i (i:Int))) (v:=(.int .i64 (S.set i (i:Int))[i-1]!)) (hi:=fun h=>by simp at h;omega) (hv:=fun _=>by rw[bI];rfl) ?_;refine aK ?_;refine az (fun hc8=>?_) (fun hc8=>?_)
   .have hq34:l[i]!.op=3\/l[i]!.op=4:=ae;simp only[dw,bh,bE,bC]at hc8;refine bW ?_;refine cd ?_;rw[hd15];symm;refine lR ?_;rw[hr];refine iF ae ?_;rw[qa hch hq34,ar];rintro⟨⟨g1,g2,g3,g4⟩,g5⟩;omega
   simp only[dt,bC,cq,bh]at hc8;have hq34:l[i]!.op=3\/l[i]!.op=4:=ae;have hk2:=u1.2 ⟨ae,ae⟩;obtain⟨w1,w2,w3,w4⟩:=u2 hk2;obtain⟨y1,y2,y3,y4⟩:=t2 ae;refine bw ?_;refine kg l[i]!.a.toNat ?_;refine uW (q:=D.int .i64) (xs:=(S.set i (i:Int))) (v:=(.int .i64 (S.set i (i:Int))[l[i]!.a.toNat]!)) (hi:=fun _=>ae) (hv:=fun _=>by rw[bI];rfl) ?_;refine kg i ?_;refine xd (((S.set i (i:Int)).set i (S.set i (i:Int))[l[i]!.a.toNat]!).map (D.int .i64)) (hi:=dk) (he:=C5 ae _) ?_;refine jX ?_;refine wp_cond (fun hc9=>?_) (fun hc9=>?_)
   .have hb:l6 l[i]! =false:=by simp only[dw,bE,bC]at hc9;simp only[l6,ef,bC];exact hc9
    refine aQ ?_;refine cd ?_;rw[hd15];symm;refine lR ?_;rw[hr];refine iF ae ?_;rw[qa hch hq34,ar];rintro⟨⟨g1,g2,g3,g4⟩,g5⟩;rw[hb]at g5;cases g5
   have hb:l6 l[i]! =true:=by simp only[dt,cq,bh]at hc9;simp only[l6,hc9.1,hc9.2,decide_true,Bool.and_self]
   refine bw ?_;have hs:kl l[i]! i o=some (o.take (o.length-2)++[(i:Int)]):=by rw[qa hch hq34,aC ⟨⟨ae,ae,ae,ae⟩,hb⟩]
   have hp:KO ((S.set i (i:Int)).set i (S.set i (i:Int))[l[i]!.a.toNat]!) ((i+1:Nat):Int) ((o.take (o.length-2)++[(i:Int)])).reverse:=by
    rw[List.reverse_append,List.reverse_singleton,List.singleton_append];rw[show l[i]!.a=(S.set i (i:Int))[i-1]! -1 by omega];exact yP ae w2 ae w4
   exact⟨(i+1,((S.set i (i:Int)).set i (S.set i (i:Int))[l[i]!.a.toNat]!),(o.take (o.length-2)++[(i:Int)])),⟨dE,by simp[hS],hp,by rw[hr];exact ke ae hs⟩,dE,(bm.to [(0,0)] ah ah fC (by refine hY ?_;exact bF.nil))⟩
  refine bw ?_;refine cd ?_;rw[hd15];symm;refine lR ?_;rw[hr];refine iF ae ?_;exact Nf hq1 hq2 ae ae
 refine aF ?_;obtain rfl:i=l.length:=ae;obtain⟨t1,t2⟩:=yQ hc;obtain⟨u1,u2⟩:=Jj hc;refine aD ?_;intro u3;refine aK ?_;refine gN ?_;refine aE ?_;refine kg (l.length-1) (hj:=fun h=>by have hz:¬l.length=0:=(fun hz=>by simp[hz]at h);omega) (hb:=fun h=>by have hz:¬l.length=0:=(fun hz=>by simp[hz]at h);omega) ?_;refine uW (q:=D.int .i64) (xs:=S) (v:=(.int .i64 S[l.length-1]!)) (hi:=fun h=>by have hz:¬l.length=0:=(fun hz=>by simp[hz]at h);omega) (hv:=fun _=>by rw[bI];rfl) ?_;refine aU ?_;refine cd ?_;rw[hd15];simp only[ri,hr,H7 (aH l.length),gM];exact(abR t1 t2 u1).symm
noncomputable def ME:aN:=dy 52
def w211 {Y:Ctx}(hm:(Y.at 0).cP)(h208:K0 Y)(h444:Ye Y)(r:Rec)(name:av)(yn:av)  (hp0:yn.length<=1048576):dX Y ME (.int .i64 (gS r name yn)) [Rec.D r,.str name,.str yn]:=by
 show cg _ _ _ [⟨_,_⟩,⟨_,_⟩,⟨_,_⟩,_,_,_,_,_] _;refine ay ?_;refine aQ ?_;refine au (hc:=h208 _) ?_;refine aF ?_;refine iI (fun hc0=>?_) fun hc0=>?_
 .refine aU ?_;refine gu ?_;rw[gS,aC hc0]
 refine bw ?_;refine iI (fun hc1=>?_) fun hc1=>?_
 .refine aU ?_;refine gu ?_;rw[gS,ar (by simp[hc0]),aC hc1]
 refine aD ?_;refine au (hc:=h444 yn hp0) ?_;refine aF ?_;refine iI (fun hc2=>?_) fun hc2=>?_
 .refine aU ?_;refine gu ?_;rw[gS,ar (by simp[hc0]),ar hc1,aC hc2]
 refine aQ ?_;refine gu ?_;rw[gS,ar (by simp[hc0]),ar hc1,ar (by simp[hc2])]
noncomputable def MF:aN:=dy 92
def w443 (h211:Vq Y)(h349:GU Y)(r:Rec)(w:bX)(al:Bool)  (hp0:w.sm):dX Y MF (.int .i64 (kH r w al)) [Rec.D r,bX.D w,.bool al]:=by
 show cg _ _ _ [⟨_,_⟩,⟨_,_⟩,⟨_,_⟩,_,_,_,_,_,_,_,_,_,_,_,_,_] _;refine ay ?_;refine gE ?_;refine au (hc:=h211 r w.name w.range hp0.1.2) ?_;refine bw ?_;refine di (fun hc0=>?_) fun hc0=>?_
 .refine aQ ?_;refine gu ?_;rw[kH,aC hc0]
 refine aQ ?_;intro u0;refine aK ?_;refine gN ?_;refine bw ?_;refine az (fun hc1=>?_) (fun hc1=>?_)
 .have hq:(decide (w.feats.length<=6)&&(al ||decide (w.feats.length=0)))=false:=by rw[<-bE,<-abZ];exact hc1
  refine aU ?_;refine gu ?_;rw[kH,ar (by simp[hc0]),aC (by unfold kE;rw[hq];rfl)]
 have hq:(decide (w.feats.length<=6)&&(al ||decide (w.feats.length=0)))=true:=by rw[<-cq,<-abZ];exact hc1
 refine aQ ?_;intro u1;refine aD ?_;refine br hm (ι:=Nat) (fun i=>[.un,.un,⟨true,.bool al⟩,.un,⟨true,.ptr 0 9 0 0⟩,⟨true,.ptr 1 4 0 0⟩,.un,.un,.un,⟨true,.int .i64 (i:Nat)⟩,⟨true,.int .i64 (w.feats.length:Nat)⟩,.un,⟨true,.sl 1 (w.feats.map D.str)⟩,.un,.un,.un]) (fun i=>[(0,.buf 9 [Rec.D r]),(1,.buf 4 [bX.D w])]) 30 (fun i=>i<=w.feats.length/\kE w.feats al=c9 (wfB w.feats) i w.feats.length) (fun i=>w.feats.length-i) 0 ⟨ae,by unfold kE;rw[hq,gM]⟩ (dQ [(0,0),(1,1)]) ?_;rintro i ⟨hi,hr⟩;refine aF ?_;refine di (fun hc2=>?_) fun hc2=>?_
 .refine gE ?_;refine au (hc:=h349 _) ?_;refine dJ ?_;refine bz (i-1) ?_;refine aQ ?_;refine wp_cond (fun hc3=>?_) (fun hc3=>?_)
  .have hz:wfB w.feats i=false:=by rw[<-bE,<-wf_c];exact hc3
   refine aQ ?_;refine gu ?_;rw[kH,ar (by simp[hc0]),aC (by rw[hr,bc ae,hz];rfl)]
  have hz:wfB w.feats i=true:=by rw[<-cq,<-wf_c];exact hc3
  refine bw ?_;exact⟨i+1,⟨ae,by rw[hr,bc ae,hz];rfl⟩,ae,(dQ [(0,0),(1,1)])⟩
 refine aQ ?_;refine gu ?_;rw[kH,ar (by simp[hc0]),ar (by rw[hr,cL ae];simp)]
noncomputable def MC:aN:=dy 51
def w210 (h212:Vr Y)(h349:GU Y)(h443:Yd Y)(r:Rec)(n:bo)  (hp0:n.sm):dX Y MC (.int .i64 (jS r n)) [Rec.D r,bo.D n]:=by
 show cg _ _ _ [⟨_,_⟩,⟨_,_⟩,_,_,_,_,_,_,_,_,_,_,_,_,_,_] _;refine ay ?_;refine dJ ?_;intro u0;refine aD ?_;refine di (fun hc0=>?_) fun hc0=>?_
 .refine aU ?_;refine gu ?_;rw[jS,aC ae]
 refine aQ ?_;intro u1;refine aD ?_;refine di (fun hc1=>?_) fun hc1=>?_
 .refine aU ?_;refine gu ?_;rw[jS,ar ae,aC ae]
 refine aQ ?_;intro u2;refine aD ?_;refine br hm (ι:=Nat) (fun i=>[.un,.un,.un,⟨true,.ptr 1 3 0 0⟩,.un,.un,⟨true,.int .i64 (i:Nat)⟩,⟨true,.int .i64 (n.any.length:Nat)⟩,.un,⟨true,.sl 4 (n.any.map bX.D)⟩,⟨true,.ptr 0 9 0 0⟩,.un,.un,.un,.un,.un]) (fun i=>[(0,.buf 9 [Rec.D r]),(1,.buf 3 [bo.D n])]) 15 (fun i=>i<=n.any.length/\nW r n.any=kO (fun i=>kH r n.any[i]! (decide ((n.any.length:Int)=1))) i n.any.length) (fun i=>n.any.length-i) 0 ⟨ae,rfl⟩ (dQ [(0,0),(1,1)]) ?_;rintro i ⟨hi,hr⟩;refine aF ?_;refine di (fun hc2=>?_) fun hc2=>?_
 .refine aK ?_;first|refine bp (v:=(bX.D _)) ?_|refine gI (v:=(bX.D _)) ?_
  refine aE ?_;refine aR (bX.D n.any[i]!) (he:=aW) ?_;refine bw ?_;intro u3;refine aE ?_;refine au (hc:=h443 r n.any[i]! _ (hp0.1 _ (bL ae))) ?_;refine aQ ?_;refine iI (fun hc3=>?_) fun hc3=>?_
  .refine bw ?_;refine gu ?_;have hw:nW r n.any=kH r n.any[i]! (decide ((n.any.length:Int)=1)):=by rw[hr,qn ae hc3]
   rw[jS,ar ae,ar ae,aC (by rw[hw];exact hc3),hw]
  refine bw ?_;exact⟨i+1,⟨ae,by rw[hr,rR ae hc3]⟩,ae,(dQ [(0,0),(1,1)])⟩
 refine aK ?_;have hw0:nW r n.any=0:=by rw[hr,rQ ae]
 refine aD ?_;refine au (hc:=h212 _) ?_;refine aD ?_;refine az (fun hc4=>?_) (fun hc4=>?_)
 .try simp only[cX]at hc4
  refine aU ?_;refine gu ?_;rw[jS,ar ae,ar ae,ar (by simp[hw0]),aC hc4]
 simp only[cq]at hc4;refine dJ ?_;refine au (hc:=h349 _) ?_;refine aF ?_;refine az (fun hc5=>?_) (fun hc5=>?_)
 .try simp only[cX]at hc5
  refine aU ?_;refine gu ?_;rw[jS,ar ae,ar ae,ar (by simp[hw0]),ar (by simp[hc4]),aC hc5]
 simp only[ef,cq,bh]at hc5;refine aU ?_;refine gu ?_;rw[jS,ar ae,ar ae,ar (by simp[hw0]),ar (by simp[hc4]),ar (by rintro⟨g1,g2⟩;rcases hc5 with h|h;exact g1 h;rw[g2]at h;cases h)]
noncomputable def MB:aN:=dy 55
def w214 (h448:Vx Y)(r:Rec)(s:av)  (hp0:s.length<=1048576):dX Y MB (.int .i64 (kZ r s)) [Rec.D r,.str s]:=by
 show cg _ _ _ [⟨_,_⟩,⟨_,_⟩,_,_,_,_,_,_,_,_,_,_,_,_,_] _;refine ay ?_;refine aU ?_;refine au (hc:=h448 s hp0) ?_;refine mZ ?_;intro u0;refine aD ?_;refine br hm (ι:=Nat) (fun i=>[.un,.un,.un,⟨true,.ptr 0 9 0 0⟩,⟨true,.int .i64 (i:Nat)⟩,⟨true,.int .i64 (r.needs.length:Nat)⟩,.un,⟨true,.sl 3 (r.needs.map bo.D)⟩,⟨true,.int .i64 (ec s).1⟩,.un,⟨true,.str (ec s).2.1⟩,.un,.un,.un,.un]) (fun i=>[(0,.buf 9 [Rec.D r])]) 15 (fun i=>i<=r.needs.length/\kZ r s=(if(r.needs.drop i).any (itC (ec s).1 (ec s).2.1)=true then 0 else itE (ec s).1)) (fun i=>r.needs.length-i) 0 ⟨ae,aaf r s⟩ (dQ [(0,0)]) ?_;rintro i ⟨hi,hr⟩;refine aF ?_;refine di (fun hc0=>?_) fun hc0=>?_
 .refine aK ?_;first|refine bp (v:=(bo.D _)) ?_|refine gI (v:=(bo.D _)) ?_
  refine aE ?_;refine aR (bo.D r.needs[i]!) (he:=aW) ?_;refine GL ?_;refine gN ?_;refine aU ?_;refine bz 0 (hb:=fun h=>by simp only[gM,beq_iff_eq,bM,bh]at h;omega) ?_;refine aE ?_;refine bp (q:=bX.D) (xs:=r.needs[i]!.any) (i:=0) (hi:=fun h=>by simp only[gM,beq_iff_eq,bM,bh]at h;omega) (v:=(.str r.needs[i]!.any[0]!.name)) ?_;refine aU ?_;refine wp_cond (fun hc1=>?_) (fun hc1=>?_)
  .have hz:itC (ec s).1 (ec s).2.1 r.needs[i]! =true:=hc1;refine aQ ?_;refine gu ?_;rw[hr,Ja ae hz];rfl
  have hz:itC (ec s).1 (ec s).2.1 r.needs[i]! =false:=hc1;refine bw ?_;exact⟨i+1,⟨ae,by rw[hr,RU ae hz]⟩,ae,(dQ [(0,0)])⟩
 refine aK ?_;have he:kZ r s=itE (ec s).1:=by rw[hr,I9 ae];rfl
 refine bw ?_;refine iI (fun hc2=>?_) fun hc2=>?_
 .refine aU ?_;refine gu ?_;rw[he,itE,aC hc2]
 refine aK ?_;refine iI (fun hc3=>?_) fun hc3=>?_
 .refine aU ?_;refine gu ?_;rw[he,itE,ar hc2,aC hc3]
 refine aQ ?_;refine gu ?_;rw[he,itE,ar hc2,ar hc3]
noncomputable def SW:aN:=dy 49
def w219 (h249:GS Y)(h316:X7 Y)(h461:Yp Y)(h462:Yq Y)(r:Rec)  (hp0:zf r/\mD r):dX Y SW (.str (gh r)) [Rec.D r]:=by
 show cg _ _ _ [⟨_,_⟩,_,_,_,_,_,_,_,_,_,_,_,_] _;have hft:=HK hp0;have q0:=hft.nm;have q00:=Gw r.v hft.v;refine ay ?_;refine aQ ?_;refine gv ?_;refine gv ?_;refine aE ?_;refine aV (v:=dz.D r.v) ?_;refine au (hc:=h316 r.v hft.v) ?_;refine gv ?_;refine gv ?_;refine aQ ?_;refine br hm (ι:=Nat) (fun i=>[.un,.un,⟨true,.ptr 0 9 0 0⟩,⟨true,.int .i64 (i:Nat)⟩,.un,⟨true,.str (lZ r i)⟩,.un,.un,.un,.un,.un,.un,.un]) (fun i=>[(0,.buf 9 [Rec.D r])]) 13 (fun i=>i<=r.needs.length) (fun i=>r.needs.length-i) 0 ae (bm.to [(0,0)] ah ah (by repeat(first|exact de.nil|refine de.un ?_|refine de.eq ah ?_|refine de.nl (ak D.str (by rw[abS];simp[tD,cN,aO,ee])) ah ?_)) lE) ?_;intro i hi;have q1:=Kh hft i hi;refine aQ ?_;intro u0;refine aD ?_;refine di (fun hc0=>?_) fun hc0=>?_
 .refine aF ?_;have hnf:=hft.n _ (bL (show i<r.needs.length by omega));have hn3:=hnf.1.1;refine aE ?_;refine gv ?_;refine aQ ?_;refine br hm (ι:=Nat) (fun j=>[.un,.un,⟨true,.ptr 0 9 0 0⟩,⟨true,.int .i64 (i:Nat)⟩,.un,⟨true,.str (lZ r i++eW r.needs[i]! j)⟩,⟨true,.int .i64 (j:Nat)⟩,.un,.un,.un,.un,.un,.un]) (fun j=>[(0,.buf 9 [Rec.D r])]) 22 (fun j=>j<=r.needs[i]!.any.length) (fun j=>r.needs[i]!.any.length-j) 0 ae (bm.to [(0,0)] ah ah (by repeat(first|exact de.nil|refine de.un ?_|refine de.eq ah ?_|refine de.nl (ak D.str (by rw[ads])) ah ?_)) lE) ?_;intro j hj;have q2:=HW hnf j ae;refine ja ?_;intro u1;refine aD ?_;refine di (fun hc1=>?_) fun hc1=>?_
  .refine aF ?_;have hwf:=hnf.1.2 _ (bL (show j<r.needs[i]!.any.length by omega));have q3:=BG hwf;refine dJ ?_;first|refine bp (v:=(bX.D _)) ?_|refine gI (v:=(bX.D _)) ?_
   refine au (hc:=h461 r.needs[i]!.any[j]! hwf) ?_;refine gv ?_;refine dJ ?_;exact⟨j+1,ae,ae,(bm.to [(0,0)] ah ah (by repeat(first|exact de.nil|refine de.un ?_|refine de.eq ah ?_|refine de.nl (ak D.str (by rw[qB ae,eh])) ah ?_)) lE)⟩
  refine aF ?_;have q4:=qb hnf.2.1;have q5:=hnf.2.2;refine bw ?_;refine au (hc:=h462 r.needs[i]!.when' hnf.2.1) ?_;refine gv ?_;refine gE ?_;refine iI (fun hc2=>?_) fun hc2=>?_
  .refine aD ?_;refine gv ?_;refine aQ ?_;refine gv ?_;refine gv ?_;refine dJ ?_;have hq:lZ r (i+1)=lZ r i++(eW r.needs[i]! j++jf r.needs[i]!.when'++tN r.needs[i]!.option):=by rw[oY ae,Ba (j:=j) ae]
   have ho:tN r.needs[i]!.option=[111,112,116,105,111,110,32]++r.needs[i]!.option++[10]:=by rw[tN,ar hc2];simp[cN,aO,dh]
   exact⟨i+1,ae,ae,(bm.to [(0,0)] ah ah (by repeat(first|exact de.nil|refine de.un ?_|refine de.eq ah ?_|refine de.nl (ak D.str (by rw[hq,ho];simp only[eh])) ah ?_)) lE)⟩
  refine bW ?_;have hq:lZ r (i+1)=lZ r i++(eW r.needs[i]! j++jf r.needs[i]!.when'++tN r.needs[i]!.option):=by rw[oY ae,Ba (j:=j) ae]
  have ho:tN r.needs[i]!.option=[]:=by rw[tN,aC hc2]
  exact⟨i+1,ae,ae,(bm.to [(0,0)] ah ah (by repeat(first|exact de.nil|refine de.un ?_|refine de.eq ah ?_|refine de.nl (ak D.str (by rw[hq,ho];simp only[eh,gQ])) ah ?_)) lE)⟩
 refine aK ?_;have h33:i=r.needs.length:=ae;subst h33;refine aD ?_;refine br hm (ι:=Nat) (fun i=>[.un,.un,⟨true,.ptr 0 9 0 0⟩,.un,.un,⟨true,.str (Gp r i)⟩,.un,.un,.un,⟨true,.int .i64 (i:Nat)⟩,.un,.un,.un]) (fun i=>[(0,.buf 9 [Rec.D r])]) 19 (fun i=>i<=r.bars.length) (fun i=>r.bars.length-i) 0 ae (bm.to [(0,0)] ah ah (by repeat(first|exact de.nil|refine de.un ?_|refine de.eq ah ?_|refine de.nl (ak D.str (by rw[abT])) ah ?_)) lE) ?_;intro i hi;have q1:=Ki hft i hi;refine aQ ?_;intro u2;refine aD ?_;refine di (fun hc3=>?_) fun hc3=>?_
 .refine aF ?_;have q4:=hft.b _ (bL (show i<r.bars.length by omega));have q5:=q4.1;have q6:=q4.2.1;have q7:=qb q4.2.2;refine aE ?_;refine gv ?_;refine aQ ?_;refine gv ?_;refine gv ?_;refine aQ ?_;refine gv ?_;refine gv ?_;refine aQ ?_;refine au (hc:=h462 r.bars[i]!.when' q4.2.2) ?_;refine gv ?_;refine dJ ?_;have hq:=Nr (r:=r) (i:=i) ae;exact⟨i+1,ae,ae,(bm.to [(0,0)] ah ah (by repeat(first|exact de.nil|refine de.un ?_|refine de.eq ah ?_|refine de.nl (ak D.str (by rw[hq];simp[yL,cN,aO,gG])) ah ?_)) lE)⟩
 refine aK ?_;have h33:i=r.bars.length:=ae;subst h33;refine aD ?_;refine br hm (ι:=Nat) (fun i=>[.un,.un,⟨true,.ptr 0 9 0 0⟩,.un,.un,⟨true,.str (Iy r i)⟩,.un,.un,.un,.un,.un,⟨true,.int .i64 (i:Nat)⟩,.un]) (fun i=>[(0,.buf 9 [Rec.D r])]) 25 (fun i=>i<=r.feats.length) (fun i=>r.feats.length-i) 0 ae (bm.to [(0,0)] ah ah (by repeat(first|exact de.nil|refine de.un ?_|refine de.eq ah ?_|refine de.nl (ak D.str (by rw[abU])) ah ?_)) lE) ?_;intro i hi;have q1:=UX hft i hi;refine aQ ?_;intro u3;refine aD ?_;refine di (fun hc4=>?_) fun hc4=>?_
 .refine aF ?_;have q4:=hft.f _ (bL (show i<r.feats.length by omega));have q5:=HC q4;have q6:=q4.2;simp only[tC,cN,bH,aM,aX]at q5;refine bw ?_;refine dq [(.str _),(.str _)] ?_;refine aQ ?_;refine aba (xs:=[cw,r.feats[i]!.name]) (ys:=r.feats[i]!.of) (he:=vO.sl) (hb:=cD) ?_;refine au (hc:=h249 ([cw,r.feats[i]!.name]++r.feats[i]!.of) 32 ae) (ha:=fun _=>ak (fun d=>[d,D.int .u8 32]) (zC (q:=D.str) (fun _=>rfl) ah)) (hp:=fun _=>⟨vB (q:=D.str) (fun _=>rfl) ah,rfl,trivial⟩) ?_;refine dD (hb:=fun _=>by first|omega|(simp only[bH,aM,aX];omega)) ?_;refine dD (hb:=fun _=>by first|omega|(simp only[bH,aM,aX];omega)) ?_;refine dJ ?_;have hq:=Ns (r:=r) (i:=i) ae;exact⟨i+1,ae,ae,(bm.to [(0,0)] ah ah (by repeat(first|exact de.nil|refine de.un ?_|refine de.eq ah ?_|refine de.nl (ak D.str (by rw[hq];simp[tC,cN])) ah ?_)) lE)⟩
 refine aF ?_;have h33:i=r.feats.length:=ae;subst h33;refine aK ?_;refine du ?_;exact Kj r
noncomputable def SQ:aN:=dy 226
def w955  (l:List ct)(nm:av)   :dX Y SQ (.int .i64 (findF l nm 0)) [.sl 2 (l.map ct.D),.str nm]:=by
 show cg _ _ _ [⟨_,_⟩,⟨_,_⟩,_,_,_,_] _;refine ay ?_;refine aQ ?_;refine br hm (ι:=Nat) (fun i=>[⟨true,.sl 2 (l.map ct.D)⟩,⟨true,.str nm⟩,.un,⟨true,.int .i64 (i:Nat)⟩,.un,.un]) (fun i=>[]) 2 (fun i=>i<=l.length/\findF l nm 0=findF l nm i) (fun i=>l.length-i) 0 ⟨ae,rfl⟩ (dQ []) ?_;rintro i ⟨hi,hr⟩;refine aU ?_;intro u0;refine aD ?_;refine di (fun hc0=>?_) fun hc0=>?_
 .refine gE ?_;refine iI (fun hc1=>?_) fun hc1=>?_
  .refine bw ?_;refine gu ?_;rw[hr,LK ae hc1]
  refine bW ?_;exact⟨i+1,⟨ae,by rw[hr,LL ae hc1]⟩,ae,(dQ [])⟩
 refine aQ ?_;refine gu ?_;rw[hr,HF ae]
noncomputable def Jp:aN:=dy 156
def w663  (l:List ct)(nm:av)   :dX Y Jp (.int .i64 (findF l nm 0)) [.sl 2 (l.map ct.D),.str nm]:=by
 show cg _ _ _ [⟨_,_⟩,⟨_,_⟩,_,_,_,_,_,_,_,_] _;refine ay ?_;refine aQ ?_;intro u0;refine aD ?_;refine br hm (ι:=Nat) (fun i=>[⟨true,.sl 2 (l.map ct.D)⟩,⟨true,.str nm⟩,.un,⟨true,.int .i64 (i:Nat)⟩,⟨true,.int .i64 (l.length:Nat)⟩,.un,⟨true,.sl 2 (l.map ct.D)⟩,.un,.un,.un]) (fun i=>[]) 4 (fun i=>i<=l.length/\findF l nm 0=findF l nm i) (fun i=>l.length-i) 0 ⟨ae,rfl⟩ (dQ []) ?_;rintro i ⟨hi,hr⟩;refine aF ?_;refine di (fun hc0=>?_) fun hc0=>?_
 .refine aU ?_;first|refine bp (v:=(ct.D _)) ?_|refine gI (v:=(ct.D _)) ?_
  refine aD ?_;refine aR (ct.D l[i]!) (he:=aW) ?_;refine bw ?_;refine iI (fun hc1=>?_) fun hc1=>?_
  .refine bw ?_;refine gu ?_;rw[hr,LK ae hc1]
  refine bw ?_;exact⟨i+1,⟨ae,by rw[hr,LL ae hc1]⟩,ae,(dQ [])⟩
 refine aQ ?_;refine gu ?_;rw[hr,HF ae]
noncomputable def abq:aN:=dy 202
def w816 {Y:Ctx}(hm:(Y.at 0).cP)(h955:Y3 Y)(l:List ct)(nm:av)   :dX Y abq (.bool (WA l nm)) [.sl 2 (l.map ct.D),.str nm]:=by
 show cg _ _ _ [⟨_,_⟩,⟨_,_⟩,_] _;refine ay ?_;refine bW ?_;refine au (hc:=h955 _ _) ?_;refine aU ?_;exact cd rfl
noncomputable def G1:aN:=dy 99
def w449 {Y:Ctx}(hm:(Y.at 0).cP)(h663:YE Y)(l:List ct)(nm:av)   :dX Y G1 (.bool (WA l nm)) [.sl 2 (l.map ct.D),.str nm]:=by
 show cg _ _ _ [⟨_,_⟩,⟨_,_⟩,_] _;refine ay ?_;refine bW ?_;refine au (hc:=h663 _ _) ?_;refine aU ?_;exact cd rfl
noncomputable def SR:aN:=dy 172
def w672 {Y:Ctx}(hm:(Y.at 0).cP)(h216:GR Y)(h357:GV Y)(h470:wI Y)(s:av)  (hp0:s.length<=1048576):dX Y SR (.tup [.int .i64 (ec s).1,.str (ec s).2.1,.str (ec s).2.2]) [.str s]:=by
 show cg _ _ _ [⟨_,_⟩,_,_,_,_,_,_,_] _;refine ay ?_;refine bw ?_;refine au (hc:=h357 _) ?_;refine aE ?_;refine di (fun hc0=>?_) fun hc0=>?_
 .refine bW ?_;refine bT (dG (ak (D.int .i64) ?_) (ak D.str ?_) (ak D.str ?_));all_goals rw[T9 hc0]
 refine aU ?_;intro u0;refine aF ?_;refine sj 0 ?_;refine aK ?_;refine ga 1 (hb:=fun h=>by simp at h;omega) ?_;refine au (hc:=h357 _) ?_;refine aD ?_;refine di (fun hc1=>?_) fun hc1=>?_
 .refine aF ?_;refine ga 1 (hb:=fun h=>ae) ?_;refine aU ?_;refine bT (dG (ak (D.int .i64) ?_) (ak D.str ?_) (ak D.str ?_));all_goals rw[Ua hc0 hc1]
 refine aF ?_;refine au (hc:=h470 _ _ ?_) ?_;rotate_left;first|assumption|omega
 refine aQ ?_;intro u1;refine aF ?_;refine bz 0 ?_;refine aE ?_;refine au (hc:=h216 _) ?_;refine aF ?_;refine bz 1 ?_;refine aE ?_;refine au (hc:=h357 _) ?_;refine aD ?_;refine di (fun hc2=>?_) fun hc2=>?_
 .refine aF ?_;refine bz 0 ?_;refine aD ?_;refine bz 1 ?_;refine aQ ?_;refine bT (dG (ak (D.int .i64) ?_) (ak D.str ?_) (ak D.str ?_));all_goals rw[Ub hc0 hc1 hc2]
 refine bw ?_;refine bT (dG (ak (D.int .i64) ?_) (ak D.str ?_) (ak D.str ?_));all_goals rw[T8 hc0 hc1 hc2]
noncomputable def Fq:aN:=dy 12
def w238 (h72:C72 Y)(h247:K4 Y)(m:fD)  (hp0:qY m):dX Y Fq (.tup [.str (nH m).1,.int .i64 (nH m).2]) [fD.D m]:=by
 show cg _ _ _ [⟨_,_⟩,_,_,_,_,_,_,_,_,_,_,_,_,_,_,_,_] _;refine ay ?_;refine aQ ?_;refine cO (d:=fD.D m) ?_;refine au (hc:=h247 m hp0) ?_;refine gE ?_;refine az (fun hc0=>?_) (fun hc0=>?_)
 .simp only[cX]at hc0;have hps:=H8 hc0;refine bw ?_;refine bT (aS (ak D.str ?_) (ak (D.int .i64) ?_));all_goals (rw[hps];first|done|rfl)
 simp only[cX]at hc0;have g0:¬¬(ey m).1=0:=fun h=>h hc0
 have hps:=H9 g0;have g1:=(AI g0).1;have hpr:jr m.r=(gh m.r,0):=ar g1;have hln:=rZ g0 hp0;refine aF ?_;refine aV (v:=Rec.D m.r) ?_;refine au (v:=.tup [.str (gh m.r),.int .i64 0]) (hc:=by have:=h72 m.r hp0.1;rw[hpr]at this;exact this) ?_;refine dJ ?_;refine aV (v:=.sl 2 (m.ps.map dH.D)) ?_;refine aE ?_;intro u0;refine aD ?_;refine br hm (ι:=Nat) (fun i=>[.un,.un,.un,⟨true,.ptr 0 11 0 0⟩,.un,.un,⟨true,.int .i64 (i:Nat)⟩,⟨true,.int .i64 (m.ps.length:Nat)⟩,.un,⟨true,.sl 2 (m.ps.map dH.D)⟩,⟨true,.str (txP m i)⟩,.un,.un,.un,.un,.un,.un]) (fun i=>[(0,.buf 11 [fD.D m])]) 40 (fun i=>i<=m.ps.length) (fun i=>m.ps.length-i) 0 ae (bm.to [(0,0)] ah ah (by repeat(first|exact de.nil|refine de.un ?_|refine de.eq ah ?_|refine de.nl (ak D.str (by rw[abV])) ah ?_)) lE) ?_;intro i hi;have q3:=C9 g0 hp0 (i:=i) ae;have q4:=hln.2.2.2;refine aF ?_;refine di (fun hc1=>?_) fun hc1=>?_
 .refine aF ?_;refine bz i (hb:=fun _=>ae) ?_;refine bp (v:=dH.D m.ps[i]!) (hi:=fun _=>ae) ?_;refine aE ?_;refine aR (dH.D m.ps[i]!) (he:=aW) ?_;refine aD ?_;have q5:=hln.2.1 i ae;refine aD ?_;refine aV (v:=.str m.ps[i]!.name) ?_;refine gv ?_;refine gv ?_;refine aE ?_;refine aV (v:=.str m.ps[i]!.shelf) ?_;refine gv ?_;refine gv ?_;refine gv ?_;refine bW ?_;have hq:=Gr (m:=m) (i:=i) ae;rw[JP]at hq;exact⟨i+1,ae,ae,(bm.to [(0,0)] ah ah (by repeat(first|exact de.nil|refine de.un ?_|refine de.eq ah ?_|refine de.nl (ak D.str (by rw[hq])) ah ?_)) lE)⟩
 refine aK ?_;obtain rfl:i=m.ps.length:=ae;refine aE ?_;refine aV (v:=.sl 2 (m.hs.map bV.D)) ?_;refine aE ?_;intro u1;refine aD ?_;refine br hm (ι:=Nat) (fun i=>[.un,.un,.un,⟨true,.ptr 0 11 0 0⟩,.un,.un,.un,.un,.un,.un,⟨true,.str (txH m i)⟩,.un,⟨true,.int .i64 (i:Nat)⟩,⟨true,.int .i64 (m.hs.length:Nat)⟩,.un,⟨true,.sl 2 (m.hs.map bV.D)⟩,.un]) (fun i=>[(0,.buf 11 [fD.D m])]) 70 (fun i=>i<=m.hs.length) (fun i=>m.hs.length-i) 0 ae (bm.to [(0,0)] ah ah (by repeat(first|exact de.nil|refine de.un ?_|refine de.eq ah ?_|refine de.nl (ak D.str (by exact(Kl m).symm)) ah ?_)) lE) ?_;intro i hi;have q3:=Kk g0 hp0 (i:=i) ae;have q4:=hln.2.2.2;refine aF ?_;refine di (fun hc2=>?_) fun hc2=>?_
 .refine aF ?_;refine bz i (hb:=fun _=>ae) ?_;refine bp (v:=bV.D m.hs[i]!) (hi:=fun _=>ae) ?_;refine aE ?_;refine aR (bV.D m.hs[i]!) (he:=aW) ?_;refine aD ?_;have q5:=hln.2.2.1 i ae;refine aD ?_;refine aV (v:=.str m.hs[i]!.name) ?_;refine gv ?_;refine gv ?_;refine aE ?_;refine aV (v:=.str m.hs[i]!.range) ?_;refine gv ?_;refine gv ?_;refine gv ?_;refine bW ?_;have hq:=Gq (m:=m) (i:=i) ae;rw[Fa]at hq;exact⟨i+1,ae,ae,(bm.to [(0,0)] ah ah (by repeat(first|exact de.nil|refine de.un ?_|refine de.eq ah ?_|refine de.nl (ak D.str (by rw[hq])) ah ?_)) lE)⟩
 refine aF ?_;obtain rfl:i=m.hs.length:=ae;rw[UY];refine aU ?_;refine bT (aS (ak D.str ?_) (ak (D.int .i64) ?_));all_goals (rw[hps];first|done|rfl)
noncomputable def S9:aN:=dy 85
def w482 {Y:Ctx}(hm:(Y.at 0).cP)(h249:GS Y)(h676:VJ Y)(h677:I0 Y)(h678:VK Y)(c:dZ)  (hp0:c.v.sm):dX Y S9 (.str (eY c)) [dZ.D c]:=by
 show cg _ _ _ [⟨_,_⟩,_,_,_,_,_,_,_] _;refine ay ?_;refine aQ ?_;refine au (hc:=h676 _ ?_) ?_;rotate_left;first|assumption|omega
 refine aD ?_;refine az (fun hc0=>?_) (fun hc0=>?_)
 .simp only[bE]at hc0;refine aU ?_;refine du ?_;simp[eY,hc0]
 simp only[cq]at hc0;obtain⟨hv,hp1,hp2,hp3,hp4⟩:=rL hc0;have hsl:=Bx c.op;have hnl:=wu hv c.parts.toNat;have htl:=Np hp2;have hj1:=Ix hp2;have hj2:=BD hp1 hp2;have hl2:=ak List.length hj2;have hl1:=ak List.length hj1;simp only[bH,List.length_singleton]at hl2;have hi2:(if 0<c.parts then([46]:av)else []).length<=1:=by split<;>simp
 refine aF ?_;refine dd (nx':=6) (v:=.own 6 1 0 c.parts.toNat) (m':=[(6,.buf 1 [.str (ea c.v.major.toNat),.str (ea c.v.minor.toNat),.str (ea c.v.patch.toNat)]),(0,.buf 7 [dZ.D c])]) (hc:=fun K' hK=>h677 c ⟨hv,hp1,hp2⟩ _ _ K' hK) (hn:=aG) ?_;refine bW ?_;refine di (fun hc1=>?_) fun hc1=>?_
 .refine bw ?_;refine aiQ c.parts.toNat (hj:=fun _=>ae) (hb:=fun _=>ae) ?_;refine dq [.str _] ?_;refine B3 ((oX c++[[42]]).map D.str) (n:=(oX c++[[42]]).length) (ha:=dk) (he:=vO.own rfl aI) (hz:=by rw[bR,Gn,List.map_append];rfl) (hn:=dk) (hb:=dk) ?_;refine au (hc:=h249 (oX c++[[42]]) 46 (by rw[hj2];simp only[bH,List.length_singleton];omega)) (ha:=fun _=>ak (fun d=>[d,D.int .u8 46]) (zC (q:=D.str) (fun _=>rfl) ah)) (hp:=fun _=>⟨vB (q:=D.str) (fun _=>rfl) ah,rfl,trivial⟩) ?_;refine aF ?_;refine du ?_;rw[eY,aC hc0,hj2];simp[oL,mY,hc1,er]
 refine aK ?_;refine au (hc:=h678 _) ?_;refine aE ?_;refine au (hc:=h249 (oX c) 46 (by rw[hj1];omega)) (ha:=fun _=>ak (fun d=>[d,D.int .u8 46]) (ad7 ah)) (hp:=fun _=>⟨abP hp2 ah,rfl,trivial⟩) ?_;refine dD (hb:=fun _=>ae) ?_;refine dJ ?_;refine di (fun hc2=>?_) fun hc2=>?_
 .refine aE ?_;have hpl:=hp0.1;refine aE ?_;refine gv ?_;refine aF ?_;refine gv ?_;refine bw ?_;refine du ?_;rw[eY,aC hc0,hj1];simp[oL,mY,hc1,hc2]
 refine aQ ?_;refine du ?_;rw[eY,aC hc0,hj1];simp[oL,mY,hc1,hc2]
noncomputable def Bt:aN:=dy 146
def w677 {Y:Ctx}(hm:(Y.at 0).cP)(c:dZ)(h734:VL Y)(hp0:jD c.v=true/\0<=c.parts/\c.parts<=3):cg (Y.at 0) Bt.body (kJ Bt (One (.own 14 1 0 c.parts.toNat) [(0,.buf 7 [dZ.D c]),(14,.buf 1 [.str (ea c.v.major.toNat),.str (ea c.v.minor.toNat),.str (ea c.v.patch.toNat)])]):Ex->List cA->St->Prop) (gz Bt [dZ.D c]) ⟨0,[]⟩:=by
 show cg _ _ _ [⟨_,_⟩,_,_,_] _;refine ay ?_;refine bw ?_;refine au (hc:=h734 c.v.major (uO hp0.1 0)) ?_;refine aF ?_;refine au (hc:=h734 c.v.minor (uO hp0.1 1)) ?_;refine aF ?_;refine au (hc:=h734 c.v.patch (uO hp0.1 2)) ?_;refine dq [.str _,.str _,.str _] ?_;refine aQ ?_;refine zq c.parts.toNat (hj:=fun _=>ae) (hb:=fun _=>ae) ?_;refine aF ?_;refine ch trivial eP (cn ah (?_)) ah (oneq _ _);rfl
end Go.Abs
