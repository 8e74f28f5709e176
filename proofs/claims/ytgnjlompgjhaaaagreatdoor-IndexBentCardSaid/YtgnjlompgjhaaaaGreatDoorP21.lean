/- A part of the proofs. -/
import Derived.Test.YtgnjlompgjhaaaaGreatDoorP08
set_option linter.all false
set_option maxRecDepth 60000
set_option maxHeartbeats 2000000
namespace Go.Abs
variable {Y:Ctx}(hm:(Y.at 0).b8)
noncomputable def Oz:aC:=cR 229
def w819 (h533:N8 Y)(h658:QO Y)(h827:UH Y)(h828:Yh Y)(h956:C956 Y)(h957:Yo Y)(s:au)  (hp0:s.length<=1048576):di Y Oz (.tup [dI.D ((iw s).getD eQ),.bool (iw s).isSome]) [.str s]:=by
 show bK _ _ _ (⟨true,.str s⟩::.un::.un::.un::.un::.un::.un::.un::.un::.un::.un::.un::.un::.un::.un::.un::.un::.un::.un::.un::.un::.un::.un::.un::.un::.un::.un::.un::.un::.un::.un::.un::.un::[]) ⟨0,[]⟩;have hol:=PJ s;refine ar ?_;refine aB ?_;refine bg (dI.D ⟨9,0,gz⟩) ?_;refine aA ?_;refine aI (dI.D ⟨9,0,gz⟩) (he:=aQ) ?_;refine aZ ?_;refine dh [(.int _ _),(.int _ _),(.int _ _),(.int _ _),(.int _ _),(.int _ _),(.int _ _),(.int _ _)] ?_;refine aA ?_;intro u0;refine ax ?_;refine sO hm (ι:=Unit) (fun _=>(⟨true,.str s⟩::⟨true,.ptr 0 7 0 0⟩::.un::.un::.un::.un::.un::.un::.un::⟨true,.ptr 3 7 0 0⟩::⟨true,.str (dW s).2⟩::.un::.un::.un::.un::.un::.un::.un::.un::.un::.un::.un::.un::.un::.un::.un::.un::.un::.un::.un::.un::.un::.un::[])) (fun _=>[(0,.buf 7 [dI.D eQ]),(3,.buf 7 [dI.D ⟨(dW s).1,0,gz⟩])]) 40 (fun _=>True) ?_ ?_
 .refine eI 7 ?_;refine qU hm (ι:=Nat) (fun i=>(⟨true,.str s⟩::⟨true,.ptr 0 7 0 0⟩::.un::⟨true,.int .i64 (i:Nat)⟩::⟨true,.int .i64 8⟩::.un::⟨true,.sl 1 (opsL.map (D.int .i64))⟩::.un::.un::⟨true,.ptr 3 7 0 0⟩::⟨true,.str s⟩::.un::.un::.un::.un::.un::.un::.un::.un::.un::.un::.un::.un::.un::.un::.un::.un::.un::.un::.un::.un::.un::.un::[])) (fun i=>[(0,.buf 7 [dI.D eQ]),(3,.buf 7 [dI.D ⟨9,0,gz⟩])]) 10 (fun i=>i<=8/\qK s 0=qK s i) (fun i=>8-i) 0 ⟨ae,rfl⟩ (du [(0,0),(3,3)]) ?_;rintro i ⟨hi,hr⟩;have hn8:opsL.length=8:=rfl;refine ay ?_;refine cG (fun hc0=>?_) fun hc0=>?_
  .refine fU ?_;refine aq (hc:=h957 opsL[i]!) ?_;refine aq (hc:=h956 s (dQ opsL[i]!)) ?_;refine aA ?_;refine wp_cond (fun hc1=>?_) (fun hc1=>?_)
   .have hbl:(dQ opsL[i]!).length<=s.length:=by simp only[uc,bC,aK]at hc1;exact hc1.1
    have hro:dW s=(opsL[i]!,s.drop (dQ opsL[i]!).length):=by simp only[dW,hr,L2 (show i<8 by omega) hc1]
    refine ay ?_;refine aI (dI.D ⟨opsL[i]!,0,gz⟩) (he:=aQ) ?_;refine aB ?_;refine aq (hc:=h957 opsL[i]!) ?_;refine aA ?_;intro u1;refine fB (dQ opsL[i]!).length (hb:=fun _=>hbl) ?_;refine aD ?_;simp only[hro];exact⟨(),trivial,(du [(0,0),(3,3)])⟩
   skip
   refine aZ ?_;exact⟨i+1,⟨ae,by rw[hr,L3 ae hc1]⟩,ae,(du [(0,0),(3,3)])⟩
  refine ay ?_;have hro:dW s=(9,s):=by simp only[dW,hr,Bq (show 8<=i by omega)]
  simp only[hro];exact⟨(),trivial,(du [(0,0),(3,3)])⟩
 .rintro _-
  refine aB ?_;intro u2;refine ax ?_;refine sO hm (ι:=Unit) (fun _=>(⟨true,.str s⟩::⟨true,.ptr 0 7 0 0⟩::.un::.un::.un::.un::.un::.un::.un::⟨true,.ptr 3 7 0 0⟩::⟨true,.str (fu s).1⟩::.un::.un::.un::.un::.un::.un::.un::.un::.un::.un::.un::.un::.un::.un::.un::.un::.un::.un::.un::.un::.un::.un::[])) (fun _=>[(0,.buf 7 [dI.D eQ]),(3,.buf 7 [dI.D ⟨(dW s).1,0,{gz with pre:=(fu s).2}⟩])]) 60 (fun _=>True) ?_ ?_
  .refine qU hm (ι:=Nat) (fun i=>(⟨true,.str s⟩::⟨true,.ptr 0 7 0 0⟩::.un::.un::.un::.un::.un::.un::.un::⟨true,.ptr 3 7 0 0⟩::⟨true,.str (dW s).2⟩::⟨true,.int .i64 (i:Nat)⟩::⟨true,.int .i64 ((dW s).2.length:Nat)⟩::.un::.un::.un::.un::.un::.un::.un::.un::.un::.un::.un::.un::.un::.un::.un::.un::.un::.un::.un::.un::[])) (fun i=>[(0,.buf 7 [dI.D eQ]),(3,.buf 7 [dI.D ⟨(dW s).1,0,gz⟩])]) 43 (fun i=>i<=(dW s).2.length/\fu s=iP (dW s).2 i) (fun i=>(dW s).2.length-i) 0 ⟨ae,rfl⟩ (du [(0,0),(3,3)]) ?_;rintro i ⟨hi,hr⟩;refine ay ?_;refine cG (fun hc2=>?_) fun hc2=>?_
   .refine gD ?_;refine wp_cond (fun hc3=>?_) (fun hc3=>?_)
    .simp only[aK]at hc3;have hpr:fu s=((dW s).2.take i,(dW s).2.drop (i+1)):=by rw[hr,L7 ae hc3]
     refine aB ?_;refine fB (i+1) ?_;refine ax ?_;refine aI (dI.D ⟨(dW s).1,0,{gz with pre:=(dW s).2.drop (i+1)}⟩) (he:=aQ) ?_;refine aB ?_;refine lu _ ?_;refine aD ?_;simp only[hpr];exact⟨(),trivial,(du [(0,0),(3,3)])⟩
    try simp only[dq]at hc3
    refine aZ ?_;exact⟨i+1,⟨ae,by rw[hr,L8 ae hc3]⟩,ae,(du [(0,0),(3,3)])⟩
   refine ay ?_;have hpr:fu s=((dW s).2,[]):=by rw[hr,HC ae]
   simp only[hpr];exact⟨(),trivial,(du [(0,0),(3,3)])⟩
  .rintro _-
   have hpl:(fu s).1.length<=s.length/\(fu s).2.length<=s.length:=by
    have:=Bz (dW s).2;exact⟨by show(iP _ 0).1.length<=_;omega,by show(iP _ 0).2.length<=_;omega⟩
   have hlp:1<=(ai (fu s).1 46).length:=er _ _ _;have hln:=dm (fu s).1 46;refine ax ?_;refine aq (hc:=h533 (fu s).1 46 ae) ?_;refine bN ?_;refine sO hm (ι:=Unit) (fun _=>(⟨true,.str s⟩::⟨true,.ptr 0 7 0 0⟩::.un::.un::.un::.un::.un::.un::.un::⟨true,.ptr 3 7 0 0⟩::.un::.un::.un::.un::.un::.un::.un::⟨true,.sl 1 ((eU s).map D.str)⟩::.un::.un::.un::.un::.un::.un::.un::.un::.un::.un::.un::.un::.un::.un::.un::[])) (fun _=>[(0,.buf 7 [dI.D eQ]),(3,.buf 7 [dI.D ⟨(dW s).1,0,{gz with pre:=(fu s).2}⟩])]) 80 (fun _=>oT s) ?_ ?_
   .refine wp_cond (fun hc4=>?_) (fun hc4=>?_)
    .try simp only[dq]at hc4
     refine aE ?_;intro u3;refine aA ?_;refine bI ((ai (fu s).1 46).length-1) (hj:=fun _=>ae) (hb:=fun _=>ae) ?_;refine ay ?_;refine av (fun hc5=>?_) (fun hc5=>?_)
     .simp only[bd,bc]at hc5;have hno:=lx (s:=s) (fun h=>hc5 (h.1 hc4));refine ax ?_;refine bg (dI.D eQ) ?_;refine aE ?_;refine bG (aH ?_ (aj D.bool ?_));all_goals (rw[hno];rfl)
     simp only[bM,aK]at hc5;have hst:oT s:=fun _=>hc5
     have hrl:eU s=(ai (fu s).1 46).take ((ai (fu s).1 46).length-1):=aw hc4;refine aE ?_;intro u4;refine aA ?_;refine oJ ((ai (fu s).1 46).length-1) (hj:=fun _=>ae) (hb:=fun _=>ae) ?_;refine ay ?_;simp only[hrl];exact⟨(),hst,(du [(0,0),(3,3)])⟩
    simp only[bc]at hc4;have hst:oT s:=fun h=>absurd h hc4
    have hrl:eU s=(ai (fu s).1 46):=ak hc4;refine ax ?_;simp only[hrl];exact⟨(),hst,(du [(0,0),(3,3)])⟩
   .rintro _ hst;refine aB ?_;intro u5;refine ax ?_;refine av (fun hc6=>?_) (fun hc6=>?_)
    .simp only[aK]at hc6;have hno:=lx (s:=s) (fun h=>by have:=h.2.1;simp only[fM,bC,aK]at this;omega);refine ax ?_;refine bg (dI.D eQ) ?_;refine aB ?_;refine bG (aH ?_ (aj D.bool ?_));all_goals (rw[hno];rfl)
    try simp only[dq]at hc6
    refine aB ?_;intro u6;refine aA ?_;refine aI (dI.D ⟨(dW s).1,((eU s).length:Nat),{gz with pre:=(fu s).2}⟩) (he:=aQ) ?_;refine aE ?_;intro u7;refine ax ?_;have hb:fM (eU s)=cS (fun i=>fW (eU s)[i]!) 0 (eU s).length:=by simp only[fM];rw[ca ae];rfl
    refine ba hm (ι:=Nat) (fun i=>(⟨true,.str s⟩::⟨true,.ptr 0 7 0 0⟩::.un::.un::.un::.un::.un::.un::.un::⟨true,.ptr 3 7 0 0⟩::.un::.un::.un::.un::.un::.un::.un::.un::.un::.un::⟨true,.int .i64 (i:Nat)⟩::⟨true,.int .i64 ((eU s).length:Nat)⟩::.un::⟨true,.sl 1 ((eU s).map D.str)⟩::.un::.un::.un::.un::.un::.un::.un::.un::.un::[])) (fun i=>[(0,.buf 7 [dI.D eQ]),(3,.buf 7 [dI.D ⟨(dW s).1,((eU s).length:Nat),{L1 (eU s) i with pre:=(fu s).2}⟩])]) 90 (fun i=>i<=(eU s).length/\fM (eU s)=cS (fun i=>fW (eU s)[i]!) i (eU s).length) (fun i=>(eU s).length-i) 0 ⟨ae,hb⟩ (du [(0,0),(3,3)]) ?_;rintro i ⟨hi,hr⟩;refine ay ?_;refine cG (fun hc7=>?_) fun hc7=>?_
    .refine fK ?_;refine aq (hc:=h658 (eU s)[i]!) ?_;refine fK ?_;refine av (fun hc8=>?_) (fun hc8=>?_)
     .simp only[bd]at hc8;have hno:=lx (s:=s) (fun h=>by have:=h.2.1;rw[hr,aU ae,hc8]at this;cases this);refine ax ?_;refine bg (dI.D eQ) ?_;refine aD ?_;refine bG (aH ?_ (aj D.bool ?_));all_goals (rw[hno];rfl)
     simp only[bM]at hc8;refine c7 ?_;refine wp_cond (fun hc9=>?_) (fun hc9=>?_)
     .simp only[aK]at hc9;have hi0:i=0:=ae;refine aB ?_;refine aI (dI.D ⟨(dW s).1,((eU s).length:Nat),{L1 (eU s) (i+1)with pre:=(fu s).2}⟩) (he:=by subst hi0;exact rfl) ?_;refine bN ?_;exact⟨i+1,⟨ae,by rw[hr,aU ae,hc8];rfl⟩,ae,(du [(0,0),(3,3)])⟩
     try simp only[dq]at hc9
     refine aB ?_;refine wp_cond (fun hc10=>?_) (fun hc10=>?_)
     .simp only[aK]at hc10;have hi0:i=1:=ae;refine aB ?_;refine aI (dI.D ⟨(dW s).1,((eU s).length:Nat),{L1 (eU s) (i+1)with pre:=(fu s).2}⟩) (he:=by subst hi0;exact rfl) ?_;refine bN ?_;exact⟨i+1,⟨ae,by rw[hr,aU ae,hc8];rfl⟩,ae,(du [(0,0),(3,3)])⟩
     simp only[bc]at hc10;have hi0:i=2:=ae;refine aB ?_;refine aI (dI.D ⟨(dW s).1,((eU s).length:Nat),{L1 (eU s) (i+1)with pre:=(fu s).2}⟩) (he:=by subst hi0;exact rfl) ?_;refine bN ?_;exact⟨i+1,⟨ae,by rw[hr,aU ae,hc8];rfl⟩,ae,(du [(0,0),(3,3)])⟩
    refine aB ?_;obtain rfl:i=(eU s).length:=ae;have hok:fM (eU s)=true:=by rw[hr,cn ae]
    have hsm:(fk s).v.sm:=⟨by show(fu s).2.length<=_;omega,by show([]:au).length<=_;simp⟩;refine cA (d:=dI.D (fk s)) ?_;refine aq (hc:=h827 (fk s) hsm) ?_;refine ax ?_;refine cA (d:=dI.D (fk s)) ?_;refine c9 (hc:=fun _=>h828 (fk s) hsm) ?_;refine aB ?_;refine av (fun hc11=>?_) (fun hc11=>?_)
    .simp only[cN,bd,bc]at hc11;have hno:=lx (s:=s) (fun h=>by rcases hc11 with h1|h1;rw[h.2.2.1]at h1;cases h1;exact h1 h.2.2.2);refine ax ?_;refine bg (dI.D eQ) ?_;refine aB ?_;refine bG (aH ?_ (aj D.bool ?_));all_goals (rw[hno];rfl)
    simp only[de,bM,aK]at hc11;have hyes:iw s=some (fk s):=by unfold iw;rw[aw ⟨hst,hok,hc11⟩]
    refine ax ?_;refine cA (d:=dI.D (fk s)) ?_;refine aB ?_;refine bG (aH ?_ (aj D.bool ?_));all_goals (rw[hyes];rfl)
noncomputable def HU:aC:=cR 75
def w77 (h71:C71 Y)(h223:XB Y)(h224:XC Y)(s:au)   :di Y HU (.tup [Rec.D (cB s).1,.int .i64 (cB s).2.1,.int .i64 (cB s).2.2]) [.str s]:=by
 show bK _ _ _ [⟨_,_⟩,_,_,_,_,_,_,_,_,_,_,_,_,_] _;have hcase:=A4 s;obtain⟨⟨ls,e⟩,hlx⟩:∃q,az s=q:=⟨_,rfl⟩
 rw[hlx]at hcase;dsimp only at hcase;refine ar ?_;refine bN ?_;intro u0;refine ax ?_;refine av (fun hc0=>?_) (fun hc0=>?_)
 .simp only[aK]at hc0;have hrr:cB s=(hH,3,0):=by unfold cB;rw[aw ae]
  rw[hrr];refine ax ?_;refine bg dy ?_;refine aI dy (he:=aQ) ?_;refine ay ?_;refine kP [(0,.buf 9 [Rec.D hH])] (.bf ah (.cons mN .nil) .nil) ?_;refine aA ?_;refine bG (dj ?_ (aj (D.int .i64) ?_) (aj (D.int .i64) ?_));all_goals rfl
 simp only[bc]at hc0;have h96:¬4096<s.length:=ae;have hsl:=dm s 10;have hln:(oC s).length<=4097:=by rw[eu];omega
 have hll:ls.length<=(oC s).length+1:=by
  rcases hcase with⟨_,_,h⟩|⟨_,_,h⟩<;>rw[h]<;>simp
 have hlm:∀i:Nat,((oC s)[i]! :au).length<=1048576:=fun i=>Cs.get (l:=oC s) (fun t ht=>by have:=dT s 10 (kD ht);omega) i
 refine ay ?_;refine aq (v:=.tup [.sl 1 (ls.map D.str),.bool e]) (hc:=by have:=h223 s ae;rw[hlx]at this;exact this) ?_;refine aA ?_;refine eZ (.sl _ _) ?_;refine aE ?_;refine bg (.agg [.str [],.int .i64 0,.int .i64 0,.int .i64 0,.str [],.str [],.bq,.bq,.bq,.int .i64 0]) ?_;refine aZ ?_;refine ba hm (ι:=(Nat×jq)) (fun p=>[⟨true,.str s⟩,⟨true,.ptr 0 9 0 0⟩,⟨true,.int .i64 0⟩,⟨true,.int .i64 0⟩,.un,⟨true,.int .i64 (p.1:Nat)⟩,⟨true,.sl 1 (ls.map D.str)⟩,.un,⟨true,.bool e⟩,⟨true,.ptr 1 10 0 0⟩,.un,.un,.un,.un]) (fun p=>[(0,.buf 9 [dy]),(1,.buf 10 [og p.2.r.name p.2.r.v p.2.r.needs.length p.2.r.bars.length p.2.r.feats.length ((p.2.st:Nat):Int) 2 4 5]),(2,.buf 3 (eM 3 p.2.r.needs)),(3,.buf 4 (nr p.2.r.needs)),(4,.buf 3 (p.2.r.bars.map fA.D)),(5,.buf 2 (p.2.r.feats.map b7.D))]) 50 (fun p=>p.1<=(oC s).length/\(p.2.ok/\p.2.sz<=p.1)/\mF v8 (oC s)=mF p.2 ((oC s).drop p.1)) (fun p=>ls.length-p.1) (0,v8) ⟨Nat.zero_le _,⟨⟨fun _=>⟨rfl,rfl,rfl⟩,fun h=>by simp[v8]at h,fun h=>by simp[v8]at h⟩,aL _⟩,rfl⟩ (a7.to [(0,0),(14,1)] ah ah ei (by refine bo.fY ah ah ah ?_;refine bo.ni 14 ah ah (by exact⟨_,_,rfl,⟨_,rfl,⟨_,_,rfl,⟨rfl,rfl⟩,⟨_,_,rfl,⟨rfl,rfl⟩,⟨_,_,rfl,⟨rfl,rfl⟩,⟨_,_,rfl,⟨rfl,rfl⟩,⟨_,_,rfl,⟨rfl,rfl⟩,⟨_,_,rfl,⟨rfl,rfl⟩,⟨_,_,rfl,Or.inr ⟨_,_,_,rfl⟩,⟨_,_,rfl,Or.inr ⟨_,_,_,rfl⟩,⟨_,_,rfl,Or.inr ⟨_,_,_,rfl⟩,⟨_,_,rfl,⟨rfl,rfl⟩,rfl⟩⟩⟩⟩⟩⟩⟩⟩⟩⟩⟩,rfl⟩) ?_;refine bo.mt ah ah ah ah ?_;refine bo.mt ah ah ah ah ?_;refine bo.mt ah ah ah ah ?_;refine bo.mt ah ah ah ah ?_;exact bo.nil)) ?_;rintro⟨i,x⟩ ⟨hi,⟨hok,hsz⟩,hrun⟩;dsimp only at hi hok hsz hrun⊢;refine aE ?_;intro u1;refine ax ?_;refine av (fun hc1=>?_) (fun hc1=>?_)
 .simp only[aK]at hc1;have hil:i<ls.length:=ae;refine ay ?_;by_cases hb:(!e&&decide ((i:Nat)=((ls.length:Nat):Int) -1))=true
  .refine aE ?_;refine iy ?_;refine ax ?_;refine Te ?_;rw[hb];refine aB ?_;refine bI i (hb:=fun _=>ae) ?_;refine bE (v:=.str ls[i]!) (hi:=fun _=>ae) ?_;refine Fq ?_;refine r_off (.bool false) ?_;refine r_or (kb:=fun _ h=>by cases h) ?_;refine aA ?_;refine wp_cond (fun hc2=>?_) (fun hc2=>?_)
   .have hbb:=hb;simp only[bC,bd,aK]at hbb;have hrr:cB s=(hH,2,(i:Int)+1):=by
     rcases hcase with⟨h1,_,_⟩|⟨_,h2,h⟩
     .rw[h1]at hbb;cases hbb.1
     .have hl':ls.length=(oC s).length+1:=by rw[h];simp
      have:i=(oC s).length:=ae;subst this;exact HH h96 hi (by rw[hrun,List.drop_length];rfl) (.inr h2)
    rw[hrr];refine aA ?_;refine bg dy ?_;refine ax ?_;refine aI dy (he:=aQ) ?_;refine ay ?_;refine kP [(0,.buf 9 [Rec.D hH])] (.bf ah (.cons mN .nil) .nil) ?_;refine ay ?_;refine bG (dj ?_ (aj (D.int .i64) ?_) (aj (D.int .i64) ?_));all_goals rfl
   skip
   exact absurd hc2 aF
  .refine aE ?_;refine iy ?_;refine ax ?_;refine Te ?_;rw[show(!e&&decide ((i:Nat)=((ls.length:Nat):Int) -1))=false by simpa using hb];refine aB ?_;refine bI i (hb:=fun _=>ae) ?_;refine bE (v:=.str ls[i]!) (hi:=fun _=>ae) ?_;have hin:i<(oC s).length/\ls[i]! =(oC s)[i]! :=by
    rcases hcase with⟨_,_,h⟩|⟨h1,_,h⟩
    .rw[h]at hil⊢;exact⟨hil,rfl⟩
    .have hb':¬((i:Nat):Int)=((ls.length:Nat):Int) -1:=by rw[h1]at hb;simpa using hb
     have hl':ls.length=(oC s).length+1:=by rw[h];simp
     have hi':i<(oC s).length:=ae;exact⟨hi',by rw[h];exact zg hi'⟩
   refine xx (ι:=Unit) (apT:=[.ptr 1 10 0 0,.str ls[i]!]) (fun _=>True) (fun _=>.bool (eF x ls[i]!).isSome) 58 (fun _=>wu (eF x ls[i]!) 1 69++[(0,.buf 9 [dy])]) (fun _ _=>?_) (hc:=fun K' hK=>h224 x ls[i]! hok ae (by rw[hin.2];exact hlm i) _ 1 2 3 4 5 _ K' ⟨aQ,aQ,aQ,aQ,aQ⟩ aF ⟨cd,cd,cd,cd,cd⟩ (by exact hK () trivial)) (hn:=aF);refine ay ?_;refine wp_cond (fun hc2=>?_) (fun hc2=>?_)
   .simp only[Bool.false_or,bd]at hc2;have hso:=j7 hc2;have hrr:cB s=(hH,2,(i:Int)+1):=by
     refine HH (x:=x) h96 hi ?_ (.inl hin.1);rw[hrun,DX (x:=x) hin.1,tw (by rw[<-hin.2];exact hso)]
    rw[hrr,hso];simp only[wu,fg];refine aA ?_;refine bg dy ?_;refine ax ?_;refine aI dy (he:=aQ) ?_;refine ay ?_;refine kP [(0,.buf 9 [Rec.D hH])] (.bf ah (.cons mN .nil) .nil) ?_;refine ay ?_;refine bG (dj ?_ (aj (D.int .i64) ?_) (aj (D.int .i64) ?_));all_goals rfl
   simp only[Bool.false_or,bM]at hc2;obtain⟨y,hso⟩:=j8 hc2;obtain⟨hyo,hys⟩:=Wn hso hok;have hrn:mF v8 (oC s)=mF y ((oC s).drop (i+1)):=by rw[hrun,DX (x:=x) hin.1,iX (by rw[<-hin.2];exact hso)]
   rw[hso];simp only[wu,YD,fD,fg];refine bN ?_;exact⟨(i+1,y),⟨ae,⟨hyo,dF⟩,hrn⟩,dF,(a7.to [(0,0),(1,1),(69,2),(70,3),(71,4),(72,5)] ah ah ei (by refine bo.fY ah ah ah ?_;refine bo.eq 1 ah ah ah ?_;refine bo.eq 69 ah ah (xh _ _ _ _ ah _) ?_;refine bo.nl 70 ah ah rfl (lY _) ?_;refine bo.nl 71 ah ah rfl (br (fun _=>rfl) _) ?_;refine bo.nl 72 ah ah rfl (br (fun _=>rfl) _) ?_;exact bo.nil))⟩
 simp only[bc]at hc1;have hlast:uG s=[]/\mF v8 (oC s)=(x,[]):=by
  rcases hcase with⟨_,h2,h⟩|⟨_,_,h⟩
  .refine⟨h2, ?_⟩;have hl':ls.length=(oC s).length:=by rw[h]
   have:i=(oC s).length:=ae;subst this;rw[hrun,List.drop_length];rfl
  .have hl':ls.length=(oC s).length+1:=by rw[h];simp
   omega
 obtain⟨hl0,hrx⟩:=hlast;refine aZ ?_;refine aT (v:=.int .i64 ((x.st:Nat):Int)) ?_;refine ax ?_;refine av (fun hc3=>?_) (fun hc3=>?_)
 .simp only[aK]at hc3;have hrr:=Tv h96 hrx ae;rw[hrr];refine ax ?_;refine bg dy ?_;refine aI dy (he:=aQ) ?_;refine ay ?_;refine kP ((0,.buf 9 [Rec.D hH])::[]) (.bf ah (.cons mN .nil) .nil) ?_;refine aA ?_;refine bG (dj ?_ (aj (D.int .i64) ?_) (aj (D.int .i64) ?_));all_goals rfl
 simp only[bc]at hc3;obtain⟨hrs,hrr⟩:=Wb h96 hrx ae hl0;rw[hrr];refine ax ?_;refine eI 3 (hn:=lY _) (he:=by simp only[lf,iL,iV,lQ,nk,cJ,Nat.reduceEqDiff,aW,aX,cO,ct,cu,cT,cX,bR,bO,aL,bZ,aN,reduceCtorEq,aP,a8,Nat.reduceAdd,Nat.reduceLeDiff,og,dy];exact rfl) (hm:=by simp only[lf,iL,iV,lQ,nk,cJ,Nat.reduceEqDiff,aW,aX,cO,ct,cu,cT,cX,bR,bO,aL,bZ,aN,reduceCtorEq,aP,a8,Nat.reduceAdd,Nat.reduceLeDiff,og,dy,EV,uw,ux,wO];exact rfl) ?_;refine kP [(0,.buf 9 [dy]),(1,.buf 10 [og x.r.name x.r.v x.r.needs.length x.r.bars.length x.r.feats.length ((x.st:Nat):Int) 2 4 5]),(2,.buf 3 (x.r.needs.map bp.D)),(4,.buf 3 (x.r.bars.map fA.D)),(5,.buf 2 (x.r.feats.map b7.D))] (.id ah (.id ah (.bf ah (Be 3 _) (.id ah (.id ah .nil))))) ?_;refine eI 2 (hn:=br (fun _=>rfl) _) (he:=by simp only[lf,iL,iV,lQ,nk,cJ,Nat.reduceEqDiff,aW,aX,cO,ct,cu,cT,cX,bR,bO,aL,bZ,aN,reduceCtorEq,aP,a8,Nat.reduceAdd,Nat.reduceLeDiff,og,dy];exact rfl) (hm:=by simp only[lf,iL,iV,lQ,nk,cJ,Nat.reduceEqDiff,aW,aX,cO,ct,cu,cT,cX,bR,bO,aL,bZ,aN,reduceCtorEq,aP,a8,Nat.reduceAdd,Nat.reduceLeDiff,og,dy,EV,uw,ux,wO];exact rfl) ?_;refine eI 4 (hn:=br (fun _=>rfl) _) (he:=by simp only[lf,iL,iV,lQ,nk,cJ,Nat.reduceEqDiff,aW,aX,cO,ct,cu,cT,cX,bR,bO,aL,bZ,aN,reduceCtorEq,aP,a8,Nat.reduceAdd,Nat.reduceLeDiff,og,dy];exact rfl) (hm:=by simp only[lf,iL,iV,lQ,nk,cJ,Nat.reduceEqDiff,aW,aX,cO,ct,cu,cT,cX,bR,bO,aL,bZ,aN,reduceCtorEq,aP,a8,Nat.reduceAdd,Nat.reduceLeDiff,og,dy,EV,uw,ux,wO];exact rfl) ?_;refine eI 5 (hn:=br (fun _=>rfl) _) (he:=by simp only[lf,iL,iV,lQ,nk,cJ,Nat.reduceEqDiff,aW,aX,cO,ct,cu,cT,cX,bR,bO,aL,bZ,aN,reduceCtorEq,aP,a8,Nat.reduceAdd,Nat.reduceLeDiff,og,dy];exact rfl) (hm:=by simp only[lf,iL,iV,lQ,nk,cJ,Nat.reduceEqDiff,aW,aX,cO,ct,cu,cT,cX,bR,bO,aL,bZ,aN,reduceCtorEq,aP,a8,Nat.reduceAdd,Nat.reduceLeDiff,og,dy,EV,uw,ux,wO];exact rfl) ?_;refine aB ?_;refine aT (v:=Rec.D x.r) ?_;refine aq (hc:=h71 x.r hrs) ?_;refine fK ?_;refine av (fun hc4=>?_) (fun hc4=>?_)
 .simp only[bd,bc]at hc4;rw[aw hc4];refine ax ?_;refine bg dy ?_;refine aA ?_;refine aI dy (he:=aQ) ?_;refine ay ?_;refine kP ((0,.buf 9 [Rec.D hH])::[]) (.bf ah (.cons mN .nil) .nil) ?_;refine aA ?_;refine bG (dj ?_ (aj (D.int .i64) ?_) (aj (D.int .i64) ?_));all_goals rfl
 simp only[bM,aK]at hc4;rw[ak (by rw[hc4];simp)];refine aE ?_;refine aT (v:=Rec.D x.r) ?_;refine aI (Rec.D x.r) (he:=aQ) ?_;refine aB ?_;refine bG (dj ?_ (aj (D.int .i64) ?_) (aj (D.int .i64) ?_));all_goals rfl
noncomputable def IB:aC:=cR 134
def w441 (h442:XL Y)(h533:N8 Y)(h658:QO Y)(h659:X3 Y)(s:au)  (hp0:s.length<=1048576):di Y IB (.bool (px s true)) [.str s]:=by
 show bK _ _ _ [⟨_,_⟩,_,_,_,_,_,_,_,_,_] _;refine ar ?_;refine aE ?_;refine aq (hc:=h442 _ ?_) ?_;rotate_left;first|assumption|omega
 refine ax ?_;refine av (fun hc0=>?_) (fun hc0=>?_)
 .simp only[bd]at hc0;refine aE ?_;refine bV ?_;symm;simp only[px]at hc0⊢;rw[dz]at hc0⊢;rcases hc0 with h|h
  .exact Or.inl h
  .right;rw[Bool.eq_false_iff]at h⊢;intro h2;apply h;rw[eD]at h2⊢;intro j a b;have:=h2 j a b;simp only[iT,bC]at this⊢;exact⟨this.1,rfl⟩
 simp only[bM]at hc0;refine aB ?_;refine aq (hc:=h533 _ _ ?_) ?_;rotate_left;first|assumption|omega;have hlen:=dm s 46
 refine aA ?_;intro u0;refine ax ?_;have hT:=hc0;simp only[px,bC,aK]at hT;obtain⟨hT4,hTa⟩:=hT;rw[eD]at hTa;have hP:px s true=cS (fun i=>iT true (ai s 46)[i]!) 0 (ai s 46).length:=by
  simp only[px];rw[ca hT4];rfl
 refine ba hm (ι:=Nat) (fun i=>[.un,.un,.un,⟨true,.int .i64 (i:Nat)⟩,⟨true,.int .i64 ((ai s 46).length:Nat)⟩,.un,⟨true,.sl 1 ((ai s 46).map D.str)⟩,.un,.un,.un]) (fun i=>[]) 8 (fun i=>i<=(ai s 46).length/\px s true=cS (fun i=>iT true (ai s 46)[i]!) i (ai s 46).length) (fun i=>(ai s 46).length-i) 0 ⟨ae,hP⟩ (du []) ?_;rintro i ⟨hi,hr⟩;refine ay ?_;refine cG (fun hc1=>?_) fun hc1=>?_
 .refine c7 ?_;refine aq (hc:=h658 _) ?_;refine bN ?_;refine aq (hc:=h659 _) ?_;refine aE ?_;refine wp_cond (fun hc2=>?_) (fun hc2=>?_)
  .skip
   refine aD ?_;refine bV ?_;have hz:iT true (ai s 46)[i]! =false:=by
    simp only[iT];revert hc2;generalize sJ (ai s 46)[i]! =c;generalize dd (ai s 46)[i]! =a;generalize fW (ai s 46)[i]! =b;cases a<;>cases b<;>cases c<;>simp
   rw[hr,aU ae,hz];rfl
  skip
  refine aZ ?_;have hz:iT true (ai s 46)[i]! =true:=by
   have:=hTa i ae ae;simp only[iT,Bool.false_and,Bool.not_false,nE]at this;simp only[iT,this];revert hc2;generalize dd (ai s 46)[i]! =a;generalize fW (ai s 46)[i]! =b;cases a<;>cases b<;>simp
  exact⟨i+1,⟨ae,by rw[hr,aU ae,hz];rfl⟩,ae,(du [])⟩
 refine aD ?_;refine bV ?_;rw[hr,cn ae]
noncomputable def IA:aC:=cR 94
def w209 {Y:Ctx}(hm:(Y.at 0).b8)(h440:C440 Y)(h441:C441 Y)(h442:XL Y)(v:cq)  (hp0:v.sm):di Y IA (.bool (e8 v)) [cq.D v]:=by
 show bK _ _ _ [⟨_,_⟩,_,_] _;refine ar ?_;refine aD ?_;refine aq (hc:=h440 _) ?_;refine ay ?_;refine aq (hc:=h440 _) ?_;refine aB ?_;refine aq (hc:=h440 _) ?_;refine bN ?_;refine c9 (hc:=fun hf=>h441 v.pre hp0.1) ?_;refine c7 ?_;refine c9 (hc:=fun hf=>h442 v.build hp0.2) ?_;refine aE ?_;exact bV rfl
noncomputable def E4:aC:=cR 145
def w665 {Y:Ctx}(hm:(Y.at 0).b8)(h336:C336 Y)(n:Int)  (hp0:0<=n/\n<=9999):di Y E4 (.str (dJ n.toNat)) [.int .i64 n]:=by
 show bK _ _ _ [⟨_,_⟩,_] _;refine ar ?_;refine aB ?_;refine aq (hc:=h336 _ ?_) ?_;rotate_left;first|assumption|omega
 refine ay ?_;exact dc rfl
noncomputable def CV:aC:=cR 101
def w451 {Y:Ctx}(hm:(Y.at 0).b8)(h209:I8 Y)(h665:X8 Y)(v:cq)  (hp0:v.sm):di Y CV (.str (kf v)) [cq.D v]:=by
 show bK _ _ _ [⟨_,_⟩,_,_,_,_,_,_] _;obtain⟨hs1,hs2⟩:=hp0;have hp0:v.sm:=⟨hs1,hs2⟩;refine ar ?_;refine aD ?_;refine aq (hc:=h209 _ ?_) ?_;rotate_left;first|assumption|omega
 refine ax ?_;refine av (fun hc0=>?_) (fun hc0=>?_)
 .simp only[bd]at hc0;refine aE ?_;refine dc ?_;simp[kf,hc0]
 simp only[bM]at hc0;refine ax ?_;have hv:=hc0;simp only[e8,bC]at hv;obtain⟨⟨⟨⟨hv1,hv2⟩,hv3⟩,_⟩,_⟩:=hv;have hq1:=hv1;have hq2:=hv2;have hq3:=hv3;simp only[qz,bC,aK]at hq1 hq2 hq3;have hl1:=eK 4 v.major.toNat ae ae;have hl2:=eK 4 v.minor.toNat ae ae;have hl3:=eK 4 v.patch.toNat ae ae;refine ax ?_;refine aq (hc:=h665 _ ?_) ?_;rotate_left;first|assumption|omega
 refine dk (hb:=fun _=>cZ) ?_;refine ax ?_;refine aq (hc:=h665 _ ?_) ?_;rotate_left;first|assumption|omega
 refine dk (hb:=fun _=>cZ) ?_;refine dk (hb:=fun _=>cZ) ?_;refine ax ?_;refine aq (hc:=h665 _ ?_) ?_;rotate_left;first|assumption|omega
 refine dk (hb:=fun _=>cZ) ?_;refine bN ?_;refine cG (fun hc1=>?_) fun hc1=>?_
 .refine aB ?_;refine dk (hb:=fun _=>cZ) ?_;refine dk (hb:=fun _=>cZ) ?_;refine bN ?_;refine cG (fun hc2=>?_) fun hc2=>?_
  .refine aB ?_;refine dk (hb:=fun _=>cZ) ?_;refine dk (hb:=fun _=>cZ) ?_;refine aZ ?_;refine dc ?_;simp[kf,sN,hc0,hc1,hc2]
  refine aD ?_;refine dc ?_;simp[kf,sN,hc0,hc1,hc2]
 refine aZ ?_;refine cG (fun hc2=>?_) fun hc2=>?_
 .refine aB ?_;refine dk (hb:=fun _=>cZ) ?_;refine dk (hb:=fun _=>cZ) ?_;refine aZ ?_;refine dc ?_;simp[kf,sN,hc0,hc1,hc2]
 refine aD ?_;refine dc ?_;simp[kf,sN,hc0,hc1,hc2]
noncomputable def qI:aC:=cR 129
def w463 {Y:Ctx}(hm:(Y.at 0).b8)  (h:Int)(k:Nat)  (hp0:k=13):di Y qI (.int .u64 (ZP h k)) [.int .u64 h,.int .i64 (k:Nat)]:=by
 show bK _ _ _ [⟨_,_⟩,⟨_,_⟩,_,_] _;subst hp0;refine ar ?_;refine aB ?_;refine lT 13 (hb:=fun _=>by rw[IntKind.wrap_u64];rfl) ?_;refine uO 13 (hb:=fun _=>by rw[IntKind.wrap_u64];rfl) ?_;refine aE ?_;refine HF (tW h 13) (hb:=fun _=>by rw[show min (Int.toNat (13:Int)) (IntKind.bits .u64)=13 by simp[IntKind.bits]];rfl) ?_;refine ax ?_;refine qM 51 (hb:=fun _=>by rw[IntKind.wrap_u64];rfl) ?_;refine tV (sG h 51) (hb:=fun _=>by rw[show min (Int.toNat (51:Int)) (IntKind.bits .u64)=51 by simp[IntKind.bits]];rfl) ?_;refine HE (ZP h 13) (hb:=fun _=>rfl) ?_;refine ay ?_;refine bG (aj (D.int .u64) ?_);rfl
noncomputable def Js:aC:=cR 80
def w220 (h463:C463 Y)(s:au)   :di Y Js (.int .u64 (Iq s)) [.sl 1 ((s).map fun b=>D.int .u8 b.toNat)]:=by
 show bK _ _ _ [⟨_,_⟩,_,_,_,_,_,_,_] _;refine ar ?_;refine c7 ?_;intro u0;refine ax ?_;refine ba hm (ι:=Nat) (fun i=>[.un,.un,⟨true,.int .i64 (i:Nat)⟩,⟨true,.int .i64 (s.length:Nat)⟩,.un,⟨true,.sl 1 (s.map fun b=>D.int .u8 b.toNat)⟩,⟨true,.int .u64 (xM (s.take i))⟩,.un]) (fun i=>[]) 5 (fun i=>i<=s.length) (fun i=>s.length-i) 0 ae (du []) ?_;intro i hi;refine ay ?_;refine cG (fun hc0=>?_) fun hc0=>?_
 .refine aB ?_;refine bE (v:=.int .u8 (at8 s i)) (hv:=fun _=>ld8 s i) ?_;refine aE ?_;refine lT (at8 s i) (hb:=fun _=>by have:=wz s i;rw[IntKind.wrap_u64];omega) ?_;refine Fp (Cl (xM (s.take i)) (at8 s i)) (hb:=fun _=>rfl) ?_;refine aq (hc:=h463 _ 13 rfl) ?_;refine Ts (xM (s.take (i+1))) (hb:=fun _=>by rw[Ed s i ae];rfl) ?_;refine bN ?_;exact⟨i+1,ae,ae,(du [])⟩
 refine ay ?_;have ht:s.take i=s:=ee ae;rw[ht];refine ax ?_;refine tV (sG (xM s) 29) (hb:=fun _=>rfl) ?_;refine Fp (Iq s) (hb:=fun _=>rfl) ?_;refine ay ?_;refine bG (aj (D.int .u64) ?_);rfl
noncomputable def Qf:aC:=cR 83
def w701 {Y:Ctx}(hm:(Y.at 0).b8)(h209:I8 Y)(h295:XJ Y)(a:cq)(b:cq)  (hp0:a.sm/\b.sm):di Y Qf (.bool (Bn a b)) [cq.D a,cq.D b]:=by
 show bK _ _ _ [⟨_,_⟩,⟨_,_⟩,_,_,_] _;refine ar ?_;refine aD ?_;refine aq (hc:=h209 a hp0.1) ?_;refine ax ?_;refine c9 (hc:=fun hf=>h209 b hp0.2) ?_;refine aB ?_;refine c9 (hc:=fun hf=>h295 a b hp0) ?_;refine aE ?_;exact bV rfl
noncomputable def CS:aC:=cR 82
def w700 {Y:Ctx}(hm:(Y.at 0).b8)(h701:C701 Y)(x:cx)(nm:au)(v:cq)  (hp0:x.r.v.sm/\v.sm):di Y CS (.bool (Ha nm v x)) [cx.D x,.ref 1 [.str nm] 0 0,.ref 5 [cq.D v] 0 0]:=by
 show bK _ _ _ [⟨_,_⟩,⟨_,_⟩,⟨_,_⟩,_,_] _;refine ar ?_;refine aD ?_;refine aT (v:=.str x.r.name) ?_;refine ff (v:=.str nm) ?_;refine aB ?_;refine aT (v:=cq.D x.r.v) ?_;refine ff (v:=cq.D v) ?_;refine c9 (hc:=fun hf=>h701 x.r.v v hp0) ?_;refine aB ?_;exact bV rfl
noncomputable def qN:aC:=cR 81
def w699 (h700:C700 Y)(l:List cx)(nm:au)(v:cq)  (hp0:(∀x∈l,x.r.v.sm)/\v.sm):di Y qN (.int .i64 (tM l nm v 0)) [.sl 11 (l.map cx.D),.fn 700 [.ref 1 [.str nm] 0 0,.ref 5 [cq.D v] 0 0]]:=by
 show bK _ _ _ [⟨_,_⟩,⟨_,_⟩,_,_,_,_,_,_] _;refine ar ?_;refine aD ?_;intro u0;refine ax ?_;refine ba hm (ι:=Nat) (fun i=>[⟨true,.sl 11 (l.map cx.D)⟩,⟨true,.fn 700 [.ref 1 [.str nm] 0 0,.ref 5 [cq.D v] 0 0]⟩,.un,⟨true,.int .i64 (i:Nat)⟩,⟨true,.int .i64 (l.length:Nat)⟩,.un,.un,.un]) (fun i=>[]) 4 (fun i=>i<=l.length/\tM l nm v 0=tM l nm v i) (fun i=>l.length-i) 0 ⟨ae,rfl⟩ (du []) ?_;rintro i ⟨hi,hr⟩;refine ay ?_;refine cG (fun hc0=>?_) fun hc0=>?_
 .refine fK ?_;first|refine bE (v:=(cx.D _)) ?_|refine ff (v:=(cx.D _)) ?_
  refine V8 (hc:=fun _=>h700 l[i]! nm v ⟨hp0.1 _ (bF ae),hp0.2⟩) ?_;refine aA ?_;refine fO (fun hc1=>?_) fun hc1=>?_
  .refine aZ ?_;refine cY ?_;rw[hr,S2 ae hc1]
  refine aZ ?_;exact⟨i+1,⟨ae,by rw[hr,S4 ae hc1]⟩,ae,(du [])⟩
 refine aD ?_;refine cY ?_;rw[hr,L6 ae]
noncomputable def Ij:aC:=cR 47
def w511 {Y:Ctx}(hm:(Y.at 0).b8)(h699:C699 Y)(l:List cx)(nm:au)(v:cq)  (hp0:(∀x∈l,x.r.v.sm)/\v.sm):di Y Ij (.int .i64 (tM l nm v 0)) [.sl 11 (l.map cx.D),.str nm,cq.D v]:=by
 show bK _ _ _ [⟨_,_⟩,⟨_,_⟩,⟨_,_⟩,_,_,_] _;refine ar ?_;refine aB ?_;refine eI 0 ?_;refine eI 1 ?_;refine ax ?_;refine Xm [.ref 1 [.str nm] 0 0,.ref 5 [cq.D v] 0 0] ?_;refine aq (hc:=h699 l nm v hp0) ?_;refine ay ?_;exact cY rfl
noncomputable def Qe:aC:=cR 20
def w353 (h74:C74 Y)(h208:N5 Y)(h511:C511 Y)(s:fR)  (hp0:∀x∈s.es,fC x.r):di Y Qe (.bool (kA s)) [fR.D s]:=by
 show bK _ _ _ [⟨_,_⟩,_,_,_,_,_,_,_,_,_,_,_,_] _;refine ar ?_;refine aD ?_;refine aT (v:=.str s.name) ?_;refine aq (hc:=h208 _) ?_;refine ay ?_;refine aT (v:=.sl 11 (s.es.map cx.D)) ?_;refine iy ?_;refine ay ?_;refine av (fun hc0=>?_) (fun hc0=>?_)
 .simp only[cN,bd,aK]at hc0;have hf:kA s=false:=by
   unfold kA;rcases hc0 with h|h
   .rw[h];rfl
   .rw[show decide (s.es.length<=64)=false from cI ae];simp
  refine aE ?_;refine bV ?_;exact hf.symm
 simp only[de,bM,bc]at hc0;have hq:kA s=cS (pF s.es) 0 s.es.length:=by unfold kA;rw[hc0.1,ca (show s.es.length<=64 by omega)];simp
 refine aB ?_;refine aT (v:=.sl 11 (s.es.map cx.D)) ?_;refine aA ?_;intro u0;refine ax ?_;refine ba hm (ι:=Nat) (fun i=>[.un,.un,⟨true,.ptr 0 2 0 0⟩,.un,⟨true,.int .i64 (i:Nat)⟩,⟨true,.int .i64 (s.es.length:Nat)⟩,.un,⟨true,.sl 11 (s.es.map cx.D)⟩,.un,.un,.un,.un,.un]) (fun i=>[(0,.buf 2 [fR.D s])]) 16 (fun i=>i<=s.es.length/\kA s=cS (pF s.es) i s.es.length) (fun i=>s.es.length-i) 0 ⟨ae,hq⟩ (du [(0,0)]) ?_;rintro i ⟨hi,hr⟩;refine ay ?_;refine cG (fun hc1=>?_) fun hc1=>?_
 .refine ay ?_;have hsm:=hp0 _ (bF (show i<s.es.length by omega));refine aA ?_;refine bI i ?_;refine bE (v:=cx.D s.es[i]!) ?_;refine ax ?_;refine aI (cx.D s.es[i]!) (he:=aQ) ?_;refine ay ?_;refine aT (v:=Rec.D s.es[i]!.r) ?_;refine aq (hc:=h74 s.es[i]!.r hsm) ?_;refine gD ?_;refine aT (v:=.int .u64 s.es[i]!.sum) ?_;refine aB ?_;refine aT (v:=.sl 11 (s.es.map cx.D)) ?_;refine ax ?_;refine ZK (q:=cx.D) i (hj:=fun _=>rfl) (hb:=fun _=>ae) ?_;refine ax ?_;refine aT (v:=.str s.es[i]!.r.name) ?_;refine ax ?_;refine aT (v:=cq.D s.es[i]!.r.v) ?_;refine c9 (hc:=fun hf=>h511 (s.es.take i) s.es[i]!.r.name s.es[i]!.r.v ⟨fun x hx=>(hp0 x (kD hx)).1.2,hsm.1.2⟩) ?_;refine ay ?_;refine wp_cond (fun hc2=>?_) (fun hc2=>?_)
  .have hen:pF s.es i=false:=by
    unfold pF;simp only[cN,bd,aK,bc]at hc2;simp only[dz,bc];rcases hc2 with(h|h)|h
    .exact .inl (.inl h)
    .exact .inl (.inr h)
    .exact .inr ae
   refine aD ?_;refine bV ?_;rw[hr,aU ae,hen];rfl
  have hen:pF s.es i=true:=by
   unfold pF;simp only[de,bM,aK,bc]at hc2;simp only[bC,aK];exact⟨hc2.1,ae⟩
  refine aZ ?_;exact⟨i+1,⟨ae,by rw[hr,aU ae,hen];rfl⟩,ae,(du [(0,0)])⟩
 refine aD ?_;refine bV ?_;rw[hr,cn ae]
noncomputable def O9:aC:=cR 51
def w229 (h228:Jb Y)(h231:XG Y)(h479:UC Y)(h480:C480 Y)(h481:XW Y)(l:List Int)(i:Int)(own:Int)  (hp0:0<=i/\i<=2000000)(hp1:0<=own/\own<=1000000):di Y O9 (bp.D (iu l i own)) [.sl 1 (l.map (D.int .i64)),.int .i64 i,.int .i64 own]:=by
 show bK _ _ _ [⟨_,_⟩,⟨_,_⟩,⟨_,_⟩,_,_,_,_,_,_,_] _;refine ar ?_;refine gD ?_;refine aq (hc:=h228 l (i) 5 aF) ?_;refine ax ?_;refine sO hm (ι:=Unit) (fun _=>[⟨true,.sl 1 (l.map (D.int .i64))⟩,⟨true,.int .i64 i⟩,⟨true,.int .i64 own⟩,⟨true,.ptr 0 3 0 0⟩,.un,.un,⟨true,.int .i64 (gp l i:Nat)⟩,.un,⟨true,.ptr 1 3 0 0⟩,.un]) (fun _=>[(0,.buf 3 [.agg [.bq,.str [],.str []]]),(1,.buf 3 [.agg [.bq,.str [],.str []]])]) 20 (fun _=>True) ?_ ?_
 .refine fO (fun hc0=>?_) fun hc0=>?_
  .refine aB ?_;have hmn:((gp l i:Nat):Int)=2:=by simp[gp,hc0]
   exact⟨(),trivial,(a7.to [(0,0),(1,1)] ah ah (by repeat(first|exact dr.nil|refine dr.un ?_|refine dr.eq ah ?_|refine dr.nl (aj (D.int .i64) hmn) ah ?_)) qd)⟩
  refine ax ?_;have hmn:((gp l i:Nat):Int)=1:=by simp[gp,hc0]
  exact⟨(),trivial,(a7.to [(0,0),(1,1)] ah ah (by repeat(first|exact dr.nil|refine dr.un ?_|refine dr.eq ah ?_|refine dr.nl (aj (D.int .i64) hmn) ah ?_)) qd)⟩
 .rintro _-
  have hml:=AV l i;refine aB ?_;refine ba hm (ι:=(Nat×List bT)) (fun p=>[⟨true,.sl 1 (l.map (D.int .i64))⟩,⟨true,.int .i64 i⟩,⟨true,.int .i64 own⟩,⟨true,.ptr 0 3 0 0⟩,.un,⟨true,.int .i64 (p.1:Nat)⟩,⟨true,.int .i64 (gp l i:Nat)⟩,.un,⟨true,.ptr 1 3 0 0⟩,.un]) (fun p=>[(0,.buf 3 [.agg [.bq,.str [],.str []]]),(1,.buf 3 [(.agg [.own 2 4 0 p.2.length,.str [],.str []])]),(2,.buf 4 (p.2.map bT.D))]) 40 (fun p=>p.1<=gp l i/\p.2=uy l i own p.1) (fun p=>gp l i-p.1) (0,[]) ⟨dF,rfl⟩ (a7.to [(0,0),(1,1)] ah ah lP (by refine eN ?_;refine bo.ni 1 ah ah (by exact⟨_,_,rfl,⟨_,rfl,⟨_,_,rfl,Or.inr ⟨_,_,_,rfl⟩,⟨_,_,rfl,⟨rfl,rfl⟩,⟨_,_,rfl,⟨rfl,rfl⟩,rfl⟩⟩⟩⟩,rfl⟩) ?_;refine bo.mt ah ah ah ah ?_;exact bo.nil)) ?_;rintro⟨k,ws⟩ ⟨hk,hw⟩;dsimp only at hk hw⊢;have hwl:ws.length=k:=by rw[hw];simp[uy]
  refine aD ?_;refine av (fun hc1=>?_) (fun hc1=>?_)
  .try simp only[dq]at hc1
   refine c7 ?_;refine nW ?_;refine aB ?_;refine aq (hc:=h480 l (i+1+6*(k:Nat)) own (decide ((gp l i:Int)=1)) ae hp1) ?_;refine dh [bT.D (mV l (i+1+6*(k:Nat)) own (decide ((gp l i:Int)=1)))] ?_;refine gV (q:=bT.D) (xs:=ws) (e:=mV l (i+1+6*(k:Nat)) own (decide ((gp l i:Int)=1))) ?_;refine aA ?_;refine aI (.agg [.own 56 4 0 (ws++[mV l (i+1+6*(k:Nat)) own (decide ((gp l i:Int)=1))]).length,.str [],.str []]) (he:=aQ) ?_;refine bN ?_;exact⟨(k+1,ws++[mV l (i+1+6*(k:Nat)) own (decide ((gp l i:Int)=1))]),⟨dF,by dsimp only;rw[OU,hw]⟩,dF,(a7.to [(0,0),(1,1),(56,2)] ah ah lP (by refine eN ?_;refine bo.Gc ah ah ah ?_;refine bo.nl 56 ah ah rfl (br (fun _=>rfl) _) ?_;exact bo.nil))⟩
  simp only[bc]at hc1;obtain rfl:k=gp l i:=ae;refine aD ?_;refine aq (hc:=h231 l (i+14) ae) ?_;refine aA ?_;refine aI (.agg [.own 2 4 0 ws.length,.str (mU l (i+14)),.str []]) (he:=aQ) ?_;refine aD ?_;refine aq (hc:=h228 l (i+16) 4 aF) ?_;refine ax ?_;refine cG (fun hc2=>?_) fun hc2=>?_
  .refine aB ?_;refine aq (hc:=h479 l (i+17)) ?_;refine aq (hc:=h481 _) ?_;refine aA ?_;refine aI (.agg [.own 2 4 0 ws.length,.str (mU l (i+14)),.str (mW (kS l (i+17)))]) (he:=aQ) ?_;refine aA ?_;refine eI 2 ?_;refine aA ?_;refine cA (d:=(.agg [.sl 4 (ws.map bT.D),.str (mU l (i+14)),.str (mW (kS l (i+17)))])) ?_;refine aI (.agg [.sl 4 (ws.map bT.D),.str (mU l (i+14)),.str (mW (kS l (i+17)))]) (he:=aQ) ?_;refine ax ?_;refine bG (?_);simp only[bp.D,iu];rw[aw hc2,<-hw];rfl
  refine aA ?_;refine eI 2 ?_;refine aA ?_;refine cA (d:=(.agg [.sl 4 (ws.map bT.D),.str (mU l (i+14)),.str []])) ?_;refine aI (.agg [.sl 4 (ws.map bT.D),.str (mU l (i+14)),.str []]) (he:=aQ) ?_;refine ax ?_;refine bG (?_);simp only[bp.D,iu];rw[ak hc2,<-hw];rfl
noncomputable def P5:aC:=cR 251
def w898  (s:au)   :di Y P5 (.str (eO s)) [.str s]:=by
 show bK _ _ _ [⟨_,_⟩,_,_,_] _;refine ar ?_;refine ax ?_;refine ba hm (ι:=au) (fun t=>[⟨true,.str t⟩,.un,.un,.un]) (fun t=>[]) 1 (fun t=>kW s=kW t/\t.length<=s.length) (fun t=>t.length) s ⟨rfl,aL _⟩ (du []) ?_;rintro t ⟨hr,hl⟩;refine aB ?_;intro u0;refine ay ?_;refine qe 0 ?_;refine ay ?_;refine cG (fun hc0=>?_) fun hc0=>?_
 .refine aB ?_;refine fB 1 (hb:=fun _=>ae) ?_;refine aB ?_;exact⟨(t.drop 1),⟨by rw[hr,C3 ae hc0.2],by rw[jY];omega⟩,by rw[jY];omega,(du [])⟩
 refine ax ?_;have hbt:eO s=Au t:=by
  show(kW (kW s).reverse).reverse=_;rw[hr,At hc0];rfl
 refine ba hm (ι:=au) (fun u=>[⟨true,.str u⟩,.un,.un,.un]) (fun u=>[]) 9 (fun u=>eO s=Au u/\u.length<=s.length) (fun u=>u.length) t ⟨hbt,hl⟩ (du []) ?_;rintro u ⟨hru,hlu⟩;refine aB ?_;intro u1;refine aB ?_;refine iy ?_;refine aA ?_;refine qe (u.length-1) ?_;refine ay ?_;refine cG (fun hc1=>?_) fun hc1=>?_
 .refine aD ?_;intro u2;refine aA ?_;refine lu (u.length-1) (hj:=fun _=>ae) (hb:=fun _=>ae) ?_;refine aB ?_;exact⟨(u.take (u.length-1)),⟨by rw[hru,Oq ae hc1.2],by rw[eu];omega⟩,by rw[eu];omega,(du [])⟩
 refine aZ ?_;refine dc ?_;rw[hru,Ji hc1]
noncomputable def P4:aC:=cR 249
def w896  (s:au)  (hp0:s.length<=1048576):di Y P4 (.sl 1 ((aR s []).map D.str)) [.str s]:=by
 show bK _ _ _ [⟨_,_⟩,_,_,_,_,_,_] _;refine ar ?_;refine gD ?_;refine ba hm (ι:=(Nat×Nat×List au)) (fun p=>[⟨true,.str s⟩,.un,⟨true,.int .i64 (p.1:Nat)⟩,.un,⟨true,.int .i64 (p.2.1:Nat)⟩,.un,⟨true,.own 0 1 0 p.2.2.length⟩]) (fun p=>[(0,.buf 1 (p.2.2.map D.str))]) 4 (fun p=>p.1<=s.length/\p.2.1<=s.length/\p.2.1<=p.1+1/\p.2.2.length<=p.1/\tP s p.1 p.2.1 p.2.2) (fun p=>s.length-p.1) (0,0,[]) ⟨aJ,aJ,aJ,aJ,by simp[tP]⟩ (a7.to [] ah ah (by repeat(first|exact dr.nil|refine dr.un ?_|refine dr.eq ah ?_|refine dr.nl ah ah ?_|refine dr.ni (Or.inr ⟨_,_,_,rfl⟩) ?_)) (by repeat(first|exact bo.nil|refine bo.mt ah ah ah ah ?_))) ?_;rintro⟨i,fr,acc⟩ ⟨hi,hf,hfi,ha,hr⟩;dsimp only at hi hf hfi ha hr⊢;refine aD ?_;intro u0;refine ax ?_;refine cG (fun hc0=>?_) fun hc0=>?_
 .refine aE ?_;refine qe i ?_;refine aE ?_;refine qe (i+1) ?_;refine bN ?_;refine fO (fun hc1=>?_) fun hc1=>?_
  .refine aE ?_;refine BH fr i (hb:=fun _=>ae) ?_;refine dh [(.str _)] ?_;refine Cn ?_;exact⟨(i+1,i+2,acc++[(s.take i).drop fr]),⟨dF,dF,dF,cZ,Om hr ae hc1⟩,dF,(a7.to [(31,0)] ah ah ei (by refine bo.nl 31 ah ah ah eL ?_;exact bo.nil))⟩
  refine bN ?_;exact⟨(i+1,fr,acc),⟨dF,dF,dF,dF,Q8 hr ae hfi hc1⟩,dF,(a7.to [(0,0)] ah ah ei (by refine eN ?_;exact bo.nil))⟩
 refine aD ?_;refine fB fr (hb:=fun _=>ae) ?_;refine dh [(.str _)] ?_;refine ay ?_;refine eI 14 ?_;refine aA ?_;refine bG (?_);rw[Ol hr ae hf];rfl
noncomputable def FE:aC:=cR 273
def w1008 (h667:QP Y)(l:List au)   :di Y FE (.tup [cq.D (Bj l),.bool (fM l)]) [.sl 1 (l.map D.str)]:=by
 show bK _ _ _ [⟨_,_⟩,_,_,_,_,_,_,_,_,_] _;refine ar ?_;refine fU ?_;intro u0;refine ax ?_;refine cG (fun hc0=>?_) fun hc0=>?_
 .refine ax ?_;refine bg (cq.D gz) ?_;refine aB ?_;refine bG (aH ?_ (aj D.bool ?_));all_goals (have hq:fM l=false:=(by simp only[fM];rw[cI ae];rfl);first|(rw[hq];done)|(simp only[Bj,hq,fS,aX,aW];rfl))
 refine aE ?_;have hb:fM l=cS (fun i=>fW l[i]!) 0 l.length:=by simp only[fM];rw[ca ae];rfl
 refine ba hm (ι:=Nat) (fun i=>[⟨true,.sl 1 (l.map D.str)⟩,⟨true,.ptr 0 5 0 0⟩,.un,.un,⟨true,.int .i64 (i:Nat)⟩,.un,.un,.un,.un,⟨true,.ptr 2 3 0 0⟩]) (fun i=>[(0,.buf 5 [cq.D gz]),(2,.buf 3 [Pn l i])]) 7 (fun i=>i<=l.length/\fM l=cS (fun i=>fW l[i]!) i l.length) (fun i=>l.length-i) 0 ⟨ae,hb⟩ (du [(0,0),(2,2)]) ?_;rintro i ⟨hi,hr⟩;refine aE ?_;intro u1;refine ax ?_;refine cG (fun hc1=>?_) fun hc1=>?_
 .refine aZ ?_;refine aq (hc:=h667 _) ?_;refine fK ?_;refine av (fun hc2=>?_) (fun hc2=>?_)
  .simp only[bd]at hc2;refine ax ?_;refine bg (cq.D gz) ?_;refine aD ?_;refine bG (aH ?_ (aj D.bool ?_));all_goals (have hq:fM l=false:=(by rw[hr,aU ae,hc2];rfl);first|(rw[hq];done)|(simp only[Bj,hq,fS,aX,aW];rfl))
  simp only[bM]at hc2;refine aB ?_;refine sk i ?_;refine aI (Pn l (i+1)) (he:=Hn l i ae) ?_;refine bN ?_;exact⟨i+1,⟨ae,by rw[hr,aU ae,hc2];rfl⟩,ae,(du [(0,0),(2,2)])⟩
 refine ay ?_;obtain rfl:i=l.length:=ae;have hok:fM l=true:=by rw[hr,cn ae]
 refine sk 0 ?_;refine aT (v:=.int .i64 (if 0<l.length then eg l[0]! else 0)) ?_;refine sk 1 ?_;refine aT (v:=.int .i64 (if 1<l.length then eg l[1]! else 0)) ?_;refine sk 2 ?_;refine aT (v:=.int .i64 (if 2<l.length then eg l[2]! else 0)) ?_;refine bg (cq.D (SA l)) ?_;refine aB ?_;refine bG (aH ?_ (aj D.bool ?_));all_goals (have hq:=hok;first|(rw[hq];done)|(simp only[Bj,hq,fS,aX,aW];rfl))
end Go.Abs
