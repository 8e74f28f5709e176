/- A part of the proofs. -/
import Derived.Test.YtfijeeijkndliaaGreatDoorP07
set_option linter.all false
set_option maxRecDepth 60000
set_option maxHeartbeats 2000000
namespace Go.Abs
variable {Y:Ctx}(hm:(Y.at 0).cP)
noncomputable def abr:aN:=dy 112
def w453 {Y:Ctx}(hm:(Y.at 0).cP)  (c:Int)   :dX Y abr (.bool (jq c)) [.int .u8 c]:=by
 show cg _ _ _ [⟨_,_⟩,_] _;refine ay ?_;refine jX ?_;exact cd rfl
noncomputable def S2:aN:=dy 113
def w454 {Y:Ctx}(hm:(Y.at 0).cP)  (c:Int)   :dX Y S2 (.bool (bJ c)) [.int .u8 c]:=by
 show cg _ _ _ [⟨_,_⟩,_] _;refine ay ?_;refine jX ?_;exact cd rfl
noncomputable def Xk:aN:=dy 170
def w357 (h453:Vz Y)(h454:NT Y)(s:av)   :dX Y Xk (.bool (dj s)) [.str s]:=by
 show cg _ _ _ [⟨_,_⟩,_,_,_,_,_] _;refine ay ?_;refine aQ ?_;intro u0;refine aF ?_;refine gN ?_;refine aF ?_;refine di (fun hc0=>?_) fun hc0=>?_
 .refine aU ?_;refine cd ?_;symm;simp only[dj,ef,bC];exact Or.inl ae
 refine aU ?_;refine br hm (ι:=Nat) (fun i=>[⟨true,.str s⟩,.un,.un,⟨true,.int .i64 (i:Nat)⟩,.un,.un]) (fun i=>[]) 10 (fun i=>i<=s.length/\dj s=c9 (fun i=>Da (at8 s i)) i s.length) (fun i=>s.length-i) 0 ⟨ae,by simp only[dj];rw[bY ae,bY ae];rfl⟩ (dQ []) ?_;rintro i ⟨hi,hr⟩;refine aU ?_;intro u1;refine aD ?_;refine di (fun hc1=>?_) fun hc1=>?_
 .refine aQ ?_;refine au (hc:=h453 _) ?_;refine aU ?_;refine au (hc:=h454 _) ?_;refine dJ ?_;refine iI (fun hc2=>?_) fun hc2=>?_
  .refine aQ ?_;refine cd ?_;rw[hr,bc ae];simp[Da,hc2]
  refine bW ?_;exact⟨i+1,⟨ae,by rw[hr,bc ae];simp[Da,hc2]⟩,ae,(dQ [])⟩
 refine aQ ?_;refine cd ?_;rw[hr,cL ae]
noncomputable def Xj:aN:=dy 62
def w216 (h453:Vz Y)(h454:NT Y)(s:av)   :dX Y Xj (.bool (eV s)) [.str s]:=by
 show cg _ _ _ [⟨_,_⟩,_,_,_,_,_] _;refine ay ?_;refine aQ ?_;intro u0;refine aF ?_;refine gN ?_;refine aK ?_;refine sj 0 ?_;refine au (hc:=h453 _) ?_;refine aU ?_;refine gN ?_;refine aE ?_;refine sj (s.length-1) ?_;refine aF ?_;refine di (fun hc0=>?_) fun hc0=>?_
 .refine aU ?_;refine cd ?_;symm;simp only[eV];rcases hc0 with(h|h)|h
  .rcases h with h|h<;>simp<;>omega
  .simp[h]
  .simp[h]
 refine aU ?_;refine br hm (ι:=Nat) (fun i=>[⟨true,.str s⟩,.un,.un,⟨true,.int .i64 (i:Nat)⟩,.un,.un]) (fun i=>[]) 24 (fun i=>i<=s.length/\1<=i/\eV s=c9 (nch s) i s.length) (fun i=>s.length-i) 1 ⟨ae,ae,by simp only[eV];rw[bY ae,bY ae,hc0.1.2,cy hc0.2];rfl⟩ (dQ []) ?_;rintro i ⟨hi,hi1,hr⟩;refine aU ?_;intro u1;refine aD ?_;refine di (fun hc1=>?_) fun hc1=>?_
 .refine aQ ?_;refine au (hc:=h453 _) ?_;refine aU ?_;refine au (hc:=h454 _) ?_;refine GM ?_;refine sj (i-1) ?_;refine aK ?_;refine iI (fun hc2=>?_) fun hc2=>?_
  .refine aQ ?_;refine cd ?_;rw[hr,bc ae];simp only[nch];revert hc2;generalize jq (at8 s i)=x;generalize bJ (at8 s i)=y;by_cases h1:at8 s i=45<;>by_cases h2:at8 s (i-1)=45<;>cases x<;>cases y<;>simp_all
  refine bW ?_;exact⟨i+1,⟨ae,ae,by rw[hr,bc ae];simp only[nch];revert hc2;generalize jq (at8 s i)=x;generalize bJ (at8 s i)=y;by_cases h1:at8 s i=45<;>by_cases h2:at8 s (i-1)=45<;>cases x<;>cases y<;>simp_all⟩,ae,(dQ [])⟩
 refine aQ ?_;refine cd ?_;rw[hr,cL ae]
noncomputable def MX:aN:=dy 166
def w667 (h454:NT Y)(s:av)   :dX Y MX (.tup [.int .i64 (fe s),.bool (gV s)]) [.str s]:=by
 show cg _ _ _ [⟨_,_⟩,_,_,_,_,_,_,_,_] _;refine ay ?_;refine bw ?_;intro u0;refine aF ?_;refine gN ?_;refine aK ?_;refine gN ?_;refine aF ?_;refine sj 0 ?_;refine aK ?_;refine di (fun hc0=>?_) fun hc0=>?_
 .refine aQ ?_;refine bT (aS (ak (D.int .i64) ?_) (ak D.bool ?_));all_goals
   have:gV s=false:=by
    simp only[gV];rcases hc0 with(h|h)|h
    .rw[cy (by omega:¬1<=s.length)];rfl
    .rw[cy (by omega:¬s.length<=9)];simp
    .rw[bY (by omega:1<s.length),bY h.2];simp
   simp[fe,this]
 refine bW ?_;have hP:gV s=(c9 (fun i=>bJ (at8 s i)) 0 s.length&&decide (ed s<=9999)):=by
  simp only[gV];rw[bY (by omega:1<=s.length),bY (by omega:s.length<=9)];rcases hc0.2 with h|h
  .rw[cy (by omega:¬1<s.length)];rfl
  .rw[cy h,Bool.and_false];rfl
 refine br hm (ι:=Nat) (fun i=>[⟨true,.str s⟩,.un,.un,.un,⟨true,.int .i64 (i:Nat)⟩,.un,.un,⟨true,.int .i64 (ed (s.take i):Nat)⟩,.un]) (fun i=>[]) 22 (fun i=>i<=s.length/\s.length<=9/\gV s=(c9 (fun i=>bJ (at8 s i)) i s.length&&decide (ed s<=9999))) (fun i=>s.length-i) 0 ⟨ae,ae,hP⟩ (dQ []) ?_;rintro i ⟨hi,h9,hr⟩;refine aU ?_;intro u1;refine aD ?_;refine di (fun hc1=>?_) fun hc1=>?_
 .refine bw ?_;refine au (hc:=h454 _) ?_;refine aD ?_;refine az (fun hc2=>?_) (fun hc2=>?_)
  .try simp only[cX]at hc2
   refine bW ?_;refine bT (aS (ak (D.int .i64) ?_) (ak D.bool ?_));all_goals
    have:gV s=false:=by rw[hr,bc ae,hc2];rfl
    simp[fe,this]
  simp only[cq]at hc2;refine aD ?_;have h48:=hc2;simp only[bJ,bM,bh]at h48;have hn:=zo s i ae;have hn2:=B0 s i ae;have h256:=Zw s i;refine aE ?_;refine C3 ?_;refine aF ?_;refine abl (at8 s i-48) (hb:=fun _=>IntWalk.u8_in _ ae) ?_;refine B4 (at8 s i-48) (hb:=fun _=>IntWalk.i64_in _ ae) ?_;refine aF ?_;rw[show(ed (s.take i):Int)*10+(at8 s i-48)=(ed (s.take (i+1)):Nat)by omega];refine bw ?_;exact⟨i+1,⟨ae,h9,by rw[hr,bc ae,hc2];rfl⟩,ae,(dQ [])⟩
 refine aK ?_;have ht:s.take i=s:=fq ae;rw[ht];refine aF ?_;refine di (fun hc3=>?_) fun hc3=>?_
 .refine aQ ?_;refine bT (aS (ak (D.int .i64) ?_) (ak D.bool ?_));all_goals
   have:gV s=false:=by rw[hr,cy ae,Bool.and_false]
   simp[fe,this]
 refine bw ?_;refine bT (aS (ak (D.int .i64) ?_) (ak D.bool ?_));all_goals
  have:gV s=true:=by rw[hr,cL ae,bY ae];rfl
  simp[fe,this]
noncomputable def J4:aN:=dy 167
def w668  (t:av)   :dX Y J4 (.bool (jz t)) [.str t]:=by
 show cg _ _ _ [⟨_,_⟩,_,_,_,_] _;refine ay ?_;refine aQ ?_;refine br hm (ι:=Nat) (fun i=>[⟨true,.str t⟩,.un,⟨true,.int .i64 (i:Nat)⟩,.un,.un]) (fun i=>[]) 2 (fun i=>i<=t.length/\c9 (fun i=>bJ (at8 t i)) 0 t.length=c9 (fun i=>bJ (at8 t i)) i t.length) (fun i=>t.length-i) 0 ⟨ae,rfl⟩ (dQ []) ?_;rintro i ⟨hi,hr⟩;refine aU ?_;intro u0;refine aD ?_;refine di (fun hc0=>?_) fun hc0=>?_
 .refine vN ?_;refine iI (fun hc1=>?_) fun hc1=>?_
  .refine aQ ?_;refine cd ?_;simp only[jz];rw[hr,bc ae];rcases hc1 with h|h<;>simp[bJ]<;>omega
  refine bW ?_;exact⟨i+1,⟨ae,by rw[hr,bc ae];rw[show bJ (at8 t i)=true by simp only[bJ,bM,bh];omega];rfl⟩,ae,(dQ [])⟩
 refine aU ?_;intro u1;refine aK ?_;refine cd ?_;simp only[jz];rw[hr,cL ae];simp
noncomputable def abv:aN:=dy 165
def w666  (t:av)   :dX Y abv (.bool (vv t)) [.str t]:=by
 show cg _ _ _ [⟨_,_⟩,_,_,_,_,_,_] _;refine ay ?_;refine aQ ?_;intro u0;refine aF ?_;refine gN ?_;refine aF ?_;refine di (fun hc0=>?_) fun hc0=>?_
 .refine aU ?_;refine cd ?_;symm;simp only[vv,ef,bC];exact Or.inl ae
 refine aU ?_;refine br hm (ι:=Nat) (fun i=>[⟨true,.str t⟩,.un,.un,⟨true,.int .i64 (i:Nat)⟩,.un,.un,.un]) (fun i=>[]) 10 (fun i=>i<=t.length/\vv t=c9 (fun i=>pS (at8 t i)) i t.length) (fun i=>t.length-i) 0 ⟨ae,by simp only[vv];rw[bY ae,bY ae];rfl⟩ (dQ []) ?_;rintro i ⟨hi,hr⟩;refine aU ?_;intro u1;refine aD ?_;refine di (fun hc1=>?_) fun hc1=>?_
 .refine acg ?_;refine iI (fun hc2=>?_) fun hc2=>?_
  .refine aQ ?_;refine cd ?_;rw[hr,bc ae];have:pS (at8 t i)=false:=(by simp only[pS,jq,bJ,dt,ef,bC];omega);rw[this];rfl
  refine bW ?_;exact⟨i+1,⟨ae,by rw[hr,bc ae];have:pS (at8 t i)=true:=(by simp only[pS,jq,bJ,dw,bM,bh];omega);rw[this];rfl⟩,ae,(dQ [])⟩
 refine aQ ?_;refine cd ?_;rw[hr,cL ae]
noncomputable def Xl:aN:=dy 115
def w456 (h470:wI Y)(h666:YF Y)(h667:N0 Y)(h668:YG Y)(s:av)(p:Bool)  (hp0:s.length<=1048576):dX Y Xl (.bool (vw s p)) [.str s,.bool p]:=by
 show cg _ _ _ [⟨_,_⟩,⟨_,_⟩,_,_,_,_,_,_,_,_,_] _;refine ay ?_;refine bw ?_;refine di (fun hc0=>?_) fun hc0=>?_
 .refine aU ?_;refine cd ?_;simp[vw,hc0]
 refine aF ?_;refine au (hc:=h470 _ _ ?_) ?_;rotate_left;first|assumption|omega;have hlen:=cJ s 46
 refine aQ ?_;intro u0;refine aD ?_;refine az (fun hc1=>?_) (fun hc1=>?_)
 .try simp only[cX]at hc1
  refine aU ?_;refine cd ?_;simp only[vw,rh];rw[cy hc0,cy ae];rfl
 simp only[bC]at hc1;refine aU ?_;refine br hm (ι:=Nat) (fun i=>[⟨true,.str s⟩,⟨true,.bool p⟩,.un,.un,⟨true,.sl 1 ((ai s 46).map D.str)⟩,.un,⟨true,.int .i64 (i:Nat)⟩,.un,.un,.un,.un]) (fun i=>[]) 10 (fun i=>i<=(ai s 46).length/\vw s p=c9 (fun i=>jC p (ai s 46)[i]!) i (ai s 46).length) (fun i=>(ai s 46).length-i) 0 ⟨ae,by simp only[vw,rh];rw[cy hc0,bY ae];rfl⟩ (dQ []) ?_;rintro i ⟨hi,hr⟩;refine aU ?_;intro u1;refine aD ?_;refine di (fun hc2=>?_) fun hc2=>?_
 .refine bW ?_;refine au (hc:=h666 _) ?_;refine aD ?_;refine az (fun hc3=>?_) (fun hc3=>?_)
  .simp only[bE]at hc3;refine bw ?_;refine cd ?_;rw[hr,bc ae];simp only[jC,hc3];rfl
  simp only[cq]at hc3;refine aQ ?_;refine au (hc:=h667 _) ?_;refine mZ ?_;refine au (hc:=h668 _) ?_;refine aQ ?_;refine wp_cond (fun hc4=>?_) (fun hc4=>?_)
  .skip
   refine aQ ?_;refine cd ?_;have h5:jC p (ai s 46)[i]! =false:=(by simp only[jC,hc3];revert hc4;generalize jz (ai s 46)[i]! =a;generalize gV (ai s 46)[i]! =b;cases p<;>cases a<;>cases b<;>simp);rw[hr,bc ae,h5];rfl
  skip
  refine bW ?_;exact⟨i+1,⟨ae,by rw[hr,bc ae];have h5:jC p (ai s 46)[i]! =true:=(by simp only[jC,hc3];revert hc4;generalize jz (ai s 46)[i]! =a;generalize gV (ai s 46)[i]! =b;cases p<;>cases a<;>cases b<;>simp);rw[h5];rfl⟩,ae,(dQ [])⟩
 refine aQ ?_;refine cd ?_;rw[hr,cL ae]
noncomputable def abu:aN:=dy 114
def w455 {Y:Ctx}(hm:(Y.at 0).cP)  (n:Int)   :dX Y abu (.bool (sZ n)) [.int .i64 n]:=by
 show cg _ _ _ [⟨_,_⟩,_] _;refine ay ?_;refine jX ?_;exact cd rfl
noncomputable def abt:aN:=dy 63
def w217 {Y:Ctx}(hm:(Y.at 0).cP)(h455:Yj Y)(h456:Yk Y)(v:dz)  (hp0:v.sm):dX Y abt (.bool (jD v)) [dz.D v]:=by
 show cg _ _ _ [⟨_,_⟩,_,_] _;refine ay ?_;refine aQ ?_;refine au (hc:=h455 _) ?_;refine aF ?_;refine au (hc:=h455 _) ?_;refine aK ?_;refine au (hc:=h455 _) ?_;refine aK ?_;refine eD (hc:=fun hf=>h456 v.pre true hp0.1) ?_;refine aK ?_;refine eD (hc:=fun hf=>h456 v.build false hp0.2) ?_;refine aK ?_;exact cd rfl
noncomputable def MN:aN:=dy 43
def w77 (h71:C71 Y)(h223:C223 Y)(h224:XX Y)(s:av)   :dX Y MN (.tup [Rec.D (cW s).1,.int .i64 (cW s).2.1,.int .i64 (cW s).2.2]) [.str s]:=by
 show cg _ _ _ [⟨_,_⟩,_,_,_,_,_,_,_,_,_,_,_,_,_] _;have hcase:=Fg s;obtain⟨⟨ls,e⟩,hlx⟩:∃q,aJ s=q:=⟨_,rfl⟩
 rw[hlx]at hcase;dsimp only at hcase;refine ay ?_;refine bW ?_;intro u0;refine aD ?_;refine az (fun hc0=>?_) (fun hc0=>?_)
 .simp only[bh]at hc0;have hrr:cW s=(lh,3,0):=by unfold cW;rw[aC ae]
  rw[hrr];refine aD ?_;refine bj dM ?_;refine aR dM (he:=aW) ?_;refine aF ?_;refine mR [(0,.buf 9 [Rec.D lh])] (.bf ah (.cons nU .nil) .nil) ?_;refine aE ?_;refine bT (dG ?_ (ak (D.int .i64) ?_) (ak (D.int .i64) ?_));all_goals rfl
 simp only[bC]at hc0;have h96:¬4096<s.length:=ae;have hsl:=cJ s 10;have hln:(qy s).length<=4097:=by rw[eF];omega
 have hll:ls.length<=(qy s).length+1:=by
  rcases hcase with⟨_,_,h⟩|⟨_,_,h⟩<;>rw[h]<;>simp
 have hlm:∀i:Nat,((qy s)[i]! :av).length<=1048576:=fun i=>GO.get (l:=qy s) (fun t ht=>by have:=cG s 10 (jN ht);omega) i
 refine aF ?_;refine au (v:=.tup [.sl 1 (ls.map D.str),.bool e]) (hc:=by have:=h223 s ae;rw[hlx]at this;exact this) ?_;refine aE ?_;refine fJ (.sl _ _) ?_;refine aU ?_;refine bj (.agg [.str [],.int .i64 0,.int .i64 0,.int .i64 0,.str [],.str [],.bg,.bg,.bg,.int .i64 0]) ?_;refine bw ?_;refine br hm (ι:=(Nat×j6)) (fun p=>[⟨true,.str s⟩,⟨true,.ptr 0 9 0 0⟩,⟨true,.int .i64 0⟩,⟨true,.int .i64 0⟩,.un,⟨true,.int .i64 (p.1:Nat)⟩,⟨true,.sl 1 (ls.map D.str)⟩,.un,⟨true,.bool e⟩,⟨true,.ptr 1 10 0 0⟩,.un,.un,.un,.un]) (fun p=>[(0,.buf 9 [dM]),(1,.buf 10 [p8 p.2.r.name p.2.r.v p.2.r.needs.length p.2.r.bars.length p.2.r.feats.length ((p.2.st:Nat):Int) 2 4 5]),(2,.buf 3 (fE 3 p.2.r.needs)),(3,.buf 4 (pd p.2.r.needs)),(4,.buf 3 (p.2.r.bars.map fZ.D)),(5,.buf 2 (p.2.r.feats.map ct.D))]) 50 (fun p=>p.1<=(qy s).length/\(p.2.ok/\p.2.sz<=p.1)/\nN zx (qy s)=nN p.2 ((qy s).drop p.1)) (fun p=>ls.length-p.1) (0,zx) ⟨Nat.zero_le _,⟨⟨fun _=>⟨rfl,rfl,rfl⟩,fun h=>by simp[zx]at h,fun h=>by simp[zx]at h⟩,aH _⟩,rfl⟩ (bm.to [(0,0),(14,1)] ah ah fC (by refine bF.iM ah ah ah ?_;refine bF.ni 14 ah ah (by exact⟨_,_,rfl,⟨_,rfl,⟨_,_,rfl,⟨rfl,rfl⟩,⟨_,_,rfl,⟨rfl,rfl⟩,⟨_,_,rfl,⟨rfl,rfl⟩,⟨_,_,rfl,⟨rfl,rfl⟩,⟨_,_,rfl,⟨rfl,rfl⟩,⟨_,_,rfl,⟨rfl,rfl⟩,⟨_,_,rfl,Or.inr ⟨_,_,_,rfl⟩,⟨_,_,rfl,Or.inr ⟨_,_,_,rfl⟩,⟨_,_,rfl,Or.inr ⟨_,_,_,rfl⟩,⟨_,_,rfl,⟨rfl,rfl⟩,rfl⟩⟩⟩⟩⟩⟩⟩⟩⟩⟩⟩,rfl⟩) ?_;refine bF.mt ah ah ah ah ?_;refine bF.mt ah ah ah ah ?_;refine bF.mt ah ah ah ah ?_;refine bF.mt ah ah ah ah ?_;exact bF.nil)) ?_;rintro⟨i,x⟩ ⟨hi,⟨hok,hsz⟩,hrun⟩;dsimp only at hi hok hsz hrun⊢;refine aU ?_;intro u1;refine aD ?_;refine az (fun hc1=>?_) (fun hc1=>?_)
 .simp only[bh]at hc1;have hil:i<ls.length:=ae;refine aF ?_;by_cases hb:(!e&&decide ((i:Nat)=((ls.length:Nat):Int) -1))=true
  .refine aU ?_;refine gN ?_;refine aD ?_;refine Ib ?_;rw[hb];refine aK ?_;refine bz i (hb:=fun _=>ae) ?_;refine bp (v:=.str ls[i]!) (hi:=fun _=>ae) ?_;refine C2 ?_;refine B5 (.bool false) ?_;refine Hc (kb:=fun _ h=>by cases h) ?_;refine aE ?_;refine wp_cond (fun hc2=>?_) (fun hc2=>?_)
   .have hbb:=hb;simp only[bM,bE,bh]at hbb;have hrr:cW s=(lh,2,(i:Int)+1):=by
     rcases hcase with⟨h1,_,_⟩|⟨_,h2,h⟩
     .rw[h1]at hbb;cases hbb.1
     .have hl':ls.length=(qy s).length+1:=by rw[h];simp
      have:i=(qy s).length:=ae;subst this;exact MA h96 hi (by rw[hrun,List.drop_length];rfl) (.inr h2)
    rw[hrr];refine aE ?_;refine bj dM ?_;refine aD ?_;refine aR dM (he:=aW) ?_;refine aF ?_;refine mR [(0,.buf 9 [Rec.D lh])] (.bf ah (.cons nU .nil) .nil) ?_;refine aF ?_;refine bT (dG ?_ (ak (D.int .i64) ?_) (ak (D.int .i64) ?_));all_goals rfl
   skip
   exact absurd hc2 aG
  .refine aU ?_;refine gN ?_;refine aD ?_;refine Ib ?_;rw[show(!e&&decide ((i:Nat)=((ls.length:Nat):Int) -1))=false by simpa using hb];refine aK ?_;refine bz i (hb:=fun _=>ae) ?_;refine bp (v:=.str ls[i]!) (hi:=fun _=>ae) ?_;have hin:i<(qy s).length/\ls[i]! =(qy s)[i]! :=by
    rcases hcase with⟨_,_,h⟩|⟨h1,_,h⟩
    .rw[h]at hil⊢;exact⟨hil,rfl⟩
    .have hb':¬((i:Nat):Int)=((ls.length:Nat):Int) -1:=by rw[h1]at hb;simpa using hb
     have hl':ls.length=(qy s).length+1:=by rw[h];simp
     have hi':i<(qy s).length:=ae;exact⟨hi',by rw[h];exact CP hi'⟩
   refine si (ι:=Unit) (am7:=[.ptr 1 10 0 0,.str ls[i]!]) (fun _=>True) (fun _=>.bool (fm x ls[i]!).isSome) 58 (fun _=>AE (fm x ls[i]!) 1 69++[(0,.buf 9 [dM])]) (fun _ _=>?_) (hc:=fun K' hK=>h224 x ls[i]! hok ae (by rw[hin.2];exact hlm i) _ 1 2 3 4 5 _ K' ⟨aW,aW,aW,aW,aW⟩ aG ⟨cD,cD,cD,cD,cD⟩ (by exact hK () trivial)) (hn:=aG);refine aF ?_;refine wp_cond (fun hc2=>?_) (fun hc2=>?_)
   .simp only[Bool.false_or,bE]at hc2;have hso:=kX hc2;have hrr:cW s=(lh,2,(i:Int)+1):=by
     refine MA (x:=x) h96 hi ?_ (.inl hin.1);rw[hrun,Ij (x:=x) hin.1,wA (by rw[<-hin.2];exact hso)]
    rw[hrr,hso];simp only[AE,fS];refine aE ?_;refine bj dM ?_;refine aD ?_;refine aR dM (he:=aW) ?_;refine aF ?_;refine mR [(0,.buf 9 [Rec.D lh])] (.bf ah (.cons nU .nil) .nil) ?_;refine aF ?_;refine bT (dG ?_ (ak (D.int .i64) ?_) (ak (D.int .i64) ?_));all_goals rfl
   simp only[Bool.false_or,cq]at hc2;obtain⟨y,hso⟩:=kY hc2;obtain⟨hyo,hys⟩:=ad1 hso hok;have hrn:nN zx (qy s)=nN y ((qy s).drop (i+1)):=by rw[hrun,Ij (x:=x) hin.1,jH (by rw[<-hin.2];exact hso)]
   rw[hso];simp only[AE,RdM,fY,fS];refine bW ?_;exact⟨(i+1,y),⟨ae,⟨hyo,dE⟩,hrn⟩,dE,(bm.to [(0,0),(1,1),(69,2),(70,3),(71,4),(72,5)] ah ah fC (by refine bF.iM ah ah ah ?_;refine bF.eq 1 ah ah ah ?_;refine bF.eq 69 ah ah (Be _ _ _ _ ah _) ?_;refine bF.nl 70 ah ah rfl (ng _) ?_;refine bF.nl 71 ah ah rfl (bA (fun _=>rfl) _) ?_;refine bF.nl 72 ah ah rfl (bA (fun _=>rfl) _) ?_;exact bF.nil))⟩
 simp only[bC]at hc1;have hlast:xX s=[]/\nN zx (qy s)=(x,[]):=by
  rcases hcase with⟨_,h2,h⟩|⟨_,_,h⟩
  .refine⟨h2, ?_⟩;have hl':ls.length=(qy s).length:=by rw[h]
   have:i=(qy s).length:=ae;subst this;rw[hrun,List.drop_length];rfl
  .have hl':ls.length=(qy s).length+1:=by rw[h];simp
   omega
 obtain⟨hl0,hrx⟩:=hlast;refine bw ?_;refine aV (v:=.int .i64 ((x.st:Nat):Int)) ?_;refine aD ?_;refine az (fun hc3=>?_) (fun hc3=>?_)
 .simp only[bh]at hc3;have hrr:=abo h96 hrx ae;rw[hrr];refine aD ?_;refine bj dM ?_;refine aR dM (he:=aW) ?_;refine aF ?_;refine mR ((0,.buf 9 [Rec.D lh])::[]) (.bf ah (.cons nU .nil) .nil) ?_;refine aE ?_;refine bT (dG ?_ (ak (D.int .i64) ?_) (ak (D.int .i64) ?_));all_goals rfl
 simp only[bC]at hc3;obtain⟨hrs,hrr⟩:=adP h96 hrx ae hl0;rw[hrr];refine aD ?_;refine e7 3 (hn:=ng _) (he:=by simp only[j8,ig,ij,ku,kW,cM,Nat.reduceEqDiff,ba,aZ,cC,cj,cb,cH,cK,bI,bB,aH,bR,aL,reduceCtorEq,aM,aX,Nat.reduceAdd,Nat.reduceLeDiff,p8,dM];exact rfl) (hm:=by simp only[j8,ig,ij,ku,kW,cM,Nat.reduceEqDiff,ba,aZ,cC,cj,cb,cH,cK,bI,bB,aH,bR,aL,reduceCtorEq,aM,aX,Nat.reduceAdd,Nat.reduceLeDiff,p8,dM,Js,xN,xO,AS];exact rfl) ?_;refine mR [(0,.buf 9 [dM]),(1,.buf 10 [p8 x.r.name x.r.v x.r.needs.length x.r.bars.length x.r.feats.length ((x.st:Nat):Int) 2 4 5]),(2,.buf 3 (x.r.needs.map bo.D)),(4,.buf 3 (x.r.bars.map fZ.D)),(5,.buf 2 (x.r.feats.map ct.D))] (.id ah (.id ah (.bf ah (Fu 3 _) (.id ah (.id ah .nil))))) ?_;refine e7 2 (hn:=bA (fun _=>rfl) _) (he:=by simp only[j8,ig,ij,ku,kW,cM,Nat.reduceEqDiff,ba,aZ,cC,cj,cb,cH,cK,bI,bB,aH,bR,aL,reduceCtorEq,aM,aX,Nat.reduceAdd,Nat.reduceLeDiff,p8,dM];exact rfl) (hm:=by simp only[j8,ig,ij,ku,kW,cM,Nat.reduceEqDiff,ba,aZ,cC,cj,cb,cH,cK,bI,bB,aH,bR,aL,reduceCtorEq,aM,aX,Nat.reduceAdd,Nat.reduceLeDiff,p8,dM,Js,xN,xO,AS];exact rfl) ?_;refine e7 4 (hn:=bA (fun _=>rfl) _) (he:=by simp only[j8,ig,ij,ku,kW,cM,Nat.reduceEqDiff,ba,aZ,cC,cj,cb,cH,cK,bI,bB,aH,bR,aL,reduceCtorEq,aM,aX,Nat.reduceAdd,Nat.reduceLeDiff,p8,dM];exact rfl) (hm:=by simp only[j8,ig,ij,ku,kW,cM,Nat.reduceEqDiff,ba,aZ,cC,cj,cb,cH,cK,bI,bB,aH,bR,aL,reduceCtorEq,aM,aX,Nat.reduceAdd,Nat.reduceLeDiff,p8,dM,Js,xN,xO,AS];exact rfl) ?_;refine e7 5 (hn:=bA (fun _=>rfl) _) (he:=by simp only[j8,ig,ij,ku,kW,cM,Nat.reduceEqDiff,ba,aZ,cC,cj,cb,cH,cK,bI,bB,aH,bR,aL,reduceCtorEq,aM,aX,Nat.reduceAdd,Nat.reduceLeDiff,p8,dM];exact rfl) (hm:=by simp only[j8,ig,ij,ku,kW,cM,Nat.reduceEqDiff,ba,aZ,cC,cj,cb,cH,cK,bI,bB,aH,bR,aL,reduceCtorEq,aM,aX,Nat.reduceAdd,Nat.reduceLeDiff,p8,dM,Js,xN,xO,AS];exact rfl) ?_;refine aK ?_;refine aV (v:=Rec.D x.r) ?_;refine au (hc:=h71 x.r hrs) ?_;refine gE ?_;refine az (fun hc4=>?_) (fun hc4=>?_)
 .simp only[bE,bC]at hc4;rw[aC hc4];refine aD ?_;refine bj dM ?_;refine aE ?_;refine aR dM (he:=aW) ?_;refine aF ?_;refine mR ((0,.buf 9 [Rec.D lh])::[]) (.bf ah (.cons nU .nil) .nil) ?_;refine aE ?_;refine bT (dG ?_ (ak (D.int .i64) ?_) (ak (D.int .i64) ?_));all_goals rfl
 simp only[cq,bh]at hc4;rw[ar (by rw[hc4];simp)];refine aU ?_;refine aV (v:=Rec.D x.r) ?_;refine aR (Rec.D x.r) (he:=aW) ?_;refine aK ?_;refine bT (dG ?_ (ak (D.int .i64) ?_) (ak (D.int .i64) ?_));all_goals rfl
noncomputable def mE:aN:=dy 250
def Vg {Y:Ctx}(hm:(Y.at 2).cP)(W:List av)(w:List av)(nd:List Nd)(h357:GV (Y.at 2))(h1034:tx (Y.at 2))(h1099:Hi (Y.at 2))(h1141:yE (Y.at 2))(hp0:w<:+W/\W.length<=1000)(hp1:nd.length+2*w.length<=1000):cg (Y.at 2) mE.body (kJ mE (Ch 4 (j5 W) (fh (ER w nd) w nd) Va):Ex->List cA->St->Prop) (gz mE [.ptr 0 4 0 0]) ⟨2,[(0,.buf 4 [j5 W w (.own 1 5 0 nd.length) false]),(1,.buf 5 (nd.map Nd.D))]⟩:=by
 show cg _ _ _ [⟨true,.ptr 0 4 0 0⟩,.un,.un,.un,.un,.un,.un,.un,.un,.un,.un,.un] ⟨2,[(0,.buf 4 [j5 W w (.own 1 5 0 nd.length) false]),(1,.buf 5 (nd.map Nd.D))]⟩;have hs1:(w.drop 1)<:+W/\W.length<=1000:=⟨(List.drop_suffix 1 w).trans hp0.1,hp0.2⟩;have hs2:((w.drop 1).drop 1)<:+W/\W.length<=1000:=⟨(List.drop_suffix 1 _).trans hs1.1,hp0.2⟩;have hpb:PB w nd (((w.drop 1).drop 1).drop 1) nd:=((Jn w nd).trans (Jn _ nd)).trans (Jn _ nd);refine ay ?_;refine aK ?_;refine dd (nx':=3) (v:=.str (bD w)) (m':=[(0,.buf 4 [j5 W (w.drop 1) (.own 1 5 0 nd.length) (rB w false)]),(1,.buf 5 (nd.map Nd.D))]) (hc:=fun K' hK=>h1141 W w nd false hp0 _ 0 1 _ K' ah ah cD cD (fun o ho=>by subst ho;exact hK)) (hn:=aG) ?_;refine aE ?_;refine dd (nx':=3) (v:=.str (bD (w.drop 1))) (m':=[(0,.buf 4 [j5 W ((w.drop 1).drop 1) (.own 1 5 0 nd.length) (rB (w.drop 1) (rB w false))]),(1,.buf 5 (nd.map Nd.D))]) (hc:=fun K' hK=>h1141 W (w.drop 1) nd (rB w false) hs1 _ 0 1 _ K' ah ah cD cD (fun o ho=>by subst ho;exact hK)) (hn:=aG) ?_;refine aE ?_;refine dd (nx':=3) (v:=.str (bD ((w.drop 1).drop 1))) (m':=[(0,.buf 4 [j5 W (((w.drop 1).drop 1).drop 1) (.own 1 5 0 nd.length) (rB ((w.drop 1).drop 1) (rB (w.drop 1) (rB w false)))]),(1,.buf 5 (nd.map Nd.D))]) (hc:=fun K' hK=>h1141 W ((w.drop 1).drop 1) nd (rB (w.drop 1) (rB w false)) hs2 _ 0 1 _ K' ah ah cD cD (fun o ho=>by subst ho;exact hK)) (hn:=aG) ?_;refine aQ ?_;refine bj (Nd.D ⟨1,0,0,-1,(bD ((w.drop 1).drop 1))⟩) ?_;refine aE ?_;refine aR (Nd.D ⟨1,0,0,-1,(bD ((w.drop 1).drop 1))⟩) (he:=aW) ?_;refine aU ?_;rw[show(⟨1,0,0,-1,(bD ((w.drop 1).drop 1))⟩:Nd)=⟨1,0,0,Ud (bD w) 0,(bD ((w.drop 1).drop 1))⟩by rw[kAt_0]];refine br hm (ι:=Nat) (fun i=>[⟨true,.ptr 0 4 0 0⟩,.un,⟨true,.str (bD ((w.drop 1).drop 1))⟩,⟨true,.int .i64 (i:Nat)⟩,.un,⟨true,.str (bD w)⟩,.un,⟨true,.ptr 14 5 0 0⟩,⟨true,.str (bD (w.drop 1))⟩,.un,.un,.un]) (fun i=>[(0,.buf 4 [j5 W (((w.drop 1).drop 1).drop 1) (.own 1 5 0 nd.length) (rB ((w.drop 1).drop 1) (rB (w.drop 1) (rB w false)))]),(1,.buf 5 (nd.map Nd.D)),(14,.buf 5 [Nd.D ⟨1,0,0,Ud (bD w) i,(bD ((w.drop 1).drop 1))⟩])]) 17 (fun i=>i<=3) (fun i=>3-i) 0 ae (bm.to [(14,14)] ah ah fC (by refine hY ?_;refine hY ?_;refine bF.nl 14 ah ah ah fM ?_;exact bF.nil)) ?_;intro i hi;refine aU ?_;refine di (fun hc0=>?_) fun hc0=>?_
 .refine aK ?_;refine au (hc:=h1099 (i:Int) ⟨ae,ae⟩) ?_;refine aF ?_;refine iI (fun hc1=>?_) fun hc1=>?_
  .refine aF ?_;refine aR (Nd.D ⟨1,0,0,((i:Nat):Int),(bD ((w.drop 1).drop 1))⟩) (he:=aW) ?_;refine bW ?_;rw[show(⟨1,0,0,((i:Nat):Int),(bD ((w.drop 1).drop 1))⟩:Nd)=⟨1,0,0,Ud (bD w) (i+1),(bD ((w.drop 1).drop 1))⟩by rw[adg ae hc1]];exact⟨i+1,ae,ae,(bm.to [(14,14)] ah ah fC (by refine hY ?_;refine hY ?_;refine bF.nl 14 ah ah ah fM ?_;exact bF.nil))⟩
  refine bW ?_;rw[show(⟨1,0,0,Ud (bD w) i,(bD ((w.drop 1).drop 1))⟩:Nd)=⟨1,0,0,Ud (bD w) (i+1),(bD ((w.drop 1).drop 1))⟩by rw[aii ae hc1]];exact⟨i+1,ae,ae,(bm.to [(14,14)] ah ah fC (by refine hY ?_;refine hY ?_;refine bF.nl 14 ah ah ah fM ?_;exact bF.nil))⟩
 refine aK ?_;obtain rfl:i=3:=ae;rw[kAt_3];refine aU ?_;refine au (hc:=h357 _) ?_;refine gE ?_;refine az (fun hc2=>?_) (fun hc2=>?_)
 .have hno:pe (bD w) (bD (w.drop 1)) (bD ((w.drop 1).drop 1))=false:=by rw[<-bE,<-Hp];exact hc2
  have hn:=Zx (nd:=nd) hno;refine aE ?_;refine iW (bm.to (env':=[⟨true,.ptr 0 4 0 0⟩,.un,.un,.un,.un,.un,.un,.un,.un,.un,.un,.un]) (c:=90) (nx':=90) (m':=[(0,.buf 4 [j5 W (((w.drop 1).drop 1).drop 1) (.own 2 5 0 nd.length) (rB ((w.drop 1).drop 1) (rB (w.drop 1) (rB w false)))]),(2,.buf 5 (nd.map Nd.D))]) [(1,2)] rfl ah fC (by refine bF.Sc ah ah ah ?_;refine bF.nl 1 ah ah rfl (by exact bA (fun _=>rfl) _) ?_;exact bF.nil)) ?_;refine aK ?_;refine aR (j5 W (((w.drop 1).drop 1).drop 1) (.own 2 5 0 nd.length) true) (he:=aW) ?_;refine aQ ?_;refine ch trivial eP (cn ah (ak (D.int .i64) ?_)) ah ⟨⟨0,(((w.drop 1).drop 1).drop 1),nd,true⟩,2,aG,⟨.inr ⟨hn,rfl⟩,hpb⟩,rfl,rfl,rfl⟩;rfl
 have hyes:pe (bD w) (bD (w.drop 1)) (bD ((w.drop 1).drop 1))=true:=by rw[<-cq,<-Hp];exact hc2
 obtain⟨r,hw,ha⟩:=V1 (nd:=nd) hyes;obtain⟨hb3,hr3⟩:=rB3 hw;rw[<-hr3]at ha;refine aF ?_;refine cO (d:=Nd.D (⟨1,0,0,jY (bD w),(bD ((w.drop 1).drop 1))⟩:Nd)) ?_;refine dd (nx':=36) (v:=.int .i64 (nd.length:Nat)) (m':=[(37,.buf 5 ((nd++[(⟨1,0,0,jY (bD w),(bD ((w.drop 1).drop 1))⟩:Nd)]).map Nd.D)),(0,.buf 4 [j5 W (((w.drop 1).drop 1).drop 1) (.own 37 5 0 (nd++[(⟨1,0,0,jY (bD w),(bD ((w.drop 1).drop 1))⟩:Nd)]).length) (rB ((w.drop 1).drop 1) (rB (w.drop 1) (rB w false)))]),(14,.buf 5 [Nd.D (⟨1,0,0,jY (bD w),(bD ((w.drop 1).drop 1))⟩:Nd)])]) (hc:=fun K' hK=>h1034 (⟨1,0,0,jY (bD w),(bD ((w.drop 1).drop 1))⟩:Nd) W (((w.drop 1).drop 1).drop 1) nd (rB ((w.drop 1).drop 1) (rB (w.drop 1) (rB w false))) ae _ 0 1 _ K' ah ah cD cD (fun o ho=>by subst ho;exact hK)) (hn:=aG) ?_;refine bw ?_;refine az (fun hc3=>?_) (fun hc3=>?_)
 .simp only[bh]at hc3;have hat:ER w nd=some ((((nd++[(⟨1,0,0,jY (bD w),(bD ((w.drop 1).drop 1))⟩:Nd)]).length:Nat):Int),(((w.drop 1).drop 1).drop 1),((nd++[(⟨1,0,0,jY (bD w),(bD ((w.drop 1).drop 1))⟩:Nd)])++[(⟨2,(nd.length:Nat),0,0,[]⟩:Nd)])):=by rw[ha];simp only[BK,aC hc3]
  refine aF ?_;refine bj (Nd.D (⟨2,(nd.length:Nat),0,0,[]⟩:Nd)) ?_;refine dd (nx':=43) (v:=.int .i64 ((nd++[(⟨1,0,0,jY (bD w),(bD ((w.drop 1).drop 1))⟩:Nd)]).length:Nat)) (m':=[(45,.buf 5 (((nd++[(⟨1,0,0,jY (bD w),(bD ((w.drop 1).drop 1))⟩:Nd)])++[(⟨2,(nd.length:Nat),0,0,[]⟩:Nd)]).map Nd.D)),(0,.buf 4 [j5 W (((w.drop 1).drop 1).drop 1) (.own 45 5 0 ((nd++[(⟨1,0,0,jY (bD w),(bD ((w.drop 1).drop 1))⟩:Nd)])++[(⟨2,(nd.length:Nat),0,0,[]⟩:Nd)]).length) (rB ((w.drop 1).drop 1) (rB (w.drop 1) (rB w false)))]),(14,.buf 5 [Nd.D (⟨1,0,0,jY (bD w),(bD ((w.drop 1).drop 1))⟩:Nd)])]) (hc:=fun K' hK=>h1034 (⟨2,(nd.length:Nat),0,0,[]⟩:Nd) W (((w.drop 1).drop 1).drop 1) (nd++[(⟨1,0,0,jY (bD w),(bD ((w.drop 1).drop 1))⟩:Nd)]) (rB ((w.drop 1).drop 1) (rB (w.drop 1) (rB w false))) dk _ 0 37 _ K' ah ah cD cD (fun o ho=>by subst ho;exact hK)) (hn:=aG) ?_;refine bw ?_;refine ch trivial eP (cn ah (ak (D.int .i64) ?_)) ah ⟨⟨((nd++[(⟨1,0,0,jY (bD w),(bD ((w.drop 1).drop 1))⟩:Nd)]).length:Nat),(((w.drop 1).drop 1).drop 1),((nd++[(⟨1,0,0,jY (bD w),(bD ((w.drop 1).drop 1))⟩:Nd)])++[(⟨2,(nd.length:Nat),0,0,[]⟩:Nd)]),(rB ((w.drop 1).drop 1) (rB (w.drop 1) (rB w false)))⟩,45,aG,⟨.inl ⟨hat,hb3⟩,HB hat⟩,rfl,rfl,rfl⟩;rfl
 simp only[bC]at hc3;have hat:ER w nd=some (((nd.length:Nat):Int),(((w.drop 1).drop 1).drop 1),(nd++[(⟨1,0,0,jY (bD w),(bD ((w.drop 1).drop 1))⟩:Nd)])):=by rw[ha];simp only[BK,ar hc3]
 refine aQ ?_;refine ch trivial eP (cn ah (ak (D.int .i64) ?_)) ah ⟨⟨(nd.length:Nat),(((w.drop 1).drop 1).drop 1),(nd++[(⟨1,0,0,jY (bD w),(bD ((w.drop 1).drop 1))⟩:Nd)]),(rB ((w.drop 1).drop 1) (rB (w.drop 1) (rB w false)))⟩,37,aG,⟨.inl ⟨hat,hb3⟩,HB hat⟩,rfl,rfl,rfl⟩;rfl
noncomputable def Nu:aN:=dy 90
def w441 (h442:Vw Y)(h533:K5 Y)(h658:NZ Y)(h659:YD Y)(s:av)  (hp0:s.length<=1048576):dX Y Nu (.bool (rh s true)) [.str s]:=by
 show cg _ _ _ [⟨_,_⟩,_,_,_,_,_,_,_,_,_] _;refine ay ?_;refine aU ?_;refine au (hc:=h442 _ ?_) ?_;rotate_left;first|assumption|omega
 refine aD ?_;refine az (fun hc0=>?_) (fun hc0=>?_)
 .simp only[bE]at hc0;refine aU ?_;refine cd ?_;symm;simp only[rh]at hc0⊢;rw[ef]at hc0⊢;rcases hc0 with h|h
  .exact Or.inl h
  .right;rw[Bool.eq_false_iff]at h⊢;intro h2;apply h;rw[fN]at h2⊢;intro j a b;have:=h2 j a b;simp only[jC,bM]at this⊢;exact⟨this.1,rfl⟩
 simp only[cq]at hc0;refine aK ?_;refine au (hc:=h533 _ _ ?_) ?_;rotate_left;first|assumption|omega;have hlen:=cJ s 46
 refine aE ?_;intro u0;refine aD ?_;have hT:=hc0;simp only[rh,bM,bh]at hT;obtain⟨hT4,hTa⟩:=hT;rw[fN]at hTa;have hP:rh s true=c9 (fun i=>jC true (ai s 46)[i]!) 0 (ai s 46).length:=by
  simp only[rh];rw[bY hT4];rfl
 refine br hm (ι:=Nat) (fun i=>[.un,.un,.un,⟨true,.int .i64 (i:Nat)⟩,⟨true,.int .i64 ((ai s 46).length:Nat)⟩,.un,⟨true,.sl 1 ((ai s 46).map D.str)⟩,.un,.un,.un]) (fun i=>[]) 8 (fun i=>i<=(ai s 46).length/\rh s true=c9 (fun i=>jC true (ai s 46)[i]!) i (ai s 46).length) (fun i=>(ai s 46).length-i) 0 ⟨ae,hP⟩ (dQ []) ?_;rintro i ⟨hi,hr⟩;refine aF ?_;refine di (fun hc1=>?_) fun hc1=>?_
 .refine dJ ?_;refine au (hc:=h658 _) ?_;refine bW ?_;refine au (hc:=h659 _) ?_;refine aU ?_;refine wp_cond (fun hc2=>?_) (fun hc2=>?_)
  .skip
   refine aQ ?_;refine cd ?_;have hz:jC true (ai s 46)[i]! =false:=by
    simp only[jC];revert hc2;generalize vv (ai s 46)[i]! =c;generalize jz (ai s 46)[i]! =a;generalize gV (ai s 46)[i]! =b;cases a<;>cases b<;>cases c<;>simp
   rw[hr,bc ae,hz];rfl
  skip
  refine bw ?_;have hz:jC true (ai s 46)[i]! =true:=by
   have:=hTa i ae ae;simp only[jC,Bool.false_and,Bool.not_false,kn]at this;simp only[jC,this];revert hc2;generalize jz (ai s 46)[i]! =a;generalize gV (ai s 46)[i]! =b;cases a<;>cases b<;>simp
  exact⟨i+1,⟨ae,by rw[hr,bc ae,hz];rfl⟩,ae,(dQ [])⟩
 refine aQ ?_;refine cd ?_;rw[hr,cL ae]
noncomputable def Nt:aN:=dy 50
def w209 {Y:Ctx}(hm:(Y.at 0).cP)(h440:Yb Y)(h441:Yc Y)(h442:Vw Y)(v:dz)  (hp0:v.sm):dX Y Nt (.bool (jD v)) [dz.D v]:=by
 show cg _ _ _ [⟨_,_⟩,_,_] _;refine ay ?_;refine aQ ?_;refine au (hc:=h440 _) ?_;refine aF ?_;refine au (hc:=h440 _) ?_;refine aK ?_;refine au (hc:=h440 _) ?_;refine bW ?_;refine eD (hc:=fun hf=>h441 v.pre hp0.1) ?_;refine dJ ?_;refine eD (hc:=fun hf=>h442 v.build hp0.2) ?_;refine aU ?_;exact cd rfl
noncomputable def Jx:aN:=dy 158
def w665 {Y:Ctx}(hm:(Y.at 0).cP)(h336:Ya Y)(n:Int)  (hp0:0<=n/\n<=9999):dX Y Jx (.str (ea n.toNat)) [.int .i64 n]:=by
 show cg _ _ _ [⟨_,_⟩,_] _;refine ay ?_;refine aK ?_;refine au (hc:=h336 _ ?_) ?_;rotate_left;first|assumption|omega
 refine aF ?_;exact du rfl
noncomputable def Hh:aN:=dy 101
def w451 {Y:Ctx}(hm:(Y.at 0).cP)(h209:K1 Y)(h665:VG Y)(v:dz)  (hp0:v.sm):dX Y Hh (.str (ll v)) [dz.D v]:=by
 show cg _ _ _ [⟨_,_⟩,_,_,_,_,_,_] _;obtain⟨hs1,hs2⟩:=hp0;have hp0:v.sm:=⟨hs1,hs2⟩;refine ay ?_;refine aQ ?_;refine au (hc:=h209 _ ?_) ?_;rotate_left;first|assumption|omega
 refine aD ?_;refine az (fun hc0=>?_) (fun hc0=>?_)
 .simp only[bE]at hc0;refine aU ?_;refine du ?_;simp[ll,hc0]
 simp only[cq]at hc0;refine aD ?_;have hv:=hc0;simp only[jD,bM]at hv;obtain⟨⟨⟨⟨hv1,hv2⟩,hv3⟩,_⟩,_⟩:=hv;have hq1:=hv1;have hq2:=hv2;have hq3:=hv3;simp only[sZ,bM,bh]at hq1 hq2 hq3;have hl1:=eJ 4 v.major.toNat ae ae;have hl2:=eJ 4 v.minor.toNat ae ae;have hl3:=eJ 4 v.patch.toNat ae ae;refine aD ?_;refine au (hc:=h665 _ ?_) ?_;rotate_left;first|assumption|omega
 refine dD (hb:=fun _=>dk) ?_;refine aD ?_;refine au (hc:=h665 _ ?_) ?_;rotate_left;first|assumption|omega
 refine dD (hb:=fun _=>dk) ?_;refine dD (hb:=fun _=>dk) ?_;refine aD ?_;refine au (hc:=h665 _ ?_) ?_;rotate_left;first|assumption|omega
 refine dD (hb:=fun _=>dk) ?_;refine bW ?_;refine di (fun hc1=>?_) fun hc1=>?_
 .refine aK ?_;refine dD (hb:=fun _=>dk) ?_;refine dD (hb:=fun _=>dk) ?_;refine bW ?_;refine di (fun hc2=>?_) fun hc2=>?_
  .refine aK ?_;refine dD (hb:=fun _=>dk) ?_;refine dD (hb:=fun _=>dk) ?_;refine bw ?_;refine du ?_;simp[ll,vz,hc0,hc1,hc2]
  refine aQ ?_;refine du ?_;simp[ll,vz,hc0,hc1,hc2]
 refine bw ?_;refine di (fun hc2=>?_) fun hc2=>?_
 .refine aK ?_;refine dD (hb:=fun _=>dk) ?_;refine dD (hb:=fun _=>dk) ?_;refine bw ?_;refine du ?_;simp[ll,vz,hc0,hc1,hc2]
 refine aQ ?_;refine du ?_;simp[ll,vz,hc0,hc1,hc2]
noncomputable def MK:aN:=dy 171
def w671 (h672:VI Y)(h815:VM Y)(h816:YW Y)(l:List ct)(of:List av)  (hp0:∀t∈of,t.length<=1048576):dX Y MK (.bool (nv l of)) [.sl 2 (l.map ct.D),.sl 1 (of.map D.str)]:=by
 show cg _ _ _ [⟨_,_⟩,⟨_,_⟩,_,_,_,_,_,_,_] _;refine ay ?_;refine aQ ?_;intro u0;refine aF ?_;refine au (hc:=h815 _) ?_;refine aF ?_;refine az (fun hc0=>?_) (fun hc0=>?_)
 .simp only[dw,bh,bE]at hc0;refine aU ?_;refine cd ?_;symm;simp only[nv];rcases hc0 with h|h
  .rw[cy ae];rfl
  .rw[h,Bool.and_false];rfl
 simp only[dt,bC,cq]at hc0;refine aU ?_;have hb:nv l of=c9 (fun i=>jM l of[i]!) 0 of.length:=by simp only[nv,hc0.2];rw[bY ae];rfl
 refine br hm (ι:=Nat) (fun i=>[⟨true,.sl 2 (l.map ct.D)⟩,⟨true,.sl 1 (of.map D.str)⟩,.un,.un,⟨true,.int .i64 (i:Nat)⟩,.un,.un,.un,.un]) (fun i=>[]) 10 (fun i=>i<=of.length/\nv l of=c9 (fun i=>jM l of[i]!) i of.length) (fun i=>of.length-i) 0 ⟨ae,hb⟩ (dQ []) ?_;rintro i ⟨hi,hr⟩;refine aU ?_;intro u1;refine aD ?_;refine di (fun hc1=>?_) fun hc1=>?_
 .refine bw ?_;refine au (hc:=h672 of[i]! (hp0 _ (bL ae))) ?_;refine GM ?_;refine au (hc:=h816 _ _) ?_;refine aK ?_;refine wp_cond (fun hc2=>?_) (fun hc2=>?_)
  .have hz:jM l of[i]! =false:=by simp only[jM,hc2];rfl
   refine aQ ?_;refine cd ?_;rw[hr,bc ae,hz];rfl
  have hz:jM l of[i]! =true:=by simp only[jM,hc2];rfl
  refine bW ?_;exact⟨i+1,⟨ae,by rw[hr,bc ae,hz];rfl⟩,ae,(dQ [])⟩
 refine aQ ?_;refine cd ?_;rw[hr,cL ae]
noncomputable def Xf:aN:=dy 118
def w459 (h357:GV Y)(h671:YI Y)(l:List ct)  (hp0:y0 l):dX Y Xf (.bool (jn l)) [.sl 2 (l.map ct.D)]:=by
 show cg _ _ _ [⟨_,_⟩,_,_,_,_,_] _;refine ay ?_;refine aQ ?_;intro u0;refine aD ?_;refine di (fun hc0=>?_) fun hc0=>?_
 .refine aU ?_;refine cd ?_;symm;simp only[jn];rw[cy ae];rfl
 refine aU ?_;have hb:jn l=c9 (kN l) 0 l.length:=by simp only[jn];rw[bY ae];rfl
 refine br hm (ι:=Nat) (fun i=>[⟨true,.sl 2 (l.map ct.D)⟩,.un,.un,⟨true,.int .i64 (i:Nat)⟩,.un,.un]) (fun i=>[]) 5 (fun i=>i<=l.length/\jn l=c9 (kN l) i l.length) (fun i=>l.length-i) 0 ⟨ae,hb⟩ (dQ []) ?_;rintro i ⟨hi,hr⟩;refine aU ?_;intro u1;refine aD ?_;refine di (fun hc1=>?_) fun hc1=>?_
 .refine bW ?_;refine au (hc:=h357 _) ?_;refine bW ?_;refine bz (i-1) ?_;refine GM ?_;refine au (hc:=h671 l l[i]!.of (hp0 _ (bL ae)).2.2) ?_;refine aF ?_;refine iI (fun hc2=>?_) fun hc2=>?_
  .refine aQ ?_;refine cd ?_;have hz:kN l i=false:=by
    simp only[kN];revert hc2;generalize dj l[i]!.name=z0;generalize Op.bytesLess l[i-1]!.name l[i]!.name=z1;generalize nv l l[i]!.of=z2;by_cases e0:0<i<;>cases z0<;>cases z1<;>cases z2<;>simp_all
   rw[hr,bc ae,hz];rfl
  refine bW ?_;have hz:kN l i=true:=by
   simp only[kN];revert hc2;generalize dj l[i]!.name=z0;generalize Op.bytesLess l[i-1]!.name l[i]!.name=z1;generalize nv l l[i]!.of=z2;by_cases e0:0<i<;>cases z0<;>cases z1<;>cases z2<;>simp_all
  exact⟨i+1,⟨ae,by rw[hr,bc ae,hz];rfl⟩,ae,(dQ [])⟩
 refine aQ ?_;refine cd ?_;rw[hr,cL ae]
noncomputable def Jq:aN:=dy 98
def w448 {Y:Ctx}(hm:(Y.at 0).cP)(h208:K0 Y)(h254:X6 Y)(h349:GU Y)(h487:VB Y)(s:av)  (hp0:s.length<=1048576):dX Y Jq (.tup [.int .i64 (ec s).1,.str (ec s).2.1,.str (ec s).2.2]) [.str s]:=by
 show cg _ _ _ [⟨_,_⟩,_,_,_,_,_,_,_,_,_,_,_] _;refine ay ?_;refine bw ?_;refine au (hc:=h349 _) ?_;refine aE ?_;refine di (fun hc0=>?_) fun hc0=>?_
 .refine bW ?_;refine bT (dG (ak (D.int .i64) ?_) (ak D.str ?_) (ak D.str ?_));all_goals rw[T9 hc0]
 refine aK ?_;refine au (hc:=h254 s [63] hp0 aG) ?_;refine gE ?_;refine au (hc:=h349 _) ?_;refine aD ?_;refine di (fun hc1=>?_) fun hc1=>?_
 .refine bW ?_;refine bT (dG (ak (D.int .i64) ?_) (ak D.str ?_) (ak D.str ?_));all_goals rw[ada hc0 hc1]
 refine aK ?_;refine au (hc:=h487 s 47 hp0) ?_;refine mZ ?_;refine au (hc:=h208 _) ?_;refine aF ?_;refine au (hc:=h349 _) ?_;refine aD ?_;refine di (fun hc2=>?_) fun hc2=>?_
 .refine dJ ?_;refine bT (dG (ak (D.int .i64) ?_) (ak D.str ?_) (ak D.str ?_));all_goals rw[adb hc0 hc1 hc2]
 refine bw ?_;refine bT (dG (ak (D.int .i64) ?_) (ak D.str ?_) (ak D.str ?_));all_goals rw[ac9 hc0 hc1 hc2]
noncomputable def R2:aN:=dy 111
def w828 (h665:VG Y)(h827:N2 Y)(h957:VU Y)(c:dZ)  (hp0:c.v.sm):dX Y R2 (.str (eY c)) [dZ.D c]:=by
 show cg _ _ _ [⟨_,_⟩,_,_,_,_,_,_,_,_,_,_,_,_,_,_,_] _;refine ay ?_;refine aQ ?_;refine au (hc:=h827 _ ?_) ?_;rotate_left;first|assumption|omega
 refine aD ?_;refine az (fun hc0=>?_) (fun hc0=>?_)
 .simp only[bE]at hc0;refine aU ?_;refine du ?_;simp[eY,hc0]
 simp only[cq]at hc0;obtain⟨hv,hp1,hp2,hp3,hp4⟩:=rL hc0;have hsl:=Bx c.op;have hnl:=wu hv;refine aK ?_;refine au (hc:=h957 _) ?_;refine mZ ?_;refine dq [(.int _ _),(.int _ _),(.int _ _)] ?_;refine aE ?_;intro u0;refine aD ?_;refine e7 18 ?_;refine br hm (ι:=Nat) (fun i=>[.un,.un,⟨true,.ptr 0 7 0 0⟩,.un,⟨true,.int .i64 (i:Nat)⟩,⟨true,.int .i64 3⟩,.un,⟨true,.sl 1 (c.py.map (D.int .i64))⟩,.un,.un,.un,⟨true,.str (er c.op++iB c i)⟩,.un,.un,.un,.un]) (fun i=>[(0,.buf 7 [dZ.D c])]) 21 (fun i=>i<=3/\i<=c.parts.toNat) (fun i=>3-i) 0 ⟨ae,ae⟩ (bm.to [(0,0)] ah ah (by repeat(first|exact de.nil|refine de.un ?_|refine de.eq ah ?_|refine de.nl (ak D.str (by first|(simp only[iB,aC hpos,eh];done)|(simp only[iB,ar hpos,eh,fS];done)|simp[iB])) ah ?_|refine de.nl ah ah ?_)) lE) ?_;rintro i ⟨hi,hip⟩;have hni:=hnl i;have hfit:=uO hv i;have hn3:c.py.length=3:=rfl;refine aF ?_;refine di (fun hc1=>?_) fun hc1=>?_
 .refine GL ?_;refine di (fun hc2=>?_) fun hc2=>?_
  .refine aU ?_;obtain rfl:i=c.parts.toNat:=ae;refine aK ?_;refine di (fun hc4=>?_) fun hc4=>?_
   .refine bw ?_;refine di (fun hc5=>?_) fun hc5=>?_
    .refine aD ?_;refine gv ?_;refine aU ?_;refine gv ?_;refine aF ?_;refine du ?_;simp[eY,oL,mY,hc0, *]
    refine aK ?_;refine gv ?_;refine aF ?_;refine du ?_;simp[eY,oL,mY,hc0, *]
   refine bW ?_;refine di (fun hc6=>?_) fun hc6=>?_
   .refine aE ?_;have hpl:=hp0.1;refine aK ?_;refine gv ?_;refine gv ?_;refine bw ?_;refine du ?_;simp[eY,oL,mY,hc0, *]
   refine aQ ?_;refine du ?_;simp[eY,oL,mY,hc0, *]
  refine aQ ?_;refine az (fun hc3=>?_) (fun hc3=>?_)
  .simp only[bh]at hc3;have hpos:0<i:=ae;refine aD ?_;refine gv ?_;refine aU ?_;refine au (hc:=h665 (c.py[i]!) ⟨hfit.1,hfit.2⟩) ?_;have hdl:=eJ 4 (c.py[i]!).toNat ae ae;refine gv ?_;refine bW ?_;exact⟨i+1,⟨ae,ae⟩,ae,(bm.to [(0,0)] ah ah (by repeat(first|exact de.nil|refine de.un ?_|refine de.eq ah ?_|refine de.nl (ak D.str (by first|(simp only[iB,aC hpos,eh];done)|(simp only[iB,ar hpos,eh,fS];done)|simp[iB])) ah ?_|refine de.nl ah ah ?_)) lE)⟩
  simp only[bC]at hc3;have hpos:¬0<i:=ae;refine aK ?_;refine au (hc:=h665 (c.py[i]!) ⟨hfit.1,hfit.2⟩) ?_;have hdl:=eJ 4 (c.py[i]!).toNat ae ae;refine gv ?_;refine bW ?_;exact⟨i+1,⟨ae,ae⟩,ae,(bm.to [(0,0)] ah ah (by repeat(first|exact de.nil|refine de.un ?_|refine de.eq ah ?_|refine de.nl (ak D.str (by first|(simp only[iB,aC hpos,eh];done)|(simp only[iB,ar hpos,eh,fS];done)|simp[iB])) ah ?_|refine de.nl ah ah ?_)) lE)⟩
 refine aK ?_;obtain rfl:i=c.parts.toNat:=ae;refine aK ?_;refine di (fun hc4=>?_) fun hc4=>?_
 .refine bw ?_;refine di (fun hc5=>?_) fun hc5=>?_
  .refine aD ?_;refine gv ?_;refine aU ?_;refine gv ?_;refine aF ?_;refine du ?_;simp[eY,oL,mY,hc0, *]
  refine aK ?_;refine gv ?_;refine aF ?_;refine du ?_;simp[eY,oL,mY,hc0, *]
 refine bW ?_;refine di (fun hc6=>?_) fun hc6=>?_
 .refine aE ?_;have hpl:=hp0.1;refine aK ?_;refine gv ?_;refine gv ?_;refine bw ?_;refine du ?_;simp[eY,oL,mY,hc0, *]
 refine aQ ?_;refine du ?_;simp[eY,oL,mY,hc0, *]
noncomputable def J3:aN:=dy 148
def w554 {Y:Ctx}(hm:(Y.at 0).cP)(h734:VL Y)(v:dz)  (hp0:sZ v.major=true/\sZ v.minor=true/\sZ v.patch=true):dX Y J3 (.str (ea v.major.toNat++[46]++ea v.minor.toNat++[46]++ea v.patch.toNat)) [dz.D v]:=by
 show cg _ _ _ [⟨_,_⟩,_,_,_] _;obtain⟨hq1,hq2,hq3⟩:=hp0;simp only[sZ,bM,bh]at hq1 hq2 hq3;have hl1:=eJ 4 v.major.toNat ae ae;have hl2:=eJ 4 v.minor.toNat ae ae;have hl3:=eJ 4 v.patch.toNat ae ae;refine ay ?_;refine aQ ?_;refine au (hc:=h734 _ ?_) ?_;rotate_left;first|assumption|omega
 refine dD (hb:=fun _=>dk) ?_;refine aD ?_;refine au (hc:=h734 _ ?_) ?_;rotate_left;first|assumption|omega
 refine dD (hb:=fun _=>dk) ?_;refine aK ?_;refine dD (hb:=fun _=>dk) ?_;refine aD ?_;refine au (hc:=h734 _ ?_) ?_;rotate_left;first|assumption|omega
 refine dD (hb:=fun _=>dk) ?_;refine aF ?_;exact du rfl
noncomputable def S5:aN:=dy 86
def w316 {Y:Ctx}(hm:(Y.at 0).cP)(h217:K2 Y)(h554:YB Y)(v:dz)  (hp0:v.sm):dX Y S5 (.str (ll v)) [dz.D v]:=by
 show cg _ _ _ [⟨_,_⟩,_,_,_,_,_,_] _;obtain⟨hs1,hs2⟩:=hp0;have hp0:v.sm:=⟨hs1,hs2⟩;refine ay ?_;refine aQ ?_;refine au (hc:=h217 _ ?_) ?_;rotate_left;first|assumption|omega
 refine aD ?_;refine az (fun hc0=>?_) (fun hc0=>?_)
 .simp only[bE]at hc0;refine aU ?_;refine du ?_;simp[ll,hc0]
 simp only[cq]at hc0;refine aD ?_;have hv:=hc0;simp only[jD,bM]at hv;obtain⟨⟨⟨⟨hv1,hv2⟩,hv3⟩,_⟩,_⟩:=hv;have hq1:=hv1;have hq2:=hv2;have hq3:=hv3;simp only[sZ,bM,bh]at hq1 hq2 hq3;have hl1:=eJ 4 v.major.toNat ae ae;have hl2:=eJ 4 v.minor.toNat ae ae;have hl3:=eJ 4 v.patch.toNat ae ae;refine aE ?_;refine au (hc:=h554 v ⟨hv1,hv2,hv3⟩) ?_;refine bW ?_;refine di (fun hc1=>?_) fun hc1=>?_
 .refine aD ?_;refine dD (hb:=fun _=>dk) ?_;refine aD ?_;refine dD (hb:=fun _=>dk) ?_;refine bW ?_;refine di (fun hc2=>?_) fun hc2=>?_
  .refine aD ?_;refine dD (hb:=fun _=>dk) ?_;refine aD ?_;refine dD (hb:=fun _=>dk) ?_;refine bw ?_;refine du ?_;simp[ll,vz,hc0,hc1,hc2]
  refine aQ ?_;refine du ?_;simp[ll,vz,hc0,hc1,hc2]
 refine bw ?_;refine di (fun hc2=>?_) fun hc2=>?_
 .refine aD ?_;refine dD (hb:=fun _=>dk) ?_;refine aD ?_;refine dD (hb:=fun _=>dk) ?_;refine bw ?_;refine du ?_;simp[ll,vz,hc0,hc1,hc2]
 refine aQ ?_;refine du ?_;simp[ll,vz,hc0,hc1,hc2]
noncomputable def MO:aN:=dy 20
def w73 {Y:Ctx}(hm:(Y.at 0).cP)(h71:C71 Y)(h219:Vt Y)(r:Rec)  (hp0:mD r):dX Y MO (.tup [.str (jr r).1,.int .i64 (jr r).2]) [Rec.D r]:=by
 show cg _ _ _ [⟨_,_⟩,_,_,_,_,_] _;refine ay ?_;refine bw ?_;refine au (hc:=h71 r hp0) ?_;refine gE ?_;refine di (fun hc0=>?_) fun hc0=>?_
 .refine bw ?_;refine bT (aS (ak D.str ?_) (ak (D.int .i64) ?_));all_goals
   simp[jr,hc0]
 refine aD ?_;have hgd:=uh hc0;refine aE ?_;refine au (hc:=h219 r ⟨hgd,hp0⟩) ?_;refine aK ?_;refine bT (aS (ak D.str ?_) (ak (D.int .i64) ?_));all_goals
  simp[jr,hc0]
end Go.Abs
