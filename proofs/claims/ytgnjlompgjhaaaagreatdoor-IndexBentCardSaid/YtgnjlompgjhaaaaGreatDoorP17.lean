/- A part of the proofs. -/
import Derived.Test.YtgnjlompgjhaaaaGreatDoorP08
set_option linter.all false
set_option maxRecDepth 60000
set_option maxHeartbeats 2000000
namespace Go.Abs
variable {Y:Ctx}(hm:(Y.at 0).b8)
noncomputable def Ty:aC:=cR 102
def w453 {Y:Ctx}(hm:(Y.at 0).b8)  (c:Int)   :di Y Ty (.bool (iG c)) [.int .u8 c]:=by
 show bK _ _ _ [⟨_,_⟩,_] _;refine ar ?_;refine gD ?_;exact bV rfl
noncomputable def Kn:aC:=cR 103
def w454 {Y:Ctx}(hm:(Y.at 0).b8)  (c:Int)   :di Y Kn (.bool (bn c)) [.int .u8 c]:=by
 show bK _ _ _ [⟨_,_⟩,_] _;refine ar ?_;refine gD ?_;exact bV rfl
noncomputable def PZ:aC:=cR 189
def w357 (h453:XP Y)(h454:Uy Y)(s:au)   :di Y PZ (.bool (cW s)) [.str s]:=by
 show bK _ _ _ [⟨_,_⟩,_,_,_,_,_] _;refine ar ?_;refine aD ?_;intro u0;refine ay ?_;refine iy ?_;refine ay ?_;refine cG (fun hc0=>?_) fun hc0=>?_
 .refine aE ?_;refine bV ?_;symm;simp only[cW,dz,bc];exact Or.inl ae
 refine aE ?_;refine ba hm (ι:=Nat) (fun i=>[⟨true,.str s⟩,.un,.un,⟨true,.int .i64 (i:Nat)⟩,.un,.un]) (fun i=>[]) 10 (fun i=>i<=s.length/\cW s=cS (fun i=>zy (at8 s i)) i s.length) (fun i=>s.length-i) 0 ⟨ae,by simp only[cW];rw[ca ae,ca ae];rfl⟩ (du []) ?_;rintro i ⟨hi,hr⟩;refine aE ?_;intro u1;refine ax ?_;refine cG (fun hc1=>?_) fun hc1=>?_
 .refine aD ?_;refine aq (hc:=h453 _) ?_;refine aE ?_;refine aq (hc:=h454 _) ?_;refine c7 ?_;refine fO (fun hc2=>?_) fun hc2=>?_
  .refine aD ?_;refine bV ?_;rw[hr,aU ae];simp[zy,hc2]
  refine bN ?_;exact⟨i+1,⟨ae,by rw[hr,aU ae];simp[zy,hc2]⟩,ae,(du [])⟩
 refine aD ?_;refine bV ?_;rw[hr,cn ae]
noncomputable def PY:aC:=cR 59
def w216 (h453:XP Y)(h454:Uy Y)(s:au)   :di Y PY (.bool (dL s)) [.str s]:=by
 show bK _ _ _ [⟨_,_⟩,_,_,_,_,_] _;refine ar ?_;refine aD ?_;intro u0;refine ay ?_;refine iy ?_;refine aB ?_;refine qe 0 ?_;refine aq (hc:=h453 _) ?_;refine aE ?_;refine iy ?_;refine aA ?_;refine qe (s.length-1) ?_;refine ay ?_;refine cG (fun hc0=>?_) fun hc0=>?_
 .refine aE ?_;refine bV ?_;symm;simp only[dL];rcases hc0 with(h|h)|h
  .rcases h with h|h<;>simp<;>omega
  .simp[h]
  .simp[h]
 refine aE ?_;refine ba hm (ι:=Nat) (fun i=>[⟨true,.str s⟩,.un,.un,⟨true,.int .i64 (i:Nat)⟩,.un,.un]) (fun i=>[]) 24 (fun i=>i<=s.length/\1<=i/\dL s=cS (Zi s) i s.length) (fun i=>s.length-i) 1 ⟨ae,ae,by simp only[dL];rw[ca ae,ca ae,hc0.1.2,cI hc0.2];rfl⟩ (du []) ?_;rintro i ⟨hi,hi1,hr⟩;refine aE ?_;intro u1;refine ax ?_;refine cG (fun hc1=>?_) fun hc1=>?_
 .refine aD ?_;refine aq (hc:=h453 _) ?_;refine aE ?_;refine aq (hc:=h454 _) ?_;refine Cq ?_;refine qe (i-1) ?_;refine aB ?_;refine fO (fun hc2=>?_) fun hc2=>?_
  .refine aD ?_;refine bV ?_;rw[hr,aU ae];simp only[Zi];revert hc2;generalize iG (at8 s i)=x;generalize bn (at8 s i)=y;by_cases h1:at8 s i=45<;>by_cases h2:at8 s (i-1)=45<;>cases x<;>cases y<;>simp_all
  refine bN ?_;exact⟨i+1,⟨ae,ae,by rw[hr,aU ae];simp only[Zi];revert hc2;generalize iG (at8 s i)=x;generalize bn (at8 s i)=y;by_cases h1:at8 s i=45<;>by_cases h2:at8 s (i-1)=45<;>cases x<;>cases y<;>simp_all⟩,ae,(du [])⟩
 refine aD ?_;refine bV ?_;rw[hr,cn ae]
noncomputable def H5:aC:=cR 185
def w667 (h454:Uy Y)(s:au)   :di Y H5 (.tup [.int .i64 (eg s),.bool (fW s)]) [.str s]:=by
 show bK _ _ _ [⟨_,_⟩,_,_,_,_,_,_,_,_] _;refine ar ?_;refine aZ ?_;intro u0;refine ay ?_;refine iy ?_;refine aB ?_;refine iy ?_;refine ay ?_;refine qe 0 ?_;refine aB ?_;refine cG (fun hc0=>?_) fun hc0=>?_
 .refine aD ?_;refine bG (aH (aj (D.int .i64) ?_) (aj D.bool ?_));all_goals
   have:fW s=false:=by
    simp only[fW];rcases hc0 with(h|h)|h
    .rw[cI (by omega:¬1<=s.length)];rfl
    .rw[cI (by omega:¬s.length<=9)];simp
    .rw[ca (by omega:1<s.length),ca h.2];simp
   simp[eg,this]
 refine bN ?_;have hP:fW s=(cS (fun i=>bn (at8 s i)) 0 s.length&&decide (dM s<=9999)):=by
  simp only[fW];rw[ca (by omega:1<=s.length),ca (by omega:s.length<=9)];rcases hc0.2 with h|h
  .rw[cI (by omega:¬1<s.length)];rfl
  .rw[cI h,Bool.and_false];rfl
 refine ba hm (ι:=Nat) (fun i=>[⟨true,.str s⟩,.un,.un,.un,⟨true,.int .i64 (i:Nat)⟩,.un,.un,⟨true,.int .i64 (dM (s.take i):Nat)⟩,.un]) (fun i=>[]) 22 (fun i=>i<=s.length/\s.length<=9/\fW s=(cS (fun i=>bn (at8 s i)) i s.length&&decide (dM s<=9999))) (fun i=>s.length-i) 0 ⟨ae,ae,hP⟩ (du []) ?_;rintro i ⟨hi,h9,hr⟩;refine aE ?_;intro u1;refine ax ?_;refine cG (fun hc1=>?_) fun hc1=>?_
 .refine aZ ?_;refine aq (hc:=h454 _) ?_;refine ax ?_;refine av (fun hc2=>?_) (fun hc2=>?_)
  .try simp only[dq]at hc2
   refine bN ?_;refine bG (aH (aj (D.int .i64) ?_) (aj D.bool ?_));all_goals
    have:fW s=false:=by rw[hr,aU ae,hc2];rfl
    simp[eg,this]
  simp only[bM]at hc2;refine ax ?_;have h48:=hc2;simp only[bn,bC,aK]at h48;have hn:=vW s i ae;have hn2:=yn s i ae;have h256:=wz s i;refine aA ?_;refine nW ?_;refine ay ?_;refine qM (at8 s i-48) (hb:=fun _=>IntWalk.u8_in _ ae) ?_;refine lT (at8 s i-48) (hb:=fun _=>IntWalk.i64_in _ ae) ?_;refine ay ?_;rw[show(dM (s.take i):Int)*10+(at8 s i-48)=(dM (s.take (i+1)):Nat)by omega];refine aZ ?_;exact⟨i+1,⟨ae,h9,by rw[hr,aU ae,hc2];rfl⟩,ae,(du [])⟩
 refine aB ?_;have ht:s.take i=s:=ee ae;rw[ht];refine ay ?_;refine cG (fun hc3=>?_) fun hc3=>?_
 .refine aD ?_;refine bG (aH (aj (D.int .i64) ?_) (aj D.bool ?_));all_goals
   have:fW s=false:=by rw[hr,cI ae,Bool.and_false]
   simp[eg,this]
 refine aZ ?_;refine bG (aH (aj (D.int .i64) ?_) (aj D.bool ?_));all_goals
  have:fW s=true:=by rw[hr,cn ae,ca ae];rfl
  simp[eg,this]
noncomputable def FD:aC:=cR 186
def w668  (t:au)   :di Y FD (.bool (dd t)) [.str t]:=by
 show bK _ _ _ [⟨_,_⟩,_,_,_,_] _;refine ar ?_;refine aD ?_;refine ba hm (ι:=Nat) (fun i=>[⟨true,.str t⟩,.un,⟨true,.int .i64 (i:Nat)⟩,.un,.un]) (fun i=>[]) 2 (fun i=>i<=t.length/\cS (fun i=>bn (at8 t i)) 0 t.length=cS (fun i=>bn (at8 t i)) i t.length) (fun i=>t.length-i) 0 ⟨ae,rfl⟩ (du []) ?_;rintro i ⟨hi,hr⟩;refine aE ?_;intro u0;refine ax ?_;refine cG (fun hc0=>?_) fun hc0=>?_
 .refine sQ ?_;refine fO (fun hc1=>?_) fun hc1=>?_
  .refine aD ?_;refine bV ?_;simp only[dd];rw[hr,aU ae];rcases hc1 with h|h<;>simp[bn]<;>omega
  refine bN ?_;exact⟨i+1,⟨ae,by rw[hr,aU ae];rw[show bn (at8 t i)=true by simp only[bn,bC,aK];omega];rfl⟩,ae,(du [])⟩
 refine aE ?_;intro u1;refine aB ?_;refine bV ?_;simp only[dd];rw[hr,cn ae];simp
noncomputable def TC:aC:=cR 184
def w666  (t:au)   :di Y TC (.bool (sJ t)) [.str t]:=by
 show bK _ _ _ [⟨_,_⟩,_,_,_,_,_,_] _;refine ar ?_;refine aD ?_;intro u0;refine ay ?_;refine iy ?_;refine ay ?_;refine cG (fun hc0=>?_) fun hc0=>?_
 .refine aE ?_;refine bV ?_;symm;simp only[sJ,dz,bc];exact Or.inl ae
 refine aE ?_;refine ba hm (ι:=Nat) (fun i=>[⟨true,.str t⟩,.un,.un,⟨true,.int .i64 (i:Nat)⟩,.un,.un,.un]) (fun i=>[]) 10 (fun i=>i<=t.length/\sJ t=cS (fun i=>nX (at8 t i)) i t.length) (fun i=>t.length-i) 0 ⟨ae,by simp only[sJ];rw[ca ae,ca ae];rfl⟩ (du []) ?_;rintro i ⟨hi,hr⟩;refine aE ?_;intro u1;refine ax ?_;refine cG (fun hc1=>?_) fun hc1=>?_
 .refine Ur ?_;refine fO (fun hc2=>?_) fun hc2=>?_
  .refine aD ?_;refine bV ?_;rw[hr,aU ae];have:nX (at8 t i)=false:=(by simp only[nX,iG,bn,de,dz,bc];omega);rw[this];rfl
  refine bN ?_;exact⟨i+1,⟨ae,by rw[hr,aU ae];have:nX (at8 t i)=true:=(by simp only[nX,iG,bn,cN,bC,aK];omega);rw[this];rfl⟩,ae,(du [])⟩
 refine aD ?_;refine bV ?_;rw[hr,cn ae]
noncomputable def P2:aC:=cR 148
def w456 (h470:tZ Y)(h666:C666 Y)(h667:QP Y)(h668:X9 Y)(s:au)(p:Bool)  (hp0:s.length<=1048576):di Y P2 (.bool (sK s p)) [.str s,.bool p]:=by
 show bK _ _ _ [⟨_,_⟩,⟨_,_⟩,_,_,_,_,_,_,_,_,_] _;refine ar ?_;refine aZ ?_;refine cG (fun hc0=>?_) fun hc0=>?_
 .refine aE ?_;refine bV ?_;simp[sK,hc0]
 refine ay ?_;refine aq (hc:=h470 _ _ ?_) ?_;rotate_left;first|assumption|omega;have hlen:=dm s 46
 refine aD ?_;intro u0;refine ax ?_;refine av (fun hc1=>?_) (fun hc1=>?_)
 .try simp only[dq]at hc1
  refine aE ?_;refine bV ?_;simp only[sK,px];rw[cI hc0,cI ae];rfl
 simp only[bc]at hc1;refine aE ?_;refine ba hm (ι:=Nat) (fun i=>[⟨true,.str s⟩,⟨true,.bool p⟩,.un,.un,⟨true,.sl 1 ((ai s 46).map D.str)⟩,.un,⟨true,.int .i64 (i:Nat)⟩,.un,.un,.un,.un]) (fun i=>[]) 10 (fun i=>i<=(ai s 46).length/\sK s p=cS (fun i=>iT p (ai s 46)[i]!) i (ai s 46).length) (fun i=>(ai s 46).length-i) 0 ⟨ae,by simp only[sK,px];rw[cI hc0,ca ae];rfl⟩ (du []) ?_;rintro i ⟨hi,hr⟩;refine aE ?_;intro u1;refine ax ?_;refine cG (fun hc2=>?_) fun hc2=>?_
 .refine bN ?_;refine aq (hc:=h666 _) ?_;refine ax ?_;refine av (fun hc3=>?_) (fun hc3=>?_)
  .simp only[bd]at hc3;refine aZ ?_;refine bV ?_;rw[hr,aU ae];simp only[iT,hc3];rfl
  simp only[bM]at hc3;refine aD ?_;refine aq (hc:=h667 _) ?_;refine lX ?_;refine aq (hc:=h668 _) ?_;refine aD ?_;refine wp_cond (fun hc4=>?_) (fun hc4=>?_)
  .skip
   refine aD ?_;refine bV ?_;have h5:iT p (ai s 46)[i]! =false:=(by simp only[iT,hc3];revert hc4;generalize dd (ai s 46)[i]! =a;generalize fW (ai s 46)[i]! =b;cases p<;>cases a<;>cases b<;>simp);rw[hr,aU ae,h5];rfl
  skip
  refine bN ?_;exact⟨i+1,⟨ae,by rw[hr,aU ae];have h5:iT p (ai s 46)[i]! =true:=(by simp only[iT,hc3];revert hc4;generalize dd (ai s 46)[i]! =a;generalize fW (ai s 46)[i]! =b;cases p<;>cases a<;>cases b<;>simp);rw[h5];rfl⟩,ae,(du [])⟩
 refine aD ?_;refine bV ?_;rw[hr,cn ae]
noncomputable def TA:aC:=cR 147
def w455 {Y:Ctx}(hm:(Y.at 0).b8)  (n:Int)   :di Y TA (.bool (qz n)) [.int .i64 n]:=by
 show bK _ _ _ [⟨_,_⟩,_] _;refine ar ?_;refine gD ?_;exact bV rfl
noncomputable def Tz:aC:=cR 105
def w217 {Y:Ctx}(hm:(Y.at 0).b8)(h455:C455 Y)(h456:C456 Y)(v:cq)  (hp0:v.sm):di Y Tz (.bool (e8 v)) [cq.D v]:=by
 show bK _ _ _ [⟨_,_⟩,_,_] _;refine ar ?_;refine aD ?_;refine aq (hc:=h455 _) ?_;refine ay ?_;refine aq (hc:=h455 _) ?_;refine aB ?_;refine aq (hc:=h455 _) ?_;refine aB ?_;refine c9 (hc:=fun hf=>h456 v.pre true hp0.1) ?_;refine aB ?_;refine c9 (hc:=fun hf=>h456 v.build false hp0.2) ?_;refine aB ?_;exact bV rfl
noncomputable def Kq:aC:=cR 204
def w568 {Y:Ctx}(hm:(Y.at 0).b8)(h217:Ja Y)(h470:tZ Y)(h741:C741 Y)(h742:C742 Y)(s:au)  (hp0:s.length<=1048576):di Y Kq (.tup [cq.D ((gv s).getD gz),.int .i64 (o9 s)]) [.str s]:=by
 show bK _ _ _ [⟨_,_⟩,_,_,_,_,_,_,_,_,_,_,_,_] _;have hb1:=kE s 43;have tJ:=kE (aG s 43).2 45;have t1:=qL s 43;have t2:=qL (aG s 43).2 45;have hq:=T9 s;have p1:=mz s 43;have p2:=mz (aG s 43).2 45;refine ar ?_;refine c7 ?_;refine aq (hc:=h741 s 43) ?_;refine aE ?_;refine fB (aG s 43).2.length ?_;refine aE ?_;refine lu (aG s 43).2.length ?_;rw[t1];refine aB ?_;refine aq (hc:=h741 (aG s 43).2 45) ?_;refine aE ?_;refine fB (aG (aG s 43).2 45).2.length ?_;refine aE ?_;refine lu (aG (aG s 43).2 45).2.length ?_;rw[t2];refine aq (hc:=h470 (aG (aG s 43).2 45).2 46 ae) ?_;refine aq (hc:=h742 (ai (aG (aG s 43).2 45).2 46)) ?_;rw[KT];refine aA ?_;refine eZ (cq.D _) ?_;refine ax ?_;refine aI (cq.D ⟨(ec (ai (aG (aG s 43).2 45).2 46)).1.major,(ec (ai (aG (aG s 43).2 45).2 46)).1.minor,(ec (ai (aG (aG s 43).2 45).2 46)).1.patch,[],[]⟩) (he:=aQ) ?_;refine bN ?_;refine iy ?_;refine aB ?_;refine iy ?_;refine ay ?_;refine cG (fun hc0=>?_) fun hc0=>?_
 .refine ax ?_;refine bg (cq.D gz) ?_;refine aI (cq.D gz) (he:=aQ) ?_;refine ay ?_;refine bG (aH ?_ (aj (D.int .i64) ?_));all_goals
   have hn:gv s=none:=by
    rw[hq,ak];rintro⟨⟨⟨a,b⟩,c⟩,d⟩;rcases hc0 with(h|h)|h
    .rw[a]at h;cases h
    .omega
    .omega
   simp only[o9,hn];first|done|rfl
 refine aD ?_;refine av (fun hc1=>?_) (fun hc1=>?_)
 .simp only[bd,bc]at hc1;have hd6:=KQ (s:=(aG s 43).2) (b:=45) hc1;refine ax ?_;refine fB 1 (hb:=fun _=>hd6.1) ?_;rw[hd6.2];refine aA ?_;refine aI (cq.D ⟨(ec (ai (aG (aG s 43).2 45).2 46)).1.major,(ec (ai (aG (aG s 43).2 45).2 46)).1.minor,(ec (ai (aG (aG s 43).2 45).2 46)).1.patch,(aG (aG s 43).2 45).1,[]⟩) (he:=aQ) ?_;refine aD ?_;refine av (fun hc2=>?_) (fun hc2=>?_)
  .simp only[bd,bc]at hc2;have hd7:=KQ (s:=s) (b:=43) hc2;refine ax ?_;refine fB 1 (hb:=fun _=>hd7.1) ?_;rw[hd7.2];refine aA ?_;first|refine aI (cq.D ⟨(ec (ai (aG (aG s 43).2 45).2 46)).1.major,(ec (ai (aG (aG s 43).2 45).2 46)).1.minor,(ec (ai (aG (aG s 43).2 45).2 46)).1.patch,(aG (aG s 43).2 45).1,(aG s 43).1⟩) (he:=aQ) ?_|refine aI (cq.D ⟨(ec (ai (aG (aG s 43).2 45).2 46)).1.major,(ec (ai (aG (aG s 43).2 45).2 46)).1.minor,(ec (ai (aG (aG s 43).2 45).2 46)).1.patch,[],(aG s 43).1⟩) (he:=aQ) ?_
   refine ay ?_;first|refine aT (v:=cq.D (dE s)) (hv:=fun _=>rfl) ?_|refine aT (v:=cq.D (dE s)) (hv:=fun _=>by rw[dE,hz6];rfl) ?_|refine aT (v:=cq.D (dE s)) (hv:=fun _=>by rw[dE,hz7];rfl) ?_|refine aT (v:=cq.D (dE s)) (hv:=fun _=>by rw[dE,hz6,hz7];rfl) ?_
   refine aq (hc:=h217 (dE s) ⟨by simp only[dE];omega,by simp only[dE];omega⟩) ?_;refine ax ?_;refine av (fun hc3=>?_) (fun hc3=>?_)
   .simp only[bd]at hc3;refine ax ?_;refine bg (cq.D gz) ?_;refine aI (cq.D gz) (he:=aQ) ?_;refine ay ?_;refine bG (aH ?_ (aj (D.int .i64) ?_));all_goals
     have hn:gv s=none:=by
      rw[hq,ak];rintro⟨_,d⟩;rw[hc3]at d;cases d
     simp only[o9,hn];first|done|rfl
   simp only[bM]at hc3;refine ax ?_;first|refine aT (v:=cq.D (dE s)) (hv:=fun _=>rfl) ?_|refine aT (v:=cq.D (dE s)) (hv:=fun _=>by rw[dE,hz6];rfl) ?_|refine aT (v:=cq.D (dE s)) (hv:=fun _=>by rw[dE,hz7];rfl) ?_|refine aT (v:=cq.D (dE s)) (hv:=fun _=>by rw[dE,hz6,hz7];rfl) ?_
   refine aI (cq.D (dE s)) (he:=aQ) ?_;refine ay ?_;refine bG (aH ?_ (aj (D.int .i64) ?_));all_goals
    have hn:gv s=some (dE s):=by
     rw[hq,aw ⟨⟨⟨by first|exact hc0.1.1|simpa using hc0.1.1,ae⟩,ae⟩,hc3⟩]
    simp only[o9,hn];first|done|rfl
  simp only[bM,aK]at hc2;have hz7:=KP (s:=s) (b:=43) hc2;refine ay ?_;first|refine aT (v:=cq.D (dE s)) (hv:=fun _=>rfl) ?_|refine aT (v:=cq.D (dE s)) (hv:=fun _=>by rw[dE,hz6];rfl) ?_|refine aT (v:=cq.D (dE s)) (hv:=fun _=>by rw[dE,hz7];rfl) ?_|refine aT (v:=cq.D (dE s)) (hv:=fun _=>by rw[dE,hz6,hz7];rfl) ?_
  refine aq (hc:=h217 (dE s) ⟨by simp only[dE];omega,by simp only[dE];omega⟩) ?_;refine ax ?_;refine av (fun hc3=>?_) (fun hc3=>?_)
  .simp only[bd]at hc3;refine ax ?_;refine bg (cq.D gz) ?_;refine aI (cq.D gz) (he:=aQ) ?_;refine ay ?_;refine bG (aH ?_ (aj (D.int .i64) ?_));all_goals
    have hn:gv s=none:=by
     rw[hq,ak];rintro⟨_,d⟩;rw[hc3]at d;cases d
    simp only[o9,hn];first|done|rfl
  simp only[bM]at hc3;refine ax ?_;first|refine aT (v:=cq.D (dE s)) (hv:=fun _=>rfl) ?_|refine aT (v:=cq.D (dE s)) (hv:=fun _=>by rw[dE,hz6];rfl) ?_|refine aT (v:=cq.D (dE s)) (hv:=fun _=>by rw[dE,hz7];rfl) ?_|refine aT (v:=cq.D (dE s)) (hv:=fun _=>by rw[dE,hz6,hz7];rfl) ?_
  refine aI (cq.D (dE s)) (he:=aQ) ?_;refine ay ?_;refine bG (aH ?_ (aj (D.int .i64) ?_));all_goals
   have hn:gv s=some (dE s):=by
    rw[hq,aw ⟨⟨⟨by first|exact hc0.1.1|simpa using hc0.1.1,ae⟩,ae⟩,hc3⟩]
   simp only[o9,hn];first|done|rfl
 simp only[bM,aK]at hc1;have hz6:=KP (s:=(aG s 43).2) (b:=45) hc1;refine aD ?_;refine av (fun hc2=>?_) (fun hc2=>?_)
 .simp only[bd,bc]at hc2;have hd7:=KQ (s:=s) (b:=43) hc2;refine ax ?_;refine fB 1 (hb:=fun _=>hd7.1) ?_;rw[hd7.2];refine aA ?_;first|refine aI (cq.D ⟨(ec (ai (aG (aG s 43).2 45).2 46)).1.major,(ec (ai (aG (aG s 43).2 45).2 46)).1.minor,(ec (ai (aG (aG s 43).2 45).2 46)).1.patch,(aG (aG s 43).2 45).1,(aG s 43).1⟩) (he:=aQ) ?_|refine aI (cq.D ⟨(ec (ai (aG (aG s 43).2 45).2 46)).1.major,(ec (ai (aG (aG s 43).2 45).2 46)).1.minor,(ec (ai (aG (aG s 43).2 45).2 46)).1.patch,[],(aG s 43).1⟩) (he:=aQ) ?_
  refine ay ?_;first|refine aT (v:=cq.D (dE s)) (hv:=fun _=>rfl) ?_|refine aT (v:=cq.D (dE s)) (hv:=fun _=>by rw[dE,hz6];rfl) ?_|refine aT (v:=cq.D (dE s)) (hv:=fun _=>by rw[dE,hz7];rfl) ?_|refine aT (v:=cq.D (dE s)) (hv:=fun _=>by rw[dE,hz6,hz7];rfl) ?_
  refine aq (hc:=h217 (dE s) ⟨by simp only[dE];omega,by simp only[dE];omega⟩) ?_;refine ax ?_;refine av (fun hc3=>?_) (fun hc3=>?_)
  .simp only[bd]at hc3;refine ax ?_;refine bg (cq.D gz) ?_;refine aI (cq.D gz) (he:=aQ) ?_;refine ay ?_;refine bG (aH ?_ (aj (D.int .i64) ?_));all_goals
    have hn:gv s=none:=by
     rw[hq,ak];rintro⟨_,d⟩;rw[hc3]at d;cases d
    simp only[o9,hn];first|done|rfl
  simp only[bM]at hc3;refine ax ?_;first|refine aT (v:=cq.D (dE s)) (hv:=fun _=>rfl) ?_|refine aT (v:=cq.D (dE s)) (hv:=fun _=>by rw[dE,hz6];rfl) ?_|refine aT (v:=cq.D (dE s)) (hv:=fun _=>by rw[dE,hz7];rfl) ?_|refine aT (v:=cq.D (dE s)) (hv:=fun _=>by rw[dE,hz6,hz7];rfl) ?_
  refine aI (cq.D (dE s)) (he:=aQ) ?_;refine ay ?_;refine bG (aH ?_ (aj (D.int .i64) ?_));all_goals
   have hn:gv s=some (dE s):=by
    rw[hq,aw ⟨⟨⟨by first|exact hc0.1.1|simpa using hc0.1.1,ae⟩,ae⟩,hc3⟩]
   simp only[o9,hn];first|done|rfl
 simp only[bM,aK]at hc2;have hz7:=KP (s:=s) (b:=43) hc2;refine ay ?_;first|refine aT (v:=cq.D (dE s)) (hv:=fun _=>rfl) ?_|refine aT (v:=cq.D (dE s)) (hv:=fun _=>by rw[dE,hz6];rfl) ?_|refine aT (v:=cq.D (dE s)) (hv:=fun _=>by rw[dE,hz7];rfl) ?_|refine aT (v:=cq.D (dE s)) (hv:=fun _=>by rw[dE,hz6,hz7];rfl) ?_
 refine aq (hc:=h217 (dE s) ⟨by simp only[dE];omega,by simp only[dE];omega⟩) ?_;refine ax ?_;refine av (fun hc3=>?_) (fun hc3=>?_)
 .simp only[bd]at hc3;refine ax ?_;refine bg (cq.D gz) ?_;refine aI (cq.D gz) (he:=aQ) ?_;refine ay ?_;refine bG (aH ?_ (aj (D.int .i64) ?_));all_goals
   have hn:gv s=none:=by
    rw[hq,ak];rintro⟨_,d⟩;rw[hc3]at d;cases d
   simp only[o9,hn];first|done|rfl
 simp only[bM]at hc3;refine ax ?_;first|refine aT (v:=cq.D (dE s)) (hv:=fun _=>rfl) ?_|refine aT (v:=cq.D (dE s)) (hv:=fun _=>by rw[dE,hz6];rfl) ?_|refine aT (v:=cq.D (dE s)) (hv:=fun _=>by rw[dE,hz7];rfl) ?_|refine aT (v:=cq.D (dE s)) (hv:=fun _=>by rw[dE,hz6,hz7];rfl) ?_
 refine aI (cq.D (dE s)) (he:=aQ) ?_;refine ay ?_;refine bG (aH ?_ (aj (D.int .i64) ?_));all_goals
  have hn:gv s=some (dE s):=by
   rw[hq,aw ⟨⟨⟨by first|exact hc0.1.1|simpa using hc0.1.1,ae⟩,ae⟩,hc3⟩]
  simp only[o9,hn];first|done|rfl
noncomputable def lz:aC:=cR 290
def w1126 {Y:Ctx}(hm:(Y.at 2).b8)(W:List au)(w:List au)(nd:List Nd)(h357:Jd (Y.at 2))(h1034:CW (Y.at 2))(h1099:QK (Y.at 2))(h1141:QM (Y.at 2))(hp0:w<:+W/\W.length<=1000)(hp1:nd.length+2*w.length<=1000):bK (Y.at 2) lz.body (j5 lz (yE 4 (jn W) (eC (AI w nd) w nd) Va):Ex->List ch->St->Prop) (fF lz [.ptr 0 4 0 0]) ⟨2,[(0,.buf 4 [jn W w (.own 1 5 0 nd.length) false]),(1,.buf 5 (nd.map Nd.D))]⟩:=by
 show bK _ _ _ [⟨true,.ptr 0 4 0 0⟩,.un,.un,.un,.un,.un,.un,.un,.un,.un,.un,.un] ⟨2,[(0,.buf 4 [jn W w (.own 1 5 0 nd.length) false]),(1,.buf 5 (nd.map Nd.D))]⟩;have hs1:(w.drop 1)<:+W/\W.length<=1000:=⟨(List.drop_suffix 1 w).trans hp0.1,hp0.2⟩;have hs2:((w.drop 1).drop 1)<:+W/\W.length<=1000:=⟨(List.drop_suffix 1 _).trans hs1.1,hp0.2⟩;have hpb:PB w nd (((w.drop 1).drop 1).drop 1) nd:=((EM w nd).trans (EM _ nd)).trans (EM _ nd);refine ar ?_;refine aB ?_;refine cy (nx':=3) (v:=.str (bA w)) (m':=[(0,.buf 4 [jn W (w.drop 1) (.own 1 5 0 nd.length) (rB w false)]),(1,.buf 5 (nd.map Nd.D))]) (hc:=fun K' hK=>h1141 W w nd false hp0 _ 0 1 _ K' ah ah cd cd (fun o ho=>by subst ho;exact hK)) (hn:=aF) ?_;refine aA ?_;refine cy (nx':=3) (v:=.str (bA (w.drop 1))) (m':=[(0,.buf 4 [jn W ((w.drop 1).drop 1) (.own 1 5 0 nd.length) (rB (w.drop 1) (rB w false))]),(1,.buf 5 (nd.map Nd.D))]) (hc:=fun K' hK=>h1141 W (w.drop 1) nd (rB w false) hs1 _ 0 1 _ K' ah ah cd cd (fun o ho=>by subst ho;exact hK)) (hn:=aF) ?_;refine aA ?_;refine cy (nx':=3) (v:=.str (bA ((w.drop 1).drop 1))) (m':=[(0,.buf 4 [jn W (((w.drop 1).drop 1).drop 1) (.own 1 5 0 nd.length) (rB ((w.drop 1).drop 1) (rB (w.drop 1) (rB w false)))]),(1,.buf 5 (nd.map Nd.D))]) (hc:=fun K' hK=>h1141 W ((w.drop 1).drop 1) nd (rB (w.drop 1) (rB w false)) hs2 _ 0 1 _ K' ah ah cd cd (fun o ho=>by subst ho;exact hK)) (hn:=aF) ?_;refine aD ?_;refine bg (Nd.D ⟨1,0,0,-1,(bA ((w.drop 1).drop 1))⟩) ?_;refine aA ?_;refine aI (Nd.D ⟨1,0,0,-1,(bA ((w.drop 1).drop 1))⟩) (he:=aQ) ?_;refine aE ?_;rw[show(⟨1,0,0,-1,(bA ((w.drop 1).drop 1))⟩:Nd)=⟨1,0,0,LD (bA w) 0,(bA ((w.drop 1).drop 1))⟩by rw[kAt_0]];refine ba hm (ι:=Nat) (fun i=>[⟨true,.ptr 0 4 0 0⟩,.un,⟨true,.str (bA ((w.drop 1).drop 1))⟩,⟨true,.int .i64 (i:Nat)⟩,.un,⟨true,.str (bA w)⟩,.un,⟨true,.ptr 14 5 0 0⟩,⟨true,.str (bA (w.drop 1))⟩,.un,.un,.un]) (fun i=>[(0,.buf 4 [jn W (((w.drop 1).drop 1).drop 1) (.own 1 5 0 nd.length) (rB ((w.drop 1).drop 1) (rB (w.drop 1) (rB w false)))]),(1,.buf 5 (nd.map Nd.D)),(14,.buf 5 [Nd.D ⟨1,0,0,LD (bA w) i,(bA ((w.drop 1).drop 1))⟩])]) 17 (fun i=>i<=3) (fun i=>3-i) 0 ae (a7.to [(14,14)] ah ah ei (by refine eN ?_;refine eN ?_;refine bo.nl 14 ah ah ah eL ?_;exact bo.nil)) ?_;intro i hi;refine aE ?_;refine cG (fun hc0=>?_) fun hc0=>?_
 .refine aB ?_;refine aq (hc:=h1099 (i:Int) ⟨ae,ae⟩) ?_;refine ay ?_;refine fO (fun hc1=>?_) fun hc1=>?_
  .refine ay ?_;refine aI (Nd.D ⟨1,0,0,((i:Nat):Int),(bA ((w.drop 1).drop 1))⟩) (he:=aQ) ?_;refine bN ?_;rw[show(⟨1,0,0,((i:Nat):Int),(bA ((w.drop 1).drop 1))⟩:Nd)=⟨1,0,0,LD (bA w) (i+1),(bA ((w.drop 1).drop 1))⟩by rw[VG ae hc1]];exact⟨i+1,ae,ae,(a7.to [(14,14)] ah ah ei (by refine eN ?_;refine eN ?_;refine bo.nl 14 ah ah ah eL ?_;exact bo.nil))⟩
  refine bN ?_;rw[show(⟨1,0,0,LD (bA w) i,(bA ((w.drop 1).drop 1))⟩:Nd)=⟨1,0,0,LD (bA w) (i+1),(bA ((w.drop 1).drop 1))⟩by rw[Zd ae hc1]];exact⟨i+1,ae,ae,(a7.to [(14,14)] ah ah ei (by refine eN ?_;refine eN ?_;refine bo.nl 14 ah ah ah eL ?_;exact bo.nil))⟩
 refine aB ?_;obtain rfl:i=3:=ae;rw[kAt_3];refine aE ?_;refine aq (hc:=h357 _) ?_;refine fK ?_;refine av (fun hc2=>?_) (fun hc2=>?_)
 .have hno:nt (bA w) (bA (w.drop 1)) (bA ((w.drop 1).drop 1))=false:=by rw[<-bd,<-C1];exact hc2
  have hn:=Rc (nd:=nd) hno;refine aA ?_;refine ik (a7.to (env':=[⟨true,.ptr 0 4 0 0⟩,.un,.un,.un,.un,.un,.un,.un,.un,.un,.un,.un]) (c:=90) (nx':=90) (m':=[(0,.buf 4 [jn W (((w.drop 1).drop 1).drop 1) (.own 2 5 0 nd.length) (rB ((w.drop 1).drop 1) (rB (w.drop 1) (rB w false)))]),(2,.buf 5 (nd.map Nd.D))]) [(1,2)] rfl ah ei (by refine bo.Gc ah ah ah ?_;refine bo.nl 1 ah ah rfl (by exact br (fun _=>rfl) _) ?_;exact bo.nil)) ?_;refine aB ?_;refine aI (jn W (((w.drop 1).drop 1).drop 1) (.own 2 5 0 nd.length) true) (he:=aQ) ?_;refine aD ?_;refine bP trivial eh (bS ah (aj (D.int .i64) ?_)) ah ⟨⟨0,(((w.drop 1).drop 1).drop 1),nd,true⟩,2,aF,⟨.inr ⟨hn,rfl⟩,hpb⟩,rfl,rfl,rfl⟩;rfl
 have hyes:nt (bA w) (bA (w.drop 1)) (bA ((w.drop 1).drop 1))=true:=by rw[<-bM,<-C1];exact hc2
 obtain⟨r,hw,ha⟩:=On (nd:=nd) hyes;obtain⟨hb3,hr3⟩:=rB3 hw;rw[<-hr3]at ha;refine ay ?_;refine cA (d:=Nd.D (⟨1,0,0,jl (bA w),(bA ((w.drop 1).drop 1))⟩:Nd)) ?_;refine cy (nx':=36) (v:=.int .i64 (nd.length:Nat)) (m':=[(37,.buf 5 ((nd++[(⟨1,0,0,jl (bA w),(bA ((w.drop 1).drop 1))⟩:Nd)]).map Nd.D)),(0,.buf 4 [jn W (((w.drop 1).drop 1).drop 1) (.own 37 5 0 (nd++[(⟨1,0,0,jl (bA w),(bA ((w.drop 1).drop 1))⟩:Nd)]).length) (rB ((w.drop 1).drop 1) (rB (w.drop 1) (rB w false)))]),(14,.buf 5 [Nd.D (⟨1,0,0,jl (bA w),(bA ((w.drop 1).drop 1))⟩:Nd)])]) (hc:=fun K' hK=>h1034 (⟨1,0,0,jl (bA w),(bA ((w.drop 1).drop 1))⟩:Nd) W (((w.drop 1).drop 1).drop 1) nd (rB ((w.drop 1).drop 1) (rB (w.drop 1) (rB w false))) ae _ 0 1 _ K' ah ah cd cd (fun o ho=>by subst ho;exact hK)) (hn:=aF) ?_;refine aZ ?_;refine av (fun hc3=>?_) (fun hc3=>?_)
 .simp only[aK]at hc3;have hat:AI w nd=some ((((nd++[(⟨1,0,0,jl (bA w),(bA ((w.drop 1).drop 1))⟩:Nd)]).length:Nat):Int),(((w.drop 1).drop 1).drop 1),((nd++[(⟨1,0,0,jl (bA w),(bA ((w.drop 1).drop 1))⟩:Nd)])++[(⟨2,(nd.length:Nat),0,0,[]⟩:Nd)])):=by rw[ha];simp only[xW,aw hc3]
  refine ay ?_;refine bg (Nd.D (⟨2,(nd.length:Nat),0,0,[]⟩:Nd)) ?_;refine cy (nx':=43) (v:=.int .i64 ((nd++[(⟨1,0,0,jl (bA w),(bA ((w.drop 1).drop 1))⟩:Nd)]).length:Nat)) (m':=[(45,.buf 5 (((nd++[(⟨1,0,0,jl (bA w),(bA ((w.drop 1).drop 1))⟩:Nd)])++[(⟨2,(nd.length:Nat),0,0,[]⟩:Nd)]).map Nd.D)),(0,.buf 4 [jn W (((w.drop 1).drop 1).drop 1) (.own 45 5 0 ((nd++[(⟨1,0,0,jl (bA w),(bA ((w.drop 1).drop 1))⟩:Nd)])++[(⟨2,(nd.length:Nat),0,0,[]⟩:Nd)]).length) (rB ((w.drop 1).drop 1) (rB (w.drop 1) (rB w false)))]),(14,.buf 5 [Nd.D (⟨1,0,0,jl (bA w),(bA ((w.drop 1).drop 1))⟩:Nd)])]) (hc:=fun K' hK=>h1034 (⟨2,(nd.length:Nat),0,0,[]⟩:Nd) W (((w.drop 1).drop 1).drop 1) (nd++[(⟨1,0,0,jl (bA w),(bA ((w.drop 1).drop 1))⟩:Nd)]) (rB ((w.drop 1).drop 1) (rB (w.drop 1) (rB w false))) cZ _ 0 37 _ K' ah ah cd cd (fun o ho=>by subst ho;exact hK)) (hn:=aF) ?_;refine aZ ?_;refine bP trivial eh (bS ah (aj (D.int .i64) ?_)) ah ⟨⟨((nd++[(⟨1,0,0,jl (bA w),(bA ((w.drop 1).drop 1))⟩:Nd)]).length:Nat),(((w.drop 1).drop 1).drop 1),((nd++[(⟨1,0,0,jl (bA w),(bA ((w.drop 1).drop 1))⟩:Nd)])++[(⟨2,(nd.length:Nat),0,0,[]⟩:Nd)]),(rB ((w.drop 1).drop 1) (rB (w.drop 1) (rB w false)))⟩,45,aF,⟨.inl ⟨hat,hb3⟩,Df hat⟩,rfl,rfl,rfl⟩;rfl
 simp only[bc]at hc3;have hat:AI w nd=some (((nd.length:Nat):Int),(((w.drop 1).drop 1).drop 1),(nd++[(⟨1,0,0,jl (bA w),(bA ((w.drop 1).drop 1))⟩:Nd)])):=by rw[ha];simp only[xW,ak hc3]
 refine aD ?_;refine bP trivial eh (bS ah (aj (D.int .i64) ?_)) ah ⟨⟨(nd.length:Nat),(((w.drop 1).drop 1).drop 1),(nd++[(⟨1,0,0,jl (bA w),(bA ((w.drop 1).drop 1))⟩:Nd)]),(rB ((w.drop 1).drop 1) (rB (w.drop 1) (rB w false)))⟩,37,aF,⟨.inl ⟨hat,hb3⟩,Df hat⟩,rfl,rfl,rfl⟩;rfl
noncomputable def Kv:aC:=cR 250
def w897 {Y:Ctx}(hm:(Y.at 0).b8)(h470:tZ Y)(h482:UD Y)(h1006:WA Y)(h1007:WB Y)(h1008:WC Y)(s:au)  (hp0:s.length<=1048576):di Y Kv (.tup [dI.D ((eP s).getD eQ),.int .i64 (if(eP s).isSome=true then 0 else 6)]) [.str s]:=by
 show bK _ _ _ [⟨_,_⟩,_,_,_,_,_,_,_,_,_,_,_,_,_,_] _;have hsl:=B4 s;generalize hO:ie s=O at hsl;have hpl:=Bz O.2;generalize hA:iP O.2 0=A at hpl;have hln:=dm A.1 46;have hlp:1<=(ai A.1 46).length:=er _ _ _;generalize hL:ai A.1 46=L at hln hlp;have hq0:eP s=if yo s O.1 (DS O.1 L) A.2=true then some (gL O.1 (DS O.1 L) A.2)else none:=by subst hO;subst hA;subst hL;rfl
 refine ar ?_;refine aE ?_;refine aq (hc:=h1006 s) ?_;rw[hO];refine bN ?_;refine aq (hc:=h1007 O.2) ?_;rw[hA];refine bN ?_;refine aq (hc:=h470 A.1 46 ae) ?_;rw[hL];refine aZ ?_;refine av (fun hc0=>?_) (fun hc0=>?_)
 .simp only[aK]at hc0;have hq1:eP s=if yo s O.1 (L.take (L.length-1)) A.2=true then some (gL O.1 (L.take (L.length-1)) A.2)else none:=by rw[hq0];simp only[DS,aw hc0]
  refine aB ?_;intro u0;refine aA ?_;refine oJ (L.length-1) (hj:=fun _=>ae) (hb:=fun _=>ae) ?_;refine aB ?_;refine aq (hc:=h1008 (L.take (L.length-1))) ?_;refine aA ?_;refine eZ (cq.D _) ?_;refine ax ?_;refine aI (cq.D (Bj (L.take (L.length-1)))) (he:=aQ) ?_;refine aZ ?_;refine av (fun hc1=>?_) (fun hc1=>?_)
  .simp only[bd]at hc1;refine ax ?_;refine bg (dI.D eQ) ?_;refine aB ?_;refine bG (aH ?_ (aj (D.int .i64) ?_));all_goals (have hk:yo s O.1 (L.take (L.length-1)) A.2=false:=(by simp only[yo,hc1];rfl);rw[hq1,hk];rfl)
  simp only[bM]at hc1;have hnr:Bj (L.take (L.length-1))=SA (L.take (L.length-1)):=by simp only[Bj,hc1,aW]
  rw[hnr];have hsm:(gL O.1 (L.take (L.length-1)) A.2).v.sm:=⟨by show A.2.length<=_;omega,by show([]:au).length<=_;simp⟩;refine aB ?_;refine aI (cq.D (gL O.1 (L.take (L.length-1)) A.2).v) (he:=aQ) ?_;refine aE ?_;intro u1;refine cA (d:=cq.D (gL O.1 (L.take (L.length-1)) A.2).v) ?_;refine bg (dI.D (gL O.1 (L.take (L.length-1)) A.2)) ?_;refine aA ?_;refine aI (dI.D (gL O.1 (L.take (L.length-1)) A.2)) (he:=aQ) ?_;refine ay ?_;refine cA (d:=dI.D (gL O.1 (L.take (L.length-1)) A.2)) ?_;refine aq (hc:=h482 (gL O.1 (L.take (L.length-1)) A.2) hsm) ?_;refine lX ?_;refine dk (hb:=fun _=>cZ) ?_;refine aB ?_;refine av (fun hc2=>?_) (fun hc2=>?_)
  .have hk:yo s O.1 (L.take (L.length-1)) A.2=false:=by simp only[yo,hc1,gH];exact aj (!·) hc2
   refine ax ?_;refine bg (dI.D eQ) ?_;refine aB ?_;refine bG (aH ?_ (aj (D.int .i64) ?_));all_goals (rw[hq1,hk];rfl)
  have hk:yo s O.1 (L.take (L.length-1)) A.2=true:=by simp only[yo,hc1,gH];exact aj (!·) hc2
  refine ax ?_;refine cA (d:=dI.D (gL O.1 (L.take (L.length-1)) A.2)) ?_;refine aB ?_;refine bG (aH ?_ (aj (D.int .i64) ?_));all_goals (rw[hq1,hk];rfl)
 simp only[bc]at hc0;have hq1:eP s=if yo s O.1 L A.2=true then some (gL O.1 L A.2)else none:=by rw[hq0];simp only[DS,ak hc0]
 refine ay ?_;refine aq (hc:=h1008 L) ?_;refine aA ?_;refine eZ (cq.D _) ?_;refine ax ?_;refine aI (cq.D (Bj L)) (he:=aQ) ?_;refine aZ ?_;refine av (fun hc1=>?_) (fun hc1=>?_)
 .simp only[bd]at hc1;refine ax ?_;refine bg (dI.D eQ) ?_;refine aB ?_;refine bG (aH ?_ (aj (D.int .i64) ?_));all_goals (have hk:yo s O.1 L A.2=false:=(by simp only[yo,hc1];rfl);rw[hq1,hk];rfl)
 simp only[bM]at hc1;have hnr:Bj L=SA L:=by simp only[Bj,hc1,aW]
 rw[hnr];have hsm:(gL O.1 L A.2).v.sm:=⟨by show A.2.length<=_;omega,by show([]:au).length<=_;simp⟩;refine aB ?_;refine aI (cq.D (gL O.1 L A.2).v) (he:=aQ) ?_;refine aE ?_;intro u1;refine cA (d:=cq.D (gL O.1 L A.2).v) ?_;refine bg (dI.D (gL O.1 L A.2)) ?_;refine aA ?_;refine aI (dI.D (gL O.1 L A.2)) (he:=aQ) ?_;refine ay ?_;refine cA (d:=dI.D (gL O.1 L A.2)) ?_;refine aq (hc:=h482 (gL O.1 L A.2) hsm) ?_;refine lX ?_;refine dk (hb:=fun _=>cZ) ?_;refine aB ?_;refine av (fun hc2=>?_) (fun hc2=>?_)
 .have hk:yo s O.1 L A.2=false:=by simp only[yo,hc1,gH];exact aj (!·) hc2
  refine ax ?_;refine bg (dI.D eQ) ?_;refine aB ?_;refine bG (aH ?_ (aj (D.int .i64) ?_));all_goals (rw[hq1,hk];rfl)
 have hk:yo s O.1 L A.2=true:=by simp only[yo,hc1,gH];exact aj (!·) hc2
 refine ax ?_;refine cA (d:=dI.D (gL O.1 L A.2)) ?_;refine aB ?_;refine bG (aH ?_ (aj (D.int .i64) ?_));all_goals (rw[hq1,hk];rfl)
noncomputable def FC:aC:=cR 153
def w554 {Y:Ctx}(hm:(Y.at 0).b8)(h734:Yf Y)(v:cq)  (hp0:qz v.major=true/\qz v.minor=true/\qz v.patch=true):di Y FC (.str (dJ v.major.toNat++[46]++dJ v.minor.toNat++[46]++dJ v.patch.toNat)) [cq.D v]:=by
 show bK _ _ _ [⟨_,_⟩,_,_,_] _;obtain⟨hq1,hq2,hq3⟩:=hp0;simp only[qz,bC,aK]at hq1 hq2 hq3;have hl1:=eK 4 v.major.toNat ae ae;have hl2:=eK 4 v.minor.toNat ae ae;have hl3:=eK 4 v.patch.toNat ae ae;refine ar ?_;refine aD ?_;refine aq (hc:=h734 _ ?_) ?_;rotate_left;first|assumption|omega
 refine dk (hb:=fun _=>cZ) ?_;refine ax ?_;refine aq (hc:=h734 _ ?_) ?_;rotate_left;first|assumption|omega
 refine dk (hb:=fun _=>cZ) ?_;refine aB ?_;refine dk (hb:=fun _=>cZ) ?_;refine ax ?_;refine aq (hc:=h734 _ ?_) ?_;rotate_left;first|assumption|omega
 refine dk (hb:=fun _=>cZ) ?_;refine ay ?_;exact dc rfl
noncomputable def Kr:aC:=cR 107
def w316 {Y:Ctx}(hm:(Y.at 0).b8)(h217:Ja Y)(h554:C554 Y)(v:cq)  (hp0:v.sm):di Y Kr (.str (kf v)) [cq.D v]:=by
 show bK _ _ _ [⟨_,_⟩,_,_,_,_,_,_] _;obtain⟨hs1,hs2⟩:=hp0;have hp0:v.sm:=⟨hs1,hs2⟩;refine ar ?_;refine aD ?_;refine aq (hc:=h217 _ ?_) ?_;rotate_left;first|assumption|omega
 refine ax ?_;refine av (fun hc0=>?_) (fun hc0=>?_)
 .simp only[bd]at hc0;refine aE ?_;refine dc ?_;simp[kf,hc0]
 simp only[bM]at hc0;refine ax ?_;have hv:=hc0;simp only[e8,bC]at hv;obtain⟨⟨⟨⟨hv1,hv2⟩,hv3⟩,_⟩,_⟩:=hv;have hq1:=hv1;have hq2:=hv2;have hq3:=hv3;simp only[qz,bC,aK]at hq1 hq2 hq3;have hl1:=eK 4 v.major.toNat ae ae;have hl2:=eK 4 v.minor.toNat ae ae;have hl3:=eK 4 v.patch.toNat ae ae;refine aA ?_;refine aq (hc:=h554 v ⟨hv1,hv2,hv3⟩) ?_;refine bN ?_;refine cG (fun hc1=>?_) fun hc1=>?_
 .refine ax ?_;refine dk (hb:=fun _=>cZ) ?_;refine ax ?_;refine dk (hb:=fun _=>cZ) ?_;refine bN ?_;refine cG (fun hc2=>?_) fun hc2=>?_
  .refine ax ?_;refine dk (hb:=fun _=>cZ) ?_;refine ax ?_;refine dk (hb:=fun _=>cZ) ?_;refine aZ ?_;refine dc ?_;simp[kf,sN,hc0,hc1,hc2]
  refine aD ?_;refine dc ?_;simp[kf,sN,hc0,hc1,hc2]
 refine aZ ?_;refine cG (fun hc2=>?_) fun hc2=>?_
 .refine ax ?_;refine dk (hb:=fun _=>cZ) ?_;refine ax ?_;refine dk (hb:=fun _=>cZ) ?_;refine aZ ?_;refine dc ?_;simp[kf,sN,hc0,hc1,hc2]
 refine aD ?_;refine dc ?_;simp[kf,sN,hc0,hc1,hc2]
noncomputable def P9:aC:=cR 146
def w464 {Y:Ctx}(hm:(Y.at 0).b8)  (h:Int)(n:Nat)  (hp0:n<=63):di Y P9 (.int .u64 (ZP h n)) [.int .u64 h,.int .u64 (n:Nat)]:=by
 show bK _ _ _ [⟨_,_⟩,⟨_,_⟩,_] _;refine ar ?_;refine aE ?_;refine HF (tW h n) (hb:=fun _=>by rw[show min (Int.toNat (n:Int)) (IntKind.bits .u64)=n by simp[IntKind.bits];omega];rfl) ?_;refine ax ?_;refine qM ((64-n:Nat):Int) (hb:=fun _=>by rw[IntKind.wrap_u64];omega) ?_;refine tV (sG h (64-n)) (hb:=fun _=>by rw[show min (Int.toNat ((64-n:Nat):Int)) (IntKind.bits .u64)=64-n by simp[IntKind.bits]];rfl) ?_;refine HE (ZP h n) (hb:=fun _=>rfl) ?_;refine ay ?_;refine bG (aj (D.int .u64) ?_);rfl
noncomputable def TH:aC:=cR 104
def w221 (h464:C464 Y)(s:au)   :di Y TH (.int .u64 (Iq s)) [.sl 1 ((s).map fun b=>D.int .u8 b.toNat)]:=by
 show bK _ _ _ [⟨_,_⟩,_,_,_,_] _;refine ar ?_;refine c7 ?_;refine ba hm (ι:=Nat) (fun i=>[⟨true,.sl 1 (s.map fun b=>D.int .u8 b.toNat)⟩,.un,⟨true,.int .i64 (i:Nat)⟩,.un,⟨true,.int .u64 (xM (s.take i))⟩]) (fun i=>[]) 3 (fun i=>i<=s.length) (fun i=>s.length-i) 0 ae (du []) ?_;intro i hi;refine aE ?_;intro u0;refine ax ?_;refine cG (fun hc0=>?_) fun hc0=>?_
 .refine aZ ?_;refine bE (v:=.int .u8 (at8 s i)) (hv:=fun _=>ld8 s i) ?_;refine lT (at8 s i) (hb:=fun _=>by have:=wz s i;rw[IntKind.wrap_u64];omega) ?_;refine Fp (Cl (xM (s.take i)) (at8 s i)) (hb:=fun _=>rfl) ?_;refine aq (hc:=h464 _ 13 ae) ?_;refine Ts (xM (s.take (i+1))) (hb:=fun _=>by rw[Ed s i ae];rfl) ?_;refine c7 ?_;exact⟨i+1,ae,ae,(du [])⟩
 refine ay ?_;have ht:s.take i=s:=ee ae;rw[ht];refine ax ?_;refine tV (sG (xM s) 29) (hb:=fun _=>rfl) ?_;refine Fp (Iq s) (hb:=fun _=>rfl) ?_;refine ay ?_;refine bG (aj (D.int .u64) ?_);rfl
noncomputable def P3:aC:=cR 132
def w678 {Y:Ctx}(hm:(Y.at 0).b8)  (op:Int)   :di Y P3 (.str (dQ op)) [.int .i64 op]:=by
 show bK _ _ _ [⟨_,_⟩,_,_,_,_,_,_,_,_,_,_] _;refine ar ?_;refine fK ?_;refine fO (fun hc0=>?_) fun hc0=>?_
 .refine aE ?_;refine dc ?_;unfold dQ;simp_all
 refine aB ?_;refine fO (fun hc1=>?_) fun hc1=>?_
 .refine aE ?_;refine dc ?_;unfold dQ;simp_all
 refine aB ?_;refine fO (fun hc2=>?_) fun hc2=>?_
 .refine aE ?_;refine dc ?_;unfold dQ;simp_all
 refine aB ?_;refine fO (fun hc3=>?_) fun hc3=>?_
 .refine aE ?_;refine dc ?_;unfold dQ;simp_all
 refine aB ?_;refine fO (fun hc4=>?_) fun hc4=>?_
 .refine aE ?_;refine dc ?_;unfold dQ;simp_all
 refine aB ?_;refine fO (fun hc5=>?_) fun hc5=>?_
 .refine aE ?_;refine dc ?_;unfold dQ;simp_all
 refine aB ?_;refine fO (fun hc6=>?_) fun hc6=>?_
 .refine aE ?_;refine dc ?_;unfold dQ;simp_all
 refine aB ?_;refine fO (fun hc7=>?_) fun hc7=>?_
 .refine aE ?_;refine dc ?_;unfold dQ;simp_all
 refine aD ?_;refine dc ?_;unfold dQ;simp_all
noncomputable def OA:aC:=cR 257
def w957 {Y:Ctx}(hm:(Y.at 0).b8)  (op:Int)   :di Y OA (.str (dQ op)) [.int .i64 op]:=by
 show bK _ _ _ [⟨_,_⟩,_,_,_,_,_,_,_,_,_,_] _;refine ar ?_;refine fK ?_;refine fO (fun hc0=>?_) fun hc0=>?_
 .refine aE ?_;refine dc ?_;unfold dQ;simp_all
 refine aB ?_;refine fO (fun hc1=>?_) fun hc1=>?_
 .refine aE ?_;refine dc ?_;unfold dQ;simp_all
 refine aB ?_;refine fO (fun hc2=>?_) fun hc2=>?_
 .refine aE ?_;refine dc ?_;unfold dQ;simp_all
 refine aB ?_;refine fO (fun hc3=>?_) fun hc3=>?_
 .refine aE ?_;refine dc ?_;unfold dQ;simp_all
 refine aB ?_;refine fO (fun hc4=>?_) fun hc4=>?_
 .refine aE ?_;refine dc ?_;unfold dQ;simp_all
 refine aB ?_;refine fO (fun hc5=>?_) fun hc5=>?_
 .refine aE ?_;refine dc ?_;unfold dQ;simp_all
 refine aB ?_;refine fO (fun hc6=>?_) fun hc6=>?_
 .refine aE ?_;refine dc ?_;unfold dQ;simp_all
 refine aB ?_;refine fO (fun hc7=>?_) fun hc7=>?_
 .refine aE ?_;refine dc ?_;unfold dQ;simp_all
 refine aD ?_;refine dc ?_;unfold dQ;simp_all
noncomputable def H7:aC:=cR 285
def w1079 {Y:Ctx}(hm:(Y.at 0).b8)  (s:au)(w:au)   :di Y H7 (.bool (uc s w)) [.str s,.str w]:=by
 show bK _ _ _ [⟨_,_⟩,⟨_,_⟩,_] _;refine ar ?_;refine aE ?_;intro u0;refine ax ?_;intro u1;refine aB ?_;refine iy ?_;refine lu w.length (hj:=fun _=>rfl) (hb:=fun h=>by simp at h;omega) ?_;refine aD ?_;refine bV ?_;unfold uc;rw[show decide ((w.length:Int)<=(s.length:Int))=decide (w.length<=s.length)from gY.2 ae]
noncomputable def GA:aC:=cR 256
def w956 {Y:Ctx}(hm:(Y.at 0).b8)  (s:au)(w:au)   :di Y GA (.bool (uc s w)) [.str s,.str w]:=by
 show bK _ _ _ [⟨_,_⟩,⟨_,_⟩,_] _;refine ar ?_;refine aE ?_;intro u0;refine ax ?_;intro u1;refine aB ?_;refine iy ?_;refine lu w.length (hj:=fun _=>rfl) (hb:=fun h=>by simp at h;omega) ?_;refine aD ?_;refine bV ?_;unfold uc;rw[show decide ((w.length:Int)<=(s.length:Int))=decide (w.length<=s.length)from gY.2 ae]
noncomputable def Kt:aC:=cR 226
def w741  (s:au)(b:Int)   :di Y Kt (.int .i64 ((aG s b).2.length:Nat)) [.str s,.int .u8 b]:=by
 show bK _ _ _ [⟨_,_⟩,⟨_,_⟩,_,_,_,_] _;refine ar ?_;refine aD ?_;refine ba hm (ι:=Nat) (fun i=>[⟨true,.str s⟩,⟨true,.int .u8 b⟩,.un,⟨true,.int .i64 (i:Nat)⟩,.un,.un]) (fun i=>[]) 2 (fun i=>i<=s.length/\aG s b=iz s b i) (fun i=>s.length-i) 0 ⟨ae,rfl⟩ (du []) ?_;rintro i ⟨hi,hr⟩;refine aE ?_;intro u0;refine ax ?_;refine cG (fun hc0=>?_) fun hc0=>?_
 .refine c7 ?_;refine fO (fun hc1=>?_) fun hc1=>?_
  .refine aZ ?_;refine cY ?_;rw[hr,Aw ae hc1];simp only[eu];omega
  refine bN ?_;exact⟨i+1,⟨ae,by rw[hr,Ax ae hc1]⟩,ae,(du [])⟩
 refine aE ?_;intro u1;refine ay ?_;refine cY ?_;rw[hr,xY ae]
noncomputable def Ku:aC:=cR 227
def w742 {Y:Ctx}(hm:(Y.at 0).b8)(h667:QP Y)(l:List au)   :di Y Ku (.tup [cq.D (ec l).1,.bool (ec l).2]) [.sl 1 (l.map D.str)]:=by
 show bK _ _ _ [⟨_,_⟩,_,_,_,_,_,_,_,_,_,_] _;refine ar ?_;refine fU ?_;intro u0;refine ax ?_;refine cG (fun hc0=>?_) fun hc0=>?_
 .refine ax ?_;refine aT (v:=cq.D gz) ?_;refine aI (cq.D gz) (he:=aQ) ?_;refine ay ?_;refine bG (aH ?_ (aj D.bool ?_));all_goals (rw[ec,ak ae];first|done|rfl)
 refine ay ?_;refine bI 0 (hb:=fun _=>ae) ?_;refine bE (v:=.str l[0]!) (hi:=fun _=>ae) ?_;refine aq (hc:=h667 l[0]!) ?_;refine bN ?_;refine bI 1 (hb:=fun _=>ae) ?_;refine bE (v:=.str l[1]!) (hi:=fun _=>ae) ?_;refine aq (hc:=h667 l[1]!) ?_;refine bN ?_;refine bI 2 (hb:=fun _=>ae) ?_;refine bE (v:=.str l[2]!) (hi:=fun _=>ae) ?_;refine aq (hc:=h667 l[2]!) ?_;refine fU ?_;refine bg (cq.D ⟨eg l[0]!,eg l[1]!,eg l[2]!,[],[]⟩) ?_;refine aZ ?_;refine aI (cq.D ⟨eg l[0]!,eg l[1]!,eg l[2]!,[],[]⟩) (he:=aQ) ?_;refine ay ?_;refine bG (aH ?_ (aj D.bool ?_));all_goals (rw[ec,aw ae];first|done|rfl)
end Go.Abs
