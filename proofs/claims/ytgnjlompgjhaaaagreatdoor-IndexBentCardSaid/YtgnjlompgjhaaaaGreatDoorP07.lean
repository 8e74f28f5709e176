/- A part of the proofs. -/
import Derived.Test.YtgnjlompgjhaaaaGreatDoorP06
set_option linter.all false
set_option maxRecDepth 60000
namespace Go.Abs
variable {Y:Ctx}(hm:(Y.at 0).b7)
noncomputable def Jg:aC:=cP 137
def w349  (s:au)   :dh Y Jg (.bool (cV s)) [.str s]:=by
 show bJ _ _ _ [⟨_,_⟩,_,_,_,_,_,_,_] _;refine ar ?_;refine bL ?_;refine ik ?_;refine ay ?_;refine cF (fun hc0=>?_) fun hc0=>?_
 .refine aE ?_;refine bU ?_;symm;simp only[cV,dy,bc];rcases hc0 with h|h
  .subst h;exact Or.inl (Or.inl aJ)
  .exact Or.inl ae
 refine aD ?_;have hP:cV s=cQ (fun i=>y0 (at8 s i)) 0 s.length:=by
  have:=List.length_pos_iff.2 hc0.1;simp only[cV];rw[b9 ae,b9 ae];rfl
 refine ba hm (ι:=Nat) (fun i=>[⟨true,.str s⟩,.un,.un,⟨true,.it 9⟩,.un,.un,.un,.un]) (fun i=>[(9,.iter s i)]) 10 (fun i=>i<=s.length/\cV s=cQ (fun i=>y0 (at8 s i)) i s.length) (fun i=>s.length-i) 0 ⟨ae,hP⟩ (dr [(9,9)]) ?_;rintro i ⟨hi,hr⟩;refine aA ?_;by_cases hnx:i<s.length
 .obtain⟨c,w,hdec,hw,hcw⟩:=uY s i hnx;refine E1 c w (hp:=hnx) (hc:=hdec) ?_;refine ax ?_;refine av (t:=true) (fun _=>?_) (fun h=>by cases h);refine BY ?_;refine cF (fun hc2=>?_) fun hc2=>?_
  .refine aA ?_;refine fM (fun hc4=>?_) fun hc4=>?_
   .refine aB ?_;obtain⟨rfl,hat,-⟩:w=1/\(c:Int)=at8 s i/\c<128:=by
     rcases hcw with h|h
     .exact h
     .omega
    have hz:y0 (at8 s i)=true:=by
     simp only[y0,iy,bn,cM,bB,aK];omega
    exact⟨i+1,⟨ae,by rw[hr,aU hnx,hz];rfl⟩,ae,(dr [(9,9)])⟩
   refine aZ ?_;refine bU ?_;first
    |(exfalso;omega)
    |(rw[hr,cj ae];done)
    |(
     have hz:y0 (at8 s i)=false:=by
      rcases hcw with⟨_,h,_⟩|⟨_,h⟩<;>(simp only[y0,iy,bn,dd,dy,bc];omega)
     rw[hr,aU hnx,hz];rfl)
  refine fS ?_;refine cF (fun hc3=>?_) fun hc3=>?_
  .refine aA ?_;refine fM (fun hc4=>?_) fun hc4=>?_
   .refine aB ?_;obtain⟨rfl,hat,-⟩:w=1/\(c:Int)=at8 s i/\c<128:=by
     rcases hcw with h|h
     .exact h
     .omega
    have hz:y0 (at8 s i)=true:=by
     simp only[y0,iy,bn,cM,bB,aK];omega
    exact⟨i+1,⟨ae,by rw[hr,aU hnx,hz];rfl⟩,ae,(dr [(9,9)])⟩
   refine aZ ?_;refine bU ?_;first
    |(exfalso;omega)
    |(rw[hr,cj ae];done)
    |(
     have hz:y0 (at8 s i)=false:=by
      rcases hcw with⟨_,h,_⟩|⟨_,h⟩<;>(simp only[y0,iy,bn,dd,dy,bc];omega)
     rw[hr,aU hnx,hz];rfl)
  refine aE ?_;refine fM (fun hc4=>?_) fun hc4=>?_
  .refine aB ?_;obtain⟨rfl,hat,-⟩:w=1/\(c:Int)=at8 s i/\c<128:=by
    rcases hcw with h|h
    .exact h
    .omega
   have hz:y0 (at8 s i)=true:=by
    simp only[y0,iy,bn,cM,bB,aK];omega
   exact⟨i+1,⟨ae,by rw[hr,aU hnx,hz];rfl⟩,ae,(dr [(9,9)])⟩
  refine aZ ?_;refine bU ?_;first
   |(exfalso;omega)
   |(rw[hr,cj ae];done)
   |(
    have hz:y0 (at8 s i)=false:=by
     rcases hcw with⟨_,h,_⟩|⟨_,h⟩<;>(simp only[y0,iy,bn,dd,dy,bc];omega)
    rw[hr,aU hnx,hz];rfl)
 .refine E0 (hp:=hnx) ?_;refine ax ?_;refine av (t:=false) (fun h=>by cases h) (fun _=>?_);refine aD ?_;refine bU ?_;first
   |(exfalso;omega)
   |(rw[hr,cj ae];done)
   |(
    have hz:y0 (at8 s i)=false:=by
     rcases hcw with⟨_,h,_⟩|⟨_,h⟩<;>(simp only[y0,iy,bn,dd,dy,bc];omega)
    rw[hr,aU hnx,hz];rfl)
def zi (T:List D->D->Prop):Prop:=∀(s:au),T [.str s] (.bool (cV s))
def II (Y:Ctx):Prop:=zi (bx Y 349)
noncomputable def Jf:aC:=cP 31
def w208  (s:au)   :dh Y Jf (.bool (dK s)) [.str s]:=by
 show bJ _ _ _ [⟨_,_⟩,_,_,_,_,_,_,_,_,_,_,_,_] _;refine ar ?_;refine bL ?_;refine ik ?_;refine ay ?_;refine cF (fun hc0=>?_) fun hc0=>?_
 .refine aE ?_;refine bU ?_;symm;simp only[dK];rcases hc0 with h|h
  .subst h;simp
  .rw[cG (by omega:¬s.length<=16)];simp
 refine aD ?_;have h0:=List.length_pos_iff.2 hc0.1;have hP:=Vj s ae ae;refine ba hm (ι:=Nat) (fun i=>[⟨true,.str s⟩,.un,.un,⟨true,.it 9⟩,.un,.un,.un,.un,.un,.un,.un,.un,.un]) (fun i=>[(9,.iter s i)]) 10 (fun i=>i<=s.length/\dK s=cQ (pr s) i s.length) (fun i=>s.length-i) 0 ⟨ae,hP⟩ (dr [(9,9)]) ?_;rintro i ⟨hi,hr⟩;refine aA ?_;by_cases hnx:i<s.length
 .obtain⟨c,w,hdec,hw,hcw⟩:=uY s i hnx;refine E1 c w (hp:=hnx) (hc:=hdec) ?_;refine ax ?_;refine av (t:=true) (fun _=>?_) (fun h=>by cases h);refine WV ?_;refine fM (fun hc2=>?_) fun hc2=>?_
  .refine aB ?_;obtain⟨rfl,hat,-⟩:w=1/\(c:Int)=at8 s i/\c<128:=by
    rcases hcw with h|h
    .exact h
    .omega
   have hz:pr s i=true:=by
    simp only[pr,iy,bn,cM,bB,bd,aK,bc];omega
   exact⟨i+1,⟨ae,by rw[hr,aU hnx,hz];rfl⟩,ae,(dr [(9,9)])⟩
  refine cZ ?_;refine fM (fun hc3=>?_) fun hc3=>?_
  .refine aB ?_;refine fM (fun hc4=>?_) fun hc4=>?_
   .refine aZ ?_;refine bU ?_;first
     |(exfalso;omega)
     |(rw[hr,cj ae];done)
     |(have hz:pr s i=false:=by
        rcases hcw with⟨_,h,_⟩|⟨_,h⟩<;>(simp only[pr,iy,bn,dd,dy,bK,aK,bc];omega)
       rw[hr,aU hnx,hz];rfl)
   refine aB ?_;obtain⟨rfl,hat,-⟩:w=1/\(c:Int)=at8 s i/\c<128:=by
    rcases hcw with h|h
    .exact h
    .omega
   have hz:pr s i=true:=by
    simp only[pr,iy,bn,cM,bB,bd,aK,bc];omega
   exact⟨i+1,⟨ae,by rw[hr,aU hnx,hz];rfl⟩,ae,(dr [(9,9)])⟩
  refine aE ?_;refine fM (fun hc5=>?_) fun hc5=>?_
  .refine aD ?_;refine ik ?_;refine aZ ?_;refine pU (i-1) ?_;refine ay ?_;refine fM (fun hc6=>?_) fun hc6=>?_
   .refine aZ ?_;refine bU ?_;first
     |(exfalso;omega)
     |(rw[hr,cj ae];done)
     |(have hz:pr s i=false:=by
        rcases hcw with⟨_,h,_⟩|⟨_,h⟩<;>(simp only[pr,iy,bn,dd,dy,bK,aK,bc];omega)
       rw[hr,aU hnx,hz];rfl)
   refine aB ?_;obtain⟨rfl,hat,-⟩:w=1/\(c:Int)=at8 s i/\c<128:=by
    rcases hcw with h|h
    .exact h
    .omega
   have hz:pr s i=true:=by
    simp only[pr,iy,bn,cM,bB,bd,aK,bc];omega
   exact⟨i+1,⟨ae,by rw[hr,aU hnx,hz];rfl⟩,ae,(dr [(9,9)])⟩
  refine aZ ?_;refine bU ?_;first
   |(exfalso;omega)
   |(rw[hr,cj ae];done)
   |(have hz:pr s i=false:=by
      rcases hcw with⟨_,h,_⟩|⟨_,h⟩<;>(simp only[pr,iy,bn,dd,dy,bK,aK,bc];omega)
     rw[hr,aU hnx,hz];rfl)
 .refine E0 (hp:=hnx) ?_;refine ax ?_;refine av (t:=false) (fun h=>by cases h) (fun _=>?_);refine aD ?_;refine bU ?_;first
   |(exfalso;omega)
   |(rw[hr,cj ae];done)
   |(have hz:pr s i=false:=by
      rcases hcw with⟨_,h,_⟩|⟨_,h⟩<;>(simp only[pr,iy,bn,dd,dy,bK,aK,bc];omega)
     rw[hr,aU hnx,hz];rfl)
def za (T:List D->D->Prop):Prop:=∀(s:au),T [.str s] (.bool (dK s))
def ND (Y:Ctx):Prop:=za (bx Y 208)
noncomputable def EF:aC:=cP 162
def w658  (s:au)   :dh Y EF (.tup [.int .i64 (ef s),.bool (fU s)]) [.str s]:=by
 show bJ _ _ _ [⟨_,_⟩,_,_,_,_,_,_,_,_,_] _;refine ar ?_;refine cZ ?_;refine ik ?_;refine aB ?_;refine pU 0 (hb:=fun h=>by simp at h;exact List.length_pos_iff.2 h.1) ?_;refine ay ?_;refine ik ?_;refine aB ?_;refine cF (fun hc0=>?_) fun hc0=>?_
 .refine aD ?_;refine bF (aH (aj (D.int .i64) ?_) (aj D.bool ?_));all_goals
   have:fU s=false:=by
    rw[EN];rcases hc0 with(h|h)|h
    .subst h;simp
    .rw[cG (by omega:¬s.length<=4)];simp
    .rw[b9 (by omega:1<s.length),b9 h.1];simp
   simp[ef,this]
 refine cZ ?_;have h0:=List.length_pos_iff.2 hc0.1.1;have hP:fU s=cQ (fun i=>bn (at8 s i)) 0 s.length:=by
  rw[EN,b9 (by omega:1<=s.length),b9 (by omega:s.length<=4)];rcases hc0.2 with h|h
  .rw[cG h,Bool.and_false];rfl
  .rw[cG (by omega:¬1<s.length)];rfl
 refine ba hm (ι:=Nat) (fun i=>[⟨true,.str s⟩,.un,.un,.un,⟨true,.it 21⟩,.un,.un,.un,.un,⟨true,.int .i64 (dL (s.take i):Nat)⟩]) (fun i=>[(21,.iter s i)]) 22 (fun i=>i<=s.length/\s.length<=4/\fU s=cQ (fun i=>bn (at8 s i)) i s.length) (fun i=>s.length-i) 0 ⟨ae,ae,hP⟩ (dr [(21,21)]) ?_;rintro i ⟨hi,h9,hr⟩;refine aA ?_;by_cases hnx:i<s.length
 .obtain⟨c,w,hdec,hw,hcw⟩:=uY s i hnx;refine E1 c w (hp:=hnx) (hc:=hdec) ?_;refine ax ?_;refine av (t:=true) (fun _=>?_) (fun h=>by cases h);refine BX ?_;refine fM (fun hc2=>?_) fun hc2=>?_
  .refine aA ?_;obtain⟨rfl,hat,-⟩:w=1/\(c:Int)=at8 s i/\c<128:=by
    rcases hcw with h|h
    .exact h
    .omega
   have hn:=vz s i ae;have hn2:=xN s i ae;have h256:=vT s i;refine aA ?_;refine nG ?_;refine aA ?_;refine qy ((c:Int) -48) (hb:=fun _=>IntWalk.i32_in _ ae) ?_;refine lJ ((c:Int) -48) (hb:=fun _=>IntWalk.i64_in _ ae) ?_;refine ay ?_;rw[show 10*(dL (s.take i):Int)+((c:Int) -48)=(dL (s.take (i+1)):Nat)by omega];refine ay ?_;have hz:bn (at8 s i)=true:=by
    simp only[bn,bB,aK];omega
   exact⟨i+1,⟨ae,h9,by rw[hr,aU ae,hz];rfl⟩,ae,(dr [(21,21)])⟩
  refine bL ?_;refine bF (aH (aj (D.int .i64) ?_) (aj D.bool ?_));all_goals
   have hz:bn (at8 s i)=false:=by
    rcases hcw with⟨_,h,_⟩|⟨_,h⟩<;>(simp only[bn,dy,bc];omega)
   have:fU s=false:=by rw[hr,aU ae,hz];rfl
   simp[ef,this]
 .refine E0 (hp:=hnx) ?_;refine ax ?_;refine av (t:=false) (fun h=>by cases h) (fun _=>?_);refine fS ?_;refine bF (aH (aj (D.int .i64) ?_) (aj D.bool ?_));all_goals
   have this:fU s=true:=by rw[hr,cj ae]
   have ht:s.take i=s:=ed ae;have h9:=this;simp only[fU,bB,aK]at h9;have h99:=h9.2;rw[ht];first
   |(simp only[ef,this];rfl)
   |(rw[this,aK];omega)
def zB (T:List D->D->Prop):Prop:=∀(s:au),T [.str s] (.tup [.int .i64 (ef s),.bool (fU s)])
def Qm (Y:Ctx):Prop:=zB (bx Y 658)
noncomputable def Ek:aC:=cP 58
def w686 {Y:Ctx}(hm:(Y.at 0).b7)  (k:Nat)  (hp0:k<16):dh Y Ek (.int .u8 ((tf k).toNat:Nat)) [.int .u8 (k:Nat)]:=by
 show bJ _ _ _ [⟨_,_⟩,_,_] _;refine ar ?_;refine aE ?_;first|refine SZ ?_|refine S0 ?_
 refine aA ?_;refine cF (fun hc0=>?_) fun hc0=>?_
 .refine ay ?_;refine Be (48+(k:Int)) (hb:=fun _=>IntWalk.u8_in _ ae) ?_;refine ay ?_;refine bF (aj (D.int .u8) ?_);exact(U1 k ae).symm
 refine ay ?_;refine Be (97+(k:Int)) (hb:=fun _=>IntWalk.u8_in _ ae) ?_;refine qy (87+(k:Int)) (hb:=fun _=>by rw[show 97+(k:Int) -10=87+k by omega];exact IntWalk.u8_in _ ae) ?_;refine ay ?_;refine bF (aj (D.int .u8) ?_);exact(U0 k ae hp0).symm
def Ng (T:List D->D->Prop):Prop:=∀(k:Nat),(k<16)->T [.int .u8 (k:Nat)] (.int .u8 ((tf k).toNat:Nat))
def C686 (Y:Ctx):Prop:=Ng (bx Y 686)
noncomputable def Gc:aC:=cP 23
def w497 (h686:C686 Y)(n:Int)   :dh Y Gc (.str (fO n)) [.int .u64 n]:=by
 show bJ _ _ _ [⟨_,_⟩,_,_,_,_,_,_] _;refine ar ?_;refine ay ?_;refine WQ _ ?_;refine aD ?_;intro u0;refine ax ?_;refine ba hm (ι:=Nat) (fun i=>[⟨true,.int .u64 n⟩,.un,⟨true,.own 1 1 0 16⟩,⟨true,.int .i64 (i:Nat)⟩,⟨true,.int .i64 (16:Nat)⟩,.un,.un]) (fun i=>[(1,.buf 1 ((vG n i).map fun b=>D.int .u8 b.toNat))]) 6 (fun i=>i<=16) (fun i=>16-i) 0 ae (dr [(1,1)]) ?_;intro i hi;have hlen:=s8 n i;refine ay ?_;refine cF (fun hc0=>?_) fun hc0=>?_
 .refine gu ?_;refine nG ?_;refine tu (si n (4*i)) (hb:=fun _=>by rw[show min (Int.toNat (4*(i:Int))) (IntKind.bits .u64)=4*i by simp[IntKind.bits];omega];rfl) ?_;refine um ((Lu n i:Nat):Int) (hb:=fun _=>GZ n i) ?_;have hnib:=wP n i;refine lJ ((Lu n i:Nat):Int) (hb:=fun _=>IntWalk.u8_in _ ae) ?_;refine aq (hc:=h686 (Lu n i) hnib) ?_;refine ie (15-i) ?_;refine r5 ((vG n (i+1)).map fun b=>D.int .u8 b.toNat) (hi:=cY) (he:=by rw[P1 n i ae,getD_map ae];simp[vD,D.isAgg]) ?_;refine aZ ?_;exact⟨i+1,ae,ae,(dr [(1,1)])⟩
 refine ay ?_;have h16:i=16:=ae;subst h16;refine aA ?_;refine Hd (fO n) (he:=fun _=>sA.all ah (by simp[s8])) (hs:=fun _=>by rw[P0]) ?_;refine ay ?_;exact c9 rfl
def zr (T:List D->D->Prop):Prop:=∀(n:Int),T [.int .u64 n] (.str (fO n))
def C497 (Y:Ctx):Prop:=zr (bx Y 497)
noncomputable def GA:aC:=cP 122
def w533  (s:au)(b:Int)  (hp0:s.length<=1048576):dh Y GA (.sl 1 ((ai s b).map D.str)) [.str s,.int .u8 b]:=by
 show bJ _ _ _ [⟨_,_⟩,⟨_,_⟩,_,_,_,_,_,_,_,_] _;refine ar ?_;refine gu ?_;intro u0;refine ax ?_;refine ba hm (ι:=(Nat×Nat×List au)) (fun p:Nat×Nat×List au=>[⟨true,.str s⟩,⟨true,.int .u8 b⟩,.un,⟨true,.int .i64 (p.1:Nat)⟩,⟨true,.int .i64 (s.length:Nat)⟩,.un,.un,.un,⟨true,.own 0 1 0 p.2.2.length⟩,⟨true,.int .i64 (p.2.1:Nat)⟩]) (fun p=>[(0,.buf 1 (p.2.2.map D.str))]) 6 (fun p=>p.1<=s.length/\p.2.1<=p.1/\p.2.2.length<=p.1/\ai s b=p.2.2++cD b (s.drop p.1) ((s.take p.1).drop p.2.1)) (fun p=>s.length-p.1) (0,0,[]) ⟨aJ,aJ,aJ,rfl⟩ (a7.to [] ah ah (by repeat(first|exact dp.nil|refine dp.un ?_|refine dp.eq ah ?_|refine dp.nl ah ah ?_|refine dp.ni (Or.inr ⟨0,1,0,rfl⟩) ?_)) (by repeat(first|exact bo.nil|refine bo.mt ah ah ah ah ?_))) ?_;rintro⟨i,fr,acc⟩ ⟨hi,hf,ha,hr⟩;dsimp only at hi hf ha hr⊢;refine ay ?_;refine cF (fun hc0=>?_) fun hc0=>?_
 .refine lN ?_;refine wp_cond (fun hc1=>?_) (fun hc1=>?_)
  .try simp only[dn]at hc1
   refine aE ?_;refine Bh _ _ ?_;refine df [(.str _)] ?_;refine sy ?_;exact⟨(i+1,i+1,acc++[(s.take i).drop fr]),⟨dE,dE,cY,by rw[hr,DG ae hc1];simp⟩,dE,(a7.to [(20,0)] ah ah lF (by refine bo.nl 20 ah ah ah eK ?_;exact bo.nil))⟩
  simp only[bc]at hc1;refine aZ ?_;exact⟨(i+1,fr,acc),⟨dE,dE,dE,by rw[hr,DH ae ae hc1]⟩,dE,(a7.to [(0,0)] ah ah lF (by refine bo.nl 0 ah ah ah eK ?_;exact bo.nil))⟩
 refine aD ?_;refine fu _ ?_;refine df [(.str _)] ?_;refine ay ?_;refine eH 12 ?_;refine aA ?_;refine bF (?_);have hs:ai s b=acc++[s.drop fr]:=by rw[hr,BE ae]
 rw[hs];exact rfl
def zy (T:List D->D->Prop):Prop:=∀(s:au) (b:Int),(s.length<=1048576)->T [.str s,.int .u8 b] (.sl 1 ((ai s b).map D.str))
def NH (Y:Ctx):Prop:=zy (bx Y 533)
noncomputable def yw:aC:=cP 165
def w659  (t:au)   :dh Y yw (.bool (dc t)) [.str t]:=by
 show bJ _ _ _ [⟨_,_⟩,_,_,_,_,_,_] _;refine ar ?_;refine aD ?_;intro u0;refine ax ?_;refine ba hm (ι:=Nat) (fun i=>[⟨true,.str t⟩,.un,⟨true,.int .i64 (i:Nat)⟩,⟨true,.int .i64 (t.length:Nat)⟩,.un,.un,.un]) (fun i=>[]) 4 (fun i=>i<=t.length/\cQ (fun i=>bn (at8 t i)) 0 t.length=cQ (fun i=>bn (at8 t i)) i t.length) (fun i=>t.length-i) 0 ⟨ae,rfl⟩ (dr []) ?_;rintro i ⟨hi,hr⟩;refine ay ?_;refine cF (fun hc0=>?_) fun hc0=>?_
 .refine WV ?_;refine fM (fun hc1=>?_) fun hc1=>?_
  .refine aD ?_;refine bU ?_;simp only[dc];rw[hr,aU ae];rcases hc1 with h|h<;>simp[bn]<;>omega
  refine aZ ?_;exact⟨i+1,⟨ae,by rw[hr,aU ae];rw[show bn (at8 t i)=true by simp only[bn,bB,aK];omega];rfl⟩,ae,(dr [])⟩
 refine bL ?_;refine bU ?_;simp only[dc];rw[hr,cj ae];cases t<;>simp
def zC (T:List D->D->Prop):Prop:=∀(t:au),T [.str t] (.bool (dc t))
def Xv (Y:Ctx):Prop:=zC (bx Y 659)
noncomputable def Fx:aC:=cP 133
def w440 {Y:Ctx}(hm:(Y.at 0).b7)  (n:Int)   :dh Y Fx (.bool (qi n)) [.int .i64 n]:=by
 show bJ _ _ _ [⟨_,_⟩,_] _;refine ar ?_;refine gu ?_;exact bU rfl
def zk (T:List D->D->Prop):Prop:=∀(n:Int),T [.int .i64 n] (.bool (qi n))
def C440 (Y:Ctx):Prop:=zk (bx Y 440)
noncomputable def BN:aC:=cP 161
def w675  (s:au)(b:Int)   :dh Y BN (.tup [.str (aG s b).1,.str (aG s b).2]) [.str s,.int .u8 b]:=by
 show bJ _ _ _ [⟨_,_⟩,⟨_,_⟩,_,_,_,_,_,_,_] _;refine ar ?_;refine aZ ?_;intro u0;refine ax ?_;refine ba hm (ι:=Nat) (fun i=>[⟨true,.str s⟩,⟨true,.int .u8 b⟩,.un,.un,⟨true,.int .i64 (i:Nat)⟩,⟨true,.int .i64 (s.length:Nat)⟩,.un,.un,.un]) (fun i=>[]) 5 (fun i=>i<=s.length/\aG s b=il s b i) (fun i=>s.length-i) 0 ⟨ae,rfl⟩ (dr []) ?_;rintro i ⟨hi,hr⟩;refine ay ?_;refine cF (fun hc0=>?_) fun hc0=>?_
 .refine lN ?_;refine fM (fun hc1=>?_) fun hc1=>?_
  .refine aB ?_;refine fu (i+1) ?_;refine ax ?_;refine kX _ ?_;refine aD ?_;refine bF (aH (aj D.str ?_) (aj D.str ?_));all_goals rw[hr,z8 ae hc1]
  refine aZ ?_;exact⟨i+1,⟨ae,by rw[hr,Aa ae hc1]⟩,ae,(dr [])⟩
 refine bL ?_;refine bF (aH (aj D.str ?_) (aj D.str ?_));all_goals rw[hr,xu ae]
def Na (T:List D->D->Prop):Prop:=∀(s:au) (b:Int),T [.str s,.int .u8 b] (.tup [.str (aG s b).1,.str (aG s b).2])
def C675 (Y:Ctx):Prop:=Na (bx Y 675)
noncomputable def Fy:aC:=cP 135
def w442 (h533:NH Y)(s:au)  (hp0:s.length<=1048576):dh Y Fy (.bool (oV s false)) [.str s]:=by
 show bJ _ _ _ [⟨_,_⟩,_,_,_,_,_,_,_,_,_,_,_,_,_,_] _;refine ar ?_;refine aB ?_;refine aq (hc:=h533 _ _ ?_) ?_;rotate_left;first|assumption|omega;have hlen:=dk s 46
 refine aE ?_;intro u0;refine bL ?_;intro u1;refine ax ?_;refine ba hm (ι:=Nat) (fun i=>[.un,.un,⟨true,.sl 1 ((ai s 46).map D.str)⟩,⟨true,.int .i64 (i:Nat)⟩,⟨true,.int .i64 ((ai s 46).length:Nat)⟩,.un,⟨true,.sl 1 ((ai s 46).map D.str)⟩,.un,.un,.un,.un,.un,.un,.un,⟨true,.bool (decide (((ai s 46).length:Int)<=4))⟩]) (fun i=>[]) 11 (fun i=>i<=(ai s 46).length/\oV s false=(decide ((ai s 46).length<=4)&&cQ (fun i=>iL false (ai s 46)[i]!) i (ai s 46).length)) (fun i=>(ai s 46).length-i) 0 ⟨ae,rfl⟩ (dr []) ?_;rintro i ⟨hi,hr⟩;refine ay ?_;refine cF (fun hc0=>?_) fun hc0=>?_
 .refine cZ ?_;generalize ht:(ai s 46)[i]! =t;refine aB ?_;refine ik ?_;refine ay ?_;refine cF (fun hc1=>?_) fun hc1=>?_
  .refine gu ?_;refine bU ?_;first
    |(rw[hr,cj ae,nb];exact gO.2 ae)
    |(have hb:sn t=false:=by
       first
       |(simp only[sn];rcases hc1 with h|h
         .subst h;simp
         .rw[cG (by omega:¬t.length<=8)];simp)
       |(have hz:nH (at8 t j)=false:=by
          rcases hcw with⟨_,h,_⟩|⟨_,h⟩<;>(simp only[nH,iy,bn,dd,dy,bc];omega)
         rw[hj,aU hnx,hz];rfl)
      rw[hr,aU ae,show iL false (ai s 46)[i]! =false from(by simp only[iL,ht,hb,Bool.false_and])];simp)
  refine aE ?_;have hT:sn t=cQ (fun i=>nH (at8 t i)) 0 t.length:=by
   have:=List.length_pos_iff.2 hc1.1;simp only[sn];rw[b9 ae,b9 ae];rfl
  refine qG hm (ι:=Nat) (fun j=>[.un,.un,⟨true,.sl 1 ((ai s 46).map D.str)⟩,⟨true,.int .i64 (i:Nat)⟩,⟨true,.int .i64 ((ai s 46).length:Nat)⟩,.un,⟨true,.sl 1 ((ai s 46).map D.str)⟩,.un,.un,⟨true,.it 23⟩,.un,.un,.un,.un,⟨true,.bool (decide (((ai s 46).length:Int)<=4))⟩]) (fun j=>[(23,.iter t j)]) 24 (fun j=>j<=t.length/\sn t=cQ (fun i=>nH (at8 t i)) j t.length) (fun j=>t.length-j) 0 ⟨ae,hT⟩ (dr [(23,23)]) ?_;rintro j ⟨hj0,hj⟩;refine aA ?_;by_cases hnx:j<t.length
  .obtain⟨c,w,hdec,hw,hcw⟩:=uY t j hnx;refine E1 c w (hp:=hnx) (hc:=hdec) ?_;refine ax ?_;refine av (t:=true) (fun _=>?_) (fun h=>by cases h);refine zzz26 ?_;refine fM (fun hc3=>?_) fun hc3=>?_
   .refine lN ?_;refine bU ?_;first
     |(rw[hr,cj ae,nb];exact gO.2 ae)
     |(have hb:sn t=false:=by
        first
        |(simp only[sn];rcases hc1 with h|h
          .subst h;simp
          .rw[cG (by omega:¬t.length<=8)];simp)
        |(have hz:nH (at8 t j)=false:=by
           rcases hcw with⟨_,h,_⟩|⟨_,h⟩<;>(simp only[nH,iy,bn,dd,dy,bc];omega)
          rw[hj,aU hnx,hz];rfl)
       rw[hr,aU ae,show iL false (ai s 46)[i]! =false from(by simp only[iL,ht,hb,Bool.false_and])];simp)
   refine ay ?_;obtain⟨rfl,hat,-⟩:w=1/\(c:Int)=at8 t j/\c<128:=by
    rcases hcw with h|h
    .exact h
    .omega
   have hz:nH (at8 t j)=true:=by
    simp only[nH,iy,bn,cM,bB,aK];omega
   exact⟨j+1,⟨ae,by rw[hj,aU hnx,hz];rfl⟩,ae,(dr [(23,23)])⟩
  .refine E0 (hp:=hnx) ?_;refine ax ?_;refine av (t:=false) (fun h=>by cases h) (fun _=>?_);refine bL ?_;exact⟨i+1,⟨ae,by rw[hr,aU ae];rw[show iL false (ai s 46)[i]! =true from(by simp only[iL,Bool.false_and,Bool.not_false,nb];rw[ht,hj,cj ae])];rfl⟩,ae,(dr [])⟩
 refine aZ ?_;refine bU ?_;first
  |(rw[hr,cj ae,nb];exact gO.2 ae)
  |(have hb:sn t=false:=by
     first
     |(simp only[sn];rcases hc1 with h|h
       .subst h;simp
       .rw[cG (by omega:¬t.length<=8)];simp)
     |(have hz:nH (at8 t j)=false:=by
        rcases hcw with⟨_,h,_⟩|⟨_,h⟩<;>(simp only[nH,iy,bn,dd,dy,bc];omega)
       rw[hj,aU hnx,hz];rfl)
    rw[hr,aU ae,show iL false (ai s 46)[i]! =false from(by simp only[iL,ht,hb,Bool.false_and])];simp)
def MG (T:List D->D->Prop):Prop:=∀(s:au),(s.length<=1048576)->T [.str s] (.bool (oV s false))
def Xd (Y:Ctx):Prop:=MG (bx Y 442)
def ta (T:List D->D->Prop):Prop:=∀(n:Int),(0<=n/\n<=9999)->T [.int .i64 n] (.str (dI n.toNat))
def C336 (Y:Ctx):Prop:=ta (bx Y 336)
def Mo (T:List D->D->Prop):Prop:=∀(l:List au) (sep:au),(l.length<=1048600)->(sep.length<=4)->(∀t∈l,t.length<=2097200)->T [.sl 1 (l.map D.str),.str sep] (.str (aS sep l))
def Ql (Y:Ctx):Prop:=Mo (bx Y 242)
def Ma (T:List D->D->Prop):Prop:=∀(s:au) (b:UInt8),(s.length<=1048576)->T [.str s,.str [b]] (.sl 1 ((ai s b.toNat).map D.str))
def NC (Y:Ctx):Prop:=Ma (bx Y 124)
def MZ (T:List D->D->Prop):Prop:=∀(s:au) (b:UInt8),(s.length<=1048576)->T [.str s,.str [b]] (.tup [.str (iu s b).1,.str (iu s b).2.1,.bool (iu s b).2.2])
def Xp (Y:Ctx):Prop:=MZ (bx Y 487)
def Mv (T:List D->D->Prop):Prop:=∀(s:au) (p:au),(s.length<=1048576)->(p.length<=1048576)->T [.str s,.str p] (.tup [.str (cU s p).1,.bool (cU s p).2])
def W9 (Y:Ctx):Prop:=Mv (bx Y 254)
noncomputable def H9:aC:=cP 134
def w441 (h442:Xd Y)(h533:NH Y)(h658:Qm Y)(h659:Xv Y)(s:au)  (hp0:s.length<=1048576):dh Y H9 (.bool (oV s true)) [.str s]:=by
 show bJ _ _ _ [⟨_,_⟩,_,_,_,_,_,_,_,_,_] _;refine ar ?_;refine aE ?_;refine aq (hc:=h442 _ ?_) ?_;rotate_left;first|assumption|omega
 refine ax ?_;refine av (fun hc0=>?_) (fun hc0=>?_)
 .simp only[bd]at hc0;refine aE ?_;refine bU ?_;symm;simp only[oV]at hc0⊢;rw[dy]at hc0⊢;rcases hc0 with h|h
  .exact Or.inl h
  .right;rw[Bool.eq_false_iff]at h⊢;intro h2;apply h;rw[eC]at h2⊢;intro j a b;have:=h2 j a b;simp only[iL,bB]at this⊢;exact⟨this.1,rfl⟩
 simp only[bK]at hc0;refine aB ?_;refine aq (hc:=h533 _ _ ?_) ?_;rotate_left;first|assumption|omega;have hlen:=dk s 46
 refine aA ?_;intro u0;refine ax ?_;have hT:=hc0;simp only[oV,bB,aK]at hT;obtain⟨hT4,hTa⟩:=hT;rw[eC]at hTa;have hP:oV s true=cQ (fun i=>iL true (ai s 46)[i]!) 0 (ai s 46).length:=by
  simp only[oV];rw[b9 hT4];rfl
 refine ba hm (ι:=Nat) (fun i=>[.un,.un,.un,⟨true,.int .i64 (i:Nat)⟩,⟨true,.int .i64 ((ai s 46).length:Nat)⟩,.un,⟨true,.sl 1 ((ai s 46).map D.str)⟩,.un,.un,.un]) (fun i=>[]) 8 (fun i=>i<=(ai s 46).length/\oV s true=cQ (fun i=>iL true (ai s 46)[i]!) i (ai s 46).length) (fun i=>(ai s 46).length-i) 0 ⟨ae,hP⟩ (dr []) ?_;rintro i ⟨hi,hr⟩;refine ay ?_;refine cF (fun hc1=>?_) fun hc1=>?_
 .refine cZ ?_;refine aq (hc:=h658 _) ?_;refine bL ?_;refine aq (hc:=h659 _) ?_;refine aE ?_;refine wp_cond (fun hc2=>?_) (fun hc2=>?_)
  .skip
   refine aD ?_;refine bU ?_;have hz:iL true (ai s 46)[i]! =false:=by
    simp only[iL];revert hc2;generalize sn (ai s 46)[i]! =c;generalize dc (ai s 46)[i]! =a;generalize fU (ai s 46)[i]! =b;cases a<;>cases b<;>cases c<;>simp
   rw[hr,aU ae,hz];rfl
  skip
  refine aZ ?_;have hz:iL true (ai s 46)[i]! =true:=by
   have:=hTa i ae ae;simp only[iL,Bool.false_and,Bool.not_false,nb]at this;simp only[iL,this];revert hc2;generalize dc (ai s 46)[i]! =a;generalize fU (ai s 46)[i]! =b;cases a<;>cases b<;>simp
  exact⟨i+1,⟨ae,by rw[hr,aU ae,hz];rfl⟩,ae,(dr [])⟩
 refine aD ?_;refine bU ?_;rw[hr,cj ae]
def MF (T:List D->D->Prop):Prop:=∀(s:au),(s.length<=1048576)->T [.str s] (.bool (oV s true))
def C441 (Y:Ctx):Prop:=MF (bx Y 441)
noncomputable def H8:aC:=cP 94
def w209 {Y:Ctx}(hm:(Y.at 0).b7)(h440:C440 Y)(h441:C441 Y)(h442:Xd Y)(v:cn)  (hp0:v.sm):dh Y H8 (.bool (eZ v)) [cn.D v]:=by
 show bJ _ _ _ [⟨_,_⟩,_,_] _;refine ar ?_;refine aD ?_;refine aq (hc:=h440 _) ?_;refine ay ?_;refine aq (hc:=h440 _) ?_;refine aB ?_;refine aq (hc:=h440 _) ?_;refine bL ?_;refine c8 (hc:=fun hf=>h441 v.pre hp0.1) ?_;refine cZ ?_;refine c8 (hc:=fun hf=>h442 v.build hp0.2) ?_;refine aE ?_;exact bU rfl
def zb (T:List D->D->Prop):Prop:=∀(v:cn),(v.sm)->T [cn.D v] (.bool (eZ v))
def IE (Y:Ctx):Prop:=zb (bx Y 209)
noncomputable def EE:aC:=cP 145
def w665 {Y:Ctx}(hm:(Y.at 0).b7)(h336:C336 Y)(n:Int)  (hp0:0<=n/\n<=9999):dh Y EE (.str (dI n.toNat)) [.int .i64 n]:=by
 show bJ _ _ _ [⟨_,_⟩,_] _;refine ar ?_;refine aB ?_;refine aq (hc:=h336 _ ?_) ?_;rotate_left;first|assumption|omega
 refine ay ?_;exact c9 rfl
def XA (Y:Ctx):Prop:=ta (bx Y 665)
noncomputable def Ct:aC:=cP 101
def w451 {Y:Ctx}(hm:(Y.at 0).b7)(h209:IE Y)(h665:XA Y)(v:cn)  (hp0:v.sm):dh Y Ct (.str (jW v)) [cn.D v]:=by
 show bJ _ _ _ [⟨_,_⟩,_,_,_,_,_,_] _;obtain⟨hs1,hs2⟩:=hp0;have hp0:v.sm:=⟨hs1,hs2⟩;refine ar ?_;refine aD ?_;refine aq (hc:=h209 _ ?_) ?_;rotate_left;first|assumption|omega
 refine ax ?_;refine av (fun hc0=>?_) (fun hc0=>?_)
 .simp only[bd]at hc0;refine aE ?_;refine c9 ?_;simp[jW,hc0]
 simp only[bK]at hc0;refine ax ?_;have hv:=hc0;simp only[eZ,bB]at hv;obtain⟨⟨⟨⟨hv1,hv2⟩,hv3⟩,_⟩,_⟩:=hv;have hq1:=hv1;have hq2:=hv2;have hq3:=hv3;simp only[qi,bB,aK]at hq1 hq2 hq3;have hl1:=eJ 4 v.major.toNat ae ae;have hl2:=eJ 4 v.minor.toNat ae ae;have hl3:=eJ 4 v.patch.toNat ae ae;refine ax ?_;refine aq (hc:=h665 _ ?_) ?_;rotate_left;first|assumption|omega
 refine dj (hb:=fun _=>cY) ?_;refine ax ?_;refine aq (hc:=h665 _ ?_) ?_;rotate_left;first|assumption|omega
 refine dj (hb:=fun _=>cY) ?_;refine dj (hb:=fun _=>cY) ?_;refine ax ?_;refine aq (hc:=h665 _ ?_) ?_;rotate_left;first|assumption|omega
 refine dj (hb:=fun _=>cY) ?_;refine bL ?_;refine cF (fun hc1=>?_) fun hc1=>?_
 .refine aB ?_;refine dj (hb:=fun _=>cY) ?_;refine dj (hb:=fun _=>cY) ?_;refine bL ?_;refine cF (fun hc2=>?_) fun hc2=>?_
  .refine aB ?_;refine dj (hb:=fun _=>cY) ?_;refine dj (hb:=fun _=>cY) ?_;refine aZ ?_;refine c9 ?_;simp[jW,sv,hc0,hc1,hc2]
  refine aD ?_;refine c9 ?_;simp[jW,sv,hc0,hc1,hc2]
 refine aZ ?_;refine cF (fun hc2=>?_) fun hc2=>?_
 .refine aB ?_;refine dj (hb:=fun _=>cY) ?_;refine dj (hb:=fun _=>cY) ?_;refine aZ ?_;refine c9 ?_;simp[jW,sv,hc0,hc1,hc2]
 refine aD ?_;refine c9 ?_;simp[jW,sv,hc0,hc1,hc2]
def zo (T:List D->D->Prop):Prop:=∀(v:cn),(v.sm)->T [cn.D v] (.str (jW v))
def Xg (Y:Ctx):Prop:=zo (bx Y 451)
noncomputable def qu:aC:=cP 129
def w463 {Y:Ctx}(hm:(Y.at 0).b7)  (h:Int)(k:Nat)  (hp0:k=13):dh Y qu (.int .u64 (Zh h k)) [.int .u64 h,.int .i64 (k:Nat)]:=by
 show bJ _ _ _ [⟨_,_⟩,⟨_,_⟩,_,_] _;subst hp0;refine ar ?_;refine aB ?_;refine lJ 13 (hb:=fun _=>by rw[IntKind.wrap_u64];rfl) ?_;refine um 13 (hb:=fun _=>by rw[IntKind.wrap_u64];rfl) ?_;refine aE ?_;refine Hf (tv h 13) (hb:=fun _=>by rw[show min (Int.toNat (13:Int)) (IntKind.bits .u64)=13 by simp[IntKind.bits]];rfl) ?_;refine ax ?_;refine qy 51 (hb:=fun _=>by rw[IntKind.wrap_u64];rfl) ?_;refine tu (si h 51) (hb:=fun _=>by rw[show min (Int.toNat (51:Int)) (IntKind.bits .u64)=51 by simp[IntKind.bits]];rfl) ?_;refine He (Zh h 13) (hb:=fun _=>rfl) ?_;refine ay ?_;refine bF (aj (D.int .u64) ?_);rfl
def MO (T:List D->D->Prop):Prop:=∀(h:Int) (k:Nat),(k=13)->T [.int .u64 h,.int .i64 (k:Nat)] (.int .u64 (Zh h k))
def C463 (Y:Ctx):Prop:=MO (bx Y 463)
noncomputable def I3:aC:=cP 80
def w220 (h463:C463 Y)(s:au)   :dh Y I3 (.int .u64 (HX s)) [.sl 1 ((s).map fun b=>D.int .u8 b.toNat)]:=by
 show bJ _ _ _ [⟨_,_⟩,_,_,_,_,_,_,_] _;refine ar ?_;refine cZ ?_;intro u0;refine ax ?_;refine ba hm (ι:=Nat) (fun i=>[.un,.un,⟨true,.int .i64 (i:Nat)⟩,⟨true,.int .i64 (s.length:Nat)⟩,.un,⟨true,.sl 1 (s.map fun b=>D.int .u8 b.toNat)⟩,⟨true,.int .u64 (xi (s.take i))⟩,.un]) (fun i=>[]) 5 (fun i=>i<=s.length) (fun i=>s.length-i) 0 ae (dr []) ?_;intro i hi;refine ay ?_;refine cF (fun hc0=>?_) fun hc0=>?_
 .refine aB ?_;refine bD (v:=.int .u8 (at8 s i)) (hv:=fun _=>ld8 s i) ?_;refine aE ?_;refine lJ (at8 s i) (hb:=fun _=>by have:=vT s i;rw[IntKind.wrap_u64];omega) ?_;refine EY (BU (xi (s.take i)) (at8 s i)) (hb:=fun _=>rfl) ?_;refine aq (hc:=h463 _ 13 rfl) ?_;refine S1 (xi (s.take (i+1))) (hb:=fun _=>by rw[DN s i ae];rfl) ?_;refine bL ?_;exact⟨i+1,ae,ae,(dr [])⟩
 refine ay ?_;have ht:s.take i=s:=ed ae;rw[ht];refine ax ?_;refine tu (si (xi s) 29) (hb:=fun _=>rfl) ?_;refine EY (HX s) (hb:=fun _=>rfl) ?_;refine ay ?_;refine bF (aj (D.int .u64) ?_);rfl
def zf (T:List D->D->Prop):Prop:=∀(s:au),T [.sl 1 ((s).map fun b=>D.int .u8 b.toNat)] (.int .u64 (HX s))
def ZQ (Y:Ctx):Prop:=zf (bx Y 220)
noncomputable def JZ:aC:=cP 206
def w882  (n:Nat)  (hp0:n<=9999):dh Y JZ (.str (dI n)) [.int .u64 (n:Nat)]:=by
 show bJ _ _ _ [⟨_,_⟩,_,_,_] _;refine ar ?_;refine aB ?_;refine LI ((n%10:Nat):Int) (hn:=by intro _;omega) (hb:=fun _=>rfl) ?_;refine lJ ((n%10:Nat):Int) (hb:=fun _=>IntWalk.u8_in _ ae) ?_;refine Be (((dg (n%10)).toNat:Nat):Int) (hb:=fun _=>by rw[CM ae];exact IntWalk.u8_in _ ae) ?_;refine df [.int .u8 _] ?_;refine Hd [dg (n%10)] (he:=fun _=>sA.all ah rfl) (hs:=fun _=>rfl) ?_;refine ax ?_;have h0:dI n=(if n<10 then []else dI (n/10))++[dg (n%10)]:=by
  split
  .rename_i h;rw[ml h,Nat.mod_eq_of_lt h];rfl
  .rw[nA ae]
 refine ba hm (ι:=(Nat×au)) (fun p=>[⟨true,.int .u64 (p.1:Nat)⟩,.un,.un,⟨true,.str p.2⟩]) (fun p=>[]) 8 (fun p=>p.1<=9999/\p.2.length<=9999-p.1+1/\dI n=(if p.1<10 then []else dI (p.1/10))++p.2) (fun p=>p.1) (n,[dg (n%10)]) ⟨hp0,aJ,h0⟩ (dr []) ?_;rintro⟨k,s⟩ ⟨hk,hs,hr⟩;dsimp only at hk hs hr⊢;refine aE ?_;refine cF (fun hc0=>?_) fun hc0=>?_
 .refine aB ?_;refine r_quo ((k/10:Nat):Int) (hn:=by intro _;omega) (hb:=fun _=>by rw[show((k:Int).tdiv 10)=((k/10:Nat):Int)from rfl,IntKind.wrap_u64];omega) ?_;refine aB ?_;refine LI (((k/10)%10:Nat):Int) (hn:=by intro _;omega) (hb:=fun _=>rfl) ?_;refine lJ (((k/10)%10:Nat):Int) (hb:=fun _=>IntWalk.u8_in _ ae) ?_;refine Be (((dg ((k/10)%10)).toNat:Nat):Int) (hb:=fun _=>by rw[CM ae];exact IntWalk.u8_in _ ae) ?_;refine df [.int .u8 _] ?_;refine Hd [dg ((k/10)%10)] (he:=fun _=>sA.all ah rfl) (hs:=fun _=>rfl) ?_;refine aA ?_;refine dj (hb:=fun _=>cY) ?_;refine aB ?_;have h1:dI n=(if k/10<10 then []else dI (k/10/10))++([dg (k/10%10)]++s):=by
   rw[hr,ak ae];split
   .rename_i h;rw[ml h,Nat.mod_eq_of_lt h];rfl
   .rw[nA ae,eu]
  exact⟨(k/10,[dg (k/10%10)]++s),⟨dE,cY,h1⟩,dE,(dr [])⟩
 refine aZ ?_;refine c9 ?_;rw[hr,aw ae];rfl
def Nt (T:List D->D->Prop):Prop:=∀(n:Nat),(n<=9999)->T [.int .u64 (n:Nat)] (.str (dI n))
def C882 (Y:Ctx):Prop:=Nt (bx Y 882)
noncomputable def HD:aC:=cP 176
def w734 {Y:Ctx}(hm:(Y.at 0).b7)(h882:C882 Y)(n:Int)  (hp0:0<=n/\n<=9999):dh Y HD (.str (dI n.toNat)) [.int .i64 n]:=by
 show bJ _ _ _ [⟨_,_⟩,_,_] _;refine ar ?_;refine aZ ?_;refine cF (fun hc0=>?_) fun hc0=>?_
 .omega
 refine ax ?_;obtain⟨k,rfl⟩:∃k:Nat,n=k:=⟨n.toNat,ae⟩
 refine aA ?_;refine lJ (k:Int) (hb:=fun _=>by rw[IntKind.wrap_u64];omega) ?_;refine aq (hc:=h882 _ ?_) ?_;rotate_left;first|assumption|omega
 refine ay ?_;exact c9 rfl
def XH (Y:Ctx):Prop:=ta (bx Y 734)
noncomputable def JX:aC:=cP 73
def w470  (s:au)(b:Int)  (hp0:s.length<=1048576):dh Y JX (.sl 1 ((ai s b).map D.str)) [.str s,.int .u8 b]:=by
 show bJ _ _ _ [⟨_,_⟩,⟨_,_⟩,_,_,_,_,_,_] _;refine ar ?_;refine gu ?_;refine ba hm (ι:=(Nat×Nat×List au)) (fun p:Nat×Nat×List au=>[⟨true,.str s⟩,⟨true,.int .u8 b⟩,.un,⟨true,.int .i64 (p.1:Nat)⟩,.un,.un,⟨true,.own 0 1 0 p.2.2.length⟩,⟨true,.int .i64 (p.2.1:Nat)⟩]) (fun p=>[(0,.buf 1 (p.2.2.map D.str))]) 4 (fun p=>p.1<=s.length/\p.2.1<=p.1/\p.2.2.length<=p.1/\ai s b=p.2.2++cD b (s.drop p.1) ((s.take p.1).drop p.2.1)) (fun p=>s.length-p.1) (0,0,[]) ⟨aJ,aJ,aJ,rfl⟩ (a7.to [] ah ah (by repeat(first|exact dp.nil|refine dp.un ?_|refine dp.eq ah ?_|refine dp.nl ah ah ?_|refine dp.ni (Or.inr ⟨0,1,0,rfl⟩) ?_)) (by repeat(first|exact bo.nil|refine bo.mt ah ah ah ah ?_))) ?_;rintro⟨i,fr,acc⟩ ⟨hi,hf,ha,hr⟩;dsimp only at hi hf ha hr⊢;refine aE ?_;intro u0;refine ax ?_;refine cF (fun hc0=>?_) fun hc0=>?_
 .refine cZ ?_;refine wp_cond (fun hc1=>?_) (fun hc1=>?_)
  .try simp only[dn]at hc1
   refine aE ?_;refine Bh _ _ ?_;refine df [(.str _)] ?_;refine BW ?_;exact⟨(i+1,i+1,acc++[(s.take i).drop fr]),⟨dE,dE,cY,by rw[hr,DG ae hc1];simp⟩,dE,(a7.to [(19,0)] ah ah lF (by refine bo.nl 19 ah ah ah eK ?_;exact bo.nil))⟩
  simp only[bc]at hc1;refine bL ?_;exact⟨(i+1,fr,acc),⟨dE,dE,dE,by rw[hr,DH ae ae hc1]⟩,dE,(a7.to [(0,0)] ah ah lF (by refine bo.nl 0 ah ah ah eK ?_;exact bo.nil))⟩
 refine aD ?_;refine fu _ ?_;refine df [(.str _)] ?_;refine ay ?_;refine eH 13 ?_;refine aA ?_;refine bF (?_);have hs:ai s b=acc++[s.drop fr]:=by rw[hr,BE ae]
 rw[hs];exact rfl
def tz (Y:Ctx):Prop:=zy (bx Y 470)
noncomputable def S7:aC:=cP 102
def w453 {Y:Ctx}(hm:(Y.at 0).b7)  (c:Int)   :dh Y S7 (.bool (iy c)) [.int .u8 c]:=by
 show bJ _ _ _ [⟨_,_⟩,_] _;refine ar ?_;refine gu ?_;exact bU rfl
def MH (T:List D->D->Prop):Prop:=∀(c:Int),T [.int .u8 c] (.bool (iy c))
def Xh (Y:Ctx):Prop:=MH (bx Y 453)
noncomputable def JY:aC:=cP 103
def w454 {Y:Ctx}(hm:(Y.at 0).b7)  (c:Int)   :dh Y JY (.bool (bn c)) [.int .u8 c]:=by
 show bJ _ _ _ [⟨_,_⟩,_] _;refine ar ?_;refine gu ?_;exact bU rfl
def MI (T:List D->D->Prop):Prop:=∀(c:Int),T [.int .u8 c] (.bool (bn c))
def T6 (Y:Ctx):Prop:=MI (bx Y 454)
noncomputable def Pt:aC:=cP 189
def w357 (h453:Xh Y)(h454:T6 Y)(s:au)   :dh Y Pt (.bool (cV s)) [.str s]:=by
 show bJ _ _ _ [⟨_,_⟩,_,_,_,_,_] _;refine ar ?_;refine aD ?_;intro u0;refine ay ?_;refine ik ?_;refine ay ?_;refine cF (fun hc0=>?_) fun hc0=>?_
 .refine aE ?_;refine bU ?_;symm;simp only[cV,dy,bc];exact Or.inl ae
 refine aE ?_;refine ba hm (ι:=Nat) (fun i=>[⟨true,.str s⟩,.un,.un,⟨true,.int .i64 (i:Nat)⟩,.un,.un]) (fun i=>[]) 10 (fun i=>i<=s.length/\cV s=cQ (fun i=>y0 (at8 s i)) i s.length) (fun i=>s.length-i) 0 ⟨ae,by simp only[cV];rw[b9 ae,b9 ae];rfl⟩ (dr []) ?_;rintro i ⟨hi,hr⟩;refine aE ?_;intro u1;refine ax ?_;refine cF (fun hc1=>?_) fun hc1=>?_
 .refine aD ?_;refine aq (hc:=h453 _) ?_;refine aE ?_;refine aq (hc:=h454 _) ?_;refine cZ ?_;refine fM (fun hc2=>?_) fun hc2=>?_
  .refine aD ?_;refine bU ?_;rw[hr,aU ae];simp[y0,hc2]
  refine bL ?_;exact⟨i+1,⟨ae,by rw[hr,aU ae];simp[y0,hc2]⟩,ae,(dr [])⟩
 refine aD ?_;refine bU ?_;rw[hr,cj ae]
def IJ (Y:Ctx):Prop:=zi (bx Y 357)
noncomputable def Ps:aC:=cP 59
def w216 (h453:Xh Y)(h454:T6 Y)(s:au)   :dh Y Ps (.bool (dK s)) [.str s]:=by
 show bJ _ _ _ [⟨_,_⟩,_,_,_,_,_] _;refine ar ?_;refine aD ?_;intro u0;refine ay ?_;refine ik ?_;refine aB ?_;refine pU 0 ?_;refine aq (hc:=h453 _) ?_;refine aE ?_;refine ik ?_;refine aA ?_;refine pU (s.length-1) ?_;refine ay ?_;refine cF (fun hc0=>?_) fun hc0=>?_
 .refine aE ?_;refine bU ?_;symm;simp only[dK];rcases hc0 with(h|h)|h
  .rcases h with h|h<;>simp<;>omega
  .simp[h]
  .simp[h]
 refine aE ?_;refine ba hm (ι:=Nat) (fun i=>[⟨true,.str s⟩,.un,.un,⟨true,.int .i64 (i:Nat)⟩,.un,.un]) (fun i=>[]) 24 (fun i=>i<=s.length/\1<=i/\dK s=cQ (YK s) i s.length) (fun i=>s.length-i) 1 ⟨ae,ae,by simp only[dK];rw[b9 ae,b9 ae,hc0.1.2,cG hc0.2];rfl⟩ (dr []) ?_;rintro i ⟨hi,hi1,hr⟩;refine aE ?_;intro u1;refine ax ?_;refine cF (fun hc1=>?_) fun hc1=>?_
 .refine aD ?_;refine aq (hc:=h453 _) ?_;refine aE ?_;refine aq (hc:=h454 _) ?_;refine BY ?_;refine pU (i-1) ?_;refine aB ?_;refine fM (fun hc2=>?_) fun hc2=>?_
  .refine aD ?_;refine bU ?_;rw[hr,aU ae];simp only[YK];revert hc2;generalize iy (at8 s i)=x;generalize bn (at8 s i)=y;by_cases h1:at8 s i=45<;>by_cases h2:at8 s (i-1)=45<;>cases x<;>cases y<;>simp_all
  refine bL ?_;exact⟨i+1,⟨ae,ae,by rw[hr,aU ae];simp only[YK];revert hc2;generalize iy (at8 s i)=x;generalize bn (at8 s i)=y;by_cases h1:at8 s i=45<;>by_cases h2:at8 s (i-1)=45<;>cases x<;>cases y<;>simp_all⟩,ae,(dr [])⟩
 refine aD ?_;refine bU ?_;rw[hr,cj ae]
def IF (Y:Ctx):Prop:=za (bx Y 216)
noncomputable def HE:aC:=cP 185
def w667 (h454:T6 Y)(s:au)   :dh Y HE (.tup [.int .i64 (ef s),.bool (fU s)]) [.str s]:=by
 show bJ _ _ _ [⟨_,_⟩,_,_,_,_,_,_,_,_] _;refine ar ?_;refine aZ ?_;intro u0;refine ay ?_;refine ik ?_;refine aB ?_;refine ik ?_;refine ay ?_;refine pU 0 ?_;refine aB ?_;refine cF (fun hc0=>?_) fun hc0=>?_
 .refine aD ?_;refine bF (aH (aj (D.int .i64) ?_) (aj D.bool ?_));all_goals
   have:fU s=false:=by
    simp only[fU];rcases hc0 with(h|h)|h
    .rw[cG (by omega:¬1<=s.length)];rfl
    .rw[cG (by omega:¬s.length<=9)];simp
    .rw[b9 (by omega:1<s.length),b9 h.2];simp
   simp[ef,this]
 refine bL ?_;have hP:fU s=(cQ (fun i=>bn (at8 s i)) 0 s.length&&decide (dL s<=9999)):=by
  simp only[fU];rw[b9 (by omega:1<=s.length),b9 (by omega:s.length<=9)];rcases hc0.2 with h|h
  .rw[cG (by omega:¬1<s.length)];rfl
  .rw[cG h,Bool.and_false];rfl
 refine ba hm (ι:=Nat) (fun i=>[⟨true,.str s⟩,.un,.un,.un,⟨true,.int .i64 (i:Nat)⟩,.un,.un,⟨true,.int .i64 (dL (s.take i):Nat)⟩,.un]) (fun i=>[]) 22 (fun i=>i<=s.length/\s.length<=9/\fU s=(cQ (fun i=>bn (at8 s i)) i s.length&&decide (dL s<=9999))) (fun i=>s.length-i) 0 ⟨ae,ae,hP⟩ (dr []) ?_;rintro i ⟨hi,h9,hr⟩;refine aE ?_;intro u1;refine ax ?_;refine cF (fun hc1=>?_) fun hc1=>?_
 .refine aZ ?_;refine aq (hc:=h454 _) ?_;refine ax ?_;refine av (fun hc2=>?_) (fun hc2=>?_)
  .try simp only[dn]at hc2
   refine bL ?_;refine bF (aH (aj (D.int .i64) ?_) (aj D.bool ?_));all_goals
    have:fU s=false:=by rw[hr,aU ae,hc2];rfl
    simp[ef,this]
  simp only[bK]at hc2;refine ax ?_;have h48:=hc2;simp only[bn,bB,aK]at h48;have hn:=vz s i ae;have hn2:=xN s i ae;have h256:=vT s i;refine aA ?_;refine nG ?_;refine ay ?_;refine qy (at8 s i-48) (hb:=fun _=>IntWalk.u8_in _ ae) ?_;refine lJ (at8 s i-48) (hb:=fun _=>IntWalk.i64_in _ ae) ?_;refine ay ?_;rw[show(dL (s.take i):Int)*10+(at8 s i-48)=(dL (s.take (i+1)):Nat)by omega];refine aZ ?_;exact⟨i+1,⟨ae,h9,by rw[hr,aU ae,hc2];rfl⟩,ae,(dr [])⟩
 refine aB ?_;have ht:s.take i=s:=ed ae;rw[ht];refine ay ?_;refine cF (fun hc3=>?_) fun hc3=>?_
 .refine aD ?_;refine bF (aH (aj (D.int .i64) ?_) (aj D.bool ?_));all_goals
   have:fU s=false:=by rw[hr,cG ae,Bool.and_false]
   simp[ef,this]
 refine aZ ?_;refine bF (aH (aj (D.int .i64) ?_) (aj D.bool ?_));all_goals
  have:fU s=true:=by rw[hr,cj ae,b9 ae];rfl
  simp[ef,this]
def Qn (Y:Ctx):Prop:=zB (bx Y 667)
noncomputable def Fb:aC:=cP 186
def w668  (t:au)   :dh Y Fb (.bool (dc t)) [.str t]:=by
 show bJ _ _ _ [⟨_,_⟩,_,_,_,_] _;refine ar ?_;refine aD ?_;refine ba hm (ι:=Nat) (fun i=>[⟨true,.str t⟩,.un,⟨true,.int .i64 (i:Nat)⟩,.un,.un]) (fun i=>[]) 2 (fun i=>i<=t.length/\cQ (fun i=>bn (at8 t i)) 0 t.length=cQ (fun i=>bn (at8 t i)) i t.length) (fun i=>t.length-i) 0 ⟨ae,rfl⟩ (dr []) ?_;rintro i ⟨hi,hr⟩;refine aE ?_;intro u0;refine ax ?_;refine cF (fun hc0=>?_) fun hc0=>?_
 .refine sy ?_;refine fM (fun hc1=>?_) fun hc1=>?_
  .refine aD ?_;refine bU ?_;simp only[dc];rw[hr,aU ae];rcases hc1 with h|h<;>simp[bn]<;>omega
  refine bL ?_;exact⟨i+1,⟨ae,by rw[hr,aU ae];rw[show bn (at8 t i)=true by simp only[bn,bB,aK];omega];rfl⟩,ae,(dr [])⟩
 refine aE ?_;intro u1;refine aB ?_;refine bU ?_;simp only[dc];rw[hr,cj ae];simp
def XB (Y:Ctx):Prop:=zC (bx Y 668)
noncomputable def Tb:aC:=cP 184
def w666  (t:au)   :dh Y Tb (.bool (sn t)) [.str t]:=by
 show bJ _ _ _ [⟨_,_⟩,_,_,_,_,_,_] _;refine ar ?_;refine aD ?_;intro u0;refine ay ?_;refine ik ?_;refine ay ?_;refine cF (fun hc0=>?_) fun hc0=>?_
 .refine aE ?_;refine bU ?_;symm;simp only[sn,dy,bc];exact Or.inl ae
 refine aE ?_;refine ba hm (ι:=Nat) (fun i=>[⟨true,.str t⟩,.un,.un,⟨true,.int .i64 (i:Nat)⟩,.un,.un,.un]) (fun i=>[]) 10 (fun i=>i<=t.length/\sn t=cQ (fun i=>nH (at8 t i)) i t.length) (fun i=>t.length-i) 0 ⟨ae,by simp only[sn];rw[b9 ae,b9 ae];rfl⟩ (dr []) ?_;rintro i ⟨hi,hr⟩;refine aE ?_;intro u1;refine ax ?_;refine cF (fun hc1=>?_) fun hc1=>?_
 .refine T0 ?_;refine fM (fun hc2=>?_) fun hc2=>?_
  .refine aD ?_;refine bU ?_;rw[hr,aU ae];have:nH (at8 t i)=false:=(by simp only[nH,iy,bn,dd,dy,bc];omega);rw[this];rfl
  refine bL ?_;exact⟨i+1,⟨ae,by rw[hr,aU ae];have:nH (at8 t i)=true:=(by simp only[nH,iy,bn,cM,bB,aK];omega);rw[this];rfl⟩,ae,(dr [])⟩
 refine aD ?_;refine bU ?_;rw[hr,cj ae]
def M6 (T:List D->D->Prop):Prop:=∀(t:au),T [.str t] (.bool (sn t))
def C666 (Y:Ctx):Prop:=M6 (bx Y 666)
noncomputable def Pw:aC:=cP 148
def w456 (h470:tz Y)(h666:C666 Y)(h667:Qn Y)(h668:XB Y)(s:au)(p:Bool)  (hp0:s.length<=1048576):dh Y Pw (.bool (sq s p)) [.str s,.bool p]:=by
 show bJ _ _ _ [⟨_,_⟩,⟨_,_⟩,_,_,_,_,_,_,_,_,_] _;refine ar ?_;refine aZ ?_;refine cF (fun hc0=>?_) fun hc0=>?_
 .refine aE ?_;refine bU ?_;simp[sq,hc0]
 refine ay ?_;refine aq (hc:=h470 _ _ ?_) ?_;rotate_left;first|assumption|omega;have hlen:=dk s 46
 refine aD ?_;intro u0;refine ax ?_;refine av (fun hc1=>?_) (fun hc1=>?_)
 .try simp only[dn]at hc1
  refine aE ?_;refine bU ?_;simp only[sq,oV];rw[cG hc0,cG ae];rfl
 simp only[bc]at hc1;refine aE ?_;refine ba hm (ι:=Nat) (fun i=>[⟨true,.str s⟩,⟨true,.bool p⟩,.un,.un,⟨true,.sl 1 ((ai s 46).map D.str)⟩,.un,⟨true,.int .i64 (i:Nat)⟩,.un,.un,.un,.un]) (fun i=>[]) 10 (fun i=>i<=(ai s 46).length/\sq s p=cQ (fun i=>iL p (ai s 46)[i]!) i (ai s 46).length) (fun i=>(ai s 46).length-i) 0 ⟨ae,by simp only[sq,oV];rw[cG hc0,b9 ae];rfl⟩ (dr []) ?_;rintro i ⟨hi,hr⟩;refine aE ?_;intro u1;refine ax ?_;refine cF (fun hc2=>?_) fun hc2=>?_
 .refine bL ?_;refine aq (hc:=h666 _) ?_;refine ax ?_;refine av (fun hc3=>?_) (fun hc3=>?_)
  .simp only[bd]at hc3;refine aZ ?_;refine bU ?_;rw[hr,aU ae];simp only[iL,hc3];rfl
  simp only[bK]at hc3;refine aD ?_;refine aq (hc:=h667 _) ?_;refine lN ?_;refine aq (hc:=h668 _) ?_;refine aD ?_;refine wp_cond (fun hc4=>?_) (fun hc4=>?_)
  .skip
   refine aD ?_;refine bU ?_;have h5:iL p (ai s 46)[i]! =false:=(by simp only[iL,hc3];revert hc4;generalize dc (ai s 46)[i]! =a;generalize fU (ai s 46)[i]! =b;cases p<;>cases a<;>cases b<;>simp);rw[hr,aU ae,h5];rfl
  skip
  refine bL ?_;exact⟨i+1,⟨ae,by rw[hr,aU ae];have h5:iL p (ai s 46)[i]! =true:=(by simp only[iL,hc3];revert hc4;generalize dc (ai s 46)[i]! =a;generalize fU (ai s 46)[i]! =b;cases p<;>cases a<;>cases b<;>simp);rw[h5];rfl⟩,ae,(dr [])⟩
 refine aD ?_;refine bU ?_;rw[hr,cj ae]
def MJ (T:List D->D->Prop):Prop:=∀(s:au) (p:Bool),(s.length<=1048576)->T [.str s,.bool p] (.bool (sq s p))
def C456 (Y:Ctx):Prop:=MJ (bx Y 456)
noncomputable def S9:aC:=cP 147
def w455 {Y:Ctx}(hm:(Y.at 0).b7)  (n:Int)   :dh Y S9 (.bool (qi n)) [.int .i64 n]:=by
 show bJ _ _ _ [⟨_,_⟩,_] _;refine ar ?_;refine gu ?_;exact bU rfl
def C455 (Y:Ctx):Prop:=zk (bx Y 455)
noncomputable def S8:aC:=cP 105
def w217 {Y:Ctx}(hm:(Y.at 0).b7)(h455:C455 Y)(h456:C456 Y)(v:cn)  (hp0:v.sm):dh Y S8 (.bool (eZ v)) [cn.D v]:=by
 show bJ _ _ _ [⟨_,_⟩,_,_] _;refine ar ?_;refine aD ?_;refine aq (hc:=h455 _) ?_;refine ay ?_;refine aq (hc:=h455 _) ?_;refine aB ?_;refine aq (hc:=h455 _) ?_;refine aB ?_;refine c8 (hc:=fun hf=>h456 v.pre true hp0.1) ?_;refine aB ?_;refine c8 (hc:=fun hf=>h456 v.build false hp0.2) ?_;refine aB ?_;exact bU rfl
def IG (Y:Ctx):Prop:=zb (bx Y 217)
noncomputable def Fa:aC:=cP 153
def w554 {Y:Ctx}(hm:(Y.at 0).b7)(h734:XH Y)(v:cn)  (hp0:qi v.major=true/\qi v.minor=true/\qi v.patch=true):dh Y Fa (.str (dI v.major.toNat++[46]++dI v.minor.toNat++[46]++dI v.patch.toNat)) [cn.D v]:=by
 show bJ _ _ _ [⟨_,_⟩,_,_,_] _;obtain⟨hq1,hq2,hq3⟩:=hp0;simp only[qi,bB,aK]at hq1 hq2 hq3;have hl1:=eJ 4 v.major.toNat ae ae;have hl2:=eJ 4 v.minor.toNat ae ae;have hl3:=eJ 4 v.patch.toNat ae ae;refine ar ?_;refine aD ?_;refine aq (hc:=h734 _ ?_) ?_;rotate_left;first|assumption|omega
 refine dj (hb:=fun _=>cY) ?_;refine ax ?_;refine aq (hc:=h734 _ ?_) ?_;rotate_left;first|assumption|omega
 refine dj (hb:=fun _=>cY) ?_;refine aB ?_;refine dj (hb:=fun _=>cY) ?_;refine ax ?_;refine aq (hc:=h734 _ ?_) ?_;rotate_left;first|assumption|omega
 refine dj (hb:=fun _=>cY) ?_;refine ay ?_;exact c9 rfl
def M4 (T:List D->D->Prop):Prop:=∀(v:cn),(qi v.major=true/\qi v.minor=true/\qi v.patch=true)->T [cn.D v] (.str (dI v.major.toNat++[46]++dI v.minor.toNat++[46]++dI v.patch.toNat))
def C554 (Y:Ctx):Prop:=M4 (bx Y 554)
noncomputable def J1:aC:=cP 107
def w316 {Y:Ctx}(hm:(Y.at 0).b7)(h217:IG Y)(h554:C554 Y)(v:cn)  (hp0:v.sm):dh Y J1 (.str (jW v)) [cn.D v]:=by
 show bJ _ _ _ [⟨_,_⟩,_,_,_,_,_,_] _;obtain⟨hs1,hs2⟩:=hp0;have hp0:v.sm:=⟨hs1,hs2⟩;refine ar ?_;refine aD ?_;refine aq (hc:=h217 _ ?_) ?_;rotate_left;first|assumption|omega
 refine ax ?_;refine av (fun hc0=>?_) (fun hc0=>?_)
 .simp only[bd]at hc0;refine aE ?_;refine c9 ?_;simp[jW,hc0]
 simp only[bK]at hc0;refine ax ?_;have hv:=hc0;simp only[eZ,bB]at hv;obtain⟨⟨⟨⟨hv1,hv2⟩,hv3⟩,_⟩,_⟩:=hv;have hq1:=hv1;have hq2:=hv2;have hq3:=hv3;simp only[qi,bB,aK]at hq1 hq2 hq3;have hl1:=eJ 4 v.major.toNat ae ae;have hl2:=eJ 4 v.minor.toNat ae ae;have hl3:=eJ 4 v.patch.toNat ae ae;refine aA ?_;refine aq (hc:=h554 v ⟨hv1,hv2,hv3⟩) ?_;refine bL ?_;refine cF (fun hc1=>?_) fun hc1=>?_
 .refine ax ?_;refine dj (hb:=fun _=>cY) ?_;refine ax ?_;refine dj (hb:=fun _=>cY) ?_;refine bL ?_;refine cF (fun hc2=>?_) fun hc2=>?_
  .refine ax ?_;refine dj (hb:=fun _=>cY) ?_;refine ax ?_;refine dj (hb:=fun _=>cY) ?_;refine aZ ?_;refine c9 ?_;simp[jW,sv,hc0,hc1,hc2]
  refine aD ?_;refine c9 ?_;simp[jW,sv,hc0,hc1,hc2]
 refine aZ ?_;refine cF (fun hc2=>?_) fun hc2=>?_
 .refine ax ?_;refine dj (hb:=fun _=>cY) ?_;refine ax ?_;refine dj (hb:=fun _=>cY) ?_;refine aZ ?_;refine c9 ?_;simp[jW,sv,hc0,hc1,hc2]
 refine aD ?_;refine c9 ?_;simp[jW,sv,hc0,hc1,hc2]
def C316 (Y:Ctx):Prop:=zo (bx Y 316)
noncomputable def PE:aC:=cP 146
def w464 {Y:Ctx}(hm:(Y.at 0).b7)  (h:Int)(n:Nat)  (hp0:n<=63):dh Y PE (.int .u64 (Zh h n)) [.int .u64 h,.int .u64 (n:Nat)]:=by
 show bJ _ _ _ [⟨_,_⟩,⟨_,_⟩,_] _;refine ar ?_;refine aE ?_;refine Hf (tv h n) (hb:=fun _=>by rw[show min (Int.toNat (n:Int)) (IntKind.bits .u64)=n by simp[IntKind.bits];omega];rfl) ?_;refine ax ?_;refine qy ((64-n:Nat):Int) (hb:=fun _=>by rw[IntKind.wrap_u64];omega) ?_;refine tu (si h (64-n)) (hb:=fun _=>by rw[show min (Int.toNat ((64-n:Nat):Int)) (IntKind.bits .u64)=64-n by simp[IntKind.bits]];rfl) ?_;refine He (Zh h n) (hb:=fun _=>rfl) ?_;refine ay ?_;refine bF (aj (D.int .u64) ?_);rfl
def MP (T:List D->D->Prop):Prop:=∀(h:Int) (n:Nat),(n<=63)->T [.int .u64 h,.int .u64 (n:Nat)] (.int .u64 (Zh h n))
def C464 (Y:Ctx):Prop:=MP (bx Y 464)
noncomputable def Tg:aC:=cP 104
def w221 (h464:C464 Y)(s:au)   :dh Y Tg (.int .u64 (HX s)) [.sl 1 ((s).map fun b=>D.int .u8 b.toNat)]:=by
 show bJ _ _ _ [⟨_,_⟩,_,_,_,_] _;refine ar ?_;refine cZ ?_;refine ba hm (ι:=Nat) (fun i=>[⟨true,.sl 1 (s.map fun b=>D.int .u8 b.toNat)⟩,.un,⟨true,.int .i64 (i:Nat)⟩,.un,⟨true,.int .u64 (xi (s.take i))⟩]) (fun i=>[]) 3 (fun i=>i<=s.length) (fun i=>s.length-i) 0 ae (dr []) ?_;intro i hi;refine aE ?_;intro u0;refine ax ?_;refine cF (fun hc0=>?_) fun hc0=>?_
 .refine aZ ?_;refine bD (v:=.int .u8 (at8 s i)) (hv:=fun _=>ld8 s i) ?_;refine lJ (at8 s i) (hb:=fun _=>by have:=vT s i;rw[IntKind.wrap_u64];omega) ?_;refine EY (BU (xi (s.take i)) (at8 s i)) (hb:=fun _=>rfl) ?_;refine aq (hc:=h464 _ 13 ae) ?_;refine S1 (xi (s.take (i+1))) (hb:=fun _=>by rw[DN s i ae];rfl) ?_;refine cZ ?_;exact⟨i+1,ae,ae,(dr [])⟩
 refine ay ?_;have ht:s.take i=s:=ed ae;rw[ht];refine ax ?_;refine tu (si (xi s) 29) (hb:=fun _=>rfl) ?_;refine EY (HX s) (hb:=fun _=>rfl) ?_;refine ay ?_;refine bF (aj (D.int .u64) ?_);rfl
def ZR (Y:Ctx):Prop:=zf (bx Y 221)
noncomputable def PD:aC:=cP 27
def w313  (n:Int)   :dh Y PD (.str (fO n)) [.int .u64 n]:=by
 show bJ _ _ _ [⟨_,_⟩,_,_,_,_] _;refine ar ?_;refine cZ ?_;refine ba hm (ι:=Nat) (fun k=>[⟨true,.int .u64 n⟩,.un,⟨true,.int .i64 ((15:Int) -(k:Nat))⟩,.un,⟨true,.own 0 1 0 ((fO n).take k).length⟩]) (fun k=>[(0,.buf 1 (((fO n).take k).map fun b=>D.int .u8 b.toNat))]) 3 (fun k=>k<=16) (fun k=>16-k) 0 ae (a7.to [] ah ah (by repeat(first|exact dp.nil|refine dp.un ?_|refine dp.eq ah ?_|refine dp.ni (Or.inr ⟨0,1,0,rfl⟩) ?_)) (by repeat(first|exact bo.nil|refine bo.mt ah ah ah ah ?_))) ?_;intro k hk;have htk:=Ks n k hk;refine aE ?_;refine cF (fun hc0=>?_) fun hc0=>?_
 .refine aD ?_;refine nG ?_;refine lJ ((4*(15-k):Nat):Int) (hb:=fun _=>by rw[IntKind.wrap_u64];omega) ?_;refine tu (si n (4*(15-k))) (hb:=fun _=>by rw[show min (Int.toNat ((4*(15-k):Nat):Int)) (IntKind.bits .u64)=4*(15-k)by simp[IntKind.bits];omega];rfl) ?_;refine um ((Lu n (15-k):Nat):Int) (hb:=fun _=>GZ n (15-k)) ?_;have hnib:=wP n (15-k);refine aA ?_;refine df [.int .u8 _] ?_;refine gL (hb:=ae) ?_;refine ax ?_;rw[<-BG n k ae];refine aZ ?_;exact⟨k+1,ae,ae,(a7.to [(14,0)] ah ah (by repeat(first|exact dp.nil|refine dp.un ?_|refine dp.eq ah ?_|refine dp.nl (aj (D.int .i64) ae) ah ?_)) (by refine bo.nl 14 ah ah ah eK ?_;exact bo.nil))⟩
 refine aB ?_;refine Hd (fO n) (he:=fun _=>sA.all ah aJ) (hs:=fun _=>by rw[ed (by rw[gY];omega)]) ?_;refine ay ?_;exact c9 rfl
def C313 (Y:Ctx):Prop:=zr (bx Y 313)
noncomputable def Gb:aC:=cP 68
def w499  (s:au)   :dh Y Gb (.tup [.int .u64 (oT s),.bool (iI s)]) [.str s]:=by
 show bJ _ _ _ [⟨_,_⟩,_,_,_,_,_,_,_,_,_,_,_] _;refine ar ?_;refine aZ ?_;intro u0;refine ax ?_;refine cF (fun hc0=>?_) fun hc0=>?_
 .refine aD ?_;refine bF (aH (aj (D.int .u64) ?_) (aj D.bool ?_));all_goals
   have:iI s=false:=by simp only[iI];rw[cG (by omega:¬s.length=16)];rfl
   simp[oT,this]
 refine bL ?_;intro u1;refine ax ?_;have h16:s.length=16:=ae;have hP:iI s=cQ (fun i=>jz (at8 s i)) 0 s.length:=by simp only[iI];rw[b9 h16];rfl
 refine ba hm (ι:=Nat) (fun i=>[⟨true,.str s⟩,.un,.un,.un,⟨true,.int .i64 (i:Nat)⟩,⟨true,.int .i64 (s.length:Nat)⟩,.un,.un,.un,.un,⟨true,.int .u64 (ou (s.take i))⟩,.un]) (fun i=>[]) 9 (fun i=>i<=s.length/\s.length=16/\iI s=cQ (fun i=>jz (at8 s i)) i s.length) (fun i=>s.length-i) 0 ⟨ae,h16,hP⟩ (dr []) ?_;rintro i ⟨hi,h16,hr⟩;refine ay ?_;refine cF (fun hc1=>?_) fun hc1=>?_
 .refine TZ ?_;refine fM (fun hc2=>?_) fun hc2=>?_
  .refine aA ?_;have h256:=vT s i;have hz:jz (at8 s i)=true:=by simp only[jz,bn,cM,bB,aK];omega
   have hv:qU (at8 s i)=at8 s i-48:=by unfold qU;rw[aw (by simp only[bn,bB,aK];omega)]
   refine aA ?_;refine Hf (tv (ou (s.take i)) 4) (hb:=fun _=>by rw[show min (Int.toNat (4:Int)) (IntKind.bits .u64)=4 by simp[IntKind.bits]];rfl) ?_;refine aA ?_;refine qy (at8 s i-48) (hb:=fun _=>IntWalk.u8_in _ ae) ?_;refine lJ (at8 s i-48) (hb:=fun _=>by rw[IntKind.wrap_u64];omega) ?_;refine He (ou (s.take (i+1))) (hb:=fun _=>by rw[ur s i ae];unfold r7;rw[hv];rfl) ?_;refine cZ ?_;exact⟨i+1,⟨ae,h16,by rw[hr,aU ae,hz];rfl⟩,ae,(dr [])⟩
  refine cZ ?_;refine fM (fun hc3=>?_) fun hc3=>?_
  .refine aA ?_;have h256:=vT s i;have hz:jz (at8 s i)=true:=by simp only[jz,bn,cM,bB,aK];omega
   have hv:qU (at8 s i)=at8 s i-87:=by unfold qU;rw[ak (by simp only[bn,bB,aK];omega)]
   refine aA ?_;refine Hf (tv (ou (s.take i)) 4) (hb:=fun _=>by rw[show min (Int.toNat (4:Int)) (IntKind.bits .u64)=4 by simp[IntKind.bits]];rfl) ?_;refine aA ?_;refine qy (at8 s i-97) (hb:=fun _=>IntWalk.u8_in _ ae) ?_;refine Be (at8 s i-87) (hb:=fun _=>by rw[show at8 s i-97+10=at8 s i-87 by omega];exact IntWalk.u8_in _ ae) ?_;refine lJ (at8 s i-87) (hb:=fun _=>by rw[IntKind.wrap_u64];omega) ?_;refine He (ou (s.take (i+1))) (hb:=fun _=>by rw[ur s i ae];unfold r7;rw[hv];rfl) ?_;refine cZ ?_;exact⟨i+1,⟨ae,h16,by rw[hr,aU ae,hz];rfl⟩,ae,(dr [])⟩
  refine bL ?_;refine bF (aH (aj (D.int .u64) ?_) (aj D.bool ?_));all_goals
   have hz:jz (at8 s i)=false:=by simp only[jz,bn,dd,dy,bc];omega
   have:iI s=false:=by rw[hr,aU ae,hz];rfl
   simp[oT,this]
 refine bL ?_;refine bF (aH (aj (D.int .u64) ?_) (aj D.bool ?_));all_goals
  have:iI s=true:=by rw[hr,cj ae]
  have ht:s.take i=s:=ed ae;simp[oT,this,ht]
def zt (T:List D->D->Prop):Prop:=∀(s:au),T [.str s] (.tup [.int .u64 (oT s),.bool (iI s)])
def C499 (Y:Ctx):Prop:=zt (bx Y 499)
noncomputable def Cs:aC:=cP 115
def w466 (h209:IE Y)(h451:Xg Y)(h533:NH Y)(h658:Qm Y)(h675:C675 Y)(s:au)  (hp0:s.length<=1048576):dh Y Cs (.tup [cn.D ((gf s).getD gm),.int .i64 (oK s)]) [.str s]:=by
 show bJ _ _ _ [⟨_,_⟩,_,_,_,_,_,_,_,_,_,_,_,_,_,_,_,_,_] _;have hb1:=kn s 43;have B3:=kn (aG s 43).2 45;generalize hA:aG s 43=A at hb1 B3;generalize hB:aG A.2 45=B at B3;have hsl:=dk B.2 46;generalize hL:ai B.2 46=L at hsl;have hq0:gf s=if L.length=3/\fU L[0]! =true/\fU L[1]! =true/\fU L[2]! =true then(if eZ ⟨ef L[0]!,ef L[1]!,ef L[2]!,B.1,A.1⟩=true/\jW ⟨ef L[0]!,ef L[1]!,ef L[2]!,B.1,A.1⟩=s then some ⟨ef L[0]!,ef L[1]!,ef L[2]!,B.1,A.1⟩else none)else none:=by subst hA;subst hB;subst hL;rfl
 refine ar ?_;refine gu ?_;refine aq (hc:=h675 s 43) ?_;rw[hA];refine aB ?_;refine aI (cn.D ⟨0,0,0,[],A.1⟩) (he:=aQ) ?_;refine aB ?_;refine aq (hc:=h675 A.2 45) ?_;rw[hB];refine aB ?_;refine aI (cn.D ⟨0,0,0,B.1,A.1⟩) (he:=aQ) ?_;refine aB ?_;refine aq (hc:=h533 B.2 46 ae) ?_;rw[hL];refine aD ?_;intro u0;refine ax ?_;refine cF (fun hc0=>?_) fun hc0=>?_
 .refine ax ?_;refine bg (cn.D gm) ?_;refine aB ?_;refine bF (aH ?_ (aj (D.int .i64) ?_));all_goals
   have hq:gf s=none:=by rw[hq0,ak (fun h=>by have:=h.1;omega)]
   simp only[oK,hq];rfl
 refine bL ?_;intro u1;refine ax ?_;refine ba hm (ι:=Nat) (fun i=>[⟨true,.str s⟩,⟨true,.ptr 0 5 0 0⟩,.un,.un,⟨true,.ptr 2 5 0 0⟩,.un,.un,⟨true,.int .i64 (i:Nat)⟩,⟨true,.int .i64 (L.length:Nat)⟩,.un,⟨true,.sl 1 (L.map D.str)⟩,.un,.un,.un,.un,.un,⟨true,.ptr 27 3 0 0⟩,.un]) (fun i=>[(0,.buf 5 [cn.D gm]),(2,.buf 5 [cn.D ⟨0,0,0,B.1,A.1⟩]),(27,.buf 3 [OV L i])]) 31 (fun i=>i<=3/\∀j,j<i->fU L[j]! =true) (fun i=>3-i) 0 ⟨ae,fun j hj=>ae⟩ (dr [(0,0),(2,2),(27,27)]) ?_;rintro i ⟨hi,hr⟩;refine ay ?_;refine cF (fun hc1=>?_) fun hc1=>?_
 .refine fH ?_;refine aq (hc:=h658 L[i]!) ?_;refine fH ?_;refine av (fun hc2=>?_) (fun hc2=>?_)
  .simp only[bd]at hc2;refine ax ?_;refine bg (cn.D gm) ?_;refine aD ?_;refine bF (aH ?_ (aj (D.int .i64) ?_));all_goals
    have hq:gf s=none:=by
     rw[hq0,ak];rintro⟨_,h1,h2,h3⟩;rcases(show i=0\/i=1\/i=2 by omega)with rfl|rfl|rfl
     .rw[h1]at hc2;cases hc2
     .rw[h2]at hc2;cases hc2
     .rw[h3]at hc2;cases hc2
    simp only[oK,hq];rfl
  simp only[bK]at hc2;refine aB ?_;refine rX i ?_;refine aI (OV L (i+1)) (he:=GX L i ae) ?_;refine aZ ?_;have hr2:∀j,j<i+1->fU L[j]! =true:=by
   intro j hj;rcases Nat.eq_or_lt_of_le (Nat.lt_succ_iff.1 hj)with rfl|h
   .exact hc2
   .exact hr j h
  exact⟨i+1,⟨ae,hr2⟩,ae,(dr [(0,0),(2,2),(27,27)])⟩
 refine ax ?_;refine eH 27 ?_;refine aA ?_;have h3:i=3:=ae;subst h3;refine JE 0 ?_;refine e7 (v:=.int .i64 (ef L[0]!)) ?_;refine JE 1 ?_;refine Bf (v:=.int .i64 (ef L[1]!)) ?_;refine JE 2 ?_;refine Bf (v:=.int .i64 (ef L[2]!)) ?_;refine aA ?_;refine aI (cn.D ⟨ef L[0]!,0,0,B.1,A.1⟩) (he:=aQ) ?_;refine aA ?_;refine aI (cn.D ⟨ef L[0]!,ef L[1]!,0,B.1,A.1⟩) (he:=aQ) ?_;refine aA ?_;refine aI (cn.D ⟨ef L[0]!,ef L[1]!,ef L[2]!,B.1,A.1⟩) (he:=aQ) ?_;refine ay ?_;have hsm:cn.sm ⟨ef L[0]!,ef L[1]!,ef L[2]!,B.1,A.1⟩:=⟨by simp only;omega,by simp only;omega⟩;generalize hV:(⟨ef L[0]!,ef L[1]!,ef L[2]!,B.1,A.1⟩:cn)=V at hsm hq0⊢;refine aA ?_;refine aq (hc:=h209 V hsm) ?_;refine ay ?_;refine c8 (hc:=fun _=>h451 V hsm) ?_;refine aB ?_;refine av (fun hc3=>?_) (fun hc3=>?_)
 .simp only[cM,bd,bc]at hc3;refine ax ?_;refine bg (cn.D gm) ?_;refine aB ?_;refine bF (aH ?_ (aj (D.int .i64) ?_));all_goals
   have hq:gf s=none:=by
    rw[hq0];split
    .rw[ak];rintro⟨h1,h2⟩;rcases hc3 with h|h
     .rw[h1]at h;cases h
     .exact h h2
    .rfl
   simp only[oK,hq];rfl
 simp only[dd,bK,aK]at hc3;refine aZ ?_;refine bF (aH ?_ (aj (D.int .i64) ?_));all_goals
  have hq:gf s=some V:=by
   rw[hq0,aw ⟨ae,hr 0 ae,hr 1 ae,hr 2 ae⟩,aw hc3]
  simp only[oK,hq];rfl
def zq (T:List D->D->Prop):Prop:=∀(s:au),(s.length<=1048576)->T [.str s] (.tup [cn.D ((gf s).getD gm),.int .i64 (oK s)])
def C466 (Y:Ctx):Prop:=zq (bx Y 466)
noncomputable def JM:aC:=cP 255
def w955  (l:List bZ)(nm:au)   :dh Y JM (.int .i64 (findF l nm 0)) [.sl 2 (l.map bZ.D),.str nm]:=by
 show bJ _ _ _ [⟨_,_⟩,⟨_,_⟩,_,_,_,_] _;refine ar ?_;refine aD ?_;refine ba hm (ι:=Nat) (fun i=>[⟨true,.sl 2 (l.map bZ.D)⟩,⟨true,.str nm⟩,.un,⟨true,.int .i64 (i:Nat)⟩,.un,.un]) (fun i=>[]) 2 (fun i=>i<=l.length/\findF l nm 0=findF l nm i) (fun i=>l.length-i) 0 ⟨ae,rfl⟩ (dr []) ?_;rintro i ⟨hi,hr⟩;refine aE ?_;intro u0;refine ax ?_;refine cF (fun hc0=>?_) fun hc0=>?_
 .refine fH ?_;refine fM (fun hc1=>?_) fun hc1=>?_
  .refine aZ ?_;refine cX ?_;rw[hr,Gi ae hc1]
  refine bL ?_;exact⟨i+1,⟨ae,by rw[hr,Gj ae hc1]⟩,ae,(dr [])⟩
 refine aD ?_;refine cX ?_;rw[hr,CU ae]
def zQ (T:List D->D->Prop):Prop:=∀(l:List bZ) (nm:au),T [.sl 2 (l.map bZ.D),.str nm] (.int .i64 (findF l nm 0))
def C955 (Y:Ctx):Prop:=zQ (bx Y 955)
noncomputable def Er:aC:=cP 182
def w663  (l:List bZ)(nm:au)   :dh Y Er (.int .i64 (findF l nm 0)) [.sl 2 (l.map bZ.D),.str nm]:=by
 show bJ _ _ _ [⟨_,_⟩,⟨_,_⟩,_,_,_,_,_,_,_,_] _;refine ar ?_;refine aD ?_;intro u0;refine ax ?_;refine ba hm (ι:=Nat) (fun i=>[⟨true,.sl 2 (l.map bZ.D)⟩,⟨true,.str nm⟩,.un,⟨true,.int .i64 (i:Nat)⟩,⟨true,.int .i64 (l.length:Nat)⟩,.un,⟨true,.sl 2 (l.map bZ.D)⟩,.un,.un,.un]) (fun i=>[]) 4 (fun i=>i<=l.length/\findF l nm 0=findF l nm i) (fun i=>l.length-i) 0 ⟨ae,rfl⟩ (dr []) ?_;rintro i ⟨hi,hr⟩;refine ay ?_;refine cF (fun hc0=>?_) fun hc0=>?_
 .refine aE ?_;first|refine bD (v:=(bZ.D _)) ?_|refine e7 (v:=(bZ.D _)) ?_
  refine ax ?_;refine aI (bZ.D l[i]!) (he:=aQ) ?_;refine aZ ?_;refine fM (fun hc1=>?_) fun hc1=>?_
  .refine aZ ?_;refine cX ?_;rw[hr,Gi ae hc1]
  refine aZ ?_;exact⟨i+1,⟨ae,by rw[hr,Gj ae hc1]⟩,ae,(dr [])⟩
 refine aD ?_;refine cX ?_;rw[hr,CU ae]
def C663 (Y:Ctx):Prop:=zQ (bx Y 663)
noncomputable def S6:aC:=cP 222
def w816 {Y:Ctx}(hm:(Y.at 0).b7)(h955:C955 Y)(l:List bZ)(nm:au)   :dh Y S6 (.bool (RC l nm)) [.sl 2 (l.map bZ.D),.str nm]:=by
 show bJ _ _ _ [⟨_,_⟩,⟨_,_⟩,_] _;refine ar ?_;refine bL ?_;refine aq (hc:=h955 _ _) ?_;refine aE ?_;exact bU rfl
def zN (T:List D->D->Prop):Prop:=∀(l:List bZ) (nm:au),T [.sl 2 (l.map bZ.D),.str nm] (.bool (RC l nm))
def C816 (Y:Ctx):Prop:=zN (bx Y 816)
noncomputable def Cb:aC:=cP 143
def w449 {Y:Ctx}(hm:(Y.at 0).b7)(h663:C663 Y)(l:List bZ)(nm:au)   :dh Y Cb (.bool (RC l nm)) [.sl 2 (l.map bZ.D),.str nm]:=by
 show bJ _ _ _ [⟨_,_⟩,⟨_,_⟩,_] _;refine ar ?_;refine bL ?_;refine aq (hc:=h663 _ _) ?_;refine aE ?_;exact bU rfl
def C449 (Y:Ctx):Prop:=zN (bx Y 449)
noncomputable def JN:aC:=cP 192
def w672 {Y:Ctx}(hm:(Y.at 0).b7)(h216:IF Y)(h357:IJ Y)(h470:tz Y)(s:au)  (hp0:s.length<=1048576):dh Y JN (.tup [.int .i64 (dJ s).1,.str (dJ s).2.1,.str (dJ s).2.2]) [.str s]:=by
 show bJ _ _ _ [⟨_,_⟩,_,_,_,_,_,_,_] _;refine ar ?_;refine aZ ?_;refine aq (hc:=h357 _) ?_;refine aA ?_;refine cF (fun hc0=>?_) fun hc0=>?_
 .refine bL ?_;refine bF (di (aj (D.int .i64) ?_) (aj D.str ?_) (aj D.str ?_));all_goals rw[K5 hc0]
 refine aE ?_;intro u0;refine ay ?_;refine pU 0 ?_;refine aB ?_;refine fu 1 (hb:=fun h=>by simp at h;omega) ?_;refine aq (hc:=h357 _) ?_;refine ax ?_;refine cF (fun hc1=>?_) fun hc1=>?_
 .refine ay ?_;refine fu 1 (hb:=fun h=>ae) ?_;refine aE ?_;refine bF (di (aj (D.int .i64) ?_) (aj D.str ?_) (aj D.str ?_));all_goals rw[K6 hc0 hc1]
 refine ay ?_;refine aq (hc:=h470 _ _ ?_) ?_;rotate_left;first|assumption|omega
 refine aD ?_;intro u1;refine ay ?_;refine bH 0 ?_;refine aA ?_;refine aq (hc:=h216 _) ?_;refine ay ?_;refine bH 1 ?_;refine aA ?_;refine aq (hc:=h357 _) ?_;refine ax ?_;refine cF (fun hc2=>?_) fun hc2=>?_
 .refine ay ?_;refine bH 0 ?_;refine ax ?_;refine bH 1 ?_;refine aD ?_;refine bF (di (aj (D.int .i64) ?_) (aj D.str ?_) (aj D.str ?_));all_goals rw[K7 hc0 hc1 hc2]
 refine aZ ?_;refine bF (di (aj (D.int .i64) ?_) (aj D.str ?_) (aj D.str ?_));all_goals rw[K4 hc0 hc1 hc2]
def zF (T:List D->D->Prop):Prop:=∀(s:au),(s.length<=1048576)->T [.str s] (.tup [.int .i64 (dJ s).1,.str (dJ s).2.1,.str (dJ s).2.2])
def XD (Y:Ctx):Prop:=zF (bx Y 672)
noncomputable def Hr:aC:=cP 191
def w671 (h672:XD Y)(h815:XI Y)(h816:C816 Y)(l:List bZ)(of:List au)  (hp0:∀t∈of,t.length<=1048576):dh Y Hr (.bool (lV l of)) [.sl 2 (l.map bZ.D),.sl 1 (of.map D.str)]:=by
 show bJ _ _ _ [⟨_,_⟩,⟨_,_⟩,_,_,_,_,_,_,_] _;refine ar ?_;refine aD ?_;intro u0;refine ay ?_;refine aq (hc:=h815 _) ?_;refine ay ?_;refine av (fun hc0=>?_) (fun hc0=>?_)
 .simp only[cM,aK,bd]at hc0;refine aE ?_;refine bU ?_;symm;simp only[lV];rcases hc0 with h|h
  .rw[cG ae];rfl
  .rw[h,Bool.and_false];rfl
 simp only[dd,bc,bK]at hc0;refine aE ?_;have hb:lV l of=cQ (fun i=>iT l of[i]!) 0 of.length:=by simp only[lV,hc0.2];rw[b9 ae];rfl
 refine ba hm (ι:=Nat) (fun i=>[⟨true,.sl 2 (l.map bZ.D)⟩,⟨true,.sl 1 (of.map D.str)⟩,.un,.un,⟨true,.int .i64 (i:Nat)⟩,.un,.un,.un,.un]) (fun i=>[]) 10 (fun i=>i<=of.length/\lV l of=cQ (fun i=>iT l of[i]!) i of.length) (fun i=>of.length-i) 0 ⟨ae,hb⟩ (dr []) ?_;rintro i ⟨hi,hr⟩;refine aE ?_;intro u1;refine ax ?_;refine cF (fun hc1=>?_) fun hc1=>?_
 .refine aZ ?_;refine aq (hc:=h672 of[i]! (hp0 _ (bE ae))) ?_;refine BY ?_;refine aq (hc:=h816 _ _) ?_;refine aB ?_;refine wp_cond (fun hc2=>?_) (fun hc2=>?_)
  .have hz:iT l of[i]! =false:=by simp only[iT,hc2];rfl
   refine aD ?_;refine bU ?_;rw[hr,aU ae,hz];rfl
  have hz:iT l of[i]! =true:=by simp only[iT,hc2];rfl
  refine bL ?_;exact⟨i+1,⟨ae,by rw[hr,aU ae,hz];rfl⟩,ae,(dr [])⟩
 refine aD ?_;refine bU ?_;rw[hr,cj ae]
def M7 (T:List D->D->Prop):Prop:=∀(l:List bZ) (of:List au),(∀t∈of,t.length<=1048576)->T [.sl 2 (l.map bZ.D),.sl 1 (of.map D.str)] (.bool (lV l of))
def C671 (Y:Ctx):Prop:=M7 (bx Y 671)
noncomputable def Pk:aC:=cP 151
def w459 (h357:IJ Y)(h671:C671 Y)(l:List bZ)  (hp0:yG l):dh Y Pk (.bool (iv l)) [.sl 2 (l.map bZ.D)]:=by
 show bJ _ _ _ [⟨_,_⟩,_,_,_,_,_] _;refine ar ?_;refine aD ?_;intro u0;refine ax ?_;refine cF (fun hc0=>?_) fun hc0=>?_
 .refine aE ?_;refine bU ?_;symm;simp only[iv];rw[cG ae];rfl
 refine aE ?_;have hb:iv l=cQ (jJ l) 0 l.length:=by simp only[iv];rw[b9 ae];rfl
 refine ba hm (ι:=Nat) (fun i=>[⟨true,.sl 2 (l.map bZ.D)⟩,.un,.un,⟨true,.int .i64 (i:Nat)⟩,.un,.un]) (fun i=>[]) 5 (fun i=>i<=l.length/\iv l=cQ (jJ l) i l.length) (fun i=>l.length-i) 0 ⟨ae,hb⟩ (dr []) ?_;rintro i ⟨hi,hr⟩;refine aE ?_;intro u1;refine ax ?_;refine cF (fun hc1=>?_) fun hc1=>?_
 .refine bL ?_;refine aq (hc:=h357 _) ?_;refine bL ?_;refine bH (i-1) ?_;refine BY ?_;refine aq (hc:=h671 l l[i]!.of (hp0 _ (bE ae)).2.2) ?_;refine ay ?_;refine fM (fun hc2=>?_) fun hc2=>?_
  .refine aD ?_;refine bU ?_;have hz:jJ l i=false:=by
    simp only[jJ];revert hc2;generalize cV l[i]!.name=z0;generalize Op.bytesLess l[i-1]!.name l[i]!.name=z1;generalize lV l l[i]!.of=z2;by_cases e0:0<i<;>cases z0<;>cases z1<;>cases z2<;>simp_all
   rw[hr,aU ae,hz];rfl
  refine bL ?_;have hz:jJ l i=true:=by
   simp only[jJ];revert hc2;generalize cV l[i]!.name=z0;generalize Op.bytesLess l[i-1]!.name l[i]!.name=z1;generalize lV l l[i]!.of=z2;by_cases e0:0<i<;>cases z0<;>cases z1<;>cases z2<;>simp_all
  exact⟨i+1,⟨ae,by rw[hr,aU ae,hz];rfl⟩,ae,(dr [])⟩
 refine aD ?_;refine bU ?_;rw[hr,cj ae]
def zp (T:List D->D->Prop):Prop:=∀(l:List bZ),(yG l)->T [.sl 2 (l.map bZ.D)] (.bool (iv l))
def C459 (Y:Ctx):Prop:=zp (bx Y 459)
noncomputable def Es:aC:=cP 142
def w448 {Y:Ctx}(hm:(Y.at 0).b7)(h208:ND Y)(h254:W9 Y)(h349:II Y)(h487:Xp Y)(s:au)  (hp0:s.length<=1048576):dh Y Es (.tup [.int .i64 (dJ s).1,.str (dJ s).2.1,.str (dJ s).2.2]) [.str s]:=by
 show bJ _ _ _ [⟨_,_⟩,_,_,_,_,_,_,_,_,_,_,_] _;refine ar ?_;refine aZ ?_;refine aq (hc:=h349 _) ?_;refine aA ?_;refine cF (fun hc0=>?_) fun hc0=>?_
 .refine bL ?_;refine bF (di (aj (D.int .i64) ?_) (aj D.str ?_) (aj D.str ?_));all_goals rw[K5 hc0]
 refine aB ?_;refine aq (hc:=h254 s [63] hp0 aF) ?_;refine fH ?_;refine aq (hc:=h349 _) ?_;refine ax ?_;refine cF (fun hc1=>?_) fun hc1=>?_
 .refine bL ?_;refine bF (di (aj (D.int .i64) ?_) (aj D.str ?_) (aj D.str ?_));all_goals rw[Vb hc0 hc1]
 refine aB ?_;refine aq (hc:=h487 s 47 hp0) ?_;refine lN ?_;refine aq (hc:=h208 _) ?_;refine ay ?_;refine aq (hc:=h349 _) ?_;refine ax ?_;refine cF (fun hc2=>?_) fun hc2=>?_
 .refine cZ ?_;refine bF (di (aj (D.int .i64) ?_) (aj D.str ?_) (aj D.str ?_));all_goals rw[Vc hc0 hc1 hc2]
 refine aZ ?_;refine bF (di (aj (D.int .i64) ?_) (aj D.str ?_) (aj D.str ?_));all_goals rw[U9 hc0 hc1 hc2]
def Xe (Y:Ctx):Prop:=zF (bx Y 448)
noncomputable def Gg:aC:=cP 98
def w213 (h349:II Y)(h447:C447 Y)(h448:Xe Y)(h449:C449 Y)(l:List bZ)  (hp0:yG l):dh Y Gg (.bool (iv l)) [.sl 2 (l.map bZ.D)]:=by
 show bJ _ _ _ [⟨_,_⟩,_,_,_,_,_,_,_,_,_,_,_,_,_,_,_,_,_] _;refine ar ?_;refine aD ?_;intro u0;refine ax ?_;refine cF (fun hc0=>?_) fun hc0=>?_
 .refine aE ?_;refine bU ?_;symm;simp only[iv];rw[cG ae];rfl
 refine aE ?_;intro u1;refine ax ?_;have hb:iv l=cQ (jJ l) 0 l.length:=by simp only[iv];rw[b9 ae];rfl
 refine ba hm (ι:=Nat) (fun i=>[⟨true,.sl 2 (l.map bZ.D)⟩,.un,.un,⟨true,.int .i64 (i:Nat)⟩,⟨true,.int .i64 (l.length:Nat)⟩,.un,⟨true,.sl 2 (l.map bZ.D)⟩,.un,.un,.un,.un,.un,.un,.un,.un,.un,.un,.un]) (fun i=>[]) 7 (fun i=>i<=l.length/\iv l=cQ (jJ l) i l.length) (fun i=>l.length-i) 0 ⟨ae,hb⟩ (dr []) ?_;rintro i ⟨hi,hr⟩;refine ay ?_;refine cF (fun hc1=>?_) fun hc1=>?_
 .refine aE ?_;first|refine bD (v:=(bZ.D _)) ?_|refine e7 (v:=(bZ.D _)) ?_
  refine ax ?_;refine aI (bZ.D l[i]!) (he:=aQ) ?_;refine aE ?_;refine aq (hc:=h349 _) ?_;refine bL ?_;refine bH (i-1) ?_;refine fS ?_;refine ik ?_;refine aE ?_;refine aq (hc:=h447 _) ?_;refine ay ?_;refine av (fun hc2=>?_) (fun hc2=>?_)
  .have hfo:=Od hc2;refine aZ ?_;refine bU ?_;rw[hr,aU ae,hfo];rfl
  have hfo:=Oe hc2;refine aE ?_;intro u2;refine ax ?_;refine qG hm (ι:=Nat) (fun j=>[⟨true,.sl 2 (l.map bZ.D)⟩,.un,.un,⟨true,.int .i64 (i:Nat)⟩,⟨true,.int .i64 (l.length:Nat)⟩,.un,⟨true,.sl 2 (l.map bZ.D)⟩,.un,.un,.un,⟨true,.int .i64 (j:Nat)⟩,⟨true,.int .i64 (l[i]!.of.length:Nat)⟩,.un,⟨true,.sl 1 (l[i]!.of.map D.str)⟩,.un,.un,.un,.un]) (fun j=>[]) 49 (fun j=>j<=l[i]!.of.length/\jJ l i=cQ (fun j=>iT l l[i]!.of[j]!) j l[i]!.of.length) (fun j=>l[i]!.of.length-j) 0 ⟨ae,hfo⟩ (dr []) ?_;rintro j ⟨hj,hjr⟩;refine ay ?_;refine cF (fun hc3=>?_) fun hc3=>?_
  .refine cZ ?_;refine aq (hc:=h448 l[i]!.of[j]! ((hp0 _ (bE ae)).2.2 _ (bE ae))) ?_;refine BY ?_;refine aq (hc:=h449 _ _) ?_;refine aB ?_;refine wp_cond (fun hc4=>?_) (fun hc4=>?_)
   .have hz:iT l l[i]!.of[j]! =false:=by simp only[iT,hc4];rfl
    refine bL ?_;refine bU ?_;rw[hr,aU ae,hjr,aU ae,hz];rfl
   have hz:iT l l[i]!.of[j]! =true:=by simp only[iT,hc4];rfl
   refine aZ ?_;exact⟨j+1,⟨ae,by rw[hjr,aU ae,hz];rfl⟩,ae,(dr [])⟩
  refine bL ?_;exact⟨i+1,⟨ae,by rw[hr,aU ae,hjr,cj ae];rfl⟩,ae,(dr [])⟩
 refine aD ?_;refine bU ?_;rw[hr,cj ae]
def ZN (Y:Ctx):Prop:=zp (bx Y 213)
noncomputable def Px:aC:=cP 132
def w678 {Y:Ctx}(hm:(Y.at 0).b7)  (op:Int)   :dh Y Px (.str (dP op)) [.int .i64 op]:=by
 show bJ _ _ _ [⟨_,_⟩,_,_,_,_,_,_,_,_,_,_] _;refine ar ?_;refine fH ?_;refine fM (fun hc0=>?_) fun hc0=>?_
 .refine aE ?_;refine c9 ?_;unfold dP;simp_all
 refine aB ?_;refine fM (fun hc1=>?_) fun hc1=>?_
 .refine aE ?_;refine c9 ?_;unfold dP;simp_all
 refine aB ?_;refine fM (fun hc2=>?_) fun hc2=>?_
 .refine aE ?_;refine c9 ?_;unfold dP;simp_all
 refine aB ?_;refine fM (fun hc3=>?_) fun hc3=>?_
 .refine aE ?_;refine c9 ?_;unfold dP;simp_all
 refine aB ?_;refine fM (fun hc4=>?_) fun hc4=>?_
 .refine aE ?_;refine c9 ?_;unfold dP;simp_all
 refine aB ?_;refine fM (fun hc5=>?_) fun hc5=>?_
 .refine aE ?_;refine c9 ?_;unfold dP;simp_all
 refine aB ?_;refine fM (fun hc6=>?_) fun hc6=>?_
 .refine aE ?_;refine c9 ?_;unfold dP;simp_all
 refine aB ?_;refine fM (fun hc7=>?_) fun hc7=>?_
 .refine aE ?_;refine c9 ?_;unfold dP;simp_all
 refine aD ?_;refine c9 ?_;unfold dP;simp_all
def zH (T:List D->D->Prop):Prop:=∀(op:Int),T [.int .i64 op] (.str (dP op))
def XG (Y:Ctx):Prop:=zH (bx Y 678)
noncomputable def N4:aC:=cP 257
def w957 {Y:Ctx}(hm:(Y.at 0).b7)  (op:Int)   :dh Y N4 (.str (dP op)) [.int .i64 op]:=by
 show bJ _ _ _ [⟨_,_⟩,_,_,_,_,_,_,_,_,_,_] _;refine ar ?_;refine fH ?_;refine fM (fun hc0=>?_) fun hc0=>?_
 .refine aE ?_;refine c9 ?_;unfold dP;simp_all
 refine aB ?_;refine fM (fun hc1=>?_) fun hc1=>?_
 .refine aE ?_;refine c9 ?_;unfold dP;simp_all
 refine aB ?_;refine fM (fun hc2=>?_) fun hc2=>?_
 .refine aE ?_;refine c9 ?_;unfold dP;simp_all
 refine aB ?_;refine fM (fun hc3=>?_) fun hc3=>?_
 .refine aE ?_;refine c9 ?_;unfold dP;simp_all
 refine aB ?_;refine fM (fun hc4=>?_) fun hc4=>?_
 .refine aE ?_;refine c9 ?_;unfold dP;simp_all
 refine aB ?_;refine fM (fun hc5=>?_) fun hc5=>?_
 .refine aE ?_;refine c9 ?_;unfold dP;simp_all
 refine aB ?_;refine fM (fun hc6=>?_) fun hc6=>?_
 .refine aE ?_;refine c9 ?_;unfold dP;simp_all
 refine aB ?_;refine fM (fun hc7=>?_) fun hc7=>?_
 .refine aE ?_;refine c9 ?_;unfold dP;simp_all
 refine aD ?_;refine c9 ?_;unfold dP;simp_all
def XQ (Y:Ctx):Prop:=zH (bx Y 957)
noncomputable def HG:aC:=cP 285
def w1079 {Y:Ctx}(hm:(Y.at 0).b7)  (s:au)(w:au)   :dh Y HG (.bool (tD s w)) [.str s,.str w]:=by
 show bJ _ _ _ [⟨_,_⟩,⟨_,_⟩,_] _;refine ar ?_;refine aE ?_;intro u0;refine ax ?_;intro u1;refine aB ?_;refine ik ?_;refine kX w.length (hj:=fun _=>rfl) (hb:=fun h=>by simp at h;omega) ?_;refine aD ?_;refine bU ?_;unfold tD;rw[show decide ((w.length:Int)<=(s.length:Int))=decide (w.length<=s.length)from gO.2 ae]
def vK (T:List D->D->Prop):Prop:=∀(s:au) (w:au),T [.str s,.str w] (.bool (tD s w))
def Wb (Y:Ctx):Prop:=vK (bx Y 1079)
noncomputable def F7:aC:=cP 256
def w956 {Y:Ctx}(hm:(Y.at 0).b7)  (s:au)(w:au)   :dh Y F7 (.bool (tD s w)) [.str s,.str w]:=by
 show bJ _ _ _ [⟨_,_⟩,⟨_,_⟩,_] _;refine ar ?_;refine aE ?_;intro u0;refine ax ?_;intro u1;refine aB ?_;refine ik ?_;refine kX w.length (hj:=fun _=>rfl) (hb:=fun h=>by simp at h;omega) ?_;refine aD ?_;refine bU ?_;unfold tD;rw[show decide ((w.length:Int)<=(s.length:Int))=decide (w.length<=s.length)from gO.2 ae]
def C956 (Y:Ctx):Prop:=vK (bx Y 956)
noncomputable def Tc:aC:=cP 130
def w676 {Y:Ctx}(hm:(Y.at 0).b7)(h217:IG Y)(c:dH)  (hp0:c.v.sm):dh Y Tc (.bool (nw c)) [dH.D c]:=by
 show bJ _ _ _ [⟨_,_⟩,_,_,_,_,_,_,_] _;refine ar ?_;refine BW ?_;refine aT (v:=cn.D c.v) ?_;refine c8 (hc:=fun hf=>h217 c.v hp0) ?_;refine cZ ?_;refine av (fun hc0=>?_) (fun hc0=>?_)
 .have hq:=F6 hc0;refine aE ?_;refine bU ?_;rw[hq]
 have hy:=CJ hc0;refine fH ?_;refine av (fun hc1=>?_) (fun hc1=>?_)
 .simp only[aK]at hc1;have hz:=sH hy (lo:=0) (hi:=2) (aw hc1) (aw hc1);refine T0 ?_;refine av (fun hc2=>?_) (fun hc2=>?_)
  .rw[hc2]at hz;refine aE ?_;refine bU ?_;rw[hz];rfl
  rw[hc2]at hz;refine WY ?_;refine bU ?_;rw[hz];rfl
 simp only[bc]at hc1;have hz:=sH hy (lo:=1) (hi:=3) (ak hc1) (ak hc1);refine WX ?_;refine av (fun hc2=>?_) (fun hc2=>?_)
 .rw[hc2]at hz;refine aE ?_;refine bU ?_;rw[hz];rfl
 rw[hc2]at hz;refine WY ?_;refine bU ?_;rw[hz];rfl
def zG (T:List D->D->Prop):Prop:=∀(c:dH),(c.v.sm)->T [dH.D c] (.bool (nw c))
def XE (Y:Ctx):Prop:=zG (bx Y 676)
noncomputable def QW:aC:=cP 237
def w827 {Y:Ctx}(hm:(Y.at 0).b7)(h209:IE Y)(c:dH)  (hp0:c.v.sm):dh Y QW (.bool (nw c)) [dH.D c]:=by
 show bJ _ _ _ [⟨_,_⟩,_,_,_,_,_,_,_,_,_,_,_,_,_] _;refine ar ?_;refine BW ?_;refine aT (v:=cn.D c.v) ?_;refine c8 (hc:=fun hf=>h209 c.v hp0) ?_;refine cZ ?_;refine av (fun hc0=>?_) (fun hc0=>?_)
 .have hq:=F6 hc0;refine aE ?_;refine bU ?_;rw[hq]
 have hy:=CJ hc0;refine fH ?_;refine av (fun hc1=>?_) (fun hc1=>?_)
 .simp only[aK]at hc1;have hz:=sH hy (lo:=0) (hi:=2) (aw hc1) (aw hc1);refine T0 ?_;refine av (fun hc2=>?_) (fun hc2=>?_)
  .rw[Bool.and_comm (!decide (c.v.pre=[]))]at hc2;rw[hc2]at hz;refine aE ?_;refine bU ?_;rw[hz];simp[qP]<;>simp_all<;>omega
  rw[Bool.and_comm (!decide (c.v.pre=[]))]at hc2;rw[hc2]at hz;refine BX ?_;refine cF (fun hc3=>?_) fun hc3=>?_
  .refine bL ?_;refine fM (fun hc6=>?_) fun hc6=>?_
   .refine aZ ?_;refine bU ?_;rw[hz];simp[qP]<;>simp_all<;>omega
   refine bL ?_;refine fM (fun hc7=>?_) fun hc7=>?_
   .refine aD ?_;refine bU ?_;rw[hz];simp[qP]<;>simp_all<;>omega
   refine gu ?_;refine bU ?_;rw[hz];simp[qP]<;>simp_all<;>omega
  refine aZ ?_;refine cF (fun hc4=>?_) fun hc4=>?_
  .refine cZ ?_;refine fM (fun hc7=>?_) fun hc7=>?_
   .refine aD ?_;refine bU ?_;rw[hz];simp[qP]<;>simp_all<;>omega
   refine gu ?_;refine bU ?_;rw[hz];simp[qP]<;>simp_all<;>omega
  refine aD ?_;refine cF (fun hc5=>?_) fun hc5=>?_
  .refine sy ?_;refine bU ?_;rw[hz];simp[qP]<;>simp_all<;>omega
  refine fS ?_;refine bU ?_;rw[hz];simp[qP]<;>simp_all<;>omega
 simp only[bc]at hc1;have hz:=sH hy (lo:=1) (hi:=3) (ak hc1) (ak hc1);refine WX ?_;refine av (fun hc2=>?_) (fun hc2=>?_)
 .rw[Bool.and_comm (!decide (c.v.pre=[]))]at hc2;rw[hc2]at hz;refine aE ?_;refine bU ?_;rw[hz];simp[qP]<;>simp_all<;>omega
 rw[Bool.and_comm (!decide (c.v.pre=[]))]at hc2;rw[hc2]at hz;refine BX ?_;refine cF (fun hc3=>?_) fun hc3=>?_
 .refine bL ?_;refine fM (fun hc6=>?_) fun hc6=>?_
  .refine aZ ?_;refine bU ?_;rw[hz];simp[qP]<;>simp_all<;>omega
  refine bL ?_;refine fM (fun hc7=>?_) fun hc7=>?_
  .refine aD ?_;refine bU ?_;rw[hz];simp[qP]<;>simp_all<;>omega
  refine gu ?_;refine bU ?_;rw[hz];simp[qP]<;>simp_all<;>omega
 refine aZ ?_;refine cF (fun hc4=>?_) fun hc4=>?_
 .refine cZ ?_;refine fM (fun hc7=>?_) fun hc7=>?_
  .refine aD ?_;refine bU ?_;rw[hz];simp[qP]<;>simp_all<;>omega
  refine gu ?_;refine bU ?_;rw[hz];simp[qP]<;>simp_all<;>omega
 refine aD ?_;refine cF (fun hc5=>?_) fun hc5=>?_
 .refine sy ?_;refine bU ?_;rw[hz];simp[qP]<;>simp_all<;>omega
 refine fS ?_;refine bU ?_;rw[hz];simp[qP]<;>simp_all<;>omega
def Uf (Y:Ctx):Prop:=zG (bx Y 827)
noncomputable def I0:aC:=cP 238
def w828 (h665:XA Y)(h827:Uf Y)(h957:XQ Y)(c:dH)  (hp0:c.v.sm):dh Y I0 (.str (ek c)) [dH.D c]:=by
 show bJ _ _ _ [⟨_,_⟩,_,_,_,_,_,_,_,_,_,_,_,_,_,_,_] _;refine ar ?_;refine aD ?_;refine aq (hc:=h827 _ ?_) ?_;rotate_left;first|assumption|omega
 refine ax ?_;refine av (fun hc0=>?_) (fun hc0=>?_)
 .simp only[bd]at hc0;refine aE ?_;refine c9 ?_;simp[ek,hc0]
 simp only[bK]at hc0;obtain⟨hv,hp1,hp2,hp3,hp4⟩:=pC hc0;have hsl:=xe c.op;have hnl:=sU hv;refine aB ?_;refine aq (hc:=h957 _) ?_;refine lN ?_;refine df [(.int _ _),(.int _ _),(.int _ _)] ?_;refine aA ?_;intro u0;refine ax ?_;refine eH 18 ?_;refine ba hm (ι:=Nat) (fun i=>[.un,.un,⟨true,.ptr 0 7 0 0⟩,.un,⟨true,.int .i64 (i:Nat)⟩,⟨true,.int .i64 3⟩,.un,⟨true,.sl 1 (c.m8.map (D.int .i64))⟩,.un,.un,.un,⟨true,.str (dP c.op++gG c i)⟩,.un,.un,.un,.un]) (fun i=>[(0,.buf 7 [dH.D c])]) 21 (fun i=>i<=3/\i<=c.parts.toNat) (fun i=>3-i) 0 ⟨ae,ae⟩ (a7.to [(0,0)] ah ah (by repeat(first|exact dp.nil|refine dp.un ?_|refine dp.eq ah ?_|refine dp.nl (aj D.str (by first|(simp only[gG,aw hpos,eu];done)|(simp only[gG,ak hpos,eu,fe];done)|simp[gG])) ah ?_|refine dp.nl ah ah ?_)) pT) ?_;rintro i ⟨hi,hip⟩;have hni:=hnl i;have hfit:=rO hv i;have hn3:c.m8.length=3:=rfl;refine ay ?_;refine cF (fun hc1=>?_) fun hc1=>?_
 .refine BX ?_;refine cF (fun hc2=>?_) fun hc2=>?_
  .refine aE ?_;obtain rfl:i=c.parts.toNat:=ae;refine aB ?_;refine cF (fun hc4=>?_) fun hc4=>?_
   .refine aZ ?_;refine cF (fun hc5=>?_) fun hc5=>?_
    .refine ax ?_;refine fF ?_;refine aE ?_;refine fF ?_;refine ay ?_;refine c9 ?_;simp[ek,mB,lL,hc0, *]
    refine aB ?_;refine fF ?_;refine ay ?_;refine c9 ?_;simp[ek,mB,lL,hc0, *]
   refine bL ?_;refine cF (fun hc6=>?_) fun hc6=>?_
   .refine aA ?_;have hpl:=hp0.1;refine aB ?_;refine fF ?_;refine fF ?_;refine aZ ?_;refine c9 ?_;simp[ek,mB,lL,hc0, *]
   refine aD ?_;refine c9 ?_;simp[ek,mB,lL,hc0, *]
  refine aD ?_;refine av (fun hc3=>?_) (fun hc3=>?_)
  .simp only[aK]at hc3;have hpos:0<i:=ae;refine ax ?_;refine fF ?_;refine aE ?_;refine aq (hc:=h665 (c.m8[i]!) ⟨hfit.1,hfit.2⟩) ?_;have hdl:=eJ 4 (c.m8[i]!).toNat ae ae;refine fF ?_;refine bL ?_;exact⟨i+1,⟨ae,ae⟩,ae,(a7.to [(0,0)] ah ah (by repeat(first|exact dp.nil|refine dp.un ?_|refine dp.eq ah ?_|refine dp.nl (aj D.str (by first|(simp only[gG,aw hpos,eu];done)|(simp only[gG,ak hpos,eu,fe];done)|simp[gG])) ah ?_|refine dp.nl ah ah ?_)) pT)⟩
  simp only[bc]at hc3;have hpos:¬0<i:=ae;refine aB ?_;refine aq (hc:=h665 (c.m8[i]!) ⟨hfit.1,hfit.2⟩) ?_;have hdl:=eJ 4 (c.m8[i]!).toNat ae ae;refine fF ?_;refine bL ?_;exact⟨i+1,⟨ae,ae⟩,ae,(a7.to [(0,0)] ah ah (by repeat(first|exact dp.nil|refine dp.un ?_|refine dp.eq ah ?_|refine dp.nl (aj D.str (by first|(simp only[gG,aw hpos,eu];done)|(simp only[gG,ak hpos,eu,fe];done)|simp[gG])) ah ?_|refine dp.nl ah ah ?_)) pT)⟩
 refine aB ?_;obtain rfl:i=c.parts.toNat:=ae;refine aB ?_;refine cF (fun hc4=>?_) fun hc4=>?_
 .refine aZ ?_;refine cF (fun hc5=>?_) fun hc5=>?_
  .refine ax ?_;refine fF ?_;refine aE ?_;refine fF ?_;refine ay ?_;refine c9 ?_;simp[ek,mB,lL,hc0, *]
  refine aB ?_;refine fF ?_;refine ay ?_;refine c9 ?_;simp[ek,mB,lL,hc0, *]
 refine bL ?_;refine cF (fun hc6=>?_) fun hc6=>?_
 .refine aA ?_;have hpl:=hp0.1;refine aB ?_;refine fF ?_;refine fF ?_;refine aZ ?_;refine c9 ?_;simp[ek,mB,lL,hc0, *]
 refine aD ?_;refine c9 ?_;simp[ek,mB,lL,hc0, *]
def zO (T:List D->D->Prop):Prop:=∀(c:dH),(c.v.sm)->T [dH.D c] (.str (ek c))
def XJ (Y:Ctx):Prop:=zO (bx Y 828)
noncomputable def xa:aC:=cP 131
def w677 {Y:Ctx}(hm:(Y.at 0).b7)(c:dH)(h734:XH Y)(hp0:eZ c.v=true/\0<=c.parts/\c.parts<=3):bJ (Y.at 0) xa.body (jQ xa (One (.own 14 1 0 c.parts.toNat) [(0,.buf 7 [dH.D c]),(14,.buf 1 [.str (dI c.v.major.toNat),.str (dI c.v.minor.toNat),.str (dI c.v.patch.toNat)])]):Ex->List cg->St->Prop) (fD xa [dH.D c]) ⟨0,[]⟩:=by
 show bJ _ _ _ [⟨_,_⟩,_,_,_] _;refine ar ?_;refine aZ ?_;refine aq (hc:=h734 c.v.major (rO hp0.1 0)) ?_;refine ay ?_;refine aq (hc:=h734 c.v.minor (rO hp0.1 1)) ?_;refine ay ?_;refine aq (hc:=h734 c.v.patch (rO hp0.1 2)) ?_;refine df [.str _,.str _,.str _] ?_;refine aD ?_;refine vA c.parts.toNat (hj:=fun _=>ae) (hb:=fun _=>ae) ?_;refine ay ?_;refine bO trivial eg (bR ah (?_)) ah (oneq _ _);rfl
def XF (Y:Ctx):Prop:=∀(c:dH),(eZ c.v=true/\0<=c.parts/\c.parts<=3)->∀(nx:Nat) (m:List (Nat×bW)) (K:D->St->Prop),K (.own nx 1 0 c.parts.toNat) ⟨nx+1,(nx,.buf 1 [.str (dI c.v.major.toNat),.str (dI c.v.minor.toNat),.str (dI c.v.patch.toNat)])::m⟩->Y.tr 677 [dH.D c] ⟨nx,m⟩ K
noncomputable def J6:aC:=cP 91
def w482 {Y:Ctx}(hm:(Y.at 0).b7)(h249:NF Y)(h676:XE Y)(h677:XF Y)(h678:XG Y)(c:dH)  (hp0:c.v.sm):dh Y J6 (.str (ek c)) [dH.D c]:=by
 show bJ _ _ _ [⟨_,_⟩,_,_,_,_,_,_,_] _;refine ar ?_;refine aD ?_;refine aq (hc:=h676 _ ?_) ?_;rotate_left;first|assumption|omega
 refine ax ?_;refine av (fun hc0=>?_) (fun hc0=>?_)
 .simp only[bd]at hc0;refine aE ?_;refine c9 ?_;simp[ek,hc0]
 simp only[bK]at hc0;obtain⟨hv,hp1,hp2,hp3,hp4⟩:=pC hc0;have hsl:=xe c.op;have hnl:=sU hv c.parts.toNat;have htl:=H4 hp2;have hj1:=DT hp2;have hj2:=xj hp1 hp2;have hl2:=aj List.length hj2;have hl1:=aj List.length hj1;simp only[bP,List.length_singleton]at hl2;have hi2:(if 0<c.parts then([46]:au)else []).length<=1:=by split<;>simp
 refine ay ?_;refine cx (nx':=6) (v:=.own 6 1 0 c.parts.toNat) (m':=[(6,.buf 1 [.str (dI c.v.major.toNat),.str (dI c.v.minor.toNat),.str (dI c.v.patch.toNat)]),(0,.buf 7 [dH.D c])]) (hc:=fun K' hK=>h677 c ⟨hv,hp1,hp2⟩ _ _ K' hK) (hn:=aF) ?_;refine bL ?_;refine cF (fun hc1=>?_) fun hc1=>?_
 .refine aZ ?_;refine Zd c.parts.toNat (hj:=fun _=>ae) (hb:=fun _=>ae) ?_;refine df [.str _] ?_;refine xS ((mQ c++[[42]]).map D.str) (n:=(mQ c++[[42]]).length) (ha:=cY) (he:=sA.own rfl aJ) (hz:=by rw[bY,BH,List.map_append];rfl) (hn:=cY) (hb:=cY) ?_;refine aq (hc:=h249 (mQ c++[[42]]) 46 (by rw[hj2];simp only[bP,List.length_singleton];omega)) (ha:=fun _=>aj (fun d=>[d,D.int .u8 46]) (oZ (q:=D.str) (fun _=>rfl) ah)) (hp:=fun _=>⟨mT (q:=D.str) (fun _=>rfl) ah,rfl,trivial⟩) ?_;refine ay ?_;refine c9 ?_;rw[ek,aw hc0,hj2];simp[mB,lL,hc1,dP]
 refine aB ?_;refine aq (hc:=h678 _) ?_;refine aA ?_;refine aq (hc:=h249 (mQ c) 46 (by rw[hj1];omega)) (ha:=fun _=>aj (fun d=>[d,D.int .u8 46]) (VW ah)) (hp:=fun _=>⟨Tx hp2 ah,rfl,trivial⟩) ?_;refine dj (hb:=fun _=>ae) ?_;refine cZ ?_;refine cF (fun hc2=>?_) fun hc2=>?_
 .refine aA ?_;have hpl:=hp0.1;refine aA ?_;refine fF ?_;refine ay ?_;refine fF ?_;refine aZ ?_;refine c9 ?_;rw[ek,aw hc0,hj1];simp[mB,lL,hc1,hc2]
 refine aD ?_;refine c9 ?_;rw[ek,aw hc0,hj1];simp[mB,lL,hc1,hc2]
def Ub (Y:Ctx):Prop:=zO (bx Y 482)
noncomputable def Td:aC:=cP 272
def w1007  (s:au)   :dh Y Td (.tup [.str (iH s 0).1,.str (iH s 0).2]) [.str s]:=by
 show bJ _ _ _ [⟨_,_⟩,_,_,_,_,_] _;refine ar ?_;refine aZ ?_;refine ba hm (ι:=Nat) (fun i=>[⟨true,.str s⟩,.un,.un,⟨true,.int .i64 (i:Nat)⟩,.un,.un]) (fun i=>[]) 3 (fun i=>i<=s.length/\iH s 0=iH s i) (fun i=>s.length-i) 0 ⟨ae,rfl⟩ (dr []) ?_;rintro i ⟨hi,hr⟩;refine aE ?_;intro u0;refine ax ?_;refine cF (fun hc0=>?_) fun hc0=>?_
 .refine bL ?_;refine fM (fun hc1=>?_) fun hc1=>?_
  .refine ay ?_;refine kX _ ?_;refine ay ?_;refine fu (i+1) ?_;refine aD ?_;refine bF (aH (aj D.str ?_) (aj D.str ?_));all_goals rw[hr,LC ae hc1]
  refine bL ?_;exact⟨i+1,⟨ae,by rw[hr,LD ae hc1]⟩,ae,(dr [])⟩
 refine bL ?_;refine bF (aH (aj D.str ?_) (aj D.str ?_));all_goals rw[hr,Hc ae]
def Io (T:List D->D->Prop):Prop:=∀(s:au),T [.str s] (.tup [.str (iH s 0).1,.str (iH s 0).2])
def V7 (Y:Ctx):Prop:=Io (bx Y 1007)
noncomputable def J7:aC:=cP 271
def w1006 (h678:XG Y)(h1079:Wb Y)(s:au)   :dh Y J7 (.tup [.int .i64 (gX s).1,.str (gX s).2]) [.str s]:=by
 show bJ _ _ _ [⟨_,_⟩,_,_,_,_,_,_,_,_] _;refine ar ?_;refine aB ?_;refine df [(.int _ _),(.int _ _),(.int _ _),(.int _ _),(.int _ _),(.int _ _),(.int _ _),(.int _ _)] ?_;refine aD ?_;refine eH 2 ?_;refine ba hm (ι:=Nat) (fun i=>[⟨true,.str s⟩,.un,.un,⟨true,.int .i64 (i:Nat)⟩,⟨true,.sl 1 (opsL.map (D.int .i64))⟩,.un,.un,.un,.un]) (fun i=>[]) 5 (fun i=>i<=8/\qw s 0=qw s i) (fun i=>8-i) 0 ⟨ae,rfl⟩ (dr []) ?_;rintro i ⟨hi,hr⟩;have hn8:opsL.length=8:=rfl;refine aE ?_;intro u0;refine ax ?_;refine cF (fun hc0=>?_) fun hc0=>?_
 .refine aZ ?_;refine aq (hc:=h678 _) ?_;refine aE ?_;refine aq (hc:=h1079 _ _) ?_;refine aA ?_;refine wp_cond (fun hc1=>?_) (fun hc1=>?_)
  .have hbl:(dP opsL[i]!).length<=s.length:=by simp only[tD,bB,aK]at hc1;exact hc1.1
   refine aZ ?_;refine ik ?_;refine fu (dP opsL[i]!).length (hb:=fun _=>hbl) ?_;refine aD ?_;refine bF (aH (aj (D.int .i64) ?_) (aj D.str ?_));all_goals simp only[gX,hr,Lx (show i<8 by omega) hc1]
  skip
  refine bL ?_;exact⟨i+1,⟨ae,by rw[hr,Ly ae hc1]⟩,ae,(dr [])⟩
 refine aD ?_;intro u1;refine aB ?_;refine ik ?_;refine aA ?_;refine pU (s.length-1) ?_;refine ay ?_;refine cF (fun hc2=>?_) fun hc2=>?_
 .refine aZ ?_;refine bF (aH (aj (D.int .i64) ?_) (aj D.str ?_));all_goals (have ho:qw s 0=none:=(by rw[hr,A0 ae]);simp only[gX,ho,aw (show 0<s.length/\at8 s (s.length-1)=42 from⟨ae,hc2.2⟩)])
 refine aZ ?_;refine bF (aH (aj (D.int .i64) ?_) (aj D.str ?_));all_goals (have ho:qw s 0=none:=(by rw[hr,A0 ae]);have hn:¬(0<s.length/\at8 s (s.length-1)=42):=(by rintro⟨h1,h2⟩;rcases hc2 with h|h;exact h ae;exact h h2);simp only[gX,ho,ak hn])
def Im (T:List D->D->Prop):Prop:=∀(s:au),T [.str s] (.tup [.int .i64 (gX s).1,.str (gX s).2])
def V6 (Y:Ctx):Prop:=Im (bx Y 1006)
noncomputable def Fc:aC:=cP 273
def w1008 (h667:Qn Y)(l:List au)   :dh Y Fc (.tup [cn.D (AS l),.bool (fK l)]) [.sl 1 (l.map D.str)]:=by
 show bJ _ _ _ [⟨_,_⟩,_,_,_,_,_,_,_,_,_] _;refine ar ?_;refine fS ?_;intro u0;refine ax ?_;refine cF (fun hc0=>?_) fun hc0=>?_
 .refine ax ?_;refine bg (cn.D gm) ?_;refine aB ?_;refine bF (aH ?_ (aj D.bool ?_));all_goals (have hq:fK l=false:=(by simp only[fK];rw[cG ae];rfl);first|(rw[hq];done)|(simp only[AS,hq,gy,aX,aW];rfl))
 refine aE ?_;have hb:fK l=cQ (fun i=>fU l[i]!) 0 l.length:=by simp only[fK];rw[b9 ae];rfl
 refine ba hm (ι:=Nat) (fun i=>[⟨true,.sl 1 (l.map D.str)⟩,⟨true,.ptr 0 5 0 0⟩,.un,.un,⟨true,.int .i64 (i:Nat)⟩,.un,.un,.un,.un,⟨true,.ptr 2 3 0 0⟩]) (fun i=>[(0,.buf 5 [cn.D gm]),(2,.buf 3 [OV l i])]) 7 (fun i=>i<=l.length/\fK l=cQ (fun i=>fU l[i]!) i l.length) (fun i=>l.length-i) 0 ⟨ae,hb⟩ (dr [(0,0),(2,2)]) ?_;rintro i ⟨hi,hr⟩;refine aE ?_;intro u1;refine ax ?_;refine cF (fun hc1=>?_) fun hc1=>?_
 .refine aZ ?_;refine aq (hc:=h667 _) ?_;refine fH ?_;refine av (fun hc2=>?_) (fun hc2=>?_)
  .simp only[bd]at hc2;refine ax ?_;refine bg (cn.D gm) ?_;refine aD ?_;refine bF (aH ?_ (aj D.bool ?_));all_goals (have hq:fK l=false:=(by rw[hr,aU ae,hc2];rfl);first|(rw[hq];done)|(simp only[AS,hq,gy,aX,aW];rfl))
  simp only[bK]at hc2;refine aB ?_;refine rX i ?_;refine aI (OV l (i+1)) (he:=GX l i ae) ?_;refine bL ?_;exact⟨i+1,⟨ae,by rw[hr,aU ae,hc2];rfl⟩,ae,(dr [(0,0),(2,2)])⟩
 refine ay ?_;obtain rfl:i=l.length:=ae;have hok:fK l=true:=by rw[hr,cj ae]
 refine rX 0 ?_;refine aT (v:=.int .i64 (if 0<l.length then ef l[0]! else 0)) ?_;refine rX 1 ?_;refine aT (v:=.int .i64 (if 1<l.length then ef l[1]! else 0)) ?_;refine rX 2 ?_;refine aT (v:=.int .i64 (if 2<l.length then ef l[2]! else 0)) ?_;refine bg (cn.D (R7 l)) ?_;refine aB ?_;refine bF (aH ?_ (aj D.bool ?_));all_goals (have hq:=hok;first|(rw[hq];done)|(simp only[AS,hq,gy,aX,aW];rfl))
def Ip (T:List D->D->Prop):Prop:=∀(l:List au),T [.sl 1 (l.map D.str)] (.tup [cn.D (AS l),.bool (fK l)])
def V8 (Y:Ctx):Prop:=Ip (bx Y 1008)
noncomputable def J5:aC:=cP 250
def w897 {Y:Ctx}(hm:(Y.at 0).b7)(h470:tz Y)(h482:Ub Y)(h1006:V6 Y)(h1007:V7 Y)(h1008:V8 Y)(s:au)  (hp0:s.length<=1048576):dh Y J5 (.tup [dH.D ((eO s).getD eP),.int .i64 (if(eO s).isSome=true then 0 else 6)]) [.str s]:=by
 show bJ _ _ _ [⟨_,_⟩,_,_,_,_,_,_,_,_,_,_,_,_,_,_] _;have hsl:=BC s;generalize hO:gX s=O at hsl;have hpl:=A9 O.2;generalize hA:iH O.2 0=A at hpl;have hln:=dk A.1 46;have hlp:1<=(ai A.1 46).length:=ep _ _ _;generalize hL:ai A.1 46=L at hln hlp;have hq0:eO s=if xO s O.1 (Dr O.1 L) A.2=true then some (gC O.1 (Dr O.1 L) A.2)else none:=by subst hO;subst hA;subst hL;rfl
 refine ar ?_;refine aE ?_;refine aq (hc:=h1006 s) ?_;rw[hO];refine bL ?_;refine aq (hc:=h1007 O.2) ?_;rw[hA];refine bL ?_;refine aq (hc:=h470 A.1 46 ae) ?_;rw[hL];refine aZ ?_;refine av (fun hc0=>?_) (fun hc0=>?_)
 .simp only[aK]at hc0;have hq1:eO s=if xO s O.1 (L.take (L.length-1)) A.2=true then some (gC O.1 (L.take (L.length-1)) A.2)else none:=by rw[hq0];simp only[Dr,aw hc0]
  refine aB ?_;intro u0;refine aA ?_;refine oq (L.length-1) (hj:=fun _=>ae) (hb:=fun _=>ae) ?_;refine aB ?_;refine aq (hc:=h1008 (L.take (L.length-1))) ?_;refine aA ?_;refine eX (cn.D _) ?_;refine ax ?_;refine aI (cn.D (AS (L.take (L.length-1)))) (he:=aQ) ?_;refine aZ ?_;refine av (fun hc1=>?_) (fun hc1=>?_)
  .simp only[bd]at hc1;refine ax ?_;refine bg (dH.D eP) ?_;refine aB ?_;refine bF (aH ?_ (aj (D.int .i64) ?_));all_goals (have hk:xO s O.1 (L.take (L.length-1)) A.2=false:=(by simp only[xO,hc1];rfl);rw[hq1,hk];rfl)
  simp only[bK]at hc1;have hnr:AS (L.take (L.length-1))=R7 (L.take (L.length-1)):=by simp only[AS,hc1,aW]
  rw[hnr];have hsm:(gC O.1 (L.take (L.length-1)) A.2).v.sm:=⟨by show A.2.length<=_;omega,by show([]:au).length<=_;simp⟩;refine aB ?_;refine aI (cn.D (gC O.1 (L.take (L.length-1)) A.2).v) (he:=aQ) ?_;refine aE ?_;intro u1;refine cz (d:=cn.D (gC O.1 (L.take (L.length-1)) A.2).v) ?_;refine bg (dH.D (gC O.1 (L.take (L.length-1)) A.2)) ?_;refine aA ?_;refine aI (dH.D (gC O.1 (L.take (L.length-1)) A.2)) (he:=aQ) ?_;refine ay ?_;refine cz (d:=dH.D (gC O.1 (L.take (L.length-1)) A.2)) ?_;refine aq (hc:=h482 (gC O.1 (L.take (L.length-1)) A.2) hsm) ?_;refine lN ?_;refine dj (hb:=fun _=>cY) ?_;refine aB ?_;refine av (fun hc2=>?_) (fun hc2=>?_)
  .have hk:xO s O.1 (L.take (L.length-1)) A.2=false:=by simp only[xO,hc1,gz];exact aj (!·) hc2
   refine ax ?_;refine bg (dH.D eP) ?_;refine aB ?_;refine bF (aH ?_ (aj (D.int .i64) ?_));all_goals (rw[hq1,hk];rfl)
  have hk:xO s O.1 (L.take (L.length-1)) A.2=true:=by simp only[xO,hc1,gz];exact aj (!·) hc2
  refine ax ?_;refine cz (d:=dH.D (gC O.1 (L.take (L.length-1)) A.2)) ?_;refine aB ?_;refine bF (aH ?_ (aj (D.int .i64) ?_));all_goals (rw[hq1,hk];rfl)
 simp only[bc]at hc0;have hq1:eO s=if xO s O.1 L A.2=true then some (gC O.1 L A.2)else none:=by rw[hq0];simp only[Dr,ak hc0]
 refine ay ?_;refine aq (hc:=h1008 L) ?_;refine aA ?_;refine eX (cn.D _) ?_;refine ax ?_;refine aI (cn.D (AS L)) (he:=aQ) ?_;refine aZ ?_;refine av (fun hc1=>?_) (fun hc1=>?_)
 .simp only[bd]at hc1;refine ax ?_;refine bg (dH.D eP) ?_;refine aB ?_;refine bF (aH ?_ (aj (D.int .i64) ?_));all_goals (have hk:xO s O.1 L A.2=false:=(by simp only[xO,hc1];rfl);rw[hq1,hk];rfl)
 simp only[bK]at hc1;have hnr:AS L=R7 L:=by simp only[AS,hc1,aW]
 rw[hnr];have hsm:(gC O.1 L A.2).v.sm:=⟨by show A.2.length<=_;omega,by show([]:au).length<=_;simp⟩;refine aB ?_;refine aI (cn.D (gC O.1 L A.2).v) (he:=aQ) ?_;refine aE ?_;intro u1;refine cz (d:=cn.D (gC O.1 L A.2).v) ?_;refine bg (dH.D (gC O.1 L A.2)) ?_;refine aA ?_;refine aI (dH.D (gC O.1 L A.2)) (he:=aQ) ?_;refine ay ?_;refine cz (d:=dH.D (gC O.1 L A.2)) ?_;refine aq (hc:=h482 (gC O.1 L A.2) hsm) ?_;refine lN ?_;refine dj (hb:=fun _=>cY) ?_;refine aB ?_;refine av (fun hc2=>?_) (fun hc2=>?_)
 .have hk:xO s O.1 L A.2=false:=by simp only[xO,hc1,gz];exact aj (!·) hc2
  refine ax ?_;refine bg (dH.D eP) ?_;refine aB ?_;refine bF (aH ?_ (aj (D.int .i64) ?_));all_goals (rw[hq1,hk];rfl)
 have hk:xO s O.1 L A.2=true:=by simp only[xO,hc1,gz];exact aj (!·) hc2
 refine ax ?_;refine cz (d:=dH.D (gC O.1 L A.2)) ?_;refine aB ?_;refine bF (aH ?_ (aj (D.int .i64) ?_));all_goals (rw[hq1,hk];rfl)
def Nv (T:List D->D->Prop):Prop:=∀(s:au),(s.length<=1048576)->T [.str s] (.tup [dH.D ((eO s).getD eP),.int .i64 (if(eO s).isSome=true then 0 else 6)])
def C897 (Y:Ctx):Prop:=Nv (bx Y 897)
noncomputable def N3:aC:=cP 229
def w819 (h533:NH Y)(h658:Qm Y)(h827:Uf Y)(h828:XJ Y)(h956:C956 Y)(h957:XQ Y)(s:au)  (hp0:s.length<=1048576):dh Y N3 (.tup [dH.D ((ig s).getD eP),.bool (ig s).isSome]) [.str s]:=by
 show bJ _ _ _ (⟨true,.str s⟩::.un::.un::.un::.un::.un::.un::.un::.un::.un::.un::.un::.un::.un::.un::.un::.un::.un::.un::.un::.un::.un::.un::.un::.un::.un::.un::.un::.un::.un::.un::.un::.un::[]) ⟨0,[]⟩;have hol:=Pe s;refine ar ?_;refine aB ?_;refine bg (dH.D ⟨9,0,gm⟩) ?_;refine aA ?_;refine aI (dH.D ⟨9,0,gm⟩) (he:=aQ) ?_;refine aZ ?_;refine df [(.int _ _),(.int _ _),(.int _ _),(.int _ _),(.int _ _),(.int _ _),(.int _ _),(.int _ _)] ?_;refine aA ?_;intro u0;refine ax ?_;refine sw hm (ι:=Unit) (fun _=>(⟨true,.str s⟩::⟨true,.ptr 0 7 0 0⟩::.un::.un::.un::.un::.un::.un::.un::⟨true,.ptr 3 7 0 0⟩::⟨true,.str (dV s).2⟩::.un::.un::.un::.un::.un::.un::.un::.un::.un::.un::.un::.un::.un::.un::.un::.un::.un::.un::.un::.un::.un::.un::[])) (fun _=>[(0,.buf 7 [dH.D eP]),(3,.buf 7 [dH.D ⟨(dV s).1,0,gm⟩])]) 40 (fun _=>True) ?_ ?_
 .refine eH 7 ?_;refine qG hm (ι:=Nat) (fun i=>(⟨true,.str s⟩::⟨true,.ptr 0 7 0 0⟩::.un::⟨true,.int .i64 (i:Nat)⟩::⟨true,.int .i64 8⟩::.un::⟨true,.sl 1 (opsL.map (D.int .i64))⟩::.un::.un::⟨true,.ptr 3 7 0 0⟩::⟨true,.str s⟩::.un::.un::.un::.un::.un::.un::.un::.un::.un::.un::.un::.un::.un::.un::.un::.un::.un::.un::.un::.un::.un::.un::[])) (fun i=>[(0,.buf 7 [dH.D eP]),(3,.buf 7 [dH.D ⟨9,0,gm⟩])]) 10 (fun i=>i<=8/\qw s 0=qw s i) (fun i=>8-i) 0 ⟨ae,rfl⟩ (dr [(0,0),(3,3)]) ?_;rintro i ⟨hi,hr⟩;have hn8:opsL.length=8:=rfl;refine ay ?_;refine cF (fun hc0=>?_) fun hc0=>?_
  .refine fS ?_;refine aq (hc:=h957 opsL[i]!) ?_;refine aq (hc:=h956 s (dP opsL[i]!)) ?_;refine aA ?_;refine wp_cond (fun hc1=>?_) (fun hc1=>?_)
   .have hbl:(dP opsL[i]!).length<=s.length:=by simp only[tD,bB,aK]at hc1;exact hc1.1
    have hro:dV s=(opsL[i]!,s.drop (dP opsL[i]!).length):=by simp only[dV,hr,Lx (show i<8 by omega) hc1]
    refine ay ?_;refine aI (dH.D ⟨opsL[i]!,0,gm⟩) (he:=aQ) ?_;refine aB ?_;refine aq (hc:=h957 opsL[i]!) ?_;refine aA ?_;intro u1;refine fu (dP opsL[i]!).length (hb:=fun _=>hbl) ?_;refine aD ?_;simp only[hro];exact⟨(),trivial,(dr [(0,0),(3,3)])⟩
   skip
   refine aZ ?_;exact⟨i+1,⟨ae,by rw[hr,Ly ae hc1]⟩,ae,(dr [(0,0),(3,3)])⟩
  refine ay ?_;have hro:dV s=(9,s):=by simp only[dV,hr,A0 (show 8<=i by omega)]
  simp only[hro];exact⟨(),trivial,(dr [(0,0),(3,3)])⟩
 .rintro _-
  refine aB ?_;intro u2;refine ax ?_;refine sw hm (ι:=Unit) (fun _=>(⟨true,.str s⟩::⟨true,.ptr 0 7 0 0⟩::.un::.un::.un::.un::.un::.un::.un::⟨true,.ptr 3 7 0 0⟩::⟨true,.str (fo s).1⟩::.un::.un::.un::.un::.un::.un::.un::.un::.un::.un::.un::.un::.un::.un::.un::.un::.un::.un::.un::.un::.un::.un::[])) (fun _=>[(0,.buf 7 [dH.D eP]),(3,.buf 7 [dH.D ⟨(dV s).1,0,{gm with pre:=(fo s).2}⟩])]) 60 (fun _=>True) ?_ ?_
  .refine qG hm (ι:=Nat) (fun i=>(⟨true,.str s⟩::⟨true,.ptr 0 7 0 0⟩::.un::.un::.un::.un::.un::.un::.un::⟨true,.ptr 3 7 0 0⟩::⟨true,.str (dV s).2⟩::⟨true,.int .i64 (i:Nat)⟩::⟨true,.int .i64 ((dV s).2.length:Nat)⟩::.un::.un::.un::.un::.un::.un::.un::.un::.un::.un::.un::.un::.un::.un::.un::.un::.un::.un::.un::.un::[])) (fun i=>[(0,.buf 7 [dH.D eP]),(3,.buf 7 [dH.D ⟨(dV s).1,0,gm⟩])]) 43 (fun i=>i<=(dV s).2.length/\fo s=iH (dV s).2 i) (fun i=>(dV s).2.length-i) 0 ⟨ae,rfl⟩ (dr [(0,0),(3,3)]) ?_;rintro i ⟨hi,hr⟩;refine ay ?_;refine cF (fun hc2=>?_) fun hc2=>?_
   .refine gu ?_;refine wp_cond (fun hc3=>?_) (fun hc3=>?_)
    .simp only[aK]at hc3;have hpr:fo s=((dV s).2.take i,(dV s).2.drop (i+1)):=by rw[hr,LC ae hc3]
     refine aB ?_;refine fu (i+1) ?_;refine ax ?_;refine aI (dH.D ⟨(dV s).1,0,{gm with pre:=(dV s).2.drop (i+1)}⟩) (he:=aQ) ?_;refine aB ?_;refine kX _ ?_;refine aD ?_;simp only[hpr];exact⟨(),trivial,(dr [(0,0),(3,3)])⟩
    try simp only[dn]at hc3
    refine aZ ?_;exact⟨i+1,⟨ae,by rw[hr,LD ae hc3]⟩,ae,(dr [(0,0),(3,3)])⟩
   refine ay ?_;have hpr:fo s=((dV s).2,[]):=by rw[hr,Hc ae]
   simp only[hpr];exact⟨(),trivial,(dr [(0,0),(3,3)])⟩
  .rintro _-
   have hpl:(fo s).1.length<=s.length/\(fo s).2.length<=s.length:=by
    have:=A9 (dV s).2;exact⟨by show(iH _ 0).1.length<=_;omega,by show(iH _ 0).2.length<=_;omega⟩
   have hlp:1<=(ai (fo s).1 46).length:=ep _ _ _;have hln:=dk (fo s).1 46;refine ax ?_;refine aq (hc:=h533 (fo s).1 46 ae) ?_;refine bL ?_;refine sw hm (ι:=Unit) (fun _=>(⟨true,.str s⟩::⟨true,.ptr 0 7 0 0⟩::.un::.un::.un::.un::.un::.un::.un::⟨true,.ptr 3 7 0 0⟩::.un::.un::.un::.un::.un::.un::.un::⟨true,.sl 1 ((eS s).map D.str)⟩::.un::.un::.un::.un::.un::.un::.un::.un::.un::.un::.un::.un::.un::.un::.un::[])) (fun _=>[(0,.buf 7 [dH.D eP]),(3,.buf 7 [dH.D ⟨(dV s).1,0,{gm with pre:=(fo s).2}⟩])]) 80 (fun _=>oC s) ?_ ?_
   .refine wp_cond (fun hc4=>?_) (fun hc4=>?_)
    .try simp only[dn]at hc4
     refine aE ?_;intro u3;refine aA ?_;refine bH ((ai (fo s).1 46).length-1) (hj:=fun _=>ae) (hb:=fun _=>ae) ?_;refine ay ?_;refine av (fun hc5=>?_) (fun hc5=>?_)
     .simp only[bd,bc]at hc5;have hno:=kZ (s:=s) (fun h=>hc5 (h.1 hc4));refine ax ?_;refine bg (dH.D eP) ?_;refine aE ?_;refine bF (aH ?_ (aj D.bool ?_));all_goals (rw[hno];rfl)
     simp only[bK,aK]at hc5;have hst:oC s:=fun _=>hc5
     have hrl:eS s=(ai (fo s).1 46).take ((ai (fo s).1 46).length-1):=aw hc4;refine aE ?_;intro u4;refine aA ?_;refine oq ((ai (fo s).1 46).length-1) (hj:=fun _=>ae) (hb:=fun _=>ae) ?_;refine ay ?_;simp only[hrl];exact⟨(),hst,(dr [(0,0),(3,3)])⟩
    simp only[bc]at hc4;have hst:oC s:=fun h=>absurd h hc4
    have hrl:eS s=(ai (fo s).1 46):=ak hc4;refine ax ?_;simp only[hrl];exact⟨(),hst,(dr [(0,0),(3,3)])⟩
   .rintro _ hst;refine aB ?_;intro u5;refine ax ?_;refine av (fun hc6=>?_) (fun hc6=>?_)
    .simp only[aK]at hc6;have hno:=kZ (s:=s) (fun h=>by have:=h.2.1;simp only[fK,bB,aK]at this;omega);refine ax ?_;refine bg (dH.D eP) ?_;refine aB ?_;refine bF (aH ?_ (aj D.bool ?_));all_goals (rw[hno];rfl)
    try simp only[dn]at hc6
    refine aB ?_;intro u6;refine aA ?_;refine aI (dH.D ⟨(dV s).1,((eS s).length:Nat),{gm with pre:=(fo s).2}⟩) (he:=aQ) ?_;refine aE ?_;intro u7;refine ax ?_;have hb:fK (eS s)=cQ (fun i=>fU (eS s)[i]!) 0 (eS s).length:=by simp only[fK];rw[b9 ae];rfl
    refine ba hm (ι:=Nat) (fun i=>(⟨true,.str s⟩::⟨true,.ptr 0 7 0 0⟩::.un::.un::.un::.un::.un::.un::.un::⟨true,.ptr 3 7 0 0⟩::.un::.un::.un::.un::.un::.un::.un::.un::.un::.un::⟨true,.int .i64 (i:Nat)⟩::⟨true,.int .i64 ((eS s).length:Nat)⟩::.un::⟨true,.sl 1 ((eS s).map D.str)⟩::.un::.un::.un::.un::.un::.un::.un::.un::.un::[])) (fun i=>[(0,.buf 7 [dH.D eP]),(3,.buf 7 [dH.D ⟨(dV s).1,((eS s).length:Nat),{Lw (eS s) i with pre:=(fo s).2}⟩])]) 90 (fun i=>i<=(eS s).length/\fK (eS s)=cQ (fun i=>fU (eS s)[i]!) i (eS s).length) (fun i=>(eS s).length-i) 0 ⟨ae,hb⟩ (dr [(0,0),(3,3)]) ?_;rintro i ⟨hi,hr⟩;refine ay ?_;refine cF (fun hc7=>?_) fun hc7=>?_
    .refine fH ?_;refine aq (hc:=h658 (eS s)[i]!) ?_;refine fH ?_;refine av (fun hc8=>?_) (fun hc8=>?_)
     .simp only[bd]at hc8;have hno:=kZ (s:=s) (fun h=>by have:=h.2.1;rw[hr,aU ae,hc8]at this;cases this);refine ax ?_;refine bg (dH.D eP) ?_;refine aD ?_;refine bF (aH ?_ (aj D.bool ?_));all_goals (rw[hno];rfl)
     simp only[bK]at hc8;refine cZ ?_;refine wp_cond (fun hc9=>?_) (fun hc9=>?_)
     .simp only[aK]at hc9;have hi0:i=0:=ae;refine aB ?_;refine aI (dH.D ⟨(dV s).1,((eS s).length:Nat),{Lw (eS s) (i+1)with pre:=(fo s).2}⟩) (he:=by subst hi0;exact rfl) ?_;refine bL ?_;exact⟨i+1,⟨ae,by rw[hr,aU ae,hc8];rfl⟩,ae,(dr [(0,0),(3,3)])⟩
     try simp only[dn]at hc9
     refine aB ?_;refine wp_cond (fun hc10=>?_) (fun hc10=>?_)
     .simp only[aK]at hc10;have hi0:i=1:=ae;refine aB ?_;refine aI (dH.D ⟨(dV s).1,((eS s).length:Nat),{Lw (eS s) (i+1)with pre:=(fo s).2}⟩) (he:=by subst hi0;exact rfl) ?_;refine bL ?_;exact⟨i+1,⟨ae,by rw[hr,aU ae,hc8];rfl⟩,ae,(dr [(0,0),(3,3)])⟩
     simp only[bc]at hc10;have hi0:i=2:=ae;refine aB ?_;refine aI (dH.D ⟨(dV s).1,((eS s).length:Nat),{Lw (eS s) (i+1)with pre:=(fo s).2}⟩) (he:=by subst hi0;exact rfl) ?_;refine bL ?_;exact⟨i+1,⟨ae,by rw[hr,aU ae,hc8];rfl⟩,ae,(dr [(0,0),(3,3)])⟩
    refine aB ?_;obtain rfl:i=(eS s).length:=ae;have hok:fK (eS s)=true:=by rw[hr,cj ae]
    have hsm:(fh s).v.sm:=⟨by show(fo s).2.length<=_;omega,by show([]:au).length<=_;simp⟩;refine cz (d:=dH.D (fh s)) ?_;refine aq (hc:=h827 (fh s) hsm) ?_;refine ax ?_;refine cz (d:=dH.D (fh s)) ?_;refine c8 (hc:=fun _=>h828 (fh s) hsm) ?_;refine aB ?_;refine av (fun hc11=>?_) (fun hc11=>?_)
    .simp only[cM,bd,bc]at hc11;have hno:=kZ (s:=s) (fun h=>by rcases hc11 with h1|h1;rw[h.2.2.1]at h1;cases h1;exact h1 h.2.2.2);refine ax ?_;refine bg (dH.D eP) ?_;refine aB ?_;refine bF (aH ?_ (aj D.bool ?_));all_goals (rw[hno];rfl)
    simp only[dd,bK,aK]at hc11;have hyes:ig s=some (fh s):=by unfold ig;rw[aw ⟨hst,hok,hc11⟩]
    refine ax ?_;refine cz (d:=dH.D (fh s)) ?_;refine aB ?_;refine bF (aH ?_ (aj D.bool ?_));all_goals (rw[hyes];rfl)
def Ns (T:List D->D->Prop):Prop:=∀(s:au),(s.length<=1048576)->T [.str s] (.tup [dH.D ((ig s).getD eP),.bool (ig s).isSome])
def C819 (Y:Ctx):Prop:=Ns (bx Y 819)
noncomputable def IZ:aC:=cP 207
def w682 {Y:Ctx}(hm:(Y.at 0).b7)(h819:C819 Y)(s:au)  (hp0:s.length<=1048575):dh Y IZ (.tup [dH.D ((nk s).getD eP),.int .i64 (if(nk s).isSome=true then 0 else 6)]) [.str s]:=by
 show bJ _ _ _ [⟨_,_⟩,_,_,_,_,_,_,_,_] _;refine ar ?_;refine aD ?_;refine aq (hc:=h819 s ae) ?_;refine aA ?_;refine eX (dH.D _) ?_;refine ax ?_;refine aI (dH.D ((ig s).getD eP)) (he:=aQ) ?_;refine aD ?_;refine cF (fun hc0=>?_) fun hc0=>?_
 .refine ax ?_;refine cz (d:=dH.D ((ig s).getD eP)) ?_;refine aB ?_;refine bF (aH ?_ (aj (D.int .i64) ?_));all_goals (have hn:nk s=ig s:=aw hc0;rw[hn];first|rfl|simp only[hc0,aW])
 refine aB ?_;refine dj (hb:=fun _=>cY) ?_;refine aq (hc:=h819 (94::s) cY) ?_;refine aA ?_;refine eX (dH.D _) ?_;refine ax ?_;refine aI (dH.D ((ig (94::s)).getD eP)) (he:=aQ) ?_;refine aD ?_;refine cF (fun hc1=>?_) fun hc1=>?_
 .refine ax ?_;refine cz (d:=dH.D ((ig (94::s)).getD eP)) ?_;refine aB ?_;refine bF (aH ?_ (aj (D.int .i64) ?_));all_goals (have hn:nk s=ig (94::s):=(by simp only[nk,hc0,gy,aX]);rw[hn];first|rfl|simp only[hc1,aW])
 refine ax ?_;refine bg (dH.D eP) ?_;refine aB ?_;refine bF (aH ?_ (aj (D.int .i64) ?_));all_goals (have hn:nk s=none:=(by simp only[nk,hc0,gy,aX];exact Option.not_isSome_iff_eq_none.1 (by rw[hc1];simp));rw[hn];rfl)
def Nb (T:List D->D->Prop):Prop:=∀(s:au),(s.length<=1048575)->T [.str s] (.tup [dH.D ((nk s).getD eP),.int .i64 (if(nk s).isSome=true then 0 else 6)])
def C682 (Y:Ctx):Prop:=Nb (bx Y 682)
noncomputable def Tf:aC:=cP 252
def w899 (h676:XE Y)(r:zT)  (hp0:oz r):dh Y Tf (.bool (kG r)) [iB r]:=by
 show bJ _ _ _ [⟨_,_⟩,_,_,_,_,_,_,_,_,_] _;refine ar ?_;refine bL ?_;intro u0;refine aB ?_;refine ik ?_;refine ay ?_;refine cF (fun hc0=>?_) fun hc0=>?_
 .refine aE ?_;refine bU ?_;symm;simp only[kG];rcases hc0 with h|h
  .rw[cG ae];rfl
  .rw[cG (by omega:¬r.length<=6),Bool.and_false];rfl
 refine aE ?_;have hb:kG r=cQ (fun i=>kK r[i]!) 0 r.length:=by simp only[kG];rw[b9 ae,b9 ae];rfl
 refine ba hm (ι:=Nat) (fun i=>[.un,.un,⟨true,.ptr 0 1 0 0⟩,.un,⟨true,.int .i64 (i:Nat)⟩,.un,.un,.un,.un,.un]) (fun i=>[(0,.buf 1 [iB r])]) 13 (fun i=>i<=r.length/\kG r=cQ (fun i=>kK r[i]!) i r.length) (fun i=>r.length-i) 0 ⟨ae,hb⟩ (dr [(0,0)]) ?_;rintro i ⟨hi,hr⟩;refine aD ?_;intro u1;refine ax ?_;refine cF (fun hc1=>?_) fun hc1=>?_
 .refine fS ?_;intro u2;refine aZ ?_;refine ik ?_;refine ay ?_;refine cF (fun hc2=>?_) fun hc2=>?_
  .refine aZ ?_;refine bU ?_;rw[hr,aU ae];have:kK r[i]! =false:=by
    simp only[kK];rcases hc2 with h|h
    .rw[cG ae];rfl
    .rw[cG (by omega:¬r[i]!.length<=6),Bool.and_false];rfl
   rw[this];rfl
  refine aB ?_;have hkb:kK r[i]! =cQ (fun k=>nw r[i]![k]!) 0 r[i]!.length:=by simp only[kK];rw[b9 ae,b9 ae];rfl
  refine qG hm (ι:=Nat) (fun k=>[.un,.un,⟨true,.ptr 0 1 0 0⟩,.un,⟨true,.int .i64 (i:Nat)⟩,.un,.un,⟨true,.int .i64 (k:Nat)⟩,.un,.un]) (fun k=>[(0,.buf 1 [iB r])]) 35 (fun k=>k<=r[i]!.length/\kK r[i]! =cQ (fun k=>nw r[i]![k]!) k r[i]!.length) (fun k=>r[i]!.length-k) 0 ⟨ae,hkb⟩ (dr [(0,0)]) ?_;rintro k ⟨hk,hkr⟩;refine cZ ?_;intro u3;refine ax ?_;refine cF (fun hc3=>?_) fun hc3=>?_
  .refine fS ?_;first|refine bD (v:=(dH.D _)) ?_|refine e7 (v:=(dH.D _)) ?_
   refine aq (hc:=h676 r[i]![k]! (hp0 r[i]! (bE ae) _ (bE ae)).sm) ?_;refine ax ?_;refine wp_cond (fun hc4=>?_) (fun hc4=>?_)
   .simp only[bd]at hc4;refine bL ?_;refine bU ?_;rw[hr,aU ae,hkr,aU ae,hc4];rfl
   simp only[bK]at hc4;refine bL ?_;exact⟨k+1,⟨ae,by rw[hkr,aU ae,hc4];rfl⟩,ae,(dr [(0,0)])⟩
  refine cZ ?_;exact⟨i+1,⟨ae,by rw[hr,aU ae,hkr,cj ae];rfl⟩,ae,(dr [(0,0)])⟩
 refine aD ?_;refine bU ?_;rw[hr,cj ae]
def Nx (T:List D->D->Prop):Prop:=∀(r:zT),(oz r)->T [iB r] (.bool (kG r))
def XK (Y:Ctx):Prop:=Nx (bx Y 899)
noncomputable def PA:aC:=cP 253
def w900 (h482:Ub Y)(r:zT)  (hp0:kG r=true/\oz r):dh Y PA (.str (Ff r)) [iB r]:=by
 show bJ _ _ _ [⟨_,_⟩,_,_,_,_,_,_,_,_,_] _;have hlen:=Tl hp0.1 hp0.2;have hjl:=fun i=>sN [32,124,124,32] (r.map jH) i
 have hrl:∀i,(aS [32,124,124,32] ((r.map jH).take i)).length<=40000:=fun i=>dm (hjl i) hlen
 have hpl:∀i,(tg [32,124,124,32] (r.map jH) i).length<=40004:=fun i=>by
  unfold tg;split
  .have:=hrl i;simp only[bP,aP,a8];omega
  .simp
 refine ar ?_;refine fS ?_;refine ba hm (ι:=Nat) (fun i=>[.un,.un,⟨true,.int .i64 (i:Nat)⟩,⟨true,.ptr 0 1 0 0⟩,.un,.un,⟨true,.str (aS [32,124,124,32] ((r.map jH).take i))⟩,.un,.un,.un]) (fun i=>[(0,.buf 1 [iB r])]) 4 (fun i=>i<=r.length) (fun i=>r.length-i) 0 ae (dr [(0,0)]) ?_;intro i hi;have hil:=hrl i;refine aD ?_;intro u0;refine ax ?_;refine cF (fun hc0=>?_) fun hc0=>?_
 .refine aZ ?_;refine sw hm (ι:=Unit) (fun _=>[.un,.un,⟨true,.int .i64 (i:Nat)⟩,⟨true,.ptr 0 1 0 0⟩,.un,.un,⟨true,.str (tg [32,124,124,32] (r.map jH) i)⟩,.un,.un,.un]) (fun _=>[(0,.buf 1 [iB r])]) 50 (fun _=>True) ?_ ?_
  .refine fM (fun hc1=>?_) fun hc1=>?_
   .refine ax ?_;refine dj (hb:=fun _=>cb) ?_;refine ay ?_;rw[show aS [32,124,124,32] ((r.map jH).take i)++[32,124,124,32]=tg [32,124,124,32] (r.map jH) i from(aw ae).symm];exact⟨(),trivial,(dr [(0,0)])⟩
   refine ax ?_;rw[Sz [32,124,124,32] (r.map jH) (show ¬0<i by omega)];exact⟨(),trivial,(dr [(0,0)])⟩
  .rintro _-
   have hpi:=hpl i;have hao:=vQ (Al hp0.1 (show i<r.length by omega));have hcl:∀k,k<r[i]!.length->(ek r[i]![k]!).length<=1100:=fun k hk=>Af (hp0.2 r[i]! (bE ae) _ (bE hk))
   have hal:=zU (hp0.2 r[i]! (bE ae)) hao.2;have hkl:∀k,(aS [44,32] ((r[i]!.map ek).take k)).length<=6612:=fun k=>dm (sN _ _ _) hal
   refine ay ?_;rw[show tg [32,124,124,32] (r.map jH) i=tg [32,124,124,32] (r.map jH) i++aS [44,32] ((r[i]!.map ek).take 0)by simp[aS]];refine qG hm (ι:=Nat) (fun k=>[.un,.un,⟨true,.int .i64 (i:Nat)⟩,⟨true,.ptr 0 1 0 0⟩,.un,.un,⟨true,.str (tg [32,124,124,32] (r.map jH) i++aS [44,32] ((r[i]!.map ek).take k))⟩,⟨true,.int .i64 (k:Nat)⟩,.un,.un]) (fun k=>[(0,.buf 1 [iB r])]) 51 (fun k=>k<=r[i]!.length) (fun k=>r[i]!.length-k) 0 ae (dr [(0,0)]) ?_;intro k hk;have hkk:=hkl k;refine cZ ?_;intro u1;refine ax ?_;refine cF (fun hc2=>?_) fun hc2=>?_
   .refine aZ ?_;refine cF (fun hc3=>?_) fun hc3=>?_
    .refine ax ?_;refine fF ?_;refine ay ?_;have hjk:=wC [44,32] (r[i]!.map ek) k (by rw[bN];omega);rw[EK ek r[i]! (show k<r[i]!.length by omega)]at hjk;refine bL ?_;first|refine bD (v:=(dH.D _)) ?_|refine e7 (v:=(dH.D _)) ?_
     refine aq (hc:=h482 r[i]![k]! (hp0.2 r[i]! (bE ae) _ (bE ae)).sm) ?_;refine dj (hb:=fun _=>by have:=hcl k ae;simp only[bP,aP,a8];omega) ?_;refine cZ ?_;rw[show tg [32,124,124,32] (r.map jH) i++aS [44,32] ((r[i]!.map ek).take k)++[44,32]++ek r[i]![k]! =tg [32,124,124,32] (r.map jH) i++aS [44,32] ((r[i]!.map ek).take (k+1))by rw[hjk,show tg [44,32] (r[i]!.map ek) k=aS [44,32] ((r[i]!.map ek).take k)++[44,32]from aw ae];simp only[eu]];exact⟨k+1,ae,ae,(dr [(0,0)])⟩
    refine ax ?_;have hjk:=wC [44,32] (r[i]!.map ek) k (by rw[bN];omega);rw[EK ek r[i]! (show k<r[i]!.length by omega)]at hjk;refine bL ?_;first|refine bD (v:=(dH.D _)) ?_|refine e7 (v:=(dH.D _)) ?_
    refine aq (hc:=h482 r[i]![k]! (hp0.2 r[i]! (bE ae) _ (bE ae)).sm) ?_;refine dj (hb:=fun _=>by have:=hcl k ae;simp only[bP,aP,a8];omega) ?_;refine cZ ?_;rw[show tg [32,124,124,32] (r.map jH) i++aS [44,32] ((r[i]!.map ek).take k)++ek r[i]![k]! =tg [32,124,124,32] (r.map jH) i++aS [44,32] ((r[i]!.map ek).take (k+1))by rw[hjk,Sz [44,32] (r[i]!.map ek) (show ¬0<k by omega)];simp only[eu]];exact⟨k+1,ae,ae,(dr [(0,0)])⟩
   refine cZ ?_;obtain rfl:k=r[i]!.length:=ae;have hji:=wC [32,124,124,32] (r.map jH) i (by rw[bN];omega);rw[EK jH r (show i<r.length by omega)]at hji;rw[show tg [32,124,124,32] (r.map jH) i++aS [44,32] ((r[i]!.map ek).take r[i]!.length)=aS [32,124,124,32] ((r.map jH).take (i+1))by rw[hji,ed (by rw[bN];exact aL _)];rfl];exact⟨i+1,ae,ae,(dr [(0,0)])⟩
 refine aZ ?_;refine c9 ?_;rw[ed cY];rfl
def Ny (T:List D->D->Prop):Prop:=∀(r:zT),(kG r=true/\oz r)->T [iB r] (.str (Ff r))
def Ug (Y:Ctx):Prop:=Ny (bx Y 900)
noncomputable def Te:aC:=cP 254
def w901 {Y:Ctx}(hm:(Y.at 0).b7)(h899:XK Y)(h900:Ug Y)(r:zT)  (hp0:oz r):dh Y Te (.bool (ue r)) [iB r]:=by
 show bJ _ _ _ [⟨_,_⟩,_,_] _;refine ar ?_;refine aE ?_;refine aq (hc:=h899 r hp0) ?_;refine ax ?_;refine c8 (hc:=fun hf=>h900 r ⟨by simpa using hf,hp0⟩) ?_;refine ik ?_;refine aE ?_;refine bU ?_;simp only[ue];congr 1;exact gO.2 ae
def zP (T:List D->D->Prop):Prop:=∀(r:zT),(oz r)->T [iB r] (.bool (ue r))
def C901 (Y:Ctx):Prop:=zP (bx Y 901)
noncomputable def Ka:aC:=cP 220
def w745 {Y:Ctx}(hm:(Y.at 0).b7)(h900:Ug Y)(h901:C901 Y)(r:zT)  (hp0:oz r):dh Y Ka (.str (xW r)) [iB r]:=by
 show bJ _ _ _ [⟨_,_⟩,_,_,_] _;refine ar ?_;refine aD ?_;refine aq (hc:=h901 r hp0) ?_;refine ax ?_;refine av (fun hc0=>?_) (fun hc0=>?_)
 .simp only[bd]at hc0;refine aE ?_;refine c9 ?_;simp[xW,hc0]
 simp only[bK]at hc0;have hfw:kG r=true:=by simp only[ue,bB]at hc0;exact hc0.1
 refine ay ?_;refine aq (hc:=h900 r ⟨hfw,hp0⟩) ?_;refine ay ?_;refine c9 ?_;simp[xW,hc0]
def zK (T:List D->D->Prop):Prop:=∀(r:zT),(oz r)->T [iB r] (.str (xW r))
def C745 (Y:Ctx):Prop:=zK (bx Y 745)
noncomputable def Pz:aC:=cP 251
def w898  (s:au)   :dh Y Pz (.str (eN s)) [.str s]:=by
 show bJ _ _ _ [⟨_,_⟩,_,_,_] _;refine ar ?_;refine ax ?_;refine ba hm (ι:=au) (fun t=>[⟨true,.str t⟩,.un,.un,.un]) (fun t=>[]) 1 (fun t=>kM s=kM t/\t.length<=s.length) (fun t=>t.length) s ⟨rfl,aL _⟩ (dr []) ?_;rintro t ⟨hr,hl⟩;refine aB ?_;intro u0;refine ay ?_;refine pU 0 ?_;refine ay ?_;refine cF (fun hc0=>?_) fun hc0=>?_
 .refine aB ?_;refine fu 1 (hb:=fun _=>ae) ?_;refine aB ?_;exact⟨(t.drop 1),⟨by rw[hr,CB ae hc0.2],by rw[jO];omega⟩,by rw[jO];omega,(dr [])⟩
 refine ax ?_;have hbt:eN s=z6 t:=by
  show(kM (kM s).reverse).reverse=_;rw[hr,zZ hc0];rfl
 refine ba hm (ι:=au) (fun u=>[⟨true,.str u⟩,.un,.un,.un]) (fun u=>[]) 9 (fun u=>eN s=z6 u/\u.length<=s.length) (fun u=>u.length) t ⟨hbt,hl⟩ (dr []) ?_;rintro u ⟨hru,hlu⟩;refine aB ?_;intro u1;refine aB ?_;refine ik ?_;refine aA ?_;refine pU (u.length-1) ?_;refine ay ?_;refine cF (fun hc1=>?_) fun hc1=>?_
 .refine aD ?_;intro u2;refine aA ?_;refine kX (u.length-1) (hj:=fun _=>ae) (hb:=fun _=>ae) ?_;refine aB ?_;exact⟨(u.take (u.length-1)),⟨by rw[hru,NX ae hc1.2],by rw[er];omega⟩,by rw[er];omega,(dr [])⟩
 refine aZ ?_;refine c9 ?_;rw[hru,IQ hc1]
def Nw (T:List D->D->Prop):Prop:=∀(s:au),T [.str s] (.str (eN s))
def C898 (Y:Ctx):Prop:=Nw (bx Y 898)
noncomputable def Py:aC:=cP 249
def w896  (s:au)  (hp0:s.length<=1048576):dh Y Py (.sl 1 ((aR s []).map D.str)) [.str s]:=by
 show bJ _ _ _ [⟨_,_⟩,_,_,_,_,_,_] _;refine ar ?_;refine gu ?_;refine ba hm (ι:=(Nat×Nat×List au)) (fun p=>[⟨true,.str s⟩,.un,⟨true,.int .i64 (p.1:Nat)⟩,.un,⟨true,.int .i64 (p.2.1:Nat)⟩,.un,⟨true,.own 0 1 0 p.2.2.length⟩]) (fun p=>[(0,.buf 1 (p.2.2.map D.str))]) 4 (fun p=>p.1<=s.length/\p.2.1<=s.length/\p.2.1<=p.1+1/\p.2.2.length<=p.1/\tm s p.1 p.2.1 p.2.2) (fun p=>s.length-p.1) (0,0,[]) ⟨aJ,aJ,aJ,aJ,by simp[tm]⟩ (a7.to [] ah ah (by repeat(first|exact dp.nil|refine dp.un ?_|refine dp.eq ah ?_|refine dp.nl ah ah ?_|refine dp.ni (Or.inr ⟨_,_,_,rfl⟩) ?_)) (by repeat(first|exact bo.nil|refine bo.mt ah ah ah ah ?_))) ?_;rintro⟨i,fr,acc⟩ ⟨hi,hf,hfi,ha,hr⟩;dsimp only at hi hf hfi ha hr⊢;refine aD ?_;intro u0;refine ax ?_;refine cF (fun hc0=>?_) fun hc0=>?_
 .refine aE ?_;refine pU i ?_;refine aE ?_;refine pU (i+1) ?_;refine bL ?_;refine fM (fun hc1=>?_) fun hc1=>?_
  .refine aE ?_;refine Bh fr i (hb:=fun _=>ae) ?_;refine df [(.str _)] ?_;refine BW ?_;exact⟨(i+1,i+2,acc++[(s.take i).drop fr]),⟨dE,dE,dE,cY,NU hr ae hc1⟩,dE,(a7.to [(31,0)] ah ah eh (by refine bo.nl 31 ah ah ah eK ?_;exact bo.nil))⟩
  refine bL ?_;exact⟨(i+1,fr,acc),⟨dE,dE,dE,dE,QE hr ae hfi hc1⟩,dE,(a7.to [(0,0)] ah ah eh (by refine eM ?_;exact bo.nil))⟩
 refine aD ?_;refine fu fr (hb:=fun _=>ae) ?_;refine df [(.str _)] ?_;refine ay ?_;refine eH 14 ?_;refine aA ?_;refine bF (?_);rw[NT hr ae hf];rfl
def Nu (T:List D->D->Prop):Prop:=∀(s:au),(s.length<=1048576)->T [.str s] (.sl 1 ((aR s []).map D.str))
def C896 (Y:Ctx):Prop:=Nu (bx Y 896)
noncomputable def J8:aC:=cP 219
def w744 (h470:tz Y)(h896:C896 Y)(h897:C897 Y)(h898:C898 Y)(h899:XK Y)(h900:Ug Y)(s:au)  (hp0:s.length<=1048576):dh Y J8 (.tup [iB (iJ s).1,.int .i64 (iJ s).2]) [.str s]:=by
 show bJ _ _ _ [⟨_,_⟩,_,_,_,_,_,_,_,_,_,_,_,_,_,_,_,_] _;have hdl:=oA s [];have hgl:∀i,i<(aR s []).length->(aR s [])[i]!.length<=s.length:=fun i hi=>by
  have:=hdl.2 _ (bE hi);simpa using this
 refine ar ?_;refine aZ ?_;intro u0;refine ax ?_;refine cF (fun hc0=>?_) fun hc0=>?_
 .refine ax ?_;refine de [.bq] ?_;refine aI (.agg [.bq]) (he:=aQ) ?_;refine ay ?_;refine bF (aH ?_ (aj (D.int .i64) ?_));all_goals
   have hq:iJ s=([],3):=by
    unfold iJ;rw[aw ae]
   rw[hq];first|done|rfl
 refine aD ?_;refine aq (hc:=h896 s ae) ?_;refine aD ?_;refine ba hm (ι:=Nat) (fun i=>[.un,⟨true,.ptr 0 1 0 0⟩,.un,.un,⟨true,.int .i64 (i:Nat)⟩,⟨true,.sl 1 ((aR s []).map D.str)⟩,.un,.un,.un,.un,.un,.un,.un,.un,⟨true,.ptr 5 1 0 0⟩,.un,.un]) (fun i=>[(0,.buf 1 [.agg [.bq]]),(5,.buf 1 [.agg [.own 1 1 0 ((iK s).take i).length]]),(1,.buf 1 (((iK s).take i).map ra))]) 10 (fun i=>i<=(aR s []).length/\Bv s=cQ (fun i=>wOK (aR s [])[i]!) i (aR s []).length) (fun i=>(aR s []).length-i) 0 ⟨ae,rfl⟩ (a7.to [(0,0),(5,5)] ah ah eh (by refine eM ?_;refine bo.ni 5 ah ah (by exact⟨_,_,rfl,⟨_,rfl,⟨_,_,rfl,Or.inr ⟨_,_,_,rfl⟩,rfl⟩⟩,rfl⟩) ?_;refine bo.mt ah ah ah ah ?_;exact bo.nil)) ?_;rintro i ⟨hi,hr⟩;have hrt:((iK s).take i).length<=i:=by rw[er];omega
 refine aE ?_;intro u1;refine ax ?_;refine cF (fun hc1=>?_) fun hc1=>?_
 .refine aD ?_;have hgi:=hgl i ae;have hsl:=dk (aR s [])[i]! 44;have hsp:1<=(ai (aR s [])[i]! 44).length:=ep _ _ _;refine aB ?_;refine aq (hc:=h470 (aR s [])[i]! 44 ae) ?_;refine aD ?_;refine ba hm (ι:=Nat) (fun k=>[.un,⟨true,.ptr 0 1 0 0⟩,.un,.un,⟨true,.int .i64 (i:Nat)⟩,⟨true,.sl 1 ((aR s []).map D.str)⟩,.un,⟨true,.int .i64 (k:Nat)⟩,⟨true,.sl 1 ((ai (aR s [])[i]! 44).map D.str)⟩,.un,.un,.un,⟨true,.own 2 7 0 ((mV (aR s [])[i]!).take k).length⟩,.un,⟨true,.ptr 5 1 0 0⟩,.un,.un]) (fun k=>[(0,.buf 1 [.agg [.bq]]),(5,.buf 1 [.agg [.own 1 1 0 ((iK s).take i).length]]),(1,.buf 1 (((iK s).take i).map ra)),(2,.buf 7 (((mV (aR s [])[i]!).take k).map dH.D))]) 22 (fun k=>k<=(ai (aR s [])[i]! 44).length/\wOK (aR s [])[i]! =cQ (fun k=>(eO (eN (ai (aR s [])[i]! 44)[k]!)).isSome) k (ai (aR s [])[i]! 44).length) (fun k=>(ai (aR s [])[i]! 44).length-k) 0 ⟨ae,rfl⟩ (a7.to [(0,0),(5,5),(1,1)] ah ah (by repeat(first|exact dp.nil|refine dp.un ?_|refine dp.eq ah ?_|refine dp.nl ah ah ?_|refine dp.ni (Or.inr ⟨_,_,_,rfl⟩) ?_)) (by refine eM ?_;refine eM ?_;refine eM ?_;refine bo.mt ah ah ah ah ?_;exact bo.nil)) ?_;rintro k ⟨hk,hwk⟩;have htk:((mV (aR s [])[i]!).take k).length<=k:=by rw[er];omega
  refine aE ?_;intro u2;refine ax ?_;refine cF (fun hc2=>?_) fun hc2=>?_
  .refine ay ?_;have hwl:=qA (aR s [])[i]! 44 (show k<(ai (aR s [])[i]! 44).length by omega);have hbl:=vU (ai (aR s [])[i]! 44)[k]!;refine aB ?_;refine aq (hc:=h898 (ai (aR s [])[i]! 44)[k]!) ?_;refine aq (hc:=h897 (eN (ai (aR s [])[i]! 44)[k]!) ae) ?_;refine aA ?_;refine eX (dH.D _) ?_;refine ax ?_;refine aI (dH.D ((eO (eN (ai (aR s [])[i]! 44)[k]!)).getD eP)) (he:=aQ) ?_;refine aZ ?_;refine av (fun hc3=>?_) (fun hc3=>?_)
   .have hsm:(eO (eN (ai (aR s [])[i]! 44)[k]!)).isSome=false:=by cases hx:(eO (eN (ai (aR s [])[i]! 44)[k]!)).isSome with|false=>rfl|true=>rw[hx]at hc3;exact absurd hc3 aF
    refine ax ?_;refine de [.bq] ?_;refine aI (.agg [.bq]) (he:=aQ) ?_;refine aZ ?_;refine bF (aH ?_ (aj (D.int .i64) ?_));all_goals
     have hq:iJ s=([],6):=by
      have hno:Bv s=false:=by rw[hr,aU ae,hwk,aU ae,hsm];rfl
      unfold iJ;rw[ak ae,aw hno]
     rw[hq];first|done|rfl
   have hsm:(eO (eN (ai (aR s [])[i]! 44)[k]!)).isSome=true:=by cases hx:(eO (eN (ai (aR s [])[i]! 44)[k]!)).isSome with|true=>rfl|false=>rw[hx]at hc3;exact absurd hc3 aF
   refine ay ?_;refine cz (d:=dH.D ((eO (eN (ai (aR s [])[i]! 44)[k]!)).getD eP)) ?_;refine df [(dH.D _)] ?_;refine fS ?_;have hq:=iQ (fun x=>(eO (eN x)).getD eP) (ai (aR s [])[i]! 44) (show k<(ai (aR s [])[i]! 44).length by omega);rw[show(fun x=>(eO (eN x)).getD eP)=fun x=>(eO (eN x)).getD eP from rfl]at hq;have hq:(mV (aR s [])[i]!).take (k+1)=_:=hq;rw[show(mV (aR s [])[i]!).take k++[(eO (eN (ai (aR s [])[i]! 44)[k]!)).getD eP]=(mV (aR s [])[i]!).take (k+1)from hq.symm];exact⟨k+1,⟨ae,by rw[hwk,aU ae,hsm];rfl⟩,ae,(a7.to [(0,0),(5,5),(1,1),(43,2)] ah ah eh (by refine eM ?_;refine eM ?_;refine eM ?_;refine bo.nl 43 ah ah ah eK ?_;exact bo.nil))⟩
  refine ax ?_;refine eH 2 ?_ (he:=by simp only[kS,iD,iN,lG,mU,cH,Nat.reduceEqDiff,aW,aX,cN,cr,ct,cS,cW,bQ,bN,aL,bY,aN,reduceCtorEq,aP,a8,Nat.reduceAdd,Nat.reduceLeDiff,oO];exact rfl) (hm:=by simp only[kS,iD,iN,lG,mU,cH,Nat.reduceEqDiff,aW,aX,cN,cr,ct,cS,cW,bQ,bN,aL,bY,aN,reduceCtorEq,aP,a8,Nat.reduceAdd,Nat.reduceLeDiff,oO];exact rfl);refine aA ?_;obtain rfl:k=(ai (aR s [])[i]! 44).length:=ae;rw[ed (show(mV (aR s [])[i]!).length<=(ai (aR s [])[i]! 44).length by simp[mV])];refine aA ?_;refine aT (v:=.own _ _ _ _) ?_;refine aA ?_;refine df [ra (mV (aR s [])[i]!)] ?_;refine ax ?_;refine aI (.agg [.own 30 1 0 ((iK s).take i++[mV (aR s [])[i]!]).length]) (he:=aQ) ?_;refine bL ?_;have hq:(iK s).take (i+1)=(iK s).take i++[mV (aR s [])[i]!]:=iQ mV (aR s []) (show i<(aR s []).length by omega);rw[<-hq];exact⟨i+1,⟨ae,by rw[hr,aU ae,hwk,cj ae];rfl⟩,ae,(a7.to [(0,0),(5,5),(30,1)] ah ah eh (by refine eM ?_;refine eM ?_;refine bo.nl 30 ah ah ah eK ?_;exact bo.nil))⟩
 refine ay ?_;refine eH 1 ?_ (he:=by simp only[kS,iD,iN,lG,mU,cH,Nat.reduceEqDiff,aW,aX,cN,cr,ct,cS,cW,bQ,bN,aL,bY,aN,reduceCtorEq,aP,a8,Nat.reduceAdd,Nat.reduceLeDiff,oO];exact rfl) (hm:=by simp only[kS,iD,iN,lG,mU,cH,Nat.reduceEqDiff,aW,aX,cN,cr,ct,cS,cW,bQ,bN,aL,bY,aN,reduceCtorEq,aP,a8,Nat.reduceAdd,Nat.reduceLeDiff,oO];exact rfl);refine aA ?_;obtain rfl:i=(aR s []).length:=ae;have hok:Bv s=true:=by rw[hr,cj ae]
 rw[ed (show(iK s).length<=(aR s []).length by simp[iK])];have hrs:=Fg (s:=s) ae;refine cz (d:=iB (iK s)) ?_;refine aq (hc:=h899 (iK s) hrs) ?_;refine ax ?_;refine av (fun hc4=>?_) (fun hc4=>?_)
 .simp only[bd]at hc4;refine ax ?_;refine de [.bq] ?_;refine aI (.agg [.bq]) (he:=aQ) ?_;refine ay ?_;refine bF (aH ?_ (aj (D.int .i64) ?_));all_goals
   have hq:iJ s=([],6):=by
    unfold iJ;rw[ak ae,ak (by rw[hok];simp),aw hc4]
   rw[hq];first|done|rfl
 simp only[bK]at hc4;refine ay ?_;refine cz (d:=iB (iK s)) ?_;refine aq (hc:=h900 (iK s) ⟨hc4,hrs⟩) ?_;refine aA ?_;intro u3;refine ax ?_;refine cF (fun hc5=>?_) fun hc5=>?_
 .refine ax ?_;refine de [.bq] ?_;refine aI (.agg [.bq]) (he:=aQ) ?_;refine ay ?_;refine bF (aH ?_ (aj (D.int .i64) ?_));all_goals
   have hq:iJ s=([],3):=by
    unfold iJ;rw[ak ae,ak (by rw[hok];simp),ak (by rw[hc4];simp),aw ae]
   rw[hq];first|done|rfl
 refine ax ?_;refine cz (d:=iB (iK s)) ?_;refine aI (iB (iK s)) (he:=aQ) ?_;refine ay ?_;refine bF (aH ?_ (aj (D.int .i64) ?_));all_goals
  have hq:iJ s=(iK s,0):=by
   unfold iJ;rw[ak ae,ak (by rw[hok];simp),ak (by rw[hc4];simp),ak ae]
  rw[hq];first|done|rfl
def zJ (T:List D->D->Prop):Prop:=∀(s:au),(s.length<=1048576)->T [.str s] (.tup [iB (iJ s).1,.int .i64 (iJ s).2])
def C744 (Y:Ctx):Prop:=zJ (bx Y 744)
noncomputable def J9:aC:=cP 190
def w572 {Y:Ctx}(hm:(Y.at 0).b7)(h744:C744 Y)(h745:C745 Y)(s:au)  (hp0:s.length<=1048576):dh Y J9 (.bool (sV s)) [.str s]:=by
 show bJ _ _ _ [⟨_,_⟩,_,_,_] _;refine ar ?_;refine aB ?_;refine aq (hc:=h744 s hp0) ?_;refine aA ?_;refine eX (iB _) ?_;refine ax ?_;refine aI (iB (iJ s).1) (he:=aQ) ?_;refine aD ?_;refine cz (d:=iB (iJ s).1) ?_;refine c8 (hc:=fun hf=>h745 (iJ s).1 LP.1) ?_;refine aD ?_;exact bU rfl
def zA (T:List D->D->Prop):Prop:=∀(s:au),(s.length<=1048576)->T [.str s] (.bool (sV s))
def Xt (Y:Ctx):Prop:=zA (bx Y 572)
noncomputable def Ke:aC:=cP 209
def w684 (h242:Ql Y)(h827:Uf Y)(h828:XJ Y)(r:zT)  (hp0:oz r):dh Y Ke (.tup [.str (if kG r=true then Ff r else []),.bool (kG r)]) [iB r]:=by
 show bJ _ _ _ [⟨_,_⟩,_,_,_,_,_,_,_,_,_,_,_,_,_,_,_,_,_,_] _;refine ar ?_;refine cZ ?_;intro u0;refine aB ?_;refine ik ?_;refine ay ?_;refine cF (fun hc0=>?_) fun hc0=>?_
 .refine aD ?_;refine bF (aH (aj D.str ?_) (aj D.bool ?_));all_goals
   have hq:kG r=false:=by
    simp only[kG];rcases hc0 with h|h
    .rw[cG ae];rfl
    .rw[cG (by omega:¬r.length<=6),Bool.and_false];rfl
   simp[hq]
 refine cZ ?_;intro u1;refine ax ?_;have hb:kG r=cQ (fun i=>kK r[i]!) 0 r.length:=by simp only[kG];rw[b9 ae,b9 ae];rfl
 refine ba hm (ι:=Nat) (fun i=>[.un,.un,.un,⟨true,.ptr 0 1 0 0⟩,.un,⟨true,.int .i64 (i:Nat)⟩,⟨true,.int .i64 (r.length:Nat)⟩,.un,⟨true,.sl 1 (r.map ra)⟩,.un,.un,.un,.un,.un,.un,.un,.un,.un,⟨true,.own 1 1 0 ((r.map jH).take i).length⟩]) (fun i=>[(0,.buf 1 [iB r]),(1,.buf 1 (((r.map jH).take i).map D.str))]) 18 (fun i=>i<=r.length/\kG r=cQ (fun i=>kK r[i]!) i r.length/\1<=r.length/\r.length<=6) (fun i=>r.length-i) 0 ⟨ae,hb,ae,ae⟩ (a7.to [(0,0)] ah ah (by repeat(first|exact dp.nil|refine dp.un ?_|refine dp.eq ah ?_|refine dp.nl ah ah ?_|refine dp.ni (Or.inr ⟨_,_,_,rfl⟩) ?_)) (by refine eM ?_;refine bo.mt ah ah ah ah ?_;exact bo.nil)) ?_;rintro i ⟨hi,hr,hr1,hr6⟩;have hti:((r.map jH).take i).length<=i:=by rw[er];omega
 refine ay ?_;refine cF (fun hc1=>?_) fun hc1=>?_
 .refine fH ?_;intro u2;refine ay ?_;refine ik ?_;refine ay ?_;refine cF (fun hc2=>?_) fun hc2=>?_
  .refine bL ?_;refine bF (aH (aj D.str ?_) (aj D.bool ?_));all_goals
    have hq:kG r=false:=by
     rw[hr,aU ae];have:kK r[i]! =false:=by
      simp only[kK];rcases hc2 with h|h
      .rw[cG ae];rfl
      .rw[cG (by omega:¬r[i]!.length<=6),Bool.and_false];rfl
     rw[this];rfl
    simp[hq]
  refine bL ?_;intro u3;refine ax ?_;have hal:1<=r[i]!.length/\r[i]!.length<=6:=ae;have hkb:kK r[i]! =cQ (fun k=>nw r[i]![k]!) 0 r[i]!.length:=by simp only[kK];rw[b9 ae,b9 ae];rfl
  refine ba hm (ι:=Nat) (fun k=>[.un,.un,.un,⟨true,.ptr 0 1 0 0⟩,.un,⟨true,.int .i64 (i:Nat)⟩,⟨true,.int .i64 (r.length:Nat)⟩,.un,⟨true,.sl 1 (r.map ra)⟩,.un,.un,⟨true,.int .i64 (k:Nat)⟩,⟨true,.int .i64 (r[i]!.length:Nat)⟩,.un,⟨true,.sl 7 (r[i]!.map dH.D)⟩,.un,.un,⟨true,.own 2 1 0 ((r[i]!.map ek).take k).length⟩,⟨true,.own 1 1 0 ((r.map jH).take i).length⟩]) (fun k=>[(0,.buf 1 [iB r]),(1,.buf 1 (((r.map jH).take i).map D.str)),(2,.buf 1 (((r[i]!.map ek).take k).map D.str))]) 34 (fun k=>k<=r[i]!.length/\kK r[i]! =cQ (fun k=>nw r[i]![k]!) k r[i]!.length) (fun k=>r[i]!.length-k) 0 ⟨ae,hkb⟩ (a7.to [(0,0),(1,1)] ah ah (by repeat(first|exact dp.nil|refine dp.un ?_|refine dp.eq ah ?_|refine dp.nl ah ah ?_|refine dp.ni (Or.inr ⟨_,_,_,rfl⟩) ?_)) (by refine eM ?_;refine eM ?_;refine bo.mt ah ah ah ah ?_;exact bo.nil)) ?_;rintro k ⟨hk,hkr⟩;have htk:((r[i]!.map ek).take k).length<=k:=by rw[er];omega
  refine ay ?_;refine cF (fun hc3=>?_) fun hc3=>?_
  .refine aB ?_;first|refine bD (v:=(dH.D _)) ?_|refine e7 (v:=(dH.D _)) ?_
   refine aA ?_;refine aI (dH.D r[i]![k]!) (he:=aQ) ?_;refine ay ?_;have hlo:=hp0 r[i]! (bE ae) _ (bE (show k<r[i]!.length by omega));refine aA ?_;refine aq (hc:=h827 r[i]![k]! hlo.sm) ?_;refine ax ?_;refine av (fun hc4=>?_) (fun hc4=>?_)
   .simp only[bd]at hc4;refine fS ?_;refine bF (aH (aj D.str ?_) (aj D.bool ?_));all_goals
     have hq:kG r=false:=by rw[hr,aU ae,hkr,aU ae,hc4];rfl
     simp[hq]
   simp only[bK]at hc4;refine aB ?_;refine aq (hc:=h828 r[i]![k]! hlo.sm) ?_;refine df [(.str _)] ?_;refine cZ ?_;have hq:=iQ ek r[i]! (show k<r[i]!.length by omega);rw[<-hq];exact⟨k+1,⟨ae,by rw[hkr,aU ae,hc4];rfl⟩,ae,(a7.to [(0,0),(1,1),(46,2)] ah ah eh (by refine eM ?_;refine eM ?_;refine bo.nl 46 ah ah ah eK ?_;exact bo.nil))⟩
  refine ay ?_;obtain rfl:k=r[i]!.length:=ae;have hok:kK r[i]! =true:=by rw[hkr,cj ae]
  rw[ed (show(r[i]!.map ek).length<=r[i]!.length by rw[bN];exact aL _)];have hj:∀t∈(r[i]!.map ek),t.length<=2097200:=fun t ht=>by
   obtain⟨c,hc,rfl⟩:=ey.1 ht;exact dm (Af (hp0 r[i]! (bE ae) c hc)) aF
  refine ax ?_;refine aq (hc:=h242 (r[i]!.map ek) [44,32] (by rw[bN];omega) aJ hj) (ha:=fun _=>aj (fun d=>[d,D.str [44,32]]) (oZ (q:=D.str) (fun _=>rfl) ah)) (hp:=fun _=>⟨mT (q:=D.str) (fun _=>rfl) ah,rfl,trivial⟩) ?_;refine df [.str (jH r[i]!)] ?_;refine cZ ?_;have hq:=iQ jH r (show i<r.length by omega);rw[<-hq];exact⟨i+1,⟨ae,by rw[hr,aU ae,hok];rfl,hr1,hr6⟩,ae,(a7.to [(0,0),(39,1)] ah ah eh (by refine eM ?_;refine bo.nl 39 ah ah ah eK ?_;exact bo.nil))⟩
 refine ay ?_;obtain rfl:i=r.length:=ae;have hfw:kG r=true:=by rw[hr,cj ae]
 rw[ed (show(r.map jH).length<=r.length by rw[bN];exact aL _)];have hj:∀t∈(r.map jH),t.length<=2097200:=fun t ht=>by
  obtain⟨a,ha,rfl⟩:=ey.1 ht;obtain⟨i,hi,rfl⟩:=List.mem_iff_getElem.1 ha;have h1:=Al hfw hi;rw[show r[i]! =r[i]by simp[hi]]at h1;exact dm (zU (hp0 _ ha) (vQ h1).2) aF
 refine aA ?_;refine aq (hc:=h242 (r.map jH) [32,124,124,32] (by rw[bN];omega) aJ hj) (ha:=fun _=>aj (fun d=>[d,D.str [32,124,124,32]]) (oZ (q:=D.str) (fun _=>rfl) ah)) (hp:=fun _=>⟨mT (q:=D.str) (fun _=>rfl) ah,rfl,trivial⟩) ?_;refine aB ?_;refine bF (aH (aj D.str ?_) (aj D.bool ?_));all_goals (simp only[hfw,aW];first|done|rfl)
def Nf (T:List D->D->Prop):Prop:=∀(r:zT),(oz r)->T [iB r] (.tup [.str (if kG r=true then Ff r else []),.bool (kG r)])
def Ue (Y:Ctx):Prop:=Nf (bx Y 684)
noncomputable def PI:aC:=cP 210
def w685 {Y:Ctx}(hm:(Y.at 0).b7)(h684:Ue Y)(r:zT)  (hp0:oz r):dh Y PI (.bool (ue r)) [iB r]:=by
 show bJ _ _ _ [⟨_,_⟩,_,_,_,_] _;refine ar ?_;refine aE ?_;refine aq (hc:=h684 r hp0) ?_;refine fS ?_;refine ik ?_;refine aE ?_;refine bU ?_;cases hf:kG r with
 |false=>simp[ue,hf]
 |true=>simp only[ue,hf,aW,gz];exact gO.2 ae
def C685 (Y:Ctx):Prop:=zP (bx Y 685)
noncomputable def HO:aC:=cP 178
def w496 {Y:Ctx}(hm:(Y.at 0).b7)(h684:Ue Y)(r:zT)  (hp0:oz r):dh Y HO (.str (xW r)) [iB r]:=by
 show bJ _ _ _ [⟨_,_⟩,_,_,_,_,_] _;refine ar ?_;refine aD ?_;refine aq (hc:=h684 r hp0) ?_;refine fH ?_;refine ik ?_;refine ay ?_;refine av (fun hc0=>?_) (fun hc0=>?_)
 .simp only[bB,aK]at hc0;refine aD ?_;refine c9 ?_;have hm:ue r=true:=by simp only[ue,hc0.1,gz,aK];have:=hc0.2;rw[hc0.1,aw rfl]at this;omega
  simp only[xW,hm,hc0.1,aW]
 skip
 refine aE ?_;refine c9 ?_;have hm:ue r=false:=by
  cases hf:kG r with
  |false=>simp[ue,hf]
  |true=>
   rw[hf]at hc0;simp only[aW,gz,bc]at hc0;simp only[ue,hf,gz,bc];omega
 simp[xW,hm]
def C496 (Y:Ctx):Prop:=zK (bx Y 496)
def Iw (T:List D->D->Prop):Prop:=∀(s:au),(s.length<=1048576)->T [.str s,.str [124,124]] (.sl 1 ((aR s []).map D.str))
def Wi (Y:Ctx):Prop:=Iw (bx Y 124)
def Nc (T:List D->D->Prop):Prop:=∀(s:au) (b:UInt8),(b=32)->(s.length<=1048576)->T [.str s,.str [b]] (.str (eN s))
def C683 (Y:Ctx):Prop:=Nc (bx Y 683)
def ze (T:List D->D->Prop):Prop:=∀(r:Rec),(xG r/\fA r)->T [Rec.D r] (.str (gr r))
def W2 (Y:Ctx):Prop:=ze (bx Y 219)
def W1 (Y:Ctx):Prop:=ze (bx Y 215)
end Go.Abs
