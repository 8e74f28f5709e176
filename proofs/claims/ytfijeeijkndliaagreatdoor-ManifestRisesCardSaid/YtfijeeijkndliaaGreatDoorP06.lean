/- A part of the proofs. -/
import Derived.Test.YtfijeeijkndliaaGreatDoorP05
set_option linter.all false
set_option maxRecDepth 4000
namespace Go.Abs
variable {Y:Ctx}(hm:(Y.at 0).cQ)
def A7:aN:=⟨2,10,[⟨2,none⟩],[[.sl 1 [.a]]],(sq (r1 [gm (.c (.au))] 2 0) (sq (r1 [gm (.c (.au))] 8 0) (sq (r1 [gm b7] 9 0) (sq (sq (rg [gm s0,uE l0,gm b7] [(4,1),(3,2)]) (.block 0 (.loop (sq (r1 [bo s3 s4] 5 0) (sq (jG s5 0) (sq (.block 1 (sq (r1 [gm s3,gm l0] 6 1) (sq (r1 [gm s0,gm s6,Mm l0 l1,gm s1,aU l2 l3] 7 4) (.cond s7 (sq (r1 [gm s8,gm s0,gm s9,gm s6,gn (.slS l1 (some l2) (some l3)),gn (.bsl 1 (.str []) 1 [(0,l4)]),gn (.app 1 l0 l5),gm l6] 8 7) (r1 [gm s6,ay l0 cN,gm l1] 9 2)) .skip)))) (r1 [ay s3 cN,gm l0] 3 1))))))) (sq (r1 [gm s8,gm s0,gm s9,gn (.slS l1 (some l2) none),gn (.bsl 1 (.str []) 1 [(0,l3)]),gn (.app 1 l0 l4),gm l5] 2 6) .ret)))))⟩
def w533  (s:ak)(b:Int)  (hp0:s.length<=1048576):fo Y A7 (.sl 1 ((ai s b).map D.str)) [.str s,.int .u8 b]:=by
 show ca _ _ _ [⟨_,_⟩,⟨_,_⟩,_,_,_,_,_,_,_,_] _;refine av ?_;refine jD ?_;intro u0;refine aA ?_;refine bO hm (ι:=(Nat×Nat×List ak)) (fun p:Nat×Nat×List ak=>[⟨true,.str s⟩,⟨true,.int .u8 b⟩,.un,⟨true,.int .i64 (p.1:Nat)⟩,⟨true,.int .i64 (s.length:Nat)⟩,.un,.un,.un,⟨true,.own 0 1 0 p.2.2.length⟩,⟨true,.int .i64 (p.2.1:Nat)⟩]) (fun p=>[(0,.buf 1 (p.2.2.map D.str))]) 6 (fun p=>p.1<=s.length/\p.2.1<=p.1/\p.2.2.length<=p.1/\ai s b=p.2.2++bH b (s.drop p.1) ((s.take p.1).drop p.2.1)) (fun p=>s.length-p.1) (0,0,[]) ⟨aJ,aJ,aJ,rfl⟩ (aW.to [] ah ah (by repeat(first|exact dr.nil|refine dr.un ?_|refine dr.eq ah ?_|refine dr.nl ah ah ?_|refine dr.ni (Or.inr ⟨0,1,0,rfl⟩) ?_)) (by repeat(first|exact bg.nil|refine bg.mt ah ah ah ah ?_))) ?_;rintro⟨i,fr,acc⟩ ⟨hi,hf,ha,hr⟩;dsimp only at hi hf ha hr⊢;refine aG ?_;refine dR (fun hc0=>?_) fun hc0=>?_
 .refine nT ?_;refine wp_cond (fun hc1=>?_) (fun hc1=>?_)
  .try simp only[ed]at hc1
   refine bm ?_;refine BC _ _ ?_;refine cZ [(.str _)] ?_;refine y6 ?_;exact⟨(i+1,i+1,acc++[(s.take i).drop fr]),⟨ea,ea,cX,by rw[hr,yF ae hc1];simp⟩,ea,(aW.to [(20,0)] ah ah lZ (by refine bg.nl 20 ah ah ah eL ?_;exact bg.nil))⟩
  simp only[bC]at hc1;refine bI ?_;exact⟨(i+1,fr,acc),⟨ea,ea,ea,by rw[hr,yG ae ae hc1]⟩,ea,(aW.to [(0,0)] ah ah lZ (by refine bg.nl 0 ah ah ah eL ?_;exact bg.nil))⟩
 refine bh ?_;refine m3 _ ?_;refine cZ [(.str _)] ?_;refine aG ?_;refine eF 12 ?_;refine az ?_;refine cv (?_);have hs:ai s b=acc++[s.drop fr]:=by rw[hr,wJ ae]
 rw[hs];exact rfl
def uW (T:List D->D->Prop):Prop:=∀(s:ak) (b:Int),(s.length<=1048576)->T [.str s,.int .u8 b] (.sl 1 ((ai s b).map D.str))
def Is (Y:Ctx):Prop:=uW (ch Y 533)
def uo:aN:=⟨1,7,mJ,di,(sq (r1 [gm eS] 1 0) (sq (sq (rg [gm s0,uE l0,gm b7] [(3,1),(2,2)]) (.block 0 (.loop (sq (r1 [bo s2 s3] 4 0) (sq (jG s4 0) (sq (.block 1 (sq (r1 [gm s2,gm l0] 5 1) (sq (r1 [gm s0,gm s5,Mm l0 l1,bo l2 (i8 48),gm l3,fZ 4 s0,fZ 4 s5,dc 4 (.ixS l5 l6),dc 4 (ew l7 (i8 57)),gR l4 l8] 6 9) (qj s6 eS)))) (r1 [ay s2 cN,gm l0] 2 1))))))) (sq (r1 [gm s0,dd l0 cse,gm l1] 1 2) .ret)))⟩
def w659  (t:ak)   :fo Y uo (.bool (gv t)) [.str t]:=by
 show ca _ _ _ [⟨_,_⟩,_,_,_,_,_,_] _;refine av ?_;refine bh ?_;intro u0;refine aA ?_;refine bO hm (ι:=Nat) (fun i=>[⟨true,.str t⟩,.un,⟨true,.int .i64 (i:Nat)⟩,⟨true,.int .i64 (t.length:Nat)⟩,.un,.un,.un]) (fun i=>[]) 4 (fun i=>i<=t.length/\dz (fun i=>bd (at8 t i)) 0 t.length=dz (fun i=>bd (at8 t i)) i t.length) (fun i=>t.length-i) 0 ⟨ae,rfl⟩ (fP []) ?_;rintro i ⟨hi,hr⟩;refine aG ?_;refine dR (fun hc0=>?_) fun hc0=>?_
 .refine Lm ?_;refine iR (fun hc1=>?_) fun hc1=>?_
  .refine bh ?_;refine cz ?_;simp only[gv];rw[hr,bc ae];rcases hc1 with h|h<;>simp[bd]<;>omega
  refine bI ?_;exact⟨i+1,⟨ae,by rw[hr,bc ae];rw[show bd (at8 t i)=true by simp only[bd,bt,a8];omega];rfl⟩,ae,(fP [])⟩
 refine cH ?_;refine cz ?_;simp only[gv];rw[hr,c8 ae];cases t<;>simp
def uY (T:List D->D->Prop):Prop:=∀(t:ak),T [.str t] (.bool (gv t))
def RJ (Y:Ctx):Prop:=uY (ch Y 659)
def Ac:aN:=⟨1,2,mJ,di,(sq (r1 [gm eS] 1 0) (sq (r1 [gm s0,jf l0 b7,gm l1,gmt 2 s0,dC 2 (oc l3 (i6 9999)),iM l2 l4,gm l5] 1 6) .ret))⟩
def w440 {Y:Ctx}(hm:(Y.at 0).cQ)  (n:Int)   :fo Y Ac (.bool (xm n)) [.int .i64 n]:=by
 show ca _ _ _ [⟨_,_⟩,_] _;refine av ?_;refine jD ?_;exact cz rfl
def uV (T:List D->D->Prop):Prop:=∀(n:Int),T [.int .i64 n] (.bool (xm n))
def Ro (Y:Ctx):Prop:=uV (ch Y 440)
def wV:aN:=⟨2,9,[⟨2,none⟩,⟨3,none⟩],iZ,(sq (rg [gm cse,gm cse] [(2,0),(3,1)]) (sq (sq (rg [gm s0,uE l0,gm b7] [(5,1),(4,2)]) (.block 0 (.loop (sq (r1 [bo s4 s5] 6 0) (sq (jG s6 0) (sq (.block 1 (sq (r1 [gm s4,gm l0] 7 1) (sq (r1 [gm s0,gm s7,Mm l0 l1,gm s1,aU l2 l3] 8 4) (.cond s8 (sq (rt [gm s0,gm s7,ay l1 cN,gn (.slS l0 (some l2) none),gm s0,gm s7,gn (.slS l4 none (some l5)),gm l3,gm l6] [(2,7),(3,8)]) .ret) .skip)))) (r1 [ay s4 cN,gm l0] 4 1))))))) (sq (rg [gm s0,gm cse,gm l0] [(2,1),(3,2)]) .ret)))⟩
def w675  (s:ak)(b:Int)   :fo Y wV (.tup [.str (gG s b).1,.str (gG s b).2]) [.str s,.int .u8 b]:=by
 show ca _ _ _ [⟨_,_⟩,⟨_,_⟩,_,_,_,_,_,_,_] _;refine av ?_;refine bI ?_;intro u0;refine aA ?_;refine bO hm (ι:=Nat) (fun i=>[⟨true,.str s⟩,⟨true,.int .u8 b⟩,.un,.un,⟨true,.int .i64 (i:Nat)⟩,⟨true,.int .i64 (s.length:Nat)⟩,.un,.un,.un]) (fun i=>[]) 5 (fun i=>i<=s.length/\gG s b=jU s b i) (fun i=>s.length-i) 0 ⟨ae,rfl⟩ (fP []) ?_;rintro i ⟨hi,hr⟩;refine aG ?_;refine dR (fun hc0=>?_) fun hc0=>?_
 .refine nT ?_;refine iR (fun hc1=>?_) fun hc1=>?_
  .refine aK ?_;refine m3 (i+1) ?_;refine aA ?_;refine rZ _ ?_;refine bh ?_;refine cv (aZ (ar D.str ?_) (ar D.str ?_));all_goals rw[hr,CE ae hc1]
  refine bI ?_;exact⟨i+1,⟨ae,by rw[hr,CF ae hc1]⟩,ae,(fP [])⟩
 refine cH ?_;refine cv (aZ (ar D.str ?_) (ar D.str ?_));all_goals rw[hr,AB ae]
def FZ (T:List D->D->Prop):Prop:=∀(s:ak) (b:Int),T [.str s,.int .u8 b] (.tup [.str (gG s b).1,.str (gG s b).2])
def RP (Y:Ctx):Prop:=FZ (ch Y 675)
def Ad:aN:=⟨1,15,mJ,di,(sq (r1 [gm eS] 1 0) (sq (r1 [gm s0,gx 533 [l0,(i8 46)] iZ,gm l1] 2 2) (sq (r1 [gm s2,gl l0,zF l1 ud,gm l2] 14 3) (sq .skip (sq (sq (rg [gm s2,gl l0,gm b7] [(6,0),(4,1),(3,2)]) (.block 0 (.loop (sq (r1 [bo s3 s4] 5 0) (sq (jG s5 0) (sq (.block 1 (sq (r1 [ga 1 s6 s3,gd l0,gm l1] 7 2) (sq (sq (r1 [gm s7,aU l0 cse,gm l1,fZ 2 s7,dc 2 (.lenS l3),dc 2 (ew l4 Jn),gR l2 l5] 8 6) (.cond s8 (sq (r1 [gm eS] 14 0) (.exit 0)) .skip)) (sq (r1 [gm s7,gn (.sa l0)] 9 1) (.block 2 (.loop (sq (rg [gn (.xe s9),ge l0 0] [(11,0),(10,1)]) (sq (jG mL 2) (.block 3 (sq (r1 [ge pU 2,gm l0] 12 1) (sq (r1 [gm m6,bo l0 (i3 97),gm l1,fZ 2 m6,dc 2 (ew l3 (i3 122)),gR l2 l4,gm l5,gmt 6 m6,dC 6 (rz l7 (i3 48)),gmt 6 l8,fZ 9 m6,dc 9 (ew l10 (i3 57)),QP 6 l9 kl,iM l6 mG,gm nQ,gmt 14 m6,dC 14 (gO pL (i3 45)),iM n7 si] 13 17) (.cond rq (sq (r1 [gm eS] 14 0) (.exit 0)) .skip)))))))))))) (r1 [ay s3 cN,gm l0] 3 1))))))) (sq (r1 [gm rr,gm l0] 1 1) .ret))))))⟩
def w442 (h533:Is Y)(s:ak)  (hp0:s.length<=1048576):fo Y Ad (.bool (mr s false)) [.str s]:=by
 show ca _ _ _ [⟨_,_⟩,_,_,_,_,_,_,_,_,_,_,_,_,_,_] _;refine av ?_;refine aK ?_;refine aq (hc:=h533 _ _ ?_) ?_;rotate_left;first|assumption|omega;have hlen:=dE s 46
 refine bm ?_;intro u0;refine cH ?_;intro u1;refine aA ?_;refine bO hm (ι:=Nat) (fun i=>[.un,.un,⟨true,.sl 1 ((ai s 46).map D.str)⟩,⟨true,.int .i64 (i:Nat)⟩,⟨true,.int .i64 ((ai s 46).length:Nat)⟩,.un,⟨true,.sl 1 ((ai s 46).map D.str)⟩,.un,.un,.un,.un,.un,.un,.un,⟨true,.bool (decide (((ai s 46).length:Int)<=4))⟩]) (fun i=>[]) 11 (fun i=>i<=(ai s 46).length/\mr s false=(decide ((ai s 46).length<=4)&&dz (fun i=>gw false (ai s 46)[i]!) i (ai s 46).length)) (fun i=>(ai s 46).length-i) 0 ⟨ae,rfl⟩ (fP []) ?_;rintro i ⟨hi,hr⟩;refine aG ?_;refine dR (fun hc0=>?_) fun hc0=>?_
 .refine ez ?_;generalize ht:(ai s 46)[i]! =t;refine aK ?_;refine nk ?_;refine aG ?_;refine dR (fun hc1=>?_) fun hc1=>?_
  .refine jD ?_;refine cz ?_;first
    |(rw[hr,c8 ae,kE];exact tm.2 ae)
    |(have hb:pe t=false:=by
       first
       |(simp only[pe];rcases hc1 with h|h
         .subst h;simp
         .rw[dJ (by omega:¬t.length<=8)];simp)
       |(have hz:lx (at8 t j)=false:=by
          rcases hcw with⟨_,h,_⟩|⟨_,h⟩<;>(simp only[lx,iN,bd,dT,dF,bC];omega)
         rw[hj,bc hnx,hz];rfl)
      rw[hr,bc ae,show gw false (ai s 46)[i]! =false from(by simp only[gw,ht,hb,Bool.false_and])];simp)
  refine bm ?_;have hT:pe t=dz (fun i=>lx (at8 t i)) 0 t.length:=by
   have:=List.length_pos_iff.2 hc1.1;simp only[pe];rw[cK ae,cK ae];rfl
  refine sc hm (ι:=Nat) (fun j=>[.un,.un,⟨true,.sl 1 ((ai s 46).map D.str)⟩,⟨true,.int .i64 (i:Nat)⟩,⟨true,.int .i64 ((ai s 46).length:Nat)⟩,.un,⟨true,.sl 1 ((ai s 46).map D.str)⟩,.un,.un,⟨true,.it 23⟩,.un,.un,.un,.un,⟨true,.bool (decide (((ai s 46).length:Int)<=4))⟩]) (fun j=>[(23,.iter t j)]) 24 (fun j=>j<=t.length/\pe t=dz (fun i=>lx (at8 t i)) j t.length) (fun j=>t.length-j) 0 ⟨ae,hT⟩ (fP [(23,23)]) ?_;rintro j ⟨hj0,hj⟩;refine az ?_;by_cases hnx:j<t.length
  .obtain⟨c,w,hdec,hw,hcw⟩:=rJ t j hnx;refine zS c w (hp:=hnx) (hc:=hdec) ?_;refine aA ?_;refine ax (t:=true) (fun _=>?_) (fun h=>by cases h);refine TI ?_;refine iR (fun hc3=>?_) fun hc3=>?_
   .refine nT ?_;refine cz ?_;first
     |(rw[hr,c8 ae,kE];exact tm.2 ae)
     |(have hb:pe t=false:=by
        first
        |(simp only[pe];rcases hc1 with h|h
          .subst h;simp
          .rw[dJ (by omega:¬t.length<=8)];simp)
        |(have hz:lx (at8 t j)=false:=by
           rcases hcw with⟨_,h,_⟩|⟨_,h⟩<;>(simp only[lx,iN,bd,dT,dF,bC];omega)
          rw[hj,bc hnx,hz];rfl)
       rw[hr,bc ae,show gw false (ai s 46)[i]! =false from(by simp only[gw,ht,hb,Bool.false_and])];simp)
   refine aG ?_;obtain⟨rfl,hat,-⟩:w=1/\(c:Int)=at8 t j/\c<128:=by
    rcases hcw with h|h
    .exact h
    .omega
   have hz:lx (at8 t j)=true:=by
    simp only[lx,iN,bd,dk,bt,a8];omega
   exact⟨j+1,⟨ae,by rw[hj,bc hnx,hz];rfl⟩,ae,(fP [(23,23)])⟩
  .refine zR (hp:=hnx) ?_;refine aA ?_;refine ax (t:=false) (fun h=>by cases h) (fun _=>?_);refine cH ?_;exact⟨i+1,⟨ae,by rw[hr,bc ae];rw[show gw false (ai s 46)[i]! =true from(by simp only[gw,Bool.false_and,Bool.not_false,kE];rw[ht,hj,c8 ae])];rfl⟩,ae,(fP [])⟩
 refine bI ?_;refine cz ?_;first
  |(rw[hr,c8 ae,kE];exact tm.2 ae)
  |(have hb:pe t=false:=by
     first
     |(simp only[pe];rcases hc1 with h|h
       .subst h;simp
       .rw[dJ (by omega:¬t.length<=8)];simp)
     |(have hz:lx (at8 t j)=false:=by
        rcases hcw with⟨_,h,_⟩|⟨_,h⟩<;>(simp only[lx,iN,bd,dT,dF,bC];omega)
       rw[hj,bc hnx,hz];rfl)
    rw[hr,bc ae,show gw false (ai s 46)[i]! =false from(by simp only[gw,ht,hb,Bool.false_and])];simp)
def Fz (T:List D->D->Prop):Prop:=∀(s:ak),(s.length<=1048576)->T [.str s] (.bool (mr s false))
def ON (Y:Ctx):Prop:=Fz (ch Y 442)
def pY (T:List D->D->Prop):Prop:=∀(n:Int),(0<=n/\n<=9999)->T [.int .i64 n] (.str (eh n.toNat))
def Rn (Y:Ctx):Prop:=pY (ch Y 336)
def Fo (T:List D->D->Prop):Prop:=∀(l:List ak) (sep:ak),(l.length<=1048600)->(sep.length<=4)->(∀t∈l,t.length<=2097200)->T [.sl 1 (l.map D.str),.str sep] (.str (aR sep l))
def Iq (Y:Ctx):Prop:=Fo (ch Y 242)
def E5 (T:List D->D->Prop):Prop:=∀(s:ak) (b:UInt8),(s.length<=1048576)->T [.str s,.str [b]] (.sl 1 ((ai s b.toNat).map D.str))
def Il (Y:Ctx):Prop:=E5 (ch Y 124)
def FO (T:List D->D->Prop):Prop:=∀(s:ak) (b:UInt8),(s.length<=1048576)->T [.str s,.str [b]] (.tup [.str (fO s b).1,.str (fO s b).2.1,.bool (fO s b).2.2])
def OU (Y:Ctx):Prop:=FO (ch Y 487)
def Fv (T:List D->D->Prop):Prop:=∀(s:ak) (p:ak),(s.length<=1048576)->(p.length<=1048576)->T [.str s,.str p] (.tup [.str (eH s p).1,.bool (eH s p).2])
def Rk (Y:Ctx):Prop:=Fv (ch Y 254)
def FP (T:List D->D->Prop):Prop:=∀(s:ak) (b:UInt8),(s.length<=1048576)->T [.str s,.str [b]] (.bool (s.contains b))
def RG (Y:Ctx):Prop:=FP (ch Y 491)
def B6:aN:=⟨1,10,mJ,di,(sq (r1 [gm eS] 1 0) (sq (sq (r1 [gm s0,gx 442 [l0] di,p8 l1] 2 2) (qj s2 eS)) (sq (sq (rg [gm s0,gx 533 [l0,(i8 46)] iZ,gl l1,gm b7] [(6,1),(4,2),(3,3)]) (.block 0 (.loop (sq (r1 [bo s3 s4] 5 0) (sq (jG s5 0) (sq (.block 1 (sq (r1 [ga 1 s6 s3,gd l0,gm l1] 7 2) (sq (r1 [gm s7,gx 658 [l0] di,gm l1,ge l2 0,ge l2 1,gm l3,gm l4] 8 6) (sq (r1 [gm s7,gx 659 [l0] di,gm l1,gmt 2 s8,dC 2 (.un .not l3),iM l2 l4] 9 5) (qj s9 eS))))) (r1 [ay s3 cN,gm l0] 3 1))))))) (CW xc))))⟩
def w441 (h442:ON Y)(h533:Is Y)(h658:Ly Y)(h659:RJ Y)(s:ak)  (hp0:s.length<=1048576):fo Y B6 (.bool (mr s true)) [.str s]:=by
 show ca _ _ _ [⟨_,_⟩,_,_,_,_,_,_,_,_,_] _;refine av ?_;refine bm ?_;refine aq (hc:=h442 _ ?_) ?_;rotate_left;first|assumption|omega
 refine aA ?_;refine ax (fun hc0=>?_) (fun hc0=>?_)
 .simp only[bP]at hc0;refine bm ?_;refine cz ?_;symm;simp only[mr]at hc0⊢;rw[dF]at hc0⊢;rcases hc0 with h|h
  .exact Or.inl h
  .right;rw[Bool.eq_false_iff]at h⊢;intro h2;apply h;rw[eY]at h2⊢;intro j a b;have:=h2 j a b;simp only[gw,bt]at this⊢;exact⟨this.1,rfl⟩
 simp only[cL]at hc0;refine aK ?_;refine aq (hc:=h533 _ _ ?_) ?_;rotate_left;first|assumption|omega;have hlen:=dE s 46
 refine az ?_;intro u0;refine aA ?_;have hT:=hc0;simp only[mr,bt,a8]at hT;obtain⟨hT4,hTa⟩:=hT;rw[eY]at hTa;have hP:mr s true=dz (fun i=>gw true (ai s 46)[i]!) 0 (ai s 46).length:=by
  simp only[mr];rw[cK hT4];rfl
 refine bO hm (ι:=Nat) (fun i=>[.un,.un,.un,⟨true,.int .i64 (i:Nat)⟩,⟨true,.int .i64 ((ai s 46).length:Nat)⟩,.un,⟨true,.sl 1 ((ai s 46).map D.str)⟩,.un,.un,.un]) (fun i=>[]) 8 (fun i=>i<=(ai s 46).length/\mr s true=dz (fun i=>gw true (ai s 46)[i]!) i (ai s 46).length) (fun i=>(ai s 46).length-i) 0 ⟨ae,hP⟩ (fP []) ?_;rintro i ⟨hi,hr⟩;refine aG ?_;refine dR (fun hc1=>?_) fun hc1=>?_
 .refine ez ?_;refine aq (hc:=h658 _) ?_;refine cH ?_;refine aq (hc:=h659 _) ?_;refine bm ?_;refine wp_cond (fun hc2=>?_) (fun hc2=>?_)
  .skip
   refine bh ?_;refine cz ?_;have hz:gw true (ai s 46)[i]! =false:=by
    simp only[gw];revert hc2;generalize pe (ai s 46)[i]! =c;generalize gv (ai s 46)[i]! =a;generalize gB (ai s 46)[i]! =b;cases a<;>cases b<;>cases c<;>simp
   rw[hr,bc ae,hz];rfl
  skip
  refine bI ?_;have hz:gw true (ai s 46)[i]! =true:=by
   have:=hTa i ae ae;simp only[gw,Bool.false_and,Bool.not_false,kE]at this;simp only[gw,this];revert hc2;generalize gv (ai s 46)[i]! =a;generalize gB (ai s 46)[i]! =b;cases a<;>cases b<;>simp
  exact⟨i+1,⟨ae,by rw[hr,bc ae,hz];rfl⟩,ae,(fP [])⟩
 refine bh ?_;refine cz ?_;rw[hr,c8 ae]
def Fy (T:List D->D->Prop):Prop:=∀(s:ak),(s.length<=1048576)->T [.str s] (.bool (mr s true))
def Rp (Y:Ctx):Prop:=Fy (ch Y 441)
def B5:aN:=⟨1,3,mJ,di,(sq (rg [gb 5 s0,gm eS] [(2,0),(1,1)]) (sq (r1 [gf 0 s2,gd l0,gx 440 [l1] di,gm l2,rp 3 1 s2,pJ 3 l4,dC 3 (.call 440 [l5] di),iM l3 l6,gm l7,rp 8 2 s2,pJ 8 l9,dC 8 (.call 440 [l10] di),iM l8 kl,gm mG,rp 13 3 s2,pJ 13 n7,dC 13 (dP pL cse),gmt 13 si,mh 17 3 s2,mg 17 yg,dc 17 (.call 441 [Bc] di),QP 13 xd C1,iM nQ En,gm Ii,rp 23 4 s2,pJ 23 MJ,dC 23 (dP Oi cse),gmt 23 PM,mh 27 4 s2,mg 27 QT,dc 27 (.call 442 [QU] di),QP 23 QS S6,iM MI l31,gm l32] 1 33) .ret))⟩
def w209 {Y:Ctx}(hm:(Y.at 0).cQ)(h440:Ro Y)(h441:Rp Y)(h442:ON Y)(v:gE)  (hp0:v.sm):fo Y B5 (.bool (iP v)) [gE.D v]:=by
 show ca _ _ _ [⟨_,_⟩,_,_] _;refine av ?_;refine bh ?_;refine aq (hc:=h440 _) ?_;refine aG ?_;refine aq (hc:=h440 _) ?_;refine aK ?_;refine aq (hc:=h440 _) ?_;refine cH ?_;refine er (hc:=fun hf=>h441 v.pre hp0.1) ?_;refine ez ?_;refine er (hc:=fun hf=>h442 v.build hp0.2) ?_;refine bm ?_;exact cz rfl
def uT (T:List D->D->Prop):Prop:=∀(v:gE),(v.sm)->T [gE.D v] (.bool (iP v))
def Io (Y:Ctx):Prop:=uT (ch Y 209)
def zw:aN:=⟨1,2,mJ,di,(sq (r1 [gm cse] 1 0) (sq (r1 [gm s0,gx 336 [l0] di,gm l1] 1 2) .ret))⟩
def w665 {Y:Ctx}(hm:(Y.at 0).cQ)(h336:Rn Y)(n:Int)  (hp0:0<=n/\n<=9999):fo Y zw (.str (eh n.toNat)) [.int .i64 n]:=by
 show ca _ _ _ [⟨_,_⟩,_] _;refine av ?_;refine aK ?_;refine aq (hc:=h336 _ ?_) ?_;rotate_left;first|assumption|omega
 refine aG ?_;exact du rfl
def O4 (Y:Ctx):Prop:=pY (ch Y 665)
def xE:aN:=⟨1,7,mJ,di,(sq (rg [gb 5 s0,gm cse] [(2,0),(1,1)]) (sq (sq (r1 [gk 5 true s2,gx 209 [l0] PE,p8 l1] 3 2) (qj s3 cse)) (sq (r2 [gf 0 s2,gd l0,gx 665 [l1] di,ay l2 (cs [46]),gf 1 s2,gd l4,gx 665 [l5] di,ay l3 l6,ay l7 (cs [46]),gf 2 s2,gd l9,gx 665 [l10] di,ay l8 kl,gm mG] 5 13) (sq (sq (r1 [gf 3 s2,gd l0,dd l1 cse] 4 2) (.cond s4 (r1 [gm s5,gf 3 s2,gd l1,ay (cs [45]) l2,ay l0 l3,gm l4] 5 5) .skip)) (sq (sq (r1 [gf 4 s2,gd l0,dd l1 cse] 6 2) (.cond s6 (r1 [gm s5,gf 4 s2,gd l1,ay (cs [43]) l2,ay l0 l3,gm l4] 5 5) .skip)) (sq (r1 [gm s5,gm l0] 1 1) .ret))))))⟩
def w451 {Y:Ctx}(hm:(Y.at 0).cQ)(h209:Io Y)(h665:O4 Y)(v:gE)  (hp0:v.sm):fo Y xE (.str (qe v)) [gE.D v]:=by
 show ca _ _ _ [⟨_,_⟩,_,_,_,_,_,_] _;obtain⟨hs1,hs2⟩:=hp0;have hp0:v.sm:=⟨hs1,hs2⟩;refine av ?_;refine bh ?_;refine aq (hc:=h209 _ ?_) ?_;rotate_left;first|assumption|omega
 refine aA ?_;refine ax (fun hc0=>?_) (fun hc0=>?_)
 .simp only[bP]at hc0;refine bm ?_;refine du ?_;simp[qe,hc0]
 simp only[cL]at hc0;refine aA ?_;have hv:=hc0;simp only[iP,bt]at hv;obtain⟨⟨⟨⟨hv1,hv2⟩,hv3⟩,_⟩,_⟩:=hv;have hq1:=hv1;have hq2:=hv2;have hq3:=hv3;simp only[xm,bt,a8]at hq1 hq2 hq3;have hl1:=fC 4 v.major.toNat ae ae;have hl2:=fC 4 v.minor.toNat ae ae;have hl3:=fC 4 v.patch.toNat ae ae;refine aA ?_;refine aq (hc:=h665 _ ?_) ?_;rotate_left;first|assumption|omega
 refine eB (hb:=fun _=>cX) ?_;refine aA ?_;refine aq (hc:=h665 _ ?_) ?_;rotate_left;first|assumption|omega
 refine eB (hb:=fun _=>cX) ?_;refine eB (hb:=fun _=>cX) ?_;refine aA ?_;refine aq (hc:=h665 _ ?_) ?_;rotate_left;first|assumption|omega
 refine eB (hb:=fun _=>cX) ?_;refine cH ?_;refine dR (fun hc1=>?_) fun hc1=>?_
 .refine aK ?_;refine eB (hb:=fun _=>cX) ?_;refine eB (hb:=fun _=>cX) ?_;refine cH ?_;refine dR (fun hc2=>?_) fun hc2=>?_
  .refine aK ?_;refine eB (hb:=fun _=>cX) ?_;refine eB (hb:=fun _=>cX) ?_;refine bI ?_;refine du ?_;simp[qe,DS,hc0,hc1,hc2]
  refine bh ?_;refine du ?_;simp[qe,DS,hc0,hc1,hc2]
 refine bI ?_;refine dR (fun hc2=>?_) fun hc2=>?_
 .refine aK ?_;refine eB (hb:=fun _=>cX) ?_;refine eB (hb:=fun _=>cX) ?_;refine bI ?_;refine du ?_;simp[qe,DS,hc0,hc1,hc2]
 refine bh ?_;refine du ?_;simp[qe,DS,hc0,hc1,hc2]
def FD (T:List D->D->Prop):Prop:=∀(v:gE),(v.sm)->T [gE.D v] (.str (qe v))
def OQ (Y:Ctx):Prop:=FD (ch Y 451)
def DE:aN:=⟨1,4,mJ,di,(sq (r1 [gm cse] 1 0) (sq (r1 [gm s0,gn (.bin .rem l0 (iu 10)),gn (.cvi .u8 l1),ay (i8 48) l2,gn (.bsl 1 (.int .u8 0) 1 [(0,l3)]),gn (.b2s l4),gm l5] 3 6) (sq (.block 0 (.loop (sq (sq (r1 [gm s0,eI l0 (iu 9)] 2 1) (jG s2 0)) (.block 1 (sq (r1 [gm s0,gn (.bin .quo l0 (iu 10)),gm l1] 0 2) (r1 [gm s0,gn (.bin .rem l0 (iu 10)),gn (.cvi .u8 l1),ay (i8 48) l2,gn (.bsl 1 (.int .u8 0) 1 [(0,l3)]),gn (.b2s l4),gm s3,ay l5 l6,gm l7] 3 8)))))) (sq (r1 [gm s3,gm l0] 1 1) .ret))))⟩
def w882  (n:Nat)  (hp0:n<=9999):fo Y DE (.str (eh n)) [.int .u64 (n:Nat)]:=by
 show ca _ _ _ [⟨_,_⟩,_,_,_] _;refine av ?_;refine aK ?_;refine EE ((n%10:Nat):Int) (hn:=by intro _;omega) (hb:=fun _=>rfl) ?_;refine tK ((n%10:Nat):Int) (hb:=fun _=>IntWalk.u8_in _ ae) ?_;refine Kn (((dg (n%10)).toNat:Nat):Int) (hb:=fun _=>by rw[IZ ae];exact IntWalk.u8_in _ ae) ?_;refine cZ [.int .u8 _] ?_;refine Ko [dg (n%10)] (he:=fun _=>sg.all ah rfl) (hs:=fun _=>rfl) ?_;refine aA ?_;have h0:eh n=(if n<10 then []else eh (n/10))++[dg (n%10)]:=by
  split
  .rename_i h;rw[pF h,Nat.mod_eq_of_lt h];rfl
  .rw[pE ae]
 refine bO hm (ι:=(Nat×ak)) (fun p=>[⟨true,.int .u64 (p.1:Nat)⟩,.un,.un,⟨true,.str p.2⟩]) (fun p=>[]) 8 (fun p=>p.1<=9999/\p.2.length<=9999-p.1+1/\eh n=(if p.1<10 then []else eh (p.1/10))++p.2) (fun p=>p.1) (n,[dg (n%10)]) ⟨hp0,aJ,h0⟩ (fP []) ?_;rintro⟨k,s⟩ ⟨hk,hs,hr⟩;dsimp only at hk hs hr⊢;refine bm ?_;refine dR (fun hc0=>?_) fun hc0=>?_
 .refine aK ?_;refine Tn ((k/10:Nat):Int) (hn:=by intro _;omega) (hb:=fun _=>by rw[show((k:Int).tdiv 10)=((k/10:Nat):Int)from rfl,IntKind.wrap_u64];omega) ?_;refine aK ?_;refine EE (((k/10)%10:Nat):Int) (hn:=by intro _;omega) (hb:=fun _=>rfl) ?_;refine tK (((k/10)%10:Nat):Int) (hb:=fun _=>IntWalk.u8_in _ ae) ?_;refine Kn (((dg ((k/10)%10)).toNat:Nat):Int) (hb:=fun _=>by rw[IZ ae];exact IntWalk.u8_in _ ae) ?_;refine cZ [.int .u8 _] ?_;refine Ko [dg ((k/10)%10)] (he:=fun _=>sg.all ah rfl) (hs:=fun _=>rfl) ?_;refine az ?_;refine eB (hb:=fun _=>cX) ?_;refine aK ?_;have h1:eh n=(if k/10<10 then []else eh (k/10/10))++([dg (k/10%10)]++s):=by
   rw[hr,aj ae];split
   .rename_i h;rw[pF h,Nat.mod_eq_of_lt h];rfl
   .rw[pE ae,dU]
  exact⟨(k/10,[dg (k/10%10)]++s),⟨ea,cX,h1⟩,ea,(fP [])⟩
 refine bI ?_;refine du ?_;rw[hr,aw ae];rfl
def Ga (T:List D->D->Prop):Prop:=∀(n:Nat),(n<=9999)->T [.int .u64 (n:Nat)] (.str (eh n))
def R1 (Y:Ctx):Prop:=Ga (ch Y 882)
def BJ:aN:=⟨1,3,mJ,di,(sq (r1 [gm cse] 1 0) (sq (sq (r1 [gm s0,bo l0 b7] 2 1) (.cond s2 (sq (r1 [gm s0,ay l0 cN,gn (.un .neg l1),gn (.cvi .u64 l2),ay l3 (iu 1),gx 882 [l4] di,ay (cs [45]) l5,gm l6] 1 7) .ret) .skip)) (sq (r1 [gm s0,gn (.cvi .u64 l0),gx 882 [l1] di,gm l2] 1 3) .ret)))⟩
def w734 {Y:Ctx}(hm:(Y.at 0).cQ)(h882:R1 Y)(n:Int)  (hp0:0<=n/\n<=9999):fo Y BJ (.str (eh n.toNat)) [.int .i64 n]:=by
 show ca _ _ _ [⟨_,_⟩,_,_] _;refine av ?_;refine bI ?_;refine dR (fun hc0=>?_) fun hc0=>?_
 .omega
 refine aA ?_;obtain⟨k,rfl⟩:∃k:Nat,n=k:=⟨n.toNat,ae⟩
 refine az ?_;refine tK (k:Int) (hb:=fun _=>by rw[IntKind.wrap_u64];omega) ?_;refine aq (hc:=h882 _ ?_) ?_;rotate_left;first|assumption|omega
 refine aG ?_;exact du rfl
def RW (Y:Ctx):Prop:=pY (ch Y 734)
def DB:aN:=⟨2,8,[⟨2,none⟩],[[.sl 1 [.a]]],(sq (r1 [gm (.c (.au))] 2 0) (sq (r1 [gm (.c (.au))] 6 0) (sq (r1 [gm b7] 7 0) (sq (sq (r1 [gm b7] 3 0) (.block 0 (.loop (sq (sq (r1 [gm s3,gm s0,uE l1,bo l0 l2] 4 3) (jG s4 0)) (sq (.block 1 (sq (r1 [gm s0,gm s3,Mm l0 l1,gm s1,aU l2 l3] 5 4) (.cond s5 (sq (r1 [gm s6,gm s0,gm s7,gm s3,gn (.slS l1 (some l2) (some l3)),gn (.bsl 1 (.str []) 1 [(0,l4)]),gn (.app 1 l0 l5),gm l6] 6 7) (r1 [gm s3,ay l0 cN,gm l1] 7 2)) .skip))) (r1 [gm s3,ay l0 cN,gm l1] 3 2)))))) (sq (r1 [gm s6,gm s0,gm s7,gn (.slS l1 (some l2) none),gn (.bsl 1 (.str []) 1 [(0,l3)]),gn (.app 1 l0 l4),gm l5] 2 6) .ret)))))⟩
def w470  (s:ak)(b:Int)  (hp0:s.length<=1048576):fo Y DB (.sl 1 ((ai s b).map D.str)) [.str s,.int .u8 b]:=by
 show ca _ _ _ [⟨_,_⟩,⟨_,_⟩,_,_,_,_,_,_] _;refine av ?_;refine jD ?_;refine bO hm (ι:=(Nat×Nat×List ak)) (fun p:Nat×Nat×List ak=>[⟨true,.str s⟩,⟨true,.int .u8 b⟩,.un,⟨true,.int .i64 (p.1:Nat)⟩,.un,.un,⟨true,.own 0 1 0 p.2.2.length⟩,⟨true,.int .i64 (p.2.1:Nat)⟩]) (fun p=>[(0,.buf 1 (p.2.2.map D.str))]) 4 (fun p=>p.1<=s.length/\p.2.1<=p.1/\p.2.2.length<=p.1/\ai s b=p.2.2++bH b (s.drop p.1) ((s.take p.1).drop p.2.1)) (fun p=>s.length-p.1) (0,0,[]) ⟨aJ,aJ,aJ,rfl⟩ (aW.to [] ah ah (by repeat(first|exact dr.nil|refine dr.un ?_|refine dr.eq ah ?_|refine dr.nl ah ah ?_|refine dr.ni (Or.inr ⟨0,1,0,rfl⟩) ?_)) (by repeat(first|exact bg.nil|refine bg.mt ah ah ah ah ?_))) ?_;rintro⟨i,fr,acc⟩ ⟨hi,hf,ha,hr⟩;dsimp only at hi hf ha hr⊢;refine bm ?_;intro u0;refine aA ?_;refine dR (fun hc0=>?_) fun hc0=>?_
 .refine ez ?_;refine wp_cond (fun hc1=>?_) (fun hc1=>?_)
  .try simp only[ed]at hc1
   refine bm ?_;refine BC _ _ ?_;refine cZ [(.str _)] ?_;refine Cl ?_;exact⟨(i+1,i+1,acc++[(s.take i).drop fr]),⟨ea,ea,cX,by rw[hr,yF ae hc1];simp⟩,ea,(aW.to [(19,0)] ah ah lZ (by refine bg.nl 19 ah ah ah eL ?_;exact bg.nil))⟩
  simp only[bC]at hc1;refine cH ?_;exact⟨(i+1,fr,acc),⟨ea,ea,ea,by rw[hr,yG ae ae hc1]⟩,ea,(aW.to [(0,0)] ah ah lZ (by refine bg.nl 0 ah ah ah eL ?_;exact bg.nil))⟩
 refine bh ?_;refine m3 _ ?_;refine cZ [(.str _)] ?_;refine aG ?_;refine eF 13 ?_;refine az ?_;refine cv (?_);have hs:ai s b=acc++[s.drop fr]:=by rw[hr,wJ ae]
 rw[hs];exact rfl
def RB (Y:Ctx):Prop:=uW (ch Y 470)
def DC:aN:=⟨1,2,mJ,di,(sq (r1 [gm eS] 1 0) (sq (r1 [gm s0,jf l0 (i8 48),gm l1,gmt 2 s0,dC 2 (oc l3 (i8 57)),iM l2 l4,gm l5] 1 6) .ret))⟩
def w454 {Y:Ctx}(hm:(Y.at 0).cQ)  (c:Int)   :fo Y DC (.bool (bd c)) [.int .u8 c]:=by
 show ca _ _ _ [⟨_,_⟩,_] _;refine av ?_;refine jD ?_;exact cz rfl
def FE (T:List D->D->Prop):Prop:=∀(c:Int),T [.int .u8 c] (.bool (bd c))
def Rw (Y:Ctx):Prop:=FE (ch Y 454)
def BK:aN:=⟨1,9,[⟨1,none⟩,⟨2,none⟩],iZ,(sq (rg [gm b7,gm eS] [(1,0),(2,1)]) (sq (sq (r1 [gm s0,uE l0,bo l1 cN,gm l2,fZ 3 s0,dc 3 (.lenS l4),dc 3 (ew l5 El),gR l3 l6,gm l7,fZ 8 s0,dc 8 (.lenS l9),dc 8 (ew l10 cN),fZ 8 kl,gmt 12 s0,dC 12 (.ixS nQ b7),dC 12 (dP n7 (i8 48)),Ei 8 mG pL,gR l8 si] 3 17) (.cond s3 (sq (rg [gm b7,gm eS] [(1,0),(2,1)]) .ret) .skip)) (sq (r1 [gm b7] 7 0) (sq (sq (r1 [gm b7] 4 0) (.block 0 (.loop (sq (sq (r1 [gm s4,gm s0,uE l1,bo l0 l2] 5 3) (jG s5 0)) (sq (.block 1 (sq (sq (r1 [gm s0,gm s4,Mm l0 l1,gx 454 [l2] di,p8 l3] 6 4) (.cond s6 (sq (rg [gm b7,gm eS] [(1,0),(2,1)]) .ret) .skip)) (r1 [gm s7,gn (.bin .mul l0 (i6 10)),gm s0,gm s4,Mm l2 l3,gA l4 (i8 48),gn (.cvi .i64 l5),ay l1 l6,gm l7] 7 8))) (r1 [gm s4,ay l0 cN,gm l1] 4 2)))))) (sq (sq (r1 [gm s7,eI l0 (i6 9999)] 8 1) (.cond s8 (sq (rg [gm b7,gm eS] [(1,0),(2,1)]) .ret) .skip)) (sq (rg [gm s7,gm l0,gm xc] [(1,1),(2,2)]) .ret))))))⟩
def w667 (h454:Rw Y)(s:ak)   :fo Y BK (.tup [.int .i64 (eK s),.bool (gB s)]) [.str s]:=by
 show ca _ _ _ [⟨_,_⟩,_,_,_,_,_,_,_,_] _;refine av ?_;refine bI ?_;intro u0;refine aG ?_;refine nk ?_;refine aK ?_;refine nk ?_;refine aG ?_;refine ED 0 ?_;refine aK ?_;refine dR (fun hc0=>?_) fun hc0=>?_
 .refine bh ?_;refine cv (aZ (ar (D.int .i64) ?_) (ar D.bool ?_));all_goals
   have:gB s=false:=by
    simp only[gB];rcases hc0 with(h|h)|h
    .rw[dJ (by omega:¬1<=s.length)];rfl
    .rw[dJ (by omega:¬s.length<=9)];simp
    .rw[cK (by omega:1<s.length),cK h.2];simp
   simp[eK,this]
 refine cH ?_;have hP:gB s=(dz (fun i=>bd (at8 s i)) 0 s.length&&decide (ef s<=9999)):=by
  simp only[gB];rw[cK (by omega:1<=s.length),cK (by omega:s.length<=9)];rcases hc0.2 with h|h
  .rw[dJ (by omega:¬1<s.length)];rfl
  .rw[dJ h,Bool.and_false];rfl
 refine bO hm (ι:=Nat) (fun i=>[⟨true,.str s⟩,.un,.un,.un,⟨true,.int .i64 (i:Nat)⟩,.un,.un,⟨true,.int .i64 (ef (s.take i):Nat)⟩,.un]) (fun i=>[]) 22 (fun i=>i<=s.length/\s.length<=9/\gB s=(dz (fun i=>bd (at8 s i)) i s.length&&decide (ef s<=9999))) (fun i=>s.length-i) 0 ⟨ae,ae,hP⟩ (fP []) ?_;rintro i ⟨hi,h9,hr⟩;refine bm ?_;intro u1;refine aA ?_;refine dR (fun hc1=>?_) fun hc1=>?_
 .refine bI ?_;refine aq (hc:=h454 _) ?_;refine aA ?_;refine ax (fun hc2=>?_) (fun hc2=>?_)
  .try simp only[ed]at hc2
   refine cH ?_;refine cv (aZ (ar (D.int .i64) ?_) (ar D.bool ?_));all_goals
    have:gB s=false:=by rw[hr,bc ae,hc2];rfl
    simp[eK,this]
  simp only[cL]at hc2;refine aA ?_;have h48:=hc2;simp only[bd,bt,a8]at h48;have hn:=rX s i ae;have hn2:=tI s i ae;have h256:=ID s i;refine az ?_;refine uL ?_;refine aG ?_;refine Ky (at8 s i-48) (hb:=fun _=>IntWalk.u8_in _ ae) ?_;refine tK (at8 s i-48) (hb:=fun _=>IntWalk.i64_in _ ae) ?_;refine aG ?_;rw[show(ef (s.take i):Int)*10+(at8 s i-48)=(ef (s.take (i+1)):Nat)by omega];refine bI ?_;exact⟨i+1,⟨ae,h9,by rw[hr,bc ae,hc2];rfl⟩,ae,(fP [])⟩
 refine aK ?_;have ht:s.take i=s:=eM ae;rw[ht];refine aG ?_;refine dR (fun hc3=>?_) fun hc3=>?_
 .refine bh ?_;refine cv (aZ (ar (D.int .i64) ?_) (ar D.bool ?_));all_goals
   have:gB s=false:=by rw[hr,dJ ae,Bool.and_false]
   simp[eK,this]
 refine bI ?_;refine cv (aZ (ar (D.int .i64) ?_) (ar D.bool ?_));all_goals
  have:gB s=true:=by rw[hr,c8 ae,cK ae];rfl
  simp[eK,this]
def RN (Y:Ctx):Prop:=uX (ch Y 667)
def zW:aN:=⟨1,5,mJ,di,(sq (r1 [gm eS] 1 0) (sq (sq (r1 [gm b7] 2 0) (.block 0 (.loop (sq (sq (r1 [gm s2,gm s0,uE l1,bo l0 l2] 3 3) (jG s3 0)) (sq (.block 1 (sq (r1 [gm s0,gm s2,Mm l0 l1,bo l2 (i8 48),gm l3,fZ 4 s0,fZ 4 s2,dc 4 (.ixS l5 l6),dc 4 (ew l7 (i8 57)),gR l4 l8] 4 9) (qj s4 eS))) (r1 [gm s2,ay l0 cN,gm l1] 2 2)))))) (sq (r1 [gm s0,uE l0,eI l1 b7,gm l2] 1 3) .ret)))⟩
def w668  (t:ak)   :fo Y zW (.bool (gv t)) [.str t]:=by
 show ca _ _ _ [⟨_,_⟩,_,_,_,_] _;refine av ?_;refine bh ?_;refine bO hm (ι:=Nat) (fun i=>[⟨true,.str t⟩,.un,⟨true,.int .i64 (i:Nat)⟩,.un,.un]) (fun i=>[]) 2 (fun i=>i<=t.length/\dz (fun i=>bd (at8 t i)) 0 t.length=dz (fun i=>bd (at8 t i)) i t.length) (fun i=>t.length-i) 0 ⟨ae,rfl⟩ (fP []) ?_;rintro i ⟨hi,hr⟩;refine bm ?_;intro u0;refine aA ?_;refine dR (fun hc0=>?_) fun hc0=>?_
 .refine y6 ?_;refine iR (fun hc1=>?_) fun hc1=>?_
  .refine bh ?_;refine cz ?_;simp only[gv];rw[hr,bc ae];rcases hc1 with h|h<;>simp[bd]<;>omega
  refine cH ?_;exact⟨i+1,⟨ae,by rw[hr,bc ae];rw[show bd (at8 t i)=true by simp only[bd,bt,a8];omega];rfl⟩,ae,(fP [])⟩
 refine bm ?_;intro u1;refine aK ?_;refine cz ?_;simp only[gv];rw[hr,c8 ae];simp
def RO (Y:Ctx):Prop:=uY (ch Y 668)
def KE:aN:=⟨1,7,mJ,di,(sq (r1 [gm eS] 1 0) (sq (sq (r1 [gm s0,uE l0,bo l1 cN,gm l2,fZ 3 s0,dc 3 (.lenS l4),dc 3 (ew l5 Jn),gR l3 l6] 2 7) (qj s2 eS)) (sq (sq (r1 [gm b7] 3 0) (.block 0 (.loop (sq (sq (r1 [gm s3,gm s0,uE l1,bo l0 l2] 4 3) (jG s4 0)) (sq (.block 1 (sq (r1 [gm s0,gm s3,Mm l0 l1,gm l2] 5 3) (sq (r1 [gm s5,bo l0 (i8 97),gm l1,fZ 2 s5,dc 2 (ew l3 (i8 122)),gR l2 l4,gm l5,gmt 6 s5,dC 6 (rz l7 (i8 48)),gmt 6 l8,fZ 9 s5,dc 9 (ew l10 (i8 57)),QP 6 l9 kl,iM l6 mG,gm nQ,gmt 14 s5,dC 14 (gO pL (i8 45)),iM n7 si] 6 17) (qj s6 eS)))) (r1 [gm s3,ay l0 cN,gm l1] 3 2)))))) (CW xc))))⟩
def w666  (t:ak)   :fo Y KE (.bool (pe t)) [.str t]:=by
 show ca _ _ _ [⟨_,_⟩,_,_,_,_,_,_] _;refine av ?_;refine bh ?_;intro u0;refine aG ?_;refine nk ?_;refine aG ?_;refine dR (fun hc0=>?_) fun hc0=>?_
 .refine bm ?_;refine cz ?_;symm;simp only[pe,dF,bC];exact Or.inl ae
 refine bm ?_;refine bO hm (ι:=Nat) (fun i=>[⟨true,.str t⟩,.un,.un,⟨true,.int .i64 (i:Nat)⟩,.un,.un,.un]) (fun i=>[]) 10 (fun i=>i<=t.length/\pe t=dz (fun i=>lx (at8 t i)) i t.length) (fun i=>t.length-i) 0 ⟨ae,by simp only[pe];rw[cK ae,cK ae];rfl⟩ (fP []) ?_;rintro i ⟨hi,hr⟩;refine bm ?_;intro u1;refine aA ?_;refine dR (fun hc1=>?_) fun hc1=>?_
 .refine Ln ?_;refine iR (fun hc2=>?_) fun hc2=>?_
  .refine bh ?_;refine cz ?_;rw[hr,bc ae];have:lx (at8 t i)=false:=(by simp only[lx,iN,bd,dT,dF,bC];omega);rw[this];rfl
  refine cH ?_;exact⟨i+1,⟨ae,by rw[hr,bc ae];have:lx (at8 t i)=true:=(by simp only[lx,iN,bd,dk,bt,a8];omega);rw[this];rfl⟩,ae,(fP [])⟩
 refine bh ?_;refine cz ?_;rw[hr,c8 ae]
def FX (T:List D->D->Prop):Prop:=∀(t:ak),T [.str t] (.bool (pe t))
def RM (Y:Ctx):Prop:=FX (ch Y 666)
def HK:aN:=⟨2,11,[⟨2,none⟩],di,(sq (r1 [gm eS] 2 0) (sq (sq (r1 [gm s0,aU l0 cse] 3 1) (.cond s3 (sq (r1 [gm xc] 2 0) .ret) .skip)) (sq (r1 [gm s0,gx 470 [l0,(i8 46)] iZ,gm l1] 4 2) (sq (sq (r1 [gm s4,gl l0,eI l1 ud] 5 2) (.cond s5 (sq (r1 [gm eS] 2 0) .ret) .skip)) (sq (sq (r1 [gm b7] 6 0) (.block 0 (.loop (sq (sq (r1 [gm s6,gm s4,gl l1,bo l0 l2] 7 3) (jG s7 0)) (sq (.block 1 (sq (sq (r1 [gm s4,gm s6,ga 1 l0 l1,gd l2,gx 666 [l3] di,p8 l4] 8 5) (.cond s8 (sq (r1 [gm eS] 2 0) .ret) .skip)) (sq (r1 [gm s4,gm s6,ga 1 l0 l1,gd l2,gx 667 [l3] di,gm l4,ge l5 0,ge l5 1,gm l6,gm l7] 9 9) (sq (r1 [gm s1,gm l0,gmt 1 s4,gmt 1 s6,dC 1 (.ia 1 l2 l3),pJ 1 l4,dC 1 (.call 668 [l5] di),iM l1 l6,gm l7,gmt 8 s9,dC 8 (.un .not l9),iM l8 l10] 10 11) (.cond mL (sq (r1 [gm eS] 2 0) .ret) .skip))))) (r1 [gm s6,ay l0 cN,gm l1] 6 2)))))) (sq (r1 [gm xc] 2 0) .ret))))))⟩
def w456 (h470:RB Y)(h666:RM Y)(h667:RN Y)(h668:RO Y)(s:ak)(p:Bool)  (hp0:s.length<=1048576):fo Y HK (.bool (qn s p)) [.str s,.bool p]:=by
 show ca _ _ _ [⟨_,_⟩,⟨_,_⟩,_,_,_,_,_,_,_,_,_] _;refine av ?_;refine bI ?_;refine dR (fun hc0=>?_) fun hc0=>?_
 .refine bm ?_;refine cz ?_;simp[qn,hc0]
 refine aG ?_;refine aq (hc:=h470 _ _ ?_) ?_;rotate_left;first|assumption|omega;have hlen:=dE s 46
 refine bh ?_;intro u0;refine aA ?_;refine ax (fun hc1=>?_) (fun hc1=>?_)
 .try simp only[ed]at hc1
  refine bm ?_;refine cz ?_;simp only[qn,mr];rw[dJ hc0,dJ ae];rfl
 simp only[bC]at hc1;refine bm ?_;refine bO hm (ι:=Nat) (fun i=>[⟨true,.str s⟩,⟨true,.bool p⟩,.un,.un,⟨true,.sl 1 ((ai s 46).map D.str)⟩,.un,⟨true,.int .i64 (i:Nat)⟩,.un,.un,.un,.un]) (fun i=>[]) 10 (fun i=>i<=(ai s 46).length/\qn s p=dz (fun i=>gw p (ai s 46)[i]!) i (ai s 46).length) (fun i=>(ai s 46).length-i) 0 ⟨ae,by simp only[qn,mr];rw[dJ hc0,cK ae];rfl⟩ (fP []) ?_;rintro i ⟨hi,hr⟩;refine bm ?_;intro u1;refine aA ?_;refine dR (fun hc2=>?_) fun hc2=>?_
 .refine cH ?_;refine aq (hc:=h666 _) ?_;refine aA ?_;refine ax (fun hc3=>?_) (fun hc3=>?_)
  .simp only[bP]at hc3;refine bI ?_;refine cz ?_;rw[hr,bc ae];simp only[gw,hc3];rfl
  simp only[cL]at hc3;refine bh ?_;refine aq (hc:=h667 _) ?_;refine nT ?_;refine aq (hc:=h668 _) ?_;refine bh ?_;refine wp_cond (fun hc4=>?_) (fun hc4=>?_)
  .skip
   refine bh ?_;refine cz ?_;have h5:gw p (ai s 46)[i]! =false:=(by simp only[gw,hc3];revert hc4;generalize gv (ai s 46)[i]! =a;generalize gB (ai s 46)[i]! =b;cases p<;>cases a<;>cases b<;>simp);rw[hr,bc ae,h5];rfl
  skip
  refine cH ?_;exact⟨i+1,⟨ae,by rw[hr,bc ae];have h5:gw p (ai s 46)[i]! =true:=(by simp only[gw,hc3];revert hc4;generalize gv (ai s 46)[i]! =a;generalize gB (ai s 46)[i]! =b;cases p<;>cases a<;>cases b<;>simp);rw[h5];rfl⟩,ae,(fP [])⟩
 refine bh ?_;refine cz ?_;rw[hr,c8 ae]
def FF (T:List D->D->Prop):Prop:=∀(s:ak) (p:Bool),(s.length<=1048576)->T [.str s,.bool p] (.bool (qn s p))
def Ry (Y:Ctx):Prop:=FF (ch Y 456)
def KD:aN:=⟨1,2,mJ,di,(sq (r1 [gm eS] 1 0) (sq (r1 [gm s0,jf l0 b7,gm l1,gmt 2 s0,dC 2 (oc l3 (i6 9999)),iM l2 l4,gm l5] 1 6) .ret))⟩
def w455 {Y:Ctx}(hm:(Y.at 0).cQ)  (n:Int)   :fo Y KD (.bool (xm n)) [.int .i64 n]:=by
 show ca _ _ _ [⟨_,_⟩,_] _;refine av ?_;refine jD ?_;exact cz rfl
def Rx (Y:Ctx):Prop:=uV (ch Y 455)
def KC:aN:=⟨1,3,mJ,di,(sq (rg [gb 5 s0,gm eS] [(2,0),(1,1)]) (sq (r1 [gf 0 s2,gd l0,gx 455 [l1] di,gm l2,rp 3 1 s2,pJ 3 l4,dC 3 (.call 455 [l5] di),iM l3 l6,gm l7,rp 8 2 s2,pJ 8 l9,dC 8 (.call 455 [l10] di),iM l8 kl,gm mG,rp 13 3 s2,pJ 13 n7,dC 13 (.call 456 [pL,xc] iZ),iM nQ si,gm xd,rp 18 4 s2,pJ 18 Bc,dC 18 (.call 456 [C1,eS] iZ),iM yg En,gm Ii] 1 23) .ret))⟩
def w217 {Y:Ctx}(hm:(Y.at 0).cQ)(h455:Rx Y)(h456:Ry Y)(v:gE)  (hp0:v.sm):fo Y KC (.bool (iP v)) [gE.D v]:=by
 show ca _ _ _ [⟨_,_⟩,_,_] _;refine av ?_;refine bh ?_;refine aq (hc:=h455 _) ?_;refine aG ?_;refine aq (hc:=h455 _) ?_;refine aK ?_;refine aq (hc:=h455 _) ?_;refine aK ?_;refine er (hc:=fun hf=>h456 v.pre true hp0.1) ?_;refine aK ?_;refine er (hc:=fun hf=>h456 v.build false hp0.2) ?_;refine aK ?_;exact cz rfl
def Ra (Y:Ctx):Prop:=uT (ch Y 217)
def xD:aN:=⟨1,18,[⟨1,some (5,true)⟩,⟨2,none⟩],[[.a,.a,.a,.a,.a],[.a]],(sq (rg [gb 5 (.c (.agg [.int .i64 0,.int .i64 0,.int .i64 0,.str [],.str []])),gm b7] [(1,0),(2,1)]) (sq (r1 [gb 5 (.c (.agg [.int .i64 0,.int .i64 0,.int .i64 0,.str [],.str []]))] 4 0) (sq (r1 [gm s0,gm l0] 3 1) (sq (r1 [gm s3,gx 675 [l0,(i8 43)] iZ,gm l1,ge l2 0,ge l2 1,gf 4 s4,gt 1 l5 l3,gm l4] 3 7) (sq (r1 [gm s3,gx 675 [l0,(i8 45)] iZ,gm l1,ge l2 0,ge l2 1,gf 3 s4,gt 1 l5 l3,gm l4] 3 7) (sq (r1 [gm s3,gx 533 [l0,(i8 46)] iZ,gm l1] 5 2) (sq (sq (r1 [gm s5,gl l0,dd l1 k9] 6 2) (.cond s6 (sq (r1 [gn (.build [.int .i64 0,.int .i64 0,.int .i64 0,.str [],.str []] []),gt 5 s1 l0,gm Ek] 2 2) .ret) .skip)) (sq (r1 [gb 3 (.c (.agg [.int .i64 0,.int .i64 0,.int .i64 0]))] 16 0) (sq (sq (rg [gm s5,gl l0,gm b7] [(10,0),(8,1),(7,2)]) (.block 0 (.loop (sq (r1 [bo s7 s8] 9 0) (sq (jG s9 0) (sq (.block 1 (sq (rg [gm s7,ga 1 mL s7,gd l1,gm l0,gm l2] [(14,3),(11,4)]) (sq (rg [gm pU,gx 658 [l0] di,gm l1,ge l2 0,ge l2 1,gm l3,gm l4] [(15,5),(12,6)]) (sq (sq (r1 [gm m6,p8 l0] 13 1) (.cond rq (sq (r1 [gn (.build [.int .i64 0,.int .i64 0,.int .i64 0,.str [],.str []] []),gt 5 s1 l0,gm Ek] 2 2) .ret) .skip)) (rg [gm rr,gm tP,gn (.iaP 3 1 An l0),gt 1 l2 l1] []))))) (r1 [ay s7 cN,gm l0] 7 1))))))) (sq (rt [gn (.iaP 3 1 An b7),gd l0,gn (.iaP 3 1 An cN),gn (.ldI 1 false l2),gn (.iaP 3 1 An mi),gn (.ldI 1 false l4),gf 0 s4,gt 1 l6 l1,gf 1 s4,gt 1 l8 l3,gf 2 s4,gt 1 l10 l5] []) (sq (sq (r1 [gk 5 true s4,gx 209 [l0] PE,p8 l1,gm l2,dc 3 (.ld 5 true s4),dc 3 (.call 451 [l4] PE),fZ 3 s0,dc 3 (gO l5 l6),gR l3 l7] 17 8) (.cond yz (sq (r1 [gn (.build [.int .i64 0,.int .i64 0,.int .i64 0,.str [],.str []] []),gt 5 s1 l0,gm Ek] 2 2) .ret) .skip)) (sq (r1 [gk 5 true s4,gt 5 s1 l0,gm b7] 2 2) .ret))))))))))))⟩
def w466 (h209:Io Y)(h451:OQ Y)(h533:Is Y)(h658:Ly Y)(h675:RP Y)(s:ak)  (hp0:s.length<=1048576):fo Y xD (.tup [gE.D ((ph s).getD kB),.int .i64 (xB s)]) [.str s]:=by
 show ca _ _ _ [⟨_,_⟩,_,_,_,_,_,_,_,_,_,_,_,_,_,_,_,_,_] _;have hb1:=me s 43;have iZ:=me (gG s 43).2 45;generalize hA:gG s 43=A at hb1 iZ;generalize hB:gG A.2 45=B at iZ;have hsl:=dE B.2 46;generalize hL:ai B.2 46=L at hsl;have hq0:ph s=if L.length=3/\gB L[0]! =true/\gB L[1]! =true/\gB L[2]! =true then(if iP ⟨eK L[0]!,eK L[1]!,eK L[2]!,B.1,A.1⟩=true/\qe ⟨eK L[0]!,eK L[1]!,eK L[2]!,B.1,A.1⟩=s then some ⟨eK L[0]!,eK L[1]!,eK L[2]!,B.1,A.1⟩else none)else none:=by subst hA;subst hB;subst hL;rfl
 refine av ?_;refine jD ?_;refine aq (hc:=h675 s 43) ?_;rw[hA];refine aK ?_;refine aQ (gE.D ⟨0,0,0,[],A.1⟩) (he:=aT) ?_;refine aK ?_;refine aq (hc:=h675 A.2 45) ?_;rw[hB];refine aK ?_;refine aQ (gE.D ⟨0,0,0,B.1,A.1⟩) (he:=aT) ?_;refine aK ?_;refine aq (hc:=h533 B.2 46 ae) ?_;rw[hL];refine bh ?_;intro u0;refine aA ?_;refine dR (fun hc0=>?_) fun hc0=>?_
 .refine aA ?_;refine bq (gE.D kB) ?_;refine aK ?_;refine cv (aZ ?_ (ar (D.int .i64) ?_));all_goals
   have hq:ph s=none:=by rw[hq0,aj (fun h=>by have:=h.1;omega)]
   simp only[xB,hq];rfl
 refine cH ?_;intro u1;refine aA ?_;refine bO hm (ι:=Nat) (fun i=>[⟨true,.str s⟩,⟨true,.ptr 0 5 0 0⟩,.un,.un,⟨true,.ptr 2 5 0 0⟩,.un,.un,⟨true,.int .i64 (i:Nat)⟩,⟨true,.int .i64 (L.length:Nat)⟩,.un,⟨true,.sl 1 (L.map D.str)⟩,.un,.un,.un,.un,.un,⟨true,.ptr 27 3 0 0⟩,.un]) (fun i=>[(0,.buf 5 [gE.D kB]),(2,.buf 5 [gE.D ⟨0,0,0,B.1,A.1⟩]),(27,.buf 3 [MW L i])]) 31 (fun i=>i<=3/\∀j,j<i->gB L[j]! =true) (fun i=>3-i) 0 ⟨ae,fun j hj=>ae⟩ (fP [(0,0),(2,2),(27,27)]) ?_;rintro i ⟨hi,hr⟩;refine aG ?_;refine dR (fun hc1=>?_) fun hc1=>?_
 .refine fJ ?_;refine aq (hc:=h658 L[i]!) ?_;refine fJ ?_;refine ax (fun hc2=>?_) (fun hc2=>?_)
  .simp only[bP]at hc2;refine aA ?_;refine bq (gE.D kB) ?_;refine bh ?_;refine cv (aZ ?_ (ar (D.int .i64) ?_));all_goals
    have hq:ph s=none:=by
     rw[hq0,aj];rintro⟨_,h1,h2,h3⟩;rcases(show i=0\/i=1\/i=2 by omega)with rfl|rfl|rfl
     .rw[h1]at hc2;cases hc2
     .rw[h2]at hc2;cases hc2
     .rw[h3]at hc2;cases hc2
    simp only[xB,hq];rfl
  simp only[cL]at hc2;refine aK ?_;refine zQ i ?_;refine aQ (MW L (i+1)) (he:=JG L i ae) ?_;refine bI ?_;have hr2:∀j,j<i+1->gB L[j]! =true:=by
   intro j hj;rcases Nat.eq_or_lt_of_le (Nat.lt_succ_iff.1 hj)with rfl|h
   .exact hc2
   .exact hr j h
  exact⟨i+1,⟨ae,hr2⟩,ae,(fP [(0,0),(2,2),(27,27)])⟩
 refine aA ?_;refine eF 27 ?_;refine az ?_;have h3:i=3:=ae;subst h3;refine Dw 0 ?_;refine jx (v:=.int .i64 (eK L[0]!)) ?_;refine Dw 1 ?_;refine Dy (v:=.int .i64 (eK L[1]!)) ?_;refine Dw 2 ?_;refine Dy (v:=.int .i64 (eK L[2]!)) ?_;refine az ?_;refine aQ (gE.D ⟨eK L[0]!,0,0,B.1,A.1⟩) (he:=aT) ?_;refine az ?_;refine aQ (gE.D ⟨eK L[0]!,eK L[1]!,0,B.1,A.1⟩) (he:=aT) ?_;refine az ?_;refine aQ (gE.D ⟨eK L[0]!,eK L[1]!,eK L[2]!,B.1,A.1⟩) (he:=aT) ?_;refine aG ?_;have hsm:gE.sm ⟨eK L[0]!,eK L[1]!,eK L[2]!,B.1,A.1⟩:=⟨by simp only;omega,by simp only;omega⟩;generalize hV:(⟨eK L[0]!,eK L[1]!,eK L[2]!,B.1,A.1⟩:gE)=V at hsm hq0⊢;refine az ?_;refine aq (hc:=h209 V hsm) ?_;refine aG ?_;refine er (hc:=fun _=>h451 V hsm) ?_;refine aK ?_;refine ax (fun hc3=>?_) (fun hc3=>?_)
 .simp only[dk,bP,bC]at hc3;refine aA ?_;refine bq (gE.D kB) ?_;refine aK ?_;refine cv (aZ ?_ (ar (D.int .i64) ?_));all_goals
   have hq:ph s=none:=by
    rw[hq0];split
    .rw[aj];rintro⟨h1,h2⟩;rcases hc3 with h|h
     .rw[h1]at h;cases h
     .exact h h2
    .rfl
   simp only[xB,hq];rfl
 simp only[dT,cL,a8]at hc3;refine bI ?_;refine cv (aZ ?_ (ar (D.int .i64) ?_));all_goals
  have hq:ph s=some V:=by
   rw[hq0,aw ⟨ae,hr 0 ae,hr 1 ae,hr 2 ae⟩,aw hc3]
  simp only[xB,hq];rfl
def FH (T:List D->D->Prop):Prop:=∀(s:ak),(s.length<=1048576)->T [.str s] (.tup [gE.D ((ph s).getD kB),.int .i64 (xB s)])
def Rz (Y:Ctx):Prop:=FH (ch Y 466)
def Ge (T:List D->D->Prop):Prop:=∀(l:List ct) (nm:ak),T [.sl 2 (l.map ct.D),.str nm] (.int .i64 (findF l nm 0))
def zm:aN:=⟨2,10,[⟨2,none⟩],di,(sq (r1 [gm b7] 2 0) (sq (sq (rg [gm s0,gl l0,gm b7] [(6,0),(4,1),(3,2)]) (.block 0 (.loop (sq (r1 [bo s3 s4] 5 0) (sq (jG s5 0) (sq (.block 1 (sq (rg [gm s3,ga 2 s6 s3,gk 2 true l1,gb 2 (.c (.agg [.str [],.au])),gm l0,gt 2 l3 l2] [(7,3),(9,4)]) (sq (r1 [gf 0 s7,gd l0,gm s1,aU l1 l2] 8 3) (.cond s8 (sq (r1 [gm s9,gm l0] 2 1) .ret) .skip)))) (r1 [ay s3 cN,gm l0] 3 1))))))) (sq (r1 [gn (.mv (.c (.int .i64 (-1))))] 2 0) .ret)))⟩
def w663  (l:List ct)(nm:ak)   :fo Y zm (.int .i64 (findF l nm 0)) [.sl 2 (l.map ct.D),.str nm]:=by
 show ca _ _ _ [⟨_,_⟩,⟨_,_⟩,_,_,_,_,_,_,_,_] _;refine av ?_;refine bh ?_;intro u0;refine aA ?_;refine bO hm (ι:=Nat) (fun i=>[⟨true,.sl 2 (l.map ct.D)⟩,⟨true,.str nm⟩,.un,⟨true,.int .i64 (i:Nat)⟩,⟨true,.int .i64 (l.length:Nat)⟩,.un,⟨true,.sl 2 (l.map ct.D)⟩,.un,.un,.un]) (fun i=>[]) 4 (fun i=>i<=l.length/\findF l nm 0=findF l nm i) (fun i=>l.length-i) 0 ⟨ae,rfl⟩ (fP []) ?_;rintro i ⟨hi,hr⟩;refine aG ?_;refine dR (fun hc0=>?_) fun hc0=>?_
 .refine bm ?_;first|refine b6 (v:=(ct.D _)) ?_|refine jx (v:=(ct.D _)) ?_
  refine aA ?_;refine aQ (ct.D l[i]!) (he:=aT) ?_;refine bI ?_;refine iR (fun hc1=>?_) fun hc1=>?_
  .refine bI ?_;refine jj ?_;rw[hr,I9 ae hc1]
  refine bI ?_;exact⟨i+1,⟨ae,by rw[hr,Ja ae hc1]⟩,ae,(fP [])⟩
 refine bh ?_;refine jj ?_;rw[hr,GM ae]
def RL (Y:Ctx):Prop:=Ge (ch Y 663)
def F8 (T:List D->D->Prop):Prop:=∀(l:List ct) (nm:ak),T [.sl 2 (l.map ct.D),.str nm] (.bool (G4 l nm))
def xk:aN:=⟨2,3,[⟨2,none⟩],di,(sq (r1 [gm eS] 2 0) (sq (r1 [gm s1,aU l0 (cs [100,101,102,97,117,108,116]),gm l1,fZ 2 s0,fZ 2 s1,dc 2 (.call 663 [l3,l4] [[.sl 2 [.a,.sl 1 [.a]]],[.a]]),dc 2 (vg l5 b7),gR l2 l6,gm l7] 2 8) .ret))⟩
def w449 {Y:Ctx}(hm:(Y.at 0).cQ)(h663:RL Y)(l:List ct)(nm:ak)   :fo Y xk (.bool (G4 l nm)) [.sl 2 (l.map ct.D),.str nm]:=by
 show ca _ _ _ [⟨_,_⟩,⟨_,_⟩,_] _;refine av ?_;refine cH ?_;refine aq (hc:=h663 _ _) ?_;refine bm ?_;exact cz rfl
def Rv (Y:Ctx):Prop:=F8 (ch Y 449)
def FY (T:List D->D->Prop):Prop:=∀(s:ak),(s.length<=1048576)->T [.str s] (.tup [.int .i64 (dy s).1,.str (dy s).2.1,.str (dy s).2.2])
def FG (T:List D->D->Prop):Prop:=∀(l:List ct),(uA l)->T [.sl 2 (l.map ct.D)] (.bool (iU l))
def zn:aN:=⟨1,12,[⟨1,none⟩,⟨2,none⟩,⟨3,none⟩],QQ,(sq (rg [gm b7,gm cse,gm cse] [(1,0),(2,1),(3,2)]) (sq (sq (r1 [gm s0,gx 349 [l0] di] 4 1) (.cond s4 (sq (rg [gm s0,gm cN,gm l0,gm cse] [(1,1),(2,2),(3,3)]) .ret) .skip)) (sq (sq (rg [gm s0,gx 254 [l0,(cs [63])] iZ,gm l1,ge l2 0,ge l2 1,gm l3,gm l4] [(6,5),(5,6)]) (sq (r1 [gm s5,gm l0,gmt 1 s6,dC 1 (.call 349 [l2] di),iM l1 l3] 7 4) (.cond s7 (sq (rg [gm s6,gm mi,gm l0,gm cse] [(1,1),(2,2),(3,3)]) .ret) .skip))) (sq (sq (rg [gm s0,gx 487 [l0,(cs [47])] iZ,gm l1,ge l2 0,ge l2 1,ge l2 2,gm l3,gm l4,gm l5] [(9,6),(10,7),(8,8)]) (sq (r1 [gm s8,gm l0,gmt 1 s9,dC 1 (.call 208 [l2] di),iM l1 l3,gm l4,gmt 5 mL,dC 5 (.call 349 [l6] di),iM l5 l7] 11 8) (.cond pU (sq (rg [gm s9,gm mL,gm k9,gm l0,gm l1] [(1,2),(2,3),(3,4)]) .ret) .skip))) (sq (rg [gm b7,gm cse,gm cse] [(1,0),(2,1),(3,2)]) .ret)))))⟩
def w448 {Y:Ctx}(hm:(Y.at 0).cQ)(h208:Im Y)(h254:Rk Y)(h349:Ct Y)(h487:OU Y)(s:ak)  (hp0:s.length<=1048576):fo Y zn (.tup [.int .i64 (dy s).1,.str (dy s).2.1,.str (dy s).2.2]) [.str s]:=by
 show ca _ _ _ [⟨_,_⟩,_,_,_,_,_,_,_,_,_,_,_] _;refine av ?_;refine bI ?_;refine aq (hc:=h349 _) ?_;refine az ?_;refine dR (fun hc0=>?_) fun hc0=>?_
 .refine cH ?_;refine cv (fV (ar (D.int .i64) ?_) (ar D.str ?_) (ar D.str ?_));all_goals rw[Mz hc0]
 refine aK ?_;refine aq (hc:=h254 s [63] hp0 aE) ?_;refine fJ ?_;refine aq (hc:=h349 _) ?_;refine aA ?_;refine dR (fun hc1=>?_) fun hc1=>?_
 .refine cH ?_;refine cv (fV (ar (D.int .i64) ?_) (ar D.str ?_) (ar D.str ?_));all_goals rw[MD hc0 hc1]
 refine aK ?_;refine aq (hc:=h487 s 47 hp0) ?_;refine nT ?_;refine aq (hc:=h208 _) ?_;refine aG ?_;refine aq (hc:=h349 _) ?_;refine aA ?_;refine dR (fun hc2=>?_) fun hc2=>?_
 .refine ez ?_;refine cv (fV (ar (D.int .i64) ?_) (ar D.str ?_) (ar D.str ?_));all_goals rw[ME hc0 hc1 hc2]
 refine bI ?_;refine cv (fV (ar (D.int .i64) ?_) (ar D.str ?_) (ar D.str ?_));all_goals rw[MC hc0 hc1 hc2]
def OO (Y:Ctx):Prop:=FY (ch Y 448)
def AR:aN:=⟨1,18,mJ,di,(sq (r1 [gm eS] 1 0) (sq (sq (r1 [gm s0,gl l0,eI l1 Jn] 2 2) (qj s2 eS)) (sq (sq (rg [gm s0,gl l0,gm b7] [(6,0),(4,1),(3,2)]) (.block 0 (.loop (sq (r1 [bo s3 s4] 5 0) (sq (jG s5 0) (sq (.block 1 (sq (rg [gm s3,ga 2 s6 s3,gk 2 true l1,gb 2 (.c (.agg [.str [],.au])),gm l0,gt 2 l3 l2] [(7,3),(8,4)]) (sq (sq (r2 [gf 0 s7,gd l0,gx 349 [l1] di,p8 l2,gm l3,fZ 4 s8,dc 4 (ew l5 b7),fZ 4 l6,gmt 7 s0,gmt 7 s8,dC 7 (mb l9 cN),dC 7 (.ia 2 l8 l10),rp 7 0 kl,pJ 7 mG,rp 7 0 s7,pJ 7 n7,dC 7 (vg nQ pL),Ei 4 l7 si,gR l4 xd,gm yg,mh 19 1 s7,mg 19 C1,dc 19 (.len En),dc 19 (ew Ii Al),gR Bc MI,gm MJ,mh 25 1 s7,mg 25 PM,dc 25 (.call 447 [QS] [[.sl 1 [.a]]]),dc 25 (.un .not QT),gR Oi QU] 9 30) (qj s9 eS)) (sq (rg [gf 1 s7,gd l0,gl l1,gm b7] [(13,1),(11,2),(10,3)]) (.block 2 (.loop (sq (r1 [bo mL pU] 12 0) (sq (jG m6 2) (sq (.block 3 (sq (r1 [ga 1 rq mL,gd l0,gm l1] 14 2) (sq (rg [gm rr,gx 448 [l0] di,gm l1,ge l2 0,ge l2 1,ge l2 2,gm l3,gm l4,gm l5] [(15,6),(16,7)]) (sq (r1 [gm tP,aU l0 b7,gm l1,fZ 2 tP,dc 2 (dP l3 cN),fZ 2 l4,gmt 5 s0,gmt 5 An,dC 5 (.call 449 [l6,l7] [[.sl 2 [.a,.sl 1 [.a]]],[.a]]),dC 5 (.un .not l8),Ei 2 l5 l9,gR l2 l10] 17 11) (qj yz eS))))) (r1 [ay mL cN,gm l0] 10 1)))))))))) (r1 [ay s3 cN,gm l0] 3 1))))))) (CW xc))))⟩
def w213 (h349:Ct Y)(h447:Ru Y)(h448:OO Y)(h449:Rv Y)(l:List ct)  (hp0:uA l):fo Y AR (.bool (iU l)) [.sl 2 (l.map ct.D)]:=by
 show ca _ _ _ [⟨_,_⟩,_,_,_,_,_,_,_,_,_,_,_,_,_,_,_,_,_] _;refine av ?_;refine bh ?_;intro u0;refine aA ?_;refine dR (fun hc0=>?_) fun hc0=>?_
 .refine bm ?_;refine cz ?_;symm;simp only[iU];rw[dJ ae];rfl
 refine bm ?_;intro u1;refine aA ?_;have hb:iU l=dz (mD l) 0 l.length:=by simp only[iU];rw[cK ae];rfl
 refine bO hm (ι:=Nat) (fun i=>[⟨true,.sl 2 (l.map ct.D)⟩,.un,.un,⟨true,.int .i64 (i:Nat)⟩,⟨true,.int .i64 (l.length:Nat)⟩,.un,⟨true,.sl 2 (l.map ct.D)⟩,.un,.un,.un,.un,.un,.un,.un,.un,.un,.un,.un]) (fun i=>[]) 7 (fun i=>i<=l.length/\iU l=dz (mD l) i l.length) (fun i=>l.length-i) 0 ⟨ae,hb⟩ (fP []) ?_;rintro i ⟨hi,hr⟩;refine aG ?_;refine dR (fun hc1=>?_) fun hc1=>?_
 .refine bm ?_;first|refine b6 (v:=(ct.D _)) ?_|refine jx (v:=(ct.D _)) ?_
  refine aA ?_;refine aQ (ct.D l[i]!) (he:=aT) ?_;refine bm ?_;refine aq (hc:=h349 _) ?_;refine cH ?_;refine cr (i-1) ?_;refine lV ?_;refine nk ?_;refine bm ?_;refine aq (hc:=h447 _) ?_;refine aG ?_;refine ax (fun hc2=>?_) (fun hc2=>?_)
  .have hfo:=GD hc2;refine bI ?_;refine cz ?_;rw[hr,bc ae,hfo];rfl
  have hfo:=GG hc2;refine bm ?_;intro u2;refine aA ?_;refine sc hm (ι:=Nat) (fun j=>[⟨true,.sl 2 (l.map ct.D)⟩,.un,.un,⟨true,.int .i64 (i:Nat)⟩,⟨true,.int .i64 (l.length:Nat)⟩,.un,⟨true,.sl 2 (l.map ct.D)⟩,.un,.un,.un,⟨true,.int .i64 (j:Nat)⟩,⟨true,.int .i64 (l[i]!.of.length:Nat)⟩,.un,⟨true,.sl 1 (l[i]!.of.map D.str)⟩,.un,.un,.un,.un]) (fun j=>[]) 49 (fun j=>j<=l[i]!.of.length/\mD l i=dz (fun j=>kj l l[i]!.of[j]!) j l[i]!.of.length) (fun j=>l[i]!.of.length-j) 0 ⟨ae,hfo⟩ (fP []) ?_;rintro j ⟨hj,hjr⟩;refine aG ?_;refine dR (fun hc3=>?_) fun hc3=>?_
  .refine ez ?_;refine aq (hc:=h448 l[i]!.of[j]! ((hp0 _ (bL ae)).2.2 _ (bL ae))) ?_;refine Ll ?_;refine aq (hc:=h449 _ _) ?_;refine aK ?_;refine wp_cond (fun hc4=>?_) (fun hc4=>?_)
   .have hz:kj l l[i]!.of[j]! =false:=by simp only[kj,hc4];rfl
    refine cH ?_;refine cz ?_;rw[hr,bc ae,hjr,bc ae,hz];rfl
   have hz:kj l l[i]!.of[j]! =true:=by simp only[kj,hc4];rfl
   refine bI ?_;exact⟨j+1,⟨ae,by rw[hjr,bc ae,hz];rfl⟩,ae,(fP [])⟩
  refine cH ?_;exact⟨i+1,⟨ae,by rw[hr,bc ae,hjr,c8 ae];rfl⟩,ae,(fP [])⟩
 refine bh ?_;refine cz ?_;rw[hr,c8 ae]
def Q8 (Y:Ctx):Prop:=FG (ch Y 213)
def HL:aN:=⟨1,11,mJ,di,(sq (r1 [gm cse] 1 0) (sq (sq (r1 [gm s0] 2 0) (.block 0 (sq (r1 [aU s2 cN,gm l0] 3 1) (.cond s3 (sq (r1 [gm (cs [61])] 1 0) .ret) (sq (r1 [aU s2 mi,gm l0] 4 1) (.cond s4 (sq (r1 [gm (cs [33,61])] 1 0) .ret) (sq (r1 [aU s2 k9,gm l0] 5 1) (.cond s5 (sq (r1 [gm (cs [60])] 1 0) .ret) (sq (r1 [aU s2 ud,gm l0] 6 1) (.cond s6 (sq (r1 [gm (cs [60,61])] 1 0) .ret) (sq (r1 [aU s2 Ek,gm l0] 7 1) (.cond s7 (sq (r1 [gm (cs [62])] 1 0) .ret) (sq (r1 [aU s2 Al,gm l0] 8 1) (.cond s8 (sq (r1 [gm (cs [62,61])] 1 0) .ret) (sq (r1 [aU s2 PH,gm l0] 9 1) (.cond s9 (sq (r1 [gm (cs [94])] 1 0) .ret) (sq (r1 [aU s2 Jn,gm l0] 10 1) (.cond mL (sq (r1 [gm (cs [126])] 1 0) .ret) .skip)))))))))))))))))) (CW cse)))⟩
def w678 {Y:Ctx}(hm:(Y.at 0).cQ)  (op:Int)   :fo Y HL (.str (c7 op)) [.int .i64 op]:=by
 show ca _ _ _ [⟨_,_⟩,_,_,_,_,_,_,_,_,_,_] _;refine av ?_;refine fJ ?_;refine iR (fun hc0=>?_) fun hc0=>?_
 .refine bm ?_;refine du ?_;unfold c7;simp_all
 refine aK ?_;refine iR (fun hc1=>?_) fun hc1=>?_
 .refine bm ?_;refine du ?_;unfold c7;simp_all
 refine aK ?_;refine iR (fun hc2=>?_) fun hc2=>?_
 .refine bm ?_;refine du ?_;unfold c7;simp_all
 refine aK ?_;refine iR (fun hc3=>?_) fun hc3=>?_
 .refine bm ?_;refine du ?_;unfold c7;simp_all
 refine aK ?_;refine iR (fun hc4=>?_) fun hc4=>?_
 .refine bm ?_;refine du ?_;unfold c7;simp_all
 refine aK ?_;refine iR (fun hc5=>?_) fun hc5=>?_
 .refine bm ?_;refine du ?_;unfold c7;simp_all
 refine aK ?_;refine iR (fun hc6=>?_) fun hc6=>?_
 .refine bm ?_;refine du ?_;unfold c7;simp_all
 refine aK ?_;refine iR (fun hc7=>?_) fun hc7=>?_
 .refine bm ?_;refine du ?_;unfold c7;simp_all
 refine bh ?_;refine du ?_;unfold c7;simp_all
def va (T:List D->D->Prop):Prop:=∀(op:Int),T [.int .i64 op] (.str (c7 op))
def RR (Y:Ctx):Prop:=va (ch Y 678)
def Gw:aN:=⟨1,11,mJ,di,(sq (r1 [gm cse] 1 0) (sq (sq (r1 [gm s0] 2 0) (.block 0 (sq (r1 [aU s2 cN,gm l0] 3 1) (.cond s3 (sq (r1 [gm (cs [61])] 1 0) .ret) (sq (r1 [aU s2 mi,gm l0] 4 1) (.cond s4 (sq (r1 [gm (cs [33,61])] 1 0) .ret) (sq (r1 [aU s2 k9,gm l0] 5 1) (.cond s5 (sq (r1 [gm (cs [60])] 1 0) .ret) (sq (r1 [aU s2 ud,gm l0] 6 1) (.cond s6 (sq (r1 [gm (cs [60,61])] 1 0) .ret) (sq (r1 [aU s2 Ek,gm l0] 7 1) (.cond s7 (sq (r1 [gm (cs [62])] 1 0) .ret) (sq (r1 [aU s2 Al,gm l0] 8 1) (.cond s8 (sq (r1 [gm (cs [62,61])] 1 0) .ret) (sq (r1 [aU s2 PH,gm l0] 9 1) (.cond s9 (sq (r1 [gm (cs [94])] 1 0) .ret) (sq (r1 [aU s2 Jn,gm l0] 10 1) (.cond mL (sq (r1 [gm (cs [126])] 1 0) .ret) .skip)))))))))))))))))) (CW cse)))⟩
def w957 {Y:Ctx}(hm:(Y.at 0).cQ)  (op:Int)   :fo Y Gw (.str (c7 op)) [.int .i64 op]:=by
 show ca _ _ _ [⟨_,_⟩,_,_,_,_,_,_,_,_,_,_] _;refine av ?_;refine fJ ?_;refine iR (fun hc0=>?_) fun hc0=>?_
 .refine bm ?_;refine du ?_;unfold c7;simp_all
 refine aK ?_;refine iR (fun hc1=>?_) fun hc1=>?_
 .refine bm ?_;refine du ?_;unfold c7;simp_all
 refine aK ?_;refine iR (fun hc2=>?_) fun hc2=>?_
 .refine bm ?_;refine du ?_;unfold c7;simp_all
 refine aK ?_;refine iR (fun hc3=>?_) fun hc3=>?_
 .refine bm ?_;refine du ?_;unfold c7;simp_all
 refine aK ?_;refine iR (fun hc4=>?_) fun hc4=>?_
 .refine bm ?_;refine du ?_;unfold c7;simp_all
 refine aK ?_;refine iR (fun hc5=>?_) fun hc5=>?_
 .refine bm ?_;refine du ?_;unfold c7;simp_all
 refine aK ?_;refine iR (fun hc6=>?_) fun hc6=>?_
 .refine bm ?_;refine du ?_;unfold c7;simp_all
 refine aK ?_;refine iR (fun hc7=>?_) fun hc7=>?_
 .refine bm ?_;refine du ?_;unfold c7;simp_all
 refine bh ?_;refine du ?_;unfold c7;simp_all
def O9 (Y:Ctx):Prop:=va (ch Y 957)
def Ch (T:List D->D->Prop):Prop:=∀(s:ak) (w:ak),T [.str s,.str w] (.bool (tY s w))
def AK:aN:=⟨2,3,[⟨2,none⟩],di,(sq (r1 [gm eS] 2 0) (sq (r1 [gm s0,uE l0,gm s1,uE l2,jf l1 l3,gm l4,gmt 5 s0,gmt 5 s1,dC 5 (.lenS l7),dC 5 (.slS l6 none (some l8)),gmt 5 s1,dC 5 (dP l9 l10),iM l5 kl,gm mG] 2 13) .ret))⟩
def w956 {Y:Ctx}(hm:(Y.at 0).cQ)  (s:ak)(w:ak)   :fo Y AK (.bool (tY s w)) [.str s,.str w]:=by
 show ca _ _ _ [⟨_,_⟩,⟨_,_⟩,_] _;refine av ?_;refine bm ?_;intro u0;refine aA ?_;intro u1;refine aK ?_;refine nk ?_;refine rZ w.length (hj:=fun _=>rfl) (hb:=fun h=>by simp at h;omega) ?_;refine bh ?_;refine cz ?_;unfold tY;rw[show decide ((w.length:Int)<=(s.length:Int))=decide (w.length<=s.length)from tm.2 ae]
def R2 (Y:Ctx):Prop:=Ch (ch Y 956)
def KF:aN:=⟨1,8,mJ,di,(sq (rg [gb 7 s0,gm eS] [(2,0),(1,1)]) (sq (sq (r1 [gf 0 s2,gd l0,bo l1 cN,gm l2,mh 3 0 s2,mg 3 l4,dc 3 (ew l5 El),gR l3 l6,gm l7,mh 8 2 s2,dc 8 (.ld 5 true l9),dc 8 (.call 217 [l10] PE),dc 8 (.un .not kl),gR l8 mG,gm nQ,mh 14 2 s2,mh 14 4 pL,mg 14 si,dc 14 (gO xd cse),gR n7 yg] 3 19) (qj s3 eS)) (sq (rg [gm cN,gm k9] [(5,0),(6,1)]) (sq (sq (r1 [gf 0 s2,gd l0,aU l1 El] 4 2) (.cond s4 (rg [gm b7,gm mi] [(5,0),(6,1)]) .skip)) (sq (sq (r1 [gf 1 s2,gd l0,gm s5,bo l1 l2,gm l3,mh 4 1 s2,mg 4 l5,fZ 4 s6,dc 4 (ew l6 l7),gR l4 l8,gm l9,mh 10 1 s2,mg 10 kl,dc 10 (rz mG k9),fZ 10 nQ,rp 14 2 s2,rp 14 3 pL,pJ 14 si,dC 14 (gO xd cse),Ei 10 n7 yg,gR l10 Bc] 7 20) (qj s7 eS)) (sq (r1 [gf 1 s2,gd l0,eI l1 b7,gm l2,mh 3 2 s2,mh 3 0 l4,mg 3 l5,dc 3 (dP l6 b7),gR l3 l7,gm l8,rp 9 1 s2,pJ 9 l10,dC 9 (ew kl cN),gmt 9 mG,mh 13 2 s2,mh 13 1 n7,mg 13 pL,dc 13 (dP si b7),QP 9 nQ xd,iM l9 yg,gm Bc,rp 20 1 s2,pJ 20 En,dC 20 (ew Ii mi),gmt 20 MI,mh 24 2 s2,mh 24 2 Oi,mg 24 PM,dc 24 (dP QS b7),QP 20 MJ QT,iM C1 QU,gm S6] 1 31) .ret))))))⟩
def w676 {Y:Ctx}(hm:(Y.at 0).cQ)(h217:Ra Y)(c:dx)  (hp0:c.v.sm):fo Y KF (.bool (lX c)) [dx.D c]:=by
 show ca _ _ _ [⟨_,_⟩,_,_,_,_,_,_,_] _;refine av ?_;refine Cl ?_;refine bZ (v:=gE.D c.v) ?_;refine er (hc:=fun hf=>h217 c.v hp0) ?_;refine ez ?_;refine ax (fun hc0=>?_) (fun hc0=>?_)
 .have hq:=AI hc0;refine bm ?_;refine cz ?_;rw[hq]
 have hy:=xS hc0;refine fJ ?_;refine ax (fun hc1=>?_) (fun hc1=>?_)
 .simp only[a8]at hc1;have hz:=pz hy (lo:=0) (hi:=2) (aw hc1) (aw hc1);refine Ln ?_;refine ax (fun hc2=>?_) (fun hc2=>?_)
  .rw[hc2]at hz;refine bm ?_;refine cz ?_;rw[hz];rfl
  rw[hc2]at hz;refine OE ?_;refine cz ?_;rw[hz];rfl
 simp only[bC]at hc1;have hz:=pz hy (lo:=1) (hi:=3) (aj hc1) (aj hc1);refine OD ?_;refine ax (fun hc2=>?_) (fun hc2=>?_)
 .rw[hc2]at hz;refine bm ?_;refine cz ?_;rw[hz];rfl
 rw[hc2]at hz;refine OE ?_;refine cz ?_;rw[hz];rfl
def uZ (T:List D->D->Prop):Prop:=∀(c:dx),(c.v.sm)->T [dx.D c] (.bool (lX c))
def RQ (Y:Ctx):Prop:=uZ (ch Y 676)
def IW:aN:=⟨1,14,mJ,di,(sq (rg [gb 7 s0,gm eS] [(2,0),(1,1)]) (sq (sq (r1 [gf 0 s2,gd l0,bo l1 cN,gm l2,mh 3 0 s2,mg 3 l4,dc 3 (ew l5 El),gR l3 l6,gm l7,mh 8 2 s2,dc 8 (.ld 5 true l9),dc 8 (.call 209 [l10] PE),dc 8 (.un .not kl),gR l8 mG,gm nQ,mh 14 2 s2,mh 14 4 pL,mg 14 si,dc 14 (gO xd cse),gR n7 yg] 3 19) (qj s3 eS)) (sq (rg [gm cN,gm k9] [(5,0),(6,1)]) (sq (sq (r1 [gf 0 s2,gd l0,aU l1 El] 4 2) (.cond s4 (rg [gm b7,gm mi] [(5,0),(6,1)]) .skip)) (sq (sq (r1 [gf 1 s2,gd l0,gm s5,bo l1 l2,gm l3,mh 4 1 s2,mg 4 l5,fZ 4 s6,dc 4 (ew l6 l7),gR l4 l8,gm l9,mh 10 2 s2,mh 10 3 kl,mg 10 mG,dc 10 (gO nQ cse),fZ 10 n7,rp 15 1 s2,pJ 15 si,dC 15 (rz xd k9),Ei 10 pL yg,gR l10 Bc] 7 20) (qj s7 eS)) (sq (sq (r1 [gf 1 s2,gd l0] 8 1) (.block 0 (sq (.block 3 (sq (.block 2 (sq (.block 1 (sq (sq (sq (r1 [aU s8 b7,gm l0] 9 1) (.cond s9 (.exit 1) .skip)) (sq (sq (r1 [aU s8 cN,gm l0] 10 1) (.cond mL (.exit 2) .skip)) (sq (r1 [aU s8 mi,gm l0] 11 1) (.cond pU (.exit 3) .skip)))) (.exit 0))) (sq (r1 [gf 2 s2,gf 0 l0,gd l1,dd l2 b7] 12 3) (qj m6 eS)))) (sq (r1 [gf 2 s2,gf 1 l0,gd l1,dd l2 b7] 13 3) (qj rq eS)))) (sq (sq (r1 [gf 2 s2,gf 2 l0,gd l1,aU l2 b7,gm l3] 1 4) .ret) (.exit 0))))) (CW xc)))))))⟩
def w827 {Y:Ctx}(hm:(Y.at 0).cQ)(h209:Io Y)(c:dx)  (hp0:c.v.sm):fo Y IW (.bool (lX c)) [dx.D c]:=by
 show ca _ _ _ [⟨_,_⟩,_,_,_,_,_,_,_,_,_,_,_,_,_] _;refine av ?_;refine Cl ?_;refine bZ (v:=gE.D c.v) ?_;refine er (hc:=fun hf=>h209 c.v hp0) ?_;refine ez ?_;refine ax (fun hc0=>?_) (fun hc0=>?_)
 .have hq:=AI hc0;refine bm ?_;refine cz ?_;rw[hq]
 have hy:=xS hc0;refine fJ ?_;refine ax (fun hc1=>?_) (fun hc1=>?_)
 .simp only[a8]at hc1;have hz:=pz hy (lo:=0) (hi:=2) (aw hc1) (aw hc1);refine Ln ?_;refine ax (fun hc2=>?_) (fun hc2=>?_)
  .rw[Bool.and_comm (!decide (c.v.pre=[]))]at hc2;rw[hc2]at hz;refine bm ?_;refine cz ?_;rw[hz];simp[nW]<;>simp_all<;>omega
  rw[Bool.and_comm (!decide (c.v.pre=[]))]at hc2;rw[hc2]at hz;refine y7 ?_;refine dR (fun hc3=>?_) fun hc3=>?_
  .refine cH ?_;refine iR (fun hc6=>?_) fun hc6=>?_
   .refine bI ?_;refine cz ?_;rw[hz];simp[nW]<;>simp_all<;>omega
   refine cH ?_;refine iR (fun hc7=>?_) fun hc7=>?_
   .refine bh ?_;refine cz ?_;rw[hz];simp[nW]<;>simp_all<;>omega
   refine jD ?_;refine cz ?_;rw[hz];simp[nW]<;>simp_all<;>omega
  refine bI ?_;refine dR (fun hc4=>?_) fun hc4=>?_
  .refine ez ?_;refine iR (fun hc7=>?_) fun hc7=>?_
   .refine bh ?_;refine cz ?_;rw[hz];simp[nW]<;>simp_all<;>omega
   refine jD ?_;refine cz ?_;rw[hz];simp[nW]<;>simp_all<;>omega
  refine bh ?_;refine dR (fun hc5=>?_) fun hc5=>?_
  .refine y6 ?_;refine cz ?_;rw[hz];simp[nW]<;>simp_all<;>omega
  refine lV ?_;refine cz ?_;rw[hz];simp[nW]<;>simp_all<;>omega
 simp only[bC]at hc1;have hz:=pz hy (lo:=1) (hi:=3) (aj hc1) (aj hc1);refine OD ?_;refine ax (fun hc2=>?_) (fun hc2=>?_)
 .rw[Bool.and_comm (!decide (c.v.pre=[]))]at hc2;rw[hc2]at hz;refine bm ?_;refine cz ?_;rw[hz];simp[nW]<;>simp_all<;>omega
 rw[Bool.and_comm (!decide (c.v.pre=[]))]at hc2;rw[hc2]at hz;refine y7 ?_;refine dR (fun hc3=>?_) fun hc3=>?_
 .refine cH ?_;refine iR (fun hc6=>?_) fun hc6=>?_
  .refine bI ?_;refine cz ?_;rw[hz];simp[nW]<;>simp_all<;>omega
  refine cH ?_;refine iR (fun hc7=>?_) fun hc7=>?_
  .refine bh ?_;refine cz ?_;rw[hz];simp[nW]<;>simp_all<;>omega
  refine jD ?_;refine cz ?_;rw[hz];simp[nW]<;>simp_all<;>omega
 refine bI ?_;refine dR (fun hc4=>?_) fun hc4=>?_
 .refine ez ?_;refine iR (fun hc7=>?_) fun hc7=>?_
  .refine bh ?_;refine cz ?_;rw[hz];simp[nW]<;>simp_all<;>omega
  refine jD ?_;refine cz ?_;rw[hz];simp[nW]<;>simp_all<;>omega
 refine bh ?_;refine dR (fun hc5=>?_) fun hc5=>?_
 .refine y6 ?_;refine cz ?_;rw[hz];simp[nW]<;>simp_all<;>omega
 refine lV ?_;refine cz ?_;rw[hz];simp[nW]<;>simp_all<;>omega
def LA (Y:Ctx):Prop:=uZ (ch Y 827)
def CO:aN:=⟨1,16,mJ,di,(sq (rg [gb 7 s0,gm cse] [(2,0),(1,1)]) (sq (sq (r1 [gk 7 true s2,gx 827 [l0] PF,p8 l1] 3 2) (qj s3 cse)) (sq (r1 [gf 0 s2,gd l0,gx 957 [l1] di,gm l2] 11 3) (sq (sq (rg [gf 2 s2,gf 0 l0,gd l1,gf 2 s2,gf 1 l3,gd l4,gf 2 s2,gf 2 l6,gd l7,gn (.bsl 1 (.int .i64 0) 3 [(0,l2),(1,l5),(2,l8)]),gl l9,gm b7] [(7,9),(5,10),(4,11)]) (.block 0 (.loop (sq (r1 [bo s4 s5] 6 0) (sq (jG s6 0) (sq (.block 1 (sq (rg [gm s4,ga 1 s7 s4,gd l1,gm l0,gm l2] [(8,3),(12,4)]) (sq (sq (r1 [gm s8,gf 1 s2,gd l1,jf l0 l2] 9 3) (.cond s9 (.exit 0) .skip)) (sq (sq (r1 [gm s8,eI l0 b7] 10 1) (.cond mL (r1 [gm pU,ay l0 (cs [46]),gm l1] 11 2) .skip)) (r1 [gm pU,gm m6,gx 665 [l1] di,ay l0 l2,gm l3] 11 4))))) (r1 [ay s4 cN,gm l0] 4 1))))))) (sq (sq (r1 [gf 0 s2,gd l0,aU l1 El] 13 2) (.cond rq (sq (sq (r1 [gf 1 s2,gd l0,eI l1 b7] 14 2) (.cond rr (r1 [gm pU,ay l0 (cs [46]),gm l1] 11 2) .skip)) (sq (r1 [gm pU,ay l0 (cs [42]),gm l1] 1 2) .ret)) .skip)) (sq (sq (r1 [gf 2 s2,gf 3 l0,gd l1,dd l2 cse] 15 3) (.cond tP (r1 [gm pU,gf 2 s2,gf 3 l1,gd l2,ay (cs [45]) l3,ay l0 l4,gm l5] 11 6) .skip)) (sq (r1 [gm pU,gm l0] 1 1) .ret)))))))⟩
def w828 (h665:O4 Y)(h827:LA Y)(h957:O9 Y)(c:dx)  (hp0:c.v.sm):fo Y CO (.str (eA c)) [dx.D c]:=by
 show ca _ _ _ [⟨_,_⟩,_,_,_,_,_,_,_,_,_,_,_,_,_,_,_] _;refine av ?_;refine bh ?_;refine aq (hc:=h827 _ ?_) ?_;rotate_left;first|assumption|omega
 refine aA ?_;refine ax (fun hc0=>?_) (fun hc0=>?_)
 .simp only[bP]at hc0;refine bm ?_;refine du ?_;simp[eA,hc0]
 simp only[cL]at hc0;obtain⟨hv,hp1,hp2,hp3,hp4⟩:=mO hc0;have hsl:=ta c.op;have hnl:=pQ hv;refine aK ?_;refine aq (hc:=h957 _) ?_;refine nT ?_;refine cZ [(.int _ _),(.int _ _),(.int _ _)] ?_;refine az ?_;intro u0;refine aA ?_;refine eF 18 ?_;refine bO hm (ι:=Nat) (fun i=>[.un,.un,⟨true,.ptr 0 7 0 0⟩,.un,⟨true,.int .i64 (i:Nat)⟩,⟨true,.int .i64 3⟩,.un,⟨true,.sl 1 (c.ku.map (D.int .i64))⟩,.un,.un,.un,⟨true,.str (c7 c.op++e8 c i)⟩,.un,.un,.un,.un]) (fun i=>[(0,.buf 7 [dx.D c])]) 21 (fun i=>i<=3/\i<=c.parts.toNat) (fun i=>3-i) 0 ⟨ae,ae⟩ (aW.to [(0,0)] ah ah (by repeat(first|exact dr.nil|refine dr.un ?_|refine dr.eq ah ?_|refine dr.nl (ar D.str (by first|(simp only[e8,aw hpos,dU];done)|(simp only[e8,aj hpos,dU,eN];done)|simp[e8])) ah ?_|refine dr.nl ah ah ?_)) qb) ?_;rintro i ⟨hi,hip⟩;have hni:=hnl i;have hfit:=oN hv i;have hn3:c.ku.length=3:=rfl;refine aG ?_;refine dR (fun hc1=>?_) fun hc1=>?_
 .refine y7 ?_;refine dR (fun hc2=>?_) fun hc2=>?_
  .refine bm ?_;obtain rfl:i=c.parts.toNat:=ae;refine aK ?_;refine dR (fun hc4=>?_) fun hc4=>?_
   .refine bI ?_;refine dR (fun hc5=>?_) fun hc5=>?_
    .refine aA ?_;refine n8 ?_;refine bm ?_;refine n8 ?_;refine aG ?_;refine du ?_;simp[eA,j0,jA,hc0, *]
    refine aK ?_;refine n8 ?_;refine aG ?_;refine du ?_;simp[eA,j0,jA,hc0, *]
   refine cH ?_;refine dR (fun hc6=>?_) fun hc6=>?_
   .refine az ?_;have hpl:=hp0.1;refine aK ?_;refine n8 ?_;refine n8 ?_;refine bI ?_;refine du ?_;simp[eA,j0,jA,hc0, *]
   refine bh ?_;refine du ?_;simp[eA,j0,jA,hc0, *]
  refine bh ?_;refine ax (fun hc3=>?_) (fun hc3=>?_)
  .simp only[a8]at hc3;have hpos:0<i:=ae;refine aA ?_;refine n8 ?_;refine bm ?_;refine aq (hc:=h665 (c.ku[i]!) ⟨hfit.1,hfit.2⟩) ?_;have hdl:=fC 4 (c.ku[i]!).toNat ae ae;refine n8 ?_;refine cH ?_;exact⟨i+1,⟨ae,ae⟩,ae,(aW.to [(0,0)] ah ah (by repeat(first|exact dr.nil|refine dr.un ?_|refine dr.eq ah ?_|refine dr.nl (ar D.str (by first|(simp only[e8,aw hpos,dU];done)|(simp only[e8,aj hpos,dU,eN];done)|simp[e8])) ah ?_|refine dr.nl ah ah ?_)) qb)⟩
  simp only[bC]at hc3;have hpos:¬0<i:=ae;refine aK ?_;refine aq (hc:=h665 (c.ku[i]!) ⟨hfit.1,hfit.2⟩) ?_;have hdl:=fC 4 (c.ku[i]!).toNat ae ae;refine n8 ?_;refine cH ?_;exact⟨i+1,⟨ae,ae⟩,ae,(aW.to [(0,0)] ah ah (by repeat(first|exact dr.nil|refine dr.un ?_|refine dr.eq ah ?_|refine dr.nl (ar D.str (by first|(simp only[e8,aw hpos,dU];done)|(simp only[e8,aj hpos,dU,eN];done)|simp[e8])) ah ?_|refine dr.nl ah ah ?_)) qb)⟩
 refine aK ?_;obtain rfl:i=c.parts.toNat:=ae;refine aK ?_;refine dR (fun hc4=>?_) fun hc4=>?_
 .refine bI ?_;refine dR (fun hc5=>?_) fun hc5=>?_
  .refine aA ?_;refine n8 ?_;refine bm ?_;refine n8 ?_;refine aG ?_;refine du ?_;simp[eA,j0,jA,hc0, *]
  refine aK ?_;refine n8 ?_;refine aG ?_;refine du ?_;simp[eA,j0,jA,hc0, *]
 refine cH ?_;refine dR (fun hc6=>?_) fun hc6=>?_
 .refine az ?_;have hpl:=hp0.1;refine aK ?_;refine n8 ?_;refine n8 ?_;refine bI ?_;refine du ?_;simp[eA,j0,jA,hc0, *]
 refine bh ?_;refine du ?_;simp[eA,j0,jA,hc0, *]
def vb (T:List D->D->Prop):Prop:=∀(c:dx),(c.v.sm)->T [dx.D c] (.str (eA c))
def O6 (Y:Ctx):Prop:=vb (ch Y 828)
def sZ:aN:=⟨1,4,mJ,[[.sl 1 [.a]]],(sq (rg [gb 7 s0,gm (.c (.au))] [(2,0),(1,1)]) (sq (r2 [gf 2 s2,gf 0 l0,gd l1,gx 734 [l2] di,gf 2 s2,gf 1 l4,gd l5,gx 734 [l6] di,gf 2 s2,gf 2 l8,gd l9,gx 734 [l10] di,gn (.bsl 1 (.str []) 3 [(0,l3),(1,l7),(2,kl)]),gm mG] 3 13) (sq (r1 [gm s3,gf 1 s2,gd l1,gn (.slA 1 l0 none (some l2)),gm l3] 1 4) .ret)))⟩
def w677 {Y:Ctx}(hm:(Y.at 0).cQ)(c:dx)(h734:RW Y)(hp0:iP c.v=true/\0<=c.parts/\c.parts<=3):ca (Y.at 0) sZ.body (nU sZ (One (.own 14 1 0 c.parts.toNat) [(0,.buf 7 [dx.D c]),(14,.buf 1 [.str (eh c.v.major.toNat),.str (eh c.v.minor.toNat),.str (eh c.v.patch.toNat)])]):Ex->List bE->St->Prop) (gh sZ [dx.D c]) ⟨0,[]⟩:=by
 show ca _ _ _ [⟨_,_⟩,_,_,_] _;refine av ?_;refine bI ?_;refine aq (hc:=h734 c.v.major (oN hp0.1 0)) ?_;refine aG ?_;refine aq (hc:=h734 c.v.minor (oN hp0.1 1)) ?_;refine aG ?_;refine aq (hc:=h734 c.v.patch (oN hp0.1 2)) ?_;refine cZ [.str _,.str _,.str _] ?_;refine bh ?_;refine BB c.parts.toNat (hj:=fun _=>ae) (hb:=fun _=>ae) ?_;refine aG ?_;refine ff trivial js (dw ah (?_)) ah (oneq _ _);rfl
def O5 (Y:Ctx):Prop:=∀(c:dx),(iP c.v=true/\0<=c.parts/\c.parts<=3)->∀(nx:Nat) (m:List (Nat×bp)) (K:D->St->Prop),K (.own nx 1 0 c.parts.toNat) ⟨nx+1,(nx,.buf 1 [.str (eh c.v.major.toNat),.str (eh c.v.minor.toNat),.str (eh c.v.patch.toNat)])::m⟩->Y.tr 677 [dx.D c] ⟨nx,m⟩ K
def DF:aN:=⟨1,8,mJ,di,(sq (rg [gb 7 s0,gm cse] [(2,0),(1,1)]) (sq (sq (r1 [gk 7 true s2,gx 676 [l0] PF,p8 l1] 3 2) (qj s3 cse)) (sq (r1 [gk 7 true s2,gn (.callM 677 [l0]),gm l1] 5 2) (sq (sq (r1 [gf 0 s2,gd l0,aU l1 El] 4 2) (.cond s4 (sq (r1 [gm s5,gf 1 s2,gd l1,gf 1 s2,gd l3,gn (.slX 1 l0 l2 l4),gn (.bsl 1 (.str []) 1 [(0,(cs [42]))]),gn (.app 1 l5 l6),gx 249 [l7,(i8 46)] [[.sl 1 [.a]],[.a]],gm l8] 1 9) .ret) .skip)) (sq (r1 [gf 0 s2,gd l0,gx 678 [l1] di,gm s5,gx 249 [l3,(i8 46)] [[.sl 1 [.a]],[.a]],ay l2 l4,gm l5] 7 6) (sq (sq (r1 [gf 2 s2,gf 3 l0,gd l1,dd l2 cse] 6 3) (.cond s6 (r1 [gm s7,ay l0 (cs [45]),gf 2 s2,gf 3 l2,gd l3,ay l1 l4,gm l5] 7 6) .skip)) (sq (r1 [gm s7,gm l0] 1 1) .ret)))))))⟩
def w482 {Y:Ctx}(hm:(Y.at 0).cQ)(h249:Rj Y)(h676:RQ Y)(h677:O5 Y)(h678:RR Y)(c:dx)  (hp0:c.v.sm):fo Y DF (.str (eA c)) [dx.D c]:=by
 show ca _ _ _ [⟨_,_⟩,_,_,_,_,_,_,_] _;refine av ?_;refine bh ?_;refine aq (hc:=h676 _ ?_) ?_;rotate_left;first|assumption|omega
 refine aA ?_;refine ax (fun hc0=>?_) (fun hc0=>?_)
 .simp only[bP]at hc0;refine bm ?_;refine du ?_;simp[eA,hc0]
 simp only[cL]at hc0;obtain⟨hv,hp1,hp2,hp3,hp4⟩:=mO hc0;have hsl:=ta c.op;have hnl:=pQ hv c.parts.toNat;have htl:=B1 hp2;have hj1:=yM hp2;have hj2:=tf hp1 hp2;have hl2:=ar List.length hj2;have hl1:=ar List.length hj1;simp only[bA,List.length_singleton]at hl2;have hi2:(if 0<c.parts then([46]:ak)else []).length<=1:=by split<;>simp
 refine aG ?_;refine dp (nx':=6) (v:=.own 6 1 0 c.parts.toNat) (m':=[(6,.buf 1 [.str (eh c.v.major.toNat),.str (eh c.v.minor.toNat),.str (eh c.v.patch.toNat)]),(0,.buf 7 [dx.D c])]) (hc:=fun K' hK=>h677 c ⟨hv,hp1,hp2⟩ _ _ K' hK) (hn:=aE) ?_;refine cH ?_;refine dR (fun hc1=>?_) fun hc1=>?_
 .refine bI ?_;refine Qq c.parts.toNat (hj:=fun _=>ae) (hb:=fun _=>ae) ?_;refine cZ [.str _] ?_;refine EC ((ke c++[[42]]).map D.str) (n:=(ke c++[[42]]).length) (ha:=cX) (he:=sg.own rfl aJ) (hz:=by rw[bN,wP,List.map_append];rfl) (hn:=cX) (hb:=cX) ?_;refine aq (hc:=h249 (ke c++[[42]]) 46 (by rw[hj2];simp only[bA,List.length_singleton];omega)) (ha:=fun _=>ar (fun d=>[d,D.int .u8 46]) (uS (q:=D.str) (fun _=>rfl) ah)) (hp:=fun _=>⟨se (q:=D.str) (fun _=>rfl) ah,rfl,trivial⟩) ?_;refine aG ?_;refine du ?_;rw[eA,aw hc0,hj2];simp[j0,jA,hc1,c7]
 refine aK ?_;refine aq (hc:=h678 _) ?_;refine az ?_;refine aq (hc:=h249 (ke c) 46 (by rw[hj1];omega)) (ha:=fun _=>ar (fun d=>[d,D.int .u8 46]) (NF ah)) (hp:=fun _=>⟨KU hp2 ah,rfl,trivial⟩) ?_;refine eB (hb:=fun _=>ae) ?_;refine ez ?_;refine dR (fun hc2=>?_) fun hc2=>?_
 .refine az ?_;have hpl:=hp0.1;refine az ?_;refine n8 ?_;refine aG ?_;refine n8 ?_;refine bI ?_;refine du ?_;rw[eA,aw hc0,hj1];simp[j0,jA,hc1,hc2]
 refine bh ?_;refine du ?_;rw[eA,aw hc0,hj1];simp[j0,jA,hc1,hc2]
def RE (Y:Ctx):Prop:=vb (ch Y 482)
def Gv:aN:=⟨1,33,[⟨1,some (7,true)⟩,⟨2,none⟩],[[.a,.a,.a,.a,.a,.a,.a],[.a]],(sq (rg [gb 7 (.c (.agg [.int .i64 0,.int .i64 0,.int .i64 0,.int .i64 0,.int .i64 0,.str [],.str []])),gm eS] [(1,0),(2,1)]) (sq (r1 [gn (.build [.int .i64 0,.int .i64 0,.int .i64 0,.int .i64 0,.int .i64 0,.str [],.str []] [(0,1,El)]),gb 7 (.c (.agg [.int .i64 0,.int .i64 0,.int .i64 0,.int .i64 0,.int .i64 0,.str [],.str []])),gt 7 l1 l0] 9 1) (sq (r1 [gm s0,gm l0] 10 1) (sq (sq (rg [gn (.bsl 1 (.int .i64 0) 8 [(0,mi),(1,ud),(2,Al),(3,cN),(4,k9),(5,Ek),(6,PH),(7,Jn)]),gl l0,gm b7] [(6,0),(4,1),(3,2)]) (.block 0 (.loop (sq (r1 [bo s3 s4] 5 0) (sq (jG s5 0) (sq (.block 1 (sq (r1 [ga 1 s6 s3,gd l0,gm l1] 7 2) (sq (r1 [gm s0,gm s7,gx 957 [l1] di,gx 956 [l0,l2] iZ] 8 3) (.cond s8 (sq (rg [gm s7,gf 0 s9,gt 1 l1 l0] []) (sq (r1 [gm s0,gm s7,gx 957 [l1] di,uE l2,gn (.slS l0 (some l3) none),gm l4] 10 5) (.exit 0))) .skip)))) (r1 [ay s3 cN,gm l0] 3 1))))))) (sq (sq (rg [gm mL,uE l0,gm b7] [(12,1),(11,2)]) (.block 2 (.loop (sq (r1 [bo pU m6] 13 0) (sq (jG rq 2) (sq (.block 3 (sq (r1 [gm pU,gm l0] 14 1) (sq (r1 [gm mL,gm rr,Mm l0 l1,aU l2 (i8 45)] 15 3) (.cond tP (sq (rg [gm mL,gm rr,ay l1 cN,gn (.slS l0 (some l2) none),gf 2 s9,gf 3 l4,gt 1 l5 l3] []) (sq (r1 [gm mL,gm rr,gn (.slS l0 none (some l1)),gm l2] 10 3) (.exit 2))) .skip)))) (r1 [ay pU cN,gm l0] 11 1))))))) (sq (r1 [gm mL,gx 533 [l0,(i8 46)] iZ,gm l1] 17 2) (sq (sq (r1 [gf 0 s9,gd l0,aU l1 El] 16 2) (.cond An (sq (sq (r1 [gm yz,gm yz,gl l1,gA l2 cN,ga 1 l0 l3,gd l4,dd l5 (cs [42])] 18 6) (.cond yA (sq (r1 [gn (.build [.int .i64 0,.int .i64 0,.int .i64 0,.int .i64 0,.int .i64 0,.str [],.str []] []),gt 7 s1 l0,gm eS] 2 2) .ret) .skip)) (r1 [gm yz,gm yz,gl l1,gA l2 cN,gn (.slA 1 l0 none (some l3)),gm l4] 17 5)) .skip)) (sq (sq (r1 [gm yz,gl l0,eI l1 k9] 19 2) (.cond HQ (sq (r1 [gn (.build [.int .i64 0,.int .i64 0,.int .i64 0,.int .i64 0,.int .i64 0,.str [],.str []] []),gt 7 s1 l0,gm eS] 2 2) .ret) .skip)) (sq (rg [gm yz,gl l0,gf 1 s9,gt 1 l2 l1] []) (sq (sq (rg [gm yz,gl l0,gm b7] [(23,0),(21,1),(20,2)]) (.block 4 (.loop (sq (r1 [bo DI Qt] 22 0) (sq (jG QY 4) (sq (.block 5 (sq (rg [gm DI,ga 1 s23 DI,gd l1,gm l0,gm l2] [(27,3),(24,4)]) (sq (rg [gm Qu,gx 658 [l0] di,gm l1,ge l2 0,ge l2 1,gm l3,gm l4] [(30,5),(25,6)]) (sq (sq (r1 [gm QZ,p8 l0] 26 1) (.cond Ts (sq (r1 [gn (.build [.int .i64 0,.int .i64 0,.int .i64 0,.int .i64 0,.int .i64 0,.str [],.str []] []),gt 7 s1 l0,gm eS] 2 2) .ret) .skip)) (sq (r1 [gm s27] 28 0) (.block 6 (sq (r1 [aU s28 b7,gm l0] 29 1) (.cond s29 (rg [gm Ot,gf 2 s9,gf 0 l1,gt 1 l2 l0] []) (sq (r1 [aU s28 cN,gm l0] 31 1) (.cond s31 (rg [gm Ot,gf 2 s9,gf 1 l1,gt 1 l2 l0] []) (rg [gm Ot,gf 2 s9,gf 2 l1,gt 1 l2 l0] []))))))))))) (r1 [ay DI cN,gm l0] 20 1))))))) (sq (sq (r1 [gk 7 true s9,gx 827 [l0] PF,p8 l1,gm l2,dc 3 (.ld 7 true s9),dc 3 (.call 828 [l4] PF),fZ 3 s0,dc 3 (gO l5 l6),gR l3 l7] 32 8) (.cond s32 (sq (r1 [gn (.build [.int .i64 0,.int .i64 0,.int .i64 0,.int .i64 0,.int .i64 0,.str [],.str []] []),gt 7 s1 l0,gm eS] 2 2) .ret) .skip)) (sq (r1 [gk 7 true s9,gt 7 s1 l0,gm xc] 2 2) .ret))))))))))))⟩
def w819 (h533:Is Y)(h658:Ly Y)(h827:LA Y)(h828:O6 Y)(h956:R2 Y)(h957:O9 Y)(s:ak)  (hp0:s.length<=1048576):fo Y Gv (.tup [dx.D ((fI s).getD fq),.bool (fI s).isSome]) [.str s]:=by
 show ca _ _ _ (⟨true,.str s⟩::.un::.un::.un::.un::.un::.un::.un::.un::.un::.un::.un::.un::.un::.un::.un::.un::.un::.un::.un::.un::.un::.un::.un::.un::.un::.un::.un::.un::.un::.un::.un::.un::[]) ⟨0,[]⟩;have hol:=HI s;refine av ?_;refine aK ?_;refine bq (dx.D ⟨9,0,kB⟩) ?_;refine az ?_;refine aQ (dx.D ⟨9,0,kB⟩) (he:=aT) ?_;refine bI ?_;refine cZ [(.int _ _),(.int _ _),(.int _ _),(.int _ _),(.int _ _),(.int _ _),(.int _ _),(.int _ _)] ?_;refine az ?_;intro u0;refine aA ?_;refine nK hm (ι:=Unit) (fun _=>(⟨true,.str s⟩::⟨true,.ptr 0 7 0 0⟩::.un::.un::.un::.un::.un::.un::.un::⟨true,.ptr 3 7 0 0⟩::⟨true,.str (cU s).2⟩::.un::.un::.un::.un::.un::.un::.un::.un::.un::.un::.un::.un::.un::.un::.un::.un::.un::.un::.un::.un::.un::.un::[])) (fun _=>[(0,.buf 7 [dx.D fq]),(3,.buf 7 [dx.D ⟨(cU s).1,0,kB⟩])]) 40 (fun _=>True) ?_ ?_
 .refine eF 7 ?_;refine sc hm (ι:=Nat) (fun i=>(⟨true,.str s⟩::⟨true,.ptr 0 7 0 0⟩::.un::⟨true,.int .i64 (i:Nat)⟩::⟨true,.int .i64 8⟩::.un::⟨true,.sl 1 (opsL.map (D.int .i64))⟩::.un::.un::⟨true,.ptr 3 7 0 0⟩::⟨true,.str s⟩::.un::.un::.un::.un::.un::.un::.un::.un::.un::.un::.un::.un::.un::.un::.un::.un::.un::.un::.un::.un::.un::.un::[])) (fun i=>[(0,.buf 7 [dx.D fq]),(3,.buf 7 [dx.D ⟨9,0,kB⟩])]) 10 (fun i=>i<=8/\qP s 0=qP s i) (fun i=>8-i) 0 ⟨ae,rfl⟩ (fP [(0,0),(3,3)]) ?_;rintro i ⟨hi,hr⟩;have hn8:opsL.length=8:=rfl;refine aG ?_;refine dR (fun hc0=>?_) fun hc0=>?_
  .refine lV ?_;refine aq (hc:=h957 opsL[i]!) ?_;refine aq (hc:=h956 s (c7 opsL[i]!)) ?_;refine az ?_;refine wp_cond (fun hc1=>?_) (fun hc1=>?_)
   .have hbl:(c7 opsL[i]!).length<=s.length:=by simp only[tY,bt,a8]at hc1;exact hc1.1
    have hro:cU s=(opsL[i]!,s.drop (c7 opsL[i]!).length):=by simp only[cU,hr,M0 (show i<8 by omega) hc1]
    refine aG ?_;refine aQ (dx.D ⟨opsL[i]!,0,kB⟩) (he:=aT) ?_;refine aK ?_;refine aq (hc:=h957 opsL[i]!) ?_;refine az ?_;intro u1;refine m3 (c7 opsL[i]!).length (hb:=fun _=>hbl) ?_;refine bh ?_;simp only[hro];exact⟨(),trivial,(fP [(0,0),(3,3)])⟩
   skip
   refine bI ?_;exact⟨i+1,⟨ae,by rw[hr,M1 ae hc1]⟩,ae,(fP [(0,0),(3,3)])⟩
  refine aG ?_;have hro:cU s=(9,s):=by simp only[cU,hr,JP (show 8<=i by omega)]
  simp only[hro];exact⟨(),trivial,(fP [(0,0),(3,3)])⟩
 .rintro _-
  refine aK ?_;intro u2;refine aA ?_;refine nK hm (ι:=Unit) (fun _=>(⟨true,.str s⟩::⟨true,.ptr 0 7 0 0⟩::.un::.un::.un::.un::.un::.un::.un::⟨true,.ptr 3 7 0 0⟩::⟨true,.str (ec s).1⟩::.un::.un::.un::.un::.un::.un::.un::.un::.un::.un::.un::.un::.un::.un::.un::.un::.un::.un::.un::.un::.un::.un::[])) (fun _=>[(0,.buf 7 [dx.D fq]),(3,.buf 7 [dx.D ⟨(cU s).1,0,{kB with pre:=(ec s).2}⟩])]) 60 (fun _=>True) ?_ ?_
  .refine sc hm (ι:=Nat) (fun i=>(⟨true,.str s⟩::⟨true,.ptr 0 7 0 0⟩::.un::.un::.un::.un::.un::.un::.un::⟨true,.ptr 3 7 0 0⟩::⟨true,.str (cU s).2⟩::⟨true,.int .i64 (i:Nat)⟩::⟨true,.int .i64 ((cU s).2.length:Nat)⟩::.un::.un::.un::.un::.un::.un::.un::.un::.un::.un::.un::.un::.un::.un::.un::.un::.un::.un::.un::.un::[])) (fun i=>[(0,.buf 7 [dx.D fq]),(3,.buf 7 [dx.D ⟨(cU s).1,0,kB⟩])]) 43 (fun i=>i<=(cU s).2.length/\ec s=ix (cU s).2 i) (fun i=>(cU s).2.length-i) 0 ⟨ae,rfl⟩ (fP [(0,0),(3,3)]) ?_;rintro i ⟨hi,hr⟩;refine aG ?_;refine dR (fun hc2=>?_) fun hc2=>?_
   .refine jD ?_;refine wp_cond (fun hc3=>?_) (fun hc3=>?_)
    .simp only[a8]at hc3;have hpr:ec s=((cU s).2.take i,(cU s).2.drop (i+1)):=by rw[hr,Nj ae hc3]
     refine aK ?_;refine m3 (i+1) ?_;refine aA ?_;refine aQ (dx.D ⟨(cU s).1,0,{kB with pre:=(cU s).2.drop (i+1)}⟩) (he:=aT) ?_;refine aK ?_;refine rZ _ ?_;refine bh ?_;simp only[hpr];exact⟨(),trivial,(fP [(0,0),(3,3)])⟩
    try simp only[ed]at hc3
    refine bI ?_;exact⟨i+1,⟨ae,by rw[hr,Nk ae hc3]⟩,ae,(fP [(0,0),(3,3)])⟩
   refine aG ?_;have hpr:ec s=((cU s).2,[]):=by rw[hr,Kf ae]
   simp only[hpr];exact⟨(),trivial,(fP [(0,0),(3,3)])⟩
  .rintro _-
   have hpl:(ec s).1.length<=s.length/\(ec s).2.length<=s.length:=by
    have:=Bw (cU s).2;exact⟨by show(ix _ 0).1.length<=_;omega,by show(ix _ 0).2.length<=_;omega⟩
   have hlp:1<=(ai (ec s).1 46).length:=fm _ _ _;have hln:=dE (ec s).1 46;refine aA ?_;refine aq (hc:=h533 (ec s).1 46 ae) ?_;refine cH ?_;refine nK hm (ι:=Unit) (fun _=>(⟨true,.str s⟩::⟨true,.ptr 0 7 0 0⟩::.un::.un::.un::.un::.un::.un::.un::⟨true,.ptr 3 7 0 0⟩::.un::.un::.un::.un::.un::.un::.un::⟨true,.sl 1 ((dM s).map D.str)⟩::.un::.un::.un::.un::.un::.un::.un::.un::.un::.un::.un::.un::.un::.un::.un::[])) (fun _=>[(0,.buf 7 [dx.D fq]),(3,.buf 7 [dx.D ⟨(cU s).1,0,{kB with pre:=(ec s).2}⟩])]) 80 (fun _=>lR s) ?_ ?_
   .refine wp_cond (fun hc4=>?_) (fun hc4=>?_)
    .try simp only[ed]at hc4
     refine bm ?_;intro u3;refine az ?_;refine cr ((ai (ec s).1 46).length-1) (hj:=fun _=>ae) (hb:=fun _=>ae) ?_;refine aG ?_;refine ax (fun hc5=>?_) (fun hc5=>?_)
     .simp only[bP,bC]at hc5;have hno:=ji (s:=s) (fun h=>hc5 (h.1 hc4));refine aA ?_;refine bq (dx.D fq) ?_;refine bm ?_;refine cv (aZ ?_ (ar D.bool ?_));all_goals (rw[hno];rfl)
     simp only[cL,a8]at hc5;have hst:lR s:=fun _=>hc5
     have hrl:dM s=(ai (ec s).1 46).take ((ai (ec s).1 46).length-1):=aw hc4;refine bm ?_;intro u4;refine az ?_;refine oU ((ai (ec s).1 46).length-1) (hj:=fun _=>ae) (hb:=fun _=>ae) ?_;refine aG ?_;simp only[hrl];exact⟨(),hst,(fP [(0,0),(3,3)])⟩
    simp only[bC]at hc4;have hst:lR s:=fun h=>absurd h hc4
    have hrl:dM s=(ai (ec s).1 46):=aj hc4;refine aA ?_;simp only[hrl];exact⟨(),hst,(fP [(0,0),(3,3)])⟩
   .rintro _ hst;refine aK ?_;intro u5;refine aA ?_;refine ax (fun hc6=>?_) (fun hc6=>?_)
    .simp only[a8]at hc6;have hno:=ji (s:=s) (fun h=>by have:=h.2.1;simp only[iw,bt,a8]at this;omega);refine aA ?_;refine bq (dx.D fq) ?_;refine aK ?_;refine cv (aZ ?_ (ar D.bool ?_));all_goals (rw[hno];rfl)
    try simp only[ed]at hc6
    refine aK ?_;intro u6;refine az ?_;refine aQ (dx.D ⟨(cU s).1,((dM s).length:Nat),{kB with pre:=(ec s).2}⟩) (he:=aT) ?_;refine bm ?_;intro u7;refine aA ?_;have hb:iw (dM s)=dz (fun i=>gB (dM s)[i]!) 0 (dM s).length:=by simp only[iw];rw[cK ae];rfl
    refine bO hm (ι:=Nat) (fun i=>(⟨true,.str s⟩::⟨true,.ptr 0 7 0 0⟩::.un::.un::.un::.un::.un::.un::.un::⟨true,.ptr 3 7 0 0⟩::.un::.un::.un::.un::.un::.un::.un::.un::.un::.un::⟨true,.int .i64 (i:Nat)⟩::⟨true,.int .i64 ((dM s).length:Nat)⟩::.un::⟨true,.sl 1 ((dM s).map D.str)⟩::.un::.un::.un::.un::.un::.un::.un::.un::.un::[])) (fun i=>[(0,.buf 7 [dx.D fq]),(3,.buf 7 [dx.D ⟨(cU s).1,((dM s).length:Nat),{Ew (dM s) i with pre:=(ec s).2}⟩])]) 90 (fun i=>i<=(dM s).length/\iw (dM s)=dz (fun i=>gB (dM s)[i]!) i (dM s).length) (fun i=>(dM s).length-i) 0 ⟨ae,hb⟩ (fP [(0,0),(3,3)]) ?_;rintro i ⟨hi,hr⟩;refine aG ?_;refine dR (fun hc7=>?_) fun hc7=>?_
    .refine fJ ?_;refine aq (hc:=h658 (dM s)[i]!) ?_;refine fJ ?_;refine ax (fun hc8=>?_) (fun hc8=>?_)
     .simp only[bP]at hc8;have hno:=ji (s:=s) (fun h=>by have:=h.2.1;rw[hr,bc ae,hc8]at this;cases this);refine aA ?_;refine bq (dx.D fq) ?_;refine bh ?_;refine cv (aZ ?_ (ar D.bool ?_));all_goals (rw[hno];rfl)
     simp only[cL]at hc8;refine ez ?_;refine wp_cond (fun hc9=>?_) (fun hc9=>?_)
     .simp only[a8]at hc9;have hi0:i=0:=ae;refine aK ?_;refine aQ (dx.D ⟨(cU s).1,((dM s).length:Nat),{Ew (dM s) (i+1)with pre:=(ec s).2}⟩) (he:=by subst hi0;exact rfl) ?_;refine cH ?_;exact⟨i+1,⟨ae,by rw[hr,bc ae,hc8];rfl⟩,ae,(fP [(0,0),(3,3)])⟩
     try simp only[ed]at hc9
     refine aK ?_;refine wp_cond (fun hc10=>?_) (fun hc10=>?_)
     .simp only[a8]at hc10;have hi0:i=1:=ae;refine aK ?_;refine aQ (dx.D ⟨(cU s).1,((dM s).length:Nat),{Ew (dM s) (i+1)with pre:=(ec s).2}⟩) (he:=by subst hi0;exact rfl) ?_;refine cH ?_;exact⟨i+1,⟨ae,by rw[hr,bc ae,hc8];rfl⟩,ae,(fP [(0,0),(3,3)])⟩
     simp only[bC]at hc10;have hi0:i=2:=ae;refine aK ?_;refine aQ (dx.D ⟨(cU s).1,((dM s).length:Nat),{Ew (dM s) (i+1)with pre:=(ec s).2}⟩) (he:=by subst hi0;exact rfl) ?_;refine cH ?_;exact⟨i+1,⟨ae,by rw[hr,bc ae,hc8];rfl⟩,ae,(fP [(0,0),(3,3)])⟩
    refine aK ?_;obtain rfl:i=(dM s).length:=ae;have hok:iw (dM s)=true:=by rw[hr,c8 ae]
    have hsm:(dX s).v.sm:=⟨by show(ec s).2.length<=_;omega,by show([]:ak).length<=_;simp⟩;refine dj (d:=dx.D (dX s)) ?_;refine aq (hc:=h827 (dX s) hsm) ?_;refine aA ?_;refine dj (d:=dx.D (dX s)) ?_;refine er (hc:=fun _=>h828 (dX s) hsm) ?_;refine aK ?_;refine ax (fun hc11=>?_) (fun hc11=>?_)
    .simp only[dk,bP,bC]at hc11;have hno:=ji (s:=s) (fun h=>by rcases hc11 with h1|h1;rw[h.2.2.1]at h1;cases h1;exact h1 h.2.2.2);refine aA ?_;refine bq (dx.D fq) ?_;refine aK ?_;refine cv (aZ ?_ (ar D.bool ?_));all_goals (rw[hno];rfl)
    simp only[dT,cL,a8]at hc11;have hyes:fI s=some (dX s):=by unfold fI;rw[aw ⟨hst,hok,hc11⟩]
    refine aA ?_;refine dj (d:=dx.D (dX s)) ?_;refine aK ?_;refine cv (aZ ?_ (ar D.bool ?_));all_goals (rw[hyes];rfl)
def F9 (T:List D->D->Prop):Prop:=∀(s:ak),(s.length<=1048576)->T [.str s] (.tup [dx.D ((fI s).getD fq),.bool (fI s).isSome])
def R0 (Y:Ctx):Prop:=F9 (ch Y 819)
def CN:aN:=⟨1,9,[⟨1,some (7,true)⟩,⟨2,none⟩],[[.a,.a,.a,.a,.a,.a,.a],[.a]],(sq (rg [gb 7 (.c (.agg [.int .i64 0,.int .i64 0,.int .i64 0,.int .i64 0,.int .i64 0,.str [],.str []])),gm b7] [(1,0),(2,1)]) (sq (sq (rg [gm s0,gx 819 [l0] di,gm l1,ge l2 0,ge l2 1,gb 7 (.c (.agg [.int .i64 0,.int .i64 0,.int .i64 0,.int .i64 0,.int .i64 0,.str [],.str []])),gt 7 l5 l3,gm l4] [(5,5),(3,7)]) (sq (r1 [gm s3] 4 0) (.cond s4 (sq (r1 [gk 7 true s5,gt 7 s1 l0,gm b7] 2 2) .ret) .skip))) (sq (sq (rg [gm s0,ay (cs [94]) l0,gx 819 [l1] di,gm l2,ge l3 0,ge l3 1,gb 7 (.c (.agg [.int .i64 0,.int .i64 0,.int .i64 0,.int .i64 0,.int .i64 0,.str [],.str []])),gt 7 l6 l4,gm l5] [(8,6),(6,8)]) (sq (r1 [gm s6] 7 0) (.cond s7 (sq (r1 [gk 7 true s8,gt 7 s1 l0,gm b7] 2 2) .ret) .skip))) (sq (r1 [gn (.build [.int .i64 0,.int .i64 0,.int .i64 0,.int .i64 0,.int .i64 0,.str [],.str []] []),gt 7 s1 l0,gm Al] 2 2) .ret))))⟩
def w682 {Y:Ctx}(hm:(Y.at 0).cQ)(h819:R0 Y)(s:ak)  (hp0:s.length<=1048575):fo Y CN (.tup [dx.D ((kH s).getD fq),.int .i64 (if(kH s).isSome=true then 0 else 6)]) [.str s]:=by
 show ca _ _ _ [⟨_,_⟩,_,_,_,_,_,_,_,_] _;refine av ?_;refine bh ?_;refine aq (hc:=h819 s ae) ?_;refine az ?_;refine hX (dx.D _) ?_;refine aA ?_;refine aQ (dx.D ((fI s).getD fq)) (he:=aT) ?_;refine bh ?_;refine dR (fun hc0=>?_) fun hc0=>?_
 .refine aA ?_;refine dj (d:=dx.D ((fI s).getD fq)) ?_;refine aK ?_;refine cv (aZ ?_ (ar (D.int .i64) ?_));all_goals (have hn:kH s=fI s:=aw hc0;rw[hn];first|rfl|simp only[hc0,aP])
 refine aK ?_;refine eB (hb:=fun _=>cX) ?_;refine aq (hc:=h819 (94::s) cX) ?_;refine az ?_;refine hX (dx.D _) ?_;refine aA ?_;refine aQ (dx.D ((fI (94::s)).getD fq)) (he:=aT) ?_;refine bh ?_;refine dR (fun hc1=>?_) fun hc1=>?_
 .refine aA ?_;refine dj (d:=dx.D ((fI (94::s)).getD fq)) ?_;refine aK ?_;refine cv (aZ ?_ (ar (D.int .i64) ?_));all_goals (have hn:kH s=fI (94::s):=(by simp only[kH,hc0,fX,aM]);rw[hn];first|rfl|simp only[hc1,aP])
 refine aA ?_;refine bq (dx.D fq) ?_;refine aK ?_;refine cv (aZ ?_ (ar (D.int .i64) ?_));all_goals (have hn:kH s=none:=(by simp only[kH,hc0,fX,aM];exact Option.not_isSome_iff_eq_none.1 (by rw[hc1];simp));rw[hn];rfl)
def F0 (T:List D->D->Prop):Prop:=∀(s:ak),(s.length<=1048575)->T [.str s] (.tup [dx.D ((kH s).getD fq),.int .i64 (if(kH s).isSome=true then 0 else 6)])
def RS (Y:Ctx):Prop:=F0 (ch Y 682)
def Gb (T:List D->D->Prop):Prop:=∀(r:Co),(tN r)->T [lP r] (.bool (ui r))
def F4 (T:List D->D->Prop):Prop:=∀(r:Co),(tN r)->T [lP r] (.str (BN r))
def F3 (T:List D->D->Prop):Prop:=∀(s:ak),(s.length<=1048576)->T [.str s] (.tup [lP (kd s).1,.int .i64 (kd s).2])
def FU (T:List D->D->Prop):Prop:=∀(s:ak),(s.length<=1048576)->T [.str s] (.bool (im s))
def DJ:aN:=⟨1,19,[⟨1,none⟩,⟨2,none⟩],iZ,(sq (rg [gb 1 s0,gm cse,gm eS] [(3,0),(1,1),(2,2)]) (sq (sq (r1 [gf 0 s3,gd l0,gl l1,bo l2 cN,gm l3,mh 4 0 s3,mg 4 l5,dc 4 (.len l6),dc 4 (ew l7 Al),gR l4 l8] 4 9) (.cond s4 (sq (rg [gm cse,gm eS] [(1,0),(2,1)]) .ret) .skip)) (sq (r1 [gm (.c (.au))] 18 0) (sq (sq (rg [gf 0 s3,gd l0,gl l1,gm b7] [(8,1),(6,2),(5,3)]) (.block 0 (.loop (sq (r1 [bo s5 s6] 7 0) (sq (jG s7 0) (sq (.block 1 (sq (r1 [ga 1 s8 s5,gd l0,gm l1] 9 2) (sq (sq (r1 [gm s9,gl l0,bo l1 cN,gm l2,fZ 3 s9,dc 3 (.len l4),dc 3 (ew l5 Al),gR l3 l6] 10 7) (.cond mL (sq (rg [gm cse,gm eS] [(1,0),(2,1)]) .ret) .skip)) (sq (r1 [gm (.c (.au))] 17 0) (sq (sq (rg [gm s9,gl l0,gm b7] [(14,0),(12,1),(11,2)]) (.block 2 (.loop (sq (r1 [bo pU m6] 13 0) (sq (jG rq 2) (sq (.block 3 (sq (r1 [ga 7 rr pU,gk 7 true l0,gb 7 (.c (.agg [.int .i64 0,.int .i64 0,.int .i64 0,.int .i64 0,.int .i64 0,.str [],.str []])),gt 7 l2 l1] 15 2) (sq (sq (r1 [gk 7 true tP,gx 827 [l0] PF,p8 l1] 16 2) (.cond An (sq (rg [gm cse,gm eS] [(1,0),(2,1)]) .ret) .skip)) (r1 [gm yz,gk 7 true tP,gx 828 [l1] PF,gn (.bsl 1 (.str []) 1 [(0,l2)]),gn (.app 1 l0 l3),gm l4] 17 5)))) (r1 [ay pU cN,gm l0] 11 1))))))) (r1 [gm yA,gm yz,gx 242 [l1,(cs [44,32])] [[.sl 1 [.a]],[.a]],gn (.bsl 1 (.str []) 1 [(0,l2)]),gn (.app 1 l0 l3),gm l4] 18 5)))))) (r1 [ay s5 cN,gm l0] 5 1))))))) (sq (rg [gm yA,gx 242 [l0,(cs [32,124,124,32])] [[.sl 1 [.a]],[.a]],gm l1,gm xc] [(1,2),(2,3)]) .ret)))))⟩
def w684 (h242:Iq Y)(h827:LA Y)(h828:O6 Y)(r:Co)  (hp0:tN r):fo Y DJ (.tup [.str (if ny r=true then KK r else []),.bool (ny r)]) [lP r]:=by
 show ca _ _ _ [⟨_,_⟩,_,_,_,_,_,_,_,_,_,_,_,_,_,_,_,_,_,_] _;refine av ?_;refine ez ?_;intro u0;refine aK ?_;refine nk ?_;refine aG ?_;refine dR (fun hc0=>?_) fun hc0=>?_
 .refine bh ?_;refine cv (aZ (ar D.str ?_) (ar D.bool ?_));all_goals
   have hq:ny r=false:=by
    simp only[ny];rcases hc0 with h|h
    .rw[dJ ae];rfl
    .rw[dJ (by omega:¬r.length<=6),Bool.and_false];rfl
   simp[hq]
 refine ez ?_;intro u1;refine aA ?_;have hb:ny r=dz (fun i=>nM r[i]!) 0 r.length:=by simp only[ny];rw[cK ae,cK ae];rfl
 refine bO hm (ι:=Nat) (fun i=>[.un,.un,.un,⟨true,.ptr 0 1 0 0⟩,.un,⟨true,.int .i64 (i:Nat)⟩,⟨true,.int .i64 (r.length:Nat)⟩,.un,⟨true,.sl 1 (r.map ry)⟩,.un,.un,.un,.un,.un,.un,.un,.un,.un,⟨true,.own 1 1 0 ((r.map sr).take i).length⟩]) (fun i=>[(0,.buf 1 [lP r]),(1,.buf 1 (((r.map sr).take i).map D.str))]) 18 (fun i=>i<=r.length/\ny r=dz (fun i=>nM r[i]!) i r.length/\1<=r.length/\r.length<=6) (fun i=>r.length-i) 0 ⟨ae,hb,ae,ae⟩ (aW.to [(0,0)] ah ah (by repeat(first|exact dr.nil|refine dr.un ?_|refine dr.eq ah ?_|refine dr.nl ah ah ?_|refine dr.ni (Or.inr ⟨_,_,_,rfl⟩) ?_)) (by refine jS ?_;refine bg.mt ah ah ah ah ?_;exact bg.nil)) ?_;rintro i ⟨hi,hr,hr1,hr6⟩;have hti:((r.map sr).take i).length<=i:=by rw[fW];omega
 refine aG ?_;refine dR (fun hc1=>?_) fun hc1=>?_
 .refine fJ ?_;intro u2;refine aG ?_;refine nk ?_;refine aG ?_;refine dR (fun hc2=>?_) fun hc2=>?_
  .refine cH ?_;refine cv (aZ (ar D.str ?_) (ar D.bool ?_));all_goals
    have hq:ny r=false:=by
     rw[hr,bc ae];have:nM r[i]! =false:=by
      simp only[nM];rcases hc2 with h|h
      .rw[dJ ae];rfl
      .rw[dJ (by omega:¬r[i]!.length<=6),Bool.and_false];rfl
     rw[this];rfl
    simp[hq]
  refine cH ?_;intro u3;refine aA ?_;have hal:1<=r[i]!.length/\r[i]!.length<=6:=ae;have hkb:nM r[i]! =dz (fun k=>lX r[i]![k]!) 0 r[i]!.length:=by simp only[nM];rw[cK ae,cK ae];rfl
  refine bO hm (ι:=Nat) (fun k=>[.un,.un,.un,⟨true,.ptr 0 1 0 0⟩,.un,⟨true,.int .i64 (i:Nat)⟩,⟨true,.int .i64 (r.length:Nat)⟩,.un,⟨true,.sl 1 (r.map ry)⟩,.un,.un,⟨true,.int .i64 (k:Nat)⟩,⟨true,.int .i64 (r[i]!.length:Nat)⟩,.un,⟨true,.sl 7 (r[i]!.map dx.D)⟩,.un,.un,⟨true,.own 2 1 0 ((r[i]!.map eA).take k).length⟩,⟨true,.own 1 1 0 ((r.map sr).take i).length⟩]) (fun k=>[(0,.buf 1 [lP r]),(1,.buf 1 (((r.map sr).take i).map D.str)),(2,.buf 1 (((r[i]!.map eA).take k).map D.str))]) 34 (fun k=>k<=r[i]!.length/\nM r[i]! =dz (fun k=>lX r[i]![k]!) k r[i]!.length) (fun k=>r[i]!.length-k) 0 ⟨ae,hkb⟩ (aW.to [(0,0),(1,1)] ah ah (by repeat(first|exact dr.nil|refine dr.un ?_|refine dr.eq ah ?_|refine dr.nl ah ah ?_|refine dr.ni (Or.inr ⟨_,_,_,rfl⟩) ?_)) (by refine jS ?_;refine jS ?_;refine bg.mt ah ah ah ah ?_;exact bg.nil)) ?_;rintro k ⟨hk,hkr⟩;have htk:((r[i]!.map eA).take k).length<=k:=by rw[fW];omega
  refine aG ?_;refine dR (fun hc3=>?_) fun hc3=>?_
  .refine aK ?_;first|refine b6 (v:=(dx.D _)) ?_|refine jx (v:=(dx.D _)) ?_
   refine az ?_;refine aQ (dx.D r[i]![k]!) (he:=aT) ?_;refine aG ?_;have hlo:=hp0 r[i]! (bL ae) _ (bL (show k<r[i]!.length by omega));refine az ?_;refine aq (hc:=h827 r[i]![k]! hlo.sm) ?_;refine aA ?_;refine ax (fun hc4=>?_) (fun hc4=>?_)
   .simp only[bP]at hc4;refine lV ?_;refine cv (aZ (ar D.str ?_) (ar D.bool ?_));all_goals
     have hq:ny r=false:=by rw[hr,bc ae,hkr,bc ae,hc4];rfl
     simp[hq]
   simp only[cL]at hc4;refine aK ?_;refine aq (hc:=h828 r[i]![k]! hlo.sm) ?_;refine cZ [(.str _)] ?_;refine ez ?_;have hq:=jX eA r[i]! (show k<r[i]!.length by omega);rw[<-hq];exact⟨k+1,⟨ae,by rw[hkr,bc ae,hc4];rfl⟩,ae,(aW.to [(0,0),(1,1),(46,2)] ah ah fF (by refine jS ?_;refine jS ?_;refine bg.nl 46 ah ah ah eL ?_;exact bg.nil))⟩
  refine aG ?_;obtain rfl:k=r[i]!.length:=ae;have hok:nM r[i]! =true:=by rw[hkr,c8 ae]
  rw[eM (show(r[i]!.map eA).length<=r[i]!.length by rw[bz];exact aF _)];have hj:∀t∈(r[i]!.map eA),t.length<=2097200:=fun t ht=>by
   obtain⟨c,hc,rfl⟩:=eW.1 ht;exact cC (AJ (hp0 r[i]! (bL ae) c hc)) aE
  refine aA ?_;refine aq (hc:=h242 (r[i]!.map eA) [44,32] (by rw[bz];omega) aJ hj) (ha:=fun _=>ar (fun d=>[d,D.str [44,32]]) (uS (q:=D.str) (fun _=>rfl) ah)) (hp:=fun _=>⟨se (q:=D.str) (fun _=>rfl) ah,rfl,trivial⟩) ?_;refine cZ [.str (sr r[i]!)] ?_;refine ez ?_;have hq:=jX sr r (show i<r.length by omega);rw[<-hq];exact⟨i+1,⟨ae,by rw[hr,bc ae,hok];rfl,hr1,hr6⟩,ae,(aW.to [(0,0),(39,1)] ah ah fF (by refine jS ?_;refine bg.nl 39 ah ah ah eL ?_;exact bg.nil))⟩
 refine aG ?_;obtain rfl:i=r.length:=ae;have hfw:ny r=true:=by rw[hr,c8 ae]
 rw[eM (show(r.map sr).length<=r.length by rw[bz];exact aF _)];have hj:∀t∈(r.map sr),t.length<=2097200:=fun t ht=>by
  obtain⟨a,ha,rfl⟩:=eW.1 ht;obtain⟨i,hi,rfl⟩:=List.mem_iff_getElem.1 ha;have h1:=I7 hfw hi;rw[show r[i]! =r[i]by simp[hi]]at h1;exact cC (Iz (hp0 _ ha) (Gp h1).2) aE
 refine az ?_;refine aq (hc:=h242 (r.map sr) [32,124,124,32] (by rw[bz];omega) aJ hj) (ha:=fun _=>ar (fun d=>[d,D.str [32,124,124,32]]) (uS (q:=D.str) (fun _=>rfl) ah)) (hp:=fun _=>⟨se (q:=D.str) (fun _=>rfl) ah,rfl,trivial⟩) ?_;refine aK ?_;refine cv (aZ (ar D.str ?_) (ar D.bool ?_));all_goals (simp only[hfw,aP];first|done|rfl)
def F2 (T:List D->D->Prop):Prop:=∀(r:Co),(tN r)->T [lP r] (.tup [.str (if ny r=true then KK r else []),.bool (ny r)])
def Lz (Y:Ctx):Prop:=F2 (ch Y 684)
def HR:aN:=⟨1,5,mJ,di,(sq (rg [gb 1 s0,gm eS] [(2,0),(1,1)]) (sq (rg [gk 1 true s2,gx 684 [l0] [[.sl 1 [.sl 7 [.a,.a,.a,.a,.a,.a,.a]]]],gm l1,ge l2 0,ge l2 1,gm l3,gm l4] [(4,5),(3,6)]) (sq (r1 [gm s3,gm l0,gmt 1 s4,dC 1 (.lenS l2),dC 1 (oc l3 (i6 96)),iM l1 l4,gm l5] 1 6) .ret)))⟩
def w685 {Y:Ctx}(hm:(Y.at 0).cQ)(h684:Lz Y)(r:Co)  (hp0:tN r):fo Y HR (.bool (ui r)) [lP r]:=by
 show ca _ _ _ [⟨_,_⟩,_,_,_,_] _;refine av ?_;refine bm ?_;refine aq (hc:=h684 r hp0) ?_;refine lV ?_;refine nk ?_;refine bm ?_;refine cz ?_;cases hf:ny r with
 |false=>simp[ui,hf]
 |true=>simp only[ui,hf,aP,iF];exact tm.2 ae
def RV (Y:Ctx):Prop:=Gb (ch Y 685)
def BT:aN:=⟨1,6,mJ,di,(sq (rg [gb 1 s0,gm cse] [(2,0),(1,1)]) (sq (sq (rg [gk 1 true s2,gx 684 [l0] [[.sl 1 [.sl 7 [.a,.a,.a,.a,.a,.a,.a]]]],gm l1,ge l2 0,ge l2 1,gm l3,gm l4] [(4,5),(3,6)]) (sq (r1 [gm s3,gm l0,gmt 1 s4,dC 1 (.lenS l2),dC 1 (oc l3 (i6 96)),iM l1 l4] 5 5) (.cond s5 (sq (r1 [gm s4,gm l0] 1 1) .ret) .skip))) (CW cse)))⟩
def w496 {Y:Ctx}(hm:(Y.at 0).cQ)(h684:Lz Y)(r:Co)  (hp0:tN r):fo Y BT (.str (BN r)) [lP r]:=by
 show ca _ _ _ [⟨_,_⟩,_,_,_,_,_] _;refine av ?_;refine bh ?_;refine aq (hc:=h684 r hp0) ?_;refine fJ ?_;refine nk ?_;refine aG ?_;refine ax (fun hc0=>?_) (fun hc0=>?_)
 .simp only[bt,a8]at hc0;refine bh ?_;refine du ?_;have hm:ui r=true:=by simp only[ui,hc0.1,iF,a8];have:=hc0.2;rw[hc0.1,aw rfl]at this;omega
  simp only[BN,hm,hc0.1,aP]
 skip
 refine bm ?_;refine du ?_;have hm:ui r=false:=by
  cases hf:ny r with
  |false=>simp[ui,hf]
  |true=>
   rw[hf]at hc0;simp only[aP,iF,bC]at hc0;simp only[ui,hf,iF,bC];omega
 simp[BN,hm]
def OZ (Y:Ctx):Prop:=F4 (ch Y 496)
def Ck (T:List D->D->Prop):Prop:=∀(s:ak),(s.length<=1048576)->T [.str s,.str [124,124]] (.sl 1 ((a7 s []).map D.str))
def NS (Y:Ctx):Prop:=Ck (ch Y 124)
def F1 (T:List D->D->Prop):Prop:=∀(s:ak) (b:UInt8),(b=32)->(s.length<=1048576)->T [.str s,.str [b]] (.str (gF s))
def RU (Y:Ctx):Prop:=F1 (ch Y 683)
def Fb (T:List D->D->Prop):Prop:=∀(r:Rec),(x8 r/\m4 r)->T [Rec.D r] (.str (jm r))
def OI (Y:Ctx):Prop:=Fb (ch Y 215)
def BS:aN:=⟨1,22,[⟨1,some (1,true)⟩,⟨2,none⟩],[[.sl 1 [.sl 7 [.a,.a,.a,.a,.a,.a,.a]]],[.a]],(sq (rg [gb 1 (.c (.agg [.au])),gm b7] [(1,0),(2,1)]) (sq (sq (r1 [gm s0,uE l0,eI l1 (i6 96)] 3 2) (.cond s3 (sq (r1 [gn (.build [.au] []),gt 1 s1 l0,gm k9] 2 2) .ret) .skip)) (sq (r1 [gb 1 (.c (.agg [.au]))] 18 0) (sq (sq (rg [gm s0,gx 124 [l0,(cs [124,124])] iZ,gl l1,gm b7] [(7,1),(5,2),(4,3)]) (.block 0 (.loop (sq (r1 [bo s4 s5] 6 0) (sq (jG s6 0) (sq (.block 1 (sq (r1 [ga 1 s7 s4,gd l0,gm l1] 8 2) (sq (r1 [gm (.c (.au))] 16 0) (sq (sq (rg [gm s8,gx 124 [l0,(cs [44])] iZ,gl l1,gm b7] [(12,1),(10,2),(9,3)]) (.block 2 (.loop (sq (r1 [bo s9 mL] 11 0) (sq (jG pU 2) (sq (.block 3 (sq (r1 [ga 1 m6 s9,gd l0,gm l1] 13 2) (sq (rg [gm rq,gx 683 [l0,(cs [32])] iZ,gx 682 [l1] di,gm l2,ge l3 0,ge l3 1,gb 7 (.c (.agg [.int .i64 0,.int .i64 0,.int .i64 0,.int .i64 0,.int .i64 0,.str [],.str []])),gt 7 l6 l4,gm l5] [(17,6),(14,8)]) (sq (sq (r1 [gm rr,dd l0 b7] 15 1) (.cond tP (sq (r1 [gn (.build [.au] []),gt 1 s1 l0,gm Al] 2 2) .ret) .skip)) (r1 [gm An,gk 7 true yz,gn (.bsl 7 (.agg [.int .i64 0,.int .i64 0,.int .i64 0,.int .i64 0,.int .i64 0,.str [],.str []]) 1 [(0,l1)]),gn (.app 7 l0 l2),gm l3] 16 4))))) (r1 [ay s9 cN,gm l0] 9 1))))))) (rg [gf 0 yA,gd l0,gm An,gn (.bsl 1 (.au) 1 [(0,l2)]),gn (.app 1 l1 l3),gf 0 yA,gt 1 l5 l4] []))))) (r1 [ay s4 cN,gm l0] 4 1))))))) (sq (sq (r1 [gk 1 true yA,gx 684 [l0] [[.sl 1 [.sl 7 [.a,.a,.a,.a,.a,.a,.a]]]],gm l1,ge l2 0,ge l2 1,gm l3,gm l4] 19 6) (sq (r1 [gm HQ,p8 l0] 20 1) (.cond DI (sq (r1 [gn (.build [.au] []),gt 1 s1 l0,gm Al] 2 2) .ret) .skip))) (sq (sq (r1 [gk 1 true yA,gx 685 [l0] [[.sl 1 [.sl 7 [.a,.a,.a,.a,.a,.a,.a]]]],p8 l1] 21 2) (.cond Qt (sq (r1 [gn (.build [.au] []),gt 1 s1 l0,gm k9] 2 2) .ret) .skip)) (sq (r1 [gk 1 true yA,gt 1 s1 l0,gm b7] 2 2) .ret)))))))⟩
def w495 (h124:Il Y)(h682:RS Y)(h683:RU Y)(h684:Lz Y)(h685:RV Y)(h9124:NS Y)(s:ak)  (hp0:s.length<=1048576):fo Y BS (.tup [lP (kd s).1,.int .i64 (kd s).2]) [.str s]:=by
 show ca _ _ _ [⟨_,_⟩,_,_,_,_,_,_,_,_,_,_,_,_,_,_,_,_,_,_,_,_,_] _;have hdl:=nG s [];have hgl:∀i,i<(a7 s []).length->(a7 s [])[i]!.length<=s.length:=fun i hi=>by
  have:=hdl.2 _ (bL hi);simpa using this
 refine av ?_;refine bI ?_;intro u0;refine aA ?_;refine dR (fun hc0=>?_) fun hc0=>?_
 .refine aA ?_;refine ep [.au] ?_;refine aQ (.agg [.au]) (he:=aT) ?_;refine aG ?_;refine cv (aZ ?_ (ar (D.int .i64) ?_));all_goals
   have hq:kd s=([],3):=by
    unfold kd;rw[aw ae]
   rw[hq];first|done|rfl
 refine bI ?_;refine aq (hc:=h9124 s ae) ?_;refine az ?_;intro u1;refine aA ?_;refine bO hm (ι:=Nat) (fun i=>[.un,⟨true,.ptr 0 1 0 0⟩,.un,.un,⟨true,.int .i64 (i:Nat)⟩,⟨true,.int .i64 ((a7 s []).length:Nat)⟩,.un,⟨true,.sl 1 ((a7 s []).map D.str)⟩,.un,.un,.un,.un,.un,.un,.un,.un,.un,.un,⟨true,.ptr 5 1 0 0⟩,.un,.un,.un]) (fun i=>[(0,.buf 1 [.agg [.au]]),(5,.buf 1 [.agg [.own 1 1 0 ((mK s).take i).length]]),(1,.buf 1 (((mK s).take i).map ry))]) 10 (fun i=>i<=(a7 s []).length/\EM s=dz (fun i=>wOK (a7 s [])[i]!) i (a7 s []).length) (fun i=>(a7 s []).length-i) 0 ⟨ae,rfl⟩ (aW.to [(0,0),(5,5)] ah ah fF (by refine jS ?_;refine bg.ni 5 ah ah (by exact⟨_,_,rfl,⟨_,rfl,⟨_,_,rfl,Or.inr ⟨_,_,_,rfl⟩,rfl⟩⟩,rfl⟩) ?_;refine bg.mt ah ah ah ah ?_;exact bg.nil)) ?_;rintro i ⟨hi,hr⟩;have hrt:((mK s).take i).length<=i:=by rw[fW];omega
 refine aG ?_;refine dR (fun hc1=>?_) fun hc1=>?_
 .refine jD ?_;have hgi:=hgl i ae;have hsl:=dE (a7 s [])[i]! 44;have hsp:1<=(ai (a7 s [])[i]! 44).length:=fm _ _ _;refine az ?_;refine aq (v:=.sl 1 ((ai (a7 s [])[i]! 44).map D.str)) (hc:=h124 (a7 s [])[i]! 44 ae) ?_;refine az ?_;intro u2;refine aA ?_;refine bO hm (ι:=Nat) (fun k=>[.un,⟨true,.ptr 0 1 0 0⟩,.un,.un,⟨true,.int .i64 (i:Nat)⟩,⟨true,.int .i64 ((a7 s []).length:Nat)⟩,.un,⟨true,.sl 1 ((a7 s []).map D.str)⟩,.un,⟨true,.int .i64 (k:Nat)⟩,⟨true,.int .i64 ((ai (a7 s [])[i]! 44).length:Nat)⟩,.un,⟨true,.sl 1 ((ai (a7 s [])[i]! 44).map D.str)⟩,.un,.un,.un,⟨true,.own 2 7 0 ((su (a7 s [])[i]!).take k).length⟩,.un,⟨true,.ptr 5 1 0 0⟩,.un,.un,.un]) (fun k=>[(0,.buf 1 [.agg [.au]]),(5,.buf 1 [.agg [.own 1 1 0 ((mK s).take i).length]]),(1,.buf 1 (((mK s).take i).map ry)),(2,.buf 7 (((su (a7 s [])[i]!).take k).map dx.D))]) 19 (fun k=>k<=(ai (a7 s [])[i]! 44).length/\wOK (a7 s [])[i]! =dz (fun k=>(hR (gF (ai (a7 s [])[i]! 44)[k]!)).isSome) k (ai (a7 s [])[i]! 44).length) (fun k=>(ai (a7 s [])[i]! 44).length-k) 0 ⟨ae,rfl⟩ (aW.to [(0,0),(5,5),(1,1)] ah ah (by repeat(first|exact dr.nil|refine dr.un ?_|refine dr.eq ah ?_|refine dr.nl ah ah ?_|refine dr.ni (Or.inr ⟨_,_,_,rfl⟩) ?_)) (by refine jS ?_;refine jS ?_;refine jS ?_;refine bg.mt ah ah ah ah ?_;exact bg.nil)) ?_;rintro k ⟨hk,hwk⟩;have htk:((su (a7 s [])[i]!).take k).length<=k:=by rw[fW];omega
  refine aG ?_;refine dR (fun hc2=>?_) fun hc2=>?_
  .refine cH ?_;have hwl:=ra (a7 s [])[i]! 44 (show k<(ai (a7 s [])[i]! 44).length by omega);have hbl:=xM (ai (a7 s [])[i]! 44)[k]!;refine az ?_;refine aq (hc:=h683 (ai (a7 s [])[i]! 44)[k]! 32 rfl ae) ?_;refine aq (v:=.tup [dx.D ((hR (gF (ai (a7 s [])[i]! 44)[k]!)).getD fq),.int .i64 (if(hR (gF (ai (a7 s [])[i]! 44)[k]!)).isSome=true then 0 else 6)]) (hc:=by rw[<-IV];exact h682 (gF (ai (a7 s [])[i]! 44)[k]!) ae) ?_;refine az ?_;refine hX (dx.D _) ?_;refine aA ?_;refine aQ (dx.D ((hR (gF (ai (a7 s [])[i]! 44)[k]!)).getD fq)) (he:=aT) ?_;refine bI ?_;refine ax (fun hc3=>?_) (fun hc3=>?_)
   .have hsm:(hR (gF (ai (a7 s [])[i]! 44)[k]!)).isSome=false:=by cases hx:(hR (gF (ai (a7 s [])[i]! 44)[k]!)).isSome with|false=>rfl|true=>rw[hx]at hc3;exact absurd hc3 aE
    refine aA ?_;refine ep [.au] ?_;refine aQ (.agg [.au]) (he:=aT) ?_;refine bI ?_;refine cv (aZ ?_ (ar (D.int .i64) ?_));all_goals
     have hq:kd s=([],6):=by
      have hno:EM s=false:=by rw[hr,bc ae,hwk,bc ae,hsm];rfl
      unfold kd;rw[aj ae,aw hno]
     rw[hq];first|done|rfl
   have hsm:(hR (gF (ai (a7 s [])[i]! 44)[k]!)).isSome=true:=by cases hx:(hR (gF (ai (a7 s [])[i]! 44)[k]!)).isSome with|true=>rfl|false=>rw[hx]at hc3;exact absurd hc3 aE
   refine aG ?_;refine dj (d:=dx.D ((hR (gF (ai (a7 s [])[i]! 44)[k]!)).getD fq)) ?_;refine cZ [(dx.D _)] ?_;refine ez ?_;have hq:=jX (fun x=>(hR (gF x)).getD fq) (ai (a7 s [])[i]! 44) (show k<(ai (a7 s [])[i]! 44).length by omega);rw[show(fun x=>(hR (gF x)).getD fq)=fun x=>(hR (gF x)).getD fq from rfl]at hq;have hq:(su (a7 s [])[i]!).take (k+1)=_:=hq;rw[show(su (a7 s [])[i]!).take k++[(hR (gF (ai (a7 s [])[i]! 44)[k]!)).getD fq]=(su (a7 s [])[i]!).take (k+1)from hq.symm];exact⟨k+1,⟨ae,by rw[hwk,bc ae,hsm];rfl⟩,ae,(aW.to [(0,0),(5,5),(1,1),(37,2)] ah ah fF (by refine jS ?_;refine jS ?_;refine jS ?_;refine bg.nl 37 ah ah ah eL ?_;exact bg.nil))⟩
  refine aA ?_;refine eF 2 ?_ (he:=by simp only[kg,hZ,jo,kR,lY,cd,Nat.reduceEqDiff,aP,aM,cA,bY,bQ,cx,cy,bD,bz,aF,bN,aI,reduceCtorEq,aH,aO,Nat.reduceAdd,Nat.reduceLeDiff,uB];exact rfl) (hm:=by simp only[kg,hZ,jo,kR,lY,cd,Nat.reduceEqDiff,aP,aM,cA,bY,bQ,cx,cy,bD,bz,aF,bN,aI,reduceCtorEq,aH,aO,Nat.reduceAdd,Nat.reduceLeDiff,uB];exact rfl);refine az ?_;obtain rfl:k=(ai (a7 s [])[i]! 44).length:=ae;rw[eM (show(su (a7 s [])[i]!).length<=(ai (a7 s [])[i]! 44).length by simp[su])];refine az ?_;refine bZ (v:=.own _ _ _ _) ?_;refine az ?_;refine cZ [ry (su (a7 s [])[i]!)] ?_;refine aA ?_;refine aQ (.agg [.own 24 1 0 ((mK s).take i++[su (a7 s [])[i]!]).length]) (he:=aT) ?_;refine bI ?_;have hq:(mK s).take (i+1)=(mK s).take i++[su (a7 s [])[i]!]:=jX su (a7 s []) (show i<(a7 s []).length by omega);rw[<-hq];exact⟨i+1,⟨ae,by rw[hr,bc ae,hwk,c8 ae];rfl⟩,ae,(aW.to [(0,0),(5,5),(24,1)] ah ah fF (by refine jS ?_;refine jS ?_;refine bg.nl 24 ah ah ah eL ?_;exact bg.nil))⟩
 refine aG ?_;refine eF 1 ?_ (he:=by simp only[kg,hZ,jo,kR,lY,cd,Nat.reduceEqDiff,aP,aM,cA,bY,bQ,cx,cy,bD,bz,aF,bN,aI,reduceCtorEq,aH,aO,Nat.reduceAdd,Nat.reduceLeDiff,uB];exact rfl) (hm:=by simp only[kg,hZ,jo,kR,lY,cd,Nat.reduceEqDiff,aP,aM,cA,bY,bQ,cx,cy,bD,bz,aF,bN,aI,reduceCtorEq,aH,aO,Nat.reduceAdd,Nat.reduceLeDiff,uB];exact rfl);refine az ?_;obtain rfl:i=(a7 s []).length:=ae;have hok:EM s=true:=by rw[hr,c8 ae]
 rw[eM (show(mK s).length<=(a7 s []).length by simp[mK])];have hrs:=EO (s:=s) ae;refine dj (d:=lP (mK s)) ?_;refine aq (hc:=h684 (mK s) hrs) ?_;refine fJ ?_;refine ax (fun hc4=>?_) (fun hc4=>?_)
 .simp only[bP]at hc4;refine aA ?_;refine ep [.au] ?_;refine aQ (.agg [.au]) (he:=aT) ?_;refine aG ?_;refine cv (aZ ?_ (ar (D.int .i64) ?_));all_goals
   have hq:kd s=([],6):=by
    unfold kd;rw[aj ae,aj (by rw[hok];simp),aw hc4]
   rw[hq];first|done|rfl
 simp only[cL]at hc4;refine aG ?_;refine dj (d:=lP (mK s)) ?_;refine aq (hc:=h685 (mK s) hrs) ?_;refine aA ?_;refine ax (fun hc5=>?_) (fun hc5=>?_)
 .simp only[bP,ui,hc4,iF,bC]at hc5;refine aA ?_;refine ep [.au] ?_;refine aQ (.agg [.au]) (he:=aT) ?_;refine aG ?_;refine cv (aZ ?_ (ar (D.int .i64) ?_));all_goals
   have hq:kd s=([],3):=by
    unfold kd;rw[aj ae,aj (by rw[hok];simp),aj (by rw[hc4];simp),aw ae]
   rw[hq];first|done|rfl
 simp only[cL,ui,hc4,iF,a8]at hc5;refine aA ?_;refine dj (d:=lP (mK s)) ?_;refine aQ (lP (mK s)) (he:=aT) ?_;refine aG ?_;refine cv (aZ ?_ (ar (D.int .i64) ?_));all_goals
  have hq:kd s=(mK s,0):=by
   unfold kd;rw[aj ae,aj (by rw[hok];simp),aj (by rw[hc4];simp),aj ae]
  rw[hq];first|done|rfl
def OY (Y:Ctx):Prop:=F3 (ch Y 495)
def xz:aN:=⟨1,4,mJ,di,(sq (r1 [gm eS] 1 0) (sq (rg [gm s0,gx 495 [l0] di,gm l1,ge l2 0,ge l2 1,gb 1 (.c (.agg [.au])),gt 1 l5 l3,gm l4] [(3,5),(2,7)]) (sq (r1 [gm s2,aU l0 b7,gm l1,dC 2 (.ld 1 true s3),dC 2 (.call 496 [l3] [[.sl 1 [.sl 7 [.a,.a,.a,.a,.a,.a,.a]]]]),gmt 2 s0,dC 2 (dP l4 l5),iM l2 l6,gm l7] 1 8) .ret)))⟩
def w444 {Y:Ctx}(hm:(Y.at 0).cQ)(h495:OY Y)(h496:OZ Y)(s:ak)  (hp0:s.length<=1048576):fo Y xz (.bool (im s)) [.str s]:=by
 show ca _ _ _ [⟨_,_⟩,_,_,_] _;refine av ?_;refine aK ?_;refine aq (hc:=h495 s hp0) ?_;refine az ?_;refine hX (lP _) ?_;refine aA ?_;refine aQ (lP (kd s).1) (he:=aT) ?_;refine bh ?_;refine dj (d:=lP (kd s).1) ?_;refine er (hc:=fun hf=>h496 (kd s).1 EN.1) ?_;refine bh ?_;exact cz rfl
def Rr (Y:Ctx):Prop:=FU (ch Y 444)
def NP (T:List D->D->Prop):Prop:=∀(l:List Nd) (i:Int) (b:Bool),(jI l/\l.length<=15/\0<=i/\i<l.length)->T [.sl 5 (l.map Nd.D),.int .i64 i,.bool b] (.str (lS (n6 l i) b))
def NU (Y:Ctx)(u:Nat):Prop:=∀(l:List Nd) (i:Int) (b:Bool),(jI l/\l.length<=15/\0<=i/\i<l.length)->2*i.toNat+1<u->Y.pre 951 [.sl 5 (l.map Nd.D),.int .i64 i,.bool b]/\Y.val 951 [.sl 5 (l.map Nd.D),.int .i64 i,.bool b]=.str (lS (n6 l i) b)
def F6 (T:List D->D->Prop):Prop:=∀(l:List Nd) (i:Int),(jI l/\l.length<=15/\0<=i/\i<l.length)->T [.sl 5 (l.map Nd.D),.int .i64 i] (.str (n6 l i))
def RZ (Y:Ctx):Prop:=F6 (ch Y 811)
def Iu (Y:Ctx)(u:Nat):Prop:=∀(l:List Nd) (i:Int),(jI l/\l.length<=15/\0<=i/\i<l.length)->2*i.toNat<u->Y.pre 811 [.sl 5 (l.map Nd.D),.int .i64 i]/\Y.val 811 [.sl 5 (l.map Nd.D),.int .i64 i]=.str (n6 l i)
def Hl:aN:=⟨0,1,[⟨0,none⟩],[[.sl 1 [.a]]],(sq (r1 [gm (.c (.au))] 0 0) (sq (r1 [gn (.bsl 1 (.str []) 3 [(0,(cs [111,115])),(1,(cs [97,114,99,104])),(2,(cs [97,98,105]))]),gm l0] 0 1) .ret))⟩
def w950 {Y:Ctx}(hm:(Y.at 0).cQ)     :fo Y Hl (.sl 1 (oG.map D.str)) []:=by
 show ca _ _ _ [_] _;refine av ?_;refine aG ?_;refine cZ [(.str _),(.str _),(.str _)] ?_;refine aA ?_;refine eF 1 ?_;refine az ?_;refine cv (?_);rfl
def Gd (T:List D->D->Prop):Prop:=T [] (.sl 1 (oG.map D.str))
def O8 (Y:Ctx):Prop:=Gd (ch Y 950)
def Hk:aN:=⟨3,5,[⟨3,none⟩],di,(sq (r1 [gm cse] 3 0) (sq (sq (r1 [gm s2] 4 0) (.cond s4 (sq (r1 [gm s0,gm s1,gx 811 [l0,l1] [[.sl 5 [.a,.a,.a,.a,.a]],[.a]],ay (cs [40,32]) l2,ay l3 (cs [32,41]),gm l4] 3 5) .ret) .skip)) (sq (r1 [gm s0,gm s1,gx 811 [l0,l1] [[.sl 5 [.a,.a,.a,.a,.a]],[.a]],gm l2] 3 3) .ret)))⟩
def w951 {Y:Ctx}(hm:(Y.at 0).cQ)  (l:List Nd)(i:Int)(b:Bool)(h811:Iu (Y.at 0) (2*i.toNat+1))(hp0:jI l/\l.length<=15/\0<=i/\i<l.length):fo Y Hk (.str (lS (n6 l i) b)) [.sl 5 (l.map Nd.D),.int .i64 i,.bool b]:=by
 show ca _ _ _ [⟨_,_⟩,⟨_,_⟩,⟨_,_⟩,_,_] _;have htl:=wS hp0.1 hp0.2.1 hp0.2.2.1 hp0.2.2.2;refine av ?_;refine bh ?_;refine dR (fun hc0=>?_) fun hc0=>?_
 .refine aK ?_;refine aq (hc:=h811 l i hp0 ae) ?_;refine n8 ?_;refine n8 ?_;refine aG ?_;refine du ?_;simp[lS,hc0]
 refine aK ?_;refine aq (hc:=h811 l i hp0 ae) ?_;refine aG ?_;refine du ?_;simp[lS,hc0]
def Hm:aN:=⟨2,10,[⟨2,none⟩],di,(sq (r1 [gm cse] 2 0) (sq (r1 [gm s0,gm s1,ga 5 l0 l1,gk 5 true l2,gb 5 (.c (.agg [.int .i64 0,.int .i64 0,.int .i64 0,.int .i64 0,.str []])),gt 5 l4 l3] 3 4) (sq (sq (r1 [gf 0 s3,gd l0] 4 1) (.block 0 (sq (r1 [aU s4 cN,gm l0] 5 1) (.cond s5 (sq (r2 [gx 950 [] [],gf 3 s3,gd l1,ga 1 l0 l2,gd l3,ay l4 (cs [32,61,32]),gf 4 s3,gd l6,ay l5 l7,gm l8] 2 9) .ret) (sq (r1 [aU s4 mi,gm l0] 6 1) (.cond s6 (sq (r1 [gm s0,gf 1 s3,gd l1,ga 5 l0 l2,gk 5 true l3,gb 5 (.c (.agg [.int .i64 0,.int .i64 0,.int .i64 0,.int .i64 0,.str []])),gt 5 l5 l4] 7 5) (sq (sq (r1 [gf 0 s7,gd l0,aU l1 cN] 8 2) (.cond s8 (sq (r2 [gx 950 [] [],gf 3 s7,gd l1,ga 1 l0 l2,gd l3,ay l4 (cs [32,33,61,32]),gf 4 s7,gd l6,ay l5 l7,gm l8] 2 9) .ret) .skip)) (sq (r1 [gm s0,gf 1 s3,gd l1,gf 0 s7,gd l3,dd l4 mi,gx 951 [l0,l2,l5] [[.sl 5 [.a,.a,.a,.a,.a]],[.a],[.a]],ay (cs [110,111,116,32]) l6,gm l7] 2 8) .ret))) (sq (r1 [aU s4 k9,gm l0] 9 1) (.cond s9 (sq (r2 [gm s0,gf 1 s3,gd l1,gm s0,gf 1 s3,gd l4,ga 5 l3 l5,gf 0 l6,gd l7,aU l8 ud,gx 951 [l0,l2,l9] [[.sl 5 [.a,.a,.a,.a,.a]],[.a],[.a]],ay l10 (cs [32,97,110,100,32]),gm s0,gf 2 s3,gd nQ,gm s0,gf 2 s3,gd si,ga 5 pL xd,gf 0 yg,gd Bc,aU C1 ud,gm En,fZ 22 s0,mh 22 2 s3,mg 22 MJ,dc 22 (.ia 5 MI Oi),mh 22 0 PM,mg 22 QS,dc 22 (dP QT k9),gR Ii QU,gx 951 [mG,n7,S6] [[.sl 5 [.a,.a,.a,.a,.a]],[.a],[.a]],ay kl l31,gm l32] 2 33) .ret) .skip)))))))) (sq (r2 [gm s0,gf 1 s3,gd l1,gx 811 [l0,l2] [[.sl 5 [.a,.a,.a,.a,.a]],[.a]],ay l3 (cs [32,111,114,32]),gm s0,gf 2 s3,gd l6,gm s0,gf 2 s3,gd l9,ga 5 l8 l10,gf 0 kl,gd mG,aU nQ ud,gx 951 [l5,l7,n7] [[.sl 5 [.a,.a,.a,.a,.a]],[.a],[.a]],ay l4 pL,gm si] 2 17) .ret))))⟩
def w811 {Y:Ctx}(hm:(Y.at 0).cQ)(h950:O8 Y)(l:List Nd)(i:Int)(h811:Iu (Y.at 0) (2*i.toNat))(h951:NU (Y.at 0) (2*i.toNat))(hp0:jI l/\l.length<=15/\0<=i/\i<l.length):fo Y Hm (.str (n6 l i)) [.sl 5 (l.map Nd.D),.int .i64 i]:=by
 show ca _ _ _ [⟨_,_⟩,⟨_,_⟩,_,_,_,_,_,_,_,_] _;obtain⟨hk,hl15,hi0,hi1⟩:=hp0;have htx:=NK hk hi0 hi1;obtain⟨k1,k2,k3⟩:=hk i.toNat ae;refine av ?_;refine bh ?_;first|refine b6 (v:=(Nd.D _)) ?_|refine jx (v:=(Nd.D _)) ?_
 refine nT ?_;refine wp_cond (fun hc0=>?_) (fun hc0=>?_)
 .simp only[a8]at hc0;have k1:=k1 hc0;have hkl:=rT l[i.toNat]!.key;refine az ?_;refine aq (hc:=h950) ?_;refine aA ?_;refine cr l[i.toNat]!.key.toNat (hb:=fun _=>by show _<3;omega) ?_;refine b6 (q:=D.str) (xs:=oG) (hi:=fun _=>by show _<3;omega) (i:=l[i.toNat]!.key.toNat) (k:=1) (o:=0) (v:=(.str (zA l[i.toNat]!.key))) (hv:=fun _=>ar D.str (yf k1.1 k1.2.1)) ?_;refine n8 ?_;refine aA ?_;refine n8 ?_;refine aK ?_;refine du ?_;rw[htx,aw hc0]
 simp only[bC]at hc0;have ka:=k2 hc0;have hla:=wS hk hl15 (i:=l[i.toNat]!.a) ae ae;have hwa:=fun b=>pX (n6 l l[i.toNat]!.a) b
 refine aK ?_;refine wp_cond (fun hc1=>?_) (fun hc1=>?_)
 .simp only[a8]at hc1;refine aK ?_;refine cr l[i.toNat]!.a.toNat ?_;first|refine b6 (v:=(Nd.D _)) ?_|refine jx (v:=(Nd.D _)) ?_
  refine ez ?_;refine ax (fun hc2=>?_) (fun hc2=>?_)
  .simp only[a8]at hc2;have k4:=(hk l[i.toNat]!.a.toNat ae).1 hc2;have hkl:=rT l[l[i.toNat]!.a.toNat]!.key;refine aA ?_;refine aq (hc:=h950) ?_;refine aA ?_;refine cr l[l[i.toNat]!.a.toNat]!.key.toNat (hb:=fun _=>by show _<3;omega) ?_;refine b6 (q:=D.str) (xs:=oG) (hi:=fun _=>by show _<3;omega) (i:=l[l[i.toNat]!.a.toNat]!.key.toNat) (k:=1) (o:=0) (v:=(.str (zA l[l[i.toNat]!.a.toNat]!.key))) (hv:=fun _=>ar D.str (yf k4.1 k4.2.1)) ?_;refine n8 ?_;refine aA ?_;refine n8 ?_;refine aK ?_;refine du ?_;rw[htx,aj hc0,aw hc1,aw hc2]
  try simp only[ed]at hc2
  refine cH ?_;refine aq (hc:=h951 l l[i.toNat]!.a _ ⟨hk,hl15,ae,ae⟩ ae) ?_;have hwx:=hwa (!decide (l[l[i.toNat]!.a.toNat]!.op=2));refine n8 ?_;refine aK ?_;refine du ?_;rw[htx,aj hc0,aw hc1,aj hc2]
 simp only[bC]at hc1;have kb:=k3 hc0 hc1;have hlb:=wS hk hl15 (i:=l[i.toNat]!.b) ae ae;have hwb:=fun b=>pX (n6 l l[i.toNat]!.b) b
 refine aK ?_;refine iR (fun hc3=>?_) fun hc3=>?_
 .refine bI ?_;refine cr l[i.toNat]!.a.toNat ?_;refine aG ?_;refine aq (hc:=h951 l l[i.toNat]!.a _ ⟨hk,hl15,ae,ae⟩ ae) ?_;have hwx:=hwa (decide (l[l[i.toNat]!.a.toNat]!.op=4));refine n8 ?_;refine bh ?_;refine cr l[i.toNat]!.b.toNat ?_;refine bI ?_;refine cr l[i.toNat]!.b.toNat ?_;refine aK ?_;refine aq (hc:=h951 l l[i.toNat]!.b _ ⟨hk,hl15,ae,ae⟩ ae) ?_;have hwy:=hwb (decide (l[l[i.toNat]!.b.toNat]!.op=4) ||decide (l[l[i.toNat]!.b.toNat]!.op=3));refine n8 ?_;refine aK ?_;refine du ?_;rw[htx,aj hc0,aj hc1,aw hc3]
 refine bh ?_;refine aq (hc:=h811 l l[i.toNat]!.a ⟨hk,hl15,ae,ae⟩ ae) ?_;refine n8 ?_;refine bh ?_;refine cr l[i.toNat]!.b.toNat ?_;refine aG ?_;refine aq (hc:=h951 l l[i.toNat]!.b _ ⟨hk,hl15,ae,ae⟩ ae) ?_;have hwy:=hwb (decide (l[l[i.toNat]!.b.toNat]!.op=4));refine n8 ?_;refine aG ?_;refine du ?_;rw[htx,aj hc0,aj hc1,aj hc3]
def Hn:aN:=⟨1,18,mJ,di,(sq (r1 [gm eS] 1 0) (sq (sq (r1 [gm s0,gl l0,eI l1 (i6 15)] 2 2) (qj s2 eS)) (sq (r1 [gm s0,gl l0,gn (.mks 1 (.int .i64 0) l1 l1),gm l2] 7 3) (sq (sq (rg [gm s0,gl l0,gm b7] [(6,0),(4,1),(3,2)]) (.block 0 (.loop (sq (r1 [bo s3 s4] 5 0) (sq (jG s5 0) (sq (.block 1 (sq (rg [gm s3,ga 5 s6 s3,gk 5 true l1,gb 5 (.c (.agg [.int .i64 0,.int .i64 0,.int .i64 0,.int .i64 0,.str []])),gm l0,gt 5 l3 l2] [(9,3),(8,4)]) (sq (rg [gm s7,gm s8,gm s8,ga 1 l0 l1,gt 1 l3 l2] []) (sq (sq (r1 [gf 0 s9,gd l0] 10 1) (.block 2 (sq (r1 [aU mL cN,gm l0] 11 1) (.cond pU (sq (sq (r1 [gf 3 s9,gd l0,bo l1 b7,gm l2,mh 3 3 s9,mg 3 l4,dc 3 (vg l5 k9),gR l3 l6,gm l7,mh 8 4 s9,mg 8 l9,dc 8 (.call 349 [l10] di),dc 8 (.un .not kl),gR l8 mG,gm nQ,mh 14 1 s9,mg 14 pL,dc 14 (gO si b7),gR n7 xd,gm yg,mh 19 2 s9,mg 19 C1,dc 19 (gO En b7),gR Bc Ii] 12 23) (qj m6 eS)) (.exit 1)) (sq (r1 [aU mL mi,gm l0] 13 1) (.cond rq (sq (sq (r1 [gm s8,bo l0 cN,gm l1,mh 2 1 s9,mg 2 l3,fZ 2 s8,dc 2 (mb l5 cN),dc 2 (gO l4 l6),gR l2 l7,gm l8,mh 9 2 s9,mg 9 l10,dc 9 (gO kl b7),gR l9 mG] 14 13) (qj rr eS)) (rg [gm s7,gm s8,gm s7,gm s8,gA l3 cN,ga 1 l2 l4,gd l5,ga 1 l0 l1,gt 1 l7 l6] [])) (sq (sq (r1 [aU mL k9,gm l0] 15 1) (.cond tP .skip (r1 [aU mL ud,gm l0] 15 1))) (.cond tP (sq (sq (r2 [gm s8,bo l0 mi,gm l1,mh 2 2 s9,mg 2 l3,fZ 2 s8,dc 2 (mb l5 cN),dc 2 (gO l4 l6),gR l2 l7,gm l8,fZ 9 s7,fZ 9 s8,dc 9 (mb kl cN),dc 9 (.ia 1 l10 mG),mg 9 nQ,dc 9 (rz n7 cN),gR l9 pL,gm si,mh 17 1 s9,mg 17 yg,fZ 17 s7,fZ 17 s8,dc 17 (mb En cN),dc 17 (.ia 1 C1 Ii),mg 17 MI,dc 17 (mb MJ cN),dc 17 (gO Bc Oi),gR xd PM] 16 27) (qj An eS)) (rg [gm s7,gm s8,gm s7,gf 1 s9,gd l3,ga 1 l2 l4,gd l5,ga 1 l0 l1,gt 1 l7 l6] [])) (CW eS))))))))) (sq (r1 [gf 3 s9,gd l0,dd l1 b7,gm l2,mh 3 4 s9,mg 3 l4,dc 3 (gO l5 cse),gR l3 l6] 17 7) (qj yz eS)))))) (r1 [ay s3 cN,gm l0] 3 1))))))) (sq (r1 [gm s0,gl l0,aU l1 b7,gm l2,fZ 3 s7,fZ 3 s0,dc 3 (.len l5),dc 3 (mb l6 cN),dc 3 (.ia 1 l4 l7),mg 3 l8,dc 3 (dP l9 b7),gR l3 l10,gm kl] 1 12) .ret)))))⟩
def w810 (h349:Ct Y)(l:List Nd)   :fo Y Hn (.bool (decide (l.length<=15)&&qo l)) [.sl 5 (l.map Nd.D)]:=by
 show ca _ _ _ [⟨_,_⟩,_,_,_,_,_,_,_,_,_,_,_,_,_,_,_,_,_] _;refine av ?_;refine bh ?_;intro u0;refine aA ?_;refine ax (fun hc0=>?_) (fun hc0=>?_)
 .try simp only[ed]at hc0
  refine bm ?_;refine cz ?_;rw[show decide (l.length<=15)=false from dJ ae];rfl
 simp only[bC]at hc0;have h15:l.length<=15:=ae;have hd15:decide (l.length<=15)=true:=cK h15;refine aK ?_;intro u1;refine Tl l.length ?_;refine bh ?_;intro u2;refine aA ?_;rw[show List.replicate l.length (D.int .i64 0)=(List.replicate l.length (0:Int)).map (D.int .i64)by simp];refine bO hm (ι:=(Nat×List Int×List Int)) (fun p=>[⟨true,.sl 5 (l.map Nd.D)⟩,.un,.un,⟨true,.int .i64 (p.1:Nat)⟩,⟨true,.int .i64 (l.length:Nat)⟩,.un,⟨true,.sl 5 (l.map Nd.D)⟩,⟨true,.own 0 1 0 l.length⟩,.un,.un,.un,.un,.un,.un,.un,.un,.un,.un]) (fun p=>[(0,.buf 1 (p.2.1.map (D.int .i64)))]) 11 (fun p=>p.1<=l.length/\p.2.1.length=l.length/\Ak p.2.1 (p.1:Nat) p.2.2.reverse/\ml l 0 []=ml (l.drop p.1) p.1 p.2.2) (fun p=>l.length-p.1) (0,List.replicate l.length 0,[]) ⟨aJ,aJ,rfl,aJ⟩ (aW.to [(6,0)] ah ah fF (by refine bg.nl 6 ah ah ah eL ?_;exact bg.nil)) ?_;rintro⟨i,S,o⟩ ⟨hi,hS,hc,hr⟩;dsimp only at hi hS hc hr⊢;refine aG ?_;refine dR (fun hc1=>?_) fun hc1=>?_
 .refine bm ?_;first|refine b6 (v:=(Nd.D _)) ?_|refine jx (v:=(Nd.D _)) ?_
  refine aA ?_;refine aQ (Nd.D l[i]!) (he:=aT) ?_;refine bm ?_;refine mZ i ?_;refine EG ((S.set i (i:Int)).map (D.int .i64)) (hi:=cX) (he:=uN ae _) ?_;have hch:Ak (S.set i (i:Int)) (i:Nat) o.reverse:=zg (Int.le_refl _) hc;have hSl:(S.set i (i:Int)).length=l.length:=by simp[hS]
  refine cH ?_;obtain⟨t1,t2⟩:=rH hch;obtain⟨u1,u2⟩:=zh hch;refine aG ?_;refine wp_cond (fun hc2=>?_) (fun hc2=>?_)
  .simp only[a8]at hc2;have hq1:=hc2;refine nT ?_;refine aq (hc:=h349 _) ?_;refine nT ?_;refine ax (fun hc3=>?_) (fun hc3=>?_)
   .have hlf:qm l[i]! =false:=by rw[Ep hq1,hc3];rfl
    refine cH ?_;refine cz ?_;rw[hd15];symm;refine iI ?_;rw[hr];refine fR ae ?_;exact zZ hq1 hlf
   have hlf:qm l[i]! =true:=by rw[Ep hq1,hc3];rfl
   refine ez ?_;have hs:jz l[i]! i o=some (o++[(i:Int)]):=by exact DP hlf
   have hp:Ak (S.set i (i:Int)) ((i+1:Nat):Int) ((o++[(i:Int)])).reverse:=by
    rw[List.reverse_append,List.reverse_singleton,List.singleton_append];exact rE ae ae (Int.le_refl _) hc
   exact⟨(i+1,(S.set i (i:Int)),(o++[(i:Int)])),⟨ea,by simp[hS],hp,by rw[hr];exact lL ae hs⟩,ea,(aW.to [(0,0)] ah ah fF (by refine jS ?_;exact bg.nil))⟩
  simp only[bC]at hc2;have hq1:=hc2;refine aK ?_;refine wp_cond (fun hc4=>?_) (fun hc4=>?_)
  .simp only[a8]at hc4;have hq2:=hc4;refine Ll ?_;refine ax (fun hc5=>?_) (fun hc5=>?_)
   .try simp only[ed]at hc5
    refine cH ?_;refine cz ?_;rw[hd15];symm;refine iI ?_;rw[hr];refine fR ae ?_;rw[te hch hq2,aj];rintro⟨⟨g1,g2,g3⟩,g4⟩;omega
   simp only[dT,bC,cL,a8]at hc5;refine bI ?_;refine mZ (i-1) ?_;refine tL (q:=D.int .i64) (xs:=(S.set i (i:Int))) (v:=(.int .i64 (S.set i (i:Int))[i-1]!)) (hi:=fun _=>ae) (hv:=fun _=>by rw[bD];rfl) ?_;refine mZ i ?_;refine EG (((S.set i (i:Int)).set i (S.set i (i:Int))[i-1]!).map (D.int .i64)) (hi:=cX) (he:=uN ae _) ?_;refine jD ?_;refine wp_cond (fun hc9=>?_) (fun hc9=>?_)
   .have hb:ju l[i]! =false:=by simp only[dk,bP,bC]at hc9;simp only[ju,dF,bC];exact hc9
    refine bh ?_;refine cz ?_;rw[hd15];symm;refine iI ?_;rw[hr];refine fR ae ?_;rw[te hch hq2,aj];rintro⟨⟨g1,g2,g3⟩,g4⟩;rw[hb]at g4;cases g4
   have hb:ju l[i]! =true:=by simp only[dT,cL,a8]at hc9;simp only[ju,hc9.1,hc9.2,decide_true,Bool.and_self]
   refine bI ?_;have hs:jz l[i]! i o=some (o.take (o.length-1)++[(i:Int)]):=by rw[te hch hq2,aw ⟨⟨ae,ae,ae⟩,hb⟩]
   have hp:Ak ((S.set i (i:Int)).set i (S.set i (i:Int))[i-1]!) ((i+1:Nat):Int) ((o.take (o.length-1)++[(i:Int)])).reverse:=by
    rw[List.reverse_append,List.reverse_singleton,List.singleton_append];obtain⟨y1,y2,y3,y4⟩:=t2 ae;exact rE ae y2 ae y4
   exact⟨(i+1,((S.set i (i:Int)).set i (S.set i (i:Int))[i-1]!),(o.take (o.length-1)++[(i:Int)])),⟨ea,by simp[hS],hp,by rw[hr];exact lL ae hs⟩,ea,(aW.to [(0,0)] ah ah fF (by refine jS ?_;exact bg.nil))⟩
  simp only[bC]at hc4;have hq2:=hc4;refine bm ?_;refine dR (fun hc6=>?_) fun hc6=>?_
  .refine az ?_;refine iR (fun hc7=>?_) fun hc7=>?_
   .refine Cl ?_;refine mZ (i-1) ?_;refine tL (q:=D.int .i64) (xs:=(S.set i (i:Int))) (v:=(.int .i64 (S.set i (i:Int))[i-1]!)) (hi:=fun h=>by simp at h;omega) (hv:=fun _=>by rw[bD];rfl) ?_;refine cH ?_;refine mZ (i-1) ?_;refine tL (q:=D.int .i64) (xs:=(S.set i (i:Int))) (v:=(.int .i64 (S.set i (i:Int))[i-1]!)) (hi:=fun h=>by simp at h;omega) (hv:=fun _=>by rw[bD];rfl) ?_;refine aK ?_;refine ax (fun hc8=>?_) (fun hc8=>?_)
    .have hq34:l[i]!.op=3\/l[i]!.op=4:=ae;simp only[dk,a8,bP,bC]at hc8;refine cH ?_;refine cz ?_;rw[hd15];symm;refine iI ?_;rw[hr];refine fR ae ?_;rw[lv hch hq34,aj];rintro⟨⟨g1,g2,g3,g4⟩,g5⟩;omega
    simp only[dT,bC,cL,a8]at hc8;have hq34:l[i]!.op=3\/l[i]!.op=4:=ae;have hk2:=u1.2 ⟨ae,ae⟩;obtain⟨w1,w2,w3,w4⟩:=u2 hk2;obtain⟨y1,y2,y3,y4⟩:=t2 ae;refine bI ?_;refine mZ l[i]!.a.toNat ?_;refine tL (q:=D.int .i64) (xs:=(S.set i (i:Int))) (v:=(.int .i64 (S.set i (i:Int))[l[i]!.a.toNat]!)) (hi:=fun _=>ae) (hv:=fun _=>by rw[bD];rfl) ?_;refine mZ i ?_;refine EG (((S.set i (i:Int)).set i (S.set i (i:Int))[l[i]!.a.toNat]!).map (D.int .i64)) (hi:=cX) (he:=uN ae _) ?_;refine jD ?_;refine wp_cond (fun hc9=>?_) (fun hc9=>?_)
    .have hb:ju l[i]! =false:=by simp only[dk,bP,bC]at hc9;simp only[ju,dF,bC];exact hc9
     refine bh ?_;refine cz ?_;rw[hd15];symm;refine iI ?_;rw[hr];refine fR ae ?_;rw[lv hch hq34,aj];rintro⟨⟨g1,g2,g3,g4⟩,g5⟩;rw[hb]at g5;cases g5
    have hb:ju l[i]! =true:=by simp only[dT,cL,a8]at hc9;simp only[ju,hc9.1,hc9.2,decide_true,Bool.and_self]
    refine bI ?_;have hs:jz l[i]! i o=some (o.take (o.length-2)++[(i:Int)]):=by rw[lv hch hq34,aw ⟨⟨ae,ae,ae,ae⟩,hb⟩]
    have hp:Ak ((S.set i (i:Int)).set i (S.set i (i:Int))[l[i]!.a.toNat]!) ((i+1:Nat):Int) ((o.take (o.length-2)++[(i:Int)])).reverse:=by
     rw[List.reverse_append,List.reverse_singleton,List.singleton_append];rw[show l[i]!.a=(S.set i (i:Int))[i-1]! -1 by omega];exact rE ae w2 ae w4
    exact⟨(i+1,((S.set i (i:Int)).set i (S.set i (i:Int))[l[i]!.a.toNat]!),(o.take (o.length-2)++[(i:Int)])),⟨ea,by simp[hS],hp,by rw[hr];exact lL ae hs⟩,ea,(aW.to [(0,0)] ah ah fF (by refine jS ?_;exact bg.nil))⟩
   refine bI ?_;refine cz ?_;exfalso;omega
  refine aK ?_;refine iR (fun hc7=>?_) fun hc7=>?_
  .refine Cl ?_;refine mZ (i-1) ?_;refine tL (q:=D.int .i64) (xs:=(S.set i (i:Int))) (v:=(.int .i64 (S.set i (i:Int))[i-1]!)) (hi:=fun h=>by simp at h;omega) (hv:=fun _=>by rw[bD];rfl) ?_;refine cH ?_;refine mZ (i-1) ?_;refine tL (q:=D.int .i64) (xs:=(S.set i (i:Int))) (v:=(.int .i64 (S.set i (i:Int))[i-1]!)) (hi:=fun h=>by simp at h;omega) (hv:=fun _=>by rw[bD];rfl) ?_;refine aK ?_;refine ax (fun hc8=>?_) (fun hc8=>?_)
   .have hq34:l[i]!.op=3\/l[i]!.op=4:=ae;simp only[dk,a8,bP,bC]at hc8;refine cH ?_;refine cz ?_;rw[hd15];symm;refine iI ?_;rw[hr];refine fR ae ?_;rw[lv hch hq34,aj];rintro⟨⟨g1,g2,g3,g4⟩,g5⟩;omega
   simp only[dT,bC,cL,a8]at hc8;have hq34:l[i]!.op=3\/l[i]!.op=4:=ae;have hk2:=u1.2 ⟨ae,ae⟩;obtain⟨w1,w2,w3,w4⟩:=u2 hk2;obtain⟨y1,y2,y3,y4⟩:=t2 ae;refine bI ?_;refine mZ l[i]!.a.toNat ?_;refine tL (q:=D.int .i64) (xs:=(S.set i (i:Int))) (v:=(.int .i64 (S.set i (i:Int))[l[i]!.a.toNat]!)) (hi:=fun _=>ae) (hv:=fun _=>by rw[bD];rfl) ?_;refine mZ i ?_;refine EG (((S.set i (i:Int)).set i (S.set i (i:Int))[l[i]!.a.toNat]!).map (D.int .i64)) (hi:=cX) (he:=uN ae _) ?_;refine jD ?_;refine wp_cond (fun hc9=>?_) (fun hc9=>?_)
   .have hb:ju l[i]! =false:=by simp only[dk,bP,bC]at hc9;simp only[ju,dF,bC];exact hc9
    refine bh ?_;refine cz ?_;rw[hd15];symm;refine iI ?_;rw[hr];refine fR ae ?_;rw[lv hch hq34,aj];rintro⟨⟨g1,g2,g3,g4⟩,g5⟩;rw[hb]at g5;cases g5
   have hb:ju l[i]! =true:=by simp only[dT,cL,a8]at hc9;simp only[ju,hc9.1,hc9.2,decide_true,Bool.and_self]
   refine bI ?_;have hs:jz l[i]! i o=some (o.take (o.length-2)++[(i:Int)]):=by rw[lv hch hq34,aw ⟨⟨ae,ae,ae,ae⟩,hb⟩]
   have hp:Ak ((S.set i (i:Int)).set i (S.set i (i:Int))[l[i]!.a.toNat]!) ((i+1:Nat):Int) ((o.take (o.length-2)++[(i:Int)])).reverse:=by
    rw[List.reverse_append,List.reverse_singleton,List.singleton_append];rw[show l[i]!.a=(S.set i (i:Int))[i-1]! -1 by omega];exact rE ae w2 ae w4
   exact⟨(i+1,((S.set i (i:Int)).set i (S.set i (i:Int))[l[i]!.a.toNat]!),(o.take (o.length-2)++[(i:Int)])),⟨ea,by simp[hS],hp,by rw[hr];exact lL ae hs⟩,ea,(aW.to [(0,0)] ah ah fF (by refine jS ?_;exact bg.nil))⟩
  refine bI ?_;refine cz ?_;rw[hd15];symm;refine iI ?_;rw[hr];refine fR ae ?_;exact BX hq1 hq2 ae ae
 refine aG ?_;obtain rfl:i=l.length:=ae;obtain⟨t1,t2⟩:=rH hc;obtain⟨u1,u2⟩:=zh hc;refine aA ?_;intro u3;refine aK ?_;refine nk ?_;refine az ?_;refine mZ (l.length-1) (hj:=fun h=>by have hz:¬l.length=0:=(fun hz=>by simp[hz]at h);omega) (hb:=fun h=>by have hz:¬l.length=0:=(fun hz=>by simp[hz]at h);omega) ?_;refine tL (q:=D.int .i64) (xs:=S) (v:=(.int .i64 S[l.length-1]!)) (hi:=fun h=>by have hz:¬l.length=0:=(fun hz=>by simp[hz]at h);omega) (hv:=fun _=>by rw[bD];rfl) ?_;refine bm ?_;refine cz ?_;rw[hd15];simp only[qo,hr,Hy (aF l.length),iF];exact(KX t1 t2 u1).symm
def F5 (T:List D->D->Prop):Prop:=∀(l:List Nd),T [.sl 5 (l.map Nd.D)] (.bool (decide (l.length<=15)&&qo l))
def RY (Y:Ctx):Prop:=F5 (ch Y 810)
def Dg:aN:=⟨1,3,mJ,di,(sq (r1 [gm cse] 1 0) (sq (sq (r1 [gm s0,gl l0,aU l1 b7] 2 2) (qj s2 cse)) (sq (r1 [gm s0,gm s0,gl l1,gA l2 cN,gx 811 [l0,l3] [[.sl 5 [.a,.a,.a,.a,.a]],[.a]],gm l4] 1 5) .ret)))⟩
def w662 {Y:Ctx}(hm:(Y.at 0).cQ)(h811:RZ Y)(l:List Nd)  (hp0:jI l/\l.length<=15):fo Y Dg (.str (tj l)) [.sl 5 (l.map Nd.D)]:=by
 show ca _ _ _ [⟨_,_⟩,_,_] _;refine av ?_;refine bh ?_;intro u0;refine aA ?_;refine dR (fun hc0=>?_) fun hc0=>?_
 .refine bm ?_;refine du ?_;simp only[tj];rw[aw ae]
 refine bm ?_;intro u1;refine az ?_;refine aq (hc:=h811 l ((l.length:Int) -1) ⟨hp0.1,hp0.2,ae,ae⟩) ?_;refine aG ?_;refine du ?_;simp only[tj];rw[aj ae]
def FW (T:List D->D->Prop):Prop:=∀(l:List Nd),(jI l/\l.length<=15)->T [.sl 5 (l.map Nd.D)] (.str (tj l))
def O2 (Y:Ctx):Prop:=FW (ch Y 662)
def JD:aN:=⟨1,3,mJ,di,(sq (rg [gb 1 s0,gm eS] [(2,0),(1,1)]) (sq (r1 [gf 0 s2,gd l0,gx 810 [l1] [[.sl 5 [.a,.a,.a,.a,.a]]],gm l2,rp 3 0 s2,pJ 3 l4,dC 3 (.call 662 [l5] [[.sl 5 [.a,.a,.a,.a,.a]]]),dC 3 (.lenS l6),dC 3 (oc l7 (i6 96)),iM l3 l8,gm l9] 1 10) .ret))⟩
def w661 {Y:Ctx}(hm:(Y.at 0).cQ)(h662:O2 Y)(h810:RY Y)(m:QJ)   :fo Y JD (.bool (Bl m)) [oJ m]:=by
 show ca _ _ _ [⟨_,_⟩,_,_] _;refine av ?_;refine bh ?_;refine aq (hc:=h810 m) ?_;refine aG ?_;refine er (hc:=fun hf=>h662 m (by simp only[bt,beq_iff_eq,a8,bY]at hf;exact⟨wQ hf.2,ae⟩)) ?_;refine nk ?_;refine bm ?_;refine cz ?_;simp only[Bl];congr 1;exact tm.2 ae
def FV (T:List D->D->Prop):Prop:=∀(m:QJ),T [oJ m] (.bool (Bl m))
def O1 (Y:Ctx):Prop:=FV (ch Y 661)
def Df:aN:=⟨1,4,mJ,di,(sq (rg [gb 1 s0,gm cse] [(2,0),(1,1)]) (sq (sq (r1 [gk 1 true s2,gx 661 [l0] [[.sl 5 [.a,.a,.a,.a,.a]]],p8 l1] 3 2) (qj s3 cse)) (sq (r1 [gf 0 s2,gd l0,gx 662 [l1] [[.sl 5 [.a,.a,.a,.a,.a]]],gm l2] 1 3) .ret)))⟩
def w446 {Y:Ctx}(hm:(Y.at 0).cQ)(h661:O1 Y)(h662:O2 Y)(m:QJ)   :fo Y Df (.str (Tc m)) [oJ m]:=by
 show ca _ _ _ [⟨_,_⟩,_,_,_] _;refine av ?_;refine bh ?_;refine aq (hc:=h661 m) ?_;refine aA ?_;refine ax (fun hc0=>?_) (fun hc0=>?_)
 .simp only[bP]at hc0;refine bm ?_;refine du ?_;simp[Tc,hc0]
 simp only[cL]at hc0;have hfw:(decide (m.length<=15)&&qo m)=true:=by simp only[Bl,bt]at hc0;simp only[bt];exact hc0.1
 simp only[bt,a8]at hfw;refine aK ?_;refine aq (hc:=h662 m ⟨wQ hfw.2,hfw.1⟩) ?_;refine aG ?_;refine du ?_;simp[Tc,hc0]
def FC (T:List D->D->Prop):Prop:=∀(m:QJ),T [oJ m] (.str (Tc m))
def Rt (Y:Ctx):Prop:=FC (ch Y 446)
def uh:aN:=⟨1,3,mJ,di,(sq (r1 [gm cse] 1 0) (sq (sq (r1 [gm s0,gc l0,gf 0 l1,gd l2,gl l3,aU l4 b7] 2 5) (qj s2 cse)) (sq (r1 [gm s0,gc l0,gf 0 l1,gd l2,ga 1 l3 b7,gd l4,gm l5] 1 6) .ret)))⟩
def w946 {Y:Ctx}(hm:(Y.at 0).cQ)  (w:List ak)(es:List D)(b:Bool)   :fo Y uh (.str (cF w)) [.ref 3 [gy w (.sl 5 es) b] 0 0]:=by
 show ca _ _ _ [⟨_,_⟩,_,_] _;refine av ?_;refine bI ?_;refine jx (v:=.sl 1 (w.map D.str)) ?_;refine az ?_;intro u0;refine aA ?_;refine dR (fun hc0=>?_) fun hc0=>?_
 .refine bm ?_;refine du ?_;have:w=[]:=tl.1 ae;subst this;rfl
 refine bm ?_;refine jx (v:=.sl 1 (w.map D.str)) ?_;refine cr 0 ?_;refine aK ?_;refine du ?_
 match w,hc0 with
 |[],h=>exact absurd rfl h
 |x::r,_=>rfl
def Gc (T:List D->D->Prop):Prop:=∀(w:List ak) (es:List D) (b:Bool),T [.ref 3 [gy w (.sl 5 es) b] 0 0] (.str (cF w))
def O7 (Y:Ctx):Prop:=Gc (ch Y 946)
def jK:aN:=⟨1,4,mJ,di,(sq (r1 [gm cse] 1 0) (sq (r1 [gm s0,gx 946 [l0] [[.pt [.sl 1 [.a],.sl 5 [.a,.a,.a,.a,.a],.a]]],gm l1] 2 2) (sq (sq (r1 [gm s2,aU l0 cse] 3 1) (.cond s3 (sq (rg [gm s0,gc l0,gf 2 l1,gt 1 l2 xc] []) (CW cse)) .skip)) (sq (rg [gm s0,gm s0,gc l1,gf 0 l2,gd l3,gn (.slA 1 l4 (some cN) none),gc l0,gf 0 l6,gt 1 l7 l5] []) (sq (r1 [gm s2,gm l0] 1 1) .ret)))))⟩
def w947 {Y:Ctx}(hm:(Y.at 2).cQ)(w:List ak)(nd:List Nd)(b:Bool)(h946:O7 (Y.at 2))  :ca (Y.at 2) jK.body (nU jK (NY 3 gy nd (fun o=>o=⟨0,bn w,nd,cO w b⟩) (fun _=>.str (cF w))):Ex->List bE->St->Prop) (gh jK [.ptr 0 3 0 0]) ⟨2,[(0,.buf 3 [gy w (.own 1 5 0 nd.length) b]),(1,.buf 5 (nd.map Nd.D))]⟩:=by
 show ca _ _ _ [⟨true,.ptr 0 3 0 0⟩,.un,.un,.un] ⟨2,[(0,.buf 3 [gy w (.own 1 5 0 nd.length) b]),(1,.buf 5 (nd.map Nd.D))]⟩;refine av ?_;refine aK ?_;refine aq (hc:=h946 w _ b) (hp:=fun _=>JL ah ah) ?_;refine bI ?_;refine dR (fun hc0=>?_) fun hc0=>?_
 .refine bm ?_;refine aQ (gy w (.own 1 5 0 nd.length) true) (he:=aT) ?_;refine bh ?_;refine ff trivial js (dw ah (ar D.str ?_)) ah ⟨⟨0,bn w,nd,cO w b⟩,rfl,rfl,by simp only[bn,cO,hc0,aP];rfl,rfl⟩;exact hc0.symm
 refine bh ?_;refine bZ (v:=.sl 1 (w.map D.str)) ?_;refine wy 1 (hb:=fun _=>by have:=KS hc0;omega) ?_;refine aA ?_;refine aQ (gy (w.drop 1) (.own 1 5 0 nd.length) b) (he:=aT) ?_;refine bh ?_;refine ff trivial js (dw ah (ar D.str ?_)) ah ⟨⟨0,bn w,nd,cO w b⟩,rfl,rfl,by simp only[bn,cO,hc0,aM];rfl,rfl⟩;rfl
def Gf (Y:Ctx):Prop:=∀(w:List ak) (nd:List Nd) (b:Bool),SI Y 3 gy 947 [] w nd b (fun o=>o=⟨0,bn w,nd,cO w b⟩) (fun _=>.str (cF w))
def kq:aN:=⟨2,4,[⟨2,none⟩],di,(sq (rg [gb 5 s1,gm b7] [(3,0),(2,1)]) (sq (rt [gm s0,gm s0,gc l1,gf 1 l2,gd l3,gk 5 true s3,gn (.bsl 5 (.agg [.int .i64 0,.int .i64 0,.int .i64 0,.int .i64 0,.str []]) 1 [(0,l5)]),gn (.app 5 l4 l6),gc l0,gf 1 l8,gt 1 l9 l7] []) (sq (r1 [gm s0,gc l0,gf 1 l1,gd l2,gl l3,gA l4 cN,gm l5] 2 6) .ret)))⟩
def w948 {Y:Ctx}(hm:(Y.at 2).cQ)(x:Nd)(w:List ak)(nd:List Nd)(b:Bool)  (hp0:nd.length<=2000):ca (Y.at 2) kq.body (nU kq (Cx 3 gy (fun o=>o=⟨(nd.length:Nat),w,nd++[x],b⟩) Va):Ex->List bE->St->Prop) (gh kq [.ptr 0 3 0 0,Nd.D x]) ⟨2,[(0,.buf 3 [gy w (.own 1 5 0 nd.length) b]),(1,.buf 5 (nd.map Nd.D))]⟩:=by
 show ca _ _ _ [⟨true,.ptr 0 3 0 0⟩,⟨true,Nd.D x⟩,.un,.un] ⟨2,[(0,.buf 3 [gy w (.own 1 5 0 nd.length) b]),(1,.buf 5 (nd.map Nd.D))]⟩;refine av ?_;refine cH ?_;refine bZ (v:=.own 1 5 0 nd.length) ?_;refine dj (d:=Nd.D x) ?_;refine cZ [Nd.D x] ?_;refine jg (q:=Nd.D) (xs:=nd) (e:=x) ?_;refine aA ?_;refine aQ (gy w (.own 11 5 0 (nd++[x]).length) b) (he:=aT) ?_;refine bm ?_;refine bZ (v:=.own 11 5 0 (nd++[x]).length) ?_;refine az ?_;intro u0;refine aK ?_;refine ff trivial js (dw ah (ar (D.int .i64) ?_)) ah ⟨⟨(nd.length:Nat),w,nd++[x],b⟩,11,aE,rfl,rfl,rfl,rfl⟩;simp
def Iv (Y:Ctx):Prop:=∀(x:Nd) (w:List ak) (nd:List Nd) (b:Bool),nd.length<=2000->sn Y 3 gy 948 [Nd.D x] w nd b (fun o=>o=⟨(nd.length:Nat),w,nd++[x],b⟩) Va
end Go.Abs
