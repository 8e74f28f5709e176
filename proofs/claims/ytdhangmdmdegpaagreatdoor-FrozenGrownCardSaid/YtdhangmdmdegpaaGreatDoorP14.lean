/- A part of the proofs. -/
import Derived.Test.YtdhangmdmdegpaaGreatDoorP09
set_option linter.all false
set_option maxRecDepth 60000
set_option maxHeartbeats 2000000
noncomputable section
namespace Go.Abs
variable {Y:Ctx}(hm:(Y.at 0).bU)
def sP:aj:=bd 21
def w110 (hm:(Y.at 1).bU)(hA:Hx (Y.at 1))(hC:C135 (Y.at 1))(hD:C296 (Y.at 1))(hE:C297 (Y.at 1))(hG:C298 (Y.at 1))(g:Gs)(nm:aw)(v:b6)(most:Int)(hp0:0<=g.i/\g.i<=970000)(hp1:0<=most/\most<=100):dD (Y.at 1) sP.body (HB sP 2 (Rec.D (pR g nm v most).1) (Gs.D (pR g nm v most).2):Ex->Φ->St->Prop) (fV sP (.ptr 0 2 0 0::[.str nm,b6.D v,.int .i64 most])) ⟨1,[(0,.buf 2 [(Gs.D g)])]⟩:=by
 show dD _ _ _ [⟨true,.ptr 0 2 0 0⟩,⟨true,.str nm⟩,⟨true,b6.D v⟩,⟨true,.int .i64 most⟩,.un,.un,.un,.un,.un,.un,.un] ⟨1,[(0,.buf 2 [(Gs.D g)])]⟩;refine aS ?_;refine kv ?_;refine bW [.str nm,.int .i64 v.major,.int .i64 v.minor,.int .i64 v.patch,.str v.pre,.str v.build,.aO,.aO,.aO] ?_;refine j7 ?_;have rn:=(g.TS (most+1)).1 ae;refine dR ?_;refine dd (hc:=hA g (most+1) ae lz) ?_;refine zg ?_;refine gE hm (ι:=Nat) (λi=>[⟨true,.ptr 0 2 0 0⟩,⟨true,.str nm⟩,.un,.un,⟨true,.ptr 2 9 0 0⟩,.un,⟨true,.int .i64 ((g.val (most+1)) -((i:Nat):Int))⟩,.un,⟨true,.ptr 3 9 0 0⟩,.un,.un]) (λi=>[(0,.buf 2 [Gs.D (nS nm g.aU i).2]),(1,.buf 5 [b6.D v]),(2,.buf 9 [.agg [.str [],.int .i64 0,.int .i64 0,.int .i64 0,.str [],.str [],.aO,.aO,.aO]]),(3,.buf 9 [.agg [.str nm,.int .i64 v.major,.int .i64 v.minor,.int .i64 v.patch,.str v.pre,.str v.build,.own 4 3 0 (nS nm g.aU i).1.length,.aO,.aO]]),(4,.buf 3 ((nS nm g.aU i).1.map bn.D))]) 13 (λi=>i<=(g.val (most+1)).toNat) (λi=>(g.val (most+1)).toNat-i) 0 ae (a8.to [(2,2),(6,3),(1,1)] ai ai Lr (by refine bB.nl 0 ai ai ai eo ?_;refine bB.nl 1 ai ai ai eo ?_;refine bB.nl 2 ai ai ai eo ?_;refine bB.ni 6 ai ai (by exact⟨_,_,rfl,⟨_,rfl,⟨_,_,rfl,⟨rfl,rfl⟩,⟨_,_,rfl,⟨rfl,rfl⟩,⟨_,_,rfl,⟨rfl,rfl⟩,⟨_,_,rfl,⟨rfl,rfl⟩,⟨_,_,rfl,⟨rfl,rfl⟩,⟨_,_,rfl,⟨rfl,rfl⟩,⟨_,_,rfl,Or.inr ⟨_,_,_,rfl⟩,⟨_,_,rfl,Or.inl rfl,⟨_,_,rfl,Or.inl rfl,rfl⟩⟩⟩⟩⟩⟩⟩⟩⟩⟩,rfl⟩) ?_;refine bB.mt ai ai ai ai ?_;exact bB.nil)) ?_;intro i hi;have hns:=x5 nm g.aU i;have hnt:=S3 (nS nm g.aU i).2 nm;have hlen:=hns.2;obtain⟨hn1,hn2⟩:=hns.1;obtain⟨hn3,hn4⟩:=hnt;rw[Gs.ZD]at hn1 hn2;refine zc ?_ ?_<;>intro hc0
 .refine fA ?_;refine zM (v:=.own 4 3 0 (nS nm g.aU i).1.length) ?_;refine c7 ?_;refine dd (hc:=hD (nS nm g.aU i).2 nm ae) ?_;refine bm [bn.D (mF (nS nm g.aU i).2 nm).1] ?_;refine cQ (q:=bn.D) (xs:=(nS nm g.aU i).1) (e:=(mF (nS nm g.aU i).2 nm).1) (hb:=ae) ?_;refine c9 ?_;refine cE (.agg [.str nm,.int .i64 v.major,.int .i64 v.minor,.int .i64 v.patch,.str v.pre,.str v.build,.own 21 3 0 (nS nm g.aU (i+1)).1.length,.aO,.aO]) (he:=dh) ?_;refine zg ?_;exact⟨i+1,ae,ae,(a8.to [(1,1),(2,2),(3,3),(21,4)] ai ai Lr (by refine bB.nl 0 ai ai ai eo ?_;refine bB.nl 1 ai ai ai eo ?_;refine bB.nl 2 ai ai ai eo ?_;refine bB.eq 3 ai ai ai ?_;refine bB.nl 21 ai ai ai eo ?_;exact bB.nil))⟩
 refine dR ?_;obtain rfl:i=(g.val (most+1)).toNat:=ae;have hbs:=HH (nS nm g.aU (g.val (most+1)).toNat).2 nm;have hos:=yg (nS nm g.aU (g.val (most+1)).toNat).2.aU nm;have r8:=(cV (nS nm g.aU (g.val (most+1)).toNat).2.aU nm).2.e7 8 ae;refine bG 4 (hn:=cg (λ_=>rfl) _) (he:=Lq) (hm:=Lq) ?_;refine Bk [(0,.buf 2 [Gs.D (nS nm g.aU (g.val (most+1)).toNat).2]),(1,.buf 5 [b6.D v]),(2,.buf 9 [.agg [.str [],.int .i64 0,.int .i64 0,.int .i64 0,.str [],.str [],.aO,.aO,.aO]]),(3,.buf 9 [.agg [.str nm,.int .i64 v.major,.int .i64 v.minor,.int .i64 v.patch,.str v.pre,.str v.build,.sl 3 ((nS nm g.aU (g.val (most+1)).toNat).1.map bn.D),.sl 3 [],.sl 2 []]])] (.id ai (.id ai (.id ai (.bf ai (.cons (.ag (.cons (.refl _) (.cons (.refl _) (.cons (.refl _) (.cons (.refl _) (.cons (.refl _) (.cons (.refl _) (.cons (.refl _) (.cons (.nil 3) (.cons (.nil 2) .nil)))))))))) .nil) .nil)))) ?_;refine c7 ?_;refine dd (hc:=hA (nS nm g.aU (g.val (most+1)).toNat).2 5 ae lz) ?_;refine zg ?_;refine rE hm (ι:=Unit) (λ_=>[⟨true,.ptr 0 2 0 0⟩,⟨true,.str nm⟩,.un,.un,⟨true,.ptr 2 9 0 0⟩,.un,.un,.un,⟨true,.ptr 3 9 0 0⟩,.un,.un]) (λ_=>[(0,.buf 2 [Gs.D (eP (nS nm g.aU (g.val (most+1)).toNat).2 nm).2]),(1,.buf 5 [b6.D v]),(2,.buf 9 [.agg [.str [],.int .i64 0,.int .i64 0,.int .i64 0,.str [],.str [],.aO,.aO,.aO]]),(3,.buf 9 [.agg [.str nm,.int .i64 v.major,.int .i64 v.minor,.int .i64 v.patch,.str v.pre,.str v.build,.sl 3 ((nS nm g.aU (g.val (most+1)).toNat).1.map bn.D),.sl 3 ((eP (nS nm g.aU (g.val (most+1)).toNat).2 nm).1.map mR.D),.sl 2 []]])]) 100 (λ_=>True) ?_ ?_
 .refine B5 ?_ ?_<;>intro hc1
  .refine dR ?_;refine dd (hc:=hE (nS nm g.aU (g.val (most+1)).toNat).2.aU nm Lw) ?_;refine fA ?_;intro u0;refine dd (hc:=hA (cV (nS nm g.aU (g.val (most+1)).toNat).2.aU nm).2 8 ae lz) ?_;refine cD ((cV (nS nm g.aU (g.val (most+1)).toNat).2.aU nm).2.val 8).toNat (hj:=λ_=>ae) (hb:=λ_=>uU) ?_;refine dj (v:=.str kr[((cV (nS nm g.aU (g.val (most+1)).toNat).2.aU nm).2.val 8).toNat]!) (hi:=λ_=>uU) ?_;refine bW [.str (cV (nS nm g.aU (g.val (most+1)).toNat).2.aU nm).1,.str kr[((cV (nS nm g.aU (g.val (most+1)).toNat).2.aU nm).2.val 8).toNat]!,.str []] ?_;refine bm [mR.D ⟨(cV (nS nm g.aU (g.val (most+1)).toNat).2.aU nm).1,kr[((cV (nS nm g.aU (g.val (most+1)).toNat).2.aU nm).2.val 8).toNat]!,[]⟩] ?_;refine c9 ?_;refine cE (.agg [.str nm,.int .i64 v.major,.int .i64 v.minor,.int .i64 v.patch,.str v.pre,.str v.build,.sl 3 ((nS nm g.aU (g.val (most+1)).toNat).1.map bn.D),.own 29 3 0 1,.sl 2 []]) (he:=dh) ?_;refine zg ?_;have hB:(eP (nS nm g.aU (g.val (most+1)).toNat).2 nm)=([⟨(cV (nS nm g.aU (g.val (most+1)).toNat).2.aU nm).1,kr[((cV (nS nm g.aU (g.val (most+1)).toNat).2.aU nm).2.val 8).toNat]!,[]⟩],(cV (nS nm g.aU (g.val (most+1)).toNat).2.aU nm).2.aU):=ak hc1;rw[hB];exact⟨(),trivial,(a8.fz 29 ai eo Np Np (a8.to [(1,1),(2,2),(3,3)] ai ai eQ acf))⟩
  refine zg ?_;have hB:(eP (nS nm g.aU (g.val (most+1)).toNat).2 nm)=([],(nS nm g.aU (g.val (most+1)).toNat).2.aU):=ah hc1;rw[hB];exact⟨(),trivial,(a8.to [(1,1),(2,2),(3,3)] ai ai eQ acf)⟩
 .rintro _-
  have hfs:=HU (eP (nS nm g.aU (g.val (most+1)).toNat).2 nm).2 (nS nm g.aU (g.val (most+1)).toNat).1;refine dR ?_;refine dd (hc:=hA (eP (nS nm g.aU (g.val (most+1)).toNat).2 nm).2 2 ae lz) ?_;refine zc ?_ ?_<;>intro hc2
  .refine c9 ?_;have hF:(lG (eP (nS nm g.aU (g.val (most+1)).toNat).2 nm).2 (nS nm g.aU (g.val (most+1)).toNat).1)=([(nk (eP (nS nm g.aU (g.val (most+1)).toNat).2 nm).2.aU (nS nm g.aU (g.val (most+1)).toNat).1).1],(nk (eP (nS nm g.aU (g.val (most+1)).toNat).2 nm).2.aU (nS nm g.aU (g.val (most+1)).toNat).1).2):=ak hc2;refine dR ?_;refine dd (hc:=hG (eP (nS nm g.aU (g.val (most+1)).toNat).2 nm).2.aU (nS nm g.aU (g.val (most+1)).toNat).1 Lw ⟨SY nm g.aU _,ae⟩) ?_;refine bm [b7.D (nk (eP (nS nm g.aU (g.val (most+1)).toNat).2 nm).2.aU (nS nm g.aU (g.val (most+1)).toNat).1).1] ?_;refine c9 ?_;refine cE (.agg [.str nm,.int .i64 v.major,.int .i64 v.minor,.int .i64 v.patch,.str v.pre,.str v.build,.sl 3 ((nS nm g.aU (g.val (most+1)).toNat).1.map bn.D),.sl 3 ((eP (nS nm g.aU (g.val (most+1)).toNat).2 nm).1.map mR.D),.own 107 2 0 1]) (he:=dh) ?_;refine j7 ?_;refine bG 107 ?_;refine zg ?_;refine jc trivial DZ (dp ai (?_)) ab4 ai ai;rw[show pR g nm v most=(⟨nm,v,(nS nm g.aU (g.val (most+1)).toNat).1,(eP (nS nm g.aU (g.val (most+1)).toNat).2 nm).1,(lG (eP (nS nm g.aU (g.val (most+1)).toNat).2 nm).2 (nS nm g.aU (g.val (most+1)).toNat).1).1⟩,(lG (eP (nS nm g.aU (g.val (most+1)).toNat).2 nm).2 (nS nm g.aU (g.val (most+1)).toNat).1).2)from rfl,hF];rfl
  refine c9 ?_;have hF:(lG (eP (nS nm g.aU (g.val (most+1)).toNat).2 nm).2 (nS nm g.aU (g.val (most+1)).toNat).1)=([],(eP (nS nm g.aU (g.val (most+1)).toNat).2 nm).2.aU):=ah hc2;refine zg ?_;refine jc trivial DZ (dp ai (?_)) ab4 ai ai;rw[show pR g nm v most=(⟨nm,v,(nS nm g.aU (g.val (most+1)).toNat).1,(eP (nS nm g.aU (g.val (most+1)).toNat).2 nm).1,(lG (eP (nS nm g.aU (g.val (most+1)).toNat).2 nm).2 (nS nm g.aU (g.val (most+1)).toNat).1).1⟩,(lG (eP (nS nm g.aU (g.val (most+1)).toNat).2 nm).2 (nS nm g.aU (g.val (most+1)).toNat).1).2)from rfl,hF];rfl
def Mr:aj:=bd 131
def w533:uF (ct Y Mr):=λs b hp0=>by
 refine zg ?_;intro u0;refine gE hm (ι:=(Nat×Nat×Ψ)) (λp:Nat×Nat×Ψ=>[⟨true,.str s⟩,⟨true,.int .u8 b⟩,.un,⟨true,.int .i64 (p.1:Nat)⟩,⟨true,.int .i64 (s.length:Nat)⟩,.un,.un,.un,⟨true,.own 0 1 0 p.2.2.length⟩,⟨true,.int .i64 (p.2.1:Nat)⟩]) (λp=>[(0,.buf 1 (p.2.2.map D.str))]) 6 (λp=>p.1<=s.length/\p.2.1<=p.1/\p.2.2.length<=p.1/\bh s b=p.2.2++fK b (s.drop p.1) ((s.take p.1).drop p.2.1)) (λp=>s.length-p.1) (0,0,[]) ⟨aJ,aJ,aJ,rfl⟩ (a8.to [] ai ai acn (by repeat(first|exact bB.nil|refine bB.mt ai ai ai ai ?_))) ?_;rintro⟨i,fr,acc⟩ ⟨hi,hf,ha,hr⟩;dsimp only at hi hf ha hr⊢;refine zc ?_ ?_<;>intro hc0
 .refine zg ?_;refine wp_cond (λhc1=>?_) (λhc1=>?_)
  .try simp only[gR]at hc1
   refine kv ?_;refine bm [(.str _)] ?_;refine zg ?_;exact⟨(i+1,i+1,acc++[(s.take i).drop fr]),⟨mQ,mQ,fM,by rw[hr,G9 ae hc1];simp⟩,mQ,(a8.to [(20,0)] ai ai qqq6 (by refine bB.nl 20 ai ai ai eo ?_;exact bB.nil))⟩
  simp only[bR]at hc1;refine zg ?_;exact⟨(i+1,fr,acc),⟨mQ,mQ,mQ,by rw[hr,Ha ae ae hc1]⟩,mQ,(a8.to [(0,0)] ai ai qqq6 Lk)⟩
 refine pW ?_;refine bm [(.str _)] ?_;refine dR ?_;refine bG 12 ?_;refine zr ?_;have hs:bh s b=acc++[s.drop fr]:=by rw[hr,EG ae]
 rw[hs];exact rfl
def BV:aj:=bd 177
def w659:uL (ct Y BV):=λt=>by
 refine zg ?_;intro u0;refine zf hm (λi=>[.e (.str t),.u 1,.i i,.i t.length,.u 3]) (λi=>[]) 4 (λi=>i<=t.length/\bK (λi=>bM (at8 t i)) 0 t.length=bK (λi=>bM (at8 t i)) i t.length) (λi=>t.length-i) ⟨ae,rfl⟩ [] ?_;rintro i ⟨hi,hr⟩;refine zc ?_ ?_<;>intro hc0
 .refine zc ?_ ?_<;>intro hc1
  .refine zr ?_;simp only[cT];rw[hr,ax ae];rcases hc1 with h|h<;>simp[bM]<;>omega
  refine fX (i+1) [] ?_;rw[hr,ax ae];rw[show bM (at8 t i)=true by simp only[bM,aD,aT];omega];rfl
 refine zr ?_;simp only[cT];rw[hr,bp ae];cases t<;>simp
def Jr:aj:=bd 126
def w440 (hm:(Y.at 0).bU):uz (ct Y Jr):=λn=>by
 exact lL
def Js:aj:=bd 128
def w442 (hA:WM Y):Ka (ct Y Js):=λs hp0=>by
 refine zg ?_;intro u0 u1;refine zf hm (λi=>[.u 2,.m 1 (bh s 46) D.str,.i i,.i ((bh s 46).length:Nat),.u 1,.m 1 (bh s 46) D.str,.u 7,.e (.bool (decide (((bh s 46).length:Int)<=4)))]) (λi=>[]) 11 (λi=>i<=(bh s 46).length/\tk s false=(decide ((bh s 46).length<=4)&&bK (λi=>jr false (bh s 46)[i]!) i (bh s 46).length)) (λi=>(bh s 46).length-i) ⟨ae,rfl⟩ [] ?_;rintro i ⟨hi,hr⟩;refine zc ?_ ?_<;>intro hc0
 .refine yZ ?_;generalize ht:(bh s 46)[i]! =t;refine zc ?_ ?_<;>intro hc1
  .refine zr ?_;first
    |(rw[hr,bp ae,gW];exact lv.2 ae)
    |(have hb:wR t=false:=by
       first
       |(simp only[wR];rcases hc1 with h|h
         .subst h;simp
         .rw[bA (by omega:¬t.length<=8)];simp)
       |(have hz:nB (at8 t j)=false:=by
          rcases hcw with⟨_,h,_⟩|⟨_,h⟩<;>(simp only[nB,jZ,bM,eg,eJ,bR];omega)
         rw[hj,ax hnx,hz];rfl)
      rw[hr,ax ae,show jr false (bh s 46)[i]! =false from(by simp only[jr,ht,hb,Bool.false_and])];simp)
  refine zg ?_;have hT:wR t=bK (λi=>nB (at8 t i)) 0 t.length:=by
   have:=List.length_pos_iff.2 hc1.1;simp only[wR];rw[aY ae,aY ae];rfl
  refine zfL hm (λj=>[.u 2,.m 1 (bh s 46) D.str,.i i,.i ((bh s 46).length:Nat),.u 1,.m 1 (bh s 46) D.str,.u 2,.e (.it 23),.u 4,.e (.bool (decide (((bh s 46).length:Int)<=4)))]) (λj=>[(23,.iter t j)]) 24 (λj=>j<=t.length/\wR t=bK (λi=>nB (at8 t i)) j t.length) (λj=>t.length-j) ⟨ae,hT⟩ [(23,23)] ?_;rintro j ⟨hj0,hj⟩;refine zg ?_;by_cases hnx:j<t.length
  .obtain⟨c,w,hdec,hw,hcw⟩:=xz t j hnx;refine IM c w (hp:=hnx) (hc:=hdec) ?_;refine zg ?_;refine aQ (t:=true) (λ_=>?_) (λh=>cb);refine gv ?_;refine lY ?_ hm;refine aS ?_;refine lh (.int _ _) ?_;refine bL ?_;refine bg (env':=[_,_,_,_,_,_,_,_,_,_,_,_,⟨_,(.int _ _)⟩,_,_]) ?_;refine aS ?_;refine bL ?_;refine zN ?_;refine bL ?_;refine bL ?_;refine pP ?_;refine Nq ?_;refine bL ?_;refine bL ?_;refine zN ?_;refine bL ?_;refine bL ?_;refine pP ?_;refine Nq ?_;refine vz ?_;refine bL ?_;refine bL ?_;refine oK ?_;refine vz ?_;refine bg (env':=[_,_,_,_,_,_,_,_,_,_,_,_,_,⟨_,(.bool _)⟩,_]) ?_;refine B5 ?_ ?_<;>intro hc3
   .refine zg ?_;refine rrrb ?_;first
     |(rw[hr,bp ae,gW];exact lv.2 ae)
     |(have hb:wR t=false:=by
        first
        |(simp only[wR];rcases hc1 with h|h
          .subst h;simp
          .rw[bA (by omega:¬t.length<=8)];simp)
        |(have hz:nB (at8 t j)=false:=by
           rcases hcw with⟨_,h,_⟩|⟨_,h⟩<;>(simp only[nB,jZ,bM,eg,eJ,bR];omega)
          rw[hj,ax hnx,hz];rfl)
       rw[hr,ax ae,show jr false (bh s 46)[i]! =false from(by simp only[jr,ht,hb,Bool.false_and])];simp)
   refine dR ?_;obtain⟨rfl,hat,-⟩:w=1/\(c:Int)=at8 t j/\c<128:=by
    rcases hcw with h|h
    .exact h
    .omega
   have hz:nB (at8 t j)=true:=by
    simp only[nB,jZ,bM,dk,aD,aT];omega
   refine fX (j+1) [(23,23)] ?_;rw[hj,ax hnx,hz];rfl
  .refine IL (hp:=hnx) ?_;refine zg ?_;refine aQ (t:=false) (λh=>cb) (λ_=>?_);refine fX (i+1) [] ?_;rw[hr,ax ae];rw[show jr false (bh s 46)[i]! =true from(by simp only[jr,Bool.false_and,Bool.not_false,gW];rw[ht,hj,bp ae])];rfl
 refine zr ?_;first
  |(rw[hr,bp ae,gW];exact lv.2 ae)
  |(have hb:wR t=false:=by
     first
     |(simp only[wR];rcases hc1 with h|h
       .subst h;simp
       .rw[bA (by omega:¬t.length<=8)];simp)
     |(have hz:nB (at8 t j)=false:=by
        rcases hcw with⟨_,h,_⟩|⟨_,h⟩<;>(simp only[nB,jZ,bM,eg,eJ,bR];omega)
       rw[hj,ax hnx,hz];rfl)
    rw[hr,ax ae,show jr false (bh s 46)[i]! =false from(by simp only[jr,ht,hb,Bool.false_and])];simp)
def Qt:aj:=bd 99
def w219 (hA:C249 Y)(hB:C316 Y)(hC:C461 Y)(hD:C462 Y):um (ct Y Qt):=λr hp0=>by
 show dD _ _ _ [⟨_,_⟩,_,_,_,_,_,_,_,_,_,_,_,_] _;have hft:=tL hp0;have q0:=hft.nm;have q00:=E1 r.v hft.v;refine aS ?_;refine se ?_;refine aE (hc:=hB r.v hft.v) ?_;refine zg ?_;refine gE hm (ι:=Nat) (λi=>[.un,.un,⟨true,.ptr 0 9 0 0⟩,⟨true,.int .i64 (i:Nat)⟩,.un,⟨true,.str (kO r i)⟩,.un,.un,.un,.un,.un,.un,.un]) (λi=>[(0,.buf 9 [Rec.D r])]) 13 (λi=>i<=r.needs.length) (λi=>r.needs.length-i) 0 ae (a8.to [(0,0)] ai ai (by repeat(first|exact fN.nil|refine fN.un ?_|refine fN.eq ai ?_|refine fN.nl (ay D.str (by rw[abr];simp[vw,cw,cv,qC])) ai ?_)) DY) ?_;intro i hi;have q1:=Jl hft i hi;refine zg ?_;intro u0;refine dF ?_ ?_<;>intro hc0
 .refine dR ?_;have hnf:=hft.n _ (aq (show i<r.needs.length by omega));have hn3:=hnf.1.1;refine zg ?_;refine zf hm (λj=>[.u 2,.p 0 9,.i i,.u 1,.e (.str (kO r i++dY r.needs[i]! j)),.i j,.u 6]) (λj=>[(0,.buf 9 [Rec.D r])]) 22 (λj=>j<=r.needs[i]!.any.length) (λj=>r.needs[i]!.any.length-j) ae [(0,0)] ?_;intro j hj;have q2:=GB hnf j ae;refine zg ?_;intro u1;refine dF ?_ ?_<;>intro hc1
  .refine dR ?_;have hwf:=hnf.1.2 _ (aq (show j<r.needs[i]!.any.length by omega));have q3:=z8 hwf;refine zg ?_;exact⟨j+1,ae,ae,(a8.to [(0,0)] ai ai (by repeat(first|exact fN.nil|refine fN.un ?_|refine fN.eq ai ?_|refine fN.nl (ay D.str (by rw[oF ae,fL])) ai ?_)) DY)⟩
  refine dR ?_;have q4:=n8 hnf.2.1;have q5:=hnf.2.2;refine pW ?_;refine aE (hc:=hD r.needs[i]!.when' hnf.2.1) ?_;refine zc ?_ ?_<;>intro hc2
  .refine zg ?_;have hq:kO r (i+1)=kO r i++(dY r.needs[i]! j++kL r.needs[i]!.when'++ye r.needs[i]!.option):=by rw[mN ae,zD (j:=j) ae]
   have ho:ye r.needs[i]!.option=[111,112,116,105,111,110,32]++r.needs[i]!.option++[10]:=by rw[ye,ah hc2];simp[cw,cv,nP]
   exact⟨i+1,ae,ae,(a8.to [(0,0)] ai ai (by repeat(first|exact fN.nil|refine fN.un ?_|refine fN.eq ai ?_|refine fN.nl (ay D.str (by rw[hq,ho];simp only[fL])) ai ?_)) DY)⟩
  refine zg ?_;have hq:kO r (i+1)=kO r i++(dY r.needs[i]! j++kL r.needs[i]!.when'++ye r.needs[i]!.option):=by rw[mN ae,zD (j:=j) ae]
  have ho:ye r.needs[i]!.option=[]:=by rw[ye,ak hc2]
  exact⟨i+1,ae,ae,(a8.to [(0,0)] ai ai (by repeat(first|exact fN.nil|refine fN.un ?_|refine fN.eq ai ?_|refine fN.nl (ay D.str (by rw[hq,ho];simp only[fL,gw])) ai ?_)) DY)⟩
 refine fA ?_;have h33:i=r.needs.length:=ae;subst h33;refine zg ?_;refine gE hm (ι:=Nat) (λi=>[.un,.un,⟨true,.ptr 0 9 0 0⟩,.un,.un,⟨true,.str (EV r i)⟩,.un,.un,.un,⟨true,.int .i64 (i:Nat)⟩,.un,.un,.un]) (λi=>[(0,.buf 9 [Rec.D r])]) 19 (λi=>i<=r.bars.length) (λi=>r.bars.length-i) 0 ae (a8.to [(0,0)] ai ai (by repeat(first|exact fN.nil|refine fN.un ?_|refine fN.eq ai ?_|refine fN.nl (ay D.str (by rw[abt])) ai ?_)) DY) ?_;intro i hi;have q1:=Jm hft i hi;refine zg ?_;intro u2;refine dF ?_ ?_<;>intro hc3
 .refine dR ?_;have q4:=hft.b _ (aq (show i<r.bars.length by omega));have q5:=q4.1;have q6:=q4.2.1.len;have q7:=n8 q4.2.2.len;refine iz ?_;refine se ?_;refine aE (hc:=hD r.bars[i]!.when' q4.2.2.len) ?_;refine zg ?_;have hq:=OC (r:=r) (i:=i) ae;exact⟨i+1,ae,ae,(a8.to [(0,0)] ai ai (by repeat(first|exact fN.nil|refine fN.un ?_|refine fN.eq ai ?_|refine fN.nl (ay D.str (by rw[hq];simp[HG,cw,cv,z7])) ai ?_)) DY)⟩
 refine fA ?_;have h33:i=r.bars.length:=ae;subst h33;refine zg ?_;refine gE hm (ι:=Nat) (λi=>[.un,.un,⟨true,.ptr 0 9 0 0⟩,.un,.un,⟨true,.str (Hi r i)⟩,.un,.un,.un,.un,.un,⟨true,.int .i64 (i:Nat)⟩,.un]) (λi=>[(0,.buf 9 [Rec.D r])]) 25 (λi=>i<=r.feats.length) (λi=>r.feats.length-i) 0 ae (a8.to [(0,0)] ai ai (by repeat(first|exact fN.nil|refine fN.un ?_|refine fN.eq ai ?_|refine fN.nl (ay D.str (by rw[abu])) ai ?_)) DY) ?_;intro i hi;have q1:=TQ hft i hi;refine zg ?_;intro u3;refine dF ?_ ?_<;>intro hc4
 .refine dR ?_;have q4:=hft.f _ (aq (show i<r.feats.length by omega));have q5:=Gm q4;have q6:=q4.2;simp only[xD,cw,cx,bJ,cj]at q5;refine pW ?_;refine bm [(.str _),(.str _)] ?_;refine kv ?_;refine pO (xs:=[j5,r.feats[i]!.name]) (ys:=r.feats[i]!.of) (he:=n9.sl) (hb:=eL) ?_;refine aE (hc:=hA ([j5,r.feats[i]!.name]++r.feats[i]!.of) 32 ae) (ha:=λ_=>ay (λd=>[d,D.int .u8 32]) (ud (q:=D.str) (λ_=>rfl) ai)) (hp:=λ_=>⟨qD (q:=D.str) (λ_=>rfl) ai,rfl,trivial⟩) ?_;refine Qj (hb:=λ_=>by first|omega|(simp only[cx,bJ,cj];omega)) ?_;refine zg ?_;have hq:=OD (r:=r) (i:=i) ae;exact⟨i+1,ae,ae,(a8.to [(0,0)] ai ai (by repeat(first|exact fN.nil|refine fN.un ?_|refine fN.eq ai ?_|refine fN.nl (ay D.str (by rw[hq];simp[xD,cw])) ai ?_)) DY)⟩
 refine dR ?_;have h33:i=r.feats.length:=ae;subst h33;refine zr ?_;exact Jn r
def L3:aj:=bd 137
def w510:Ks (ct Y L3):=λw c hp0=>by
 refine zg ?_;intro u0 u1;refine dF ?_ ?_<;>intro hc0
 .refine zr ?_;unfold sF;rw[bA ae,Bool.false_and]
 refine zg ?_;intro u2;refine zf hm (λi=>[.u 1,.m 1 c (D.int .i64),.u 1,.p 0 1,.u 1,.i i,.i c.length,.u 1,.m 1 c (D.int .i64),.u 3]) (λi=>[(0,.buf 1 [bP.D w])]) 11 (λi=>i<=c.length/\sF w c=bK (zj w c) i c.length) (λi=>c.length-i) ⟨ae,by unfold sF;rw[aY ae,eh]⟩ [(0,0)] ?_;rintro i ⟨hi,hr⟩;refine zc ?_ ?_<;>intro hc1
 .refine zc ?_ ?_<;>intro hc2
  .refine zr ?_;rw[hr,ax ae,Sq hc2];rfl
  refine fX (i+1) [(0,0)] ?_;rw[hr,ax ae,Md hc2];rfl
 refine zr ?_;rw[hr,bp ae]
def Pk:aj:=bd 90
def w273 (hm:(Y.at 0).bU)(hA:C175 Y)(hB:C510 Y):uq (ct Y Pk):=λw c hp0=>by
 exact lL
def Pl:aj:=bd 92
def w624 (hm:(Y.at 0).bU)(hA:C712 Y):uI (ct Y Pl):=λw c x hp0=>by
 refine kv ?_;obtain⟨hsm,⟨hx0,hx1⟩,hft⟩:=hp0;have hfc:=me hft;obtain⟨j,hj⟩:∃j:Nat,x.u=(j:Int):=⟨x.u.toNat,ae⟩
 have hjt:x.u.toNat=j:=ae;have hjl:j<w.us.length:=ae;have hcj:=hfc.2 j ae;have hun:=hsm.1 _ (aq hjl);have hvs:0<=c[j]! ->w.us[j]!.ar[c[j]!.toNat]!.v.sm:=λh=>(hun.2 _ (aq ae)).1
 refine iz ?_;refine pW ?_;refine cD c[j]!.toNat (hj:=λhf=>wU) (hb:=λhf=>wU) ?_;refine c9 ?_;refine dj (v:=b6.D w.us[j]!.ar[c[j]!.toNat]!.v) (hi:=λhf=>wU) ?_;refine ca (hc:=λhf=>hA x.s w.us[j]!.ar[c[j]!.toNat]!.v ⟨hsm.2,hvs (by have hf:0<=c[j]! :=Ls;exact hf)⟩) ?_;refine zr ?_;unfold iy;rw[hjt]
def Pm:aj:=bd 91
def w623 (hA:C624 Y):uH (ct Y Pm):=λw c l hp0=>by
 refine zg ?_;intro u0;refine zf hm (λi=>[.u 1,.m 1 c (D.int .i64),.m 3 l Want.D,.u 1,.i i,.i l.length,.u 1,.m 3 l Want.D,.p 0 1,.u 2]) (λi=>[(0,.buf 1 [bP.D w])]) 5 (λi=>i<=l.length/\yL w c l=pd (λi=>iy w c l[i]!) i l.length) (λi=>l.length-i) ⟨ae,Ou⟩ [(0,0)] ?_;rintro i ⟨hi,hr⟩;refine zc ?_ ?_<;>intro hc0
 .refine zc ?_ ?_<;>intro hc1
  .refine zr ?_;rw[hr,j9 ae,hc1];rfl
  refine fX (i+1) [(0,0)] ?_;rw[hr,j9 ae];simp only[hc1,Bool.false_or]
 refine zr ?_;rw[hr,tC ae]
def VV:aj:=bd 48
def w170 (hA:C169 Y):uq (ct Y VV):=λw c hp0=>by
 refine zg ?_;intro u0 u1;refine dF ?_ ?_<;>intro hc0
 .refine zr ?_;rw[aeQ hc0]
 refine zg ?_;refine zf hm (λi=>[.u 1,.m 1 c (D.int .i64),.u 1,.p 0 1,.u 1,.i i,.u 2]) (λi=>[(0,.buf 1 [bP.D w])]) 14 (λi=>i<=c.length/\dw w c=bK (zj w c) i c.length) (λi=>c.length-i) ⟨ae,by unfold dw;unfold sF;rw[aY ae,eh,hc0.2,eh]⟩ [(0,0)] ?_;rintro i ⟨hi,hr⟩;refine zg ?_;intro u2;refine dF ?_ ?_<;>intro hc1
 .refine zc ?_ ?_<;>intro hc2
  .refine zr ?_;rw[hr,ax ae,Sq hc2];rfl
  refine fX (i+1) [(0,0)] ?_;rw[hr,ax ae,Md hc2];rfl
 refine zr ?_;rw[hr,bp ae]
def VW:aj:=bd 106
def w629 (hm:(Y.at 0).bU)(hA:C627 Y):uI (ct Y VW):=λw c x hp0=>by
 refine kv ?_;obtain⟨hsm,⟨hx0,hx1⟩,hft⟩:=hp0;have hfc:=me hft;obtain⟨j,hj⟩:∃j:Nat,x.u=(j:Int):=⟨x.u.toNat,ae⟩
 have hjt:x.u.toNat=j:=ae;have hjl:j<w.us.length:=ae;have hcj:=hfc.2 j ae;have hun:=hsm.1 _ (aq hjl);have hvs:0<=c[j]! ->w.us[j]!.ar[c[j]!.toNat]!.v.sm:=λh=>(hun.2 _ (aq ae)).1
 refine iz ?_;refine pW ?_;refine cD c[j]!.toNat (hj:=λhf=>wU) (hb:=λhf=>wU) ?_;refine c9 ?_;refine dj (v:=b6.D w.us[j]!.ar[c[j]!.toNat]!.v) (hi:=λhf=>wU) ?_;refine ca (hc:=λhf=>hA x.s w.us[j]!.ar[c[j]!.toNat]!.v ⟨hsm.2,hvs (by have hf:0<=c[j]! :=Ls;exact hf)⟩) ?_;refine zr ?_;unfold iy;rw[hjt]
def QP:aj:=bd 139
def w628 (hA:C629 Y):uH (ct Y QP):=λw c l hp0=>by
 refine zg ?_;refine zf hm (λi=>[.u 1,.m 1 c (D.int .i64),.m 3 l Want.D,.u 1,.i i,.u 1,.p 0 1,.u 1]) (λi=>[(0,.buf 1 [bP.D w])]) 3 (λi=>i<=l.length/\yL w c l=pd (λi=>iy w c l[i]!) i l.length) (λi=>l.length-i) ⟨ae,Ou⟩ [(0,0)] ?_;rintro i ⟨hi,hr⟩;refine zg ?_;intro u0;refine dF ?_ ?_<;>intro hc0
 .refine zc ?_ ?_<;>intro hc1
  .refine zr ?_;rw[hr,j9 ae,hc1];rfl
  refine fX (i+1) [(0,0)] ?_;rw[hr,j9 ae];simp only[hc1,Bool.false_or]
 refine zr ?_;rw[hr,tC ae]
def QJ:aj:=bd 171
def w906 (hA:C907 Y)(hB:C908 Y)(hC:WD Y):La (ct Y QJ):=λr e nm ft hp0=>by
 refine c9 ?_;have hns:=gH hp0.1;refine zg ?_;refine zf hm (λi=>[.u 2,.e (.str nm),.e (.str ft),.u 1,.i i,.p 1 9,.u 2,.p 2 3,.u 2,.o 0 1 ((ja (r.needs.take i) e nm ft)).length]) (λi=>[(0,.buf 1 (((ja (r.needs.take i) e nm ft)).map ed)),(1,.buf 9 [Rec.D r]),(2,.buf 3 [Env.D e])]) 5 (λi=>i<=r.needs.length) (λi=>r.needs.length-i) ae [(0,1),(1,2)] ?_;intro i hi;have hol:=(zJ (ns:=r.needs.take i) (e:=e) (nm:=nm) (ft:=ft) λn hn=>hns.2 n (ER hn)).1;rw[eE]at hol;refine zg ?_;intro u0;refine dF ?_ ?_<;>intro hc0
 .refine yZ ?_;refine cE _ ?_;refine dR ?_;have hna:=(hns.2 _ (aq (show i<r.needs.length by omega))).1;have hrl:=(tY (hns.2 _ (aq (show i<r.needs.length by omega)))).1;refine pW ?_;intro u1;refine cD 0 (hj:=λ_=>rfl) (hb:=λ_=>ae) ?_;refine yZ ?_;refine ca (hc:=λhf=>hA _ (e) ?_) ?_;rotate_left;first|assumption|omega|exact⟨hns.2 _ (aq ae),hp0.1.2.2.1 _ (aq ae)⟩|exact⟨(hp0.1.2.2.1 _ (aq ae)).2.1,hp0.2⟩|exact((hp0.1.2.2.1 _ (aq ae)).1 _ (aq ae)).1.2
  refine zc ?_ ?_<;>intro hc1
  .refine zg ?_;rw[show(ja (r.needs.take i) e nm ft)=ja (r.needs.take (i+1)) e nm ft from by rw[<-IF ae,afh hc1,gw]];exact iw (i+1) [(0,0),(1,1),(2,2)]
  refine zc ?_ ?_<;>intro hc2
  .refine dR ?_;refine aE (hc:=hC _ ?_) ?_;rotate_left;first|assumption|omega|exact⟨hns.2 _ (aq ae),hp0.1.2.2.1 _ (aq ae)⟩|exact⟨(hp0.1.2.2.1 _ (aq ae)).2.1,hp0.2⟩|exact((hp0.1.2.2.1 _ (aq ae)).1 _ (aq ae)).1.2
   refine pO (q:=ed) (xs:=(ja (r.needs.take i) e nm ft)) (ys:=iQ r.needs[i]!) (he:=n9.sl) (hb:=ae) ?_;refine kv ?_;refine bc (Key.D (⟨nm,ft⟩)) ?_;refine c7 ?_;refine cD 0 (hj:=λ_=>rfl) (hb:=λ_=>ae) ?_;refine c7 ?_;refine aE (hc:=hB (r.needs[i]!.any[0]!.range) acb) ?_;refine bc (jv.D (⟨⟨nm,ft⟩,eY r.needs[i]!.any[0]!.range⟩:jv)) ?_;refine bm [jv.D (⟨⟨nm,ft⟩,eY r.needs[i]!.any[0]!.range⟩:jv)] ?_;refine bm [.own 56 4 0 1] ?_;refine yk (((ja (r.needs.take i) e nm ft)++iQ r.needs[i]!).map ed++[.own 56 4 0 1]) (n:=(((ja (r.needs.take i) e nm ft)++iQ r.needs[i]!)++[[(⟨⟨nm,ft⟩,eY r.needs[i]!.any[0]!.range⟩:jv)]]).length) (ha:=mb) (he:=n9.own rfl (by first|rfl|simp)) (hz:=yU) (hn:=Fu) (hb:=Fw) ?_;refine dR ?_;refine bG 56 ?_ (he:=lM) (hm:=lM);refine zg ?_;rw[p9,show((ja (r.needs.take i) e nm ft)++iQ r.needs[i]!)++[[(⟨⟨nm,ft⟩,eY r.needs[i]!.any[0]!.range⟩:jv)]]=ja (r.needs.take (i+1)) e nm ft from by rw[<-IF ae,Tn hc1,show ZS r.needs[i]! =iQ r.needs[i]! from ah hc2,fL]];exact iw (i+1) [(58,0),(1,1),(2,2)]
  refine j7 ?_;refine bc (Key.D (⟨nm,ft⟩)) ?_;refine c7 ?_;refine cD 0 (hj:=λ_=>rfl) (hb:=λ_=>ae) ?_;refine c7 ?_;refine aE (hc:=hB (r.needs[i]!.any[0]!.range) acb) ?_;refine bc (jv.D (⟨⟨nm,ft⟩,eY r.needs[i]!.any[0]!.range⟩:jv)) ?_;refine bm [jv.D (⟨⟨nm,ft⟩,eY r.needs[i]!.any[0]!.range⟩:jv)] ?_;refine bm [.own 51 4 0 1] ?_;refine yk ((ja (r.needs.take i) e nm ft).map ed++[.own 51 4 0 1]) (n:=((ja (r.needs.take i) e nm ft)++[[(⟨⟨nm,ft⟩,eY r.needs[i]!.any[0]!.range⟩:jv)]]).length) (ha:=mb) (he:=n9.own rfl (by first|rfl|simp)) (hz:=yU) (hn:=Fu) (hb:=Fw) ?_;refine dR ?_;refine bG 51 ?_ (he:=lM) (hm:=lM);refine zg ?_;rw[p9,show(ja (r.needs.take i) e nm ft)++[[(⟨⟨nm,ft⟩,eY r.needs[i]!.any[0]!.range⟩:jv)]]=ja (r.needs.take (i+1)) e nm ft from by rw[<-IF ae,Tn hc1,show ZS r.needs[i]! =[]from ak hc2,rH]];exact iw (i+1) [(53,0),(1,1),(2,2)]
 refine c7 ?_;obtain rfl:i=r.needs.length:=ae;rw[List.take_length];refine bG 0 ?_ (he:=lM) (hm:=lM);exact lL
def Wf:aj:=bd 184
def w701 (hm:(Y.at 0).bU)(hA:Bn Y)(hB:Uk Y):uM (ct Y Wf):=λa b hp0=>by
 exact lL
def FX:aj:=bd 183
def w700 (hm:(Y.at 0).bU)(hA:C701 Y):KP (ct Y FX):=λx nm v hp0=>by
 exact lL
def rB:aj:=bd 182
def w699 (hA:C700 Y):KO (ct Y rB):=λl nm v hp0=>by
 refine zg ?_;intro u0;refine zf hm (λi=>[.m 11 l ju.D,.e (.fn 700 [.ref 1 [.str nm] 0 0,.ref 5 [b6.D v] 0 0]),.u 1,.i i,.i l.length,.u 3]) (λi=>[]) 4 (λi=>i<=l.length/\qt l nm v 0=qt l nm v i) (λi=>l.length-i) ⟨ae,rfl⟩ [] ?_;rintro i ⟨hi,hr⟩;refine zc ?_ ?_<;>intro hc0
 .refine F1 ?_;refine Cm (hc:=λ_=>hA l[i]! nm v ⟨hp0.1 _ (aq ae),hp0.2⟩) ?_;refine zc ?_ ?_<;>intro hc1
  .refine zr ?_;rw[hr,Z2 ae hc1]
  refine fX (i+1) [] ?_;rw[hr,Z3 ae hc1]
 refine zr ?_;rw[hr,Tk ae]
def Oj:aj:=bd 136
def w511 (hm:(Y.at 0).bU)(hA:C699 Y):uC (ct Y Oj):=λl nm v hp0=>by
 refine j7 ?_;refine bG 0 ?_;refine bG 1 ?_;refine c7 ?_;refine Tq [.ref 1 [.str nm] 0 0,.ref 5 [b6.D v] 0 0] ?_;exact lL
def We:aj:=bd 81
def w353 (hA:C74 Y)(hB:Uj Y)(hC:C511 Y):uw (ct Y We):=λs hp0=>by
 refine zg ?_;refine aQ (λhc0=>?_) (λhc0=>?_)
 .simp only[dk,b8,aT]at hc0;have hf:gA s=false:=by
   unfold gA;rcases hc0 with h|h
   .rw[h];rfl
   .rw[show decide (s.es.length<=64)=false from bA ae];simp
  refine zr ?_;exact hf.symm
 simp only[eg,cF,bR]at hc0;have hq:gA s=bK (sy s.es) 0 s.es.length:=by unfold gA;rw[hc0.1,aY (show s.es.length<=64 by omega)];simp
 refine zg ?_;intro u0;refine zf hm (λi=>[.u 2,.p 0 2,.u 1,.i i,.i s.es.length,.u 1,.m 11 s.es ju.D,.u 5]) (λi=>[(0,.buf 2 [bz.D s])]) 16 (λi=>i<=s.es.length/\gA s=bK (sy s.es) i s.es.length) (λi=>s.es.length-i) ⟨ae,hq⟩ [(0,0)] ?_;rintro i ⟨hi,hr⟩;refine zc ?_ ?_<;>intro hc1
 .refine dR ?_;have hsm:=hp0 _ (aq (show i<s.es.length by omega));refine iz ?_;refine iz ?_;refine dR ?_;refine al7 (q:=ju.D) i (hj:=λ_=>rfl) (hb:=λ_=>ae) ?_;refine kv ?_;refine ca (hc:=λhf=>hC (s.es.take i) s.es[i]!.r.name s.es[i]!.r.v ⟨λx hx=>(hp0 x (Fs hx)).1.2,hsm.1.2⟩) ?_;refine zg ?_;refine wp_cond (λhc2=>?_) (λhc2=>?_)
  .have hen:sy s.es i=false:=by
    unfold sy;simp only[dk,b8,aT,bR]at hc2;simp only[eJ,bR];rcases hc2 with(h|h)|h
    .exact .inl (.inl h)
    .exact .inl (.inr h)
    .exact .inr ae
   refine zr ?_;rw[hr,ax ae,hen];rfl
  have hen:sy s.es i=true:=by
   unfold sy;simp only[eg,cF,aT,bR]at hc2;simp only[aD,aT];exact⟨hc2.1,ae⟩
  refine fX (i+1) [(0,0)] ?_;rw[hr,ax ae,hen];rfl
 refine zr ?_;rw[hr,bp ae]
def VO:aj:=bd 59
def w504 (hA:C75 Y)(hB:O0 Y)(hC:WN Y):Kn (ct Y VO):=λs r hp0=>by
 refine zc ?_ ?_<;>intro hc0
 .refine c7 ?_;refine bW [.str [],.aO] ?_;refine zr ?_;rw[put_1 hc0];rfl
 refine zc ?_ ?_<;>intro hc1
 .refine c9 ?_;refine bW [.str [],.aO] ?_;refine zr ?_;rw[put_2 hc0 hc1];rfl
 refine pW ?_;refine aE (hc:=hC (s.es) (r.name) (r.v) (by first|assumption|exact hp0.1|exact hp0.2|exact⟨λx hx=>(hp0.1 x hx).1.2,hp0.2.1.2⟩)) ?_;refine zc ?_ ?_<;>intro hc2
 .refine c9 ?_;refine bW [.str [],.aO] ?_;refine zr ?_;rw[put_3 hc0 hc1 hc2];rfl
 refine zg ?_;intro u0;refine B5 ?_ ?_<;>intro hc3
 .refine c9 ?_;refine bW [.str [],.aO] ?_;refine zr ?_;rw[put_4 hc0 hc1 hc2 ae];rfl
 refine c7 ?_;refine bG 0 ?_ (he:=ab8) (hm:=ab8);refine c7 ?_;refine aay (v:=.str s.name) ?_;refine c7 ?_;refine Cl (he:=n9.sl) (n:=s.es.length) (hn:=aJ) (hb:=ae) ?_;refine c7 ?_;refine bc (ju.D (⟨r,wQ r,false⟩:ju)) ?_;refine bm [ju.D (⟨r,wQ r,false⟩:ju)] ?_;refine cQ (q:=ju.D) (xs:=s.es) (e:=(⟨r,wQ r,false⟩:ju)) (hb:=ae) ?_;refine bW [.str s.name,.own 40 11 0 (s.es++[(⟨r,wQ r,false⟩:ju)]).length] ?_;refine dR ?_;refine bG 40 ?_;refine zr ?_;rw[put_5 hc0 hc1 hc2 ae];rfl
def Qy:aj:=bd 58
def w503 (hm:(Y.at 0).bU)(hA:O0 Y)(hB:WN Y):Km (ct Y Qy):=λs nm v on hp0=>by
 refine zc ?_ ?_<;>intro hc0
 .refine c7 ?_;refine bW [.str [],.aO] ?_;refine zr ?_;rw[amE hc0];rfl
 refine kv ?_;refine aE (hc:=hB (s.es) (nm) (v) (by first|assumption|exact hp0.1|exact⟨λx hx=>(hp0.1 x hx).1.2,hp0.2⟩)) ?_;refine zc ?_ ?_<;>intro hc1
 .refine c7 ?_;refine bW [.str [],.aO] ?_;refine zr ?_;rw[amF hc0 hc1];rfl
 refine c7 ?_;have h64:s.es.length<=64:=(afK hc0).2;obtain⟨j,hj,hjl⟩:=(Ck (l:=s.es) (nm:=nm) (v:=v)).resolve_left ae;refine c7 ?_;refine zL (ys:=s.es.map ju.D) (n:=s.es.length) (he:=n9.sl) (hn:=aJ) (hb:=ae) ?_;refine qH ?_;refine sU ((s.es.set j {s.es[j]! with off:=on}).map ju.D) (hi:=mb) (he:=Jh hjl rfl) ?_;refine c7 ?_;have hsl:(s.es.set j {s.es[j]! with off:=on}).length=s.es.length:=List.length_set;refine dR ?_;refine bW [.str s.name,.own 17 11 0 s.es.length] ?_;refine cE (.agg [.str s.name,.own 17 11 0 (s.es.set j {s.es[j]! with off:=on}).length]) (he:=by rw[List.length_set];exact rfl) ?_;refine c7 ?_;refine bG 17 ?_;refine zr ?_;rw[amG hc0 hj];rfl
def VY:aj:=bd 149
def w249:JL (ct Y VY):=λl x hp0=>by
 refine zg ?_;refine zf hm (λi=>[.m 1 l D.str,.e (.int .u8 (x.toNat:Nat)),.u 1,.i i,.u 2,.e (.str (cv [x] (l.take i)))]) (λi=>[]) 3 (λi=>i<=l.length) (λi=>l.length-i) ae [] ?_;intro i hi;refine zg ?_;intro u0;refine dF ?_ ?_<;>intro hc0
 .refine fA ?_;have hj:=Gv [x] l (i+1);refine zg ?_;refine aQ (λhc1=>?_) (λhc1=>?_)
  .simp only[aT]at hc1;have ht:=Dt [x] l i ae;rw[ak ae]at ht;have htl:=ay List.length ht;simp only[cx,List.length_singleton]at htl;refine dR ?_;refine bm [.int .u8 _] ?_;refine aar [x] (he:=λ_=>n9.all ai rfl) (hs:=λ_=>rfl) ?_;refine zg ?_;exact⟨i+1,ae,ae,(a8.to [] ai ai (by repeat(first|exact fN.nil|refine fN.un ?_|refine fN.eq ai ?_|refine fN.nl (ay D.str (by rw[ht])) ai ?_)) DY)⟩
  simp only[bR]at hc1;have ht:=Dt [x] l i ae;rw[ah ae]at ht;have htl:=ay List.length ht;simp only[cx,cj]at htl;have hi0:i=0:=ae;refine pW ?_;refine Qj (hb:=λ_=>by first|(simp only[cx,List.length_singleton];omega)|(subst hi0;simp only[List.take_zero,cv,cj]at htl⊢;omega)) ?_;refine zg ?_;exact⟨i+1,ae,ae,(a8.to [] ai ai (by repeat(first|exact fN.nil|refine fN.un ?_|refine fN.eq ai ?_|refine fN.nl (ay D.str (by rw[ht];subst hi0;rfl)) ai ?_)) DY)⟩
 refine zr ?_;rw[gG ae]
def NW:aj:=bd 231
def w815:K0 (ct Y NW):=λl=>by
 refine zg ?_;refine zfx hm (1:Nat) (λi=>[.m 1 l D.str,.u 1,.i i,.u 2]) (λi=>[]) 2 (λi=>1<=i/\(i<=l.length\/i=1)/\rising l=bK (λi=>Op.bytesLess l[i-1]! l[i]!) i l.length) (λi=>l.length-i) ⟨ae,ae,rfl⟩ [] ?_;rintro i ⟨h1,hi,hr⟩;refine zg ?_;intro u0;refine dF ?_ ?_<;>intro hc0
 .refine kv ?_;refine cD (i-1) ?_;refine zg ?_;refine wp_cond (λhc1=>?_) (λhc1=>?_)
  .simp only[b8]at hc1;refine zr ?_;rw[hr,ax ae,hc1];rfl
  simp only[cF]at hc1;refine zl (i+1) [] ?_;exact⟨ae,ae,by rw[hr,ax ae,hc1];rfl⟩
 refine zr ?_;rw[hr,bp ae]
def Za:aj:=bd 45
def w315 (hA:C138 Y)(hB:C553 Y):JV (ct Y Za):=λl hp0=>by
 refine zg ?_;intro u0;refine zf hm (λi=>[.u 2,.p 0 4,.i i,.i l.lines.length,.u 1,.m 9 l.lines dI.D,.u 3]) (λi=>[(0,.buf 4 [j8.D l])]) 6 (λi=>i<=l.lines.length/\bK (xQ l.lines) 0 l.lines.length=bK (xQ l.lines) i l.lines.length) (λi=>l.lines.length-i) ⟨ae,rfl⟩ [(0,0)] ?_;rintro i ⟨hi,hr⟩;refine zc ?_ ?_<;>intro hc0
 .refine qH ?_;refine cE _ ?_;refine dR ?_;refine bc (dI.D l.lines[i]!) ?_;refine aE (hc:=hB l.lines[i]! (hp0.2.1 _ (aq ae))) ?_;refine yZ ?_;refine cD (i-1) ?_;refine zc ?_ ?_<;>intro hc1
  .refine zr ?_;have hz:xQ l.lines i=false:=by
    simp only[xQ];revert hc1;generalize Ih l.lines[i]! =z0;generalize Op.bytesLess l.lines[i-1]!.name l.lines[i]!.name=z1;by_cases e0:0<i<;>cases z0<;>cases z1<;>simp_all
   simp only[Mz];rw[hr,ax ae,hz];simp
  refine zg ?_;have hz:xQ l.lines i=true:=by
   simp only[xQ];revert hc1;generalize Ih l.lines[i]! =z0;generalize Op.bytesLess l.lines[i-1]!.name l.lines[i]!.name=z1;by_cases e0:0<i<;>cases z0<;>cases z1<;>simp_all
  refine fX (i+1) [(0,0)] ?_;rw[hr,ax ae,hz];rfl
 refine zr ?_;simp only[Mz];rw[hr,bp ae,gW];have h9:decide ((l.lines.length:Int)<=48)=decide (l.lines.length<=48):=lv.2 ae;rw[h9]
def I0:aj:=bd 147
def w461 (hm:(Y.at 0).bU)(hA:C249 Y):Kh (ct Y I0):=λw hp0=>by
 show dD _ _ _ [⟨_,_⟩,_,_,_,_,_,_] _;have q1:=E3 hp0;have q2:=hp0.1.1.1;have q3:=hp0.1.1.2.len;refine aS ?_;refine zg ?_;intro u0;refine dF ?_ ?_<;>intro hc0
 .refine dR ?_;refine aE (hc:=hA w.feats 44 ae) ?_;refine zc ?_ ?_<;>intro hc1
  .refine zr ?_;all_goals
    simp only[j6,cw,tp,cv,sb,r9,r7];first|rw[ak (show w.feats.length=0 by omega)]|rw[ah (show ¬w.feats.length=0 by omega)]
    simp[hc1]
  refine zr ?_;all_goals
   simp only[j6,cw,tp,cv,sb,r9,r7];first|rw[ak (show w.feats.length=0 by omega)]|rw[ah (show ¬w.feats.length=0 by omega)]
   simp[hc1]
 refine zc ?_ ?_<;>intro hc1
 .refine zr ?_;all_goals
   simp only[j6,cw,tp,cv,sb,r9,r7];first|rw[ak (show w.feats.length=0 by omega)]|rw[ah (show ¬w.feats.length=0 by omega)]
   simp[hc1]
 refine zr ?_;all_goals
  simp only[j6,cw,tp,cv,sb,r9,r7];first|rw[ak (show w.feats.length=0 by omega)]|rw[ah (show ¬w.feats.length=0 by omega)]
  simp[hc1]
def Qu:aj:=bd 148
def w462 (hm:(Y.at 0).bU):Ki (ct Y Qu):=λs hp0=>by
 refine zc ?_ ?_<;>intro hc0
 .refine zr ?_;rw[kL,ak hc0]
 refine zr ?_;rw[kL,ah hc0];simp[cw,cv,yR]
def NC:aj:=bd 13
def w1222 (hA:C263 Y)(hB:O0 Y):Fp (ct Y NC):=λa b hp0=>by
 refine zc ?_ ?_<;>intro hc0
 .refine zr ?_;unfold sI;rcases hc0 with((h|h)|h)|h<;>simp[h];omega
 refine zg ?_;refine zf hm (λi=>[.u 3,.p 0 2,.p 1 2,.u 1,.i i,.u 2]) (λi=>[(0,.buf 2 [bz.D a]),(1,.buf 2 [bz.D b])]) 28 (λi=>(i<=a.es.length/\a.es.length<=b.es.length)/\sI a b=bK (λi=>decide (a.es[i]!.sum=b.es[i]!.sum)&&decide (a.es[i]!.r=b.es[i]!.r)) i a.es.length) (λi=>a.es.length-i) ⟨⟨ae,ae⟩,by unfold sI;simp[hc0];omega⟩ [(0,0),(1,1)] ?_;rintro i ⟨⟨hi,hab⟩,hr⟩;refine zg ?_;intro u0;refine dF ?_ ?_<;>intro hc1
 .refine zc ?_ ?_<;>intro hc2
  .refine zr ?_;rw[hr,ax ae];rcases hc2 with h|h
   .rw[bA h];rfl
   .rw[bA h,Bool.and_false];rfl
  refine zl (i+1) [(0,0),(1,1)] ?_;exact⟨⟨ae,ae⟩,by rw[hr,ax ae,aY hc2.1,aY hc2.2];rfl⟩
 refine zr ?_;rw[hr,bp ae]
def My:aj:=bd 10
def w1220 (hA:C266 Y):Fm (ct Y My):=λshop ks most hp0=>by
 refine j7 ?_;refine bc (Gs.D ⟨ks,0⟩) ?_;refine zg ?_;refine zf hm (λi=>[.m 2 (UY ⟨ks,0⟩ shop i).1 bz.D,.u 1,.i most,.u 1,.i i,.u 1,.p 0 2]) (λi=>[(0,.buf 2 [Gs.D (UY ⟨ks,0⟩ shop i).2])]) 6 (λi=>(i:Int)<=most) (λi=>most.toNat-i) ae [(3,0)] ?_;intro i hi;have hz0:(⟨ks,0⟩:Gs).i=0:=rfl;obtain⟨⟨⟨hq1,hq2⟩,hq3⟩,hq4⟩:=PA ⟨ks,0⟩ hp0.1.1 hp0.1.2 i;rw[hz0]at hq1 hq2;refine zc ?_ ?_<;>intro hc0
 .refine j7 ?_;refine dd (hc:=hA (UY ⟨ks,0⟩ shop i).2 (UY ⟨ks,0⟩ shop i).1 ae ⟨hq4,ae,ae⟩) ?_;exact iw (i+1) [(0,0)]
 refine c7 ?_;obtain rfl:i=most.toNat:=ae;exact lL
def Qq:aj:=bd 214
def w955:Lg (ct Y Qq):=λl nm=>by
 refine zg ?_;refine zf hm (λi=>[.m 2 l b7.D,.e (.str nm),.u 1,.i i,.u 2]) (λi=>[]) 2 (λi=>i<=l.length/\findF l nm 0=findF l nm i) (λi=>l.length-i) ⟨ae,rfl⟩ [] ?_;rintro i ⟨hi,hr⟩;refine zg ?_;intro u0;refine dF ?_ ?_<;>intro hc0
 .refine zc ?_ ?_<;>intro hc1
  .refine zr ?_;rw[hr,Yd ae hc1]
  refine fX (i+1) [] ?_;rw[hr,Ye ae hc1]
 refine zr ?_;rw[hr,UN ae]
def aaR:aj:=bd 169
def w905 (hm:(Y.at 0).bU)(hA:C955 Y):K9 (ct Y aaR):=λl nm=>by
 refine zc ?_ ?_<;>intro hc0
 .refine zr ?_;rw[show vy l nm=[]from ak hc0];rfl
 refine c7 ?_;obtain⟨j,hj,hjl⟩:=(UO l nm).resolve_left ae;refine zr ?_;rw[show vy l nm=l[j]!.of from by unfold vy;rw[ah hc0,hj,Int.toNat_natCast]];rfl
end Go.Abs
end
