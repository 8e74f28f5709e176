/- A part of the proofs. -/
import Derived.Test.YtgnjlompgjhaaaaGreatDoorP05
set_option linter.all false
set_option maxRecDepth 4000
namespace Go.Abs
variable {Y:Ctx}(hm:(Y.at 0).bU)
def Gt:aD:=⟨1,8,fY,bR,(sq (r1 [gm dJ] 1 0) (sq (sq (r1 [gm s0,aL l0 cse,gm l1,eW 2 s0,cF 2 (.lenS l3),cF 2 (dY l4 (i6 12)),fC l2 l5] 2 6) (lM s2 dJ)) (sq (sq (r1 [gm s0,gn (.sZ l0)] 3 1) (.block 0 (.loop (sq (rg [gn (.zP s3),ge l0 0] [(5,0),(4,1)]) (sq (eO s4 0) (.block 1 (sq (r1 [ge s5 2,gm l0] 6 1) (.block 2 (sq (sq (r1 [gm s6,fN l0 (i3 97),gm l1,gmt 2 s6,bT 2 (lZ l3 (i3 122)),ei l2 l4,gm l5] 7 6) (.cond s7 .skip (sq (r1 [gm s6,fN l0 (i3 48),gm l1,gmt 2 s6,bT 2 (lZ l3 (i3 57)),ei l2 l4,gm l5] 7 6) (.cond s7 .skip (r1 [gm s6,aL l0 (i3 95),gm l1] 7 2))))) (.cond s7 .skip (wV dJ))))))))))) (wV rV))))⟩
def w349  (s:au)   :cZ Y Gt (.bool (cu s)) [.str s]:=by
 show bB _ _ _ [⟨_,_⟩,_,_,_,_,_,_,_] _;refine ak ?_;refine bM ?_;refine lL ?_;refine aB ?_;refine cC (fun hc0=>?_) fun hc0=>?_
 .refine aJ ?_;refine bQ ?_;symm;simp only[cu,dI,bA];rcases hc0 with h|h
  .subst h;exact Or.inl (Or.inl aQ)
  .exact Or.inl ae
 refine aH ?_;have hP:cu s=cI (fun i=>xe (at8 s i)) 0 s.length:=by
  have:=List.length_pos_iff.2 hc0.1;simp only[cu];rw[cv ae,cv ae];rfl
 refine bc hm (ι:=Nat) (fun i=>[⟨true,.str s⟩,.un,.un,⟨true,.it 9⟩,.un,.un,.un,.un]) (fun i=>[(9,.iter s i)]) 10 (fun i=>i<=s.length/\cu s=cI (fun i=>xe (at8 s i)) i s.length) (fun i=>s.length-i) 0 ⟨ae,hP⟩ (dF [(9,9)]) ?_;rintro i ⟨hi,hr⟩;refine aE ?_;by_cases hnx:i<s.length
 .obtain⟨c,w,hdec,hw,hcw⟩:=tq s i hnx;refine Cy c w (hp:=hnx) (hc:=hdec) ?_;refine ay ?_;refine aw (t:=true) (fun _=>?_) (fun h=>by cases h);refine zL ?_;refine cC (fun hc2=>?_) fun hc2=>?_
  .refine aE ?_;refine eV (fun hc4=>?_) fun hc4=>?_
   .refine aF ?_;obtain⟨rfl,hat,-⟩:w=1/\(c:Int)=at8 s i/\c<128:=by
     rcases hcw with h|h
     .exact h
     .omega
    have hz:xe (at8 s i)=true:=by
     simp only[xe,gT,a8,c8,bp,aY];omega
    exact⟨i+1,⟨ae,by rw[hr,aR hnx,hz];rfl⟩,ae,(dF [(9,9)])⟩
   refine aW ?_;refine bQ ?_;first
    |(exfalso;omega)
    |(rw[hr,ch ae];done)
    |(
     have hz:xe (at8 s i)=false:=by
      rcases hcw with⟨_,h,_⟩|⟨_,h⟩<;>(simp only[xe,gT,a8,dR,dI,bA];omega)
     rw[hr,aR hnx,hz];rfl)
  refine iw ?_;refine cC (fun hc3=>?_) fun hc3=>?_
  .refine aE ?_;refine eV (fun hc4=>?_) fun hc4=>?_
   .refine aF ?_;obtain⟨rfl,hat,-⟩:w=1/\(c:Int)=at8 s i/\c<128:=by
     rcases hcw with h|h
     .exact h
     .omega
    have hz:xe (at8 s i)=true:=by
     simp only[xe,gT,a8,c8,bp,aY];omega
    exact⟨i+1,⟨ae,by rw[hr,aR hnx,hz];rfl⟩,ae,(dF [(9,9)])⟩
   refine aW ?_;refine bQ ?_;first
    |(exfalso;omega)
    |(rw[hr,ch ae];done)
    |(
     have hz:xe (at8 s i)=false:=by
      rcases hcw with⟨_,h,_⟩|⟨_,h⟩<;>(simp only[xe,gT,a8,dR,dI,bA];omega)
     rw[hr,aR hnx,hz];rfl)
  refine aJ ?_;refine eV (fun hc4=>?_) fun hc4=>?_
  .refine aF ?_;obtain⟨rfl,hat,-⟩:w=1/\(c:Int)=at8 s i/\c<128:=by
    rcases hcw with h|h
    .exact h
    .omega
   have hz:xe (at8 s i)=true:=by
    simp only[xe,gT,a8,c8,bp,aY];omega
   exact⟨i+1,⟨ae,by rw[hr,aR hnx,hz];rfl⟩,ae,(dF [(9,9)])⟩
  refine aW ?_;refine bQ ?_;first
   |(exfalso;omega)
   |(rw[hr,ch ae];done)
   |(
    have hz:xe (at8 s i)=false:=by
     rcases hcw with⟨_,h,_⟩|⟨_,h⟩<;>(simp only[xe,gT,a8,dR,dI,bA];omega)
    rw[hr,aR hnx,hz];rfl)
 .refine Cx (hp:=hnx) ?_;refine ay ?_;refine aw (t:=false) (fun h=>by cases h) (fun _=>?_);refine aH ?_;refine bQ ?_;first
   |(exfalso;omega)
   |(rw[hr,ch ae];done)
   |(
    have hz:xe (at8 s i)=false:=by
     rcases hcw with⟨_,h,_⟩|⟨_,h⟩<;>(simp only[xe,gT,a8,dR,dI,bA];omega)
    rw[hr,aR hnx,hz];rfl)
def xm (T:List D->D->Prop):Prop:=∀(s:au),T [.str s] (.bool (cu s))
def FM (Y:Ctx):Prop:=xm (bq Y 349)
def Gr:aD:=⟨1,13,fY,bR,(sq (r1 [gm dJ] 1 0) (sq (sq (r1 [gm s0,aL l0 cse,gm l1,eW 2 s0,cF 2 (.lenS l3),cF 2 (dY l4 (i6 16)),fC l2 l5] 2 6) (lM s2 dJ)) (sq (sq (r1 [gm s0,gn (.sZ l0)] 3 1) (.block 0 (.loop (sq (rg [gn (.zP s3),ge l0 0] [(5,0),(4,1)]) (sq (eO s4 0) (.block 1 (sq (rg [ge s5 1,ge s5 2,gm l0,gm l1] [(9,2),(6,3)]) (.block 2 (sq (r1 [gm s6,fN l0 (i3 97),gm l1,gmt 2 s6,bT 2 (lZ l3 (i3 122)),ei l2 l4,gm l5] 7 6) (.cond s7 .skip (sq (r1 [gm s6,fN l0 (i3 48),gm l1,gmt 2 s6,bT 2 (lZ l3 (i3 57)),ei l2 l4,gm l5] 8 6) (.cond s8 (sq (r1 [gm s9,aL l0 bm] 10 1) (lM iQ dJ)) (sq (r1 [gm s6,aL l0 (i3 45),gm l1] 11 2) (.cond kH (sq (r1 [gm s9,aL l0 bm,gm l1,eW 2 s9,eW 2 s0,cF 2 (.lenS l4),cF 2 (kC l5 b7),cF 2 (cB l3 l6),fC l2 l7,gm l8,eW 9 s0,eW 9 s9,cF 9 (kC gF b7),cF 9 (.ixS l10 iU),cF 9 (cB jR (i8 45)),fC l9 kE] 12 15) (lM mS dJ)) (wV dJ))))))))))))))) (wV rV))))⟩
def w208  (s:au)   :cZ Y Gr (.bool (du s)) [.str s]:=by
 show bB _ _ _ [⟨_,_⟩,_,_,_,_,_,_,_,_,_,_,_,_] _;refine ak ?_;refine bM ?_;refine lL ?_;refine aB ?_;refine cC (fun hc0=>?_) fun hc0=>?_
 .refine aJ ?_;refine bQ ?_;symm;simp only[du];rcases hc0 with h|h
  .subst h;simp
  .rw[dr (by omega:¬s.length<=16)];simp
 refine aH ?_;have h0:=List.length_pos_iff.2 hc0.1;have hP:=RA s ae ae;refine bc hm (ι:=Nat) (fun i=>[⟨true,.str s⟩,.un,.un,⟨true,.it 9⟩,.un,.un,.un,.un,.un,.un,.un,.un,.un]) (fun i=>[(9,.iter s i)]) 10 (fun i=>i<=s.length/\du s=cI (nV s) i s.length) (fun i=>s.length-i) 0 ⟨ae,hP⟩ (dF [(9,9)]) ?_;rintro i ⟨hi,hr⟩;refine aE ?_;by_cases hnx:i<s.length
 .obtain⟨c,w,hdec,hw,hcw⟩:=tq s i hnx;refine Cy c w (hp:=hnx) (hc:=hdec) ?_;refine ay ?_;refine aw (t:=true) (fun _=>?_) (fun h=>by cases h);refine Tc ?_;refine eV (fun hc2=>?_) fun hc2=>?_
  .refine aF ?_;obtain⟨rfl,hat,-⟩:w=1/\(c:Int)=at8 s i/\c<128:=by
    rcases hcw with h|h
    .exact h
    .omega
   have hz:nV s i=true:=by
    simp only[nV,gT,a8,c8,bp,bK,aY,bA];omega
   exact⟨i+1,⟨ae,by rw[hr,aR hnx,hz];rfl⟩,ae,(dF [(9,9)])⟩
  refine cU ?_;refine eV (fun hc3=>?_) fun hc3=>?_
  .refine aF ?_;refine eV (fun hc4=>?_) fun hc4=>?_
   .refine aW ?_;refine bQ ?_;first
     |(exfalso;omega)
     |(rw[hr,ch ae];done)
     |(have hz:nV s i=false:=by
        rcases hcw with⟨_,h,_⟩|⟨_,h⟩<;>(simp only[nV,gT,a8,dR,dI,ct,aY,bA];omega)
       rw[hr,aR hnx,hz];rfl)
   refine aF ?_;obtain⟨rfl,hat,-⟩:w=1/\(c:Int)=at8 s i/\c<128:=by
    rcases hcw with h|h
    .exact h
    .omega
   have hz:nV s i=true:=by
    simp only[nV,gT,a8,c8,bp,bK,aY,bA];omega
   exact⟨i+1,⟨ae,by rw[hr,aR hnx,hz];rfl⟩,ae,(dF [(9,9)])⟩
  refine aJ ?_;refine eV (fun hc5=>?_) fun hc5=>?_
  .refine aH ?_;refine lL ?_;refine aW ?_;refine oB (i-1) ?_;refine aB ?_;refine eV (fun hc6=>?_) fun hc6=>?_
   .refine aW ?_;refine bQ ?_;first
     |(exfalso;omega)
     |(rw[hr,ch ae];done)
     |(have hz:nV s i=false:=by
        rcases hcw with⟨_,h,_⟩|⟨_,h⟩<;>(simp only[nV,gT,a8,dR,dI,ct,aY,bA];omega)
       rw[hr,aR hnx,hz];rfl)
   refine aF ?_;obtain⟨rfl,hat,-⟩:w=1/\(c:Int)=at8 s i/\c<128:=by
    rcases hcw with h|h
    .exact h
    .omega
   have hz:nV s i=true:=by
    simp only[nV,gT,a8,c8,bp,bK,aY,bA];omega
   exact⟨i+1,⟨ae,by rw[hr,aR hnx,hz];rfl⟩,ae,(dF [(9,9)])⟩
  refine aW ?_;refine bQ ?_;first
   |(exfalso;omega)
   |(rw[hr,ch ae];done)
   |(have hz:nV s i=false:=by
      rcases hcw with⟨_,h,_⟩|⟨_,h⟩<;>(simp only[nV,gT,a8,dR,dI,ct,aY,bA];omega)
     rw[hr,aR hnx,hz];rfl)
 .refine Cx (hp:=hnx) ?_;refine ay ?_;refine aw (t:=false) (fun h=>by cases h) (fun _=>?_);refine aH ?_;refine bQ ?_;first
   |(exfalso;omega)
   |(rw[hr,ch ae];done)
   |(have hz:nV s i=false:=by
      rcases hcw with⟨_,h,_⟩|⟨_,h⟩<;>(simp only[nV,gT,a8,dR,dI,ct,aY,bA];omega)
     rw[hr,aR hnx,hz];rfl)
def xf (T:List D->D->Prop):Prop:=∀(s:au),T [.str s] (.bool (du s))
def Ko (Y:Ctx):Prop:=xf (bq Y 208)
def B8:aD:=⟨1,10,[⟨1,none⟩,⟨2,none⟩],gA,(sq (rg [gm bm,gm dJ] [(1,0),(2,1)]) (sq (sq (r1 [gm s0,aL l0 cse,gm l1,eW 2 s0,cF 2 (.lenS l3),cF 2 (dY l4 rX),fC l2 l5,gm l6,eW 7 s0,cF 7 (.ixS l8 bm),cF 7 (cB l9 (i8 48)),eW 7 l10,gmt 11 s0,bT 11 (.lenS iU),bT 11 (dY jR b7),DK 7 gF kE,fC l7 me] 3 16) (.cond s3 (sq (rg [gm bm,gm dJ] [(1,0),(2,1)]) .ret) .skip)) (sq (r1 [gm bm] 9 0) (sq (sq (r1 [gm s0,gn (.sZ l0)] 4 1) (.block 0 (.loop (sq (rg [gn (.zP s4),ge l0 0] [(6,0),(5,1)]) (sq (eO s5 0) (.block 1 (sq (r1 [ge s6 2,gm l0] 7 1) (.block 2 (sq (r1 [gm s7,fN l0 (i3 48),gm l1,gmt 2 s7,bT 2 (lZ l3 (i3 57)),ei l2 l4,gm l5] 8 6) (.cond s8 (r1 [gm s9,gn (.bin .mul (i6 10) l0),gm s7,ek l2 (i3 48),gn (.cvi .i64 l3),av l1 l4,gm l5] 9 6) (sq (rg [gm bm,gm dJ] [(1,0),(2,1)]) .ret))))))))))) (sq (rg [gm s9,gm s9,Cg l1 (i6 9999),gm l0,gm l2] [(1,3),(2,4)]) .ret)))))⟩
def w658  (s:au)   :cZ Y B8 (.tup [.int .i64 (jL s),.bool (iE s)]) [.str s]:=by
 show bB _ _ _ [⟨_,_⟩,_,_,_,_,_,_,_,_,_] _;refine ak ?_;refine cU ?_;refine lL ?_;refine aF ?_;refine oB 0 (hb:=fun h=>by simp at h;exact List.length_pos_iff.2 h.1) ?_;refine aB ?_;refine lL ?_;refine aF ?_;refine cC (fun hc0=>?_) fun hc0=>?_
 .refine aH ?_;refine bE (aN (ar (D.int .i64) ?_) (ar D.bool ?_));all_goals
   have:iE s=false:=by
    rw[Ck];rcases hc0 with(h|h)|h
    .subst h;simp
    .rw[dr (by omega:¬s.length<=4)];simp
    .rw[cv (by omega:1<s.length),cv h.1];simp
   simp[jL,this]
 refine cU ?_;have h0:=List.length_pos_iff.2 hc0.1.1;have hP:iE s=cI (fun i=>a8 (at8 s i)) 0 s.length:=by
  rw[Ck,cv (by omega:1<=s.length),cv (by omega:s.length<=4)];rcases hc0.2 with h|h
  .rw[dr h,Bool.and_false];rfl
  .rw[dr (by omega:¬1<s.length)];rfl
 refine bc hm (ι:=Nat) (fun i=>[⟨true,.str s⟩,.un,.un,.un,⟨true,.it 21⟩,.un,.un,.un,.un,⟨true,.int .i64 (dL (s.take i):Nat)⟩]) (fun i=>[(21,.iter s i)]) 22 (fun i=>i<=s.length/\s.length<=4/\iE s=cI (fun i=>a8 (at8 s i)) i s.length) (fun i=>s.length-i) 0 ⟨ae,ae,hP⟩ (dF [(21,21)]) ?_;rintro i ⟨hi,h9,hr⟩;refine aE ?_;by_cases hnx:i<s.length
 .obtain⟨c,w,hdec,hw,hcw⟩:=tq s i hnx;refine Cy c w (hp:=hnx) (hc:=hdec) ?_;refine ay ?_;refine aw (t:=true) (fun _=>?_) (fun h=>by cases h);refine zK ?_;refine eV (fun hc2=>?_) fun hc2=>?_
  .refine aE ?_;obtain⟨rfl,hat,-⟩:w=1/\(c:Int)=at8 s i/\c<128:=by
    rcases hcw with h|h
    .exact h
    .omega
   have hn:=tK s i ae;have hn2:=vT s i ae;have h256:=uh s i;refine aE ?_;refine nH ?_;refine aE ?_;refine sH ((c:Int) -48) (hb:=fun _=>IntWalk.i32_in _ ae) ?_;refine nF ((c:Int) -48) (hb:=fun _=>IntWalk.i64_in _ ae) ?_;refine aB ?_;rw[show 10*(dL (s.take i):Int)+((c:Int) -48)=(dL (s.take (i+1)):Nat)by omega];refine aB ?_;have hz:a8 (at8 s i)=true:=by
    simp only[a8,bp,aY];omega
   exact⟨i+1,⟨ae,h9,by rw[hr,aR ae,hz];rfl⟩,ae,(dF [(21,21)])⟩
  refine bM ?_;refine bE (aN (ar (D.int .i64) ?_) (ar D.bool ?_));all_goals
   have hz:a8 (at8 s i)=false:=by
    rcases hcw with⟨_,h,_⟩|⟨_,h⟩<;>(simp only[a8,dI,bA];omega)
   have:iE s=false:=by rw[hr,aR ae,hz];rfl
   simp[jL,this]
 .refine Cx (hp:=hnx) ?_;refine ay ?_;refine aw (t:=false) (fun h=>by cases h) (fun _=>?_);refine iw ?_;refine bE (aN (ar (D.int .i64) ?_) (ar D.bool ?_));all_goals
   have this:iE s=true:=by rw[hr,ch ae]
   have ht:s.take i=s:=dM ae;have h9:=this;simp only[iE,bp,aY]at h9;have h99:=h9.2;rw[ht];first
   |(simp only[jL,this];rfl)
   |(rw[this,aY];omega)
def xD (T:List D->D->Prop):Prop:=∀(s:au),T [.str s] (.tup [.int .i64 (jL s),.bool (iE s)])
def QB (Y:Ctx):Prop:=xD (bq Y 658)
def BX:aD:=⟨1,3,fY,bR,(sq (r1 [gm (i8 0)] 1 0) (sq (sq (r1 [gm s0,aP l0 (i8 10)] 2 1) (.cond s2 (sq (r1 [gm s0,av (i8 48) l0,gm l1] 1 2) .ret) .skip)) (sq (r1 [gm s0,av (i8 97) l0,ek l1 (i8 10),gm l2] 1 3) .ret)))⟩
def w686 {Y:Ctx}(hm:(Y.at 0).bU)  (k:Nat)  (hp0:k<16):cZ Y BX (.int .u8 ((rE k).toNat:Nat)) [.int .u8 (k:Nat)]:=by
 show bB _ _ _ [⟨_,_⟩,_,_] _;refine ak ?_;refine aJ ?_;first|refine Pv ?_|refine Pw ?_
 refine aE ?_;refine cC (fun hc0=>?_) fun hc0=>?_
 .refine aB ?_;refine zh (48+(k:Int)) (hb:=fun _=>IntWalk.u8_in _ ae) ?_;refine aB ?_;refine bE (ar (D.int .u8) ?_);exact(Rk k ae).symm
 refine aB ?_;refine zh (97+(k:Int)) (hb:=fun _=>IntWalk.u8_in _ ae) ?_;refine sH (87+(k:Int)) (hb:=fun _=>by rw[show 97+(k:Int) -10=87+k by omega];exact IntWalk.u8_in _ ae) ?_;refine aB ?_;refine bE (ar (D.int .u8) ?_);exact(Rj k ae hp0).symm
def J7 (T:List D->D->Prop):Prop:=∀(k:Nat),(k<16)->T [.int .u8 (k:Nat)] (.int .u8 ((rE k).toNat:Nat))
def W7 (Y:Ctx):Prop:=J7 (bq Y 686)
def Dv:aD:=⟨1,7,fY,bR,(sq (r1 [gm cse] 1 0) (sq (r1 [gn (.mks 1 (.int .u8 0) (i6 16) (i6 16)),gm l0] 2 1) (sq (sq (rg [gm s2,gl l0,gm bm] [(4,1),(3,2)]) (.block 0 (.loop (sq (r1 [aP s3 s4] 5 0) (sq (eO s5 0) (sq (.block 1 (sq (r1 [gm s3,gm l0] 6 1) (rg [gm s2,gm s6,ek (i6 15) l1,gm s0,gm s6,gn (.bin .mul rX l4),gn (.bin .shr l3 l5),OC l6 (iu 15),gn (.cvi .u8 l7),gx 686 [l8] bR,ga 1 l0 l2,gt 1 l10 l9] []))) (r1 [av s3 b7,gm l0] 3 1))))))) (sq (r1 [gm s2,gn (.b2s l0),gm l1] 1 2) .ret))))⟩
def w497 (h686:W7 Y)(n:Int)   :cZ Y Dv (.str (fU n)) [.int .u64 n]:=by
 show bB _ _ _ [⟨_,_⟩,_,_,_,_,_,_] _;refine ak ?_;refine aB ?_;refine S4 _ ?_;refine aH ?_;intro u0;refine ay ?_;refine bc hm (ι:=Nat) (fun i=>[⟨true,.int .u64 n⟩,.un,⟨true,.own 1 1 0 16⟩,⟨true,.int .i64 (i:Nat)⟩,⟨true,.int .i64 (16:Nat)⟩,.un,.un]) (fun i=>[(1,.buf 1 ((tY n i).map fun b=>D.int .u8 b.toNat))]) 6 (fun i=>i<=16) (fun i=>16-i) 0 ae (dF [(1,1)]) ?_;intro i hi;have hlen:=rv n i;refine aB ?_;refine cC (fun hc0=>?_) fun hc0=>?_
 .refine gJ ?_;refine nH ?_;refine tM (r0 n (4*i)) (hb:=fun _=>by rw[show min (Int.toNat (4*(i:Int))) (IntKind.bits .u64)=4*i by simp[IntKind.bits];omega];rfl) ?_;refine vb ((LG n i:Nat):Int) (hb:=fun _=>OI n i) ?_;have hnib:=yS n i;refine nF ((LG n i:Nat):Int) (hb:=fun _=>IntWalk.u8_in _ ae) ?_;refine aj (hc:=h686 (LG n i) hnib) ?_;refine im (15-i) ?_;refine tQ ((tY n (i+1)).map fun b=>D.int .u8 b.toNat) (hi:=cA) (he:=by rw[MC n i ae,getD_map ae];simp[qG,D.isAgg]) ?_;refine aW ?_;exact⟨i+1,ae,ae,(dF [(1,1)])⟩
 refine aB ?_;have h16:i=16:=ae;subst h16;refine aE ?_;refine ID (fU n) (he:=fun _=>pJ.all ah (by simp[rv])) (hs:=fun _=>by rw[MB]) ?_;refine aB ?_;exact cG rfl
def JS (T:List D->D->Prop):Prop:=∀(n:Int),T [.int .u64 n] (.str (fU n))
def WM (Y:Ctx):Prop:=JS (bq Y 497)
def DO:aD:=⟨2,10,[⟨2,none⟩],[[.sl 1 [.a]]],(sq (r1 [gm (.c (.aA))] 2 0) (sq (r1 [gm (.c (.aA))] 8 0) (sq (r1 [gm bm] 9 0) (sq (sq (rg [gm s0,px l0,gm bm] [(4,1),(3,2)]) (.block 0 (.loop (sq (r1 [aP s3 s4] 5 0) (sq (eO s5 0) (sq (.block 1 (sq (r1 [gm s3,gm l0] 6 1) (sq (r1 [gm s0,gm s6,K9 l0 l1,gm s1,aL l2 l3] 7 4) (.cond s7 (sq (r1 [gm s8,gm s0,gm s9,gm s6,gn (.slS l1 (some l2) (some l3)),gn (.bsl 1 (.str []) 1 [(0,l4)]),gn (.app 1 l0 l5),gm l6] 8 7) (r1 [gm s6,av l0 b7,gm l1] 9 2)) .skip)))) (r1 [av s3 b7,gm l0] 3 1))))))) (sq (r1 [gm s8,gm s0,gm s9,gn (.slS l1 (some l2) none),gn (.bsl 1 (.str []) 1 [(0,l3)]),gn (.app 1 l0 l4),gm l5] 2 6) .ret)))))⟩
def w533  (s:au)(b:Int)  (hp0:s.length<=1048576):cZ Y DO (.sl 1 ((aq s b).map D.str)) [.str s,.int .u8 b]:=by
 show bB _ _ _ [⟨_,_⟩,⟨_,_⟩,_,_,_,_,_,_,_,_] _;refine ak ?_;refine gJ ?_;intro u0;refine ay ?_;refine bc hm (ι:=(Nat×Nat×List au)) (fun p:Nat×Nat×List au=>[⟨true,.str s⟩,⟨true,.int .u8 b⟩,.un,⟨true,.int .i64 (p.1:Nat)⟩,⟨true,.int .i64 (s.length:Nat)⟩,.un,.un,.un,⟨true,.own 0 1 0 p.2.2.length⟩,⟨true,.int .i64 (p.2.1:Nat)⟩]) (fun p=>[(0,.buf 1 (p.2.2.map D.str))]) 6 (fun p=>p.1<=s.length/\p.2.1<=p.1/\p.2.2.length<=p.1/\aq s b=p.2.2++ca b (s.drop p.1) ((s.take p.1).drop p.2.1)) (fun p=>s.length-p.1) (0,0,[]) ⟨aQ,aQ,aQ,rfl⟩ (aU.to [] ah ah (by repeat(first|exact dn.nil|refine dn.un ?_|refine dn.eq ah ?_|refine dn.nl ah ah ?_|refine dn.ni (Or.inr ⟨0,1,0,rfl⟩) ?_)) (by repeat(first|exact bh.nil|refine bh.mt ah ah ah ah ?_))) ?_;rintro⟨i,fr,acc⟩ ⟨hi,hf,ha,hr⟩;dsimp only at hi hf ha hr⊢;refine aB ?_;refine cC (fun hc0=>?_) fun hc0=>?_
 .refine nM ?_;refine wp_cond (fun hc1=>?_) (fun hc1=>?_)
  .try simp only[eh]at hc1
   refine aJ ?_;refine tP _ _ ?_;refine cS [(.str _)] ?_;refine FB ?_;exact⟨(i+1,i+1,acc++[(s.take i).drop fr]),⟨dP,dP,cA,by rw[hr,Bj ae hc1];simp⟩,dP,(aU.to [(20,0)] ah ah nW (by refine bh.nl 20 ah ah ah dW ?_;exact bh.nil))⟩
  simp only[bA]at hc1;refine aW ?_;exact⟨(i+1,fr,acc),⟨dP,dP,dP,by rw[hr,Bk ae ae hc1]⟩,dP,(aU.to [(0,0)] ah ah nW (by refine bh.nl 0 ah ah ah dW ?_;exact bh.nil))⟩
 refine aH ?_;refine jj _ ?_;refine cS [(.str _)] ?_;refine aB ?_;refine fV 12 ?_;refine aE ?_;refine bE (?_);have hs:aq s b=acc++[s.drop fr]:=by rw[hr,zw ae]
 rw[hs];exact rfl
def xz (T:List D->D->Prop):Prop:=∀(s:au) (b:Int),(s.length<=1048576)->T [.str s,.int .u8 b] (.sl 1 ((aq s b).map D.str))
def MZ (Y:Ctx):Prop:=xz (bq Y 533)
def wG:aD:=⟨1,7,fY,bR,(sq (r1 [gm dJ] 1 0) (sq (sq (rg [gm s0,px l0,gm bm] [(3,1),(2,2)]) (.block 0 (.loop (sq (r1 [aP s2 s3] 4 0) (sq (eO s4 0) (sq (.block 1 (sq (r1 [gm s2,gm l0] 5 1) (sq (r1 [gm s0,gm s5,K9 l0 l1,aP l2 (i8 48),gm l3,eW 4 s0,eW 4 s5,cF 4 (.ixS l5 l6),cF 4 (dY l7 (i8 57)),fC l4 l8] 6 9) (lM s6 dJ)))) (r1 [av s2 b7,gm l0] 2 1))))))) (sq (r1 [gm s0,cj l0 cse,gm l1] 1 2) .ret)))⟩
def w659  (t:au)   :cZ Y wG (.bool (cD t)) [.str t]:=by
 show bB _ _ _ [⟨_,_⟩,_,_,_,_,_,_] _;refine ak ?_;refine aH ?_;intro u0;refine ay ?_;refine bc hm (ι:=Nat) (fun i=>[⟨true,.str t⟩,.un,⟨true,.int .i64 (i:Nat)⟩,⟨true,.int .i64 (t.length:Nat)⟩,.un,.un,.un]) (fun i=>[]) 4 (fun i=>i<=t.length/\cI (fun i=>a8 (at8 t i)) 0 t.length=cI (fun i=>a8 (at8 t i)) i t.length) (fun i=>t.length-i) 0 ⟨ae,rfl⟩ (dF []) ?_;rintro i ⟨hi,hr⟩;refine aB ?_;refine cC (fun hc0=>?_) fun hc0=>?_
 .refine Tc ?_;refine eV (fun hc1=>?_) fun hc1=>?_
  .refine aH ?_;refine bQ ?_;simp only[cD];rw[hr,aR ae];rcases hc1 with h|h<;>simp[a8]<;>omega
  refine aW ?_;exact⟨i+1,⟨ae,by rw[hr,aR ae];rw[show a8 (at8 t i)=true by simp only[a8,bp,aY];omega];rfl⟩,ae,(dF [])⟩
 refine bM ?_;refine bQ ?_;simp only[cD];rw[hr,ch ae];cases t<;>simp
def xE (T:List D->D->Prop):Prop:=∀(t:au),T [.str t] (.bool (cD t))
def TC (Y:Ctx):Prop:=xE (bq Y 659)
def CX:aD:=⟨1,2,fY,bR,(sq (r1 [gm dJ] 1 0) (sq (r1 [gm s0,fN l0 bm,gm l1,gmt 2 s0,bT 2 (lZ l3 (i6 9999)),ei l2 l4,gm l5] 1 6) .ret))⟩
def w440 {Y:Ctx}(hm:(Y.at 0).bU)  (n:Int)   :cZ Y CX (.bool (oS n)) [.int .i64 n]:=by
 show bB _ _ _ [⟨_,_⟩,_] _;refine ak ?_;refine gJ ?_;exact bQ rfl
def xo (T:List D->D->Prop):Prop:=∀(n:Int),T [.int .i64 n] (.bool (oS n))
def Wm (Y:Ctx):Prop:=xo (bq Y 440)
def CY:aD:=⟨1,15,fY,bR,(sq (r1 [gm dJ] 1 0) (sq (r1 [gm s0,gx 533 [l0,(i8 46)] gA,gm l1] 2 2) (sq (r1 [gm s2,gl l0,Cg l1 rX,gm l2] 14 3) (sq .skip (sq (sq (rg [gm s2,gl l0,gm bm] [(6,0),(4,1),(3,2)]) (.block 0 (.loop (sq (r1 [aP s3 s4] 5 0) (sq (eO s5 0) (sq (.block 1 (sq (r1 [ga 1 s6 s3,gd l0,gm l1] 7 2) (sq (sq (r1 [gm s7,aL l0 cse,gm l1,eW 2 s7,cF 2 (.lenS l3),cF 2 (dY l4 C7),fC l2 l5] 8 6) (.cond s8 (sq (r1 [gm dJ] 14 0) (.exit 0)) .skip)) (sq (r1 [gm s7,gn (.sZ l0)] 9 1) (.block 2 (.loop (sq (rg [gn (.zP s9),ge l0 0] [(11,0),(10,1)]) (sq (eO iQ 2) (.block 3 (sq (r1 [ge kH 2,gm l0] 12 1) (sq (r1 [gm mS,aP l0 (i3 97),gm l1,eW 2 mS,cF 2 (dY l3 (i3 122)),fC l2 l4,gm l5,gmt 6 mS,bT 6 (po l7 (i3 48)),gmt 6 l8,eW 9 mS,cF 9 (dY l10 (i3 57)),UK 6 l9 gF,ei l6 iU,gm jR,gmt 14 mS,bT 14 (fo me (i3 45)),ei kE nC] 13 17) (.cond rJ (sq (r1 [gm dJ] 14 0) (.exit 0)) .skip)))))))))))) (r1 [av s3 b7,gm l0] 3 1))))))) (sq (r1 [gm rK,gm l0] 1 1) .ret))))))⟩
def w442 (h533:MZ Y)(s:au)  (hp0:s.length<=1048576):cZ Y CY (.bool (nI s false)) [.str s]:=by
 show bB _ _ _ [⟨_,_⟩,_,_,_,_,_,_,_,_,_,_,_,_,_,_] _;refine ak ?_;refine aF ?_;refine aj (hc:=h533 _ _ ?_) ?_;rotate_left;first|assumption|omega;have hlen:=eL s 46
 refine aJ ?_;intro u0;refine bM ?_;intro u1;refine ay ?_;refine bc hm (ι:=Nat) (fun i=>[.un,.un,⟨true,.sl 1 ((aq s 46).map D.str)⟩,⟨true,.int .i64 (i:Nat)⟩,⟨true,.int .i64 ((aq s 46).length:Nat)⟩,.un,⟨true,.sl 1 ((aq s 46).map D.str)⟩,.un,.un,.un,.un,.un,.un,.un,⟨true,.bool (decide (((aq s 46).length:Int)<=4))⟩]) (fun i=>[]) 11 (fun i=>i<=(aq s 46).length/\nI s false=(decide ((aq s 46).length<=4)&&cI (fun i=>hY false (aq s 46)[i]!) i (aq s 46).length)) (fun i=>(aq s 46).length-i) 0 ⟨ae,rfl⟩ (dF []) ?_;rintro i ⟨hi,hr⟩;refine aB ?_;refine cC (fun hc0=>?_) fun hc0=>?_
 .refine cU ?_;generalize ht:(aq s 46)[i]! =t;refine aF ?_;refine lL ?_;refine aB ?_;refine cC (fun hc1=>?_) fun hc1=>?_
  .refine gJ ?_;refine bQ ?_;first
    |(rw[hr,ch ae,qO];exact gY.2 ae)
    |(have hb:qH t=false:=by
       first
       |(simp only[qH];rcases hc1 with h|h
         .subst h;simp
         .rw[dr (by omega:¬t.length<=8)];simp)
       |(have hz:mF (at8 t j)=false:=by
          rcases hcw with⟨_,h,_⟩|⟨_,h⟩<;>(simp only[mF,gT,a8,dR,dI,bA];omega)
         rw[hj,aR hnx,hz];rfl)
      rw[hr,aR ae,show hY false (aq s 46)[i]! =false from(by simp only[hY,ht,hb,Bool.false_and])];simp)
  refine aJ ?_;have hT:qH t=cI (fun i=>mF (at8 t i)) 0 t.length:=by
   have:=List.length_pos_iff.2 hc1.1;simp only[qH];rw[cv ae,cv ae];rfl
  refine nK hm (ι:=Nat) (fun j=>[.un,.un,⟨true,.sl 1 ((aq s 46).map D.str)⟩,⟨true,.int .i64 (i:Nat)⟩,⟨true,.int .i64 ((aq s 46).length:Nat)⟩,.un,⟨true,.sl 1 ((aq s 46).map D.str)⟩,.un,.un,⟨true,.it 23⟩,.un,.un,.un,.un,⟨true,.bool (decide (((aq s 46).length:Int)<=4))⟩]) (fun j=>[(23,.iter t j)]) 24 (fun j=>j<=t.length/\qH t=cI (fun i=>mF (at8 t i)) j t.length) (fun j=>t.length-j) 0 ⟨ae,hT⟩ (dF [(23,23)]) ?_;rintro j ⟨hj0,hj⟩;refine aE ?_;by_cases hnx:j<t.length
  .obtain⟨c,w,hdec,hw,hcw⟩:=tq t j hnx;refine Cy c w (hp:=hnx) (hc:=hdec) ?_;refine ay ?_;refine aw (t:=true) (fun _=>?_) (fun h=>by cases h);refine ZX ?_;refine eV (fun hc3=>?_) fun hc3=>?_
   .refine nM ?_;refine bQ ?_;first
     |(rw[hr,ch ae,qO];exact gY.2 ae)
     |(have hb:qH t=false:=by
        first
        |(simp only[qH];rcases hc1 with h|h
          .subst h;simp
          .rw[dr (by omega:¬t.length<=8)];simp)
        |(have hz:mF (at8 t j)=false:=by
           rcases hcw with⟨_,h,_⟩|⟨_,h⟩<;>(simp only[mF,gT,a8,dR,dI,bA];omega)
          rw[hj,aR hnx,hz];rfl)
       rw[hr,aR ae,show hY false (aq s 46)[i]! =false from(by simp only[hY,ht,hb,Bool.false_and])];simp)
   refine aB ?_;obtain⟨rfl,hat,-⟩:w=1/\(c:Int)=at8 t j/\c<128:=by
    rcases hcw with h|h
    .exact h
    .omega
   have hz:mF (at8 t j)=true:=by
    simp only[mF,gT,a8,c8,bp,aY];omega
   exact⟨j+1,⟨ae,by rw[hj,aR hnx,hz];rfl⟩,ae,(dF [(23,23)])⟩
  .refine Cx (hp:=hnx) ?_;refine ay ?_;refine aw (t:=false) (fun h=>by cases h) (fun _=>?_);refine bM ?_;exact⟨i+1,⟨ae,by rw[hr,aR ae];rw[show hY false (aq s 46)[i]! =true from(by simp only[hY,Bool.false_and,Bool.not_false,qO];rw[ht,hj,ch ae])];rfl⟩,ae,(dF [])⟩
 refine aW ?_;refine bQ ?_;first
  |(rw[hr,ch ae,qO];exact gY.2 ae)
  |(have hb:qH t=false:=by
     first
     |(simp only[qH];rcases hc1 with h|h
       .subst h;simp
       .rw[dr (by omega:¬t.length<=8)];simp)
     |(have hz:mF (at8 t j)=false:=by
        rcases hcw with⟨_,h,_⟩|⟨_,h⟩<;>(simp only[mF,gT,a8,dR,dI,bA];omega)
       rw[hj,aR hnx,hz];rfl)
    rw[hr,aR ae,show hY false (aq s 46)[i]! =false from(by simp only[hY,ht,hb,Bool.false_and])];simp)
def JB (T:List D->D->Prop):Prop:=∀(s:au),(s.length<=1048576)->T [.str s] (.bool (nI s false))
def Ts (Y:Ctx):Prop:=JB (bq Y 442)
def ry (T:List D->D->Prop):Prop:=∀(n:Int),(0<=n/\n<=9999)->T [.int .i64 n] (.str (dp n.toNat))
def Wj (Y:Ctx):Prop:=ry (bq Y 336)
def Jr (T:List D->D->Prop):Prop:=∀(l:List au) (sep:au),(l.length<=1048600)->(sep.length<=4)->(∀t∈l,t.length<=2097200)->T [.sl 1 (l.map D.str),.str sep] (.str (aT sep l))
def Qt (Y:Ctx):Prop:=Jr (bq Y 242)
def Jg (T:List D->D->Prop):Prop:=∀(s:au) (b:UInt8),(s.length<=1048576)->T [.str s,.str [b]] (.sl 1 ((aq s b.toNat).map D.str))
def Qs (Y:Ctx):Prop:=Jg (bq Y 124)
def JR (T:List D->D->Prop):Prop:=∀(s:au) (b:UInt8),(s.length<=1048576)->T [.str s,.str [b]] (.tup [.str (gO s b).1,.str (gO s b).2.1,.bool (gO s b).2.2])
def WJ (Y:Ctx):Prop:=JR (bq Y 487)
def Jx (T:List D->D->Prop):Prop:=∀(s:au) (p:au),(s.length<=1048576)->(p.length<=1048576)->T [.str s,.str p] (.tup [.str (cQ s p).1,.bool (cQ s p).2])
def Tq (Y:Ctx):Prop:=Jx (bq Y 254)
def Ff:aD:=⟨1,10,fY,bR,(sq (r1 [gm dJ] 1 0) (sq (sq (r1 [gm s0,gx 442 [l0] bR,kD l1] 2 2) (lM s2 dJ)) (sq (sq (rg [gm s0,gx 533 [l0,(i8 46)] gA,gl l1,gm bm] [(6,1),(4,2),(3,3)]) (.block 0 (.loop (sq (r1 [aP s3 s4] 5 0) (sq (eO s5 0) (sq (.block 1 (sq (r1 [ga 1 s6 s3,gd l0,gm l1] 7 2) (sq (r1 [gm s7,gx 658 [l0] bR,gm l1,ge l2 0,ge l2 1,gm l3,gm l4] 8 6) (sq (r1 [gm s7,gx 659 [l0] bR,gm l1,gmt 2 s8,bT 2 (.un .not l3),ei l2 l4] 9 5) (lM s9 dJ))))) (r1 [av s3 b7,gm l0] 3 1))))))) (wV rV))))⟩
def w441 (h442:Ts Y)(h533:MZ Y)(h658:QB Y)(h659:TC Y)(s:au)  (hp0:s.length<=1048576):cZ Y Ff (.bool (nI s true)) [.str s]:=by
 show bB _ _ _ [⟨_,_⟩,_,_,_,_,_,_,_,_,_] _;refine ak ?_;refine aJ ?_;refine aj (hc:=h442 _ ?_) ?_;rotate_left;first|assumption|omega
 refine ay ?_;refine aw (fun hc0=>?_) (fun hc0=>?_)
 .simp only[bK]at hc0;refine aJ ?_;refine bQ ?_;symm;simp only[nI]at hc0⊢;rw[dI]at hc0⊢;rcases hc0 with h|h
  .exact Or.inl h
  .right;rw[Bool.eq_false_iff]at h⊢;intro h2;apply h;rw[eo]at h2⊢;intro j a b;have:=h2 j a b;simp only[hY,bp]at this⊢;exact⟨this.1,rfl⟩
 simp only[ct]at hc0;refine aF ?_;refine aj (hc:=h533 _ _ ?_) ?_;rotate_left;first|assumption|omega;have hlen:=eL s 46
 refine aE ?_;intro u0;refine ay ?_;have hT:=hc0;simp only[nI,bp,aY]at hT;obtain⟨hT4,hTa⟩:=hT;rw[eo]at hTa;have hP:nI s true=cI (fun i=>hY true (aq s 46)[i]!) 0 (aq s 46).length:=by
  simp only[nI];rw[cv hT4];rfl
 refine bc hm (ι:=Nat) (fun i=>[.un,.un,.un,⟨true,.int .i64 (i:Nat)⟩,⟨true,.int .i64 ((aq s 46).length:Nat)⟩,.un,⟨true,.sl 1 ((aq s 46).map D.str)⟩,.un,.un,.un]) (fun i=>[]) 8 (fun i=>i<=(aq s 46).length/\nI s true=cI (fun i=>hY true (aq s 46)[i]!) i (aq s 46).length) (fun i=>(aq s 46).length-i) 0 ⟨ae,hP⟩ (dF []) ?_;rintro i ⟨hi,hr⟩;refine aB ?_;refine cC (fun hc1=>?_) fun hc1=>?_
 .refine cU ?_;refine aj (hc:=h658 _) ?_;refine bM ?_;refine aj (hc:=h659 _) ?_;refine aJ ?_;refine wp_cond (fun hc2=>?_) (fun hc2=>?_)
  .skip
   refine aH ?_;refine bQ ?_;have hz:hY true (aq s 46)[i]! =false:=by
    simp only[hY];revert hc2;generalize qH (aq s 46)[i]! =c;generalize cD (aq s 46)[i]! =a;generalize iE (aq s 46)[i]! =b;cases a<;>cases b<;>cases c<;>simp
   rw[hr,aR ae,hz];rfl
  skip
  refine aW ?_;have hz:hY true (aq s 46)[i]! =true:=by
   have:=hTa i ae ae;simp only[hY,Bool.false_and,Bool.not_false,qO]at this;simp only[hY,this];revert hc2;generalize cD (aq s 46)[i]! =a;generalize iE (aq s 46)[i]! =b;cases a<;>cases b<;>simp
  exact⟨i+1,⟨ae,by rw[hr,aR ae,hz];rfl⟩,ae,(dF [])⟩
 refine aH ?_;refine bQ ?_;rw[hr,ch ae]
def JA (T:List D->D->Prop):Prop:=∀(s:au),(s.length<=1048576)->T [.str s] (.bool (nI s true))
def Wn (Y:Ctx):Prop:=JA (bq Y 441)
def Fe:aD:=⟨1,3,fY,bR,(sq (rg [gb 5 s0,gm dJ] [(2,0),(1,1)]) (sq (r1 [gf 0 s2,gd l0,gx 440 [l1] bR,gm l2,m4 3 1 s2,kZ 3 l4,bT 3 (.call 440 [l5] bR),ei l3 l6,gm l7,m4 8 2 s2,kZ 8 l9,bT 8 (.call 440 [l10] bR),ei l8 gF,gm iU,m4 13 3 s2,kZ 13 kE,bT 13 (cB me cse),gmt 13 nC,jQ 17 3 s2,lN 17 sY,cF 17 (.call 441 [uc] bR),UK 13 rF zO,ei jR AV,gm Da,m4 23 4 s2,kZ 23 Ic,bT 23 (cB Lk cse),gmt 23 Om,jQ 27 4 s2,lN 27 SX,cF 27 (.call 442 [SY] bR),UK 23 Rv VV,ei Gu Za,gm Zb] 1 33) .ret))⟩
def w209 {Y:Ctx}(hm:(Y.at 0).bU)(h440:Wm Y)(h441:Wn Y)(h442:Ts Y)(v:c9)  (hp0:v.sm):cZ Y Fe (.bool (eH v)) [c9.D v]:=by
 show bB _ _ _ [⟨_,_⟩,_,_] _;refine ak ?_;refine aH ?_;refine aj (hc:=h440 _) ?_;refine aB ?_;refine aj (hc:=h440 _) ?_;refine aF ?_;refine aj (hc:=h440 _) ?_;refine bM ?_;refine df (hc:=fun hf=>h441 v.pre hp0.1) ?_;refine cU ?_;refine df (hc:=fun hf=>h442 v.build hp0.2) ?_;refine aJ ?_;exact bQ rfl
def xg (T:List D->D->Prop):Prop:=∀(v:c9),(v.sm)->T [c9.D v] (.bool (eH v))
def Kq (Y:Ctx):Prop:=xg (bq Y 209)
def B7:aD:=⟨1,2,fY,bR,(sq (r1 [gm cse] 1 0) (sq (r1 [gm s0,gx 336 [l0] bR,gm l1] 1 2) .ret))⟩
def w665 {Y:Ctx}(hm:(Y.at 0).bU)(h336:Wj Y)(n:Int)  (hp0:0<=n/\n<=9999):cZ Y B7 (.str (dp n.toNat)) [.int .i64 n]:=by
 show bB _ _ _ [⟨_,_⟩,_] _;refine ak ?_;refine aF ?_;refine aj (hc:=h336 _ ?_) ?_;rotate_left;first|assumption|omega
 refine aB ?_;exact cG rfl
def TH (Y:Ctx):Prop:=ry (bq Y 665)
def Ak:aD:=⟨1,7,fY,bR,(sq (rg [gb 5 s0,gm cse] [(2,0),(1,1)]) (sq (sq (r1 [gk 5 true s2,gx 209 [l0] zZ,kD l1] 3 2) (lM s3 cse)) (sq (r2 [gf 0 s2,gd l0,gx 665 [l1] bR,av l2 (cs [46]),gf 1 s2,gd l4,gx 665 [l5] bR,av l3 l6,av l7 (cs [46]),gf 2 s2,gd l9,gx 665 [l10] bR,av l8 gF,gm iU] 5 13) (sq (sq (r1 [gf 3 s2,gd l0,cj l1 cse] 4 2) (.cond s4 (r1 [gm s5,gf 3 s2,gd l1,av (cs [45]) l2,av l0 l3,gm l4] 5 5) .skip)) (sq (sq (r1 [gf 4 s2,gd l0,cj l1 cse] 6 2) (.cond s6 (r1 [gm s5,gf 4 s2,gd l1,av (cs [43]) l2,av l0 l3,gm l4] 5 5) .skip)) (sq (r1 [gm s5,gm l0] 1 1) .ret))))))⟩
def w451 {Y:Ctx}(hm:(Y.at 0).bU)(h209:Kq Y)(h665:TH Y)(v:c9)  (hp0:v.sm):cZ Y Ak (.str (jN v)) [c9.D v]:=by
 show bB _ _ _ [⟨_,_⟩,_,_,_,_,_,_] _;obtain⟨hs1,hs2⟩:=hp0;have hp0:v.sm:=⟨hs1,hs2⟩;refine ak ?_;refine aH ?_;refine aj (hc:=h209 _ ?_) ?_;rotate_left;first|assumption|omega
 refine ay ?_;refine aw (fun hc0=>?_) (fun hc0=>?_)
 .simp only[bK]at hc0;refine aJ ?_;refine cG ?_;simp[jN,hc0]
 simp only[ct]at hc0;refine ay ?_;have hv:=hc0;simp only[eH,bp]at hv;obtain⟨⟨⟨⟨hv1,hv2⟩,hv3⟩,_⟩,_⟩:=hv;have hq1:=hv1;have hq2:=hv2;have hq3:=hv3;simp only[oS,bp,aY]at hq1 hq2 hq3;have hl1:=dU 4 v.major.toNat ae ae;have hl2:=dU 4 v.minor.toNat ae ae;have hl3:=dU 4 v.patch.toNat ae ae;refine ay ?_;refine aj (hc:=h665 _ ?_) ?_;rotate_left;first|assumption|omega
 refine cP (hb:=fun _=>cA) ?_;refine ay ?_;refine aj (hc:=h665 _ ?_) ?_;rotate_left;first|assumption|omega
 refine cP (hb:=fun _=>cA) ?_;refine cP (hb:=fun _=>cA) ?_;refine ay ?_;refine aj (hc:=h665 _ ?_) ?_;rotate_left;first|assumption|omega
 refine cP (hb:=fun _=>cA) ?_;refine bM ?_;refine cC (fun hc1=>?_) fun hc1=>?_
 .refine aF ?_;refine cP (hb:=fun _=>cA) ?_;refine cP (hb:=fun _=>cA) ?_;refine bM ?_;refine cC (fun hc2=>?_) fun hc2=>?_
  .refine aF ?_;refine cP (hb:=fun _=>cA) ?_;refine cP (hb:=fun _=>cA) ?_;refine aW ?_;refine cG ?_;simp[jN,rM,hc0,hc1,hc2]
  refine aH ?_;refine cG ?_;simp[jN,rM,hc0,hc1,hc2]
 refine aW ?_;refine cC (fun hc2=>?_) fun hc2=>?_
 .refine aF ?_;refine cP (hb:=fun _=>cA) ?_;refine cP (hb:=fun _=>cA) ?_;refine aW ?_;refine cG ?_;simp[jN,rM,hc0,hc1,hc2]
 refine aH ?_;refine cG ?_;simp[jN,rM,hc0,hc1,hc2]
def xt (T:List D->D->Prop):Prop:=∀(v:c9),(v.sm)->T [c9.D v] (.str (jN v))
def Wu (Y:Ctx):Prop:=xt (bq Y 451)
def o9:aD:=⟨2,4,[⟨2,none⟩],bR,(sq (r1 [gm (iu 0)] 2 0) (sq (r1 [gm s1,gn (.cvi .u64 l0),OC l1 (iu 63),gm l2] 3 3) (sq (r1 [gm s0,gm s3,gn (.bin .shl l0 l1),gm s0,gm s3,ek (iu 64) l4,gn (.bin .shr l3 l5),Io l2 l6,gm l7] 2 8) .ret)))⟩
def w463 {Y:Ctx}(hm:(Y.at 0).bU)  (h:Int)(k:Nat)  (hp0:k=13):cZ Y o9 (.int .u64 (VA h k)) [.int .u64 h,.int .i64 (k:Nat)]:=by
 show bB _ _ _ [⟨_,_⟩,⟨_,_⟩,_,_] _;subst hp0;refine ak ?_;refine aF ?_;refine nF 13 (hb:=fun _=>by rw[IntKind.wrap_u64];rfl) ?_;refine vb 13 (hb:=fun _=>by rw[IntKind.wrap_u64];rfl) ?_;refine aJ ?_;refine IJ (tW h 13) (hb:=fun _=>by rw[show min (Int.toNat (13:Int)) (IntKind.bits .u64)=13 by simp[IntKind.bits]];rfl) ?_;refine ay ?_;refine sH 51 (hb:=fun _=>by rw[IntKind.wrap_u64];rfl) ?_;refine tM (r0 h 51) (hb:=fun _=>by rw[show min (Int.toNat (51:Int)) (IntKind.bits .u64)=51 by simp[IntKind.bits]];rfl) ?_;refine IE (VA h 13) (hb:=fun _=>rfl) ?_;refine aB ?_;refine bE (ar (D.int .u64) ?_);rfl
def JJ (T:List D->D->Prop):Prop:=∀(h:Int) (k:Nat),(k=13)->T [.int .u64 h,.int .i64 (k:Nat)] (.int .u64 (VA h k))
def WD (Y:Ctx):Prop:=JJ (bq Y 463)
def F9:aD:=⟨1,8,fY,bR,(sq (r1 [gm (iu 0)] 1 0) (sq (r1 [gm (iu 11400714819323198485)] 6 0) (sq (sq (rg [gm s0,gl l0,gm bm] [(5,0),(3,1),(2,2)]) (.block 0 (.loop (sq (r1 [aP s2 s3] 4 0) (sq (eO s4 0) (sq (.block 1 (sq (r1 [ga 1 s5 s2,gd l0,gm l1] 7 2) (r1 [gm s6,gm s7,gn (.cvi .u64 l1),gn (.bin .xor l0 l2),gx 463 [l3,(i6 13)] gA,gn (.bin .mul l4 (iu 18397679294719823053)),gm l5] 6 6))) (r1 [av s2 b7,gm l0] 2 1))))))) (sq (r1 [gm s6,gm s6,gn (.bin .shr l1 (iu 29)),gn (.bin .xor l0 l2),gm l3] 1 4) .ret))))⟩
def w220 (h463:WD Y)(s:au)   :cZ Y F9 (.int .u64 (E2 s)) [.sl 1 ((s).map fun b=>D.int .u8 b.toNat)]:=by
 show bB _ _ _ [⟨_,_⟩,_,_,_,_,_,_,_] _;refine ak ?_;refine cU ?_;intro u0;refine ay ?_;refine bc hm (ι:=Nat) (fun i=>[.un,.un,⟨true,.int .i64 (i:Nat)⟩,⟨true,.int .i64 (s.length:Nat)⟩,.un,⟨true,.sl 1 (s.map fun b=>D.int .u8 b.toNat)⟩,⟨true,.int .u64 (vn (s.take i))⟩,.un]) (fun i=>[]) 5 (fun i=>i<=s.length) (fun i=>s.length-i) 0 ae (dF []) ?_;intro i hi;refine aB ?_;refine cC (fun hc0=>?_) fun hc0=>?_
 .refine aF ?_;refine cE (v:=.int .u8 (at8 s i)) (hv:=fun _=>ld8 s i) ?_;refine aJ ?_;refine nF (at8 s i) (hb:=fun _=>by have:=uh s i;rw[IntKind.wrap_u64];omega) ?_;refine Cv (zI (vn (s.take i)) (at8 s i)) (hb:=fun _=>rfl) ?_;refine aj (hc:=h463 _ 13 rfl) ?_;refine Px (vn (s.take (i+1))) (hb:=fun _=>by rw[Bs s i ae];rfl) ?_;refine bM ?_;exact⟨i+1,ae,ae,(dF [])⟩
 refine aB ?_;have ht:s.take i=s:=dM ae;rw[ht];refine ay ?_;refine tM (r0 (vn s) 29) (hb:=fun _=>rfl) ?_;refine Cv (E2 s) (hb:=fun _=>rfl) ?_;refine aB ?_;refine bE (ar (D.int .u64) ?_);rfl
def xk (T:List D->D->Prop):Prop:=∀(s:au),T [.sl 1 ((s).map fun b=>D.int .u8 b.toNat)] (.int .u64 (E2 s))
def V8 (Y:Ctx):Prop:=xk (bq Y 220)
def Hb:aD:=⟨1,4,fY,bR,(sq (r1 [gm cse] 1 0) (sq (r1 [gm s0,gn (.bin .rem l0 (iu 10)),gn (.cvi .u8 l1),av (i8 48) l2,gn (.bsl 1 (.int .u8 0) 1 [(0,l3)]),gn (.b2s l4),gm l5] 3 6) (sq (.block 0 (.loop (sq (sq (r1 [gm s0,cR l0 (iu 9)] 2 1) (eO s2 0)) (.block 1 (sq (r1 [gm s0,gn (.bin .quo l0 (iu 10)),gm l1] 0 2) (r1 [gm s0,gn (.bin .rem l0 (iu 10)),gn (.cvi .u8 l1),av (i8 48) l2,gn (.bsl 1 (.int .u8 0) 1 [(0,l3)]),gn (.b2s l4),gm s3,av l5 l6,gm l7] 3 8)))))) (sq (r1 [gm s3,gm l0] 1 1) .ret))))⟩
def w882  (n:Nat)  (hp0:n<=9999):cZ Y Hb (.str (dp n)) [.int .u64 (n:Nat)]:=by
 show bB _ _ _ [⟨_,_⟩,_,_,_] _;refine ak ?_;refine aF ?_;refine II ((n%10:Nat):Int) (hn:=by intro _;omega) (hb:=fun _=>rfl) ?_;refine nF ((n%10:Nat):Int) (hb:=fun _=>IntWalk.u8_in _ ae) ?_;refine zh (((dg (n%10)).toNat:Nat):Int) (hb:=fun _=>by rw[AA ae];exact IntWalk.u8_in _ ae) ?_;refine cS [.int .u8 _] ?_;refine ID [dg (n%10)] (he:=fun _=>pJ.all ah rfl) (hs:=fun _=>rfl) ?_;refine ay ?_;have h0:dp n=(if n<10 then []else dp (n/10))++[dg (n%10)]:=by
  split
  .rename_i h;rw[mw h,Nat.mod_eq_of_lt h];rfl
  .rw[ny ae]
 refine bc hm (ι:=(Nat×au)) (fun p=>[⟨true,.int .u64 (p.1:Nat)⟩,.un,.un,⟨true,.str p.2⟩]) (fun p=>[]) 8 (fun p=>p.1<=9999/\p.2.length<=9999-p.1+1/\dp n=(if p.1<10 then []else dp (p.1/10))++p.2) (fun p=>p.1) (n,[dg (n%10)]) ⟨hp0,aQ,h0⟩ (dF []) ?_;rintro⟨k,s⟩ ⟨hk,hs,hr⟩;dsimp only at hk hs hr⊢;refine aJ ?_;refine cC (fun hc0=>?_) fun hc0=>?_
 .refine aF ?_;refine Zp ((k/10:Nat):Int) (hn:=by intro _;omega) (hb:=fun _=>by rw[show((k:Int).tdiv 10)=((k/10:Nat):Int)from rfl,IntKind.wrap_u64];omega) ?_;refine aF ?_;refine II (((k/10)%10:Nat):Int) (hn:=by intro _;omega) (hb:=fun _=>rfl) ?_;refine nF (((k/10)%10:Nat):Int) (hb:=fun _=>IntWalk.u8_in _ ae) ?_;refine zh (((dg ((k/10)%10)).toNat:Nat):Int) (hb:=fun _=>by rw[AA ae];exact IntWalk.u8_in _ ae) ?_;refine cS [.int .u8 _] ?_;refine ID [dg ((k/10)%10)] (he:=fun _=>pJ.all ah rfl) (hs:=fun _=>rfl) ?_;refine aE ?_;refine cP (hb:=fun _=>cA) ?_;refine aF ?_;have h1:dp n=(if k/10<10 then []else dp (k/10/10))++([dg (k/10%10)]++s):=by
   rw[hr,ai ae];split
   .rename_i h;rw[mw h,Nat.mod_eq_of_lt h];rfl
   .rw[ny ae,dx]
  exact⟨(k/10,[dg (k/10%10)]++s),⟨dP,cA,h1⟩,dP,(dF [])⟩
 refine aW ?_;refine cG ?_;rw[hr,ax ae];rfl
def Kg (T:List D->D->Prop):Prop:=∀(n:Nat),(n<=9999)->T [.int .u64 (n:Nat)] (.str (dp n))
def Xo (Y:Ctx):Prop:=Kg (bq Y 882)
def EH:aD:=⟨1,3,fY,bR,(sq (r1 [gm cse] 1 0) (sq (sq (r1 [gm s0,aP l0 bm] 2 1) (.cond s2 (sq (r1 [gm s0,av l0 b7,gn (.un .neg l1),gn (.cvi .u64 l2),av l3 (iu 1),gx 882 [l4] bR,av (cs [45]) l5,gm l6] 1 7) .ret) .skip)) (sq (r1 [gm s0,gn (.cvi .u64 l0),gx 882 [l1] bR,gm l2] 1 3) .ret)))⟩
def w734 {Y:Ctx}(hm:(Y.at 0).bU)(h882:Xo Y)(n:Int)  (hp0:0<=n/\n<=9999):cZ Y EH (.str (dp n.toNat)) [.int .i64 n]:=by
 show bB _ _ _ [⟨_,_⟩,_,_] _;refine ak ?_;refine aW ?_;refine cC (fun hc0=>?_) fun hc0=>?_
 .omega
 refine ay ?_;obtain⟨k,rfl⟩:∃k:Nat,n=k:=⟨n.toNat,ae⟩
 refine aE ?_;refine nF (k:Int) (hb:=fun _=>by rw[IntKind.wrap_u64];omega) ?_;refine aj (hc:=h882 _ ?_) ?_;rotate_left;first|assumption|omega
 refine aB ?_;exact cG rfl
def TQ (Y:Ctx):Prop:=ry (bq Y 734)
def G9:aD:=⟨2,8,[⟨2,none⟩],[[.sl 1 [.a]]],(sq (r1 [gm (.c (.aA))] 2 0) (sq (r1 [gm (.c (.aA))] 6 0) (sq (r1 [gm bm] 7 0) (sq (sq (r1 [gm bm] 3 0) (.block 0 (.loop (sq (sq (r1 [gm s3,gm s0,px l1,aP l0 l2] 4 3) (eO s4 0)) (sq (.block 1 (sq (r1 [gm s0,gm s3,K9 l0 l1,gm s1,aL l2 l3] 5 4) (.cond s5 (sq (r1 [gm s6,gm s0,gm s7,gm s3,gn (.slS l1 (some l2) (some l3)),gn (.bsl 1 (.str []) 1 [(0,l4)]),gn (.app 1 l0 l5),gm l6] 6 7) (r1 [gm s3,av l0 b7,gm l1] 7 2)) .skip))) (r1 [gm s3,av l0 b7,gm l1] 3 2)))))) (sq (r1 [gm s6,gm s0,gm s7,gn (.slS l1 (some l2) none),gn (.bsl 1 (.str []) 1 [(0,l3)]),gn (.app 1 l0 l4),gm l5] 2 6) .ret)))))⟩
def w470  (s:au)(b:Int)  (hp0:s.length<=1048576):cZ Y G9 (.sl 1 ((aq s b).map D.str)) [.str s,.int .u8 b]:=by
 show bB _ _ _ [⟨_,_⟩,⟨_,_⟩,_,_,_,_,_,_] _;refine ak ?_;refine gJ ?_;refine bc hm (ι:=(Nat×Nat×List au)) (fun p:Nat×Nat×List au=>[⟨true,.str s⟩,⟨true,.int .u8 b⟩,.un,⟨true,.int .i64 (p.1:Nat)⟩,.un,.un,⟨true,.own 0 1 0 p.2.2.length⟩,⟨true,.int .i64 (p.2.1:Nat)⟩]) (fun p=>[(0,.buf 1 (p.2.2.map D.str))]) 4 (fun p=>p.1<=s.length/\p.2.1<=p.1/\p.2.2.length<=p.1/\aq s b=p.2.2++ca b (s.drop p.1) ((s.take p.1).drop p.2.1)) (fun p=>s.length-p.1) (0,0,[]) ⟨aQ,aQ,aQ,rfl⟩ (aU.to [] ah ah (by repeat(first|exact dn.nil|refine dn.un ?_|refine dn.eq ah ?_|refine dn.nl ah ah ?_|refine dn.ni (Or.inr ⟨0,1,0,rfl⟩) ?_)) (by repeat(first|exact bh.nil|refine bh.mt ah ah ah ah ?_))) ?_;rintro⟨i,fr,acc⟩ ⟨hi,hf,ha,hr⟩;dsimp only at hi hf ha hr⊢;refine aJ ?_;intro u0;refine ay ?_;refine cC (fun hc0=>?_) fun hc0=>?_
 .refine cU ?_;refine wp_cond (fun hc1=>?_) (fun hc1=>?_)
  .try simp only[eh]at hc1
   refine aJ ?_;refine tP _ _ ?_;refine cS [(.str _)] ?_;refine wj ?_;exact⟨(i+1,i+1,acc++[(s.take i).drop fr]),⟨dP,dP,cA,by rw[hr,Bj ae hc1];simp⟩,dP,(aU.to [(19,0)] ah ah nW (by refine bh.nl 19 ah ah ah dW ?_;exact bh.nil))⟩
  simp only[bA]at hc1;refine bM ?_;exact⟨(i+1,fr,acc),⟨dP,dP,dP,by rw[hr,Bk ae ae hc1]⟩,dP,(aU.to [(0,0)] ah ah nW (by refine bh.nl 0 ah ah ah dW ?_;exact bh.nil))⟩
 refine aH ?_;refine jj _ ?_;refine cS [(.str _)] ?_;refine aB ?_;refine fV 13 ?_;refine aE ?_;refine bE (?_);have hs:aq s b=acc++[s.drop fr]:=by rw[hr,zw ae]
 rw[hs];exact rfl
def FO (Y:Ctx):Prop:=xz (bq Y 470)
def PD:aD:=⟨1,2,fY,bR,(sq (r1 [gm dJ] 1 0) (sq (r1 [gm s0,fN l0 (i8 97),gm l1,gmt 2 s0,bT 2 (lZ l3 (i8 122)),ei l2 l4,gm l5] 1 6) .ret))⟩
def w453 {Y:Ctx}(hm:(Y.at 0).bU)  (c:Int)   :cZ Y PD (.bool (gT c)) [.int .u8 c]:=by
 show bB _ _ _ [⟨_,_⟩,_] _;refine ak ?_;refine gJ ?_;exact bQ rfl
def JC (T:List D->D->Prop):Prop:=∀(c:Int),T [.int .u8 c] (.bool (gT c))
def Tv (Y:Ctx):Prop:=JC (bq Y 453)
def Ha:aD:=⟨1,2,fY,bR,(sq (r1 [gm dJ] 1 0) (sq (r1 [gm s0,fN l0 (i8 48),gm l1,gmt 2 s0,bT 2 (lZ l3 (i8 57)),ei l2 l4,gm l5] 1 6) .ret))⟩
def w454 {Y:Ctx}(hm:(Y.at 0).bU)  (c:Int)   :cZ Y Ha (.bool (a8 c)) [.int .u8 c]:=by
 show bB _ _ _ [⟨_,_⟩,_] _;refine ak ?_;refine gJ ?_;exact bQ rfl
def JD (T:List D->D->Prop):Prop:=∀(c:Int),T [.int .u8 c] (.bool (a8 c))
def Qw (Y:Ctx):Prop:=JD (bq Y 454)
def L9:aD:=⟨1,6,fY,bR,(sq (r1 [gm dJ] 1 0) (sq (sq (r1 [gm s0,px l0,aP l1 b7,gm l2,eW 3 s0,cF 3 (.lenS l4),cF 3 (dY l5 (i6 12)),fC l3 l6] 2 7) (lM s2 dJ)) (sq (sq (r1 [gm bm] 3 0) (.block 0 (.loop (sq (sq (r1 [gm s3,gm s0,px l1,aP l0 l2] 4 3) (eO s4 0)) (sq (.block 1 (sq (r1 [gm s0,gm s3,K9 l0 l1,gx 453 [l2] bR,kD l3,gm l4,gmt 5 s0,gmt 5 s3,bT 5 (.ixS l6 l7),bT 5 (.call 454 [l8] bR),bT 5 (.un .not l9),ei l5 l10,gm gF,gmt 12 s0,gmt 12 s3,bT 12 (.ixS jR kE),bT 12 (fo me (i8 95)),ei iU nC] 5 17) (lM s5 dJ))) (r1 [gm s3,av l0 b7,gm l1] 3 2)))))) (wV rV))))⟩
def w357 (h453:Tv Y)(h454:Qw Y)(s:au)   :cZ Y L9 (.bool (cu s)) [.str s]:=by
 show bB _ _ _ [⟨_,_⟩,_,_,_,_,_] _;refine ak ?_;refine aH ?_;intro u0;refine aB ?_;refine lL ?_;refine aB ?_;refine cC (fun hc0=>?_) fun hc0=>?_
 .refine aJ ?_;refine bQ ?_;symm;simp only[cu,dI,bA];exact Or.inl ae
 refine aJ ?_;refine bc hm (ι:=Nat) (fun i=>[⟨true,.str s⟩,.un,.un,⟨true,.int .i64 (i:Nat)⟩,.un,.un]) (fun i=>[]) 10 (fun i=>i<=s.length/\cu s=cI (fun i=>xe (at8 s i)) i s.length) (fun i=>s.length-i) 0 ⟨ae,by simp only[cu];rw[cv ae,cv ae];rfl⟩ (dF []) ?_;rintro i ⟨hi,hr⟩;refine aJ ?_;intro u1;refine ay ?_;refine cC (fun hc1=>?_) fun hc1=>?_
 .refine aH ?_;refine aj (hc:=h453 _) ?_;refine aJ ?_;refine aj (hc:=h454 _) ?_;refine cU ?_;refine eV (fun hc2=>?_) fun hc2=>?_
  .refine aH ?_;refine bQ ?_;rw[hr,aR ae];simp[xe,hc2]
  refine bM ?_;exact⟨i+1,⟨ae,by rw[hr,aR ae];simp[xe,hc2]⟩,ae,(dF [])⟩
 refine aH ?_;refine bQ ?_;rw[hr,ch ae]
def FN (Y:Ctx):Prop:=xm (bq Y 357)
def L8:aD:=⟨1,6,fY,bR,(sq (r1 [gm dJ] 1 0) (sq (sq (r1 [gm s0,px l0,aP l1 b7,gm l2,eW 3 s0,cF 3 (.lenS l4),cF 3 (dY l5 (i6 16)),fC l3 l6,gm l7,eW 8 s0,cF 8 (.ixS l9 bm),cF 8 (.call 453 [l10] bR),cF 8 (.un .not gF),fC l8 iU,gm jR,eW 14 s0,eW 14 s0,cF 14 (.lenS nC),cF 14 (kC rF b7),cF 14 (.ixS me sY),cF 14 (cB uc (i8 45)),fC kE zO] 2 21) (lM s2 dJ)) (sq (sq (r1 [gm b7] 3 0) (.block 0 (.loop (sq (sq (r1 [gm s3,gm s0,px l1,aP l0 l2] 4 3) (eO s4 0)) (sq (.block 1 (sq (r1 [gm s0,gm s3,K9 l0 l1,gx 453 [l2] bR,kD l3,gm l4,gmt 5 s0,gmt 5 s3,bT 5 (.ixS l6 l7),bT 5 (.call 454 [l8] bR),bT 5 (.un .not l9),ei l5 l10,gm gF,gmt 12 s0,gmt 12 s3,bT 12 (.ixS jR kE),bT 12 (fo me (i8 45)),ei iU nC,gm rF,eW 18 s0,eW 18 s3,cF 18 (.ixS uc zO),cF 18 (cB AV (i8 45)),eW 18 Da,gmt 23 s0,gmt 23 s3,bT 23 (kC Lk b7),bT 23 (.ixS Ic Om),bT 23 (cB Rv (i8 45)),DK 18 Gu SX,fC sY SY] 5 30) (lM s5 dJ))) (r1 [gm s3,av l0 b7,gm l1] 3 2)))))) (wV rV))))⟩
def w216 (h453:Tv Y)(h454:Qw Y)(s:au)   :cZ Y L8 (.bool (du s)) [.str s]:=by
 show bB _ _ _ [⟨_,_⟩,_,_,_,_,_] _;refine ak ?_;refine aH ?_;intro u0;refine aB ?_;refine lL ?_;refine aF ?_;refine oB 0 ?_;refine aj (hc:=h453 _) ?_;refine aJ ?_;refine lL ?_;refine aE ?_;refine oB (s.length-1) ?_;refine aB ?_;refine cC (fun hc0=>?_) fun hc0=>?_
 .refine aJ ?_;refine bQ ?_;symm;simp only[du];rcases hc0 with(h|h)|h
  .rcases h with h|h<;>simp<;>omega
  .simp[h]
  .simp[h]
 refine aJ ?_;refine bc hm (ι:=Nat) (fun i=>[⟨true,.str s⟩,.un,.un,⟨true,.int .i64 (i:Nat)⟩,.un,.un]) (fun i=>[]) 24 (fun i=>i<=s.length/\1<=i/\du s=cI (UY s) i s.length) (fun i=>s.length-i) 1 ⟨ae,ae,by simp only[du];rw[cv ae,cv ae,hc0.1.2,dr hc0.2];rfl⟩ (dF []) ?_;rintro i ⟨hi,hi1,hr⟩;refine aJ ?_;intro u1;refine ay ?_;refine cC (fun hc1=>?_) fun hc1=>?_
 .refine aH ?_;refine aj (hc:=h453 _) ?_;refine aJ ?_;refine aj (hc:=h454 _) ?_;refine zL ?_;refine oB (i-1) ?_;refine aF ?_;refine eV (fun hc2=>?_) fun hc2=>?_
  .refine aH ?_;refine bQ ?_;rw[hr,aR ae];simp only[UY];revert hc2;generalize gT (at8 s i)=x;generalize a8 (at8 s i)=y;by_cases h1:at8 s i=45<;>by_cases h2:at8 s (i-1)=45<;>cases x<;>cases y<;>simp_all
  refine bM ?_;exact⟨i+1,⟨ae,ae,by rw[hr,aR ae];simp only[UY];revert hc2;generalize gT (at8 s i)=x;generalize a8 (at8 s i)=y;by_cases h1:at8 s i=45<;>by_cases h2:at8 s (i-1)=45<;>cases x<;>cases y<;>simp_all⟩,ae,(dF [])⟩
 refine aH ?_;refine bQ ?_;rw[hr,ch ae]
def Kr (Y:Ctx):Prop:=xf (bq Y 216)
def EI:aD:=⟨1,9,[⟨1,none⟩,⟨2,none⟩],gA,(sq (rg [gm bm,gm dJ] [(1,0),(2,1)]) (sq (sq (r1 [gm s0,px l0,aP l1 b7,gm l2,eW 3 s0,cF 3 (.lenS l4),cF 3 (dY l5 C8),fC l3 l6,gm l7,eW 8 s0,cF 8 (.lenS l9),cF 8 (dY l10 b7),eW 8 gF,gmt 12 s0,bT 12 (.ixS jR bm),bT 12 (cB kE (i8 48)),DK 8 iU me,fC l8 nC] 3 17) (.cond s3 (sq (rg [gm bm,gm dJ] [(1,0),(2,1)]) .ret) .skip)) (sq (r1 [gm bm] 7 0) (sq (sq (r1 [gm bm] 4 0) (.block 0 (.loop (sq (sq (r1 [gm s4,gm s0,px l1,aP l0 l2] 5 3) (eO s5 0)) (sq (.block 1 (sq (sq (r1 [gm s0,gm s4,K9 l0 l1,gx 454 [l2] bR,kD l3] 6 4) (.cond s6 (sq (rg [gm bm,gm dJ] [(1,0),(2,1)]) .ret) .skip)) (r1 [gm s7,gn (.bin .mul l0 (i6 10)),gm s0,gm s4,K9 l2 l3,ek l4 (i8 48),gn (.cvi .i64 l5),av l1 l6,gm l7] 7 8))) (r1 [gm s4,av l0 b7,gm l1] 4 2)))))) (sq (sq (r1 [gm s7,cR l0 (i6 9999)] 8 1) (.cond s8 (sq (rg [gm bm,gm dJ] [(1,0),(2,1)]) .ret) .skip)) (sq (rg [gm s7,gm l0,gm rV] [(1,1),(2,2)]) .ret))))))⟩
def w667 (h454:Qw Y)(s:au)   :cZ Y EI (.tup [.int .i64 (jL s),.bool (iE s)]) [.str s]:=by
 show bB _ _ _ [⟨_,_⟩,_,_,_,_,_,_,_,_] _;refine ak ?_;refine aW ?_;intro u0;refine aB ?_;refine lL ?_;refine aF ?_;refine lL ?_;refine aB ?_;refine oB 0 ?_;refine aF ?_;refine cC (fun hc0=>?_) fun hc0=>?_
 .refine aH ?_;refine bE (aN (ar (D.int .i64) ?_) (ar D.bool ?_));all_goals
   have:iE s=false:=by
    simp only[iE];rcases hc0 with(h|h)|h
    .rw[dr (by omega:¬1<=s.length)];rfl
    .rw[dr (by omega:¬s.length<=9)];simp
    .rw[cv (by omega:1<s.length),cv h.2];simp
   simp[jL,this]
 refine bM ?_;have hP:iE s=(cI (fun i=>a8 (at8 s i)) 0 s.length&&decide (dL s<=9999)):=by
  simp only[iE];rw[cv (by omega:1<=s.length),cv (by omega:s.length<=9)];rcases hc0.2 with h|h
  .rw[dr (by omega:¬1<s.length)];rfl
  .rw[dr h,Bool.and_false];rfl
 refine bc hm (ι:=Nat) (fun i=>[⟨true,.str s⟩,.un,.un,.un,⟨true,.int .i64 (i:Nat)⟩,.un,.un,⟨true,.int .i64 (dL (s.take i):Nat)⟩,.un]) (fun i=>[]) 22 (fun i=>i<=s.length/\s.length<=9/\iE s=(cI (fun i=>a8 (at8 s i)) i s.length&&decide (dL s<=9999))) (fun i=>s.length-i) 0 ⟨ae,ae,hP⟩ (dF []) ?_;rintro i ⟨hi,h9,hr⟩;refine aJ ?_;intro u1;refine ay ?_;refine cC (fun hc1=>?_) fun hc1=>?_
 .refine aW ?_;refine aj (hc:=h454 _) ?_;refine ay ?_;refine aw (fun hc2=>?_) (fun hc2=>?_)
  .try simp only[eh]at hc2
   refine bM ?_;refine bE (aN (ar (D.int .i64) ?_) (ar D.bool ?_));all_goals
    have:iE s=false:=by rw[hr,aR ae,hc2];rfl
    simp[jL,this]
  simp only[ct]at hc2;refine ay ?_;have h48:=hc2;simp only[a8,bp,aY]at h48;have hn:=tK s i ae;have hn2:=vT s i ae;have h256:=uh s i;refine aE ?_;refine nH ?_;refine aB ?_;refine sH (at8 s i-48) (hb:=fun _=>IntWalk.u8_in _ ae) ?_;refine nF (at8 s i-48) (hb:=fun _=>IntWalk.i64_in _ ae) ?_;refine aB ?_;rw[show(dL (s.take i):Int)*10+(at8 s i-48)=(dL (s.take (i+1)):Nat)by omega];refine aW ?_;exact⟨i+1,⟨ae,h9,by rw[hr,aR ae,hc2];rfl⟩,ae,(dF [])⟩
 refine aF ?_;have ht:s.take i=s:=dM ae;rw[ht];refine aB ?_;refine cC (fun hc3=>?_) fun hc3=>?_
 .refine aH ?_;refine bE (aN (ar (D.int .i64) ?_) (ar D.bool ?_));all_goals
   have:iE s=false:=by rw[hr,dr ae,Bool.and_false]
   simp[jL,this]
 refine aW ?_;refine bE (aN (ar (D.int .i64) ?_) (ar D.bool ?_));all_goals
  have:iE s=true:=by rw[hr,ch ae,cv ae];rfl
  simp[jL,this]
def QC (Y:Ctx):Prop:=xD (bq Y 667)
def CH:aD:=⟨1,5,fY,bR,(sq (r1 [gm dJ] 1 0) (sq (sq (r1 [gm bm] 2 0) (.block 0 (.loop (sq (sq (r1 [gm s2,gm s0,px l1,aP l0 l2] 3 3) (eO s3 0)) (sq (.block 1 (sq (r1 [gm s0,gm s2,K9 l0 l1,aP l2 (i8 48),gm l3,eW 4 s0,eW 4 s2,cF 4 (.ixS l5 l6),cF 4 (dY l7 (i8 57)),fC l4 l8] 4 9) (lM s4 dJ))) (r1 [gm s2,av l0 b7,gm l1] 2 2)))))) (sq (r1 [gm s0,px l0,cR l1 bm,gm l2] 1 3) .ret)))⟩
def w668  (t:au)   :cZ Y CH (.bool (cD t)) [.str t]:=by
 show bB _ _ _ [⟨_,_⟩,_,_,_,_] _;refine ak ?_;refine aH ?_;refine bc hm (ι:=Nat) (fun i=>[⟨true,.str t⟩,.un,⟨true,.int .i64 (i:Nat)⟩,.un,.un]) (fun i=>[]) 2 (fun i=>i<=t.length/\cI (fun i=>a8 (at8 t i)) 0 t.length=cI (fun i=>a8 (at8 t i)) i t.length) (fun i=>t.length-i) 0 ⟨ae,rfl⟩ (dF []) ?_;rintro i ⟨hi,hr⟩;refine aJ ?_;intro u0;refine ay ?_;refine cC (fun hc0=>?_) fun hc0=>?_
 .refine FB ?_;refine eV (fun hc1=>?_) fun hc1=>?_
  .refine aH ?_;refine bQ ?_;simp only[cD];rw[hr,aR ae];rcases hc1 with h|h<;>simp[a8]<;>omega
  refine bM ?_;exact⟨i+1,⟨ae,by rw[hr,aR ae];rw[show a8 (at8 t i)=true by simp only[a8,bp,aY];omega];rfl⟩,ae,(dF [])⟩
 refine aJ ?_;intro u1;refine aF ?_;refine bQ ?_;simp only[cD];rw[hr,ch ae];simp
def TI (Y:Ctx):Prop:=xE (bq Y 668)
def PH:aD:=⟨1,7,fY,bR,(sq (r1 [gm dJ] 1 0) (sq (sq (r1 [gm s0,px l0,aP l1 b7,gm l2,eW 3 s0,cF 3 (.lenS l4),cF 3 (dY l5 C7),fC l3 l6] 2 7) (lM s2 dJ)) (sq (sq (r1 [gm bm] 3 0) (.block 0 (.loop (sq (sq (r1 [gm s3,gm s0,px l1,aP l0 l2] 4 3) (eO s4 0)) (sq (.block 1 (sq (r1 [gm s0,gm s3,K9 l0 l1,gm l2] 5 3) (sq (r1 [gm s5,aP l0 (i8 97),gm l1,eW 2 s5,cF 2 (dY l3 (i8 122)),fC l2 l4,gm l5,gmt 6 s5,bT 6 (po l7 (i8 48)),gmt 6 l8,eW 9 s5,cF 9 (dY l10 (i8 57)),UK 6 l9 gF,ei l6 iU,gm jR,gmt 14 s5,bT 14 (fo me (i8 45)),ei kE nC] 6 17) (lM s6 dJ)))) (r1 [gm s3,av l0 b7,gm l1] 3 2)))))) (wV rV))))⟩
def w666  (t:au)   :cZ Y PH (.bool (qH t)) [.str t]:=by
 show bB _ _ _ [⟨_,_⟩,_,_,_,_,_,_] _;refine ak ?_;refine aH ?_;intro u0;refine aB ?_;refine lL ?_;refine aB ?_;refine cC (fun hc0=>?_) fun hc0=>?_
 .refine aJ ?_;refine bQ ?_;symm;simp only[qH,dI,bA];exact Or.inl ae
 refine aJ ?_;refine bc hm (ι:=Nat) (fun i=>[⟨true,.str t⟩,.un,.un,⟨true,.int .i64 (i:Nat)⟩,.un,.un,.un]) (fun i=>[]) 10 (fun i=>i<=t.length/\qH t=cI (fun i=>mF (at8 t i)) i t.length) (fun i=>t.length-i) 0 ⟨ae,by simp only[qH];rw[cv ae,cv ae];rfl⟩ (dF []) ?_;rintro i ⟨hi,hr⟩;refine aJ ?_;intro u1;refine ay ?_;refine cC (fun hc1=>?_) fun hc1=>?_
 .refine Ql ?_;refine eV (fun hc2=>?_) fun hc2=>?_
  .refine aH ?_;refine bQ ?_;rw[hr,aR ae];have:mF (at8 t i)=false:=(by simp only[mF,gT,a8,dR,dI,bA];omega);rw[this];rfl
  refine bM ?_;exact⟨i+1,⟨ae,by rw[hr,aR ae];have:mF (at8 t i)=true:=(by simp only[mF,gT,a8,c8,bp,aY];omega);rw[this];rfl⟩,ae,(dF [])⟩
 refine aH ?_;refine bQ ?_;rw[hr,ch ae]
def J0 (T:List D->D->Prop):Prop:=∀(t:au),T [.str t] (.bool (qH t))
def WZ (Y:Ctx):Prop:=J0 (bq Y 666)
def Mc:aD:=⟨2,11,[⟨2,none⟩],bR,(sq (r1 [gm dJ] 2 0) (sq (sq (r1 [gm s0,aL l0 cse] 3 1) (.cond s3 (sq (r1 [gm rV] 2 0) .ret) .skip)) (sq (r1 [gm s0,gx 470 [l0,(i8 46)] gA,gm l1] 4 2) (sq (sq (r1 [gm s4,gl l0,cR l1 rX] 5 2) (.cond s5 (sq (r1 [gm dJ] 2 0) .ret) .skip)) (sq (sq (r1 [gm bm] 6 0) (.block 0 (.loop (sq (sq (r1 [gm s6,gm s4,gl l1,aP l0 l2] 7 3) (eO s7 0)) (sq (.block 1 (sq (sq (r1 [gm s4,gm s6,ga 1 l0 l1,gd l2,gx 666 [l3] bR,kD l4] 8 5) (.cond s8 (sq (r1 [gm dJ] 2 0) .ret) .skip)) (sq (r1 [gm s4,gm s6,ga 1 l0 l1,gd l2,gx 667 [l3] bR,gm l4,ge l5 0,ge l5 1,gm l6,gm l7] 9 9) (sq (r1 [gm s1,gm l0,gmt 1 s4,gmt 1 s6,bT 1 (.ia 1 l2 l3),kZ 1 l4,bT 1 (.call 668 [l5] bR),ei l1 l6,gm l7,gmt 8 s9,bT 8 (.un .not l9),ei l8 l10] 10 11) (.cond iQ (sq (r1 [gm dJ] 2 0) .ret) .skip))))) (r1 [gm s6,av l0 b7,gm l1] 6 2)))))) (sq (r1 [gm rV] 2 0) .ret))))))⟩
def w456 (h470:FO Y)(h666:WZ Y)(h667:QC Y)(h668:TI Y)(s:au)(p:Bool)  (hp0:s.length<=1048576):cZ Y Mc (.bool (qI s p)) [.str s,.bool p]:=by
 show bB _ _ _ [⟨_,_⟩,⟨_,_⟩,_,_,_,_,_,_,_,_,_] _;refine ak ?_;refine aW ?_;refine cC (fun hc0=>?_) fun hc0=>?_
 .refine aJ ?_;refine bQ ?_;simp[qI,hc0]
 refine aB ?_;refine aj (hc:=h470 _ _ ?_) ?_;rotate_left;first|assumption|omega;have hlen:=eL s 46
 refine aH ?_;intro u0;refine ay ?_;refine aw (fun hc1=>?_) (fun hc1=>?_)
 .try simp only[eh]at hc1
  refine aJ ?_;refine bQ ?_;simp only[qI,nI];rw[dr hc0,dr ae];rfl
 simp only[bA]at hc1;refine aJ ?_;refine bc hm (ι:=Nat) (fun i=>[⟨true,.str s⟩,⟨true,.bool p⟩,.un,.un,⟨true,.sl 1 ((aq s 46).map D.str)⟩,.un,⟨true,.int .i64 (i:Nat)⟩,.un,.un,.un,.un]) (fun i=>[]) 10 (fun i=>i<=(aq s 46).length/\qI s p=cI (fun i=>hY p (aq s 46)[i]!) i (aq s 46).length) (fun i=>(aq s 46).length-i) 0 ⟨ae,by simp only[qI,nI];rw[dr hc0,cv ae];rfl⟩ (dF []) ?_;rintro i ⟨hi,hr⟩;refine aJ ?_;intro u1;refine ay ?_;refine cC (fun hc2=>?_) fun hc2=>?_
 .refine bM ?_;refine aj (hc:=h666 _) ?_;refine ay ?_;refine aw (fun hc3=>?_) (fun hc3=>?_)
  .simp only[bK]at hc3;refine aW ?_;refine bQ ?_;rw[hr,aR ae];simp only[hY,hc3];rfl
  simp only[ct]at hc3;refine aH ?_;refine aj (hc:=h667 _) ?_;refine nM ?_;refine aj (hc:=h668 _) ?_;refine aH ?_;refine wp_cond (fun hc4=>?_) (fun hc4=>?_)
  .skip
   refine aH ?_;refine bQ ?_;have h5:hY p (aq s 46)[i]! =false:=(by simp only[hY,hc3];revert hc4;generalize cD (aq s 46)[i]! =a;generalize iE (aq s 46)[i]! =b;cases p<;>cases a<;>cases b<;>simp);rw[hr,aR ae,h5];rfl
  skip
  refine bM ?_;exact⟨i+1,⟨ae,by rw[hr,aR ae];have h5:hY p (aq s 46)[i]! =true:=(by simp only[hY,hc3];revert hc4;generalize cD (aq s 46)[i]! =a;generalize iE (aq s 46)[i]! =b;cases p<;>cases a<;>cases b<;>simp);rw[h5];rfl⟩,ae,(dF [])⟩
 refine aH ?_;refine bQ ?_;rw[hr,ch ae]
def JE (T:List D->D->Prop):Prop:=∀(s:au) (p:Bool),(s.length<=1048576)->T [.str s,.bool p] (.bool (qI s p))
def Ww (Y:Ctx):Prop:=JE (bq Y 456)
def PF:aD:=⟨1,2,fY,bR,(sq (r1 [gm dJ] 1 0) (sq (r1 [gm s0,fN l0 bm,gm l1,gmt 2 s0,bT 2 (lZ l3 (i6 9999)),ei l2 l4,gm l5] 1 6) .ret))⟩
def w455 {Y:Ctx}(hm:(Y.at 0).bU)  (n:Int)   :cZ Y PF (.bool (oS n)) [.int .i64 n]:=by
 show bB _ _ _ [⟨_,_⟩,_] _;refine ak ?_;refine gJ ?_;exact bQ rfl
def Wv (Y:Ctx):Prop:=xo (bq Y 455)
def PE:aD:=⟨1,3,fY,bR,(sq (rg [gb 5 s0,gm dJ] [(2,0),(1,1)]) (sq (r1 [gf 0 s2,gd l0,gx 455 [l1] bR,gm l2,m4 3 1 s2,kZ 3 l4,bT 3 (.call 455 [l5] bR),ei l3 l6,gm l7,m4 8 2 s2,kZ 8 l9,bT 8 (.call 455 [l10] bR),ei l8 gF,gm iU,m4 13 3 s2,kZ 13 kE,bT 13 (.call 456 [me,rV] gA),ei jR nC,gm rF,m4 18 4 s2,kZ 18 uc,bT 18 (.call 456 [zO,dJ] gA),ei sY AV,gm Da] 1 23) .ret))⟩
def w217 {Y:Ctx}(hm:(Y.at 0).bU)(h455:Wv Y)(h456:Ww Y)(v:c9)  (hp0:v.sm):cZ Y PE (.bool (eH v)) [c9.D v]:=by
 show bB _ _ _ [⟨_,_⟩,_,_] _;refine ak ?_;refine aH ?_;refine aj (hc:=h455 _) ?_;refine aB ?_;refine aj (hc:=h455 _) ?_;refine aF ?_;refine aj (hc:=h455 _) ?_;refine aF ?_;refine df (hc:=fun hf=>h456 v.pre true hp0.1) ?_;refine aF ?_;refine df (hc:=fun hf=>h456 v.build false hp0.2) ?_;refine aF ?_;exact bQ rfl
def Ks (Y:Ctx):Prop:=xg (bq Y 217)
def CG:aD:=⟨1,4,fY,bR,(sq (rg [gb 5 s0,gm cse] [(2,0),(1,1)]) (sq (r2 [gf 0 s2,gd l0,gx 734 [l1] bR,av l2 (cs [46]),gf 1 s2,gd l4,gx 734 [l5] bR,av l3 l6,gm l7] 3 8) (sq (r1 [gm s3,av l0 (cs [46]),gf 2 s2,gd l2,gx 734 [l3] bR,av l1 l4,gm l5] 1 6) .ret)))⟩
def w554 {Y:Ctx}(hm:(Y.at 0).bU)(h734:TQ Y)(v:c9)  (hp0:oS v.major=true/\oS v.minor=true/\oS v.patch=true):cZ Y CG (.str (dp v.major.toNat++[46]++dp v.minor.toNat++[46]++dp v.patch.toNat)) [c9.D v]:=by
 show bB _ _ _ [⟨_,_⟩,_,_,_] _;obtain⟨hq1,hq2,hq3⟩:=hp0;simp only[oS,bp,aY]at hq1 hq2 hq3;have hl1:=dU 4 v.major.toNat ae ae;have hl2:=dU 4 v.minor.toNat ae ae;have hl3:=dU 4 v.patch.toNat ae ae;refine ak ?_;refine aH ?_;refine aj (hc:=h734 _ ?_) ?_;rotate_left;first|assumption|omega
 refine cP (hb:=fun _=>cA) ?_;refine ay ?_;refine aj (hc:=h734 _ ?_) ?_;rotate_left;first|assumption|omega
 refine cP (hb:=fun _=>cA) ?_;refine aF ?_;refine cP (hb:=fun _=>cA) ?_;refine ay ?_;refine aj (hc:=h734 _ ?_) ?_;rotate_left;first|assumption|omega
 refine cP (hb:=fun _=>cA) ?_;refine aB ?_;exact cG rfl
def JX (T:List D->D->Prop):Prop:=∀(v:c9),(oS v.major=true/\oS v.minor=true/\oS v.patch=true)->T [c9.D v] (.str (dp v.major.toNat++[46]++dp v.minor.toNat++[46]++dp v.patch.toNat))
def WV (Y:Ctx):Prop:=JX (bq Y 554)
def Hc:aD:=⟨1,7,fY,bR,(sq (rg [gb 5 s0,gm cse] [(2,0),(1,1)]) (sq (sq (r1 [gk 5 true s2,gx 217 [l0] zZ,kD l1] 3 2) (lM s3 cse)) (sq (r1 [gk 5 true s2,gx 554 [l0] zZ,gm l1] 5 2) (sq (sq (r1 [gf 3 s2,gd l0,cj l1 cse] 4 2) (.cond s4 (r1 [gm s5,av l0 (cs [45]),gf 3 s2,gd l2,av l1 l3,gm l4] 5 5) .skip)) (sq (sq (r1 [gf 4 s2,gd l0,cj l1 cse] 6 2) (.cond s6 (r1 [gm s5,av l0 (cs [43]),gf 4 s2,gd l2,av l1 l3,gm l4] 5 5) .skip)) (sq (r1 [gm s5,gm l0] 1 1) .ret))))))⟩
def w316 {Y:Ctx}(hm:(Y.at 0).bU)(h217:Ks Y)(h554:WV Y)(v:c9)  (hp0:v.sm):cZ Y Hc (.str (jN v)) [c9.D v]:=by
 show bB _ _ _ [⟨_,_⟩,_,_,_,_,_,_] _;obtain⟨hs1,hs2⟩:=hp0;have hp0:v.sm:=⟨hs1,hs2⟩;refine ak ?_;refine aH ?_;refine aj (hc:=h217 _ ?_) ?_;rotate_left;first|assumption|omega
 refine ay ?_;refine aw (fun hc0=>?_) (fun hc0=>?_)
 .simp only[bK]at hc0;refine aJ ?_;refine cG ?_;simp[jN,hc0]
 simp only[ct]at hc0;refine ay ?_;have hv:=hc0;simp only[eH,bp]at hv;obtain⟨⟨⟨⟨hv1,hv2⟩,hv3⟩,_⟩,_⟩:=hv;have hq1:=hv1;have hq2:=hv2;have hq3:=hv3;simp only[oS,bp,aY]at hq1 hq2 hq3;have hl1:=dU 4 v.major.toNat ae ae;have hl2:=dU 4 v.minor.toNat ae ae;have hl3:=dU 4 v.patch.toNat ae ae;refine aE ?_;refine aj (hc:=h554 v ⟨hv1,hv2,hv3⟩) ?_;refine bM ?_;refine cC (fun hc1=>?_) fun hc1=>?_
 .refine ay ?_;refine cP (hb:=fun _=>cA) ?_;refine ay ?_;refine cP (hb:=fun _=>cA) ?_;refine bM ?_;refine cC (fun hc2=>?_) fun hc2=>?_
  .refine ay ?_;refine cP (hb:=fun _=>cA) ?_;refine ay ?_;refine cP (hb:=fun _=>cA) ?_;refine aW ?_;refine cG ?_;simp[jN,rM,hc0,hc1,hc2]
  refine aH ?_;refine cG ?_;simp[jN,rM,hc0,hc1,hc2]
 refine aW ?_;refine cC (fun hc2=>?_) fun hc2=>?_
 .refine ay ?_;refine cP (hb:=fun _=>cA) ?_;refine ay ?_;refine cP (hb:=fun _=>cA) ?_;refine aW ?_;refine cG ?_;simp[jN,rM,hc0,hc1,hc2]
 refine aH ?_;refine cG ?_;simp[jN,rM,hc0,hc1,hc2]
def Wh (Y:Ctx):Prop:=xt (bq Y 316)
def Mh:aD:=⟨2,3,[⟨2,none⟩],bR,(sq (r1 [gm (iu 0)] 2 0) (sq (r1 [gm s0,gm s1,gn (.bin .shl l0 l1),gm s0,gm s1,ek (iu 64) l4,gn (.bin .shr l3 l5),Io l2 l6,gm l7] 2 8) .ret))⟩
def w464 {Y:Ctx}(hm:(Y.at 0).bU)  (h:Int)(n:Nat)  (hp0:n<=63):cZ Y Mh (.int .u64 (VA h n)) [.int .u64 h,.int .u64 (n:Nat)]:=by
 show bB _ _ _ [⟨_,_⟩,⟨_,_⟩,_] _;refine ak ?_;refine aJ ?_;refine IJ (tW h n) (hb:=fun _=>by rw[show min (Int.toNat (n:Int)) (IntKind.bits .u64)=n by simp[IntKind.bits];omega];rfl) ?_;refine ay ?_;refine sH ((64-n:Nat):Int) (hb:=fun _=>by rw[IntKind.wrap_u64];omega) ?_;refine tM (r0 h (64-n)) (hb:=fun _=>by rw[show min (Int.toNat ((64-n:Nat):Int)) (IntKind.bits .u64)=64-n by simp[IntKind.bits]];rfl) ?_;refine IE (VA h n) (hb:=fun _=>rfl) ?_;refine aB ?_;refine bE (ar (D.int .u64) ?_);rfl
def JK (T:List D->D->Prop):Prop:=∀(h:Int) (n:Nat),(n<=63)->T [.int .u64 h,.int .u64 (n:Nat)] (.int .u64 (VA h n))
def WE (Y:Ctx):Prop:=JK (bq Y 464)
def PM:aD:=⟨1,5,fY,bR,(sq (r1 [gm (iu 0)] 1 0) (sq (r1 [gm (iu 11400714819323198485)] 4 0) (sq (sq (r1 [gm bm] 2 0) (.block 0 (.loop (sq (sq (r1 [gm s2,gm s0,gl l1,aP l0 l2] 3 3) (eO s3 0)) (sq (.block 1 (r1 [gm s4,gm s0,gm s2,ga 1 l1 l2,gd l3,gn (.cvi .u64 l4),gn (.bin .xor l0 l5),gx 464 [l6,(iu 13)] gA,gn (.bin .mul l7 (iu 18397679294719823053)),gm l8] 4 9)) (r1 [gm s2,av l0 b7,gm l1] 2 2)))))) (sq (r1 [gm s4,gm s4,gn (.bin .shr l1 (iu 29)),gn (.bin .xor l0 l2),gm l3] 1 4) .ret))))⟩
def w221 (h464:WE Y)(s:au)   :cZ Y PM (.int .u64 (E2 s)) [.sl 1 ((s).map fun b=>D.int .u8 b.toNat)]:=by
 show bB _ _ _ [⟨_,_⟩,_,_,_,_] _;refine ak ?_;refine cU ?_;refine bc hm (ι:=Nat) (fun i=>[⟨true,.sl 1 (s.map fun b=>D.int .u8 b.toNat)⟩,.un,⟨true,.int .i64 (i:Nat)⟩,.un,⟨true,.int .u64 (vn (s.take i))⟩]) (fun i=>[]) 3 (fun i=>i<=s.length) (fun i=>s.length-i) 0 ae (dF []) ?_;intro i hi;refine aJ ?_;intro u0;refine ay ?_;refine cC (fun hc0=>?_) fun hc0=>?_
 .refine aW ?_;refine cE (v:=.int .u8 (at8 s i)) (hv:=fun _=>ld8 s i) ?_;refine nF (at8 s i) (hb:=fun _=>by have:=uh s i;rw[IntKind.wrap_u64];omega) ?_;refine Cv (zI (vn (s.take i)) (at8 s i)) (hb:=fun _=>rfl) ?_;refine aj (hc:=h464 _ 13 ae) ?_;refine Px (vn (s.take (i+1))) (hb:=fun _=>by rw[Bs s i ae];rfl) ?_;refine cU ?_;exact⟨i+1,ae,ae,(dF [])⟩
 refine aB ?_;have ht:s.take i=s:=dM ae;rw[ht];refine ay ?_;refine tM (r0 (vn s) 29) (hb:=fun _=>rfl) ?_;refine Cv (E2 s) (hb:=fun _=>rfl) ?_;refine aB ?_;refine bE (ar (D.int .u64) ?_);rfl
def V9 (Y:Ctx):Prop:=xk (bq Y 221)
def Du:aD:=⟨1,12,[⟨1,none⟩,⟨2,none⟩],gA,(sq (rg [gm (iu 0),gm dJ] [(1,0),(2,1)]) (sq (sq (r1 [gm s0,px l0,cj l1 (i6 16)] 3 2) (.cond s3 (sq (rg [gm (iu 0),gm dJ] [(1,0),(2,1)]) .ret) .skip)) (sq (r1 [gm (iu 0)] 10 0) (sq (sq (rg [gm s0,px l0,gm bm] [(5,1),(4,2)]) (.block 0 (.loop (sq (r1 [aP s4 s5] 6 0) (sq (eO s6 0) (sq (.block 1 (sq (r1 [gm s4,gm l0] 7 1) (sq (r1 [gm s0,gm s7,K9 l0 l1,gm l2] 8 3) (.block 2 (sq (r1 [gm s8,fN l0 (i8 48),gm l1,gmt 2 s8,bT 2 (lZ l3 (i8 57)),ei l2 l4,gm l5] 9 6) (.cond s9 (r1 [gm iQ,gn (.bin .shl l0 (iu 4)),gm s8,ek l2 (i8 48),gn (.cvi .u64 l3),Io l1 l4,gm l5] 10 6) (sq (r1 [gm s8,fN l0 (i8 97),gm l1,gmt 2 s8,bT 2 (lZ l3 (i8 102)),ei l2 l4,gm l5] 11 6) (.cond kH (r1 [gm iQ,gn (.bin .shl l0 (iu 4)),gm s8,ek l2 (i8 97),av l3 (i8 10),gn (.cvi .u64 l4),Io l1 l5,gm l6] 10 7) (sq (rg [gm (iu 0),gm dJ] [(1,0),(2,1)]) .ret))))))))) (r1 [av s4 b7,gm l0] 4 1))))))) (sq (rg [gm iQ,gm l0,gm rV] [(1,1),(2,2)]) .ret)))))⟩
def w499  (s:au)   :cZ Y Du (.tup [.int .u64 (tR s),.bool (mi s)]) [.str s]:=by
 show bB _ _ _ [⟨_,_⟩,_,_,_,_,_,_,_,_,_,_,_] _;refine ak ?_;refine aW ?_;intro u0;refine ay ?_;refine cC (fun hc0=>?_) fun hc0=>?_
 .refine aH ?_;refine bE (aN (ar (D.int .u64) ?_) (ar D.bool ?_));all_goals
   have:mi s=false:=by simp only[mi];rw[dr (by omega:¬s.length=16)];rfl
   simp[tR,this]
 refine bM ?_;intro u1;refine ay ?_;have h16:s.length=16:=ae;have hP:mi s=cI (fun i=>oq (at8 s i)) 0 s.length:=by simp only[mi];rw[cv h16];rfl
 refine bc hm (ι:=Nat) (fun i=>[⟨true,.str s⟩,.un,.un,.un,⟨true,.int .i64 (i:Nat)⟩,⟨true,.int .i64 (s.length:Nat)⟩,.un,.un,.un,.un,⟨true,.int .u64 (pA (s.take i))⟩,.un]) (fun i=>[]) 9 (fun i=>i<=s.length/\s.length=16/\mi s=cI (fun i=>oq (at8 s i)) i s.length) (fun i=>s.length-i) 0 ⟨ae,h16,hP⟩ (dF []) ?_;rintro i ⟨hi,h16,hr⟩;refine aB ?_;refine cC (fun hc1=>?_) fun hc1=>?_
 .refine Te ?_;refine eV (fun hc2=>?_) fun hc2=>?_
  .refine aE ?_;have h256:=uh s i;have hz:oq (at8 s i)=true:=by simp only[oq,a8,c8,bp,aY];omega
   have hv:Gm (at8 s i)=at8 s i-48:=by unfold Gm;rw[ax (by simp only[a8,bp,aY];omega)]
   refine aE ?_;refine IJ (tW (pA (s.take i)) 4) (hb:=fun _=>by rw[show min (Int.toNat (4:Int)) (IntKind.bits .u64)=4 by simp[IntKind.bits]];rfl) ?_;refine aE ?_;refine sH (at8 s i-48) (hb:=fun _=>IntWalk.u8_in _ ae) ?_;refine nF (at8 s i-48) (hb:=fun _=>by rw[IntKind.wrap_u64];omega) ?_;refine IE (pA (s.take (i+1))) (hb:=fun _=>by rw[zk s i ae];unfold qv;rw[hv];rfl) ?_;refine cU ?_;exact⟨i+1,⟨ae,h16,by rw[hr,aR ae,hz];rfl⟩,ae,(dF [])⟩
  refine cU ?_;refine eV (fun hc3=>?_) fun hc3=>?_
  .refine aE ?_;have h256:=uh s i;have hz:oq (at8 s i)=true:=by simp only[oq,a8,c8,bp,aY];omega
   have hv:Gm (at8 s i)=at8 s i-87:=by unfold Gm;rw[ai (by simp only[a8,bp,aY];omega)]
   refine aE ?_;refine IJ (tW (pA (s.take i)) 4) (hb:=fun _=>by rw[show min (Int.toNat (4:Int)) (IntKind.bits .u64)=4 by simp[IntKind.bits]];rfl) ?_;refine aE ?_;refine sH (at8 s i-97) (hb:=fun _=>IntWalk.u8_in _ ae) ?_;refine zh (at8 s i-87) (hb:=fun _=>by rw[show at8 s i-97+10=at8 s i-87 by omega];exact IntWalk.u8_in _ ae) ?_;refine nF (at8 s i-87) (hb:=fun _=>by rw[IntKind.wrap_u64];omega) ?_;refine IE (pA (s.take (i+1))) (hb:=fun _=>by rw[zk s i ae];unfold qv;rw[hv];rfl) ?_;refine cU ?_;exact⟨i+1,⟨ae,h16,by rw[hr,aR ae,hz];rfl⟩,ae,(dF [])⟩
  refine bM ?_;refine bE (aN (ar (D.int .u64) ?_) (ar D.bool ?_));all_goals
   have hz:oq (at8 s i)=false:=by simp only[oq,a8,dR,dI,bA];omega
   have:mi s=false:=by rw[hr,aR ae,hz];rfl
   simp[tR,this]
 refine bM ?_;refine bE (aN (ar (D.int .u64) ?_) (ar D.bool ?_));all_goals
  have:mi s=true:=by rw[hr,ch ae]
  have ht:s.take i=s:=dM ae;simp[tR,this,ht]
def JT (T:List D->D->Prop):Prop:=∀(s:au),T [.str s] (.tup [.int .u64 (tR s),.bool (mi s)])
def WN (Y:Ctx):Prop:=JT (bq Y 499)
def G3:aD:=⟨2,6,[⟨2,none⟩],bR,(sq (r1 [gm bm] 2 0) (sq (sq (r1 [gm bm] 3 0) (.block 0 (.loop (sq (sq (r1 [gm s3,gm s0,gl l1,aP l0 l2] 4 3) (eO s4 0)) (sq (.block 1 (sq (r1 [gm s0,gm s3,ga 2 l0 l1,gf 0 l2,gd l3,gm s1,aL l4 l5] 5 6) (.cond s5 (sq (r1 [gm s3,gm l0] 2 1) .ret) .skip))) (r1 [gm s3,av l0 b7,gm l1] 3 2)))))) (sq (r1 [gn (.mv (.c (.int .i64 (-1))))] 2 0) .ret)))⟩
def w955  (l:List bW)(nm:au)   :cZ Y G3 (.int .i64 (findF l nm 0)) [.sl 2 (l.map bW.D),.str nm]:=by
 show bB _ _ _ [⟨_,_⟩,⟨_,_⟩,_,_,_,_] _;refine ak ?_;refine aH ?_;refine bc hm (ι:=Nat) (fun i=>[⟨true,.sl 2 (l.map bW.D)⟩,⟨true,.str nm⟩,.un,⟨true,.int .i64 (i:Nat)⟩,.un,.un]) (fun i=>[]) 2 (fun i=>i<=l.length/\findF l nm 0=findF l nm i) (fun i=>l.length-i) 0 ⟨ae,rfl⟩ (dF []) ?_;rintro i ⟨hi,hr⟩;refine aJ ?_;intro u0;refine ay ?_;refine cC (fun hc0=>?_) fun hc0=>?_
 .refine fW ?_;refine eV (fun hc1=>?_) fun hc1=>?_
  .refine aW ?_;refine cN ?_;rw[hr,Dy ae hc1]
  refine bM ?_;exact⟨i+1,⟨ae,by rw[hr,Dz ae hc1]⟩,ae,(dF [])⟩
 refine aH ?_;refine cN ?_;rw[hr,AH ae]
def xU (T:List D->D->Prop):Prop:=∀(l:List bW) (nm:au),T [.sl 2 (l.map bW.D),.str nm] (.int .i64 (findF l nm 0))
def Xu (Y:Ctx):Prop:=xU (bq Y 955)
def B1:aD:=⟨2,10,[⟨2,none⟩],bR,(sq (r1 [gm bm] 2 0) (sq (sq (rg [gm s0,gl l0,gm bm] [(6,0),(4,1),(3,2)]) (.block 0 (.loop (sq (r1 [aP s3 s4] 5 0) (sq (eO s5 0) (sq (.block 1 (sq (rg [gm s3,ga 2 s6 s3,gk 2 true l1,gb 2 (.c (.agg [.str [],.aA])),gm l0,gt 2 l3 l2] [(7,3),(9,4)]) (sq (r1 [gf 0 s7,gd l0,gm s1,aL l1 l2] 8 3) (.cond s8 (sq (r1 [gm s9,gm l0] 2 1) .ret) .skip)))) (r1 [av s3 b7,gm l0] 3 1))))))) (sq (r1 [gn (.mv (.c (.int .i64 (-1))))] 2 0) .ret)))⟩
def w663  (l:List bW)(nm:au)   :cZ Y B1 (.int .i64 (findF l nm 0)) [.sl 2 (l.map bW.D),.str nm]:=by
 show bB _ _ _ [⟨_,_⟩,⟨_,_⟩,_,_,_,_,_,_,_,_] _;refine ak ?_;refine aH ?_;intro u0;refine ay ?_;refine bc hm (ι:=Nat) (fun i=>[⟨true,.sl 2 (l.map bW.D)⟩,⟨true,.str nm⟩,.un,⟨true,.int .i64 (i:Nat)⟩,⟨true,.int .i64 (l.length:Nat)⟩,.un,⟨true,.sl 2 (l.map bW.D)⟩,.un,.un,.un]) (fun i=>[]) 4 (fun i=>i<=l.length/\findF l nm 0=findF l nm i) (fun i=>l.length-i) 0 ⟨ae,rfl⟩ (dF []) ?_;rintro i ⟨hi,hr⟩;refine aB ?_;refine cC (fun hc0=>?_) fun hc0=>?_
 .refine aJ ?_;first|refine cE (v:=(bW.D _)) ?_|refine fe (v:=(bW.D _)) ?_
  refine ay ?_;refine a7 (bW.D l[i]!) (he:=bg) ?_;refine aW ?_;refine eV (fun hc1=>?_) fun hc1=>?_
  .refine aW ?_;refine cN ?_;rw[hr,Dy ae hc1]
  refine aW ?_;exact⟨i+1,⟨ae,by rw[hr,Dz ae hc1]⟩,ae,(dF [])⟩
 refine aH ?_;refine cN ?_;rw[hr,AH ae]
def WY (Y:Ctx):Prop:=xU (bq Y 663)
def PC:aD:=⟨2,3,[⟨2,none⟩],bR,(sq (r1 [gm dJ] 2 0) (sq (r1 [gm s1,aL l0 (cs [100,101,102,97,117,108,116]),gm l1,eW 2 s0,eW 2 s1,cF 2 (.call 955 [l3,l4] [[.sl 2 [.a,.sl 1 [.a]]],[.a]]),cF 2 (rS l5 bm),fC l2 l6,gm l7] 2 8) .ret))⟩
def w816 {Y:Ctx}(hm:(Y.at 0).bU)(h955:Xu Y)(l:List bW)(nm:au)   :cZ Y PC (.bool (Og l nm)) [.sl 2 (l.map bW.D),.str nm]:=by
 show bB _ _ _ [⟨_,_⟩,⟨_,_⟩,_] _;refine ak ?_;refine bM ?_;refine aj (hc:=h955 _ _) ?_;refine aJ ?_;exact bQ rfl
def xR (T:List D->D->Prop):Prop:=∀(l:List bW) (nm:au),T [.sl 2 (l.map bW.D),.str nm] (.bool (Og l nm))
def Xm (Y:Ctx):Prop:=xR (bq Y 816)
def zW:aD:=⟨2,3,[⟨2,none⟩],bR,(sq (r1 [gm dJ] 2 0) (sq (r1 [gm s1,aL l0 (cs [100,101,102,97,117,108,116]),gm l1,eW 2 s0,eW 2 s1,cF 2 (.call 663 [l3,l4] [[.sl 2 [.a,.sl 1 [.a]]],[.a]]),cF 2 (rS l5 bm),fC l2 l6,gm l7] 2 8) .ret))⟩
def w449 {Y:Ctx}(hm:(Y.at 0).bU)(h663:WY Y)(l:List bW)(nm:au)   :cZ Y zW (.bool (Og l nm)) [.sl 2 (l.map bW.D),.str nm]:=by
 show bB _ _ _ [⟨_,_⟩,⟨_,_⟩,_] _;refine ak ?_;refine bM ?_;refine aj (hc:=h663 _ _) ?_;refine aJ ?_;exact bQ rfl
def Wt (Y:Ctx):Prop:=xR (bq Y 449)
def G4:aD:=⟨1,8,[⟨1,none⟩,⟨2,none⟩,⟨3,none⟩],VT,(sq (rg [gm bm,gm cse,gm cse] [(1,0),(2,1),(3,2)]) (sq (sq (r1 [gm s0,gx 357 [l0] bR] 4 1) (.cond s4 (sq (rg [gm s0,gm b7,gm l0,gm cse] [(1,1),(2,2),(3,3)]) .ret) .skip)) (sq (sq (r1 [gm s0,px l0,cR l1 bm,gm l2,gmt 3 s0,bT 3 (.ixS l4 bm),bT 3 (cB l5 (i8 63)),ei l3 l6,gm l7,gmt 8 s0,bT 8 (.slS l9 (some b7) none),bT 8 (.call 357 [l10] bR),ei l8 gF] 5 12) (.cond s5 (sq (rt [gm s0,gn (.slS l0 (some b7) none),gm lQ,gm l1,gm cse] [(1,2),(2,3),(3,4)]) .ret) .skip)) (sq (r1 [gm s0,gx 470 [l0,(i8 47)] gA,gm l1] 6 2) (sq (sq (r1 [gm s6,gl l0,aL l1 lQ,gm l2,gmt 3 s6,bT 3 (.ia 1 l4 bm),kZ 3 l5,bT 3 (.call 216 [l6] bR),ei l3 l7,gm l8,gmt 9 s6,bT 9 (.ia 1 l10 b7),kZ 9 gF,bT 9 (.call 357 [iU] bR),ei l9 jR] 7 14) (.cond s7 (sq (rt [gm s6,ga 1 l0 bm,gd l1,gm s6,ga 1 l3 b7,gd l4,gm k9,gm l2,gm l5] [(1,6),(2,7),(3,8)]) .ret) .skip)) (sq (rg [gm bm,gm cse,gm cse] [(1,0),(2,1),(3,2)]) .ret))))))⟩
def w672 {Y:Ctx}(hm:(Y.at 0).bU)(h216:Kr Y)(h357:FN Y)(h470:FO Y)(s:au)  (hp0:s.length<=1048576):cZ Y G4 (.tup [.int .i64 (dd s).1,.str (dd s).2.1,.str (dd s).2.2]) [.str s]:=by
 show bB _ _ _ [⟨_,_⟩,_,_,_,_,_,_,_] _;refine ak ?_;refine aW ?_;refine aj (hc:=h357 _) ?_;refine aE ?_;refine cC (fun hc0=>?_) fun hc0=>?_
 .refine bM ?_;refine bE (gW (ar (D.int .i64) ?_) (ar D.str ?_) (ar D.str ?_));all_goals rw[H6 hc0]
 refine aJ ?_;intro u0;refine aB ?_;refine oB 0 ?_;refine aF ?_;refine jj 1 (hb:=fun h=>by simp at h;omega) ?_;refine aj (hc:=h357 _) ?_;refine ay ?_;refine cC (fun hc1=>?_) fun hc1=>?_
 .refine aB ?_;refine jj 1 (hb:=fun h=>ae) ?_;refine aJ ?_;refine bE (gW (ar (D.int .i64) ?_) (ar D.str ?_) (ar D.str ?_));all_goals rw[H7 hc0 hc1]
 refine aB ?_;refine aj (hc:=h470 _ _ ?_) ?_;rotate_left;first|assumption|omega
 refine aH ?_;intro u1;refine aB ?_;refine cM 0 ?_;refine aE ?_;refine aj (hc:=h216 _) ?_;refine aB ?_;refine cM 1 ?_;refine aE ?_;refine aj (hc:=h357 _) ?_;refine ay ?_;refine cC (fun hc2=>?_) fun hc2=>?_
 .refine aB ?_;refine cM 0 ?_;refine ay ?_;refine cM 1 ?_;refine aH ?_;refine bE (gW (ar (D.int .i64) ?_) (ar D.str ?_) (ar D.str ?_));all_goals rw[H8 hc0 hc1 hc2]
 refine aW ?_;refine bE (gW (ar (D.int .i64) ?_) (ar D.str ?_) (ar D.str ?_));all_goals rw[H5 hc0 hc1 hc2]
def xI (T:List D->D->Prop):Prop:=∀(s:au),(s.length<=1048576)->T [.str s] (.tup [.int .i64 (dd s).1,.str (dd s).2.1,.str (dd s).2.2])
def TK (Y:Ctx):Prop:=xI (bq Y 672)
def EB:aD:=⟨2,9,[⟨2,none⟩],bR,(sq (r1 [gm dJ] 2 0) (sq (sq (r1 [gm s1,gl l0,cR l1 uE,gm l2,eW 3 s1,cF 3 (.call 815 [l4] [[.sl 1 [.a]]]),cF 3 (.un .not l5),fC l3 l6] 3 7) (.cond s3 (sq (r1 [gm dJ] 2 0) .ret) .skip)) (sq (sq (r1 [gm bm] 4 0) (.block 0 (.loop (sq (sq (r1 [gm s4,gm s1,gl l1,aP l0 l2] 5 3) (eO s5 0)) (sq (.block 1 (sq (rg [gm s1,gm s4,ga 1 l0 l1,gd l2,gx 672 [l3] bR,gm l4,ge l5 0,ge l5 1,ge l5 2,gm l6,gm l7,gm l8] [(6,9),(7,10)]) (sq (r1 [gm s6,aL l0 bm,gm l1,eW 2 s6,cF 2 (cB l3 b7),eW 2 l4,gmt 5 s0,gmt 5 s7,bT 5 (.call 816 [l6,l7] [[.sl 2 [.a,.sl 1 [.a]]],[.a]]),bT 5 (.un .not l8),DK 2 l5 l9,fC l2 l10] 8 11) (.cond s8 (sq (r1 [gm dJ] 2 0) .ret) .skip)))) (r1 [gm s4,av l0 b7,gm l1] 4 2)))))) (sq (r1 [gm rV] 2 0) .ret))))⟩
def w671 (h672:TK Y)(h815:TR Y)(h816:Xm Y)(l:List bW)(of:List au)  (hp0:∀t∈of,t.length<=1048576):cZ Y EB (.bool (kO l of)) [.sl 2 (l.map bW.D),.sl 1 (of.map D.str)]:=by
 show bB _ _ _ [⟨_,_⟩,⟨_,_⟩,_,_,_,_,_,_,_] _;refine ak ?_;refine aH ?_;intro u0;refine aB ?_;refine aj (hc:=h815 _) ?_;refine aB ?_;refine aw (fun hc0=>?_) (fun hc0=>?_)
 .simp only[c8,aY,bK]at hc0;refine aJ ?_;refine bQ ?_;symm;simp only[kO];rcases hc0 with h|h
  .rw[dr ae];rfl
  .rw[h,Bool.and_false];rfl
 simp only[dR,bA,ct]at hc0;refine aJ ?_;have hb:kO l of=cI (fun i=>ig l of[i]!) 0 of.length:=by simp only[kO,hc0.2];rw[cv ae];rfl
 refine bc hm (ι:=Nat) (fun i=>[⟨true,.sl 2 (l.map bW.D)⟩,⟨true,.sl 1 (of.map D.str)⟩,.un,.un,⟨true,.int .i64 (i:Nat)⟩,.un,.un,.un,.un]) (fun i=>[]) 10 (fun i=>i<=of.length/\kO l of=cI (fun i=>ig l of[i]!) i of.length) (fun i=>of.length-i) 0 ⟨ae,hb⟩ (dF []) ?_;rintro i ⟨hi,hr⟩;refine aJ ?_;intro u1;refine ay ?_;refine cC (fun hc1=>?_) fun hc1=>?_
 .refine aW ?_;refine aj (hc:=h672 of[i]! (hp0 _ (bw ae))) ?_;refine zL ?_;refine aj (hc:=h816 _ _) ?_;refine aF ?_;refine wp_cond (fun hc2=>?_) (fun hc2=>?_)
  .have hz:ig l of[i]! =false:=by simp only[ig,hc2];rfl
   refine aH ?_;refine bQ ?_;rw[hr,aR ae,hz];rfl
  have hz:ig l of[i]! =true:=by simp only[ig,hc2];rfl
  refine bM ?_;exact⟨i+1,⟨ae,by rw[hr,aR ae,hz];rfl⟩,ae,(dF [])⟩
 refine aH ?_;refine bQ ?_;rw[hr,ch ae]
def J1 (T:List D->D->Prop):Prop:=∀(l:List bW) (of:List au),(∀t∈of,t.length<=1048576)->T [.sl 2 (l.map bW.D),.sl 1 (of.map D.str)] (.bool (kO l of))
def W1 (Y:Ctx):Prop:=J1 (bq Y 671)
def L2:aD:=⟨1,6,fY,bR,(sq (r1 [gm dJ] 1 0) (sq (sq (r1 [gm s0,gl l0,cR l1 C7] 2 2) (lM s2 dJ)) (sq (sq (r1 [gm bm] 3 0) (.block 0 (.loop (sq (sq (r1 [gm s3,gm s0,gl l1,aP l0 l2] 4 3) (eO s4 0)) (sq (.block 1 (sq (r2 [gm s0,gm s3,ga 2 l0 l1,gf 0 l2,gd l3,gx 357 [l4] bR,kD l5,gm l6,eW 7 s3,cF 7 (dY l8 bm),eW 7 l9,gmt 10 s0,gmt 10 s3,bT 10 (kC iU b7),bT 10 (.ia 2 gF jR),m4 10 0 kE,kZ 10 me,gmt 10 s0,gmt 10 s3,bT 10 (.ia 2 rF sY),m4 10 0 uc,kZ 10 zO,bT 10 (rS nC AV),DK 7 l10 Da,fC l7 Gu,gm Ic,eW 25 s0,eW 25 s0,eW 25 s3,cF 25 (.ia 2 Rv SX),jQ 25 1 SY,lN 25 VV,cF 25 (.call 671 [Om,Za] [[.sl 2 [.a,.sl 1 [.a]]],[.sl 1 [.a]]]),cF 25 (.un .not Zb),fC Lk l33] 5 34) (lM s5 dJ))) (r1 [gm s3,av l0 b7,gm l1] 3 2)))))) (wV rV))))⟩
def w459 (h357:FN Y)(h671:W1 Y)(l:List bW)  (hp0:wR l):cZ Y L2 (.bool (gP l)) [.sl 2 (l.map bW.D)]:=by
 show bB _ _ _ [⟨_,_⟩,_,_,_,_,_] _;refine ak ?_;refine aH ?_;intro u0;refine ay ?_;refine cC (fun hc0=>?_) fun hc0=>?_
 .refine aJ ?_;refine bQ ?_;symm;simp only[gP];rw[dr ae];rfl
 refine aJ ?_;have hb:gP l=cI (ja l) 0 l.length:=by simp only[gP];rw[cv ae];rfl
 refine bc hm (ι:=Nat) (fun i=>[⟨true,.sl 2 (l.map bW.D)⟩,.un,.un,⟨true,.int .i64 (i:Nat)⟩,.un,.un]) (fun i=>[]) 5 (fun i=>i<=l.length/\gP l=cI (ja l) i l.length) (fun i=>l.length-i) 0 ⟨ae,hb⟩ (dF []) ?_;rintro i ⟨hi,hr⟩;refine aJ ?_;intro u1;refine ay ?_;refine cC (fun hc1=>?_) fun hc1=>?_
 .refine bM ?_;refine aj (hc:=h357 _) ?_;refine bM ?_;refine cM (i-1) ?_;refine zL ?_;refine aj (hc:=h671 l l[i]!.of (hp0 _ (bw ae)).2.2) ?_;refine aB ?_;refine eV (fun hc2=>?_) fun hc2=>?_
  .refine aH ?_;refine bQ ?_;have hz:ja l i=false:=by
    simp only[ja];revert hc2;generalize cu l[i]!.name=z0;generalize Op.bytesLess l[i-1]!.name l[i]!.name=z1;generalize kO l l[i]!.of=z2;by_cases e0:0<i<;>cases z0<;>cases z1<;>cases z2<;>simp_all
   rw[hr,aR ae,hz];rfl
  refine bM ?_;have hz:ja l i=true:=by
   simp only[ja];revert hc2;generalize cu l[i]!.name=z0;generalize Op.bytesLess l[i-1]!.name l[i]!.name=z1;generalize kO l l[i]!.of=z2;by_cases e0:0<i<;>cases z0<;>cases z1<;>cases z2<;>simp_all
  exact⟨i+1,⟨ae,by rw[hr,aR ae,hz];rfl⟩,ae,(dF [])⟩
 refine aH ?_;refine bQ ?_;rw[hr,ch ae]
def xu (T:List D->D->Prop):Prop:=∀(l:List bW),(wR l)->T [.sl 2 (l.map bW.D)] (.bool (gP l))
def Wz (Y:Ctx):Prop:=xu (bq Y 459)
def B2:aD:=⟨1,12,[⟨1,none⟩,⟨2,none⟩,⟨3,none⟩],VT,(sq (rg [gm bm,gm cse,gm cse] [(1,0),(2,1),(3,2)]) (sq (sq (r1 [gm s0,gx 349 [l0] bR] 4 1) (.cond s4 (sq (rg [gm s0,gm b7,gm l0,gm cse] [(1,1),(2,2),(3,3)]) .ret) .skip)) (sq (sq (rg [gm s0,gx 254 [l0,(cs [63])] gA,gm l1,ge l2 0,ge l2 1,gm l3,gm l4] [(6,5),(5,6)]) (sq (r1 [gm s5,gm l0,gmt 1 s6,bT 1 (.call 349 [l2] bR),ei l1 l3] 7 4) (.cond s7 (sq (rg [gm s6,gm lQ,gm l0,gm cse] [(1,1),(2,2),(3,3)]) .ret) .skip))) (sq (sq (rg [gm s0,gx 487 [l0,(cs [47])] gA,gm l1,ge l2 0,ge l2 1,ge l2 2,gm l3,gm l4,gm l5] [(9,6),(10,7),(8,8)]) (sq (r1 [gm s8,gm l0,gmt 1 s9,bT 1 (.call 208 [l2] bR),ei l1 l3,gm l4,gmt 5 iQ,bT 5 (.call 349 [l6] bR),ei l5 l7] 11 8) (.cond kH (sq (rg [gm s9,gm iQ,gm k9,gm l0,gm l1] [(1,2),(2,3),(3,4)]) .ret) .skip))) (sq (rg [gm bm,gm cse,gm cse] [(1,0),(2,1),(3,2)]) .ret)))))⟩
def w448 {Y:Ctx}(hm:(Y.at 0).bU)(h208:Ko Y)(h254:Tq Y)(h349:FM Y)(h487:WJ Y)(s:au)  (hp0:s.length<=1048576):cZ Y B2 (.tup [.int .i64 (dd s).1,.str (dd s).2.1,.str (dd s).2.2]) [.str s]:=by
 show bB _ _ _ [⟨_,_⟩,_,_,_,_,_,_,_,_,_,_,_] _;refine ak ?_;refine aW ?_;refine aj (hc:=h349 _) ?_;refine aE ?_;refine cC (fun hc0=>?_) fun hc0=>?_
 .refine bM ?_;refine bE (gW (ar (D.int .i64) ?_) (ar D.str ?_) (ar D.str ?_));all_goals rw[H6 hc0]
 refine aF ?_;refine aj (hc:=h254 s [63] hp0 aG) ?_;refine fW ?_;refine aj (hc:=h349 _) ?_;refine ay ?_;refine cC (fun hc1=>?_) fun hc1=>?_
 .refine bM ?_;refine bE (gW (ar (D.int .i64) ?_) (ar D.str ?_) (ar D.str ?_));all_goals rw[Rq hc0 hc1]
 refine aF ?_;refine aj (hc:=h487 s 47 hp0) ?_;refine nM ?_;refine aj (hc:=h208 _) ?_;refine aB ?_;refine aj (hc:=h349 _) ?_;refine ay ?_;refine cC (fun hc2=>?_) fun hc2=>?_
 .refine cU ?_;refine bE (gW (ar (D.int .i64) ?_) (ar D.str ?_) (ar D.str ?_));all_goals rw[Rr hc0 hc1 hc2]
 refine aW ?_;refine bE (gW (ar (D.int .i64) ?_) (ar D.str ?_) (ar D.str ?_));all_goals rw[Rp hc0 hc1 hc2]
def Tt (Y:Ctx):Prop:=xI (bq Y 448)
def Dx:aD:=⟨1,18,fY,bR,(sq (r1 [gm dJ] 1 0) (sq (sq (r1 [gm s0,gl l0,cR l1 C7] 2 2) (lM s2 dJ)) (sq (sq (rg [gm s0,gl l0,gm bm] [(6,0),(4,1),(3,2)]) (.block 0 (.loop (sq (r1 [aP s3 s4] 5 0) (sq (eO s5 0) (sq (.block 1 (sq (rg [gm s3,ga 2 s6 s3,gk 2 true l1,gb 2 (.c (.agg [.str [],.aA])),gm l0,gt 2 l3 l2] [(7,3),(8,4)]) (sq (sq (r2 [gf 0 s7,gd l0,gx 349 [l1] bR,kD l2,gm l3,eW 4 s8,cF 4 (dY l5 bm),eW 4 l6,gmt 7 s0,gmt 7 s8,bT 7 (kC l9 b7),bT 7 (.ia 2 l8 l10),m4 7 0 gF,kZ 7 iU,m4 7 0 s7,kZ 7 kE,bT 7 (rS jR me),DK 4 l7 nC,fC l4 rF,gm sY,jQ 19 1 s7,lN 19 zO,cF 19 (.len AV),cF 19 (dY Da uE),fC uc Gu,gm Ic,jQ 25 1 s7,lN 25 Om,cF 25 (.call 447 [Rv] [[.sl 1 [.a]]]),cF 25 (.un .not SX),fC Lk SY] 9 30) (lM s9 dJ)) (sq (rg [gf 1 s7,gd l0,gl l1,gm bm] [(13,1),(11,2),(10,3)]) (.block 2 (.loop (sq (r1 [aP iQ kH] 12 0) (sq (eO mS 2) (sq (.block 3 (sq (r1 [ga 1 rJ iQ,gd l0,gm l1] 14 2) (sq (rg [gm rK,gx 448 [l0] bR,gm l1,ge l2 0,ge l2 1,ge l2 2,gm l3,gm l4,gm l5] [(15,6),(16,7)]) (sq (r1 [gm xa,aL l0 bm,gm l1,eW 2 xa,cF 2 (cB l3 b7),eW 2 l4,gmt 5 s0,gmt 5 FI,bT 5 (.call 449 [l6,l7] [[.sl 2 [.a,.sl 1 [.a]]],[.a]]),bT 5 (.un .not l8),DK 2 l5 l9,fC l2 l10] 17 11) (lM ET dJ))))) (r1 [av iQ b7,gm l0] 10 1)))))))))) (r1 [av s3 b7,gm l0] 3 1))))))) (wV rV))))⟩
def w213 (h349:FM Y)(h447:Ws Y)(h448:Tt Y)(h449:Wt Y)(l:List bW)  (hp0:wR l):cZ Y Dx (.bool (gP l)) [.sl 2 (l.map bW.D)]:=by
 show bB _ _ _ [⟨_,_⟩,_,_,_,_,_,_,_,_,_,_,_,_,_,_,_,_,_] _;refine ak ?_;refine aH ?_;intro u0;refine ay ?_;refine cC (fun hc0=>?_) fun hc0=>?_
 .refine aJ ?_;refine bQ ?_;symm;simp only[gP];rw[dr ae];rfl
 refine aJ ?_;intro u1;refine ay ?_;have hb:gP l=cI (ja l) 0 l.length:=by simp only[gP];rw[cv ae];rfl
 refine bc hm (ι:=Nat) (fun i=>[⟨true,.sl 2 (l.map bW.D)⟩,.un,.un,⟨true,.int .i64 (i:Nat)⟩,⟨true,.int .i64 (l.length:Nat)⟩,.un,⟨true,.sl 2 (l.map bW.D)⟩,.un,.un,.un,.un,.un,.un,.un,.un,.un,.un,.un]) (fun i=>[]) 7 (fun i=>i<=l.length/\gP l=cI (ja l) i l.length) (fun i=>l.length-i) 0 ⟨ae,hb⟩ (dF []) ?_;rintro i ⟨hi,hr⟩;refine aB ?_;refine cC (fun hc1=>?_) fun hc1=>?_
 .refine aJ ?_;first|refine cE (v:=(bW.D _)) ?_|refine fe (v:=(bW.D _)) ?_
  refine ay ?_;refine a7 (bW.D l[i]!) (he:=bg) ?_;refine aJ ?_;refine aj (hc:=h349 _) ?_;refine bM ?_;refine cM (i-1) ?_;refine iw ?_;refine lL ?_;refine aJ ?_;refine aj (hc:=h447 _) ?_;refine aB ?_;refine aw (fun hc2=>?_) (fun hc2=>?_)
  .have hfo:=KT hc2;refine aW ?_;refine bQ ?_;rw[hr,aR ae,hfo];rfl
  have hfo:=KU hc2;refine aJ ?_;intro u2;refine ay ?_;refine nK hm (ι:=Nat) (fun j=>[⟨true,.sl 2 (l.map bW.D)⟩,.un,.un,⟨true,.int .i64 (i:Nat)⟩,⟨true,.int .i64 (l.length:Nat)⟩,.un,⟨true,.sl 2 (l.map bW.D)⟩,.un,.un,.un,⟨true,.int .i64 (j:Nat)⟩,⟨true,.int .i64 (l[i]!.of.length:Nat)⟩,.un,⟨true,.sl 1 (l[i]!.of.map D.str)⟩,.un,.un,.un,.un]) (fun j=>[]) 49 (fun j=>j<=l[i]!.of.length/\ja l i=cI (fun j=>ig l l[i]!.of[j]!) j l[i]!.of.length) (fun j=>l[i]!.of.length-j) 0 ⟨ae,hfo⟩ (dF []) ?_;rintro j ⟨hj,hjr⟩;refine aB ?_;refine cC (fun hc3=>?_) fun hc3=>?_
  .refine cU ?_;refine aj (hc:=h448 l[i]!.of[j]! ((hp0 _ (bw ae)).2.2 _ (bw ae))) ?_;refine zL ?_;refine aj (hc:=h449 _ _) ?_;refine aF ?_;refine wp_cond (fun hc4=>?_) (fun hc4=>?_)
   .have hz:ig l l[i]!.of[j]! =false:=by simp only[ig,hc4];rfl
    refine bM ?_;refine bQ ?_;rw[hr,aR ae,hjr,aR ae,hz];rfl
   have hz:ig l l[i]!.of[j]! =true:=by simp only[ig,hc4];rfl
   refine aW ?_;exact⟨j+1,⟨ae,by rw[hjr,aR ae,hz];rfl⟩,ae,(dF [])⟩
  refine bM ?_;exact⟨i+1,⟨ae,by rw[hr,aR ae,hjr,ch ae];rfl⟩,ae,(dF [])⟩
 refine aH ?_;refine bQ ?_;rw[hr,ch ae]
def V5 (Y:Ctx):Prop:=xu (bq Y 213)
def Md:aD:=⟨1,11,fY,bR,(sq (r1 [gm cse] 1 0) (sq (sq (r1 [gm s0] 2 0) (.block 0 (sq (r1 [aL s2 b7,gm l0] 3 1) (.cond s3 (sq (r1 [gm (cs [61])] 1 0) .ret) (sq (r1 [aL s2 lQ,gm l0] 4 1) (.cond s4 (sq (r1 [gm (cs [33,61])] 1 0) .ret) (sq (r1 [aL s2 k9,gm l0] 5 1) (.cond s5 (sq (r1 [gm (cs [60])] 1 0) .ret) (sq (r1 [aL s2 rX,gm l0] 6 1) (.cond s6 (sq (r1 [gm (cs [60,61])] 1 0) .ret) (sq (r1 [aL s2 Lg,gm l0] 7 1) (.cond s7 (sq (r1 [gm (cs [62])] 1 0) .ret) (sq (r1 [aL s2 uE,gm l0] 8 1) (.cond s8 (sq (r1 [gm (cs [62,61])] 1 0) .ret) (sq (r1 [aL s2 MO,gm l0] 9 1) (.cond s9 (sq (r1 [gm (cs [94])] 1 0) .ret) (sq (r1 [aL s2 C7,gm l0] 10 1) (.cond iQ (sq (r1 [gm (cs [126])] 1 0) .ret) .skip)))))))))))))))))) (wV cse)))⟩
def w678 {Y:Ctx}(hm:(Y.at 0).bU)  (op:Int)   :cZ Y Md (.str (dj op)) [.int .i64 op]:=by
 show bB _ _ _ [⟨_,_⟩,_,_,_,_,_,_,_,_,_,_] _;refine ak ?_;refine fW ?_;refine eV (fun hc0=>?_) fun hc0=>?_
 .refine aJ ?_;refine cG ?_;unfold dj;simp_all
 refine aF ?_;refine eV (fun hc1=>?_) fun hc1=>?_
 .refine aJ ?_;refine cG ?_;unfold dj;simp_all
 refine aF ?_;refine eV (fun hc2=>?_) fun hc2=>?_
 .refine aJ ?_;refine cG ?_;unfold dj;simp_all
 refine aF ?_;refine eV (fun hc3=>?_) fun hc3=>?_
 .refine aJ ?_;refine cG ?_;unfold dj;simp_all
 refine aF ?_;refine eV (fun hc4=>?_) fun hc4=>?_
 .refine aJ ?_;refine cG ?_;unfold dj;simp_all
 refine aF ?_;refine eV (fun hc5=>?_) fun hc5=>?_
 .refine aJ ?_;refine cG ?_;unfold dj;simp_all
 refine aF ?_;refine eV (fun hc6=>?_) fun hc6=>?_
 .refine aJ ?_;refine cG ?_;unfold dj;simp_all
 refine aF ?_;refine eV (fun hc7=>?_) fun hc7=>?_
 .refine aJ ?_;refine cG ?_;unfold dj;simp_all
 refine aH ?_;refine cG ?_;unfold dj;simp_all
def xK (T:List D->D->Prop):Prop:=∀(op:Int),T [.int .i64 op] (.str (dj op))
def TN (Y:Ctx):Prop:=xK (bq Y 678)
def KM:aD:=⟨1,11,fY,bR,(sq (r1 [gm cse] 1 0) (sq (sq (r1 [gm s0] 2 0) (.block 0 (sq (r1 [aL s2 b7,gm l0] 3 1) (.cond s3 (sq (r1 [gm (cs [61])] 1 0) .ret) (sq (r1 [aL s2 lQ,gm l0] 4 1) (.cond s4 (sq (r1 [gm (cs [33,61])] 1 0) .ret) (sq (r1 [aL s2 k9,gm l0] 5 1) (.cond s5 (sq (r1 [gm (cs [60])] 1 0) .ret) (sq (r1 [aL s2 rX,gm l0] 6 1) (.cond s6 (sq (r1 [gm (cs [60,61])] 1 0) .ret) (sq (r1 [aL s2 Lg,gm l0] 7 1) (.cond s7 (sq (r1 [gm (cs [62])] 1 0) .ret) (sq (r1 [aL s2 uE,gm l0] 8 1) (.cond s8 (sq (r1 [gm (cs [62,61])] 1 0) .ret) (sq (r1 [aL s2 MO,gm l0] 9 1) (.cond s9 (sq (r1 [gm (cs [94])] 1 0) .ret) (sq (r1 [aL s2 C7,gm l0] 10 1) (.cond iQ (sq (r1 [gm (cs [126])] 1 0) .ret) .skip)))))))))))))))))) (wV cse)))⟩
def w957 {Y:Ctx}(hm:(Y.at 0).bU)  (op:Int)   :cZ Y KM (.str (dj op)) [.int .i64 op]:=by
 show bB _ _ _ [⟨_,_⟩,_,_,_,_,_,_,_,_,_,_] _;refine ak ?_;refine fW ?_;refine eV (fun hc0=>?_) fun hc0=>?_
 .refine aJ ?_;refine cG ?_;unfold dj;simp_all
 refine aF ?_;refine eV (fun hc1=>?_) fun hc1=>?_
 .refine aJ ?_;refine cG ?_;unfold dj;simp_all
 refine aF ?_;refine eV (fun hc2=>?_) fun hc2=>?_
 .refine aJ ?_;refine cG ?_;unfold dj;simp_all
 refine aF ?_;refine eV (fun hc3=>?_) fun hc3=>?_
 .refine aJ ?_;refine cG ?_;unfold dj;simp_all
 refine aF ?_;refine eV (fun hc4=>?_) fun hc4=>?_
 .refine aJ ?_;refine cG ?_;unfold dj;simp_all
 refine aF ?_;refine eV (fun hc5=>?_) fun hc5=>?_
 .refine aJ ?_;refine cG ?_;unfold dj;simp_all
 refine aF ?_;refine eV (fun hc6=>?_) fun hc6=>?_
 .refine aJ ?_;refine cG ?_;unfold dj;simp_all
 refine aF ?_;refine eV (fun hc7=>?_) fun hc7=>?_
 .refine aJ ?_;refine cG ?_;unfold dj;simp_all
 refine aH ?_;refine cG ?_;unfold dj;simp_all
def T3 (Y:Ctx):Prop:=xK (bq Y 957)
def EK:aD:=⟨2,3,[⟨2,none⟩],bR,(sq (r1 [gm dJ] 2 0) (sq (r1 [gm s0,px l0,gm s1,px l2,fN l1 l3,gm l4,gmt 5 s0,gmt 5 s1,bT 5 (.lenS l7),bT 5 (.slS l6 none (some l8)),gmt 5 s1,bT 5 (cB l9 l10),ei l5 gF,gm iU] 2 13) .ret))⟩
def ZJ {Y:Ctx}(hm:(Y.at 0).bU)  (s:au)(w:au)   :cZ Y EK (.bool (r8 s w)) [.str s,.str w]:=by
 show bB _ _ _ [⟨_,_⟩,⟨_,_⟩,_] _;refine ak ?_;refine aJ ?_;intro u0;refine ay ?_;intro u1;refine aF ?_;refine lL ?_;refine oC w.length (hj:=fun _=>rfl) (hb:=fun h=>by simp at h;omega) ?_;refine aH ?_;refine bQ ?_;unfold r8;rw[show decide ((w.length:Int)<=(s.length:Int))=decide (w.length<=s.length)from gY.2 ae]
def ua (T:List D->D->Prop):Prop:=∀(s:au) (w:au),T [.str s,.str w] (.bool (r8 s w))
def Sp (Y:Ctx):Prop:=ua (bq Y 1079)
def Dr:aD:=⟨2,3,[⟨2,none⟩],bR,(sq (r1 [gm dJ] 2 0) (sq (r1 [gm s0,px l0,gm s1,px l2,fN l1 l3,gm l4,gmt 5 s0,gmt 5 s1,bT 5 (.lenS l7),bT 5 (.slS l6 none (some l8)),gmt 5 s1,bT 5 (cB l9 l10),ei l5 gF,gm iU] 2 13) .ret))⟩
def w956 {Y:Ctx}(hm:(Y.at 0).bU)  (s:au)(w:au)   :cZ Y Dr (.bool (r8 s w)) [.str s,.str w]:=by
 show bB _ _ _ [⟨_,_⟩,⟨_,_⟩,_] _;refine ak ?_;refine aJ ?_;intro u0;refine ay ?_;intro u1;refine aF ?_;refine lL ?_;refine oC w.length (hj:=fun _=>rfl) (hb:=fun h=>by simp at h;omega) ?_;refine aH ?_;refine bQ ?_;unfold r8;rw[show decide ((w.length:Int)<=(s.length:Int))=decide (w.length<=s.length)from gY.2 ae]
def Xv (Y:Ctx):Prop:=ua (bq Y 956)
def PI:aD:=⟨1,8,fY,bR,(sq (rg [gb 7 s0,gm dJ] [(2,0),(1,1)]) (sq (sq (r1 [gf 0 s2,gd l0,aP l1 b7,gm l2,jQ 3 0 s2,lN 3 l4,cF 3 (dY l5 C8),fC l3 l6,gm l7,jQ 8 2 s2,cF 8 (.ld 5 true l9),cF 8 (.call 217 [l10] zZ),cF 8 (.un .not gF),fC l8 iU,gm jR,jQ 14 2 s2,jQ 14 4 me,lN 14 nC,cF 14 (fo rF cse),fC kE sY] 3 19) (lM s3 dJ)) (sq (rg [gm b7,gm k9] [(5,0),(6,1)]) (sq (sq (r1 [gf 0 s2,gd l0,aL l1 C8] 4 2) (.cond s4 (rg [gm bm,gm lQ] [(5,0),(6,1)]) .skip)) (sq (sq (r1 [gf 1 s2,gd l0,gm s5,aP l1 l2,gm l3,jQ 4 1 s2,lN 4 l5,eW 4 s6,cF 4 (dY l6 l7),fC l4 l8,gm l9,jQ 10 1 s2,lN 10 gF,cF 10 (po iU k9),eW 10 jR,m4 14 2 s2,m4 14 3 me,kZ 14 nC,bT 14 (fo rF cse),DK 10 kE sY,fC l10 uc] 7 20) (lM s7 dJ)) (sq (r1 [gf 1 s2,gd l0,cR l1 bm,gm l2,jQ 3 2 s2,jQ 3 0 l4,lN 3 l5,cF 3 (cB l6 bm),fC l3 l7,gm l8,m4 9 1 s2,kZ 9 l10,bT 9 (dY gF b7),gmt 9 iU,jQ 13 2 s2,jQ 13 1 kE,lN 13 me,cF 13 (cB nC bm),UK 9 jR rF,ei l9 sY,gm uc,m4 20 1 s2,kZ 20 AV,bT 20 (dY Da lQ),gmt 20 Gu,jQ 24 2 s2,jQ 24 2 Lk,lN 24 Om,cF 24 (cB Rv bm),UK 20 Ic SX,ei zO SY,gm VV] 1 31) .ret))))))⟩
def w676 {Y:Ctx}(hm:(Y.at 0).bU)(h217:Ks Y)(c:dc)  (hp0:c.v.sm):cZ Y PI (.bool (ml c)) [dc.D c]:=by
 show bB _ _ _ [⟨_,_⟩,_,_,_,_,_,_,_] _;refine ak ?_;refine wj ?_;refine bD (v:=c9.D c.v) ?_;refine df (hc:=fun hf=>h217 c.v hp0) ?_;refine cU ?_;refine aw (fun hc0=>?_) (fun hc0=>?_)
 .have hq:=Dq hc0;refine aJ ?_;refine bQ ?_;rw[hq]
 have hy:=Ay hc0;refine fW ?_;refine aw (fun hc1=>?_) (fun hc1=>?_)
 .simp only[aY]at hc1;have hz:=qV hy (lo:=0) (hi:=2) (ax hc1) (ax hc1);refine Ql ?_;refine aw (fun hc2=>?_) (fun hc2=>?_)
  .rw[hc2]at hz;refine aJ ?_;refine bQ ?_;rw[hz];rfl
  rw[hc2]at hz;refine Tg ?_;refine bQ ?_;rw[hz];rfl
 simp only[bA]at hc1;have hz:=qV hy (lo:=1) (hi:=3) (ai hc1) (ai hc1);refine Tf ?_;refine aw (fun hc2=>?_) (fun hc2=>?_)
 .rw[hc2]at hz;refine aJ ?_;refine bQ ?_;rw[hz];rfl
 rw[hc2]at hz;refine Tg ?_;refine bQ ?_;rw[hz];rfl
def xJ (T:List D->D->Prop):Prop:=∀(c:dc),(c.v.sm)->T [dc.D c] (.bool (ml c))
def TL (Y:Ctx):Prop:=xJ (bq Y 676)
def NC:aD:=⟨1,14,fY,bR,(sq (rg [gb 7 s0,gm dJ] [(2,0),(1,1)]) (sq (sq (r1 [gf 0 s2,gd l0,aP l1 b7,gm l2,jQ 3 0 s2,lN 3 l4,cF 3 (dY l5 C8),fC l3 l6,gm l7,jQ 8 2 s2,cF 8 (.ld 5 true l9),cF 8 (.call 209 [l10] zZ),cF 8 (.un .not gF),fC l8 iU,gm jR,jQ 14 2 s2,jQ 14 4 me,lN 14 nC,cF 14 (fo rF cse),fC kE sY] 3 19) (lM s3 dJ)) (sq (rg [gm b7,gm k9] [(5,0),(6,1)]) (sq (sq (r1 [gf 0 s2,gd l0,aL l1 C8] 4 2) (.cond s4 (rg [gm bm,gm lQ] [(5,0),(6,1)]) .skip)) (sq (sq (r1 [gf 1 s2,gd l0,gm s5,aP l1 l2,gm l3,jQ 4 1 s2,lN 4 l5,eW 4 s6,cF 4 (dY l6 l7),fC l4 l8,gm l9,jQ 10 2 s2,jQ 10 3 gF,lN 10 iU,cF 10 (fo jR cse),eW 10 kE,m4 15 1 s2,kZ 15 nC,bT 15 (po rF k9),DK 10 me sY,fC l10 uc] 7 20) (lM s7 dJ)) (sq (sq (r1 [gf 1 s2,gd l0] 8 1) (.block 0 (sq (.block 3 (sq (.block 2 (sq (.block 1 (sq (sq (sq (r1 [aL s8 bm,gm l0] 9 1) (.cond s9 (.exit 1) .skip)) (sq (sq (r1 [aL s8 b7,gm l0] 10 1) (.cond iQ (.exit 2) .skip)) (sq (r1 [aL s8 lQ,gm l0] 11 1) (.cond kH (.exit 3) .skip)))) (.exit 0))) (sq (r1 [gf 2 s2,gf 0 l0,gd l1,cj l2 bm] 12 3) (lM mS dJ)))) (sq (r1 [gf 2 s2,gf 1 l0,gd l1,cj l2 bm] 13 3) (lM rJ dJ)))) (sq (sq (r1 [gf 2 s2,gf 2 l0,gd l1,aL l2 bm,gm l3] 1 4) .ret) (.exit 0))))) (wV rV)))))))⟩
def w827 {Y:Ctx}(hm:(Y.at 0).bU)(h209:Kq Y)(c:dc)  (hp0:c.v.sm):cZ Y NC (.bool (ml c)) [dc.D c]:=by
 show bB _ _ _ [⟨_,_⟩,_,_,_,_,_,_,_,_,_,_,_,_,_] _;refine ak ?_;refine wj ?_;refine bD (v:=c9.D c.v) ?_;refine df (hc:=fun hf=>h209 c.v hp0) ?_;refine cU ?_;refine aw (fun hc0=>?_) (fun hc0=>?_)
 .have hq:=Dq hc0;refine aJ ?_;refine bQ ?_;rw[hq]
 have hy:=Ay hc0;refine fW ?_;refine aw (fun hc1=>?_) (fun hc1=>?_)
 .simp only[aY]at hc1;have hz:=qV hy (lo:=0) (hi:=2) (ax hc1) (ax hc1);refine Ql ?_;refine aw (fun hc2=>?_) (fun hc2=>?_)
  .rw[Bool.and_comm (!decide (c.v.pre=[]))]at hc2;rw[hc2]at hz;refine aJ ?_;refine bQ ?_;rw[hz];simp[pC]<;>simp_all<;>omega
  rw[Bool.and_comm (!decide (c.v.pre=[]))]at hc2;rw[hc2]at hz;refine zK ?_;refine cC (fun hc3=>?_) fun hc3=>?_
  .refine bM ?_;refine eV (fun hc6=>?_) fun hc6=>?_
   .refine aW ?_;refine bQ ?_;rw[hz];simp[pC]<;>simp_all<;>omega
   refine bM ?_;refine eV (fun hc7=>?_) fun hc7=>?_
   .refine aH ?_;refine bQ ?_;rw[hz];simp[pC]<;>simp_all<;>omega
   refine gJ ?_;refine bQ ?_;rw[hz];simp[pC]<;>simp_all<;>omega
  refine aW ?_;refine cC (fun hc4=>?_) fun hc4=>?_
  .refine cU ?_;refine eV (fun hc7=>?_) fun hc7=>?_
   .refine aH ?_;refine bQ ?_;rw[hz];simp[pC]<;>simp_all<;>omega
   refine gJ ?_;refine bQ ?_;rw[hz];simp[pC]<;>simp_all<;>omega
  refine aH ?_;refine cC (fun hc5=>?_) fun hc5=>?_
  .refine FB ?_;refine bQ ?_;rw[hz];simp[pC]<;>simp_all<;>omega
  refine iw ?_;refine bQ ?_;rw[hz];simp[pC]<;>simp_all<;>omega
 simp only[bA]at hc1;have hz:=qV hy (lo:=1) (hi:=3) (ai hc1) (ai hc1);refine Tf ?_;refine aw (fun hc2=>?_) (fun hc2=>?_)
 .rw[Bool.and_comm (!decide (c.v.pre=[]))]at hc2;rw[hc2]at hz;refine aJ ?_;refine bQ ?_;rw[hz];simp[pC]<;>simp_all<;>omega
 rw[Bool.and_comm (!decide (c.v.pre=[]))]at hc2;rw[hc2]at hz;refine zK ?_;refine cC (fun hc3=>?_) fun hc3=>?_
 .refine bM ?_;refine eV (fun hc6=>?_) fun hc6=>?_
  .refine aW ?_;refine bQ ?_;rw[hz];simp[pC]<;>simp_all<;>omega
  refine bM ?_;refine eV (fun hc7=>?_) fun hc7=>?_
  .refine aH ?_;refine bQ ?_;rw[hz];simp[pC]<;>simp_all<;>omega
  refine gJ ?_;refine bQ ?_;rw[hz];simp[pC]<;>simp_all<;>omega
 refine aW ?_;refine cC (fun hc4=>?_) fun hc4=>?_
 .refine cU ?_;refine eV (fun hc7=>?_) fun hc7=>?_
  .refine aH ?_;refine bQ ?_;rw[hz];simp[pC]<;>simp_all<;>omega
  refine gJ ?_;refine bQ ?_;rw[hz];simp[pC]<;>simp_all<;>omega
 refine aH ?_;refine cC (fun hc5=>?_) fun hc5=>?_
 .refine FB ?_;refine bQ ?_;rw[hz];simp[pC]<;>simp_all<;>omega
 refine iw ?_;refine bQ ?_;rw[hz];simp[pC]<;>simp_all<;>omega
def QE (Y:Ctx):Prop:=xJ (bq Y 827)
def F6:aD:=⟨1,16,fY,bR,(sq (rg [gb 7 s0,gm cse] [(2,0),(1,1)]) (sq (sq (r1 [gk 7 true s2,gx 827 [l0] Qo,kD l1] 3 2) (lM s3 cse)) (sq (r1 [gf 0 s2,gd l0,gx 957 [l1] bR,gm l2] 11 3) (sq (sq (rg [gf 2 s2,gf 0 l0,gd l1,gf 2 s2,gf 1 l3,gd l4,gf 2 s2,gf 2 l6,gd l7,gn (.bsl 1 (.int .i64 0) 3 [(0,l2),(1,l5),(2,l8)]),gl l9,gm bm] [(7,9),(5,10),(4,11)]) (.block 0 (.loop (sq (r1 [aP s4 s5] 6 0) (sq (eO s6 0) (sq (.block 1 (sq (rg [gm s4,ga 1 s7 s4,gd l1,gm l0,gm l2] [(8,3),(12,4)]) (sq (sq (r1 [gm s8,gf 1 s2,gd l1,fN l0 l2] 9 3) (.cond s9 (.exit 0) .skip)) (sq (sq (r1 [gm s8,cR l0 bm] 10 1) (.cond iQ (r1 [gm kH,av l0 (cs [46]),gm l1] 11 2) .skip)) (r1 [gm kH,gm mS,gx 665 [l1] bR,av l0 l2,gm l3] 11 4))))) (r1 [av s4 b7,gm l0] 4 1))))))) (sq (sq (r1 [gf 0 s2,gd l0,aL l1 C8] 13 2) (.cond rJ (sq (sq (r1 [gf 1 s2,gd l0,cR l1 bm] 14 2) (.cond rK (r1 [gm kH,av l0 (cs [46]),gm l1] 11 2) .skip)) (sq (r1 [gm kH,av l0 (cs [42]),gm l1] 1 2) .ret)) .skip)) (sq (sq (r1 [gf 2 s2,gf 3 l0,gd l1,cj l2 cse] 15 3) (.cond xa (r1 [gm kH,gf 2 s2,gf 3 l1,gd l2,av (cs [45]) l3,av l0 l4,gm l5] 11 6) .skip)) (sq (r1 [gm kH,gm l0] 1 1) .ret)))))))⟩
def w828 (h665:TH Y)(h827:QE Y)(h957:T3 Y)(c:dc)  (hp0:c.v.sm):cZ Y F6 (.str (dH c)) [dc.D c]:=by
 show bB _ _ _ [⟨_,_⟩,_,_,_,_,_,_,_,_,_,_,_,_,_,_,_] _;refine ak ?_;refine aH ?_;refine aj (hc:=h827 _ ?_) ?_;rotate_left;first|assumption|omega
 refine ay ?_;refine aw (fun hc0=>?_) (fun hc0=>?_)
 .simp only[bK]at hc0;refine aJ ?_;refine cG ?_;simp[dH,hc0]
 simp only[ct]at hc0;obtain⟨hv,hp1,hp2,hp3,hp4⟩:=n8 hc0;have hsl:=vi c.op;have hnl:=rm hv;refine aF ?_;refine aj (hc:=h957 _) ?_;refine nM ?_;refine cS [(.int _ _),(.int _ _),(.int _ _)] ?_;refine aE ?_;intro u0;refine ay ?_;refine fV 18 ?_;refine bc hm (ι:=Nat) (fun i=>[.un,.un,⟨true,.ptr 0 7 0 0⟩,.un,⟨true,.int .i64 (i:Nat)⟩,⟨true,.int .i64 3⟩,.un,⟨true,.sl 1 (c.lW.map (D.int .i64))⟩,.un,.un,.un,⟨true,.str (dj c.op++fJ c i)⟩,.un,.un,.un,.un]) (fun i=>[(0,.buf 7 [dc.D c])]) 21 (fun i=>i<=3/\i<=c.parts.toNat) (fun i=>3-i) 0 ⟨ae,ae⟩ (aU.to [(0,0)] ah ah (by repeat(first|exact dn.nil|refine dn.un ?_|refine dn.eq ah ?_|refine dn.nl (ar D.str (by first|(simp only[fJ,ax hpos,dx];done)|(simp only[fJ,ai hpos,dx,eS];done)|simp[fJ])) ah ?_|refine dn.nl ah ah ?_)) qt) ?_;rintro i ⟨hi,hip⟩;have hni:=hnl i;have hfit:=qj hv i;have hn3:c.lW.length=3:=rfl;refine aB ?_;refine cC (fun hc1=>?_) fun hc1=>?_
 .refine zK ?_;refine cC (fun hc2=>?_) fun hc2=>?_
  .refine aJ ?_;obtain rfl:i=c.parts.toNat:=ae;refine aF ?_;refine cC (fun hc4=>?_) fun hc4=>?_
   .refine aW ?_;refine cC (fun hc5=>?_) fun hc5=>?_
    .refine ay ?_;refine fh ?_;refine aJ ?_;refine fh ?_;refine aB ?_;refine cG ?_;simp[dH,ll,kI,hc0, *]
    refine aF ?_;refine fh ?_;refine aB ?_;refine cG ?_;simp[dH,ll,kI,hc0, *]
   refine bM ?_;refine cC (fun hc6=>?_) fun hc6=>?_
   .refine aE ?_;have hpl:=hp0.1;refine aF ?_;refine fh ?_;refine fh ?_;refine aW ?_;refine cG ?_;simp[dH,ll,kI,hc0, *]
   refine aH ?_;refine cG ?_;simp[dH,ll,kI,hc0, *]
  refine aH ?_;refine aw (fun hc3=>?_) (fun hc3=>?_)
  .simp only[aY]at hc3;have hpos:0<i:=ae;refine ay ?_;refine fh ?_;refine aJ ?_;refine aj (hc:=h665 (c.lW[i]!) ⟨hfit.1,hfit.2⟩) ?_;have hdl:=dU 4 (c.lW[i]!).toNat ae ae;refine fh ?_;refine bM ?_;exact⟨i+1,⟨ae,ae⟩,ae,(aU.to [(0,0)] ah ah (by repeat(first|exact dn.nil|refine dn.un ?_|refine dn.eq ah ?_|refine dn.nl (ar D.str (by first|(simp only[fJ,ax hpos,dx];done)|(simp only[fJ,ai hpos,dx,eS];done)|simp[fJ])) ah ?_|refine dn.nl ah ah ?_)) qt)⟩
  simp only[bA]at hc3;have hpos:¬0<i:=ae;refine aF ?_;refine aj (hc:=h665 (c.lW[i]!) ⟨hfit.1,hfit.2⟩) ?_;have hdl:=dU 4 (c.lW[i]!).toNat ae ae;refine fh ?_;refine bM ?_;exact⟨i+1,⟨ae,ae⟩,ae,(aU.to [(0,0)] ah ah (by repeat(first|exact dn.nil|refine dn.un ?_|refine dn.eq ah ?_|refine dn.nl (ar D.str (by first|(simp only[fJ,ax hpos,dx];done)|(simp only[fJ,ai hpos,dx,eS];done)|simp[fJ])) ah ?_|refine dn.nl ah ah ?_)) qt)⟩
 refine aF ?_;obtain rfl:i=c.parts.toNat:=ae;refine aF ?_;refine cC (fun hc4=>?_) fun hc4=>?_
 .refine aW ?_;refine cC (fun hc5=>?_) fun hc5=>?_
  .refine ay ?_;refine fh ?_;refine aJ ?_;refine fh ?_;refine aB ?_;refine cG ?_;simp[dH,ll,kI,hc0, *]
  refine aF ?_;refine fh ?_;refine aB ?_;refine cG ?_;simp[dH,ll,kI,hc0, *]
 refine bM ?_;refine cC (fun hc6=>?_) fun hc6=>?_
 .refine aE ?_;have hpl:=hp0.1;refine aF ?_;refine fh ?_;refine fh ?_;refine aW ?_;refine cG ?_;simp[dH,ll,kI,hc0, *]
 refine aH ?_;refine cG ?_;simp[dH,ll,kI,hc0, *]
def xS (T:List D->D->Prop):Prop:=∀(c:dc),(c.v.sm)->T [dc.D c] (.str (dH c))
def TS (Y:Ctx):Prop:=xS (bq Y 828)
def vg:aD:=⟨1,4,fY,[[.sl 1 [.a]]],(sq (rg [gb 7 s0,gm (.c (.aA))] [(2,0),(1,1)]) (sq (r2 [gf 2 s2,gf 0 l0,gd l1,gx 734 [l2] bR,gf 2 s2,gf 1 l4,gd l5,gx 734 [l6] bR,gf 2 s2,gf 2 l8,gd l9,gx 734 [l10] bR,gn (.bsl 1 (.str []) 3 [(0,l3),(1,l7),(2,gF)]),gm iU] 3 13) (sq (r1 [gm s3,gf 1 s2,gd l1,gn (.slA 1 l0 none (some l2)),gm l3] 1 4) .ret)))⟩
def w677 {Y:Ctx}(hm:(Y.at 0).bU)(c:dc)(h734:TQ Y)(hp0:eH c.v=true/\0<=c.parts/\c.parts<=3):bB (Y.at 0) vg.body (jT vg (One (.own 14 1 0 c.parts.toNat) [(0,.buf 7 [dc.D c]),(14,.buf 1 [.str (dp c.v.major.toNat),.str (dp c.v.minor.toNat),.str (dp c.v.patch.toNat)])]):Ex->List bL->St->Prop) (fM vg [dc.D c]) ⟨0,[]⟩:=by
 show bB _ _ _ [⟨_,_⟩,_,_,_] _;refine ak ?_;refine aW ?_;refine aj (hc:=h734 c.v.major (qj hp0.1 0)) ?_;refine aB ?_;refine aj (hc:=h734 c.v.minor (qj hp0.1 1)) ?_;refine aB ?_;refine aj (hc:=h734 c.v.patch (qj hp0.1 2)) ?_;refine cS [.str _,.str _,.str _] ?_;refine aH ?_;refine tO c.parts.toNat (hj:=fun _=>ae) (hb:=fun _=>ae) ?_;refine aB ?_;refine cn trivial gu (cO ah (?_)) ah (oneq _ _);rfl
def TM (Y:Ctx):Prop:=∀(c:dc),(eH c.v=true/\0<=c.parts/\c.parts<=3)->∀(nx:Nat) (m:List (Nat×bG)) (K:D->St->Prop),K (.own nx 1 0 c.parts.toNat) ⟨nx+1,(nx,.buf 1 [.str (dp c.v.major.toNat),.str (dp c.v.minor.toNat),.str (dp c.v.patch.toNat)])::m⟩->Y.tr 677 [dc.D c] ⟨nx,m⟩ K
def Hf:aD:=⟨1,8,fY,bR,(sq (rg [gb 7 s0,gm cse] [(2,0),(1,1)]) (sq (sq (r1 [gk 7 true s2,gx 676 [l0] Qo,kD l1] 3 2) (lM s3 cse)) (sq (r1 [gk 7 true s2,gn (.callM 677 [l0]),gm l1] 5 2) (sq (sq (r1 [gf 0 s2,gd l0,aL l1 C8] 4 2) (.cond s4 (sq (r1 [gm s5,gf 1 s2,gd l1,gf 1 s2,gd l3,gn (.slX 1 l0 l2 l4),gn (.bsl 1 (.str []) 1 [(0,(cs [42]))]),gn (.app 1 l5 l6),gx 249 [l7,(i8 46)] [[.sl 1 [.a]],[.a]],gm l8] 1 9) .ret) .skip)) (sq (r1 [gf 0 s2,gd l0,gx 678 [l1] bR,gm s5,gx 249 [l3,(i8 46)] [[.sl 1 [.a]],[.a]],av l2 l4,gm l5] 7 6) (sq (sq (r1 [gf 2 s2,gf 3 l0,gd l1,cj l2 cse] 6 3) (.cond s6 (r1 [gm s7,av l0 (cs [45]),gf 2 s2,gf 3 l2,gd l3,av l1 l4,gm l5] 7 6) .skip)) (sq (r1 [gm s7,gm l0] 1 1) .ret)))))))⟩
def w482 {Y:Ctx}(hm:(Y.at 0).bU)(h249:Qu Y)(h676:TL Y)(h677:TM Y)(h678:TN Y)(c:dc)  (hp0:c.v.sm):cZ Y Hf (.str (dH c)) [dc.D c]:=by
 show bB _ _ _ [⟨_,_⟩,_,_,_,_,_,_,_] _;refine ak ?_;refine aH ?_;refine aj (hc:=h676 _ ?_) ?_;rotate_left;first|assumption|omega
 refine ay ?_;refine aw (fun hc0=>?_) (fun hc0=>?_)
 .simp only[bK]at hc0;refine aJ ?_;refine cG ?_;simp[dH,hc0]
 simp only[ct]at hc0;obtain⟨hv,hp1,hp2,hp3,hp4⟩:=n8 hc0;have hsl:=vi c.op;have hnl:=rm hv c.parts.toNat;have htl:=E8 hp2;have hj1:=Bx hp2;have hj2:=vt hp1 hp2;have hl2:=ar List.length hj2;have hl1:=ar List.length hj1;simp only[bJ,List.length_singleton]at hl2;have hi2:(if 0<c.parts then([46]:au)else []).length<=1:=by split<;>simp
 refine aB ?_;refine b8 (nx':=6) (v:=.own 6 1 0 c.parts.toNat) (m':=[(6,.buf 1 [.str (dp c.v.major.toNat),.str (dp c.v.minor.toNat),.str (dp c.v.patch.toNat)]),(0,.buf 7 [dc.D c])]) (hc:=fun K' hK=>h677 c ⟨hv,hp1,hp2⟩ _ _ K' hK) (hn:=aG) ?_;refine bM ?_;refine cC (fun hc1=>?_) fun hc1=>?_
 .refine aW ?_;refine Vx c.parts.toNat (hj:=fun _=>ae) (hb:=fun _=>ae) ?_;refine cS [.str _] ?_;refine qu ((lH c++[[42]]).map D.str) (n:=(lH c++[[42]]).length) (ha:=cA) (he:=pJ.own rfl aQ) (hz:=by rw[de,zz,List.map_append];rfl) (hn:=cA) (hb:=cA) ?_;refine aj (hc:=h249 (lH c++[[42]]) 46 (by rw[hj2];simp only[bJ,List.length_singleton];omega)) (ha:=fun _=>ar (fun d=>[d,D.int .u8 46]) (nL (q:=D.str) (fun _=>rfl) ah)) (hp:=fun _=>⟨lK (q:=D.str) (fun _=>rfl) ah,rfl,trivial⟩) ?_;refine aB ?_;refine cG ?_;rw[dH,ax hc0,hj2];simp[ll,kI,hc1,dj]
 refine aF ?_;refine aj (hc:=h678 _) ?_;refine aE ?_;refine aj (hc:=h249 (lH c) 46 (by rw[hj1];omega)) (ha:=fun _=>ar (fun d=>[d,D.int .u8 46]) (Sa ah)) (hp:=fun _=>⟨P3 hp2 ah,rfl,trivial⟩) ?_;refine cP (hb:=fun _=>ae) ?_;refine cU ?_;refine cC (fun hc2=>?_) fun hc2=>?_
 .refine aE ?_;have hpl:=hp0.1;refine aE ?_;refine fh ?_;refine aB ?_;refine fh ?_;refine aW ?_;refine cG ?_;rw[dH,ax hc0,hj1];simp[ll,kI,hc1,hc2]
 refine aH ?_;refine cG ?_;rw[dH,ax hc0,hj1];simp[ll,kI,hc1,hc2]
def Qy (Y:Ctx):Prop:=xS (bq Y 482)
def PJ:aD:=⟨1,6,[⟨1,none⟩,⟨2,none⟩],gA,(sq (rg [gm cse,gm cse] [(1,0),(2,1)]) (sq (sq (r1 [gm bm] 3 0) (.block 0 (.loop (sq (sq (r1 [gm s3,gm s0,px l1,aP l0 l2] 4 3) (eO s4 0)) (sq (.block 1 (sq (r1 [gm s0,gm s3,K9 l0 l1,aL l2 (i8 45)] 5 3) (.cond s5 (sq (rt [gm s0,gm s3,gn (.slS l0 none (some l1)),gm s0,gm s3,av l4 b7,gn (.slS l3 (some l5) none),gm l2,gm l6] [(1,7),(2,8)]) .ret) .skip))) (r1 [gm s3,av l0 b7,gm l1] 3 2)))))) (sq (rg [gm s0,gm l0,gm cse] [(1,1),(2,2)]) .ret)))⟩
def ZB  (s:au)   :cZ Y PJ (.tup [.str (hE s 0).1,.str (hE s 0).2]) [.str s]:=by
 show bB _ _ _ [⟨_,_⟩,_,_,_,_,_] _;refine ak ?_;refine aW ?_;refine bc hm (ι:=Nat) (fun i=>[⟨true,.str s⟩,.un,.un,⟨true,.int .i64 (i:Nat)⟩,.un,.un]) (fun i=>[]) 3 (fun i=>i<=s.length/\hE s 0=hE s i) (fun i=>s.length-i) 0 ⟨ae,rfl⟩ (dF []) ?_;rintro i ⟨hi,hr⟩;refine aJ ?_;intro u0;refine ay ?_;refine cC (fun hc0=>?_) fun hc0=>?_
 .refine bM ?_;refine eV (fun hc1=>?_) fun hc1=>?_
  .refine aB ?_;refine oC _ ?_;refine aB ?_;refine jj (i+1) ?_;refine aH ?_;refine bE (aN (ar D.str ?_) (ar D.str ?_));all_goals rw[hr,Iz ae hc1]
  refine bM ?_;exact⟨i+1,⟨ae,by rw[hr,IA ae hc1]⟩,ae,(dF [])⟩
 refine bM ?_;refine bE (aN (ar D.str ?_) (ar D.str ?_));all_goals rw[hr,Em ae]
def Fq (T:List D->D->Prop):Prop:=∀(s:au),T [.str s] (.tup [.str (hE s 0).1,.str (hE s 0).2])
def Sl (Y:Ctx):Prop:=Fq (bq Y 1007)
def Hg:aD:=⟨1,9,[⟨1,none⟩,⟨2,none⟩],gA,(sq (rg [gm bm,gm cse] [(1,0),(2,1)]) (sq (r1 [gn (.bsl 1 (.int .i64 0) 8 [(0,lQ),(1,rX),(2,uE),(3,b7),(4,k9),(5,Lg),(6,MO),(7,C7)]),gm l0] 4 1) (sq (sq (r1 [gm bm] 3 0) (.block 0 (.loop (sq (sq (r1 [gm s3,gm s4,gl l1,aP l0 l2] 5 3) (eO s5 0)) (sq (.block 1 (sq (r1 [gm s4,gm s3,ga 1 l0 l1,gd l2,gx 678 [l3] bR,gm l4] 6 5) (sq (r1 [gm s0,gm s6,gx 1079 [l0,l1] gA] 7 2) (.cond s7 (sq (rt [gm s4,gm s3,ga 1 l0 l1,gd l2,gm s0,gm s6,px l5,gn (.slS l4 (some l6) none),gm l3,gm l7] [(1,8),(2,9)]) .ret) .skip)))) (r1 [gm s3,av l0 b7,gm l1] 3 2)))))) (sq (sq (r1 [gm s0,px l0,cR l1 bm,gm l2,gmt 3 s0,gmt 3 s0,bT 3 (.lenS l5),bT 3 (kC l6 b7),bT 3 (.ixS l4 l7),bT 3 (cB l8 (i8 42)),ei l3 l9] 8 10) (.cond s8 (sq (rg [gm s0,gm C8,gm l0] [(1,1),(2,2)]) .ret) .skip)) (sq (rg [gm s0,gm MO,gm l0] [(1,1),(2,2)]) .ret)))))⟩
def ZA (h678:TN Y)(h1079:Sp Y)(s:au)   :cZ Y Hg (.tup [.int .i64 (gv s).1,.str (gv s).2]) [.str s]:=by
 show bB _ _ _ [⟨_,_⟩,_,_,_,_,_,_,_,_] _;refine ak ?_;refine aF ?_;refine cS [(.int _ _),(.int _ _),(.int _ _),(.int _ _),(.int _ _),(.int _ _),(.int _ _),(.int _ _)] ?_;refine aH ?_;refine fV 2 ?_;refine bc hm (ι:=Nat) (fun i=>[⟨true,.str s⟩,.un,.un,⟨true,.int .i64 (i:Nat)⟩,⟨true,.sl 1 (opsL.map (D.int .i64))⟩,.un,.un,.un,.un]) (fun i=>[]) 5 (fun i=>i<=8/\pe s 0=pe s i) (fun i=>8-i) 0 ⟨ae,rfl⟩ (dF []) ?_;rintro i ⟨hi,hr⟩;have hn8:opsL.length=8:=rfl;refine aJ ?_;intro u0;refine ay ?_;refine cC (fun hc0=>?_) fun hc0=>?_
 .refine aW ?_;refine aj (hc:=h678 _) ?_;refine aJ ?_;refine aj (hc:=h1079 _ _) ?_;refine aE ?_;refine wp_cond (fun hc1=>?_) (fun hc1=>?_)
  .have hbl:(dj opsL[i]!).length<=s.length:=by simp only[r8,bp,aY]at hc1;exact hc1.1
   refine aW ?_;refine lL ?_;refine jj (dj opsL[i]!).length (hb:=fun _=>hbl) ?_;refine aH ?_;refine bE (aN (ar (D.int .i64) ?_) (ar D.str ?_));all_goals simp only[gv,hr,Iu (show i<8 by omega) hc1]
  skip
  refine bM ?_;exact⟨i+1,⟨ae,by rw[hr,Iv ae hc1]⟩,ae,(dF [])⟩
 refine aH ?_;intro u1;refine aF ?_;refine lL ?_;refine aE ?_;refine oB (s.length-1) ?_;refine aB ?_;refine cC (fun hc2=>?_) fun hc2=>?_
 .refine aW ?_;refine bE (aN (ar (D.int .i64) ?_) (ar D.str ?_));all_goals (have ho:pe s 0=none:=(by rw[hr,yX ae]);simp only[gv,ho,ax (show 0<s.length/\at8 s (s.length-1)=42 from⟨ae,hc2.2⟩)])
 refine aW ?_;refine bE (aN (ar (D.int .i64) ?_) (ar D.str ?_));all_goals (have ho:pe s 0=none:=(by rw[hr,yX ae]);have hn:¬(0<s.length/\at8 s (s.length-1)=42):=(by rintro⟨h1,h2⟩;rcases hc2 with h|h;exact h ae;exact h h2);simp only[gv,ho,ai hn])
def Fp (T:List D->D->Prop):Prop:=∀(s:au),T [.str s] (.tup [.int .i64 (gv s).1,.str (gv s).2])
def Sk (Y:Ctx):Prop:=Fp (bq Y 1006)
def CI:aD:=⟨1,10,[⟨1,some (5,true)⟩,⟨2,none⟩],[[.a,.a,.a,.a,.a],[.a]],(sq (rg [gb 5 (.c (.agg [.int .i64 0,.int .i64 0,.int .i64 0,.str [],.str []])),gm dJ] [(1,0),(2,1)]) (sq (r1 [gb 3 (.c (.agg [.int .i64 0,.int .i64 0,.int .i64 0]))] 9 0) (sq (sq (r1 [gm s0,gl l0,cR l1 k9] 3 2) (.cond s3 (sq (r1 [gn (.build [.int .i64 0,.int .i64 0,.int .i64 0,.str [],.str []] []),gt 5 s1 l0,gm dJ] 2 2) .ret) .skip)) (sq (sq (r1 [gm bm] 4 0) (.block 0 (.loop (sq (sq (r1 [gm s4,gm s0,gl l1,aP l0 l2] 5 3) (eO s5 0)) (sq (.block 1 (sq (rg [gm s0,gm s4,ga 1 l0 l1,gd l2,gx 667 [l3] bR,gm l4,ge l5 0,ge l5 1,gm l6,gm l7] [(8,8),(6,9)]) (sq (sq (r1 [gm s6,kD l0] 7 1) (.cond s7 (sq (r1 [gn (.build [.int .i64 0,.int .i64 0,.int .i64 0,.str [],.str []] []),gt 5 s1 l0,gm dJ] 2 2) .ret) .skip)) (rg [gm s4,gm s8,gn (.iaP 3 1 s9 l0),gt 1 l2 l1] [])))) (r1 [gm s4,av l0 b7,gm l1] 4 2)))))) (sq (r1 [gn (.iaP 3 1 s9 bm),gd l0,gn (.iaP 3 1 s9 b7),gd l2,gn (.iaP 3 1 s9 lQ),gd l4,gn (.build [.int .i64 0,.int .i64 0,.int .i64 0,.str [],.str []] [(0,1,l1),(1,1,l3),(2,1,l5)]),gt 5 s1 l6,gm rV] 2 8) .ret)))))⟩
def ZC (h667:QC Y)(l:List au)   :cZ Y CI (.tup [c9.D (yU l),.bool (eK l)]) [.sl 1 (l.map D.str)]:=by
 show bB _ _ _ [⟨_,_⟩,_,_,_,_,_,_,_,_,_] _;refine ak ?_;refine iw ?_;intro u0;refine ay ?_;refine cC (fun hc0=>?_) fun hc0=>?_
 .refine ay ?_;refine bI (c9.D rN) ?_;refine aF ?_;refine bE (aN ?_ (ar D.bool ?_));all_goals (have hq:eK l=false:=(by simp only[eK];rw[dr ae];rfl);first|(rw[hq];done)|(simp only[yU,hq,gX,br,bo];rfl))
 refine aJ ?_;have hb:eK l=cI (fun i=>iE l[i]!) 0 l.length:=by simp only[eK];rw[cv ae];rfl
 refine bc hm (ι:=Nat) (fun i=>[⟨true,.sl 1 (l.map D.str)⟩,⟨true,.ptr 0 5 0 0⟩,.un,.un,⟨true,.int .i64 (i:Nat)⟩,.un,.un,.un,.un,⟨true,.ptr 2 3 0 0⟩]) (fun i=>[(0,.buf 5 [c9.D rN]),(2,.buf 3 [Rz l i])]) 7 (fun i=>i<=l.length/\eK l=cI (fun i=>iE l[i]!) i l.length) (fun i=>l.length-i) 0 ⟨ae,hb⟩ (dF [(0,0),(2,2)]) ?_;rintro i ⟨hi,hr⟩;refine aJ ?_;intro u1;refine ay ?_;refine cC (fun hc1=>?_) fun hc1=>?_
 .refine aW ?_;refine aj (hc:=h667 _) ?_;refine fW ?_;refine aw (fun hc2=>?_) (fun hc2=>?_)
  .simp only[bK]at hc2;refine ay ?_;refine bI (c9.D rN) ?_;refine aH ?_;refine bE (aN ?_ (ar D.bool ?_));all_goals (have hq:eK l=false:=(by rw[hr,aR ae,hc2];rfl);first|(rw[hq];done)|(simp only[yU,hq,gX,br,bo];rfl))
  simp only[ct]at hc2;refine aF ?_;refine sF i ?_;refine a7 (Rz l (i+1)) (he:=OB l i ae) ?_;refine bM ?_;exact⟨i+1,⟨ae,by rw[hr,aR ae,hc2];rfl⟩,ae,(dF [(0,0),(2,2)])⟩
 refine aB ?_;obtain rfl:i=l.length:=ae;have hok:eK l=true:=by rw[hr,ch ae]
 refine sF 0 ?_;refine bD (v:=.int .i64 (if 0<l.length then jL l[0]! else 0)) ?_;refine sF 1 ?_;refine bD (v:=.int .i64 (if 1<l.length then jL l[1]! else 0)) ?_;refine sF 2 ?_;refine bD (v:=.int .i64 (if 2<l.length then jL l[2]! else 0)) ?_;refine bI (c9.D (OM l)) ?_;refine aF ?_;refine bE (aN ?_ (ar D.bool ?_));all_goals (have hq:=hok;first|(rw[hq];done)|(simp only[yU,hq,gX,br,bo];rfl))
def Fs (T:List D->D->Prop):Prop:=∀(l:List au),T [.sl 1 (l.map D.str)] (.tup [c9.D (yU l),.bool (eK l)])
def Sm (Y:Ctx):Prop:=Fs (bq Y 1008)
def He:aD:=⟨1,15,[⟨1,some (7,true)⟩,⟨2,none⟩],[[.a,.a,.a,.a,.a,.a,.a],[.a]],(sq (rg [gb 7 (.c (.agg [.int .i64 0,.int .i64 0,.int .i64 0,.int .i64 0,.int .i64 0,.str [],.str []])),gm bm] [(1,0),(2,1)]) (sq (rg [gm s0,gx 1006 [l0] bR,gm l1,ge l2 0,ge l2 1,gm l3,gm l4] [(5,5),(3,6)]) (sq (rg [gm s3,gx 1007 [l0] bR,gm l1,ge l2 0,ge l2 1,gm l3,gm l4] [(4,5),(10,6)]) (sq (r1 [gm s4,gx 470 [l0,(i8 46)] gA,gm l1] 7 2) (sq (sq (r1 [gm s5,aL l0 C8] 6 1) (.cond s6 (r1 [gm s7,gm s7,gl l1,ek l2 b7,gn (.slA 1 l0 none (some l3)),gm l4] 7 5) .skip)) (sq (rg [gm s7,gx 1008 [l0] [[.sl 1 [.a]]],gm l1,ge l2 0,ge l2 1,gb 5 (.c (.agg [.int .i64 0,.int .i64 0,.int .i64 0,.str [],.str []])),gt 5 l5 l3,gm l4] [(11,5),(8,7)]) (sq (sq (r1 [gm s8,kD l0] 9 1) (.cond s9 (sq (r1 [gn (.build [.int .i64 0,.int .i64 0,.int .i64 0,.int .i64 0,.int .i64 0,.str [],.str []] []),gt 7 s1 l0,gm uE] 2 2) .ret) .skip)) (sq (rg [gm iQ,gf 3 kH,gt 1 l1 l0] []) (sq (r1 [gm s5,gm s7,gl l1,gk 5 true kH,gn (.build [.int .i64 0,.int .i64 0,.int .i64 0,.int .i64 0,.int .i64 0,.str [],.str []] [(0,1,l0),(1,1,l2),(2,5,l3)]),gb 7 (.c (.agg [.int .i64 0,.int .i64 0,.int .i64 0,.int .i64 0,.int .i64 0,.str [],.str []])),gt 7 l5 l4] 12 5) (sq (sq (r1 [gk 7 true mS,gx 482 [l0] Qo,gm l1] 13 2) (sq (r1 [gm rJ,aL l0 cse,gm l1,eW 2 rJ,eW 2 s0,cF 2 (fo l3 l4),eW 2 l5,gmt 6 rJ,gmt 6 s0,bT 6 (vE (cs [94]) l8),bT 6 (fo l7 l9),DK 2 l6 l10,fC l2 gF] 14 12) (.cond rK (sq (r1 [gn (.build [.int .i64 0,.int .i64 0,.int .i64 0,.int .i64 0,.int .i64 0,.str [],.str []] []),gt 7 s1 l0,gm uE] 2 2) .ret) .skip))) (sq (r1 [gk 7 true mS,gt 7 s1 l0,gm bm] 2 2) .ret)))))))))))⟩
def w897 {Y:Ctx}(hm:(Y.at 0).bU)(h470:FO Y)(h482:Qy Y)(h1006:Sk Y)(h1007:Sl Y)(h1008:Sm Y)(s:au)  (hp0:s.length<=1048576):cZ Y He (.tup [dc.D ((ea s).getD ec),.int .i64 (if(ea s).isSome=true then 0 else 6)]) [.str s]:=by
 show bB _ _ _ [⟨_,_⟩,_,_,_,_,_,_,_,_,_,_,_,_,_,_] _;have hsl:=zt s;generalize hO:gv s=O at hsl;have hpl:=za O.2;generalize hA:hE O.2 0=A at hpl;have hln:=eL A.1 46;have hlp:1<=(aq A.1 46).length:=ff _ _ _;generalize hL:aq A.1 46=L at hln hlp;have hq0:ea s=if vU s O.1 (Bc O.1 L) A.2=true then some (fF O.1 (Bc O.1 L) A.2)else none:=by subst hO;subst hA;subst hL;rfl
 refine ak ?_;refine aJ ?_;refine aj (hc:=h1006 s) ?_;rw[hO];refine bM ?_;refine aj (hc:=h1007 O.2) ?_;rw[hA];refine bM ?_;refine aj (hc:=h470 A.1 46 ae) ?_;rw[hL];refine aW ?_;refine aw (fun hc0=>?_) (fun hc0=>?_)
 .simp only[aY]at hc0;have hq1:ea s=if vU s O.1 (L.take (L.length-1)) A.2=true then some (fF O.1 (L.take (L.length-1)) A.2)else none:=by rw[hq0];simp only[Bc,ax hc0]
  refine aF ?_;intro u0;refine aE ?_;refine tN (L.length-1) (hj:=fun _=>ae) (hb:=fun _=>ae) ?_;refine aF ?_;refine aj (hc:=h1008 (L.take (L.length-1))) ?_;refine aE ?_;refine kG (c9.D _) ?_;refine ay ?_;refine a7 (c9.D (yU (L.take (L.length-1)))) (he:=bg) ?_;refine aW ?_;refine aw (fun hc1=>?_) (fun hc1=>?_)
  .simp only[bK]at hc1;refine ay ?_;refine bI (dc.D ec) ?_;refine aF ?_;refine bE (aN ?_ (ar (D.int .i64) ?_));all_goals (have hk:vU s O.1 (L.take (L.length-1)) A.2=false:=(by simp only[vU,hc1];rfl);rw[hq1,hk];rfl)
  simp only[ct]at hc1;have hnr:yU (L.take (L.length-1))=OM (L.take (L.length-1)):=by simp only[yU,hc1,bo]
  rw[hnr];have hsm:(fF O.1 (L.take (L.length-1)) A.2).v.sm:=⟨by show A.2.length<=_;omega,by show([]:au).length<=_;simp⟩;refine aF ?_;refine a7 (c9.D (fF O.1 (L.take (L.length-1)) A.2).v) (he:=bg) ?_;refine aJ ?_;intro u1;refine cH (d:=c9.D (fF O.1 (L.take (L.length-1)) A.2).v) ?_;refine bI (dc.D (fF O.1 (L.take (L.length-1)) A.2)) ?_;refine aE ?_;refine a7 (dc.D (fF O.1 (L.take (L.length-1)) A.2)) (he:=bg) ?_;refine aB ?_;refine cH (d:=dc.D (fF O.1 (L.take (L.length-1)) A.2)) ?_;refine aj (hc:=h482 (fF O.1 (L.take (L.length-1)) A.2) hsm) ?_;refine nM ?_;refine cP (hb:=fun _=>cA) ?_;refine aF ?_;refine aw (fun hc2=>?_) (fun hc2=>?_)
  .have hk:vU s O.1 (L.take (L.length-1)) A.2=false:=by simp only[vU,hc1,fB];exact ar (!·) hc2
   refine ay ?_;refine bI (dc.D ec) ?_;refine aF ?_;refine bE (aN ?_ (ar (D.int .i64) ?_));all_goals (rw[hq1,hk];rfl)
  have hk:vU s O.1 (L.take (L.length-1)) A.2=true:=by simp only[vU,hc1,fB];exact ar (!·) hc2
  refine ay ?_;refine cH (d:=dc.D (fF O.1 (L.take (L.length-1)) A.2)) ?_;refine aF ?_;refine bE (aN ?_ (ar (D.int .i64) ?_));all_goals (rw[hq1,hk];rfl)
 simp only[bA]at hc0;have hq1:ea s=if vU s O.1 L A.2=true then some (fF O.1 L A.2)else none:=by rw[hq0];simp only[Bc,ai hc0]
 refine aB ?_;refine aj (hc:=h1008 L) ?_;refine aE ?_;refine kG (c9.D _) ?_;refine ay ?_;refine a7 (c9.D (yU L)) (he:=bg) ?_;refine aW ?_;refine aw (fun hc1=>?_) (fun hc1=>?_)
 .simp only[bK]at hc1;refine ay ?_;refine bI (dc.D ec) ?_;refine aF ?_;refine bE (aN ?_ (ar (D.int .i64) ?_));all_goals (have hk:vU s O.1 L A.2=false:=(by simp only[vU,hc1];rfl);rw[hq1,hk];rfl)
 simp only[ct]at hc1;have hnr:yU L=OM L:=by simp only[yU,hc1,bo]
 rw[hnr];have hsm:(fF O.1 L A.2).v.sm:=⟨by show A.2.length<=_;omega,by show([]:au).length<=_;simp⟩;refine aF ?_;refine a7 (c9.D (fF O.1 L A.2).v) (he:=bg) ?_;refine aJ ?_;intro u1;refine cH (d:=c9.D (fF O.1 L A.2).v) ?_;refine bI (dc.D (fF O.1 L A.2)) ?_;refine aE ?_;refine a7 (dc.D (fF O.1 L A.2)) (he:=bg) ?_;refine aB ?_;refine cH (d:=dc.D (fF O.1 L A.2)) ?_;refine aj (hc:=h482 (fF O.1 L A.2) hsm) ?_;refine nM ?_;refine cP (hb:=fun _=>cA) ?_;refine aF ?_;refine aw (fun hc2=>?_) (fun hc2=>?_)
 .have hk:vU s O.1 L A.2=false:=by simp only[vU,hc1,fB];exact ar (!·) hc2
  refine ay ?_;refine bI (dc.D ec) ?_;refine aF ?_;refine bE (aN ?_ (ar (D.int .i64) ?_));all_goals (rw[hq1,hk];rfl)
 have hk:vU s O.1 L A.2=true:=by simp only[vU,hc1,fB];exact ar (!·) hc2
 refine ay ?_;refine cH (d:=dc.D (fF O.1 L A.2)) ?_;refine aF ?_;refine bE (aN ?_ (ar (D.int .i64) ?_));all_goals (rw[hq1,hk];rfl)
def Ki (T:List D->D->Prop):Prop:=∀(s:au),(s.length<=1048576)->T [.str s] (.tup [dc.D ((ea s).getD ec),.int .i64 (if(ea s).isSome=true then 0 else 6)])
def Xq (Y:Ctx):Prop:=Ki (bq Y 897)
def KL:aD:=⟨1,33,[⟨1,some (7,true)⟩,⟨2,none⟩],[[.a,.a,.a,.a,.a,.a,.a],[.a]],(sq (rg [gb 7 (.c (.agg [.int .i64 0,.int .i64 0,.int .i64 0,.int .i64 0,.int .i64 0,.str [],.str []])),gm dJ] [(1,0),(2,1)]) (sq (r1 [gn (.build [.int .i64 0,.int .i64 0,.int .i64 0,.int .i64 0,.int .i64 0,.str [],.str []] [(0,1,C8)]),gb 7 (.c (.agg [.int .i64 0,.int .i64 0,.int .i64 0,.int .i64 0,.int .i64 0,.str [],.str []])),gt 7 l1 l0] 9 1) (sq (r1 [gm s0,gm l0] 10 1) (sq (sq (rg [gn (.bsl 1 (.int .i64 0) 8 [(0,lQ),(1,rX),(2,uE),(3,b7),(4,k9),(5,Lg),(6,MO),(7,C7)]),gl l0,gm bm] [(6,0),(4,1),(3,2)]) (.block 0 (.loop (sq (r1 [aP s3 s4] 5 0) (sq (eO s5 0) (sq (.block 1 (sq (r1 [ga 1 s6 s3,gd l0,gm l1] 7 2) (sq (r1 [gm s0,gm s7,gx 957 [l1] bR,gx 956 [l0,l2] gA] 8 3) (.cond s8 (sq (rg [gm s7,gf 0 s9,gt 1 l1 l0] []) (sq (r1 [gm s0,gm s7,gx 957 [l1] bR,px l2,gn (.slS l0 (some l3) none),gm l4] 10 5) (.exit 0))) .skip)))) (r1 [av s3 b7,gm l0] 3 1))))))) (sq (sq (rg [gm iQ,px l0,gm bm] [(12,1),(11,2)]) (.block 2 (.loop (sq (r1 [aP kH mS] 13 0) (sq (eO rJ 2) (sq (.block 3 (sq (r1 [gm kH,gm l0] 14 1) (sq (r1 [gm iQ,gm rK,K9 l0 l1,aL l2 (i8 45)] 15 3) (.cond xa (sq (rg [gm iQ,gm rK,av l1 b7,gn (.slS l0 (some l2) none),gf 2 s9,gf 3 l4,gt 1 l5 l3] []) (sq (r1 [gm iQ,gm rK,gn (.slS l0 none (some l1)),gm l2] 10 3) (.exit 2))) .skip)))) (r1 [av kH b7,gm l0] 11 1))))))) (sq (r1 [gm iQ,gx 533 [l0,(i8 46)] gA,gm l1] 17 2) (sq (sq (r1 [gf 0 s9,gd l0,aL l1 C8] 16 2) (.cond FI (sq (sq (r1 [gm ET,gm ET,gl l1,ek l2 b7,ga 1 l0 l3,gd l4,cj l5 (cs [42])] 18 6) (.cond Ml (sq (r1 [gn (.build [.int .i64 0,.int .i64 0,.int .i64 0,.int .i64 0,.int .i64 0,.str [],.str []] []),gt 7 s1 l0,gm dJ] 2 2) .ret) .skip)) (r1 [gm ET,gm ET,gl l1,ek l2 b7,gn (.slA 1 l0 none (some l3)),gm l4] 17 5)) .skip)) (sq (sq (r1 [gm ET,gl l0,cR l1 k9] 19 2) (.cond VB (sq (r1 [gn (.build [.int .i64 0,.int .i64 0,.int .i64 0,.int .i64 0,.int .i64 0,.str [],.str []] []),gt 7 s1 l0,gm dJ] 2 2) .ret) .skip)) (sq (rg [gm ET,gl l0,gf 1 s9,gt 1 l2 l1] []) (sq (sq (rg [gm ET,gl l0,gm bm] [(23,0),(21,1),(20,2)]) (.block 4 (.loop (sq (r1 [aP IW VZ] 22 0) (sq (eO V0 4) (sq (.block 5 (sq (rg [gm IW,ga 1 s23 IW,gd l1,gm l0,gm l2] [(27,3),(24,4)]) (sq (rg [gm VC,gx 658 [l0] bR,gm l1,ge l2 0,ge l2 1,gm l3,gm l4] [(30,5),(25,6)]) (sq (sq (r1 [gm V1,kD l0] 26 1) (.cond Zs (sq (r1 [gn (.build [.int .i64 0,.int .i64 0,.int .i64 0,.int .i64 0,.int .i64 0,.str [],.str []] []),gt 7 s1 l0,gm dJ] 2 2) .ret) .skip)) (sq (r1 [gm s27] 28 0) (.block 6 (sq (r1 [aL s28 bm,gm l0] 29 1) (.cond s29 (rg [gm S5,gf 2 s9,gf 0 l1,gt 1 l2 l0] []) (sq (r1 [aL s28 b7,gm l0] 31 1) (.cond s31 (rg [gm S5,gf 2 s9,gf 1 l1,gt 1 l2 l0] []) (rg [gm S5,gf 2 s9,gf 2 l1,gt 1 l2 l0] []))))))))))) (r1 [av IW b7,gm l0] 20 1))))))) (sq (sq (r1 [gk 7 true s9,gx 827 [l0] Qo,kD l1,gm l2,cF 3 (.ld 7 true s9),cF 3 (.call 828 [l4] Qo),eW 3 s0,cF 3 (fo l5 l6),fC l3 l7] 32 8) (.cond s32 (sq (r1 [gn (.build [.int .i64 0,.int .i64 0,.int .i64 0,.int .i64 0,.int .i64 0,.str [],.str []] []),gt 7 s1 l0,gm dJ] 2 2) .ret) .skip)) (sq (r1 [gk 7 true s9,gt 7 s1 l0,gm rV] 2 2) .ret))))))))))))⟩
def w819 (h533:MZ Y)(h658:QB Y)(h827:QE Y)(h828:TS Y)(h956:Xv Y)(h957:T3 Y)(s:au)  (hp0:s.length<=1048576):cZ Y KL (.tup [dc.D ((gG s).getD ec),.bool (gG s).isSome]) [.str s]:=by
 show bB _ _ _ (⟨true,.str s⟩::.un::.un::.un::.un::.un::.un::.un::.un::.un::.un::.un::.un::.un::.un::.un::.un::.un::.un::.un::.un::.un::.un::.un::.un::.un::.un::.un::.un::.un::.un::.un::.un::[]) ⟨0,[]⟩;have hol:=LW s;refine ak ?_;refine aF ?_;refine bI (dc.D ⟨9,0,rN⟩) ?_;refine aE ?_;refine a7 (dc.D ⟨9,0,rN⟩) (he:=bg) ?_;refine aW ?_;refine cS [(.int _ _),(.int _ _),(.int _ _),(.int _ _),(.int _ _),(.int _ _),(.int _ _),(.int _ _)] ?_;refine aE ?_;intro u0;refine ay ?_;refine qL hm (ι:=Unit) (fun _=>(⟨true,.str s⟩::⟨true,.ptr 0 7 0 0⟩::.un::.un::.un::.un::.un::.un::.un::⟨true,.ptr 3 7 0 0⟩::⟨true,.str (dw s).2⟩::.un::.un::.un::.un::.un::.un::.un::.un::.un::.un::.un::.un::.un::.un::.un::.un::.un::.un::.un::.un::.un::.un::[])) (fun _=>[(0,.buf 7 [dc.D ec]),(3,.buf 7 [dc.D ⟨(dw s).1,0,rN⟩])]) 40 (fun _=>True) ?_ ?_
 .refine fV 7 ?_;refine nK hm (ι:=Nat) (fun i=>(⟨true,.str s⟩::⟨true,.ptr 0 7 0 0⟩::.un::⟨true,.int .i64 (i:Nat)⟩::⟨true,.int .i64 8⟩::.un::⟨true,.sl 1 (opsL.map (D.int .i64))⟩::.un::.un::⟨true,.ptr 3 7 0 0⟩::⟨true,.str s⟩::.un::.un::.un::.un::.un::.un::.un::.un::.un::.un::.un::.un::.un::.un::.un::.un::.un::.un::.un::.un::.un::.un::[])) (fun i=>[(0,.buf 7 [dc.D ec]),(3,.buf 7 [dc.D ⟨9,0,rN⟩])]) 10 (fun i=>i<=8/\pe s 0=pe s i) (fun i=>8-i) 0 ⟨ae,rfl⟩ (dF [(0,0),(3,3)]) ?_;rintro i ⟨hi,hr⟩;have hn8:opsL.length=8:=rfl;refine aB ?_;refine cC (fun hc0=>?_) fun hc0=>?_
  .refine iw ?_;refine aj (hc:=h957 opsL[i]!) ?_;refine aj (hc:=h956 s (dj opsL[i]!)) ?_;refine aE ?_;refine wp_cond (fun hc1=>?_) (fun hc1=>?_)
   .have hbl:(dj opsL[i]!).length<=s.length:=by simp only[r8,bp,aY]at hc1;exact hc1.1
    have hro:dw s=(opsL[i]!,s.drop (dj opsL[i]!).length):=by simp only[dw,hr,Iu (show i<8 by omega) hc1]
    refine aB ?_;refine a7 (dc.D ⟨opsL[i]!,0,rN⟩) (he:=bg) ?_;refine aF ?_;refine aj (hc:=h957 opsL[i]!) ?_;refine aE ?_;intro u1;refine jj (dj opsL[i]!).length (hb:=fun _=>hbl) ?_;refine aH ?_;simp only[hro];exact⟨(),trivial,(dF [(0,0),(3,3)])⟩
   skip
   refine aW ?_;exact⟨i+1,⟨ae,by rw[hr,Iv ae hc1]⟩,ae,(dF [(0,0),(3,3)])⟩
  refine aB ?_;have hro:dw s=(9,s):=by simp only[dw,hr,yX (show 8<=i by omega)]
  simp only[hro];exact⟨(),trivial,(dF [(0,0),(3,3)])⟩
 .rintro _-
  refine aF ?_;intro u2;refine ay ?_;refine qL hm (ι:=Unit) (fun _=>(⟨true,.str s⟩::⟨true,.ptr 0 7 0 0⟩::.un::.un::.un::.un::.un::.un::.un::⟨true,.ptr 3 7 0 0⟩::⟨true,.str (eD s).1⟩::.un::.un::.un::.un::.un::.un::.un::.un::.un::.un::.un::.un::.un::.un::.un::.un::.un::.un::.un::.un::.un::.un::[])) (fun _=>[(0,.buf 7 [dc.D ec]),(3,.buf 7 [dc.D ⟨(dw s).1,0,{rN with pre:=(eD s).2}⟩])]) 60 (fun _=>True) ?_ ?_
  .refine nK hm (ι:=Nat) (fun i=>(⟨true,.str s⟩::⟨true,.ptr 0 7 0 0⟩::.un::.un::.un::.un::.un::.un::.un::⟨true,.ptr 3 7 0 0⟩::⟨true,.str (dw s).2⟩::⟨true,.int .i64 (i:Nat)⟩::⟨true,.int .i64 ((dw s).2.length:Nat)⟩::.un::.un::.un::.un::.un::.un::.un::.un::.un::.un::.un::.un::.un::.un::.un::.un::.un::.un::.un::.un::[])) (fun i=>[(0,.buf 7 [dc.D ec]),(3,.buf 7 [dc.D ⟨(dw s).1,0,rN⟩])]) 43 (fun i=>i<=(dw s).2.length/\eD s=hE (dw s).2 i) (fun i=>(dw s).2.length-i) 0 ⟨ae,rfl⟩ (dF [(0,0),(3,3)]) ?_;rintro i ⟨hi,hr⟩;refine aB ?_;refine cC (fun hc2=>?_) fun hc2=>?_
   .refine gJ ?_;refine wp_cond (fun hc3=>?_) (fun hc3=>?_)
    .simp only[aY]at hc3;have hpr:eD s=((dw s).2.take i,(dw s).2.drop (i+1)):=by rw[hr,Iz ae hc3]
     refine aF ?_;refine jj (i+1) ?_;refine ay ?_;refine a7 (dc.D ⟨(dw s).1,0,{rN with pre:=(dw s).2.drop (i+1)}⟩) (he:=bg) ?_;refine aF ?_;refine oC _ ?_;refine aH ?_;simp only[hpr];exact⟨(),trivial,(dF [(0,0),(3,3)])⟩
    try simp only[eh]at hc3
    refine aW ?_;exact⟨i+1,⟨ae,by rw[hr,IA ae hc3]⟩,ae,(dF [(0,0),(3,3)])⟩
   refine aB ?_;have hpr:eD s=((dw s).2,[]):=by rw[hr,Em ae]
   simp only[hpr];exact⟨(),trivial,(dF [(0,0),(3,3)])⟩
  .rintro _-
   have hpl:(eD s).1.length<=s.length/\(eD s).2.length<=s.length:=by
    have:=za (dw s).2;exact⟨by show(hE _ 0).1.length<=_;omega,by show(hE _ 0).2.length<=_;omega⟩
   have hlp:1<=(aq (eD s).1 46).length:=ff _ _ _;have hln:=eL (eD s).1 46;refine ay ?_;refine aj (hc:=h533 (eD s).1 46 ae) ?_;refine bM ?_;refine qL hm (ι:=Unit) (fun _=>(⟨true,.str s⟩::⟨true,.ptr 0 7 0 0⟩::.un::.un::.un::.un::.un::.un::.un::⟨true,.ptr 3 7 0 0⟩::.un::.un::.un::.un::.un::.un::.un::⟨true,.sl 1 ((ed s).map D.str)⟩::.un::.un::.un::.un::.un::.un::.un::.un::.un::.un::.un::.un::.un::.un::.un::[])) (fun _=>[(0,.buf 7 [dc.D ec]),(3,.buf 7 [dc.D ⟨(dw s).1,0,{rN with pre:=(eD s).2}⟩])]) 80 (fun _=>nn s) ?_ ?_
   .refine wp_cond (fun hc4=>?_) (fun hc4=>?_)
    .try simp only[eh]at hc4
     refine aJ ?_;intro u3;refine aE ?_;refine cM ((aq (eD s).1 46).length-1) (hj:=fun _=>ae) (hb:=fun _=>ae) ?_;refine aB ?_;refine aw (fun hc5=>?_) (fun hc5=>?_)
     .simp only[bK,bA]at hc5;have hno:=j6 (s:=s) (fun h=>hc5 (h.1 hc4));refine ay ?_;refine bI (dc.D ec) ?_;refine aJ ?_;refine bE (aN ?_ (ar D.bool ?_));all_goals (rw[hno];rfl)
     simp only[ct,aY]at hc5;have hst:nn s:=fun _=>hc5
     have hrl:ed s=(aq (eD s).1 46).take ((aq (eD s).1 46).length-1):=ax hc4;refine aJ ?_;intro u4;refine aE ?_;refine tN ((aq (eD s).1 46).length-1) (hj:=fun _=>ae) (hb:=fun _=>ae) ?_;refine aB ?_;simp only[hrl];exact⟨(),hst,(dF [(0,0),(3,3)])⟩
    simp only[bA]at hc4;have hst:nn s:=fun h=>absurd h hc4
    have hrl:ed s=(aq (eD s).1 46):=ai hc4;refine ay ?_;simp only[hrl];exact⟨(),hst,(dF [(0,0),(3,3)])⟩
   .rintro _ hst;refine aF ?_;intro u5;refine ay ?_;refine aw (fun hc6=>?_) (fun hc6=>?_)
    .simp only[aY]at hc6;have hno:=j6 (s:=s) (fun h=>by have:=h.2.1;simp only[eK,bp,aY]at this;omega);refine ay ?_;refine bI (dc.D ec) ?_;refine aF ?_;refine bE (aN ?_ (ar D.bool ?_));all_goals (rw[hno];rfl)
    try simp only[eh]at hc6
    refine aF ?_;intro u6;refine aE ?_;refine a7 (dc.D ⟨(dw s).1,((ed s).length:Nat),{rN with pre:=(eD s).2}⟩) (he:=bg) ?_;refine aJ ?_;intro u7;refine ay ?_;have hb:eK (ed s)=cI (fun i=>iE (ed s)[i]!) 0 (ed s).length:=by simp only[eK];rw[cv ae];rfl
    refine bc hm (ι:=Nat) (fun i=>(⟨true,.str s⟩::⟨true,.ptr 0 7 0 0⟩::.un::.un::.un::.un::.un::.un::.un::⟨true,.ptr 3 7 0 0⟩::.un::.un::.un::.un::.un::.un::.un::.un::.un::.un::⟨true,.int .i64 (i:Nat)⟩::⟨true,.int .i64 ((ed s).length:Nat)⟩::.un::⟨true,.sl 1 ((ed s).map D.str)⟩::.un::.un::.un::.un::.un::.un::.un::.un::.un::[])) (fun i=>[(0,.buf 7 [dc.D ec]),(3,.buf 7 [dc.D ⟨(dw s).1,((ed s).length:Nat),{Ir (ed s) i with pre:=(eD s).2}⟩])]) 90 (fun i=>i<=(ed s).length/\eK (ed s)=cI (fun i=>iE (ed s)[i]!) i (ed s).length) (fun i=>(ed s).length-i) 0 ⟨ae,hb⟩ (dF [(0,0),(3,3)]) ?_;rintro i ⟨hi,hr⟩;refine aB ?_;refine cC (fun hc7=>?_) fun hc7=>?_
    .refine fW ?_;refine aj (hc:=h658 (ed s)[i]!) ?_;refine fW ?_;refine aw (fun hc8=>?_) (fun hc8=>?_)
     .simp only[bK]at hc8;have hno:=j6 (s:=s) (fun h=>by have:=h.2.1;rw[hr,aR ae,hc8]at this;cases this);refine ay ?_;refine bI (dc.D ec) ?_;refine aH ?_;refine bE (aN ?_ (ar D.bool ?_));all_goals (rw[hno];rfl)
     simp only[ct]at hc8;refine cU ?_;refine wp_cond (fun hc9=>?_) (fun hc9=>?_)
     .simp only[aY]at hc9;have hi0:i=0:=ae;refine aF ?_;refine a7 (dc.D ⟨(dw s).1,((ed s).length:Nat),{Ir (ed s) (i+1)with pre:=(eD s).2}⟩) (he:=by subst hi0;exact rfl) ?_;refine bM ?_;exact⟨i+1,⟨ae,by rw[hr,aR ae,hc8];rfl⟩,ae,(dF [(0,0),(3,3)])⟩
     try simp only[eh]at hc9
     refine aF ?_;refine wp_cond (fun hc10=>?_) (fun hc10=>?_)
     .simp only[aY]at hc10;have hi0:i=1:=ae;refine aF ?_;refine a7 (dc.D ⟨(dw s).1,((ed s).length:Nat),{Ir (ed s) (i+1)with pre:=(eD s).2}⟩) (he:=by subst hi0;exact rfl) ?_;refine bM ?_;exact⟨i+1,⟨ae,by rw[hr,aR ae,hc8];rfl⟩,ae,(dF [(0,0),(3,3)])⟩
     simp only[bA]at hc10;have hi0:i=2:=ae;refine aF ?_;refine a7 (dc.D ⟨(dw s).1,((ed s).length:Nat),{Ir (ed s) (i+1)with pre:=(eD s).2}⟩) (he:=by subst hi0;exact rfl) ?_;refine bM ?_;exact⟨i+1,⟨ae,by rw[hr,aR ae,hc8];rfl⟩,ae,(dF [(0,0),(3,3)])⟩
    refine aF ?_;obtain rfl:i=(ed s).length:=ae;have hok:eK (ed s)=true:=by rw[hr,ch ae]
    have hsm:(eu s).v.sm:=⟨by show(eD s).2.length<=_;omega,by show([]:au).length<=_;simp⟩;refine cH (d:=dc.D (eu s)) ?_;refine aj (hc:=h827 (eu s) hsm) ?_;refine ay ?_;refine cH (d:=dc.D (eu s)) ?_;refine df (hc:=fun _=>h828 (eu s) hsm) ?_;refine aF ?_;refine aw (fun hc11=>?_) (fun hc11=>?_)
    .simp only[c8,bK,bA]at hc11;have hno:=j6 (s:=s) (fun h=>by rcases hc11 with h1|h1;rw[h.2.2.1]at h1;cases h1;exact h1 h.2.2.2);refine ay ?_;refine bI (dc.D ec) ?_;refine aF ?_;refine bE (aN ?_ (ar D.bool ?_));all_goals (rw[hno];rfl)
    simp only[dR,ct,aY]at hc11;have hyes:gG s=some (eu s):=by unfold gG;rw[ax ⟨hst,hok,hc11⟩]
    refine ay ?_;refine cH (d:=dc.D (eu s)) ?_;refine aF ?_;refine bE (aN ?_ (ar D.bool ?_));all_goals (rw[hyes];rfl)
def Kf (T:List D->D->Prop):Prop:=∀(s:au),(s.length<=1048576)->T [.str s] (.tup [dc.D ((gG s).getD ec),.bool (gG s).isSome])
def Xn (Y:Ctx):Prop:=Kf (bq Y 819)
def F5:aD:=⟨1,9,[⟨1,some (7,true)⟩,⟨2,none⟩],[[.a,.a,.a,.a,.a,.a,.a],[.a]],(sq (rg [gb 7 (.c (.agg [.int .i64 0,.int .i64 0,.int .i64 0,.int .i64 0,.int .i64 0,.str [],.str []])),gm bm] [(1,0),(2,1)]) (sq (sq (rg [gm s0,gx 819 [l0] bR,gm l1,ge l2 0,ge l2 1,gb 7 (.c (.agg [.int .i64 0,.int .i64 0,.int .i64 0,.int .i64 0,.int .i64 0,.str [],.str []])),gt 7 l5 l3,gm l4] [(5,5),(3,7)]) (sq (r1 [gm s3] 4 0) (.cond s4 (sq (r1 [gk 7 true s5,gt 7 s1 l0,gm bm] 2 2) .ret) .skip))) (sq (sq (rg [gm s0,av (cs [94]) l0,gx 819 [l1] bR,gm l2,ge l3 0,ge l3 1,gb 7 (.c (.agg [.int .i64 0,.int .i64 0,.int .i64 0,.int .i64 0,.int .i64 0,.str [],.str []])),gt 7 l6 l4,gm l5] [(8,6),(6,8)]) (sq (r1 [gm s6] 7 0) (.cond s7 (sq (r1 [gk 7 true s8,gt 7 s1 l0,gm bm] 2 2) .ret) .skip))) (sq (r1 [gn (.build [.int .i64 0,.int .i64 0,.int .i64 0,.int .i64 0,.int .i64 0,.str [],.str []] []),gt 7 s1 l0,gm uE] 2 2) .ret))))⟩
def w682 {Y:Ctx}(hm:(Y.at 0).bU)(h819:Xn Y)(s:au)  (hp0:s.length<=1048575):cZ Y F5 (.tup [dc.D ((mb s).getD ec),.int .i64 (if(mb s).isSome=true then 0 else 6)]) [.str s]:=by
 show bB _ _ _ [⟨_,_⟩,_,_,_,_,_,_,_,_] _;refine ak ?_;refine aH ?_;refine aj (hc:=h819 s ae) ?_;refine aE ?_;refine kG (dc.D _) ?_;refine ay ?_;refine a7 (dc.D ((gG s).getD ec)) (he:=bg) ?_;refine aH ?_;refine cC (fun hc0=>?_) fun hc0=>?_
 .refine ay ?_;refine cH (d:=dc.D ((gG s).getD ec)) ?_;refine aF ?_;refine bE (aN ?_ (ar (D.int .i64) ?_));all_goals (have hn:mb s=gG s:=ax hc0;rw[hn];first|rfl|simp only[hc0,bo])
 refine aF ?_;refine cP (hb:=fun _=>cA) ?_;refine aj (hc:=h819 (94::s) cA) ?_;refine aE ?_;refine kG (dc.D _) ?_;refine ay ?_;refine a7 (dc.D ((gG (94::s)).getD ec)) (he:=bg) ?_;refine aH ?_;refine cC (fun hc1=>?_) fun hc1=>?_
 .refine ay ?_;refine cH (d:=dc.D ((gG (94::s)).getD ec)) ?_;refine aF ?_;refine bE (aN ?_ (ar (D.int .i64) ?_));all_goals (have hn:mb s=gG (94::s):=(by simp only[mb,hc0,gX,br]);rw[hn];first|rfl|simp only[hc1,bo])
 refine ay ?_;refine bI (dc.D ec) ?_;refine aF ?_;refine bE (aN ?_ (ar (D.int .i64) ?_));all_goals (have hn:mb s=none:=(by simp only[mb,hc0,gX,br];exact Option.not_isSome_iff_eq_none.1 (by rw[hc1];simp));rw[hn];rfl)
def J4 (T:List D->D->Prop):Prop:=∀(s:au),(s.length<=1048575)->T [.str s] (.tup [dc.D ((mb s).getD ec),.int .i64 (if(mb s).isSome=true then 0 else 6)])
def W4 (Y:Ctx):Prop:=J4 (bq Y 682)
end Go.Abs
