/- A part of the proofs. -/
import Derived.Test.YtgnjlompgjhaaaaGreatDoorP05
set_option linter.all false
set_option maxRecDepth 4000
namespace Go.Abs
def BL:aC:=⟨1,8,fM,bM,(sq (r1 [gm dt] 1 0) (sq (sq (r1 [gm s0,aL l0 cse,gm l1,eC 2 s0,cl 2 (.lenS l3),cl 2 (dE l4 (i6 12)),eK l2 l5] 2 6) (jG s2 dt)) (sq (sq (r1 [gm s0,gn (.nT l0)] 3 1) (.block 0 (.loop (sq (rg [gn (.vU s3),ge l0 0] [(5,0),(4,1)]) (sq (eN s4 0) (.block 1 (sq (r1 [ge s5 2,gm l0] 6 1) (.block 2 (sq (sq (r1 [gm s6,gB l0 (i3 97),gm l1,gmt 2 s6,ca 2 (kB l3 (i3 122)),ew l2 l4,gm l5] 7 6) (.cond s7 .skip (sq (r1 [gm s6,gB l0 (i3 48),gm l1,gmt 2 s6,ca 2 (kB l3 (i3 57)),ew l2 l4,gm l5] 7 6) (.cond s7 .skip (r1 [gm s6,aL l0 (i3 95),gm l1] 7 2))))) (.cond s7 .skip (te dt))))))))))) (te px))))⟩
def w349 {Y:Ctx}(hm:(Y.at 0).bd)  (s:au)   :dd Y BL (.bool (cb s)) [.str s]:=by
 show bH _ _ _ [⟨_,_⟩,_,_,_,_,_,_,_] _;refine ak ?_;refine bP ?_;refine kd ?_;refine aB ?_;refine cw (fun hc0=>?_) fun hc0=>?_
 ·refine aI ?_;refine bF ?_;symm;simp only[cb,dr,bx];rcases hc0 with h|h
  ·subst h;exact Or.inl (Or.inl aT)
  ·exact Or.inl ae
 refine aF ?_;have hP:cb s=cr (fun i=>vI (at8 s i)) 0 s.length:=by
  have:=List.length_pos_iff.2 hc0.1;simp only[cb];rw[bD ae,bD ae];rfl
 refine bh hm (ι:=Nat) (fun i=>[⟨true,.str s⟩,.un,.un,⟨true,.it 9⟩,.un,.un,.un,.un]) (fun i=>[(9,.iter s i)]) 10 (fun i=>i<=s.length/\cb s=cr (fun i=>vI (at8 s i)) i s.length) (fun i=>s.length-i) 0 ⟨ae,hP⟩ (dn [(9,9)]) ?_;rintro i ⟨hi,hr⟩;refine aS ?_;by_cases hnx:i<s.length
 ·obtain⟨c,w,hdec,hw,hcw⟩:=qP s i hnx;refine yG c w (hp:=hnx) (hc:=hdec) ?_;refine aA ?_;refine aw (t:=true) (fun _=>?_) (fun h=>by cases h);refine vR ?_;refine cw (fun hc2=>?_) fun hc2=>?_
  ·refine aS ?_;refine eP (fun hc4=>?_) fun hc4=>?_
   ·refine aE ?_;obtain⟨rfl,hat,-⟩:w=1/\(c:Int)=at8 s i/\c<128:=by
     rcases hcw with h|h
     ·exact h
     ·omega
    have hz:vI (at8 s i)=true:=by
     simp only[vI,gO,bg,cu,aZ,aR];omega
    exact⟨i+1,⟨ae,by rw[hr,aK hnx,hz];rfl⟩,ae,(dn [(9,9)])⟩
   refine aU ?_;refine bF ?_;first
    |(exfalso;omega)
    |(rw[hr,bV ae];done)
    |(
     have hz:vI (at8 s i)=false:=by
      rcases hcw with⟨_,h,_⟩|⟨_,h⟩<;>(simp only[vI,gO,bg,dc,dr,bx];omega)
     rw[hr,aK hnx,hz];rfl)
  refine ic ?_;refine cw (fun hc3=>?_) fun hc3=>?_
  ·refine aS ?_;refine eP (fun hc4=>?_) fun hc4=>?_
   ·refine aE ?_;obtain⟨rfl,hat,-⟩:w=1/\(c:Int)=at8 s i/\c<128:=by
     rcases hcw with h|h
     ·exact h
     ·omega
    have hz:vI (at8 s i)=true:=by
     simp only[vI,gO,bg,cu,aZ,aR];omega
    exact⟨i+1,⟨ae,by rw[hr,aK hnx,hz];rfl⟩,ae,(dn [(9,9)])⟩
   refine aU ?_;refine bF ?_;first
    |(exfalso;omega)
    |(rw[hr,bV ae];done)
    |(
     have hz:vI (at8 s i)=false:=by
      rcases hcw with⟨_,h,_⟩|⟨_,h⟩<;>(simp only[vI,gO,bg,dc,dr,bx];omega)
     rw[hr,aK hnx,hz];rfl)
  refine aI ?_;refine eP (fun hc4=>?_) fun hc4=>?_
  ·refine aE ?_;obtain⟨rfl,hat,-⟩:w=1/\(c:Int)=at8 s i/\c<128:=by
    rcases hcw with h|h
    ·exact h
    ·omega
   have hz:vI (at8 s i)=true:=by
    simp only[vI,gO,bg,cu,aZ,aR];omega
   exact⟨i+1,⟨ae,by rw[hr,aK hnx,hz];rfl⟩,ae,(dn [(9,9)])⟩
  refine aU ?_;refine bF ?_;first
   |(exfalso;omega)
   |(rw[hr,bV ae];done)
   |(
    have hz:vI (at8 s i)=false:=by
     rcases hcw with⟨_,h,_⟩|⟨_,h⟩<;>(simp only[vI,gO,bg,dc,dr,bx];omega)
    rw[hr,aK hnx,hz];rfl)
 ·refine yF (hp:=hnx) ?_;refine aA ?_;refine aw (t:=false) (fun h=>by cases h) (fun _=>?_);refine aF ?_;refine bF ?_;first
   |(exfalso;omega)
   |(rw[hr,bV ae];done)
   |(
    have hz:vI (at8 s i)=false:=by
     rcases hcw with⟨_,h,_⟩|⟨_,h⟩<;>(simp only[vI,gO,bg,dc,dr,bx];omega)
    rw[hr,aK hnx,hz];rfl)
def Bg (Y:Ctx):Prop:=∀(s:au),Y.pre 349 [.str s]/\Y.val 349 [.str s]=.bool (cb s)
def BK:aC:=⟨1,13,fM,bM,(sq (r1 [gm dt] 1 0) (sq (sq (r1 [gm s0,aL l0 cse,gm l1,eC 2 s0,cl 2 (.lenS l3),cl 2 (dE l4 (i6 16)),eK l2 l5] 2 6) (jG s2 dt)) (sq (sq (r1 [gm s0,gn (.nT l0)] 3 1) (.block 0 (.loop (sq (rg [gn (.vU s3),ge l0 0] [(5,0),(4,1)]) (sq (eN s4 0) (.block 1 (sq (rg [ge s5 1,ge s5 2,gm l0,gm l1] [(9,2),(6,3)]) (.block 2 (sq (r1 [gm s6,gB l0 (i3 97),gm l1,gmt 2 s6,ca 2 (kB l3 (i3 122)),ew l2 l4,gm l5] 7 6) (.cond s7 .skip (sq (r1 [gm s6,gB l0 (i3 48),gm l1,gmt 2 s6,ca 2 (kB l3 (i3 57)),ew l2 l4,gm l5] 8 6) (.cond s8 (sq (r1 [gm s9,aL l0 bp] 10 1) (jG iP dt)) (sq (r1 [gm s6,aL l0 (i3 45),gm l1] 11 2) (.cond kp (sq (r1 [gm s9,aL l0 bp,gm l1,eC 2 s9,eC 2 s0,cl 2 (.lenS l4),cl 2 (ju l5 cq),cl 2 (cM l3 l6),eK l2 l7,gm l8,eC 9 s0,eC 9 s9,cl 9 (ju im cq),cl 9 (.ixS l10 js),cl 9 (cM ki (i8 45)),eK l9 kW] 12 15) (jG mS dt)) (te dt))))))))))))))) (te px))))⟩
def w208 {Y:Ctx}(hm:(Y.at 0).bd)  (s:au)   :dd Y BK (.bool (ey s)) [.str s]:=by
 show bH _ _ _ [⟨_,_⟩,_,_,_,_,_,_,_,_,_,_,_,_] _;refine ak ?_;refine bP ?_;refine kd ?_;refine aB ?_;refine cw (fun hc0=>?_) fun hc0=>?_
 ·refine aI ?_;refine bF ?_;symm;simp only[ey];rcases hc0 with h|h
  ·subst h;simp
  ·rw[cj (by omega:¬s.length<=16)];simp
 refine aF ?_;have h0:=List.length_pos_iff.2 hc0.1;have hP:=JY s ae ae;refine bh hm (ι:=Nat) (fun i=>[⟨true,.str s⟩,.un,.un,⟨true,.it 9⟩,.un,.un,.un,.un,.un,.un,.un,.un,.un]) (fun i=>[(9,.iter s i)]) 10 (fun i=>i<=s.length/\ey s=cr (mf s) i s.length) (fun i=>s.length-i) 0 ⟨ae,hP⟩ (dn [(9,9)]) ?_;rintro i ⟨hi,hr⟩;refine aS ?_;by_cases hnx:i<s.length
 ·obtain⟨c,w,hdec,hw,hcw⟩:=qP s i hnx;refine yG c w (hp:=hnx) (hc:=hdec) ?_;refine aA ?_;refine aw (t:=true) (fun _=>?_) (fun h=>by cases h);refine Lk ?_;refine eP (fun hc2=>?_) fun hc2=>?_
  ·refine aE ?_;obtain⟨rfl,hat,-⟩:w=1/\(c:Int)=at8 s i/\c<128:=by
    rcases hcw with h|h
    ·exact h
    ·omega
   have hz:mf s i=true:=by
    simp only[mf,gO,bg,cu,aZ,bB,aR,bx];omega
   exact⟨i+1,⟨ae,by rw[hr,aK hnx,hz];rfl⟩,ae,(dn [(9,9)])⟩
  refine cU ?_;refine eP (fun hc3=>?_) fun hc3=>?_
  ·refine aE ?_;refine eP (fun hc4=>?_) fun hc4=>?_
   ·refine aU ?_;refine bF ?_;first
     |(exfalso;omega)
     |(rw[hr,bV ae];done)
     |(have hz:mf s i=false:=by
        rcases hcw with⟨_,h,_⟩|⟨_,h⟩<;>(simp only[mf,gO,bg,dc,dr,bY,aR,bx];omega)
       rw[hr,aK hnx,hz];rfl)
   refine aE ?_;obtain⟨rfl,hat,-⟩:w=1/\(c:Int)=at8 s i/\c<128:=by
    rcases hcw with h|h
    ·exact h
    ·omega
   have hz:mf s i=true:=by
    simp only[mf,gO,bg,cu,aZ,bB,aR,bx];omega
   exact⟨i+1,⟨ae,by rw[hr,aK hnx,hz];rfl⟩,ae,(dn [(9,9)])⟩
  refine aI ?_;refine eP (fun hc5=>?_) fun hc5=>?_
  ·refine aF ?_;refine kd ?_;refine aU ?_;refine mL (i-1) ?_;refine aB ?_;refine eP (fun hc6=>?_) fun hc6=>?_
   ·refine aU ?_;refine bF ?_;first
     |(exfalso;omega)
     |(rw[hr,bV ae];done)
     |(have hz:mf s i=false:=by
        rcases hcw with⟨_,h,_⟩|⟨_,h⟩<;>(simp only[mf,gO,bg,dc,dr,bY,aR,bx];omega)
       rw[hr,aK hnx,hz];rfl)
   refine aE ?_;obtain⟨rfl,hat,-⟩:w=1/\(c:Int)=at8 s i/\c<128:=by
    rcases hcw with h|h
    ·exact h
    ·omega
   have hz:mf s i=true:=by
    simp only[mf,gO,bg,cu,aZ,bB,aR,bx];omega
   exact⟨i+1,⟨ae,by rw[hr,aK hnx,hz];rfl⟩,ae,(dn [(9,9)])⟩
  refine aU ?_;refine bF ?_;first
   |(exfalso;omega)
   |(rw[hr,bV ae];done)
   |(have hz:mf s i=false:=by
      rcases hcw with⟨_,h,_⟩|⟨_,h⟩<;>(simp only[mf,gO,bg,dc,dr,bY,aR,bx];omega)
     rw[hr,aK hnx,hz];rfl)
 ·refine yF (hp:=hnx) ?_;refine aA ?_;refine aw (t:=false) (fun h=>by cases h) (fun _=>?_);refine aF ?_;refine bF ?_;first
   |(exfalso;omega)
   |(rw[hr,bV ae];done)
   |(have hz:mf s i=false:=by
      rcases hcw with⟨_,h,_⟩|⟨_,h⟩<;>(simp only[mf,gO,bg,dc,dr,bY,aR,bx];omega)
     rw[hr,aK hnx,hz];rfl)
def D0 (Y:Ctx):Prop:=∀(s:au),Y.pre 208 [.str s]/\Y.val 208 [.str s]=.bool (ey s)
def yj:aC:=⟨1,10,[⟨1,none⟩,⟨2,none⟩],fV,(sq (rg [gm bp,gm dt] [(1,0),(2,1)]) (sq (sq (r1 [gm s0,aL l0 cse,gm l1,eC 2 s0,cl 2 (.lenS l3),cl 2 (dE l4 tg),eK l2 l5,gm l6,eC 7 s0,cl 7 (.ixS l8 bp),cl 7 (cM l9 (i8 48)),eC 7 l10,gmt 11 s0,ca 11 (.lenS js),ca 11 (dE ki cq),zC 7 im kW,eK l7 me] 3 16) (.cond s3 (sq (rg [gm bp,gm dt] [(1,0),(2,1)]) .ret) .skip)) (sq (r1 [gm bp] 9 0) (sq (sq (r1 [gm s0,gn (.nT l0)] 4 1) (.block 0 (.loop (sq (rg [gn (.vU s4),ge l0 0] [(6,0),(5,1)]) (sq (eN s5 0) (.block 1 (sq (r1 [ge s6 2,gm l0] 7 1) (.block 2 (sq (r1 [gm s7,gB l0 (i3 48),gm l1,gmt 2 s7,ca 2 (kB l3 (i3 57)),ew l2 l4,gm l5] 8 6) (.cond s8 (r1 [gm s9,gn (.bin .mul (i6 10) l0),gm s7,ep l2 (i3 48),gn (.cvi .i64 l3),ax l1 l4,gm l5] 9 6) (sq (rg [gm bp,gm dt] [(1,0),(2,1)]) .ret))))))))))) (sq (rg [gm s9,gm s9,yu l1 (i6 9999),gm l0,gm l2] [(1,3),(2,4)]) .ret)))))⟩
def w658 {Y:Ctx}(hm:(Y.at 0).bd)  (s:au)   :dd Y yj (.tup [.int .i64 (iF s),.bool (gp s)]) [.str s]:=by
 show bH _ _ _ [⟨_,_⟩,_,_,_,_,_,_,_,_,_] _;refine ak ?_;refine cU ?_;refine kd ?_;refine aE ?_;refine mL 0 (hb:=fun h=>by simp at h;exact List.length_pos_iff.2 h.1) ?_;refine aB ?_;refine kd ?_;refine aE ?_;refine cw (fun hc0=>?_) fun hc0=>?_
 ·refine aF ?_;refine bO (aN (aj (D.int .i64) ?_) (aj D.bool ?_));all_goals
   have:gp s=false:=by
    rw[B1];rcases hc0 with(h|h)|h
    ·subst h;simp
    ·rw[cj (by omega:¬s.length<=4)];simp
    ·rw[bD (by omega:1<s.length),bD h.1];simp
   simp[iF,this]
 refine cU ?_;have h0:=List.length_pos_iff.2 hc0.1.1;have hP:gp s=cr (fun i=>bg (at8 s i)) 0 s.length:=by
  rw[B1,bD (by omega:1<=s.length),bD (by omega:s.length<=4)];rcases hc0.2 with h|h
  ·rw[cj h,Bool.and_false];rfl
  ·rw[cj (by omega:¬1<s.length)];rfl
 refine bh hm (ι:=Nat) (fun i=>[⟨true,.str s⟩,.un,.un,.un,⟨true,.it 21⟩,.un,.un,.un,.un,⟨true,.int .i64 (eh (s.take i):Nat)⟩]) (fun i=>[(21,.iter s i)]) 22 (fun i=>i<=s.length/\s.length<=4/\gp s=cr (fun i=>bg (at8 s i)) i s.length) (fun i=>s.length-i) 0 ⟨ae,ae,hP⟩ (dn [(21,21)]) ?_;rintro i ⟨hi,h9,hr⟩;refine aS ?_;by_cases hnx:i<s.length
 ·obtain⟨c,w,hdec,hw,hcw⟩:=qP s i hnx;refine yG c w (hp:=hnx) (hc:=hdec) ?_;refine aA ?_;refine aw (t:=true) (fun _=>?_) (fun h=>by cases h);refine vQ ?_;refine eP (fun hc2=>?_) fun hc2=>?_
  ·refine aS ?_;obtain⟨rfl,hat,-⟩:w=1/\(c:Int)=at8 s i/\c<128:=by
    rcases hcw with h|h
    ·exact h
    ·omega
   have hn:=rh s i ae;have hn2:=sP s i ae;have h256:=rH s i;refine aS ?_;refine tJ ?_;refine aS ?_;refine qi ((c:Int) -48) (hb:=fun _=>IntWalk.i32_in _ ae) ?_;refine nF ((c:Int) -48) (hb:=fun _=>IntWalk.i64_in _ ae) ?_;refine aB ?_;rw[show 10*(eh (s.take i):Int)+((c:Int) -48)=(eh (s.take (i+1)):Nat)by omega];refine aB ?_;have hz:bg (at8 s i)=true:=by
    simp only[bg,aZ,aR];omega
   exact⟨i+1,⟨ae,h9,by rw[hr,aK ae,hz];rfl⟩,ae,(dn [(21,21)])⟩
  refine bP ?_;refine bO (aN (aj (D.int .i64) ?_) (aj D.bool ?_));all_goals
   have hz:bg (at8 s i)=false:=by
    rcases hcw with⟨_,h,_⟩|⟨_,h⟩<;>(simp only[bg,dr,bx];omega)
   have:gp s=false:=by rw[hr,aK ae,hz];rfl
   simp[iF,this]
 ·refine yF (hp:=hnx) ?_;refine aA ?_;refine aw (t:=false) (fun h=>by cases h) (fun _=>?_);refine ic ?_;refine bO (aN (aj (D.int .i64) ?_) (aj D.bool ?_));all_goals
   have this:gp s=true:=by rw[hr,bV ae]
   have ht:s.take i=s:=dQ ae;have h9:=this;simp only[gp,aZ,aR]at h9;have h99:=h9.2;rw[ht];first
   |(simp only[iF,this];rfl)
   |(rw[this,aR];omega)
def I6 (Y:Ctx):Prop:=∀(s:au),Y.pre 658 [.str s]/\Y.val 658 [.str s]=.tup [.int .i64 (iF s),.bool (gp s)]
def ya:aC:=⟨1,3,fM,bM,(sq (r1 [gm (i8 0)] 1 0) (sq (sq (r1 [gm s0,aP l0 (i8 10)] 2 1) (.cond s2 (sq (r1 [gm s0,ax (i8 48) l0,gm l1] 1 2) .ret) .skip)) (sq (r1 [gm s0,ax (i8 97) l0,ep l1 (i8 10),gm l2] 1 3) .ret)))⟩
def w686 {Y:Ctx}(hm:(Y.at 0).bd)  (k:Nat)  (hp0:k<16):dd Y ya (.int .u8 ((wh k).toNat:Nat)) [.int .u8 (k:Nat)]:=by
 show bH _ _ _ [⟨_,_⟩,_,_] _;refine ak ?_;refine aI ?_;first|refine H6 ?_|refine H7 ?_
 refine aS ?_;refine cw (fun hc0=>?_) fun hc0=>?_
 ·refine aB ?_;refine oB (48+(k:Int)) (hb:=fun _=>IntWalk.u8_in _ ae) ?_;refine aB ?_;refine bO (aj (D.int .u8) ?_);exact(JK k ae).symm
 refine aB ?_;refine oB (97+(k:Int)) (hb:=fun _=>IntWalk.u8_in _ ae) ?_;refine qi (87+(k:Int)) (hb:=fun _=>by rw[show 97+(k:Int) -10=87+k by omega];exact IntWalk.u8_in _ ae) ?_;refine aB ?_;refine bO (aj (D.int .u8) ?_);exact(JJ k ae hp0).symm
def Pb (Y:Ctx):Prop:=∀(k:Nat),(k<16)->Y.pre 686 [.int .u8 (k:Nat)]/\Y.val 686 [.int .u8 (k:Nat)]=.int .u8 ((wh k).toNat:Nat)
def zp:aC:=⟨1,7,fM,bM,(sq (r1 [gm cse] 1 0) (sq (r1 [gn (.mks 1 (.int .u8 0) (i6 16) (i6 16)),gm l0] 2 1) (sq (sq (rg [gm s2,gl l0,gm bp] [(4,1),(3,2)]) (.block 0 (.loop (sq (r1 [aP s3 s4] 5 0) (sq (eN s5 0) (sq (.block 1 (sq (r1 [gm s3,gm l0] 6 1) (rg [gm s2,gm s6,ep (i6 15) l1,gm s0,gm s6,gn (.bin .mul tg l4),gn (.bin .shr l3 l5),BW l6 (iu 15),gn (.cvi .u8 l7),gx 686 [l8] bM,ga 1 l0 l2,gt 1 l10 l9] []))) (r1 [ax s3 cq,gm l0] 3 1))))))) (sq (r1 [gm s2,gn (.b2s l0),gm l1] 1 2) .ret))))⟩
def w497 {Y:Ctx}(hm:(Y.at 0).bd)(h686:Pb Y)(n:Int)   :dd Y zp (.str (gv n)) [.int .u64 n]:=by
 show bH _ _ _ [⟨_,_⟩,_,_,_,_,_,_] _;refine ak ?_;refine aB ?_;refine Lb _ ?_;refine aF ?_;intro u0;refine aA ?_;refine bh hm (ι:=Nat) (fun i=>[⟨true,.int .u64 n⟩,.un,⟨true,.own 1 1 0 16⟩,⟨true,.int .i64 (i:Nat)⟩,⟨true,.int .i64 (16:Nat)⟩,.un,.un]) (fun i=>[(1,.buf 1 ((ry n i).map fun b=>D.int .u8 b.toNat))]) 6 (fun i=>i<=16) (fun i=>16-i) 0 ae (dn [(1,1)]) ?_;intro i hi;have hlen:=pk n i;refine aB ?_;refine cw (fun hc0=>?_) fun hc0=>?_
 ·refine gW ?_;refine tJ ?_;refine xh (pL n (4*i)) (hb:=fun _=>by rw[show min (Int.toNat (4*(i:Int))) (IntKind.bits .u64)=4*i by simp[IntKind.bits];omega];rfl) ?_;refine B6 ((Hv n i:Nat):Int) (hb:=fun _=>zU n i) ?_;have hnib:=B0 n i;refine nF ((Hv n i:Nat):Int) (hb:=fun _=>IntWalk.u8_in _ ae) ?_;refine aq (hc:=h686 (Hv n i) hnib) ?_;refine jz (15-i) ?_;refine Ad ((ry n (i+1)).map fun b=>D.int .u8 b.toNat) (hi:=cz) (he:=by rw[FQ n i ae,getD_map ae];simp[sw,D.isAgg]) ?_;refine aU ?_;exact⟨i+1,ae,ae,(dn [(1,1)])⟩
 refine aB ?_;have h16:i=16:=ae;subst h16;refine aS ?_;refine Ac (gv n) (he:=fun _=>sC.all ah (by simp[pk])) (hs:=fun _=>by rw[FP]) ?_;refine aB ?_;exact cD rfl
def OR (Y:Ctx):Prop:=∀(n:Int),Y.pre 497 [.int .u64 n]/\Y.val 497 [.int .u64 n]=.str (gv n)
def zF:aC:=⟨2,10,[⟨2,none⟩],[[.sl 1 [.a]]],(sq (r1 [gm (.c (.aV))] 2 0) (sq (r1 [gm (.c (.aV))] 8 0) (sq (r1 [gm bp] 9 0) (sq (sq (rg [gm s0,mE l0,gm bp] [(4,1),(3,2)]) (.block 0 (.loop (sq (r1 [aP s3 s4] 5 0) (sq (eN s5 0) (sq (.block 1 (sq (r1 [gm s3,gm l0] 6 1) (sq (r1 [gm s0,gm s6,C8 l0 l1,gm s1,aL l2 l3] 7 4) (.cond s7 (sq (r1 [gm s8,gm s0,gm s9,gm s6,gn (.slS l1 (some l2) (some l3)),gn (.bsl 1 (.str []) 1 [(0,l4)]),gn (.app 1 l0 l5),gm l6] 8 7) (r1 [gm s6,ax l0 cq,gm l1] 9 2)) .skip)))) (r1 [ax s3 cq,gm l0] 3 1))))))) (sq (r1 [gm s8,gm s0,gm s9,gn (.slS l1 (some l2) none),gn (.bsl 1 (.str []) 1 [(0,l3)]),gn (.app 1 l0 l4),gm l5] 2 6) .ret)))))⟩
def w533 {Y:Ctx}(hm:(Y.at 0).bd)  (s:au)(b:Int)  (hp0:s.length<=1048576):dd Y zF (.sl 1 ((ar s b).map D.str)) [.str s,.int .u8 b]:=by
 show bH _ _ _ [⟨_,_⟩,⟨_,_⟩,_,_,_,_,_,_,_,_] _;refine ak ?_;refine gW ?_;intro u0;refine aA ?_;refine bh hm (ι:=(Nat×Nat×List au)) (fun p:Nat×Nat×List au=>[⟨true,.str s⟩,⟨true,.int .u8 b⟩,.un,⟨true,.int .i64 (p.1:Nat)⟩,⟨true,.int .i64 (s.length:Nat)⟩,.un,.un,.un,⟨true,.own 0 1 0 p.2.2.length⟩,⟨true,.int .i64 (p.2.1:Nat)⟩]) (fun p=>[(0,.buf 1 (p.2.2.map D.str))]) 6 (fun p=>p.1<=s.length/\p.2.1<=p.1/\p.2.2.length<=p.1/\ar s b=p.2.2++ch b (s.drop p.1) ((s.take p.1).drop p.2.1)) (fun p=>s.length-p.1) (0,0,[]) ⟨aT,aT,aT,rfl⟩ (bj.to [] ah ah (by repeat(first|exact c9.nil|refine c9.un ?_|refine c9.eq ah ?_|refine c9.nl ah ah ?_|refine c9.ni (Or.inr ⟨0,1,0,rfl⟩) ?_)) (by repeat(first|exact ba.nil|refine ba.mt ah ah ah ah ?_))) ?_;rintro⟨i,fr,acc⟩ ⟨hi,hf,ha,hr⟩;dsimp only at hi hf ha hr⊢;refine aB ?_;refine cw (fun hc0=>?_) fun hc0=>?_
 ·refine lJ ?_;refine wp_cond (fun hc1=>?_) (fun hc1=>?_)
  ·try simp only[fu]at hc1
   refine aI ?_;refine ve _ _ ?_;refine dK [(.str _)] ?_;refine A8 ?_;exact⟨(i+1,i+1,acc++[(s.take i).drop fr]),⟨eB,eB,cz,by rw[hr,xq ae hc1];simp⟩,eB,(bj.to [(20,0)] ah ah J9 (by refine ba.nl 20 ah ah ah dm ?_;exact ba.nil))⟩
  simp only[bx]at hc1;refine aU ?_;exact⟨(i+1,fr,acc),⟨eB,eB,eB,by rw[hr,xr ae ae hc1]⟩,eB,(bj.to [(0,0)] ah ah J9 (by refine ba.nl 0 ah ah ah dm ?_;exact ba.nil))⟩
 refine aF ?_;refine ix _ ?_;refine dK [(.str _)] ?_;refine aB ?_;refine lI 12 ?_;refine aS ?_;refine bO (?_);have hs:ar s b=acc++[s.drop fr]:=by rw[hr,vw ae]
 rw[hs];exact rfl
def Gb (Y:Ctx):Prop:=∀(s:au)(b:Int),(s.length<=1048576)->Y.pre 533 [.str s,.int .u8 b]/\Y.val 533 [.str s,.int .u8 b]=.sl 1 ((ar s b).map D.str)
def tu:aC:=⟨1,7,fM,bM,(sq (r1 [gm dt] 1 0) (sq (sq (rg [gm s0,mE l0,gm bp] [(3,1),(2,2)]) (.block 0 (.loop (sq (r1 [aP s2 s3] 4 0) (sq (eN s4 0) (sq (.block 1 (sq (r1 [gm s2,gm l0] 5 1) (sq (r1 [gm s0,gm s5,C8 l0 l1,aP l2 (i8 48),gm l3,eC 4 s0,eC 4 s5,cl 4 (.ixS l5 l6),cl 4 (dE l7 (i8 57)),eK l4 l8] 6 9) (jG s6 dt)))) (r1 [ax s2 cq,gm l0] 2 1))))))) (sq (r1 [gm s0,cg l0 cse,gm l1] 1 2) .ret)))⟩
def w659 {Y:Ctx}(hm:(Y.at 0).bd)  (t:au)   :dd Y tu (.bool (b6 t)) [.str t]:=by
 show bH _ _ _ [⟨_,_⟩,_,_,_,_,_,_] _;refine ak ?_;refine aF ?_;intro u0;refine aA ?_;refine bh hm (ι:=Nat) (fun i=>[⟨true,.str t⟩,.un,⟨true,.int .i64 (i:Nat)⟩,⟨true,.int .i64 (t.length:Nat)⟩,.un,.un,.un]) (fun i=>[]) 4 (fun i=>i<=t.length/\cr (fun i=>bg (at8 t i)) 0 t.length=cr (fun i=>bg (at8 t i)) i t.length) (fun i=>t.length-i) 0 ⟨ae,rfl⟩ (dn []) ?_;rintro i ⟨hi,hr⟩;refine aB ?_;refine cw (fun hc0=>?_) fun hc0=>?_
 ·refine Lk ?_;refine eP (fun hc1=>?_) fun hc1=>?_
  ·refine aF ?_;refine bF ?_;simp only[b6];rw[hr,aK ae];rcases hc1 with h|h<;>simp[bg]<;>omega
  refine aU ?_;exact⟨i+1,⟨ae,by rw[hr,aK ae];rw[show bg (at8 t i)=true by simp only[bg,aZ,aR];omega];rfl⟩,ae,(dn [])⟩
 refine bP ?_;refine bF ?_;simp only[b6];rw[hr,bV ae];cases t<;>simp
def LD (Y:Ctx):Prop:=∀(t:au),Y.pre 659 [.str t]/\Y.val 659 [.str t]=.bool (b6 t)
def yX:aC:=⟨1,2,fM,bM,(sq (r1 [gm dt] 1 0) (sq (r1 [gm s0,gB l0 bp,gm l1,gmt 2 s0,ca 2 (kB l3 (i6 9999)),ew l2 l4,gm l5] 1 6) .ret))⟩
def w440 {Y:Ctx}(hm:(Y.at 0).bd)  (n:Int)   :dd Y yX (.bool (kN n)) [.int .i64 n]:=by
 show bH _ _ _ [⟨_,_⟩,_] _;refine ak ?_;refine gW ?_;exact bF rfl
def Ot (Y:Ctx):Prop:=∀(n:Int),Y.pre 440 [.int .i64 n]/\Y.val 440 [.int .i64 n]=.bool (kN n)
def yY:aC:=⟨1,15,fM,bM,(sq (r1 [gm dt] 1 0) (sq (r1 [gm s0,gx 533 [l0,(i8 46)] fV,gm l1] 2 2) (sq (r1 [gm s2,gl l0,yu l1 tg,gm l2] 14 3) (sq .skip (sq (sq (rg [gm s2,gl l0,gm bp] [(6,0),(4,1),(3,2)]) (.block 0 (.loop (sq (r1 [aP s3 s4] 5 0) (sq (eN s5 0) (sq (.block 1 (sq (r1 [ga 1 s6 s3,gd l0,gm l1] 7 2) (sq (sq (r1 [gm s7,aL l0 cse,gm l1,eC 2 s7,cl 2 (.lenS l3),cl 2 (dE l4 BJ),eK l2 l5] 8 6) (.cond s8 (sq (r1 [gm dt] 14 0) (.exit 0)) .skip)) (sq (r1 [gm s7,gn (.nT l0)] 9 1) (.block 2 (.loop (sq (rg [gn (.vU s9),ge l0 0] [(11,0),(10,1)]) (sq (eN iP 2) (.block 3 (sq (r1 [ge kp 2,gm l0] 12 1) (sq (r1 [gm mS,aP l0 (i3 97),gm l1,eC 2 mS,cl 2 (dE l3 (i3 122)),eK l2 l4,gm l5,gmt 6 mS,ca 6 (qH l7 (i3 48)),gmt 6 l8,eC 9 mS,cl 9 (dE l10 (i3 57)),MD 6 l9 im,ew l6 js,gm ki,gmt 14 mS,ca 14 (eW me (i3 45)),ew kW ng] 13 17) (.cond qp (sq (r1 [gm dt] 14 0) (.exit 0)) .skip)))))))))))) (r1 [ax s3 cq,gm l0] 3 1))))))) (sq (r1 [gm tq,gm l0] 1 1) .ret))))))⟩
def w442 {Y:Ctx}(hm:(Y.at 0).bd)(h533:Gb Y)(s:au)  (hp0:s.length<=1048576):dd Y yY (.bool (kF s false)) [.str s]:=by
 show bH _ _ _ [⟨_,_⟩,_,_,_,_,_,_,_,_,_,_,_,_,_,_] _;refine ak ?_;refine aE ?_;refine aq (hc:=h533 _ _ ?_) ?_;rotate_left;first|assumption|omega;have hlen:=er s 46
 refine aI ?_;intro u0;refine bP ?_;intro u1;refine aA ?_;refine bh hm (ι:=Nat) (fun i=>[.un,.un,⟨true,.sl 1 ((ar s 46).map D.str)⟩,⟨true,.int .i64 (i:Nat)⟩,⟨true,.int .i64 ((ar s 46).length:Nat)⟩,.un,⟨true,.sl 1 ((ar s 46).map D.str)⟩,.un,.un,.un,.un,.un,.un,.un,⟨true,.bool (decide (((ar s 46).length:Int)<=4))⟩]) (fun i=>[]) 11 (fun i=>i<=(ar s 46).length/\kF s false=(decide ((ar s 46).length<=4)&&cr (fun i=>gu false (ar s 46)[i]!) i (ar s 46).length)) (fun i=>(ar s 46).length-i) 0 ⟨ae,rfl⟩ (dn []) ?_;rintro i ⟨hi,hr⟩;refine aB ?_;refine cw (fun hc0=>?_) fun hc0=>?_
 ·refine cU ?_;generalize ht:(ar s 46)[i]! =t;refine aE ?_;refine kd ?_;refine aB ?_;refine cw (fun hc1=>?_) fun hc1=>?_
  ·refine gW ?_;refine bF ?_;first
    |(rw[hr,bV ae,jr];exact dz.2 ae)
    |(have hb:nR t=false:=by
       first
       |(simp only[nR];rcases hc1 with h|h
         ·subst h;simp
         ·rw[cj (by omega:¬t.length<=8)];simp)
       |(have hz:k9 (at8 t j)=false:=by
          rcases hcw with⟨_,h,_⟩|⟨_,h⟩<;>(simp only[k9,gO,bg,dc,dr,bx];omega)
         rw[hj,aK hnx,hz];rfl)
      rw[hr,aK ae,show gu false (ar s 46)[i]! =false from(by simp only[gu,ht,hb,Bool.false_and])];simp)
  refine aI ?_;have hT:nR t=cr (fun i=>k9 (at8 t i)) 0 t.length:=by
   have:=List.length_pos_iff.2 hc1.1;simp only[nR];rw[bD ae,bD ae];rfl
  refine lW hm (ι:=Nat) (fun j=>[.un,.un,⟨true,.sl 1 ((ar s 46).map D.str)⟩,⟨true,.int .i64 (i:Nat)⟩,⟨true,.int .i64 ((ar s 46).length:Nat)⟩,.un,⟨true,.sl 1 ((ar s 46).map D.str)⟩,.un,.un,⟨true,.it 23⟩,.un,.un,.un,.un,⟨true,.bool (decide (((ar s 46).length:Int)<=4))⟩]) (fun j=>[(23,.iter t j)]) 24 (fun j=>j<=t.length/\nR t=cr (fun i=>k9 (at8 t i)) j t.length) (fun j=>t.length-j) 0 ⟨ae,hT⟩ (dn [(23,23)]) ?_;rintro j ⟨hj0,hj⟩;refine aS ?_;by_cases hnx:j<t.length
  ·obtain⟨c,w,hdec,hw,hcw⟩:=qP t j hnx;refine yG c w (hp:=hnx) (hc:=hdec) ?_;refine aA ?_;refine aw (t:=true) (fun _=>?_) (fun h=>by cases h);refine Se ?_;refine eP (fun hc3=>?_) fun hc3=>?_
   ·refine lJ ?_;refine bF ?_;first
     |(rw[hr,bV ae,jr];exact dz.2 ae)
     |(have hb:nR t=false:=by
        first
        |(simp only[nR];rcases hc1 with h|h
          ·subst h;simp
          ·rw[cj (by omega:¬t.length<=8)];simp)
        |(have hz:k9 (at8 t j)=false:=by
           rcases hcw with⟨_,h,_⟩|⟨_,h⟩<;>(simp only[k9,gO,bg,dc,dr,bx];omega)
          rw[hj,aK hnx,hz];rfl)
       rw[hr,aK ae,show gu false (ar s 46)[i]! =false from(by simp only[gu,ht,hb,Bool.false_and])];simp)
   refine aB ?_;obtain⟨rfl,hat,-⟩:w=1/\(c:Int)=at8 t j/\c<128:=by
    rcases hcw with h|h
    ·exact h
    ·omega
   have hz:k9 (at8 t j)=true:=by
    simp only[k9,gO,bg,cu,aZ,aR];omega
   exact⟨j+1,⟨ae,by rw[hj,aK hnx,hz];rfl⟩,ae,(dn [(23,23)])⟩
  ·refine yF (hp:=hnx) ?_;refine aA ?_;refine aw (t:=false) (fun h=>by cases h) (fun _=>?_);refine bP ?_;exact⟨i+1,⟨ae,by rw[hr,aK ae];rw[show gu false (ar s 46)[i]! =true from(by simp only[gu,Bool.false_and,Bool.not_false,jr];rw[ht,hj,bV ae])];rfl⟩,ae,(dn [])⟩
 refine aU ?_;refine bF ?_;first
  |(rw[hr,bV ae,jr];exact dz.2 ae)
  |(have hb:nR t=false:=by
     first
     |(simp only[nR];rcases hc1 with h|h
       ·subst h;simp
       ·rw[cj (by omega:¬t.length<=8)];simp)
     |(have hz:k9 (at8 t j)=false:=by
        rcases hcw with⟨_,h,_⟩|⟨_,h⟩<;>(simp only[k9,gO,bg,dc,dr,bx];omega)
       rw[hj,aK hnx,hz];rfl)
    rw[hr,aK ae,show gu false (ar s 46)[i]! =false from(by simp only[gu,ht,hb,Bool.false_and])];simp)
def Lw (Y:Ctx):Prop:=∀(s:au),(s.length<=1048576)->Y.pre 442 [.str s]/\Y.val 442 [.str s]=.bool (kF s false)
def Om (Y:Ctx):Prop:=∀(n:Int),(0<=n/\n<=9999)->Y.pre 336 [.int .i64 n]/\Y.val 336 [.int .i64 n]=.str (dw n.toNat)
def I0 (Y:Ctx):Prop:=∀(l:List au)(sep:au),(l.length<=1048600)->(sep.length<=4)->(∀t∈l,t.length<=2097200)->Y.pre 242 [.sl 1 (l.map D.str),.str sep]/\Y.val 242 [.sl 1 (l.map D.str),.str sep]=.str (bc sep l)
def IZ (Y:Ctx):Prop:=∀(s:au)(b:UInt8),(s.length<=1048576)->Y.pre 124 [.str s,.str [b]]/\Y.val 124 [.str s,.str [b]]=.sl 1 ((ar s b.toNat).map D.str)
def OO (Y:Ctx):Prop:=∀(s:au)(b:UInt8),(s.length<=1048576)->Y.pre 487 [.str s,.str [b]]/\Y.val 487 [.str s,.str [b]]=.tup [.str (fE s b).1,.str (fE s b).2.1,.bool (fE s b).2.2]
def Lv (Y:Ctx):Prop:=∀(s:au)(p:au),(s.length<=1048576)->(p.length<=1048576)->Y.pre 254 [.str s,.str p]/\Y.val 254 [.str s,.str p]=.tup [.str (cO s p).1,.bool (cO s p).2]
def A1:aC:=⟨1,10,fM,bM,(sq (r1 [gm dt] 1 0) (sq (sq (r1 [gm s0,gx 442 [l0] bM,jx l1] 2 2) (jG s2 dt)) (sq (sq (rg [gm s0,gx 533 [l0,(i8 46)] fV,gl l1,gm bp] [(6,1),(4,2),(3,3)]) (.block 0 (.loop (sq (r1 [aP s3 s4] 5 0) (sq (eN s5 0) (sq (.block 1 (sq (r1 [ga 1 s6 s3,gd l0,gm l1] 7 2) (sq (r1 [gm s7,gx 658 [l0] bM,gm l1,ge l2 0,ge l2 1,gm l3,gm l4] 8 6) (sq (r1 [gm s7,gx 659 [l0] bM,gm l1,gmt 2 s8,ca 2 (.un .not l3),ew l2 l4] 9 5) (jG s9 dt))))) (r1 [ax s3 cq,gm l0] 3 1))))))) (te px))))⟩
def w441 {Y:Ctx}(hm:(Y.at 0).bd)(h442:Lw Y)(h533:Gb Y)(h658:I6 Y)(h659:LD Y)(s:au)  (hp0:s.length<=1048576):dd Y A1 (.bool (kF s true)) [.str s]:=by
 show bH _ _ _ [⟨_,_⟩,_,_,_,_,_,_,_,_,_] _;refine ak ?_;refine aI ?_;refine aq (hc:=h442 _ ?_) ?_;rotate_left;first|assumption|omega
 refine aA ?_;refine aw (fun hc0=>?_) (fun hc0=>?_)
 ·simp only[bB]at hc0;refine aI ?_;refine bF ?_;symm;simp only[kF]at hc0⊢;rw[dr]at hc0⊢;rcases hc0 with h|h
  ·exact Or.inl h
  ·right;rw[Bool.eq_false_iff]at h⊢;intro h2;apply h;rw[fX]at h2⊢;intro j a b;have:=h2 j a b;simp only[gu,aZ]at this⊢;exact⟨this.1,rfl⟩
 simp only[bY]at hc0;refine aE ?_;refine aq (hc:=h533 _ _ ?_) ?_;rotate_left;first|assumption|omega;have hlen:=er s 46
 refine aS ?_;intro u0;refine aA ?_;have hT:=hc0;simp only[kF,aZ,aR]at hT;obtain⟨hT4,hTa⟩:=hT;rw[fX]at hTa;have hP:kF s true=cr (fun i=>gu true (ar s 46)[i]!) 0 (ar s 46).length:=by
  simp only[kF];rw[bD hT4];rfl
 refine bh hm (ι:=Nat) (fun i=>[.un,.un,.un,⟨true,.int .i64 (i:Nat)⟩,⟨true,.int .i64 ((ar s 46).length:Nat)⟩,.un,⟨true,.sl 1 ((ar s 46).map D.str)⟩,.un,.un,.un]) (fun i=>[]) 8 (fun i=>i<=(ar s 46).length/\kF s true=cr (fun i=>gu true (ar s 46)[i]!) i (ar s 46).length) (fun i=>(ar s 46).length-i) 0 ⟨ae,hP⟩ (dn []) ?_;rintro i ⟨hi,hr⟩;refine aB ?_;refine cw (fun hc1=>?_) fun hc1=>?_
 ·refine cU ?_;refine aq (hc:=h658 _) ?_;refine bP ?_;refine aq (hc:=h659 _) ?_;refine aI ?_;refine wp_cond (fun hc2=>?_) (fun hc2=>?_)
  ·skip
   refine aF ?_;refine bF ?_;have hz:gu true (ar s 46)[i]! =false:=by
    simp only[gu];revert hc2;generalize nR (ar s 46)[i]! =c;generalize b6 (ar s 46)[i]! =a;generalize gp (ar s 46)[i]! =b;cases a<;>cases b<;>cases c<;>simp
   rw[hr,aK ae,hz];rfl
  skip
  refine aU ?_;have hz:gu true (ar s 46)[i]! =true:=by
   have:=hTa i ae ae;simp only[gu,Bool.false_and,Bool.not_false,jr]at this;simp only[gu,this];revert hc2;generalize b6 (ar s 46)[i]! =a;generalize gp (ar s 46)[i]! =b;cases a<;>cases b<;>simp
  exact⟨i+1,⟨ae,by rw[hr,aK ae,hz];rfl⟩,ae,(dn [])⟩
 refine aF ?_;refine bF ?_;rw[hr,bV ae]
def Ou (Y:Ctx):Prop:=∀(s:au),(s.length<=1048576)->Y.pre 441 [.str s]/\Y.val 441 [.str s]=.bool (kF s true)
def A0:aC:=⟨1,3,fM,bM,(sq (rg [gb 5 s0,gm dt] [(2,0),(1,1)]) (sq (r1 [gf 0 s2,gd l0,gx 440 [l1] bM,gm l2,lr 3 1 s2,ke 3 l4,ca 3 (.call 440 [l5] bM),ew l3 l6,gm l7,lr 8 2 s2,ke 8 l9,ca 8 (.call 440 [l10] bM),ew l8 im,gm js,lr 13 3 s2,ke 13 kW,ca 13 (cM me cse),gmt 13 ng,hZ 17 3 s2,iT 17 qB,cl 17 (.call 441 [rA] bM),MD 13 pJ vT,ew ki wW,gm yo,lr 23 4 s2,ke 23 BM,ca 23 (cM EL cse),gmt 23 Hk,hZ 27 4 s2,iT 27 K7,cl 27 (.call 442 [K8] bM),MD 23 JU NL,ew Bd l31,gm l32] 1 33) .ret))⟩
def w209 {Y:Ctx}(hm:(Y.at 0).bd)(h440:Ot Y)(h441:Ou Y)(h442:Lw Y)(v:bX)  (hp0:v.sm):dd Y A0 (.bool (eF v)) [bX.D v]:=by
 show bH _ _ _ [⟨_,_⟩,_,_] _;refine ak ?_;refine aF ?_;refine aq (hc:=h440 _) ?_;refine aB ?_;refine aq (hc:=h440 _) ?_;refine aE ?_;refine aq (hc:=h440 _) ?_;refine bP ?_;refine dq (hc:=fun hf=>h441 v.pre hp0.1) ?_;refine cU ?_;refine dq (hc:=fun hf=>h442 v.build hp0.2) ?_;refine aI ?_;exact bF rfl
def D1 (Y:Ctx):Prop:=∀(v:bX),(v.sm)->Y.pre 209 [bX.D v]/\Y.val 209 [bX.D v]=.bool (eF v)
def yi:aC:=⟨1,2,fM,bM,(sq (r1 [gm cse] 1 0) (sq (r1 [gm s0,gx 336 [l0] bM,gm l1] 1 2) .ret))⟩
def w665 {Y:Ctx}(hm:(Y.at 0).bd)(h336:Om Y)(n:Int)  (hp0:0<=n/\n<=9999):dd Y yi (.str (dw n.toNat)) [.int .i64 n]:=by
 show bH _ _ _ [⟨_,_⟩,_] _;refine ak ?_;refine aE ?_;refine aq (hc:=h336 _ ?_) ?_;rotate_left;first|assumption|omega
 refine aB ?_;exact cD rfl
def LJ (Y:Ctx):Prop:=∀(n:Int),(0<=n/\n<=9999)->Y.pre 665 [.int .i64 n]/\Y.val 665 [.int .i64 n]=.str (dw n.toNat)
def wy:aC:=⟨1,7,fM,bM,(sq (rg [gb 5 s0,gm cse] [(2,0),(1,1)]) (sq (sq (r1 [gk 5 true s2,gx 209 [l0] wg,jx l1] 3 2) (jG s3 cse)) (sq (r2 [gf 0 s2,gd l0,gx 665 [l1] bM,ax l2 (cs [46]),gf 1 s2,gd l4,gx 665 [l5] bM,ax l3 l6,ax l7 (cs [46]),gf 2 s2,gd l9,gx 665 [l10] bM,ax l8 im,gm js] 5 13) (sq (sq (r1 [gf 3 s2,gd l0,cg l1 cse] 4 2) (.cond s4 (r1 [gm s5,gf 3 s2,gd l1,ax (cs [45]) l2,ax l0 l3,gm l4] 5 5) .skip)) (sq (sq (r1 [gf 4 s2,gd l0,cg l1 cse] 6 2) (.cond s6 (r1 [gm s5,gf 4 s2,gd l1,ax (cs [43]) l2,ax l0 l3,gm l4] 5 5) .skip)) (sq (r1 [gm s5,gm l0] 1 1) .ret))))))⟩
def w451 {Y:Ctx}(hm:(Y.at 0).bd)(h209:D1 Y)(h665:LJ Y)(v:bX)  (hp0:v.sm):dd Y wy (.str (kR v)) [bX.D v]:=by
 show bH _ _ _ [⟨_,_⟩,_,_,_,_,_,_] _;obtain⟨hs1,hs2⟩:=hp0;have hp0:v.sm:=⟨hs1,hs2⟩;refine ak ?_;refine aF ?_;refine aq (hc:=h209 _ ?_) ?_;rotate_left;first|assumption|omega
 refine aA ?_;refine aw (fun hc0=>?_) (fun hc0=>?_)
 ·simp only[bB]at hc0;refine aI ?_;refine cD ?_;simp[kR,hc0]
 simp only[bY]at hc0;refine aA ?_;have hv:=hc0;simp only[eF,aZ]at hv;obtain⟨⟨⟨⟨hv1,hv2⟩,hv3⟩,_⟩,_⟩:=hv;have hq1:=hv1;have hq2:=hv2;have hq3:=hv3;simp only[kN,aZ,aR]at hq1 hq2 hq3;have hl1:=dT 4 v.major.toNat ae ae;have hl2:=dT 4 v.minor.toNat ae ae;have hl3:=dT 4 v.patch.toNat ae ae;refine aA ?_;refine aq (hc:=h665 _ ?_) ?_;rotate_left;first|assumption|omega
 refine df (hb:=fun _=>cz) ?_;refine aA ?_;refine aq (hc:=h665 _ ?_) ?_;rotate_left;first|assumption|omega
 refine df (hb:=fun _=>cz) ?_;refine df (hb:=fun _=>cz) ?_;refine aA ?_;refine aq (hc:=h665 _ ?_) ?_;rotate_left;first|assumption|omega
 refine df (hb:=fun _=>cz) ?_;refine bP ?_;refine cw (fun hc1=>?_) fun hc1=>?_
 ·refine aE ?_;refine df (hb:=fun _=>cz) ?_;refine df (hb:=fun _=>cz) ?_;refine bP ?_;refine cw (fun hc2=>?_) fun hc2=>?_
  ·refine aE ?_;refine df (hb:=fun _=>cz) ?_;refine df (hb:=fun _=>cz) ?_;refine aU ?_;refine cD ?_;simp[kR,vH,hc0,hc1,hc2]
  refine aF ?_;refine cD ?_;simp[kR,vH,hc0,hc1,hc2]
 refine aU ?_;refine cw (fun hc2=>?_) fun hc2=>?_
 ·refine aE ?_;refine df (hb:=fun _=>cz) ?_;refine df (hb:=fun _=>cz) ?_;refine aU ?_;refine cD ?_;simp[kR,vH,hc0,hc1,hc2]
 refine aF ?_;refine cD ?_;simp[kR,vH,hc0,hc1,hc2]
def OC (Y:Ctx):Prop:=∀(v:bX),(v.sm)->Y.pre 451 [bX.D v]/\Y.val 451 [bX.D v]=.str (kR v)
def nk:aC:=⟨2,4,[⟨2,none⟩],bM,(sq (r1 [gm (iu 0)] 2 0) (sq (r1 [gm s1,gn (.cvi .u64 l0),BW l1 (iu 63),gm l2] 3 3) (sq (r1 [gm s0,gm s3,gn (.bin .shl l0 l1),gm s0,gm s3,ep (iu 64) l4,gn (.bin .shr l3 l5),Dp l2 l6,gm l7] 2 8) .ret)))⟩
def w463 {Y:Ctx}(hm:(Y.at 0).bd)  (h:Int)(k:Nat)  (hp0:k=13):dd Y nk (.int .u64 (Kl h k)) [.int .u64 h,.int .i64 (k:Nat)]:=by
 show bH _ _ _ [⟨_,_⟩,⟨_,_⟩,_,_] _;subst hp0;refine ak ?_;refine aE ?_;refine nF 13 (hb:=fun _=>by rw[IntKind.wrap_u64];rfl) ?_;refine B6 13 (hb:=fun _=>by rw[IntKind.wrap_u64];rfl) ?_;refine aI ?_;refine DF (xm h 13) (hb:=fun _=>by rw[show min (Int.toNat (13:Int)) (IntKind.bits .u64)=13 by simp[IntKind.bits]];rfl) ?_;refine aA ?_;refine qi 51 (hb:=fun _=>by rw[IntKind.wrap_u64];rfl) ?_;refine xh (pL h 51) (hb:=fun _=>by rw[show min (Int.toNat (51:Int)) (IntKind.bits .u64)=51 by simp[IntKind.bits]];rfl) ?_;refine DC (Kl h 13) (hb:=fun _=>rfl) ?_;refine aB ?_;refine bO (aj (D.int .u64) ?_);rfl
def OM (Y:Ctx):Prop:=∀(h:Int)(k:Nat),(k=13)->Y.pre 463 [.int .u64 h,.int .i64 (k:Nat)]/\Y.val 463 [.int .u64 h,.int .i64 (k:Nat)]=.int .u64 (Kl h k)
def By:aC:=⟨1,8,fM,bM,(sq (r1 [gm (iu 0)] 1 0) (sq (r1 [gm (iu 11400714819323198485)] 6 0) (sq (sq (rg [gm s0,gl l0,gm bp] [(5,0),(3,1),(2,2)]) (.block 0 (.loop (sq (r1 [aP s2 s3] 4 0) (sq (eN s4 0) (sq (.block 1 (sq (r1 [ga 1 s5 s2,gd l0,gm l1] 7 2) (r1 [gm s6,gm s7,gn (.cvi .u64 l1),gn (.bin .xor l0 l2),gx 463 [l3,(i6 13)] fV,gn (.bin .mul l4 (iu 18397679294719823053)),gm l5] 6 6))) (r1 [ax s2 cq,gm l0] 2 1))))))) (sq (r1 [gm s6,gm s6,gn (.bin .shr l1 (iu 29)),gn (.bin .xor l0 l2),gm l3] 1 4) .ret))))⟩
def w220 {Y:Ctx}(hm:(Y.at 0).bd)(h463:OM Y)(s:au)   :dd Y By (.int .u64 (vA s)) [.sl 1 ((s).map fun b=>D.int .u8 b.toNat)]:=by
 show bH _ _ _ [⟨_,_⟩,_,_,_,_,_,_,_] _;refine ak ?_;refine cU ?_;intro u0;refine aA ?_;refine bh hm (ι:=Nat) (fun i=>[.un,.un,⟨true,.int .i64 (i:Nat)⟩,⟨true,.int .i64 (s.length:Nat)⟩,.un,⟨true,.sl 1 (s.map fun b=>D.int .u8 b.toNat)⟩,⟨true,.int .u64 (sy (s.take i))⟩,.un]) (fun i=>[]) 5 (fun i=>i<=s.length) (fun i=>s.length-i) 0 ae (dn []) ?_;intro i hi;refine aB ?_;refine cw (fun hc0=>?_) fun hc0=>?_
 ·refine aE ?_;refine cy (v:=.int .u8 (at8 s i)) (hv:=fun _=>ld8 s i) ?_;refine aI ?_;refine nF (at8 s i) (hb:=fun _=>by have:=rH s i;rw[IntKind.wrap_u64];omega) ?_;refine yD (vM (sy (s.take i)) (at8 s i)) (hb:=fun _=>rfl) ?_;refine aq (hc:=h463 _ 13 rfl) ?_;refine H8 (sy (s.take (i+1))) (hb:=fun _=>by rw[xz s i ae];rfl) ?_;refine bP ?_;exact⟨i+1,ae,ae,(dn [])⟩
 refine aB ?_;have ht:s.take i=s:=dQ ae;rw[ht];refine aA ?_;refine xh (pL (sy s) 29) (hb:=fun _=>rfl) ?_;refine yD (vA s) (hb:=fun _=>rfl) ?_;refine aB ?_;refine bO (aj (D.int .u64) ?_);rfl
def Ob (Y:Ctx):Prop:=∀(s:au),Y.pre 220 [.sl 1 ((s).map fun b=>D.int .u8 b.toNat)]/\Y.val 220 [.sl 1 ((s).map fun b=>D.int .u8 b.toNat)]=.int .u64 (vA s)
def Ck:aC:=⟨1,4,fM,bM,(sq (r1 [gm cse] 1 0) (sq (r1 [gm s0,gn (.bin .rem l0 (iu 10)),gn (.cvi .u8 l1),ax (i8 48) l2,gn (.bsl 1 (.int .u8 0) 1 [(0,l3)]),gn (.b2s l4),gm l5] 3 6) (sq (.block 0 (.loop (sq (sq (r1 [gm s0,cH l0 (iu 9)] 2 1) (eN s2 0)) (.block 1 (sq (r1 [gm s0,gn (.bin .quo l0 (iu 10)),gm l1] 0 2) (r1 [gm s0,gn (.bin .rem l0 (iu 10)),gn (.cvi .u8 l1),ax (i8 48) l2,gn (.bsl 1 (.int .u8 0) 1 [(0,l3)]),gn (.b2s l4),gm s3,ax l5 l6,gm l7] 3 8)))))) (sq (r1 [gm s3,gm l0] 1 1) .ret))))⟩
def w882 {Y:Ctx}(hm:(Y.at 0).bd)  (n:Nat)  (hp0:n<=9999):dd Y Ck (.str (dw n)) [.int .u64 (n:Nat)]:=by
 show bH _ _ _ [⟨_,_⟩,_,_,_] _;refine ak ?_;refine aE ?_;refine Lc ((n%10:Nat):Int) (hn:=by intro _;omega) (hb:=fun _=>rfl) ?_;refine nF ((n%10:Nat):Int) (hb:=fun _=>IntWalk.u8_in _ ae) ?_;refine oB (((dg (n%10)).toNat:Nat):Int) (hb:=fun _=>by rw[GQ ae];exact IntWalk.u8_in _ ae) ?_;refine dK [.int .u8 _] ?_;refine Ac [dg (n%10)] (he:=fun _=>sC.all ah rfl) (hs:=fun _=>rfl) ?_;refine aA ?_;have h0:dw n=(if n<10 then []else dw (n/10))++[dg (n%10)]:=by
  split
  ·rename_i h;rw[oZ h,Nat.mod_eq_of_lt h];rfl
  ·rw[oY ae]
 refine bh hm (ι:=(Nat×au)) (fun p=>[⟨true,.int .u64 (p.1:Nat)⟩,.un,.un,⟨true,.str p.2⟩]) (fun p=>[]) 8 (fun p=>p.1<=9999/\p.2.length<=9999-p.1+1/\dw n=(if p.1<10 then []else dw (p.1/10))++p.2) (fun p=>p.1) (n,[dg (n%10)]) ⟨hp0,aT,h0⟩ (dn []) ?_;rintro⟨k,s⟩ ⟨hk,hs,hr⟩;dsimp only at hk hs hr⊢;refine aI ?_;refine cw (fun hc0=>?_) fun hc0=>?_
 ·refine aE ?_;refine RA ((k/10:Nat):Int) (hn:=by intro _;omega) (hb:=fun _=>by rw[show((k:Int).tdiv 10)=((k/10:Nat):Int)from rfl,IntKind.wrap_u64];omega) ?_;refine aE ?_;refine Lc (((k/10)%10:Nat):Int) (hn:=by intro _;omega) (hb:=fun _=>rfl) ?_;refine nF (((k/10)%10:Nat):Int) (hb:=fun _=>IntWalk.u8_in _ ae) ?_;refine oB (((dg ((k/10)%10)).toNat:Nat):Int) (hb:=fun _=>by rw[GQ ae];exact IntWalk.u8_in _ ae) ?_;refine dK [.int .u8 _] ?_;refine Ac [dg ((k/10)%10)] (he:=fun _=>sC.all ah rfl) (hs:=fun _=>rfl) ?_;refine aS ?_;refine df (hb:=fun _=>cz) ?_;refine aE ?_;have h1:dw n=(if k/10<10 then []else dw (k/10/10))++([dg (k/10%10)]++s):=by
   rw[hr,ai ae];split
   ·rename_i h;rw[oZ h,Nat.mod_eq_of_lt h];rfl
   ·rw[oY ae,dG]
  exact⟨(k/10,[dg (k/10%10)]++s),⟨eB,cz,h1⟩,eB,(dn [])⟩
 refine aU ?_;refine cD ?_;rw[hr,av ae];rfl
def Pu (Y:Ctx):Prop:=∀(n:Nat),(n<=9999)->Y.pre 882 [.int .u64 (n:Nat)]/\Y.val 882 [.int .u64 (n:Nat)]=.str (dw n)
def Aw:aC:=⟨1,3,fM,bM,(sq (r1 [gm cse] 1 0) (sq (sq (r1 [gm s0,aP l0 bp] 2 1) (.cond s2 (sq (r1 [gm s0,ax l0 cq,gn (.un .neg l1),gn (.cvi .u64 l2),ax l3 (iu 1),gx 882 [l4] bM,ax (cs [45]) l5,gm l6] 1 7) .ret) .skip)) (sq (r1 [gm s0,gn (.cvi .u64 l0),gx 882 [l1] bM,gm l2] 1 3) .ret)))⟩
def w734 {Y:Ctx}(hm:(Y.at 0).bd)(h882:Pu Y)(n:Int)  (hp0:0<=n/\n<=9999):dd Y Aw (.str (dw n.toNat)) [.int .i64 n]:=by
 show bH _ _ _ [⟨_,_⟩,_,_] _;refine ak ?_;refine aU ?_;refine cw (fun hc0=>?_) fun hc0=>?_
 ·omega
 refine aA ?_;obtain⟨k,rfl⟩:∃k:Nat,n=k:=⟨n.toNat,ae⟩
 refine aS ?_;refine nF (k:Int) (hb:=fun _=>by rw[IntKind.wrap_u64];omega) ?_;refine aq (hc:=h882 _ ?_) ?_;rotate_left;first|assumption|omega
 refine aB ?_;exact cD rfl
def LR (Y:Ctx):Prop:=∀(n:Int),(0<=n/\n<=9999)->Y.pre 734 [.int .i64 n]/\Y.val 734 [.int .i64 n]=.str (dw n.toNat)
def Ci:aC:=⟨2,8,[⟨2,none⟩],[[.sl 1 [.a]]],(sq (r1 [gm (.c (.aV))] 2 0) (sq (r1 [gm (.c (.aV))] 6 0) (sq (r1 [gm bp] 7 0) (sq (sq (r1 [gm bp] 3 0) (.block 0 (.loop (sq (sq (r1 [gm s3,gm s0,mE l1,aP l0 l2] 4 3) (eN s4 0)) (sq (.block 1 (sq (r1 [gm s0,gm s3,C8 l0 l1,gm s1,aL l2 l3] 5 4) (.cond s5 (sq (r1 [gm s6,gm s0,gm s7,gm s3,gn (.slS l1 (some l2) (some l3)),gn (.bsl 1 (.str []) 1 [(0,l4)]),gn (.app 1 l0 l5),gm l6] 6 7) (r1 [gm s3,ax l0 cq,gm l1] 7 2)) .skip))) (r1 [gm s3,ax l0 cq,gm l1] 3 2)))))) (sq (r1 [gm s6,gm s0,gm s7,gn (.slS l1 (some l2) none),gn (.bsl 1 (.str []) 1 [(0,l3)]),gn (.app 1 l0 l4),gm l5] 2 6) .ret)))))⟩
def w470 {Y:Ctx}(hm:(Y.at 0).bd)  (s:au)(b:Int)  (hp0:s.length<=1048576):dd Y Ci (.sl 1 ((ar s b).map D.str)) [.str s,.int .u8 b]:=by
 show bH _ _ _ [⟨_,_⟩,⟨_,_⟩,_,_,_,_,_,_] _;refine ak ?_;refine gW ?_;refine bh hm (ι:=(Nat×Nat×List au)) (fun p:Nat×Nat×List au=>[⟨true,.str s⟩,⟨true,.int .u8 b⟩,.un,⟨true,.int .i64 (p.1:Nat)⟩,.un,.un,⟨true,.own 0 1 0 p.2.2.length⟩,⟨true,.int .i64 (p.2.1:Nat)⟩]) (fun p=>[(0,.buf 1 (p.2.2.map D.str))]) 4 (fun p=>p.1<=s.length/\p.2.1<=p.1/\p.2.2.length<=p.1/\ar s b=p.2.2++ch b (s.drop p.1) ((s.take p.1).drop p.2.1)) (fun p=>s.length-p.1) (0,0,[]) ⟨aT,aT,aT,rfl⟩ (bj.to [] ah ah (by repeat(first|exact c9.nil|refine c9.un ?_|refine c9.eq ah ?_|refine c9.nl ah ah ?_|refine c9.ni (Or.inr ⟨0,1,0,rfl⟩) ?_)) (by repeat(first|exact ba.nil|refine ba.mt ah ah ah ah ?_))) ?_;rintro⟨i,fr,acc⟩ ⟨hi,hf,ha,hr⟩;dsimp only at hi hf ha hr⊢;refine aI ?_;intro u0;refine aA ?_;refine cw (fun hc0=>?_) fun hc0=>?_
 ·refine cU ?_;refine wp_cond (fun hc1=>?_) (fun hc1=>?_)
  ·try simp only[fu]at hc1
   refine aI ?_;refine ve _ _ ?_;refine dK [(.str _)] ?_;refine vP ?_;exact⟨(i+1,i+1,acc++[(s.take i).drop fr]),⟨eB,eB,cz,by rw[hr,xq ae hc1];simp⟩,eB,(bj.to [(19,0)] ah ah J9 (by refine ba.nl 19 ah ah ah dm ?_;exact ba.nil))⟩
  simp only[bx]at hc1;refine bP ?_;exact⟨(i+1,fr,acc),⟨eB,eB,eB,by rw[hr,xr ae ae hc1]⟩,eB,(bj.to [(0,0)] ah ah J9 (by refine ba.nl 0 ah ah ah dm ?_;exact ba.nil))⟩
 refine aF ?_;refine ix _ ?_;refine dK [(.str _)] ?_;refine aB ?_;refine lI 13 ?_;refine aS ?_;refine bO (?_);have hs:ar s b=acc++[s.drop fr]:=by rw[hr,vw ae]
 rw[hs];exact rfl
def Bi (Y:Ctx):Prop:=∀(s:au)(b:Int),(s.length<=1048576)->Y.pre 470 [.str s,.int .u8 b]/\Y.val 470 [.str s,.int .u8 b]=.sl 1 ((ar s b).map D.str)
def Ie:aC:=⟨1,2,fM,bM,(sq (r1 [gm dt] 1 0) (sq (r1 [gm s0,gB l0 (i8 97),gm l1,gmt 2 s0,ca 2 (kB l3 (i8 122)),ew l2 l4,gm l5] 1 6) .ret))⟩
def w453 {Y:Ctx}(hm:(Y.at 0).bd)  (c:Int)   :dd Y Ie (.bool (gO c)) [.int .u8 c]:=by
 show bH _ _ _ [⟨_,_⟩,_] _;refine ak ?_;refine gW ?_;exact bF rfl
def Lz (Y:Ctx):Prop:=∀(c:Int),Y.pre 453 [.int .u8 c]/\Y.val 453 [.int .u8 c]=.bool (gO c)
def Cj:aC:=⟨1,2,fM,bM,(sq (r1 [gm dt] 1 0) (sq (r1 [gm s0,gB l0 (i8 48),gm l1,gmt 2 s0,ca 2 (kB l3 (i8 57)),ew l2 l4,gm l5] 1 6) .ret))⟩
def w454 {Y:Ctx}(hm:(Y.at 0).bd)  (c:Int)   :dd Y Cj (.bool (bg c)) [.int .u8 c]:=by
 show bH _ _ _ [⟨_,_⟩,_] _;refine ak ?_;refine gW ?_;exact bF rfl
def I3 (Y:Ctx):Prop:=∀(c:Int),Y.pre 454 [.int .u8 c]/\Y.val 454 [.int .u8 c]=.bool (bg c)
def Fl:aC:=⟨1,6,fM,bM,(sq (r1 [gm dt] 1 0) (sq (sq (r1 [gm s0,mE l0,aP l1 cq,gm l2,eC 3 s0,cl 3 (.lenS l4),cl 3 (dE l5 (i6 12)),eK l3 l6] 2 7) (jG s2 dt)) (sq (sq (r1 [gm bp] 3 0) (.block 0 (.loop (sq (sq (r1 [gm s3,gm s0,mE l1,aP l0 l2] 4 3) (eN s4 0)) (sq (.block 1 (sq (r1 [gm s0,gm s3,C8 l0 l1,gx 453 [l2] bM,jx l3,gm l4,gmt 5 s0,gmt 5 s3,ca 5 (.ixS l6 l7),ca 5 (.call 454 [l8] bM),ca 5 (.un .not l9),ew l5 l10,gm im,gmt 12 s0,gmt 12 s3,ca 12 (.ixS ki kW),ca 12 (eW me (i8 95)),ew js ng] 5 17) (jG s5 dt))) (r1 [gm s3,ax l0 cq,gm l1] 3 2)))))) (te px))))⟩
def w357 {Y:Ctx}(hm:(Y.at 0).bd)(h453:Lz Y)(h454:I3 Y)(s:au)   :dd Y Fl (.bool (cb s)) [.str s]:=by
 show bH _ _ _ [⟨_,_⟩,_,_,_,_,_] _;refine ak ?_;refine aF ?_;intro u0;refine aB ?_;refine kd ?_;refine aB ?_;refine cw (fun hc0=>?_) fun hc0=>?_
 ·refine aI ?_;refine bF ?_;symm;simp only[cb,dr,bx];exact Or.inl ae
 refine aI ?_;refine bh hm (ι:=Nat) (fun i=>[⟨true,.str s⟩,.un,.un,⟨true,.int .i64 (i:Nat)⟩,.un,.un]) (fun i=>[]) 10 (fun i=>i<=s.length/\cb s=cr (fun i=>vI (at8 s i)) i s.length) (fun i=>s.length-i) 0 ⟨ae,by simp only[cb];rw[bD ae,bD ae];rfl⟩ (dn []) ?_;rintro i ⟨hi,hr⟩;refine aI ?_;intro u1;refine aA ?_;refine cw (fun hc1=>?_) fun hc1=>?_
 ·refine aF ?_;refine aq (hc:=h453 _) ?_;refine aI ?_;refine aq (hc:=h454 _) ?_;refine cU ?_;refine eP (fun hc2=>?_) fun hc2=>?_
  ·refine aF ?_;refine bF ?_;rw[hr,aK ae];simp[vI,hc2]
  refine bP ?_;exact⟨i+1,⟨ae,by rw[hr,aK ae];simp[vI,hc2]⟩,ae,(dn [])⟩
 refine aF ?_;refine bF ?_;rw[hr,bV ae]
def Bh (Y:Ctx):Prop:=∀(s:au),Y.pre 357 [.str s]/\Y.val 357 [.str s]=.bool (cb s)
def Fk:aC:=⟨1,6,fM,bM,(sq (r1 [gm dt] 1 0) (sq (sq (r1 [gm s0,mE l0,aP l1 cq,gm l2,eC 3 s0,cl 3 (.lenS l4),cl 3 (dE l5 (i6 16)),eK l3 l6,gm l7,eC 8 s0,cl 8 (.ixS l9 bp),cl 8 (.call 453 [l10] bM),cl 8 (.un .not im),eK l8 js,gm ki,eC 14 s0,eC 14 s0,cl 14 (.lenS ng),cl 14 (ju pJ cq),cl 14 (.ixS me qB),cl 14 (cM rA (i8 45)),eK kW vT] 2 21) (jG s2 dt)) (sq (sq (r1 [gm cq] 3 0) (.block 0 (.loop (sq (sq (r1 [gm s3,gm s0,mE l1,aP l0 l2] 4 3) (eN s4 0)) (sq (.block 1 (sq (r1 [gm s0,gm s3,C8 l0 l1,gx 453 [l2] bM,jx l3,gm l4,gmt 5 s0,gmt 5 s3,ca 5 (.ixS l6 l7),ca 5 (.call 454 [l8] bM),ca 5 (.un .not l9),ew l5 l10,gm im,gmt 12 s0,gmt 12 s3,ca 12 (.ixS ki kW),ca 12 (eW me (i8 45)),ew js ng,gm pJ,eC 18 s0,eC 18 s3,cl 18 (.ixS rA vT),cl 18 (cM wW (i8 45)),eC 18 yo,gmt 23 s0,gmt 23 s3,ca 23 (ju EL cq),ca 23 (.ixS BM Hk),ca 23 (cM JU (i8 45)),zC 18 Bd K7,eK qB K8] 5 30) (jG s5 dt))) (r1 [gm s3,ax l0 cq,gm l1] 3 2)))))) (te px))))⟩
def w216 {Y:Ctx}(hm:(Y.at 0).bd)(h453:Lz Y)(h454:I3 Y)(s:au)   :dd Y Fk (.bool (ey s)) [.str s]:=by
 show bH _ _ _ [⟨_,_⟩,_,_,_,_,_] _;refine ak ?_;refine aF ?_;intro u0;refine aB ?_;refine kd ?_;refine aE ?_;refine mL 0 ?_;refine aq (hc:=h453 _) ?_;refine aI ?_;refine kd ?_;refine aS ?_;refine mL (s.length-1) ?_;refine aB ?_;refine cw (fun hc0=>?_) fun hc0=>?_
 ·refine aI ?_;refine bF ?_;symm;simp only[ey];rcases hc0 with(h|h)|h
  ·rcases h with h|h<;>simp<;>omega
  ·simp[h]
  ·simp[h]
 refine aI ?_;refine bh hm (ι:=Nat) (fun i=>[⟨true,.str s⟩,.un,.un,⟨true,.int .i64 (i:Nat)⟩,.un,.un]) (fun i=>[]) 24 (fun i=>i<=s.length/\1<=i/\ey s=cr (NN s) i s.length) (fun i=>s.length-i) 1 ⟨ae,ae,by simp only[ey];rw[bD ae,bD ae,hc0.1.2,cj hc0.2];rfl⟩ (dn []) ?_;rintro i ⟨hi,hi1,hr⟩;refine aI ?_;intro u1;refine aA ?_;refine cw (fun hc1=>?_) fun hc1=>?_
 ·refine aF ?_;refine aq (hc:=h453 _) ?_;refine aI ?_;refine aq (hc:=h454 _) ?_;refine vR ?_;refine mL (i-1) ?_;refine aE ?_;refine eP (fun hc2=>?_) fun hc2=>?_
  ·refine aF ?_;refine bF ?_;rw[hr,aK ae];simp only[NN];revert hc2;generalize gO (at8 s i)=x;generalize bg (at8 s i)=y;by_cases h1:at8 s i=45<;>by_cases h2:at8 s (i-1)=45<;>cases x<;>cases y<;>simp_all
  refine bP ?_;exact⟨i+1,⟨ae,ae,by rw[hr,aK ae];simp only[NN];revert hc2;generalize gO (at8 s i)=x;generalize bg (at8 s i)=y;by_cases h1:at8 s i=45<;>by_cases h2:at8 s (i-1)=45<;>cases x<;>cases y<;>simp_all⟩,ae,(dn [])⟩
 refine aF ?_;refine bF ?_;rw[hr,bV ae]
def D2 (Y:Ctx):Prop:=∀(s:au),Y.pre 216 [.str s]/\Y.val 216 [.str s]=.bool (ey s)
def Ax:aC:=⟨1,9,[⟨1,none⟩,⟨2,none⟩],fV,(sq (rg [gm bp,gm dt] [(1,0),(2,1)]) (sq (sq (r1 [gm s0,mE l0,aP l1 cq,gm l2,eC 3 s0,cl 3 (.lenS l4),cl 3 (dE l5 Bc),eK l3 l6,gm l7,eC 8 s0,cl 8 (.lenS l9),cl 8 (dE l10 cq),eC 8 im,gmt 12 s0,ca 12 (.ixS ki bp),ca 12 (cM kW (i8 48)),zC 8 js me,eK l8 ng] 3 17) (.cond s3 (sq (rg [gm bp,gm dt] [(1,0),(2,1)]) .ret) .skip)) (sq (r1 [gm bp] 7 0) (sq (sq (r1 [gm bp] 4 0) (.block 0 (.loop (sq (sq (r1 [gm s4,gm s0,mE l1,aP l0 l2] 5 3) (eN s5 0)) (sq (.block 1 (sq (sq (r1 [gm s0,gm s4,C8 l0 l1,gx 454 [l2] bM,jx l3] 6 4) (.cond s6 (sq (rg [gm bp,gm dt] [(1,0),(2,1)]) .ret) .skip)) (r1 [gm s7,gn (.bin .mul l0 (i6 10)),gm s0,gm s4,C8 l2 l3,ep l4 (i8 48),gn (.cvi .i64 l5),ax l1 l6,gm l7] 7 8))) (r1 [gm s4,ax l0 cq,gm l1] 4 2)))))) (sq (sq (r1 [gm s7,cH l0 (i6 9999)] 8 1) (.cond s8 (sq (rg [gm bp,gm dt] [(1,0),(2,1)]) .ret) .skip)) (sq (rg [gm s7,gm l0,gm px] [(1,1),(2,2)]) .ret))))))⟩
def w667 {Y:Ctx}(hm:(Y.at 0).bd)(h454:I3 Y)(s:au)   :dd Y Ax (.tup [.int .i64 (iF s),.bool (gp s)]) [.str s]:=by
 show bH _ _ _ [⟨_,_⟩,_,_,_,_,_,_,_,_] _;refine ak ?_;refine aU ?_;intro u0;refine aB ?_;refine kd ?_;refine aE ?_;refine kd ?_;refine aB ?_;refine mL 0 ?_;refine aE ?_;refine cw (fun hc0=>?_) fun hc0=>?_
 ·refine aF ?_;refine bO (aN (aj (D.int .i64) ?_) (aj D.bool ?_));all_goals
   have:gp s=false:=by
    simp only[gp];rcases hc0 with(h|h)|h
    ·rw[cj (by omega:¬1<=s.length)];rfl
    ·rw[cj (by omega:¬s.length<=9)];simp
    ·rw[bD (by omega:1<s.length),bD h.2];simp
   simp[iF,this]
 refine bP ?_;have hP:gp s=(cr (fun i=>bg (at8 s i)) 0 s.length&&decide (eh s<=9999)):=by
  simp only[gp];rw[bD (by omega:1<=s.length),bD (by omega:s.length<=9)];rcases hc0.2 with h|h
  ·rw[cj (by omega:¬1<s.length)];rfl
  ·rw[cj h,Bool.and_false];rfl
 refine bh hm (ι:=Nat) (fun i=>[⟨true,.str s⟩,.un,.un,.un,⟨true,.int .i64 (i:Nat)⟩,.un,.un,⟨true,.int .i64 (eh (s.take i):Nat)⟩,.un]) (fun i=>[]) 22 (fun i=>i<=s.length/\s.length<=9/\gp s=(cr (fun i=>bg (at8 s i)) i s.length&&decide (eh s<=9999))) (fun i=>s.length-i) 0 ⟨ae,ae,hP⟩ (dn []) ?_;rintro i ⟨hi,h9,hr⟩;refine aI ?_;intro u1;refine aA ?_;refine cw (fun hc1=>?_) fun hc1=>?_
 ·refine aU ?_;refine aq (hc:=h454 _) ?_;refine aA ?_;refine aw (fun hc2=>?_) (fun hc2=>?_)
  ·try simp only[fu]at hc2
   refine bP ?_;refine bO (aN (aj (D.int .i64) ?_) (aj D.bool ?_));all_goals
    have:gp s=false:=by rw[hr,aK ae,hc2];rfl
    simp[iF,this]
  simp only[bY]at hc2;refine aA ?_;have h48:=hc2;simp only[bg,aZ,aR]at h48;have hn:=rh s i ae;have hn2:=sP s i ae;have h256:=rH s i;refine aS ?_;refine tJ ?_;refine aB ?_;refine qi (at8 s i-48) (hb:=fun _=>IntWalk.u8_in _ ae) ?_;refine nF (at8 s i-48) (hb:=fun _=>IntWalk.i64_in _ ae) ?_;refine aB ?_;rw[show(eh (s.take i):Int)*10+(at8 s i-48)=(eh (s.take (i+1)):Nat)by omega];refine aU ?_;exact⟨i+1,⟨ae,h9,by rw[hr,aK ae,hc2];rfl⟩,ae,(dn [])⟩
 refine aE ?_;have ht:s.take i=s:=dQ ae;rw[ht];refine aB ?_;refine cw (fun hc3=>?_) fun hc3=>?_
 ·refine aF ?_;refine bO (aN (aj (D.int .i64) ?_) (aj D.bool ?_));all_goals
   have:gp s=false:=by rw[hr,cj ae,Bool.and_false]
   simp[iF,this]
 refine aU ?_;refine bO (aN (aj (D.int .i64) ?_) (aj D.bool ?_));all_goals
  have:gp s=true:=by rw[hr,bV ae,bD ae];rfl
  simp[iF,this]
def I7 (Y:Ctx):Prop:=∀(s:au),Y.pre 667 [.str s]/\Y.val 667 [.str s]=.tup [.int .i64 (iF s),.bool (gp s)]
def yO:aC:=⟨1,5,fM,bM,(sq (r1 [gm dt] 1 0) (sq (sq (r1 [gm bp] 2 0) (.block 0 (.loop (sq (sq (r1 [gm s2,gm s0,mE l1,aP l0 l2] 3 3) (eN s3 0)) (sq (.block 1 (sq (r1 [gm s0,gm s2,C8 l0 l1,aP l2 (i8 48),gm l3,eC 4 s0,eC 4 s2,cl 4 (.ixS l5 l6),cl 4 (dE l7 (i8 57)),eK l4 l8] 4 9) (jG s4 dt))) (r1 [gm s2,ax l0 cq,gm l1] 2 2)))))) (sq (r1 [gm s0,mE l0,cH l1 bp,gm l2] 1 3) .ret)))⟩
def w668 {Y:Ctx}(hm:(Y.at 0).bd)  (t:au)   :dd Y yO (.bool (b6 t)) [.str t]:=by
 show bH _ _ _ [⟨_,_⟩,_,_,_,_] _;refine ak ?_;refine aF ?_;refine bh hm (ι:=Nat) (fun i=>[⟨true,.str t⟩,.un,⟨true,.int .i64 (i:Nat)⟩,.un,.un]) (fun i=>[]) 2 (fun i=>i<=t.length/\cr (fun i=>bg (at8 t i)) 0 t.length=cr (fun i=>bg (at8 t i)) i t.length) (fun i=>t.length-i) 0 ⟨ae,rfl⟩ (dn []) ?_;rintro i ⟨hi,hr⟩;refine aI ?_;intro u0;refine aA ?_;refine cw (fun hc0=>?_) fun hc0=>?_
 ·refine A8 ?_;refine eP (fun hc1=>?_) fun hc1=>?_
  ·refine aF ?_;refine bF ?_;simp only[b6];rw[hr,aK ae];rcases hc1 with h|h<;>simp[bg]<;>omega
  refine bP ?_;exact⟨i+1,⟨ae,by rw[hr,aK ae];rw[show bg (at8 t i)=true by simp only[bg,aZ,aR];omega];rfl⟩,ae,(dn [])⟩
 refine aI ?_;intro u1;refine aE ?_;refine bF ?_;simp only[b6];rw[hr,bV ae];simp
def LK (Y:Ctx):Prop:=∀(t:au),Y.pre 668 [.str t]/\Y.val 668 [.str t]=.bool (b6 t)
def Ij:aC:=⟨1,7,fM,bM,(sq (r1 [gm dt] 1 0) (sq (sq (r1 [gm s0,mE l0,aP l1 cq,gm l2,eC 3 s0,cl 3 (.lenS l4),cl 3 (dE l5 BJ),eK l3 l6] 2 7) (jG s2 dt)) (sq (sq (r1 [gm bp] 3 0) (.block 0 (.loop (sq (sq (r1 [gm s3,gm s0,mE l1,aP l0 l2] 4 3) (eN s4 0)) (sq (.block 1 (sq (r1 [gm s0,gm s3,C8 l0 l1,gm l2] 5 3) (sq (r1 [gm s5,aP l0 (i8 97),gm l1,eC 2 s5,cl 2 (dE l3 (i8 122)),eK l2 l4,gm l5,gmt 6 s5,ca 6 (qH l7 (i8 48)),gmt 6 l8,eC 9 s5,cl 9 (dE l10 (i8 57)),MD 6 l9 im,ew l6 js,gm ki,gmt 14 s5,ca 14 (eW me (i8 45)),ew kW ng] 6 17) (jG s6 dt)))) (r1 [gm s3,ax l0 cq,gm l1] 3 2)))))) (te px))))⟩
def w666 {Y:Ctx}(hm:(Y.at 0).bd)  (t:au)   :dd Y Ij (.bool (nR t)) [.str t]:=by
 show bH _ _ _ [⟨_,_⟩,_,_,_,_,_,_] _;refine ak ?_;refine aF ?_;intro u0;refine aB ?_;refine kd ?_;refine aB ?_;refine cw (fun hc0=>?_) fun hc0=>?_
 ·refine aI ?_;refine bF ?_;symm;simp only[nR,dr,bx];exact Or.inl ae
 refine aI ?_;refine bh hm (ι:=Nat) (fun i=>[⟨true,.str t⟩,.un,.un,⟨true,.int .i64 (i:Nat)⟩,.un,.un,.un]) (fun i=>[]) 10 (fun i=>i<=t.length/\nR t=cr (fun i=>k9 (at8 t i)) i t.length) (fun i=>t.length-i) 0 ⟨ae,by simp only[nR];rw[bD ae,bD ae];rfl⟩ (dn []) ?_;rintro i ⟨hi,hr⟩;refine aI ?_;intro u1;refine aA ?_;refine cw (fun hc1=>?_) fun hc1=>?_
 ·refine IP ?_;refine eP (fun hc2=>?_) fun hc2=>?_
  ·refine aF ?_;refine bF ?_;rw[hr,aK ae];have:k9 (at8 t i)=false:=(by simp only[k9,gO,bg,dc,dr,bx];omega);rw[this];rfl
  refine bP ?_;exact⟨i+1,⟨ae,by rw[hr,aK ae];have:k9 (at8 t i)=true:=(by simp only[k9,gO,bg,cu,aZ,aR];omega);rw[this];rfl⟩,ae,(dn [])⟩
 refine aF ?_;refine bF ?_;rw[hr,bV ae]
def O3 (Y:Ctx):Prop:=∀(t:au),Y.pre 666 [.str t]/\Y.val 666 [.str t]=.bool (nR t)
def Fp:aC:=⟨2,11,[⟨2,none⟩],bM,(sq (r1 [gm dt] 2 0) (sq (sq (r1 [gm s0,aL l0 cse] 3 1) (.cond s3 (sq (r1 [gm px] 2 0) .ret) .skip)) (sq (r1 [gm s0,gx 470 [l0,(i8 46)] fV,gm l1] 4 2) (sq (sq (r1 [gm s4,gl l0,cH l1 tg] 5 2) (.cond s5 (sq (r1 [gm dt] 2 0) .ret) .skip)) (sq (sq (r1 [gm bp] 6 0) (.block 0 (.loop (sq (sq (r1 [gm s6,gm s4,gl l1,aP l0 l2] 7 3) (eN s7 0)) (sq (.block 1 (sq (sq (r1 [gm s4,gm s6,ga 1 l0 l1,gd l2,gx 666 [l3] bM,jx l4] 8 5) (.cond s8 (sq (r1 [gm dt] 2 0) .ret) .skip)) (sq (r1 [gm s4,gm s6,ga 1 l0 l1,gd l2,gx 667 [l3] bM,gm l4,ge l5 0,ge l5 1,gm l6,gm l7] 9 9) (sq (r1 [gm s1,gm l0,gmt 1 s4,gmt 1 s6,ca 1 (.ia 1 l2 l3),ke 1 l4,ca 1 (.call 668 [l5] bM),ew l1 l6,gm l7,gmt 8 s9,ca 8 (.un .not l9),ew l8 l10] 10 11) (.cond iP (sq (r1 [gm dt] 2 0) .ret) .skip))))) (r1 [gm s6,ax l0 cq,gm l1] 6 2)))))) (sq (r1 [gm px] 2 0) .ret))))))⟩
def w456 {Y:Ctx}(hm:(Y.at 0).bd)(h470:Bi Y)(h666:O3 Y)(h667:I7 Y)(h668:LK Y)(s:au)(p:Bool)  (hp0:s.length<=1048576):dd Y Fp (.bool (oM s p)) [.str s,.bool p]:=by
 show bH _ _ _ [⟨_,_⟩,⟨_,_⟩,_,_,_,_,_,_,_,_,_] _;refine ak ?_;refine aU ?_;refine cw (fun hc0=>?_) fun hc0=>?_
 ·refine aI ?_;refine bF ?_;simp[oM,hc0]
 refine aB ?_;refine aq (hc:=h470 _ _ ?_) ?_;rotate_left;first|assumption|omega;have hlen:=er s 46
 refine aF ?_;intro u0;refine aA ?_;refine aw (fun hc1=>?_) (fun hc1=>?_)
 ·try simp only[fu]at hc1
  refine aI ?_;refine bF ?_;simp only[oM,kF];rw[cj hc0,cj ae];rfl
 simp only[bx]at hc1;refine aI ?_;refine bh hm (ι:=Nat) (fun i=>[⟨true,.str s⟩,⟨true,.bool p⟩,.un,.un,⟨true,.sl 1 ((ar s 46).map D.str)⟩,.un,⟨true,.int .i64 (i:Nat)⟩,.un,.un,.un,.un]) (fun i=>[]) 10 (fun i=>i<=(ar s 46).length/\oM s p=cr (fun i=>gu p (ar s 46)[i]!) i (ar s 46).length) (fun i=>(ar s 46).length-i) 0 ⟨ae,by simp only[oM,kF];rw[cj hc0,bD ae];rfl⟩ (dn []) ?_;rintro i ⟨hi,hr⟩;refine aI ?_;intro u1;refine aA ?_;refine cw (fun hc2=>?_) fun hc2=>?_
 ·refine bP ?_;refine aq (hc:=h666 _) ?_;refine aA ?_;refine aw (fun hc3=>?_) (fun hc3=>?_)
  ·simp only[bB]at hc3;refine aU ?_;refine bF ?_;rw[hr,aK ae];simp only[gu,hc3];rfl
  simp only[bY]at hc3;refine aF ?_;refine aq (hc:=h667 _) ?_;refine lJ ?_;refine aq (hc:=h668 _) ?_;refine aF ?_;refine wp_cond (fun hc4=>?_) (fun hc4=>?_)
  ·skip
   refine aF ?_;refine bF ?_;have h5:gu p (ar s 46)[i]! =false:=(by simp only[gu,hc3];revert hc4;generalize b6 (ar s 46)[i]! =a;generalize gp (ar s 46)[i]! =b;cases p<;>cases a<;>cases b<;>simp);rw[hr,aK ae,h5];rfl
  skip
  refine bP ?_;exact⟨i+1,⟨ae,by rw[hr,aK ae];have h5:gu p (ar s 46)[i]! =true:=(by simp only[gu,hc3];revert hc4;generalize b6 (ar s 46)[i]! =a;generalize gp (ar s 46)[i]! =b;cases p<;>cases a<;>cases b<;>simp);rw[h5];rfl⟩,ae,(dn [])⟩
 refine aF ?_;refine bF ?_;rw[hr,bV ae]
def OE (Y:Ctx):Prop:=∀(s:au)(p:Bool),(s.length<=1048576)->Y.pre 456 [.str s,.bool p]/\Y.val 456 [.str s,.bool p]=.bool (oM s p)
def Ih:aC:=⟨1,2,fM,bM,(sq (r1 [gm dt] 1 0) (sq (r1 [gm s0,gB l0 bp,gm l1,gmt 2 s0,ca 2 (kB l3 (i6 9999)),ew l2 l4,gm l5] 1 6) .ret))⟩
def w455 {Y:Ctx}(hm:(Y.at 0).bd)  (n:Int)   :dd Y Ih (.bool (kN n)) [.int .i64 n]:=by
 show bH _ _ _ [⟨_,_⟩,_] _;refine ak ?_;refine gW ?_;exact bF rfl
def OD (Y:Ctx):Prop:=∀(n:Int),Y.pre 455 [.int .i64 n]/\Y.val 455 [.int .i64 n]=.bool (kN n)
def Ig:aC:=⟨1,3,fM,bM,(sq (rg [gb 5 s0,gm dt] [(2,0),(1,1)]) (sq (r1 [gf 0 s2,gd l0,gx 455 [l1] bM,gm l2,lr 3 1 s2,ke 3 l4,ca 3 (.call 455 [l5] bM),ew l3 l6,gm l7,lr 8 2 s2,ke 8 l9,ca 8 (.call 455 [l10] bM),ew l8 im,gm js,lr 13 3 s2,ke 13 kW,ca 13 (.call 456 [me,px] fV),ew ki ng,gm pJ,lr 18 4 s2,ke 18 rA,ca 18 (.call 456 [vT,dt] fV),ew qB wW,gm yo] 1 23) .ret))⟩
def w217 {Y:Ctx}(hm:(Y.at 0).bd)(h455:OD Y)(h456:OE Y)(v:bX)  (hp0:v.sm):dd Y Ig (.bool (eF v)) [bX.D v]:=by
 show bH _ _ _ [⟨_,_⟩,_,_] _;refine ak ?_;refine aF ?_;refine aq (hc:=h455 _) ?_;refine aB ?_;refine aq (hc:=h455 _) ?_;refine aE ?_;refine aq (hc:=h455 _) ?_;refine aE ?_;refine dq (hc:=fun hf=>h456 v.pre true hp0.1) ?_;refine aE ?_;refine dq (hc:=fun hf=>h456 v.build false hp0.2) ?_;refine aE ?_;exact bF rfl
def D3 (Y:Ctx):Prop:=∀(v:bX),(v.sm)->Y.pre 217 [bX.D v]/\Y.val 217 [bX.D v]=.bool (eF v)
def yN:aC:=⟨1,4,fM,bM,(sq (rg [gb 5 s0,gm cse] [(2,0),(1,1)]) (sq (r2 [gf 0 s2,gd l0,gx 734 [l1] bM,ax l2 (cs [46]),gf 1 s2,gd l4,gx 734 [l5] bM,ax l3 l6,gm l7] 3 8) (sq (r1 [gm s3,ax l0 (cs [46]),gf 2 s2,gd l2,gx 734 [l3] bM,ax l1 l4,gm l5] 1 6) .ret)))⟩
def w554 {Y:Ctx}(hm:(Y.at 0).bd)(h734:LR Y)(v:bX)  (hp0:kN v.major=true/\kN v.minor=true/\kN v.patch=true):dd Y yN (.str (dw v.major.toNat++[46]++dw v.minor.toNat++[46]++dw v.patch.toNat)) [bX.D v]:=by
 show bH _ _ _ [⟨_,_⟩,_,_,_] _;obtain⟨hq1,hq2,hq3⟩:=hp0;simp only[kN,aZ,aR]at hq1 hq2 hq3;have hl1:=dT 4 v.major.toNat ae ae;have hl2:=dT 4 v.minor.toNat ae ae;have hl3:=dT 4 v.patch.toNat ae ae;refine ak ?_;refine aF ?_;refine aq (hc:=h734 _ ?_) ?_;rotate_left;first|assumption|omega
 refine df (hb:=fun _=>cz) ?_;refine aA ?_;refine aq (hc:=h734 _ ?_) ?_;rotate_left;first|assumption|omega
 refine df (hb:=fun _=>cz) ?_;refine aE ?_;refine df (hb:=fun _=>cz) ?_;refine aA ?_;refine aq (hc:=h734 _ ?_) ?_;rotate_left;first|assumption|omega
 refine df (hb:=fun _=>cz) ?_;refine aB ?_;exact cD rfl
def OZ (Y:Ctx):Prop:=∀(v:bX),(kN v.major=true/\kN v.minor=true/\kN v.patch=true)->Y.pre 554 [bX.D v]/\Y.val 554 [bX.D v]=.str (dw v.major.toNat++[46]++dw v.minor.toNat++[46]++dw v.patch.toNat)
def Cl:aC:=⟨1,7,fM,bM,(sq (rg [gb 5 s0,gm cse] [(2,0),(1,1)]) (sq (sq (r1 [gk 5 true s2,gx 217 [l0] wg,jx l1] 3 2) (jG s3 cse)) (sq (r1 [gk 5 true s2,gx 554 [l0] wg,gm l1] 5 2) (sq (sq (r1 [gf 3 s2,gd l0,cg l1 cse] 4 2) (.cond s4 (r1 [gm s5,ax l0 (cs [45]),gf 3 s2,gd l2,ax l1 l3,gm l4] 5 5) .skip)) (sq (sq (r1 [gf 4 s2,gd l0,cg l1 cse] 6 2) (.cond s6 (r1 [gm s5,ax l0 (cs [43]),gf 4 s2,gd l2,ax l1 l3,gm l4] 5 5) .skip)) (sq (r1 [gm s5,gm l0] 1 1) .ret))))))⟩
def w316 {Y:Ctx}(hm:(Y.at 0).bd)(h217:D3 Y)(h554:OZ Y)(v:bX)  (hp0:v.sm):dd Y Cl (.str (kR v)) [bX.D v]:=by
 show bH _ _ _ [⟨_,_⟩,_,_,_,_,_,_] _;obtain⟨hs1,hs2⟩:=hp0;have hp0:v.sm:=⟨hs1,hs2⟩;refine ak ?_;refine aF ?_;refine aq (hc:=h217 _ ?_) ?_;rotate_left;first|assumption|omega
 refine aA ?_;refine aw (fun hc0=>?_) (fun hc0=>?_)
 ·simp only[bB]at hc0;refine aI ?_;refine cD ?_;simp[kR,hc0]
 simp only[bY]at hc0;refine aA ?_;have hv:=hc0;simp only[eF,aZ]at hv;obtain⟨⟨⟨⟨hv1,hv2⟩,hv3⟩,_⟩,_⟩:=hv;have hq1:=hv1;have hq2:=hv2;have hq3:=hv3;simp only[kN,aZ,aR]at hq1 hq2 hq3;have hl1:=dT 4 v.major.toNat ae ae;have hl2:=dT 4 v.minor.toNat ae ae;have hl3:=dT 4 v.patch.toNat ae ae;refine aS ?_;refine aq (hc:=h554 v ⟨hv1,hv2,hv3⟩) ?_;refine bP ?_;refine cw (fun hc1=>?_) fun hc1=>?_
 ·refine aA ?_;refine df (hb:=fun _=>cz) ?_;refine aA ?_;refine df (hb:=fun _=>cz) ?_;refine bP ?_;refine cw (fun hc2=>?_) fun hc2=>?_
  ·refine aA ?_;refine df (hb:=fun _=>cz) ?_;refine aA ?_;refine df (hb:=fun _=>cz) ?_;refine aU ?_;refine cD ?_;simp[kR,vH,hc0,hc1,hc2]
  refine aF ?_;refine cD ?_;simp[kR,vH,hc0,hc1,hc2]
 refine aU ?_;refine cw (fun hc2=>?_) fun hc2=>?_
 ·refine aA ?_;refine df (hb:=fun _=>cz) ?_;refine aA ?_;refine df (hb:=fun _=>cz) ?_;refine aU ?_;refine cD ?_;simp[kR,vH,hc0,hc1,hc2]
 refine aF ?_;refine cD ?_;simp[kR,vH,hc0,hc1,hc2]
def Oj (Y:Ctx):Prop:=∀(v:bX),(v.sm)->Y.pre 316 [bX.D v]/\Y.val 316 [bX.D v]=.str (kR v)
def Fw:aC:=⟨2,3,[⟨2,none⟩],bM,(sq (r1 [gm (iu 0)] 2 0) (sq (r1 [gm s0,gm s1,gn (.bin .shl l0 l1),gm s0,gm s1,ep (iu 64) l4,gn (.bin .shr l3 l5),Dp l2 l6,gm l7] 2 8) .ret))⟩
def w464 {Y:Ctx}(hm:(Y.at 0).bd)  (h:Int)(n:Nat)  (hp0:n<=63):dd Y Fw (.int .u64 (Kl h n)) [.int .u64 h,.int .u64 (n:Nat)]:=by
 show bH _ _ _ [⟨_,_⟩,⟨_,_⟩,_] _;refine ak ?_;refine aI ?_;refine DF (xm h n) (hb:=fun _=>by rw[show min (Int.toNat (n:Int)) (IntKind.bits .u64)=n by simp[IntKind.bits];omega];rfl) ?_;refine aA ?_;refine qi ((64-n:Nat):Int) (hb:=fun _=>by rw[IntKind.wrap_u64];omega) ?_;refine xh (pL h (64-n)) (hb:=fun _=>by rw[show min (Int.toNat ((64-n:Nat):Int)) (IntKind.bits .u64)=64-n by simp[IntKind.bits]];rfl) ?_;refine DC (Kl h n) (hb:=fun _=>rfl) ?_;refine aB ?_;refine bO (aj (D.int .u64) ?_);rfl
def ON (Y:Ctx):Prop:=∀(h:Int)(n:Nat),(n<=63)->Y.pre 464 [.int .u64 h,.int .u64 (n:Nat)]/\Y.val 464 [.int .u64 h,.int .u64 (n:Nat)]=.int .u64 (Kl h n)
def Ip:aC:=⟨1,5,fM,bM,(sq (r1 [gm (iu 0)] 1 0) (sq (r1 [gm (iu 11400714819323198485)] 4 0) (sq (sq (r1 [gm bp] 2 0) (.block 0 (.loop (sq (sq (r1 [gm s2,gm s0,gl l1,aP l0 l2] 3 3) (eN s3 0)) (sq (.block 1 (r1 [gm s4,gm s0,gm s2,ga 1 l1 l2,gd l3,gn (.cvi .u64 l4),gn (.bin .xor l0 l5),gx 464 [l6,(iu 13)] fV,gn (.bin .mul l7 (iu 18397679294719823053)),gm l8] 4 9)) (r1 [gm s2,ax l0 cq,gm l1] 2 2)))))) (sq (r1 [gm s4,gm s4,gn (.bin .shr l1 (iu 29)),gn (.bin .xor l0 l2),gm l3] 1 4) .ret))))⟩
def w221 {Y:Ctx}(hm:(Y.at 0).bd)(h464:ON Y)(s:au)   :dd Y Ip (.int .u64 (vA s)) [.sl 1 ((s).map fun b=>D.int .u8 b.toNat)]:=by
 show bH _ _ _ [⟨_,_⟩,_,_,_,_] _;refine ak ?_;refine cU ?_;refine bh hm (ι:=Nat) (fun i=>[⟨true,.sl 1 (s.map fun b=>D.int .u8 b.toNat)⟩,.un,⟨true,.int .i64 (i:Nat)⟩,.un,⟨true,.int .u64 (sy (s.take i))⟩]) (fun i=>[]) 3 (fun i=>i<=s.length) (fun i=>s.length-i) 0 ae (dn []) ?_;intro i hi;refine aI ?_;intro u0;refine aA ?_;refine cw (fun hc0=>?_) fun hc0=>?_
 ·refine aU ?_;refine cy (v:=.int .u8 (at8 s i)) (hv:=fun _=>ld8 s i) ?_;refine nF (at8 s i) (hb:=fun _=>by have:=rH s i;rw[IntKind.wrap_u64];omega) ?_;refine yD (vM (sy (s.take i)) (at8 s i)) (hb:=fun _=>rfl) ?_;refine aq (hc:=h464 _ 13 ae) ?_;refine H8 (sy (s.take (i+1))) (hb:=fun _=>by rw[xz s i ae];rfl) ?_;refine cU ?_;exact⟨i+1,ae,ae,(dn [])⟩
 refine aB ?_;have ht:s.take i=s:=dQ ae;rw[ht];refine aA ?_;refine xh (pL (sy s) 29) (hb:=fun _=>rfl) ?_;refine yD (vA s) (hb:=fun _=>rfl) ?_;refine aB ?_;refine bO (aj (D.int .u64) ?_);rfl
def Oc (Y:Ctx):Prop:=∀(s:au),Y.pre 221 [.sl 1 ((s).map fun b=>D.int .u8 b.toNat)]/\Y.val 221 [.sl 1 ((s).map fun b=>D.int .u8 b.toNat)]=.int .u64 (vA s)
def Fv:aC:=⟨1,5,fM,bM,(sq (r1 [gm cse] 1 0) (sq (r1 [gm (.c (.aV))] 4 0) (sq (sq (r1 [gm (i6 15)] 2 0) (.block 0 (.loop (sq (sq (r1 [gm s2,gB l0 bp] 3 1) (eN s3 0)) (sq (.block 1 (r1 [gm s4,gm s0,gm s2,gn (.bin .mul tg l2),gn (.cvi .u64 l3),gn (.bin .shr l1 l4),BW l5 (iu 15),C8 (cs [48,49,50,51,52,53,54,55,56,57,97,98,99,100,101,102]) l6,gn (.bsl 1 (.int .u8 0) 1 [(0,l7)]),gn (.app 1 l0 l8),gm l9] 4 10)) (r1 [gm s2,ep l0 cq,gm l1] 2 2)))))) (sq (r1 [gm s4,gn (.b2s l0),gm l1] 1 2) .ret))))⟩
def w313 {Y:Ctx}(hm:(Y.at 0).bd)  (n:Int)   :dd Y Fv (.str (gv n)) [.int .u64 n]:=by
 show bH _ _ _ [⟨_,_⟩,_,_,_,_] _;refine ak ?_;refine cU ?_;refine bh hm (ι:=Nat) (fun k=>[⟨true,.int .u64 n⟩,.un,⟨true,.int .i64 ((15:Int) -(k:Nat))⟩,.un,⟨true,.own 0 1 0 ((gv n).take k).length⟩]) (fun k=>[(0,.buf 1 (((gv n).take k).map fun b=>D.int .u8 b.toNat))]) 3 (fun k=>k<=16) (fun k=>16-k) 0 ae (bj.to [] ah ah (by repeat(first|exact c9.nil|refine c9.un ?_|refine c9.eq ah ?_|refine c9.ni (Or.inr ⟨0,1,0,rfl⟩) ?_)) (by repeat(first|exact ba.nil|refine ba.mt ah ah ah ah ?_))) ?_;intro k hk;have htk:=CF n k hk;refine aI ?_;refine cw (fun hc0=>?_) fun hc0=>?_
 ·refine aF ?_;refine tJ ?_;refine nF ((4*(15-k):Nat):Int) (hb:=fun _=>by rw[IntKind.wrap_u64];omega) ?_;refine xh (pL n (4*(15-k))) (hb:=fun _=>by rw[show min (Int.toNat ((4*(15-k):Nat):Int)) (IntKind.bits .u64)=4*(15-k)by simp[IntKind.bits];omega];rfl) ?_;refine B6 ((Hv n (15-k):Nat):Int) (hb:=fun _=>zU n (15-k)) ?_;have hnib:=B0 n (15-k);refine aS ?_;refine dK [.int .u8 _] ?_;refine yC (hb:=ae) ?_;refine aA ?_;rw[<-CE n k ae];refine aU ?_;exact⟨k+1,ae,ae,(bj.to [(14,0)] ah ah (by repeat(first|exact c9.nil|refine c9.un ?_|refine c9.eq ah ?_|refine c9.nl (aj (D.int .i64) ae) ah ?_)) (by refine ba.nl 14 ah ah ah dm ?_;exact ba.nil))⟩
 refine aE ?_;refine Ac (gv n) (he:=fun _=>sC.all ah aT) (hs:=fun _=>by rw[dQ (by rw[jQ];omega)]) ?_;refine aB ?_;exact cD rfl
def Oi (Y:Ctx):Prop:=∀(n:Int),Y.pre 313 [.int .u64 n]/\Y.val 313 [.int .u64 n]=.str (gv n)
def zo:aC:=⟨1,12,[⟨1,none⟩,⟨2,none⟩],fV,(sq (rg [gm (iu 0),gm dt] [(1,0),(2,1)]) (sq (sq (r1 [gm s0,mE l0,cg l1 (i6 16)] 3 2) (.cond s3 (sq (rg [gm (iu 0),gm dt] [(1,0),(2,1)]) .ret) .skip)) (sq (r1 [gm (iu 0)] 10 0) (sq (sq (rg [gm s0,mE l0,gm bp] [(5,1),(4,2)]) (.block 0 (.loop (sq (r1 [aP s4 s5] 6 0) (sq (eN s6 0) (sq (.block 1 (sq (r1 [gm s4,gm l0] 7 1) (sq (r1 [gm s0,gm s7,C8 l0 l1,gm l2] 8 3) (.block 2 (sq (r1 [gm s8,gB l0 (i8 48),gm l1,gmt 2 s8,ca 2 (kB l3 (i8 57)),ew l2 l4,gm l5] 9 6) (.cond s9 (r1 [gm iP,gn (.bin .shl l0 (iu 4)),gm s8,ep l2 (i8 48),gn (.cvi .u64 l3),Dp l1 l4,gm l5] 10 6) (sq (r1 [gm s8,gB l0 (i8 97),gm l1,gmt 2 s8,ca 2 (kB l3 (i8 102)),ew l2 l4,gm l5] 11 6) (.cond kp (r1 [gm iP,gn (.bin .shl l0 (iu 4)),gm s8,ep l2 (i8 97),ax l3 (i8 10),gn (.cvi .u64 l4),Dp l1 l5,gm l6] 10 7) (sq (rg [gm (iu 0),gm dt] [(1,0),(2,1)]) .ret))))))))) (r1 [ax s4 cq,gm l0] 4 1))))))) (sq (rg [gm iP,gm l0,gm px] [(1,1),(2,2)]) .ret)))))⟩
def w499 {Y:Ctx}(hm:(Y.at 0).bd)  (s:au)   :dd Y zo (.tup [.int .u64 (vj s),.bool (nG s)]) [.str s]:=by
 show bH _ _ _ [⟨_,_⟩,_,_,_,_,_,_,_,_,_,_,_] _;refine ak ?_;refine aU ?_;intro u0;refine aA ?_;refine cw (fun hc0=>?_) fun hc0=>?_
 ·refine aF ?_;refine bO (aN (aj (D.int .u64) ?_) (aj D.bool ?_));all_goals
   have:nG s=false:=by simp only[nG];rw[cj (by omega:¬s.length=16)];rfl
   simp[vj,this]
 refine bP ?_;intro u1;refine aA ?_;have h16:s.length=16:=ae;have hP:nG s=cr (fun i=>yh (at8 s i)) 0 s.length:=by simp only[nG];rw[bD h16];rfl
 refine bh hm (ι:=Nat) (fun i=>[⟨true,.str s⟩,.un,.un,.un,⟨true,.int .i64 (i:Nat)⟩,⟨true,.int .i64 (s.length:Nat)⟩,.un,.un,.un,.un,⟨true,.int .u64 (rm (s.take i))⟩,.un]) (fun i=>[]) 9 (fun i=>i<=s.length/\s.length=16/\nG s=cr (fun i=>yh (at8 s i)) i s.length) (fun i=>s.length-i) 0 ⟨ae,h16,hP⟩ (dn []) ?_;rintro i ⟨hi,h16,hr⟩;refine aB ?_;refine cw (fun hc1=>?_) fun hc1=>?_
 ·refine Lm ?_;refine eP (fun hc2=>?_) fun hc2=>?_
  ·refine aS ?_;have h256:=rH s i;have hz:yh (at8 s i)=true:=by simp only[yh,bg,cu,aZ,aR];omega
   have hv:Hc (at8 s i)=at8 s i-48:=by unfold Hc;rw[av (by simp only[bg,aZ,aR];omega)]
   refine aS ?_;refine DF (xm (rm (s.take i)) 4) (hb:=fun _=>by rw[show min (Int.toNat (4:Int)) (IntKind.bits .u64)=4 by simp[IntKind.bits]];rfl) ?_;refine aS ?_;refine qi (at8 s i-48) (hb:=fun _=>IntWalk.u8_in _ ae) ?_;refine nF (at8 s i-48) (hb:=fun _=>by rw[IntKind.wrap_u64];omega) ?_;refine DC (rm (s.take (i+1))) (hb:=fun _=>by rw[vi s i ae];unfold rp;rw[hv];rfl) ?_;refine cU ?_;exact⟨i+1,⟨ae,h16,by rw[hr,aK ae,hz];rfl⟩,ae,(dn [])⟩
  refine cU ?_;refine eP (fun hc3=>?_) fun hc3=>?_
  ·refine aS ?_;have h256:=rH s i;have hz:yh (at8 s i)=true:=by simp only[yh,bg,cu,aZ,aR];omega
   have hv:Hc (at8 s i)=at8 s i-87:=by unfold Hc;rw[ai (by simp only[bg,aZ,aR];omega)]
   refine aS ?_;refine DF (xm (rm (s.take i)) 4) (hb:=fun _=>by rw[show min (Int.toNat (4:Int)) (IntKind.bits .u64)=4 by simp[IntKind.bits]];rfl) ?_;refine aS ?_;refine qi (at8 s i-97) (hb:=fun _=>IntWalk.u8_in _ ae) ?_;refine oB (at8 s i-87) (hb:=fun _=>by rw[show at8 s i-97+10=at8 s i-87 by omega];exact IntWalk.u8_in _ ae) ?_;refine nF (at8 s i-87) (hb:=fun _=>by rw[IntKind.wrap_u64];omega) ?_;refine DC (rm (s.take (i+1))) (hb:=fun _=>by rw[vi s i ae];unfold rp;rw[hv];rfl) ?_;refine cU ?_;exact⟨i+1,⟨ae,h16,by rw[hr,aK ae,hz];rfl⟩,ae,(dn [])⟩
  refine bP ?_;refine bO (aN (aj (D.int .u64) ?_) (aj D.bool ?_));all_goals
   have hz:yh (at8 s i)=false:=by simp only[yh,bg,dc,dr,bx];omega
   have:nG s=false:=by rw[hr,aK ae,hz];rfl
   simp[vj,this]
 refine bP ?_;refine bO (aN (aj (D.int .u64) ?_) (aj D.bool ?_));all_goals
  have:nG s=true:=by rw[hr,bV ae]
  have ht:s.take i=s:=dQ ae;simp[vj,this,ht]
def OS (Y:Ctx):Prop:=∀(s:au),Y.pre 499 [.str s]/\Y.val 499 [.str s]=.tup [.int .u64 (vj s),.bool (nG s)]
def Cc:aC:=⟨2,6,[⟨2,none⟩],bM,(sq (r1 [gm bp] 2 0) (sq (sq (r1 [gm bp] 3 0) (.block 0 (.loop (sq (sq (r1 [gm s3,gm s0,gl l1,aP l0 l2] 4 3) (eN s4 0)) (sq (.block 1 (sq (r1 [gm s0,gm s3,ga 2 l0 l1,gf 0 l2,gd l3,gm s1,aL l4 l5] 5 6) (.cond s5 (sq (r1 [gm s3,gm l0] 2 1) .ret) .skip))) (r1 [gm s3,ax l0 cq,gm l1] 3 2)))))) (sq (r1 [gn (.mv (.c (.int .i64 (-1))))] 2 0) .ret)))⟩
def w955 {Y:Ctx}(hm:(Y.at 0).bd)  (l:List bW)(nm:au)   :dd Y Cc (.int .i64 (findF l nm 0)) [.sl 2 (l.map bW.D),.str nm]:=by
 show bH _ _ _ [⟨_,_⟩,⟨_,_⟩,_,_,_,_] _;refine ak ?_;refine aF ?_;refine bh hm (ι:=Nat) (fun i=>[⟨true,.sl 2 (l.map bW.D)⟩,⟨true,.str nm⟩,.un,⟨true,.int .i64 (i:Nat)⟩,.un,.un]) (fun i=>[]) 2 (fun i=>i<=l.length/\findF l nm 0=findF l nm i) (fun i=>l.length-i) 0 ⟨ae,rfl⟩ (dn []) ?_;rintro i ⟨hi,hr⟩;refine aI ?_;intro u0;refine aA ?_;refine cw (fun hc0=>?_) fun hc0=>?_
 ·refine gy ?_;refine eP (fun hc1=>?_) fun hc1=>?_
  ·refine aU ?_;refine cL ?_;rw[hr,zu ae hc1]
  refine bP ?_;exact⟨i+1,⟨ae,by rw[hr,zv ae hc1]⟩,ae,(dn [])⟩
 refine aF ?_;refine cL ?_;rw[hr,wO ae]
def PA (Y:Ctx):Prop:=∀(l:List bW)(nm:au),Y.pre 955 [.sl 2 (l.map bW.D),.str nm]/\Y.val 955 [.sl 2 (l.map bW.D),.str nm]=.int .i64 (findF l nm 0)
def yf:aC:=⟨2,10,[⟨2,none⟩],bM,(sq (r1 [gm bp] 2 0) (sq (sq (rg [gm s0,gl l0,gm bp] [(6,0),(4,1),(3,2)]) (.block 0 (.loop (sq (r1 [aP s3 s4] 5 0) (sq (eN s5 0) (sq (.block 1 (sq (rg [gm s3,ga 2 s6 s3,gk 2 true l1,gb 2 (.c (.agg [.str [],.aV])),gm l0,gt 2 l3 l2] [(7,3),(9,4)]) (sq (r1 [gf 0 s7,gd l0,gm s1,aL l1 l2] 8 3) (.cond s8 (sq (r1 [gm s9,gm l0] 2 1) .ret) .skip)))) (r1 [ax s3 cq,gm l0] 3 1))))))) (sq (r1 [gn (.mv (.c (.int .i64 (-1))))] 2 0) .ret)))⟩
def w663 {Y:Ctx}(hm:(Y.at 0).bd)  (l:List bW)(nm:au)   :dd Y yf (.int .i64 (findF l nm 0)) [.sl 2 (l.map bW.D),.str nm]:=by
 show bH _ _ _ [⟨_,_⟩,⟨_,_⟩,_,_,_,_,_,_,_,_] _;refine ak ?_;refine aF ?_;intro u0;refine aA ?_;refine bh hm (ι:=Nat) (fun i=>[⟨true,.sl 2 (l.map bW.D)⟩,⟨true,.str nm⟩,.un,⟨true,.int .i64 (i:Nat)⟩,⟨true,.int .i64 (l.length:Nat)⟩,.un,⟨true,.sl 2 (l.map bW.D)⟩,.un,.un,.un]) (fun i=>[]) 4 (fun i=>i<=l.length/\findF l nm 0=findF l nm i) (fun i=>l.length-i) 0 ⟨ae,rfl⟩ (dn []) ?_;rintro i ⟨hi,hr⟩;refine aB ?_;refine cw (fun hc0=>?_) fun hc0=>?_
 ·refine aI ?_;first|refine cy (v:=(bW.D _)) ?_|refine eO (v:=(bW.D _)) ?_
  refine aA ?_;refine bL (bW.D l[i]!) (he:=bN) ?_;refine aU ?_;refine eP (fun hc1=>?_) fun hc1=>?_
  ·refine aU ?_;refine cL ?_;rw[hr,zu ae hc1]
  refine aU ?_;exact⟨i+1,⟨ae,by rw[hr,zv ae hc1]⟩,ae,(dn [])⟩
 refine aF ?_;refine cL ?_;rw[hr,wO ae]
def O2 (Y:Ctx):Prop:=∀(l:List bW)(nm:au),Y.pre 663 [.sl 2 (l.map bW.D),.str nm]/\Y.val 663 [.sl 2 (l.map bW.D),.str nm]=.int .i64 (findF l nm 0)
def Ic:aC:=⟨2,3,[⟨2,none⟩],bM,(sq (r1 [gm dt] 2 0) (sq (r1 [gm s1,aL l0 (cs [100,101,102,97,117,108,116]),gm l1,eC 2 s0,eC 2 s1,cl 2 (.call 955 [l3,l4] [[.sl 2 [.a,.sl 1 [.a]]],[.a]]),cl 2 (qG l5 bp),eK l2 l6,gm l7] 2 8) .ret))⟩
def w816 {Y:Ctx}(hm:(Y.at 0).bd)(h955:PA Y)(l:List bW)(nm:au)   :dd Y Ic (.bool (MH l nm)) [.sl 2 (l.map bW.D),.str nm]:=by
 show bH _ _ _ [⟨_,_⟩,⟨_,_⟩,_] _;refine ak ?_;refine bP ?_;refine aq (hc:=h955 _ _) ?_;refine aI ?_;exact bF rfl
def Ps (Y:Ctx):Prop:=∀(l:List bW)(nm:au),Y.pre 816 [.sl 2 (l.map bW.D),.str nm]/\Y.val 816 [.sl 2 (l.map bW.D),.str nm]=.bool (MH l nm)
def v7:aC:=⟨2,3,[⟨2,none⟩],bM,(sq (r1 [gm dt] 2 0) (sq (r1 [gm s1,aL l0 (cs [100,101,102,97,117,108,116]),gm l1,eC 2 s0,eC 2 s1,cl 2 (.call 663 [l3,l4] [[.sl 2 [.a,.sl 1 [.a]]],[.a]]),cl 2 (qG l5 bp),eK l2 l6,gm l7] 2 8) .ret))⟩
def w449 {Y:Ctx}(hm:(Y.at 0).bd)(h663:O2 Y)(l:List bW)(nm:au)   :dd Y v7 (.bool (MH l nm)) [.sl 2 (l.map bW.D),.str nm]:=by
 show bH _ _ _ [⟨_,_⟩,⟨_,_⟩,_] _;refine ak ?_;refine bP ?_;refine aq (hc:=h663 _ _) ?_;refine aI ?_;exact bF rfl
def OB (Y:Ctx):Prop:=∀(l:List bW)(nm:au),Y.pre 449 [.sl 2 (l.map bW.D),.str nm]/\Y.val 449 [.sl 2 (l.map bW.D),.str nm]=.bool (MH l nm)
def Cd:aC:=⟨1,8,[⟨1,none⟩,⟨2,none⟩,⟨3,none⟩],NI,(sq (rg [gm bp,gm cse,gm cse] [(1,0),(2,1),(3,2)]) (sq (sq (r1 [gm s0,gx 357 [l0] bM] 4 1) (.cond s4 (sq (rg [gm s0,gm cq,gm l0,gm cse] [(1,1),(2,2),(3,3)]) .ret) .skip)) (sq (sq (r1 [gm s0,mE l0,cH l1 bp,gm l2,gmt 3 s0,ca 3 (.ixS l4 bp),ca 3 (cM l5 (i8 63)),ew l3 l6,gm l7,gmt 8 s0,ca 8 (.slS l9 (some cq) none),ca 8 (.call 357 [l10] bM),ew l8 im] 5 12) (.cond s5 (sq (rt [gm s0,gn (.slS l0 (some cq) none),gm nM,gm l1,gm cse] [(1,2),(2,3),(3,4)]) .ret) .skip)) (sq (r1 [gm s0,gx 470 [l0,(i8 47)] fV,gm l1] 6 2) (sq (sq (r1 [gm s6,gl l0,aL l1 nM,gm l2,gmt 3 s6,ca 3 (.ia 1 l4 bp),ke 3 l5,ca 3 (.call 216 [l6] bM),ew l3 l7,gm l8,gmt 9 s6,ca 9 (.ia 1 l10 cq),ke 9 im,ca 9 (.call 357 [js] bM),ew l9 ki] 7 14) (.cond s7 (sq (rt [gm s6,ga 1 l0 bp,gd l1,gm s6,ga 1 l3 cq,gd l4,gm ml,gm l2,gm l5] [(1,6),(2,7),(3,8)]) .ret) .skip)) (sq (rg [gm bp,gm cse,gm cse] [(1,0),(2,1),(3,2)]) .ret))))))⟩
def w672 {Y:Ctx}(hm:(Y.at 0).bd)(h216:D2 Y)(h357:Bh Y)(h470:Bi Y)(s:au)  (hp0:s.length<=1048576):dd Y Cd (.tup [.int .i64 (cF s).1,.str (cF s).2.1,.str (cF s).2.2]) [.str s]:=by
 show bH _ _ _ [⟨_,_⟩,_,_,_,_,_,_,_] _;refine ak ?_;refine aU ?_;refine aq (hc:=h357 _) ?_;refine aS ?_;refine cw (fun hc0=>?_) fun hc0=>?_
 ·refine bP ?_;refine bO (fT (aj (D.int .i64) ?_) (aj D.str ?_) (aj D.str ?_));all_goals rw[Da hc0]
 refine aI ?_;intro u0;refine aB ?_;refine mL 0 ?_;refine aE ?_;refine ix 1 (hb:=fun h=>by simp at h;omega) ?_;refine aq (hc:=h357 _) ?_;refine aA ?_;refine cw (fun hc1=>?_) fun hc1=>?_
 ·refine aB ?_;refine ix 1 (hb:=fun h=>ae) ?_;refine aI ?_;refine bO (fT (aj (D.int .i64) ?_) (aj D.str ?_) (aj D.str ?_));all_goals rw[Db hc0 hc1]
 refine aB ?_;refine aq (hc:=h470 _ _ ?_) ?_;rotate_left;first|assumption|omega
 refine aF ?_;intro u1;refine aB ?_;refine cC 0 ?_;refine aS ?_;refine aq (hc:=h216 _) ?_;refine aB ?_;refine cC 1 ?_;refine aS ?_;refine aq (hc:=h357 _) ?_;refine aA ?_;refine cw (fun hc2=>?_) fun hc2=>?_
 ·refine aB ?_;refine cC 0 ?_;refine aA ?_;refine cC 1 ?_;refine aF ?_;refine bO (fT (aj (D.int .i64) ?_) (aj D.str ?_) (aj D.str ?_));all_goals rw[Dc hc0 hc1 hc2]
 refine aU ?_;refine bO (fT (aj (D.int .i64) ?_) (aj D.str ?_) (aj D.str ?_));all_goals rw[C9 hc0 hc1 hc2]
def LM (Y:Ctx):Prop:=∀(s:au),(s.length<=1048576)->Y.pre 672 [.str s]/\Y.val 672 [.str s]=.tup [.int .i64 (cF s).1,.str (cF s).2.1,.str (cF s).2.2]
def Ap:aC:=⟨2,9,[⟨2,none⟩],bM,(sq (r1 [gm dt] 2 0) (sq (sq (r1 [gm s1,gl l0,cH l1 uy,gm l2,eC 3 s1,cl 3 (.call 815 [l4] [[.sl 1 [.a]]]),cl 3 (.un .not l5),eK l3 l6] 3 7) (.cond s3 (sq (r1 [gm dt] 2 0) .ret) .skip)) (sq (sq (r1 [gm bp] 4 0) (.block 0 (.loop (sq (sq (r1 [gm s4,gm s1,gl l1,aP l0 l2] 5 3) (eN s5 0)) (sq (.block 1 (sq (rg [gm s1,gm s4,ga 1 l0 l1,gd l2,gx 672 [l3] bM,gm l4,ge l5 0,ge l5 1,ge l5 2,gm l6,gm l7,gm l8] [(6,9),(7,10)]) (sq (r1 [gm s6,aL l0 bp,gm l1,eC 2 s6,cl 2 (cM l3 cq),eC 2 l4,gmt 5 s0,gmt 5 s7,ca 5 (.call 816 [l6,l7] [[.sl 2 [.a,.sl 1 [.a]]],[.a]]),ca 5 (.un .not l8),zC 2 l5 l9,eK l2 l10] 8 11) (.cond s8 (sq (r1 [gm dt] 2 0) .ret) .skip)))) (r1 [gm s4,ax l0 cq,gm l1] 4 2)))))) (sq (r1 [gm px] 2 0) .ret))))⟩
def w671 {Y:Ctx}(hm:(Y.at 0).bd)(h672:LM Y)(h815:LS Y)(h816:Ps Y)(l:List bW)(of:List au)  (hp0:∀t∈of,t.length<=1048576):dd Y Ap (.bool (jI l of)) [.sl 2 (l.map bW.D),.sl 1 (of.map D.str)]:=by
 show bH _ _ _ [⟨_,_⟩,⟨_,_⟩,_,_,_,_,_,_,_] _;refine ak ?_;refine aF ?_;intro u0;refine aB ?_;refine aq (hc:=h815 _) ?_;refine aB ?_;refine aw (fun hc0=>?_) (fun hc0=>?_)
 ·simp only[cu,aR,bB]at hc0;refine aI ?_;refine bF ?_;symm;simp only[jI];rcases hc0 with h|h
  ·rw[cj ae];rfl
  ·rw[h,Bool.and_false];rfl
 simp only[dc,bx,bY]at hc0;refine aI ?_;have hb:jI l of=cr (fun i=>jH l of[i]!) 0 of.length:=by simp only[jI,hc0.2];rw[bD ae];rfl
 refine bh hm (ι:=Nat) (fun i=>[⟨true,.sl 2 (l.map bW.D)⟩,⟨true,.sl 1 (of.map D.str)⟩,.un,.un,⟨true,.int .i64 (i:Nat)⟩,.un,.un,.un,.un]) (fun i=>[]) 10 (fun i=>i<=of.length/\jI l of=cr (fun i=>jH l of[i]!) i of.length) (fun i=>of.length-i) 0 ⟨ae,hb⟩ (dn []) ?_;rintro i ⟨hi,hr⟩;refine aI ?_;intro u1;refine aA ?_;refine cw (fun hc1=>?_) fun hc1=>?_
 ·refine aU ?_;refine aq (hc:=h672 of[i]! (hp0 _ (bS ae))) ?_;refine vR ?_;refine aq (hc:=h816 _ _) ?_;refine aE ?_;refine wp_cond (fun hc2=>?_) (fun hc2=>?_)
  ·have hz:jH l of[i]! =false:=by simp only[jH,hc2];rfl
   refine aF ?_;refine bF ?_;rw[hr,aK ae,hz];rfl
  have hz:jH l of[i]! =true:=by simp only[jH,hc2];rfl
  refine bP ?_;exact⟨i+1,⟨ae,by rw[hr,aK ae,hz];rfl⟩,ae,(dn [])⟩
 refine aF ?_;refine bF ?_;rw[hr,bV ae]
def O5 (Y:Ctx):Prop:=∀(l:List bW)(of:List au),(∀t∈of,t.length<=1048576)->Y.pre 671 [.sl 2 (l.map bW.D),.sl 1 (of.map D.str)]/\Y.val 671 [.sl 2 (l.map bW.D),.sl 1 (of.map D.str)]=.bool (jI l of)
def Fe:aC:=⟨1,6,fM,bM,(sq (r1 [gm dt] 1 0) (sq (sq (r1 [gm s0,gl l0,cH l1 BJ] 2 2) (jG s2 dt)) (sq (sq (r1 [gm bp] 3 0) (.block 0 (.loop (sq (sq (r1 [gm s3,gm s0,gl l1,aP l0 l2] 4 3) (eN s4 0)) (sq (.block 1 (sq (r2 [gm s0,gm s3,ga 2 l0 l1,gf 0 l2,gd l3,gx 357 [l4] bM,jx l5,gm l6,eC 7 s3,cl 7 (dE l8 bp),eC 7 l9,gmt 10 s0,gmt 10 s3,ca 10 (ju js cq),ca 10 (.ia 2 im ki),lr 10 0 kW,ke 10 me,gmt 10 s0,gmt 10 s3,ca 10 (.ia 2 pJ qB),lr 10 0 rA,ke 10 vT,ca 10 (qG ng wW),zC 7 l10 yo,eK l7 Bd,gm BM,eC 25 s0,eC 25 s0,eC 25 s3,cl 25 (.ia 2 JU K7),hZ 25 1 K8,iT 25 NL,cl 25 (.call 671 [Hk,l31] [[.sl 2 [.a,.sl 1 [.a]]],[.sl 1 [.a]]]),cl 25 (.un .not l32),eK EL l33] 5 34) (jG s5 dt))) (r1 [gm s3,ax l0 cq,gm l1] 3 2)))))) (te px))))⟩
def w459 {Y:Ctx}(hm:(Y.at 0).bd)(h357:Bh Y)(h671:O5 Y)(l:List bW)  (hp0:mZ l):dd Y Fe (.bool (fF l)) [.sl 2 (l.map bW.D)]:=by
 show bH _ _ _ [⟨_,_⟩,_,_,_,_,_] _;refine ak ?_;refine aF ?_;intro u0;refine aA ?_;refine cw (fun hc0=>?_) fun hc0=>?_
 ·refine aI ?_;refine bF ?_;symm;simp only[fF];rw[cj ae];rfl
 refine aI ?_;have hb:fF l=cr (iD l) 0 l.length:=by simp only[fF];rw[bD ae];rfl
 refine bh hm (ι:=Nat) (fun i=>[⟨true,.sl 2 (l.map bW.D)⟩,.un,.un,⟨true,.int .i64 (i:Nat)⟩,.un,.un]) (fun i=>[]) 5 (fun i=>i<=l.length/\fF l=cr (iD l) i l.length) (fun i=>l.length-i) 0 ⟨ae,hb⟩ (dn []) ?_;rintro i ⟨hi,hr⟩;refine aI ?_;intro u1;refine aA ?_;refine cw (fun hc1=>?_) fun hc1=>?_
 ·refine bP ?_;refine aq (hc:=h357 _) ?_;refine bP ?_;refine cC (i-1) ?_;refine vR ?_;refine aq (hc:=h671 l l[i]!.of (hp0 _ (bS ae)).2.2) ?_;refine aB ?_;refine eP (fun hc2=>?_) fun hc2=>?_
  ·refine aF ?_;refine bF ?_;have hz:iD l i=false:=by
    simp only[iD];revert hc2;generalize cb l[i]!.name=z0;generalize Op.bytesLess l[i-1]!.name l[i]!.name=z1;generalize jI l l[i]!.of=z2;by_cases e0:0<i<;>cases z0<;>cases z1<;>cases z2<;>simp_all
   rw[hr,aK ae,hz];rfl
  refine bP ?_;have hz:iD l i=true:=by
   simp only[iD];revert hc2;generalize cb l[i]!.name=z0;generalize Op.bytesLess l[i-1]!.name l[i]!.name=z1;generalize jI l l[i]!.of=z2;by_cases e0:0<i<;>cases z0<;>cases z1<;>cases z2<;>simp_all
  exact⟨i+1,⟨ae,by rw[hr,aK ae,hz];rfl⟩,ae,(dn [])⟩
 refine aF ?_;refine bF ?_;rw[hr,bV ae]
def OI (Y:Ctx):Prop:=∀(l:List bW),(mZ l)->Y.pre 459 [.sl 2 (l.map bW.D)]/\Y.val 459 [.sl 2 (l.map bW.D)]=.bool (fF l)
def yg:aC:=⟨1,12,[⟨1,none⟩,⟨2,none⟩,⟨3,none⟩],NI,(sq (rg [gm bp,gm cse,gm cse] [(1,0),(2,1),(3,2)]) (sq (sq (r1 [gm s0,gx 349 [l0] bM] 4 1) (.cond s4 (sq (rg [gm s0,gm cq,gm l0,gm cse] [(1,1),(2,2),(3,3)]) .ret) .skip)) (sq (sq (rg [gm s0,gx 254 [l0,(cs [63])] fV,gm l1,ge l2 0,ge l2 1,gm l3,gm l4] [(6,5),(5,6)]) (sq (r1 [gm s5,gm l0,gmt 1 s6,ca 1 (.call 349 [l2] bM),ew l1 l3] 7 4) (.cond s7 (sq (rg [gm s6,gm nM,gm l0,gm cse] [(1,1),(2,2),(3,3)]) .ret) .skip))) (sq (sq (rg [gm s0,gx 487 [l0,(cs [47])] fV,gm l1,ge l2 0,ge l2 1,ge l2 2,gm l3,gm l4,gm l5] [(9,6),(10,7),(8,8)]) (sq (r1 [gm s8,gm l0,gmt 1 s9,ca 1 (.call 208 [l2] bM),ew l1 l3,gm l4,gmt 5 iP,ca 5 (.call 349 [l6] bM),ew l5 l7] 11 8) (.cond kp (sq (rg [gm s9,gm iP,gm ml,gm l0,gm l1] [(1,2),(2,3),(3,4)]) .ret) .skip))) (sq (rg [gm bp,gm cse,gm cse] [(1,0),(2,1),(3,2)]) .ret)))))⟩
def w448 {Y:Ctx}(hm:(Y.at 0).bd)(h208:D0 Y)(h254:Lv Y)(h349:Bg Y)(h487:OO Y)(s:au)  (hp0:s.length<=1048576):dd Y yg (.tup [.int .i64 (cF s).1,.str (cF s).2.1,.str (cF s).2.2]) [.str s]:=by
 show bH _ _ _ [⟨_,_⟩,_,_,_,_,_,_,_,_,_,_,_] _;refine ak ?_;refine aU ?_;refine aq (hc:=h349 _) ?_;refine aS ?_;refine cw (fun hc0=>?_) fun hc0=>?_
 ·refine bP ?_;refine bO (fT (aj (D.int .i64) ?_) (aj D.str ?_) (aj D.str ?_));all_goals rw[Da hc0]
 refine aE ?_;refine aq (hc:=h254 s [63] hp0 aM) ?_;refine gy ?_;refine aq (hc:=h349 _) ?_;refine aA ?_;refine cw (fun hc1=>?_) fun hc1=>?_
 ·refine bP ?_;refine bO (fT (aj (D.int .i64) ?_) (aj D.str ?_) (aj D.str ?_));all_goals rw[JP hc0 hc1]
 refine aE ?_;refine aq (hc:=h487 s 47 hp0) ?_;refine lJ ?_;refine aq (hc:=h208 _) ?_;refine aB ?_;refine aq (hc:=h349 _) ?_;refine aA ?_;refine cw (fun hc2=>?_) fun hc2=>?_
 ·refine cU ?_;refine bO (fT (aj (D.int .i64) ?_) (aj D.str ?_) (aj D.str ?_));all_goals rw[JQ hc0 hc1 hc2]
 refine aU ?_;refine bO (fT (aj (D.int .i64) ?_) (aj D.str ?_) (aj D.str ?_));all_goals rw[JO hc0 hc1 hc2]
def Lx (Y:Ctx):Prop:=∀(s:au),(s.length<=1048576)->Y.pre 448 [.str s]/\Y.val 448 [.str s]=.tup [.int .i64 (cF s).1,.str (cF s).2.1,.str (cF s).2.2]
def zt:aC:=⟨1,18,fM,bM,(sq (r1 [gm dt] 1 0) (sq (sq (r1 [gm s0,gl l0,cH l1 BJ] 2 2) (jG s2 dt)) (sq (sq (rg [gm s0,gl l0,gm bp] [(6,0),(4,1),(3,2)]) (.block 0 (.loop (sq (r1 [aP s3 s4] 5 0) (sq (eN s5 0) (sq (.block 1 (sq (rg [gm s3,ga 2 s6 s3,gk 2 true l1,gb 2 (.c (.agg [.str [],.aV])),gm l0,gt 2 l3 l2] [(7,3),(8,4)]) (sq (sq (r2 [gf 0 s7,gd l0,gx 349 [l1] bM,jx l2,gm l3,eC 4 s8,cl 4 (dE l5 bp),eC 4 l6,gmt 7 s0,gmt 7 s8,ca 7 (ju l9 cq),ca 7 (.ia 2 l8 l10),lr 7 0 im,ke 7 js,lr 7 0 s7,ke 7 kW,ca 7 (qG ki me),zC 4 l7 ng,eK l4 pJ,gm qB,hZ 19 1 s7,iT 19 vT,cl 19 (.len wW),cl 19 (dE yo uy),eK rA Bd,gm BM,hZ 25 1 s7,iT 25 Hk,cl 25 (.call 447 [JU] [[.sl 1 [.a]]]),cl 25 (.un .not K7),eK EL K8] 9 30) (jG s9 dt)) (sq (rg [gf 1 s7,gd l0,gl l1,gm bp] [(13,1),(11,2),(10,3)]) (.block 2 (.loop (sq (r1 [aP iP kp] 12 0) (sq (eN mS 2) (sq (.block 3 (sq (r1 [ga 1 qp iP,gd l0,gm l1] 14 2) (sq (rg [gm tq,gx 448 [l0] bM,gm l1,ge l2 0,ge l2 1,ge l2 2,gm l3,gm l4,gm l5] [(15,6),(16,7)]) (sq (r1 [gm wu,aL l0 bp,gm l1,eC 2 wu,cl 2 (cM l3 cq),eC 2 l4,gmt 5 s0,gmt 5 Cw,ca 5 (.call 449 [l6,l7] [[.sl 2 [.a,.sl 1 [.a]]],[.a]]),ca 5 (.un .not l8),zC 2 l5 l9,eK l2 l10] 17 11) (jG Cx dt))))) (r1 [ax iP cq,gm l0] 10 1)))))))))) (r1 [ax s3 cq,gm l0] 3 1))))))) (te px))))⟩
def w213 {Y:Ctx}(hm:(Y.at 0).bd)(h349:Bg Y)(h447:OA Y)(h448:Lx Y)(h449:OB Y)(l:List bW)  (hp0:mZ l):dd Y zt (.bool (fF l)) [.sl 2 (l.map bW.D)]:=by
 show bH _ _ _ [⟨_,_⟩,_,_,_,_,_,_,_,_,_,_,_,_,_,_,_,_,_] _;refine ak ?_;refine aF ?_;intro u0;refine aA ?_;refine cw (fun hc0=>?_) fun hc0=>?_
 ·refine aI ?_;refine bF ?_;symm;simp only[fF];rw[cj ae];rfl
 refine aI ?_;intro u1;refine aA ?_;have hb:fF l=cr (iD l) 0 l.length:=by simp only[fF];rw[bD ae];rfl
 refine bh hm (ι:=Nat) (fun i=>[⟨true,.sl 2 (l.map bW.D)⟩,.un,.un,⟨true,.int .i64 (i:Nat)⟩,⟨true,.int .i64 (l.length:Nat)⟩,.un,⟨true,.sl 2 (l.map bW.D)⟩,.un,.un,.un,.un,.un,.un,.un,.un,.un,.un,.un]) (fun i=>[]) 7 (fun i=>i<=l.length/\fF l=cr (iD l) i l.length) (fun i=>l.length-i) 0 ⟨ae,hb⟩ (dn []) ?_;rintro i ⟨hi,hr⟩;refine aB ?_;refine cw (fun hc1=>?_) fun hc1=>?_
 ·refine aI ?_;first|refine cy (v:=(bW.D _)) ?_|refine eO (v:=(bW.D _)) ?_
  refine aA ?_;refine bL (bW.D l[i]!) (he:=bN) ?_;refine aI ?_;refine aq (hc:=h349 _) ?_;refine bP ?_;refine cC (i-1) ?_;refine ic ?_;refine kd ?_;refine aI ?_;refine aq (hc:=h447 _) ?_;refine aB ?_;refine aw (fun hc2=>?_) (fun hc2=>?_)
  ·have hfo:=Ev hc2;refine aU ?_;refine bF ?_;rw[hr,aK ae,hfo];rfl
  have hfo:=Ew hc2;refine aI ?_;intro u2;refine aA ?_;refine lW hm (ι:=Nat) (fun j=>[⟨true,.sl 2 (l.map bW.D)⟩,.un,.un,⟨true,.int .i64 (i:Nat)⟩,⟨true,.int .i64 (l.length:Nat)⟩,.un,⟨true,.sl 2 (l.map bW.D)⟩,.un,.un,.un,⟨true,.int .i64 (j:Nat)⟩,⟨true,.int .i64 (l[i]!.of.length:Nat)⟩,.un,⟨true,.sl 1 (l[i]!.of.map D.str)⟩,.un,.un,.un,.un]) (fun j=>[]) 49 (fun j=>j<=l[i]!.of.length/\iD l i=cr (fun j=>jH l l[i]!.of[j]!) j l[i]!.of.length) (fun j=>l[i]!.of.length-j) 0 ⟨ae,hfo⟩ (dn []) ?_;rintro j ⟨hj,hjr⟩;refine aB ?_;refine cw (fun hc3=>?_) fun hc3=>?_
  ·refine cU ?_;refine aq (hc:=h448 l[i]!.of[j]! ((hp0 _ (bS ae)).2.2 _ (bS ae))) ?_;refine vR ?_;refine aq (hc:=h449 _ _) ?_;refine aE ?_;refine wp_cond (fun hc4=>?_) (fun hc4=>?_)
   ·have hz:jH l l[i]!.of[j]! =false:=by simp only[jH,hc4];rfl
    refine bP ?_;refine bF ?_;rw[hr,aK ae,hjr,aK ae,hz];rfl
   have hz:jH l l[i]!.of[j]! =true:=by simp only[jH,hc4];rfl
   refine aU ?_;exact⟨j+1,⟨ae,by rw[hjr,aK ae,hz];rfl⟩,ae,(dn [])⟩
  refine bP ?_;exact⟨i+1,⟨ae,by rw[hr,aK ae,hjr,bV ae];rfl⟩,ae,(dn [])⟩
 refine aF ?_;refine bF ?_;rw[hr,bV ae]
def N8 (Y:Ctx):Prop:=∀(l:List bW),(mZ l)->Y.pre 213 [.sl 2 (l.map bW.D)]/\Y.val 213 [.sl 2 (l.map bW.D)]=.bool (fF l)
def Fq:aC:=⟨1,11,fM,bM,(sq (r1 [gm cse] 1 0) (sq (sq (r1 [gm s0] 2 0) (.block 0 (sq (r1 [aL s2 cq,gm l0] 3 1) (.cond s3 (sq (r1 [gm (cs [61])] 1 0) .ret) (sq (r1 [aL s2 nM,gm l0] 4 1) (.cond s4 (sq (r1 [gm (cs [33,61])] 1 0) .ret) (sq (r1 [aL s2 ml,gm l0] 5 1) (.cond s5 (sq (r1 [gm (cs [60])] 1 0) .ret) (sq (r1 [aL s2 tg,gm l0] 6 1) (.cond s6 (sq (r1 [gm (cs [60,61])] 1 0) .ret) (sq (r1 [aL s2 NJ,gm l0] 7 1) (.cond s7 (sq (r1 [gm (cs [62])] 1 0) .ret) (sq (r1 [aL s2 uy,gm l0] 8 1) (.cond s8 (sq (r1 [gm (cs [62,61])] 1 0) .ret) (sq (r1 [aL s2 Hg,gm l0] 9 1) (.cond s9 (sq (r1 [gm (cs [94])] 1 0) .ret) (sq (r1 [aL s2 BJ,gm l0] 10 1) (.cond iP (sq (r1 [gm (cs [126])] 1 0) .ret) .skip)))))))))))))))))) (te cse)))⟩
def w678 {Y:Ctx}(hm:(Y.at 0).bd)  (op:Int)   :dd Y Fq (.str (cR op)) [.int .i64 op]:=by
 show bH _ _ _ [⟨_,_⟩,_,_,_,_,_,_,_,_,_,_] _;refine ak ?_;refine gy ?_;refine eP (fun hc0=>?_) fun hc0=>?_
 ·refine aI ?_;refine cD ?_;unfold cR;simp_all
 refine aE ?_;refine eP (fun hc1=>?_) fun hc1=>?_
 ·refine aI ?_;refine cD ?_;unfold cR;simp_all
 refine aE ?_;refine eP (fun hc2=>?_) fun hc2=>?_
 ·refine aI ?_;refine cD ?_;unfold cR;simp_all
 refine aE ?_;refine eP (fun hc3=>?_) fun hc3=>?_
 ·refine aI ?_;refine cD ?_;unfold cR;simp_all
 refine aE ?_;refine eP (fun hc4=>?_) fun hc4=>?_
 ·refine aI ?_;refine cD ?_;unfold cR;simp_all
 refine aE ?_;refine eP (fun hc5=>?_) fun hc5=>?_
 ·refine aI ?_;refine cD ?_;unfold cR;simp_all
 refine aE ?_;refine eP (fun hc6=>?_) fun hc6=>?_
 ·refine aI ?_;refine cD ?_;unfold cR;simp_all
 refine aE ?_;refine eP (fun hc7=>?_) fun hc7=>?_
 ·refine aI ?_;refine cD ?_;unfold cR;simp_all
 refine aF ?_;refine cD ?_;unfold cR;simp_all
def LP (Y:Ctx):Prop:=∀(op:Int),Y.pre 678 [.int .i64 op]/\Y.val 678 [.int .i64 op]=.str (cR op)
def Ep:aC:=⟨1,11,fM,bM,(sq (r1 [gm cse] 1 0) (sq (sq (r1 [gm s0] 2 0) (.block 0 (sq (r1 [aL s2 cq,gm l0] 3 1) (.cond s3 (sq (r1 [gm (cs [61])] 1 0) .ret) (sq (r1 [aL s2 nM,gm l0] 4 1) (.cond s4 (sq (r1 [gm (cs [33,61])] 1 0) .ret) (sq (r1 [aL s2 ml,gm l0] 5 1) (.cond s5 (sq (r1 [gm (cs [60])] 1 0) .ret) (sq (r1 [aL s2 tg,gm l0] 6 1) (.cond s6 (sq (r1 [gm (cs [60,61])] 1 0) .ret) (sq (r1 [aL s2 NJ,gm l0] 7 1) (.cond s7 (sq (r1 [gm (cs [62])] 1 0) .ret) (sq (r1 [aL s2 uy,gm l0] 8 1) (.cond s8 (sq (r1 [gm (cs [62,61])] 1 0) .ret) (sq (r1 [aL s2 Hg,gm l0] 9 1) (.cond s9 (sq (r1 [gm (cs [94])] 1 0) .ret) (sq (r1 [aL s2 BJ,gm l0] 10 1) (.cond iP (sq (r1 [gm (cs [126])] 1 0) .ret) .skip)))))))))))))))))) (te cse)))⟩
def w957 {Y:Ctx}(hm:(Y.at 0).bd)  (op:Int)   :dd Y Ep (.str (cR op)) [.int .i64 op]:=by
 show bH _ _ _ [⟨_,_⟩,_,_,_,_,_,_,_,_,_,_] _;refine ak ?_;refine gy ?_;refine eP (fun hc0=>?_) fun hc0=>?_
 ·refine aI ?_;refine cD ?_;unfold cR;simp_all
 refine aE ?_;refine eP (fun hc1=>?_) fun hc1=>?_
 ·refine aI ?_;refine cD ?_;unfold cR;simp_all
 refine aE ?_;refine eP (fun hc2=>?_) fun hc2=>?_
 ·refine aI ?_;refine cD ?_;unfold cR;simp_all
 refine aE ?_;refine eP (fun hc3=>?_) fun hc3=>?_
 ·refine aI ?_;refine cD ?_;unfold cR;simp_all
 refine aE ?_;refine eP (fun hc4=>?_) fun hc4=>?_
 ·refine aI ?_;refine cD ?_;unfold cR;simp_all
 refine aE ?_;refine eP (fun hc5=>?_) fun hc5=>?_
 ·refine aI ?_;refine cD ?_;unfold cR;simp_all
 refine aE ?_;refine eP (fun hc6=>?_) fun hc6=>?_
 ·refine aI ?_;refine cD ?_;unfold cR;simp_all
 refine aE ?_;refine eP (fun hc7=>?_) fun hc7=>?_
 ·refine aI ?_;refine cD ?_;unfold cR;simp_all
 refine aF ?_;refine cD ?_;unfold cR;simp_all
def L1 (Y:Ctx):Prop:=∀(op:Int),Y.pre 957 [.int .i64 op]/\Y.val 957 [.int .i64 op]=.str (cR op)
def Az:aC:=⟨2,3,[⟨2,none⟩],bM,(sq (r1 [gm dt] 2 0) (sq (r1 [gm s0,mE l0,gm s1,mE l2,gB l1 l3,gm l4,gmt 5 s0,gmt 5 s1,ca 5 (.lenS l7),ca 5 (.slS l6 none (some l8)),gmt 5 s1,ca 5 (cM l9 l10),ew l5 im,gm js] 2 13) .ret))⟩
def RZ {Y:Ctx}(hm:(Y.at 0).bd)  (s:au)(w:au)   :dd Y Az (.bool (nJ s w)) [.str s,.str w]:=by
 show bH _ _ _ [⟨_,_⟩,⟨_,_⟩,_] _;refine ak ?_;refine aI ?_;intro u0;refine aA ?_;intro u1;refine aE ?_;refine kd ?_;refine oD w.length (hj:=fun _=>rfl) (hb:=fun h=>by simp at h;omega) ?_;refine aF ?_;refine bF ?_;unfold nJ;rw[show decide ((w.length:Int)<=(s.length:Int))=decide (w.length<=s.length)from dz.2 ae]
def KD (Y:Ctx):Prop:=∀(s:au)(w:au),Y.pre 1079 [.str s,.str w]/\Y.val 1079 [.str s,.str w]=.bool (nJ s w)
def zk:aC:=⟨2,3,[⟨2,none⟩],bM,(sq (r1 [gm dt] 2 0) (sq (r1 [gm s0,mE l0,gm s1,mE l2,gB l1 l3,gm l4,gmt 5 s0,gmt 5 s1,ca 5 (.lenS l7),ca 5 (.slS l6 none (some l8)),gmt 5 s1,ca 5 (cM l9 l10),ew l5 im,gm js] 2 13) .ret))⟩
def w956 {Y:Ctx}(hm:(Y.at 0).bd)  (s:au)(w:au)   :dd Y zk (.bool (nJ s w)) [.str s,.str w]:=by
 show bH _ _ _ [⟨_,_⟩,⟨_,_⟩,_] _;refine ak ?_;refine aI ?_;intro u0;refine aA ?_;intro u1;refine aE ?_;refine kd ?_;refine oD w.length (hj:=fun _=>rfl) (hb:=fun h=>by simp at h;omega) ?_;refine aF ?_;refine bF ?_;unfold nJ;rw[show decide ((w.length:Int)<=(s.length:Int))=decide (w.length<=s.length)from dz.2 ae]
def PC (Y:Ctx):Prop:=∀(s:au)(w:au),Y.pre 956 [.str s,.str w]/\Y.val 956 [.str s,.str w]=.bool (nJ s w)
def Ik:aC:=⟨1,8,fM,bM,(sq (rg [gb 7 s0,gm dt] [(2,0),(1,1)]) (sq (sq (r1 [gf 0 s2,gd l0,aP l1 cq,gm l2,hZ 3 0 s2,iT 3 l4,cl 3 (dE l5 Bc),eK l3 l6,gm l7,hZ 8 2 s2,cl 8 (.ld 5 true l9),cl 8 (.call 217 [l10] wg),cl 8 (.un .not im),eK l8 js,gm ki,hZ 14 2 s2,hZ 14 4 me,iT 14 ng,cl 14 (eW pJ cse),eK kW qB] 3 19) (jG s3 dt)) (sq (rg [gm cq,gm ml] [(5,0),(6,1)]) (sq (sq (r1 [gf 0 s2,gd l0,aL l1 Bc] 4 2) (.cond s4 (rg [gm bp,gm nM] [(5,0),(6,1)]) .skip)) (sq (sq (r1 [gf 1 s2,gd l0,gm s5,aP l1 l2,gm l3,hZ 4 1 s2,iT 4 l5,eC 4 s6,cl 4 (dE l6 l7),eK l4 l8,gm l9,hZ 10 1 s2,iT 10 im,cl 10 (qH js ml),eC 10 ki,lr 14 2 s2,lr 14 3 me,ke 14 ng,ca 14 (eW pJ cse),zC 10 kW qB,eK l10 rA] 7 20) (jG s7 dt)) (sq (r1 [gf 1 s2,gd l0,cH l1 bp,gm l2,hZ 3 2 s2,hZ 3 0 l4,iT 3 l5,cl 3 (cM l6 bp),eK l3 l7,gm l8,lr 9 1 s2,ke 9 l10,ca 9 (dE im cq),gmt 9 js,hZ 13 2 s2,hZ 13 1 kW,iT 13 me,cl 13 (cM ng bp),MD 9 ki pJ,ew l9 qB,gm rA,lr 20 1 s2,ke 20 wW,ca 20 (dE yo nM),gmt 20 Bd,hZ 24 2 s2,hZ 24 2 EL,iT 24 Hk,cl 24 (cM JU bp),MD 20 BM K7,ew vT K8,gm NL] 1 31) .ret))))))⟩
def w676 {Y:Ctx}(hm:(Y.at 0).bd)(h217:D3 Y)(c:cG)  (hp0:c.v.sm):dd Y Ik (.bool (jC c)) [cG.D c]:=by
 show bH _ _ _ [⟨_,_⟩,_,_,_,_,_,_,_] _;refine ak ?_;refine vP ?_;refine bR (v:=bX.D c.v) ?_;refine dq (hc:=fun hf=>h217 c.v hp0) ?_;refine cU ?_;refine aw (fun hc0=>?_) (fun hc0=>?_)
 ·have hq:=zj hc0;refine aI ?_;refine bF ?_;rw[hq]
 have hy:=wH hc0;refine gy ?_;refine aw (fun hc1=>?_) (fun hc1=>?_)
 ·simp only[aR]at hc1;have hz:=oU hy (lo:=0) (hi:=2) (av hc1) (av hc1);refine IP ?_;refine aw (fun hc2=>?_) (fun hc2=>?_)
  ·rw[hc2]at hz;refine aI ?_;refine bF ?_;rw[hz];rfl
  rw[hc2]at hz;refine Lo ?_;refine bF ?_;rw[hz];rfl
 simp only[bx]at hc1;have hz:=oU hy (lo:=1) (hi:=3) (ai hc1) (ai hc1);refine Ln ?_;refine aw (fun hc2=>?_) (fun hc2=>?_)
 ·rw[hc2]at hz;refine aI ?_;refine bF ?_;rw[hz];rfl
 rw[hc2]at hz;refine Lo ?_;refine bF ?_;rw[hz];rfl
def LN (Y:Ctx):Prop:=∀(c:cG),(c.v.sm)->Y.pre 676 [cG.D c]/\Y.val 676 [cG.D c]=.bool (jC c)
def GM:aC:=⟨1,14,fM,bM,(sq (rg [gb 7 s0,gm dt] [(2,0),(1,1)]) (sq (sq (r1 [gf 0 s2,gd l0,aP l1 cq,gm l2,hZ 3 0 s2,iT 3 l4,cl 3 (dE l5 Bc),eK l3 l6,gm l7,hZ 8 2 s2,cl 8 (.ld 5 true l9),cl 8 (.call 209 [l10] wg),cl 8 (.un .not im),eK l8 js,gm ki,hZ 14 2 s2,hZ 14 4 me,iT 14 ng,cl 14 (eW pJ cse),eK kW qB] 3 19) (jG s3 dt)) (sq (rg [gm cq,gm ml] [(5,0),(6,1)]) (sq (sq (r1 [gf 0 s2,gd l0,aL l1 Bc] 4 2) (.cond s4 (rg [gm bp,gm nM] [(5,0),(6,1)]) .skip)) (sq (sq (r1 [gf 1 s2,gd l0,gm s5,aP l1 l2,gm l3,hZ 4 1 s2,iT 4 l5,eC 4 s6,cl 4 (dE l6 l7),eK l4 l8,gm l9,hZ 10 2 s2,hZ 10 3 im,iT 10 js,cl 10 (eW ki cse),eC 10 kW,lr 15 1 s2,ke 15 ng,ca 15 (qH pJ ml),zC 10 me qB,eK l10 rA] 7 20) (jG s7 dt)) (sq (sq (r1 [gf 1 s2,gd l0] 8 1) (.block 0 (sq (.block 3 (sq (.block 2 (sq (.block 1 (sq (sq (sq (r1 [aL s8 bp,gm l0] 9 1) (.cond s9 (.exit 1) .skip)) (sq (sq (r1 [aL s8 cq,gm l0] 10 1) (.cond iP (.exit 2) .skip)) (sq (r1 [aL s8 nM,gm l0] 11 1) (.cond kp (.exit 3) .skip)))) (.exit 0))) (sq (r1 [gf 2 s2,gf 0 l0,gd l1,cg l2 bp] 12 3) (jG mS dt)))) (sq (r1 [gf 2 s2,gf 1 l0,gd l1,cg l2 bp] 13 3) (jG qp dt)))) (sq (sq (r1 [gf 2 s2,gf 2 l0,gd l1,aL l2 bp,gm l3] 1 4) .ret) (.exit 0))))) (te px)))))))⟩
def w827 {Y:Ctx}(hm:(Y.at 0).bd)(h209:D1 Y)(c:cG)  (hp0:c.v.sm):dd Y GM (.bool (jC c)) [cG.D c]:=by
 show bH _ _ _ [⟨_,_⟩,_,_,_,_,_,_,_,_,_,_,_,_,_] _;refine ak ?_;refine vP ?_;refine bR (v:=bX.D c.v) ?_;refine dq (hc:=fun hf=>h209 c.v hp0) ?_;refine cU ?_;refine aw (fun hc0=>?_) (fun hc0=>?_)
 ·have hq:=zj hc0;refine aI ?_;refine bF ?_;rw[hq]
 have hy:=wH hc0;refine gy ?_;refine aw (fun hc1=>?_) (fun hc1=>?_)
 ·simp only[aR]at hc1;have hz:=oU hy (lo:=0) (hi:=2) (av hc1) (av hc1);refine IP ?_;refine aw (fun hc2=>?_) (fun hc2=>?_)
  ·rw[Bool.and_comm (!decide (c.v.pre=[]))]at hc2;rw[hc2]at hz;refine aI ?_;refine bF ?_;rw[hz];simp[nK]<;>simp_all<;>omega
  rw[Bool.and_comm (!decide (c.v.pre=[]))]at hc2;rw[hc2]at hz;refine vQ ?_;refine cw (fun hc3=>?_) fun hc3=>?_
  ·refine bP ?_;refine eP (fun hc6=>?_) fun hc6=>?_
   ·refine aU ?_;refine bF ?_;rw[hz];simp[nK]<;>simp_all<;>omega
   refine bP ?_;refine eP (fun hc7=>?_) fun hc7=>?_
   ·refine aF ?_;refine bF ?_;rw[hz];simp[nK]<;>simp_all<;>omega
   refine gW ?_;refine bF ?_;rw[hz];simp[nK]<;>simp_all<;>omega
  refine aU ?_;refine cw (fun hc4=>?_) fun hc4=>?_
  ·refine cU ?_;refine eP (fun hc7=>?_) fun hc7=>?_
   ·refine aF ?_;refine bF ?_;rw[hz];simp[nK]<;>simp_all<;>omega
   refine gW ?_;refine bF ?_;rw[hz];simp[nK]<;>simp_all<;>omega
  refine aF ?_;refine cw (fun hc5=>?_) fun hc5=>?_
  ·refine A8 ?_;refine bF ?_;rw[hz];simp[nK]<;>simp_all<;>omega
  refine ic ?_;refine bF ?_;rw[hz];simp[nK]<;>simp_all<;>omega
 simp only[bx]at hc1;have hz:=oU hy (lo:=1) (hi:=3) (ai hc1) (ai hc1);refine Ln ?_;refine aw (fun hc2=>?_) (fun hc2=>?_)
 ·rw[Bool.and_comm (!decide (c.v.pre=[]))]at hc2;rw[hc2]at hz;refine aI ?_;refine bF ?_;rw[hz];simp[nK]<;>simp_all<;>omega
 rw[Bool.and_comm (!decide (c.v.pre=[]))]at hc2;rw[hc2]at hz;refine vQ ?_;refine cw (fun hc3=>?_) fun hc3=>?_
 ·refine bP ?_;refine eP (fun hc6=>?_) fun hc6=>?_
  ·refine aU ?_;refine bF ?_;rw[hz];simp[nK]<;>simp_all<;>omega
  refine bP ?_;refine eP (fun hc7=>?_) fun hc7=>?_
  ·refine aF ?_;refine bF ?_;rw[hz];simp[nK]<;>simp_all<;>omega
  refine gW ?_;refine bF ?_;rw[hz];simp[nK]<;>simp_all<;>omega
 refine aU ?_;refine cw (fun hc4=>?_) fun hc4=>?_
 ·refine cU ?_;refine eP (fun hc7=>?_) fun hc7=>?_
  ·refine aF ?_;refine bF ?_;rw[hz];simp[nK]<;>simp_all<;>omega
  refine gW ?_;refine bF ?_;rw[hz];simp[nK]<;>simp_all<;>omega
 refine aF ?_;refine cw (fun hc5=>?_) fun hc5=>?_
 ·refine A8 ?_;refine bF ?_;rw[hz];simp[nK]<;>simp_all<;>omega
 refine ic ?_;refine bF ?_;rw[hz];simp[nK]<;>simp_all<;>omega
def I9 (Y:Ctx):Prop:=∀(c:cG),(c.v.sm)->Y.pre 827 [cG.D c]/\Y.val 827 [cG.D c]=.bool (jC c)
def Bw:aC:=⟨1,16,fM,bM,(sq (rg [gb 7 s0,gm cse] [(2,0),(1,1)]) (sq (sq (r1 [gk 7 true s2,gx 827 [l0] JI,jx l1] 3 2) (jG s3 cse)) (sq (r1 [gf 0 s2,gd l0,gx 957 [l1] bM,gm l2] 11 3) (sq (sq (rg [gf 2 s2,gf 0 l0,gd l1,gf 2 s2,gf 1 l3,gd l4,gf 2 s2,gf 2 l6,gd l7,gn (.bsl 1 (.int .i64 0) 3 [(0,l2),(1,l5),(2,l8)]),gl l9,gm bp] [(7,9),(5,10),(4,11)]) (.block 0 (.loop (sq (r1 [aP s4 s5] 6 0) (sq (eN s6 0) (sq (.block 1 (sq (rg [gm s4,ga 1 s7 s4,gd l1,gm l0,gm l2] [(8,3),(12,4)]) (sq (sq (r1 [gm s8,gf 1 s2,gd l1,gB l0 l2] 9 3) (.cond s9 (.exit 0) .skip)) (sq (sq (r1 [gm s8,cH l0 bp] 10 1) (.cond iP (r1 [gm kp,ax l0 (cs [46]),gm l1] 11 2) .skip)) (r1 [gm kp,gm mS,gx 665 [l1] bM,ax l0 l2,gm l3] 11 4))))) (r1 [ax s4 cq,gm l0] 4 1))))))) (sq (sq (r1 [gf 0 s2,gd l0,aL l1 Bc] 13 2) (.cond qp (sq (sq (r1 [gf 1 s2,gd l0,cH l1 bp] 14 2) (.cond tq (r1 [gm kp,ax l0 (cs [46]),gm l1] 11 2) .skip)) (sq (r1 [gm kp,ax l0 (cs [42]),gm l1] 1 2) .ret)) .skip)) (sq (sq (r1 [gf 2 s2,gf 3 l0,gd l1,cg l2 cse] 15 3) (.cond wu (r1 [gm kp,gf 2 s2,gf 3 l1,gd l2,ax (cs [45]) l3,ax l0 l4,gm l5] 11 6) .skip)) (sq (r1 [gm kp,gm l0] 1 1) .ret)))))))⟩
def w828 {Y:Ctx}(hm:(Y.at 0).bd)(h665:LJ Y)(h827:I9 Y)(h957:L1 Y)(c:cG)  (hp0:c.v.sm):dd Y Bw (.str (dk c)) [cG.D c]:=by
 show bH _ _ _ [⟨_,_⟩,_,_,_,_,_,_,_,_,_,_,_,_,_,_,_] _;refine ak ?_;refine aF ?_;refine aq (hc:=h827 _ ?_) ?_;rotate_left;first|assumption|omega
 refine aA ?_;refine aw (fun hc0=>?_) (fun hc0=>?_)
 ·simp only[bB]at hc0;refine aI ?_;refine cD ?_;simp[dk,hc0]
 simp only[bY]at hc0;obtain⟨hv,hp1,hp2,hp3,hp4⟩:=mz hc0;have hsl:=sk c.op;have hnl:=pg hv;refine aE ?_;refine aq (hc:=h957 _) ?_;refine lJ ?_;refine dK [(.int _ _),(.int _ _),(.int _ _)] ?_;refine aS ?_;intro u0;refine aA ?_;refine lI 18 ?_;refine bh hm (ι:=Nat) (fun i=>[.un,.un,⟨true,.ptr 0 7 0 0⟩,.un,⟨true,.int .i64 (i:Nat)⟩,⟨true,.int .i64 3⟩,.un,⟨true,.sl 1 (c.j3.map (D.int .i64))⟩,.un,.un,.un,⟨true,.str (cR c.op++eZ c i)⟩,.un,.un,.un,.un]) (fun i=>[(0,.buf 7 [cG.D c])]) 21 (fun i=>i<=3/\i<=c.parts.toNat) (fun i=>3-i) 0 ⟨ae,ae⟩ (bj.to [(0,0)] ah ah (by repeat(first|exact c9.nil|refine c9.un ?_|refine c9.eq ah ?_|refine c9.nl (aj D.str (by first|(simp only[eZ,av hpos,dG];done)|(simp only[eZ,ai hpos,dG,eG];done)|simp[eZ])) ah ?_|refine c9.nl ah ah ?_)) nP) ?_;rintro i ⟨hi,hip⟩;have hni:=hnl i;have hfit:=oy hv i;have hn3:c.j3.length=3:=rfl;refine aB ?_;refine cw (fun hc1=>?_) fun hc1=>?_
 ·refine vQ ?_;refine cw (fun hc2=>?_) fun hc2=>?_
  ·refine aI ?_;obtain rfl:i=c.parts.toNat:=ae;refine aE ?_;refine cw (fun hc4=>?_) fun hc4=>?_
   ·refine aU ?_;refine cw (fun hc5=>?_) fun hc5=>?_
    ·refine aA ?_;refine eo ?_;refine aI ?_;refine eo ?_;refine aB ?_;refine cD ?_;simp[dk,jW,jA,hc0, *]
    refine aE ?_;refine eo ?_;refine aB ?_;refine cD ?_;simp[dk,jW,jA,hc0, *]
   refine bP ?_;refine cw (fun hc6=>?_) fun hc6=>?_
   ·refine aS ?_;have hpl:=hp0.1;refine aE ?_;refine eo ?_;refine eo ?_;refine aU ?_;refine cD ?_;simp[dk,jW,jA,hc0, *]
   refine aF ?_;refine cD ?_;simp[dk,jW,jA,hc0, *]
  refine aF ?_;refine aw (fun hc3=>?_) (fun hc3=>?_)
  ·simp only[aR]at hc3;have hpos:0<i:=ae;refine aA ?_;refine eo ?_;refine aI ?_;refine aq (hc:=h665 (c.j3[i]!) ⟨hfit.1,hfit.2⟩) ?_;have hdl:=dT 4 (c.j3[i]!).toNat ae ae;refine eo ?_;refine bP ?_;exact⟨i+1,⟨ae,ae⟩,ae,(bj.to [(0,0)] ah ah (by repeat(first|exact c9.nil|refine c9.un ?_|refine c9.eq ah ?_|refine c9.nl (aj D.str (by first|(simp only[eZ,av hpos,dG];done)|(simp only[eZ,ai hpos,dG,eG];done)|simp[eZ])) ah ?_|refine c9.nl ah ah ?_)) nP)⟩
  simp only[bx]at hc3;have hpos:¬0<i:=ae;refine aE ?_;refine aq (hc:=h665 (c.j3[i]!) ⟨hfit.1,hfit.2⟩) ?_;have hdl:=dT 4 (c.j3[i]!).toNat ae ae;refine eo ?_;refine bP ?_;exact⟨i+1,⟨ae,ae⟩,ae,(bj.to [(0,0)] ah ah (by repeat(first|exact c9.nil|refine c9.un ?_|refine c9.eq ah ?_|refine c9.nl (aj D.str (by first|(simp only[eZ,av hpos,dG];done)|(simp only[eZ,ai hpos,dG,eG];done)|simp[eZ])) ah ?_|refine c9.nl ah ah ?_)) nP)⟩
 refine aE ?_;obtain rfl:i=c.parts.toNat:=ae;refine aE ?_;refine cw (fun hc4=>?_) fun hc4=>?_
 ·refine aU ?_;refine cw (fun hc5=>?_) fun hc5=>?_
  ·refine aA ?_;refine eo ?_;refine aI ?_;refine eo ?_;refine aB ?_;refine cD ?_;simp[dk,jW,jA,hc0, *]
  refine aE ?_;refine eo ?_;refine aB ?_;refine cD ?_;simp[dk,jW,jA,hc0, *]
 refine bP ?_;refine cw (fun hc6=>?_) fun hc6=>?_
 ·refine aS ?_;have hpl:=hp0.1;refine aE ?_;refine eo ?_;refine eo ?_;refine aU ?_;refine cD ?_;simp[dk,jW,jA,hc0, *]
 refine aF ?_;refine cD ?_;simp[dk,jW,jA,hc0, *]
def LU (Y:Ctx):Prop:=∀(c:cG),(c.v.sm)->Y.pre 828 [cG.D c]/\Y.val 828 [cG.D c]=.str (dk c)
def si:aC:=⟨1,4,fM,[[.sl 1 [.a]]],(sq (rg [gb 7 s0,gm (.c (.aV))] [(2,0),(1,1)]) (sq (r2 [gf 2 s2,gf 0 l0,gd l1,gx 734 [l2] bM,gf 2 s2,gf 1 l4,gd l5,gx 734 [l6] bM,gf 2 s2,gf 2 l8,gd l9,gx 734 [l10] bM,gn (.bsl 1 (.str []) 3 [(0,l3),(1,l7),(2,im)]),gm js] 3 13) (sq (r1 [gm s3,gf 1 s2,gd l1,gn (.slA 1 l0 none (some l2)),gm l3] 1 4) .ret)))⟩
def w677 {Y:Ctx}(hm:(Y.at 0).bd)(c:cG)(h734:LR Y)(hp0:eF c.v=true/\0<=c.parts/\c.parts<=3):bH (Y.at 0) si.body (lL si (One (.own 14 1 0 c.parts.toNat) [(0,.buf 7 [cG.D c]),(14,.buf 1 [.str (dw c.v.major.toNat),.str (dw c.v.minor.toNat),.str (dw c.v.patch.toNat)])]):Ex->List bI->St->Prop) (gG si [cG.D c]) ⟨0,[]⟩:=by
 show bH _ _ _ [⟨_,_⟩,_,_,_] _;refine ak ?_;refine aU ?_;refine aq (hc:=h734 c.v.major (oy hp0.1 0)) ?_;refine aB ?_;refine aq (hc:=h734 c.v.minor (oy hp0.1 1)) ?_;refine aB ?_;refine aq (hc:=h734 c.v.patch (oy hp0.1 2)) ?_;refine dK [.str _,.str _,.str _] ?_;refine aF ?_;refine vc c.parts.toNat (hj:=fun _=>ae) (hb:=fun _=>ae) ?_;refine aB ?_;refine cS trivial gR (dM ah (?_)) ah (oneq _ _);rfl
def LO (Y:Ctx):Prop:=∀(c:cG),(eF c.v=true/\0<=c.parts/\c.parts<=3)->∀(nx:Nat)(m:List (Nat×bK))(K:D->St->Prop),K (.own nx 1 0 c.parts.toNat) ⟨nx+1,(nx,.buf 1 [.str (dw c.v.major.toNat),.str (dw c.v.minor.toNat),.str (dw c.v.patch.toNat)])::m⟩->Y.tr 677 [cG.D c] ⟨nx,m⟩ K
def Co:aC:=⟨1,8,fM,bM,(sq (rg [gb 7 s0,gm cse] [(2,0),(1,1)]) (sq (sq (r1 [gk 7 true s2,gx 676 [l0] JI,jx l1] 3 2) (jG s3 cse)) (sq (r1 [gk 7 true s2,gn (.callM 677 [l0]),gm l1] 5 2) (sq (sq (r1 [gf 0 s2,gd l0,aL l1 Bc] 4 2) (.cond s4 (sq (r1 [gm s5,gf 1 s2,gd l1,gf 1 s2,gd l3,gn (.slX 1 l0 l2 l4),gn (.bsl 1 (.str []) 1 [(0,(cs [42]))]),gn (.app 1 l5 l6),gx 249 [l7,(i8 46)] [[.sl 1 [.a]],[.a]],gm l8] 1 9) .ret) .skip)) (sq (r1 [gf 0 s2,gd l0,gx 678 [l1] bM,gm s5,gx 249 [l3,(i8 46)] [[.sl 1 [.a]],[.a]],ax l2 l4,gm l5] 7 6) (sq (sq (r1 [gf 2 s2,gf 3 l0,gd l1,cg l2 cse] 6 3) (.cond s6 (r1 [gm s7,ax l0 (cs [45]),gf 2 s2,gf 3 l2,gd l3,ax l1 l4,gm l5] 7 6) .skip)) (sq (r1 [gm s7,gm l0] 1 1) .ret)))))))⟩
def w482 {Y:Ctx}(hm:(Y.at 0).bd)(h249:I1 Y)(h676:LN Y)(h677:LO Y)(h678:LP Y)(c:cG)  (hp0:c.v.sm):dd Y Co (.str (dk c)) [cG.D c]:=by
 show bH _ _ _ [⟨_,_⟩,_,_,_,_,_,_,_] _;refine ak ?_;refine aF ?_;refine aq (hc:=h676 _ ?_) ?_;rotate_left;first|assumption|omega
 refine aA ?_;refine aw (fun hc0=>?_) (fun hc0=>?_)
 ·simp only[bB]at hc0;refine aI ?_;refine cD ?_;simp[dk,hc0]
 simp only[bY]at hc0;obtain⟨hv,hp1,hp2,hp3,hp4⟩:=mz hc0;have hsl:=sk c.op;have hnl:=pg hv c.parts.toNat;have htl:=AW hp2;have hj1:=xE hp2;have hj2:=sz hp1 hp2;have hl2:=aj List.length hj2;have hl1:=aj List.length hj1;simp only[bA,List.length_singleton]at hl2;have hi2:(if 0<c.parts then([46]:au)else []).length<=1:=by split<;>simp
 refine aB ?_;refine cd (nx':=6) (v:=.own 6 1 0 c.parts.toNat) (m':=[(6,.buf 1 [.str (dw c.v.major.toNat),.str (dw c.v.minor.toNat),.str (dw c.v.patch.toNat)]),(0,.buf 7 [cG.D c])]) (hc:=fun K' hK=>h677 c ⟨hv,hp1,hp2⟩ _ _ K' hK) (hn:=aM) ?_;refine bP ?_;refine cw (fun hc1=>?_) fun hc1=>?_
 ·refine aU ?_;refine Nr c.parts.toNat (hj:=fun _=>ae) (hb:=fun _=>ae) ?_;refine dK [.str _] ?_;refine va ((j6 c++[[42]]).map D.str) (n:=(j6 c++[[42]]).length) (ha:=cz) (he:=sC.own rfl aT) (hz:=by rw[dx,vB,List.map_append];rfl) (hn:=cz) (hb:=cz) ?_;refine aq (hc:=h249 (j6 c++[[42]]) 46 (by rw[hj2];simp only[bA,List.length_singleton];omega)) (ha:=fun _=>aj (fun d=>[d,D.int .u8 46]) (lX (q:=D.str) (fun _=>rfl) ah)) (hp:=fun _=>⟨j9 (q:=D.str) (fun _=>rfl) ah,rfl,trivial⟩) ?_;refine aB ?_;refine cD ?_;rw[dk,av hc0,hj2];simp[jW,jA,hc1,cR]
 refine aE ?_;refine aq (hc:=h678 _) ?_;refine aS ?_;refine aq (hc:=h249 (j6 c) 46 (by rw[hj1];omega)) (ha:=fun _=>aj (fun d=>[d,D.int .u8 46]) (Ku ah)) (hp:=fun _=>⟨Iz hp2 ah,rfl,trivial⟩) ?_;refine df (hb:=fun _=>ae) ?_;refine cU ?_;refine cw (fun hc2=>?_) fun hc2=>?_
 ·refine aS ?_;have hpl:=hp0.1;refine aS ?_;refine eo ?_;refine aB ?_;refine eo ?_;refine aU ?_;refine cD ?_;rw[dk,av hc0,hj1];simp[jW,jA,hc1,hc2]
 refine aF ?_;refine cD ?_;rw[dk,av hc0,hj1];simp[jW,jA,hc1,hc2]
def LA (Y:Ctx):Prop:=∀(c:cG),(c.v.sm)->Y.pre 482 [cG.D c]/\Y.val 482 [cG.D c]=.str (dk c)
def Il:aC:=⟨1,6,[⟨1,none⟩,⟨2,none⟩],fV,(sq (rg [gm cse,gm cse] [(1,0),(2,1)]) (sq (sq (r1 [gm bp] 3 0) (.block 0 (.loop (sq (sq (r1 [gm s3,gm s0,mE l1,aP l0 l2] 4 3) (eN s4 0)) (sq (.block 1 (sq (r1 [gm s0,gm s3,C8 l0 l1,aL l2 (i8 45)] 5 3) (.cond s5 (sq (rt [gm s0,gm s3,gn (.slS l0 none (some l1)),gm s0,gm s3,ax l4 cq,gn (.slS l3 (some l5) none),gm l2,gm l6] [(1,7),(2,8)]) .ret) .skip))) (r1 [gm s3,ax l0 cq,gm l1] 3 2)))))) (sq (rg [gm s0,gm l0,gm cse] [(1,1),(2,2)]) .ret)))⟩
def RQ {Y:Ctx}(hm:(Y.at 0).bd)  (s:au)   :dd Y Il (.tup [.str (fL s 0).1,.str (fL s 0).2]) [.str s]:=by
 show bH _ _ _ [⟨_,_⟩,_,_,_,_,_] _;refine ak ?_;refine aU ?_;refine bh hm (ι:=Nat) (fun i=>[⟨true,.str s⟩,.un,.un,⟨true,.int .i64 (i:Nat)⟩,.un,.un]) (fun i=>[]) 3 (fun i=>i<=s.length/\fL s 0=fL s i) (fun i=>s.length-i) 0 ⟨ae,rfl⟩ (dn []) ?_;rintro i ⟨hi,hr⟩;refine aI ?_;intro u0;refine aA ?_;refine cw (fun hc0=>?_) fun hc0=>?_
 ·refine bP ?_;refine eP (fun hc1=>?_) fun hc1=>?_
  ·refine aB ?_;refine oD _ ?_;refine aB ?_;refine ix (i+1) ?_;refine aF ?_;refine bO (aN (aj D.str ?_) (aj D.str ?_));all_goals rw[hr,DA ae hc1]
  refine bP ?_;exact⟨i+1,⟨ae,by rw[hr,DB ae hc1]⟩,ae,(dn [])⟩
 refine bP ?_;refine bO (aN (aj D.str ?_) (aj D.str ?_));all_goals rw[hr,Ab ae]
def Kz (Y:Ctx):Prop:=∀(s:au),Y.pre 1007 [.str s]/\Y.val 1007 [.str s]=.tup [.str (fL s 0).1,.str (fL s 0).2]
def Cq:aC:=⟨1,9,[⟨1,none⟩,⟨2,none⟩],fV,(sq (rg [gm bp,gm cse] [(1,0),(2,1)]) (sq (r1 [gn (.bsl 1 (.int .i64 0) 8 [(0,nM),(1,tg),(2,uy),(3,cq),(4,ml),(5,NJ),(6,Hg),(7,BJ)]),gm l0] 4 1) (sq (sq (r1 [gm bp] 3 0) (.block 0 (.loop (sq (sq (r1 [gm s3,gm s4,gl l1,aP l0 l2] 5 3) (eN s5 0)) (sq (.block 1 (sq (r1 [gm s4,gm s3,ga 1 l0 l1,gd l2,gx 678 [l3] bM,gm l4] 6 5) (sq (r1 [gm s0,gm s6,gx 1079 [l0,l1] fV] 7 2) (.cond s7 (sq (rt [gm s4,gm s3,ga 1 l0 l1,gd l2,gm s0,gm s6,mE l5,gn (.slS l4 (some l6) none),gm l3,gm l7] [(1,8),(2,9)]) .ret) .skip)))) (r1 [gm s3,ax l0 cq,gm l1] 3 2)))))) (sq (sq (r1 [gm s0,mE l0,cH l1 bp,gm l2,gmt 3 s0,gmt 3 s0,ca 3 (.lenS l5),ca 3 (ju l6 cq),ca 3 (.ixS l4 l7),ca 3 (cM l8 (i8 42)),ew l3 l9] 8 10) (.cond s8 (sq (rg [gm s0,gm Bc,gm l0] [(1,1),(2,2)]) .ret) .skip)) (sq (rg [gm s0,gm Hg,gm l0] [(1,1),(2,2)]) .ret)))))⟩
def RP {Y:Ctx}(hm:(Y.at 0).bd)(h678:LP Y)(h1079:KD Y)(s:au)   :dd Y Cq (.tup [.int .i64 (eS s).1,.str (eS s).2]) [.str s]:=by
 show bH _ _ _ [⟨_,_⟩,_,_,_,_,_,_,_,_] _;refine ak ?_;refine aE ?_;refine dK [(.int _ _),(.int _ _),(.int _ _),(.int _ _),(.int _ _),(.int _ _),(.int _ _),(.int _ _)] ?_;refine aF ?_;refine lI 2 ?_;refine bh hm (ι:=Nat) (fun i=>[⟨true,.str s⟩,.un,.un,⟨true,.int .i64 (i:Nat)⟩,⟨true,.sl 1 (opsL.map (D.int .i64))⟩,.un,.un,.un,.un]) (fun i=>[]) 5 (fun i=>i<=8/\nq s 0=nq s i) (fun i=>8-i) 0 ⟨ae,rfl⟩ (dn []) ?_;rintro i ⟨hi,hr⟩;have hn8:opsL.length=8:=rfl;refine aI ?_;intro u0;refine aA ?_;refine cw (fun hc0=>?_) fun hc0=>?_
 ·refine aU ?_;refine aq (hc:=h678 _) ?_;refine aI ?_;refine aq (hc:=h1079 _ _) ?_;refine aS ?_;refine wp_cond (fun hc1=>?_) (fun hc1=>?_)
  ·have hbl:(cR opsL[i]!).length<=s.length:=by simp only[nJ,aZ,aR]at hc1;exact hc1.1
   refine aU ?_;refine kd ?_;refine ix (cR opsL[i]!).length (hb:=fun _=>hbl) ?_;refine aF ?_;refine bO (aN (aj (D.int .i64) ?_) (aj D.str ?_));all_goals simp only[eS,hr,Dv (show i<8 by omega) hc1]
  skip
  refine bP ?_;exact⟨i+1,⟨ae,by rw[hr,Dw ae hc1]⟩,ae,(dn [])⟩
 refine aF ?_;intro u1;refine aE ?_;refine kd ?_;refine aS ?_;refine mL (s.length-1) ?_;refine aB ?_;refine cw (fun hc2=>?_) fun hc2=>?_
 ·refine aU ?_;refine bO (aN (aj (D.int .i64) ?_) (aj D.str ?_));all_goals (have ho:nq s 0=none:=(by rw[hr,uO ae]);simp only[eS,ho,av (show 0<s.length/\at8 s (s.length-1)=42 from⟨ae,hc2.2⟩)])
 refine aU ?_;refine bO (aN (aj (D.int .i64) ?_) (aj D.str ?_));all_goals (have ho:nq s 0=none:=(by rw[hr,uO ae]);have hn:¬(0<s.length/\at8 s (s.length-1)=42):=(by rintro⟨h1,h2⟩;rcases hc2 with h|h;exact h ae;exact h h2);simp only[eS,ho,ai hn])
def Ky (Y:Ctx):Prop:=∀(s:au),Y.pre 1006 [.str s]/\Y.val 1006 [.str s]=.tup [.int .i64 (eS s).1,.str (eS s).2]
def yP:aC:=⟨1,10,[⟨1,some (5,true)⟩,⟨2,none⟩],[[.a,.a,.a,.a,.a],[.a]],(sq (rg [gb 5 (.c (.agg [.int .i64 0,.int .i64 0,.int .i64 0,.str [],.str []])),gm dt] [(1,0),(2,1)]) (sq (r1 [gb 3 (.c (.agg [.int .i64 0,.int .i64 0,.int .i64 0]))] 9 0) (sq (sq (r1 [gm s0,gl l0,cH l1 ml] 3 2) (.cond s3 (sq (r1 [gn (.build [.int .i64 0,.int .i64 0,.int .i64 0,.str [],.str []] []),gt 5 s1 l0,gm dt] 2 2) .ret) .skip)) (sq (sq (r1 [gm bp] 4 0) (.block 0 (.loop (sq (sq (r1 [gm s4,gm s0,gl l1,aP l0 l2] 5 3) (eN s5 0)) (sq (.block 1 (sq (rg [gm s0,gm s4,ga 1 l0 l1,gd l2,gx 667 [l3] bM,gm l4,ge l5 0,ge l5 1,gm l6,gm l7] [(8,8),(6,9)]) (sq (sq (r1 [gm s6,jx l0] 7 1) (.cond s7 (sq (r1 [gn (.build [.int .i64 0,.int .i64 0,.int .i64 0,.str [],.str []] []),gt 5 s1 l0,gm dt] 2 2) .ret) .skip)) (rg [gm s4,gm s8,gn (.iaP 3 1 s9 l0),gt 1 l2 l1] [])))) (r1 [gm s4,ax l0 cq,gm l1] 4 2)))))) (sq (r1 [gn (.iaP 3 1 s9 bp),gd l0,gn (.iaP 3 1 s9 cq),gd l2,gn (.iaP 3 1 s9 nM),gd l4,gn (.build [.int .i64 0,.int .i64 0,.int .i64 0,.str [],.str []] [(0,1,l1),(1,1,l3),(2,1,l5)]),gt 5 s1 l6,gm px] 2 8) .ret)))))⟩
def RR {Y:Ctx}(hm:(Y.at 0).bd)(h667:I7 Y)(l:List au)   :dd Y yP (.tup [bX.D (tm l),.bool (ei l)]) [.sl 1 (l.map D.str)]:=by
 show bH _ _ _ [⟨_,_⟩,_,_,_,_,_,_,_,_,_] _;refine ak ?_;refine ic ?_;intro u0;refine aA ?_;refine cw (fun hc0=>?_) fun hc0=>?_
 ·refine aA ?_;refine cx (bX.D pC) ?_;refine aE ?_;refine bO (aN ?_ (aj D.bool ?_));all_goals (have hq:ei l=false:=(by simp only[ei];rw[cj ae];rfl);first|(rw[hq];done)|(simp only[tm,hq,et,bn,br];rfl))
 refine aI ?_;have hb:ei l=cr (fun i=>gp l[i]!) 0 l.length:=by simp only[ei];rw[bD ae];rfl
 refine bh hm (ι:=Nat) (fun i=>[⟨true,.sl 1 (l.map D.str)⟩,⟨true,.ptr 0 5 0 0⟩,.un,.un,⟨true,.int .i64 (i:Nat)⟩,.un,.un,.un,.un,⟨true,.ptr 2 3 0 0⟩]) (fun i=>[(0,.buf 5 [bX.D pC]),(2,.buf 3 [JX l i])]) 7 (fun i=>i<=l.length/\ei l=cr (fun i=>gp l[i]!) i l.length) (fun i=>l.length-i) 0 ⟨ae,hb⟩ (dn [(0,0),(2,2)]) ?_;rintro i ⟨hi,hr⟩;refine aI ?_;intro u1;refine aA ?_;refine cw (fun hc1=>?_) fun hc1=>?_
 ·refine aU ?_;refine aq (hc:=h667 _) ?_;refine gy ?_;refine aw (fun hc2=>?_) (fun hc2=>?_)
  ·simp only[bB]at hc2;refine aA ?_;refine cx (bX.D pC) ?_;refine aF ?_;refine bO (aN ?_ (aj D.bool ?_));all_goals (have hq:ei l=false:=(by rw[hr,aK ae,hc2];rfl);first|(rw[hq];done)|(simp only[tm,hq,et,bn,br];rfl))
  simp only[bY]at hc2;refine aE ?_;refine yE i ?_;refine bL (JX l (i+1)) (he:=Hs l i ae) ?_;refine bP ?_;exact⟨i+1,⟨ae,by rw[hr,aK ae,hc2];rfl⟩,ae,(dn [(0,0),(2,2)])⟩
 refine aB ?_;obtain rfl:i=l.length:=ae;have hok:ei l=true:=by rw[hr,bV ae]
 refine yE 0 ?_;refine bR (v:=.int .i64 (if 0<l.length then iF l[0]! else 0)) ?_;refine yE 1 ?_;refine bR (v:=.int .i64 (if 1<l.length then iF l[1]! else 0)) ?_;refine yE 2 ?_;refine bR (v:=.int .i64 (if 2<l.length then iF l[2]! else 0)) ?_;refine cx (bX.D (Hx l)) ?_;refine aE ?_;refine bO (aN ?_ (aj D.bool ?_));all_goals (have hq:=hok;first|(rw[hq];done)|(simp only[tm,hq,et,bn,br];rfl))
def KA (Y:Ctx):Prop:=∀(l:List au),Y.pre 1008 [.sl 1 (l.map D.str)]/\Y.val 1008 [.sl 1 (l.map D.str)]=.tup [bX.D (tm l),.bool (ei l)]
def Cn:aC:=⟨1,15,[⟨1,some (7,true)⟩,⟨2,none⟩],[[.a,.a,.a,.a,.a,.a,.a],[.a]],(sq (rg [gb 7 (.c (.agg [.int .i64 0,.int .i64 0,.int .i64 0,.int .i64 0,.int .i64 0,.str [],.str []])),gm bp] [(1,0),(2,1)]) (sq (rg [gm s0,gx 1006 [l0] bM,gm l1,ge l2 0,ge l2 1,gm l3,gm l4] [(5,5),(3,6)]) (sq (rg [gm s3,gx 1007 [l0] bM,gm l1,ge l2 0,ge l2 1,gm l3,gm l4] [(4,5),(10,6)]) (sq (r1 [gm s4,gx 470 [l0,(i8 46)] fV,gm l1] 7 2) (sq (sq (r1 [gm s5,aL l0 Bc] 6 1) (.cond s6 (r1 [gm s7,gm s7,gl l1,ep l2 cq,gn (.slA 1 l0 none (some l3)),gm l4] 7 5) .skip)) (sq (rg [gm s7,gx 1008 [l0] [[.sl 1 [.a]]],gm l1,ge l2 0,ge l2 1,gb 5 (.c (.agg [.int .i64 0,.int .i64 0,.int .i64 0,.str [],.str []])),gt 5 l5 l3,gm l4] [(11,5),(8,7)]) (sq (sq (r1 [gm s8,jx l0] 9 1) (.cond s9 (sq (r1 [gn (.build [.int .i64 0,.int .i64 0,.int .i64 0,.int .i64 0,.int .i64 0,.str [],.str []] []),gt 7 s1 l0,gm uy] 2 2) .ret) .skip)) (sq (rg [gm iP,gf 3 kp,gt 1 l1 l0] []) (sq (r1 [gm s5,gm s7,gl l1,gk 5 true kp,gn (.build [.int .i64 0,.int .i64 0,.int .i64 0,.int .i64 0,.int .i64 0,.str [],.str []] [(0,1,l0),(1,1,l2),(2,5,l3)]),gb 7 (.c (.agg [.int .i64 0,.int .i64 0,.int .i64 0,.int .i64 0,.int .i64 0,.str [],.str []])),gt 7 l5 l4] 12 5) (sq (sq (r1 [gk 7 true mS,gx 482 [l0] JI,gm l1] 13 2) (sq (r1 [gm qp,aL l0 cse,gm l1,eC 2 qp,eC 2 s0,cl 2 (eW l3 l4),eC 2 l5,gmt 6 qp,gmt 6 s0,ca 6 (Gx (cs [94]) l8),ca 6 (eW l7 l9),zC 2 l6 l10,eK l2 im] 14 12) (.cond tq (sq (r1 [gn (.build [.int .i64 0,.int .i64 0,.int .i64 0,.int .i64 0,.int .i64 0,.str [],.str []] []),gt 7 s1 l0,gm uy] 2 2) .ret) .skip))) (sq (r1 [gk 7 true mS,gt 7 s1 l0,gm bp] 2 2) .ret)))))))))))⟩
def w897 {Y:Ctx}(hm:(Y.at 0).bd)(h470:Bi Y)(h482:LA Y)(h1006:Ky Y)(h1007:Kz Y)(h1008:KA Y)(s:au)  (hp0:s.length<=1048576):dd Y Cn (.tup [cG.D ((dJ s).getD dF),.int .i64 (if(dJ s).isSome=true then 0 else 6)]) [.str s]:=by
 show bH _ _ _ [⟨_,_⟩,_,_,_,_,_,_,_,_,_,_,_,_,_,_] _;have hsl:=vu s;generalize hO:eS s=O at hsl;have hpl:=uV O.2;generalize hA:fL O.2 0=A at hpl;have hln:=er A.1 46;have hlp:1<=(ar A.1 46).length:=fR _ _ _;generalize hL:ar A.1 46=L at hln hlp;have hq0:dJ s=if sQ s O.1 (xk O.1 L) A.2=true then some (eX O.1 (xk O.1 L) A.2)else none:=by subst hO;subst hA;subst hL;rfl
 refine ak ?_;refine aI ?_;refine aq (hc:=h1006 s) ?_;rw[hO];refine bP ?_;refine aq (hc:=h1007 O.2) ?_;rw[hA];refine bP ?_;refine aq (hc:=h470 A.1 46 ae) ?_;rw[hL];refine aU ?_;refine aw (fun hc0=>?_) (fun hc0=>?_)
 ·simp only[aR]at hc0;have hq1:dJ s=if sQ s O.1 (L.take (L.length-1)) A.2=true then some (eX O.1 (L.take (L.length-1)) A.2)else none:=by rw[hq0];simp only[xk,av hc0]
  refine aE ?_;intro u0;refine aS ?_;refine vb (L.length-1) (hj:=fun _=>ae) (hb:=fun _=>ae) ?_;refine aE ?_;refine aq (hc:=h1008 (L.take (L.length-1))) ?_;refine aS ?_;refine lD (bX.D _) ?_;refine aA ?_;refine bL (bX.D (tm (L.take (L.length-1)))) (he:=bN) ?_;refine aU ?_;refine aw (fun hc1=>?_) (fun hc1=>?_)
  ·simp only[bB]at hc1;refine aA ?_;refine cx (cG.D dF) ?_;refine aE ?_;refine bO (aN ?_ (aj (D.int .i64) ?_));all_goals (have hk:sQ s O.1 (L.take (L.length-1)) A.2=false:=(by simp only[sQ,hc1];rfl);rw[hq1,hk];rfl)
  simp only[bY]at hc1;have hnr:tm (L.take (L.length-1))=Hx (L.take (L.length-1)):=by simp only[tm,hc1,br]
  rw[hnr];have hsm:(eX O.1 (L.take (L.length-1)) A.2).v.sm:=⟨by show A.2.length<=_;omega,by show([]:au).length<=_;simp⟩;refine aE ?_;refine bL (bX.D (eX O.1 (L.take (L.length-1)) A.2).v) (he:=bN) ?_;refine aI ?_;intro u1;refine ee (d:=bX.D (eX O.1 (L.take (L.length-1)) A.2).v) ?_;refine cx (cG.D (eX O.1 (L.take (L.length-1)) A.2)) ?_;refine aS ?_;refine bL (cG.D (eX O.1 (L.take (L.length-1)) A.2)) (he:=bN) ?_;refine aB ?_;refine ee (d:=cG.D (eX O.1 (L.take (L.length-1)) A.2)) ?_;refine aq (hc:=h482 (eX O.1 (L.take (L.length-1)) A.2) hsm) ?_;refine lJ ?_;refine df (hb:=fun _=>cz) ?_;refine aE ?_;refine aw (fun hc2=>?_) (fun hc2=>?_)
  ·have hk:sQ s O.1 (L.take (L.length-1)) A.2=false:=by simp only[sQ,hc1,eH];exact aj (!·) hc2
   refine aA ?_;refine cx (cG.D dF) ?_;refine aE ?_;refine bO (aN ?_ (aj (D.int .i64) ?_));all_goals (rw[hq1,hk];rfl)
  have hk:sQ s O.1 (L.take (L.length-1)) A.2=true:=by simp only[sQ,hc1,eH];exact aj (!·) hc2
  refine aA ?_;refine ee (d:=cG.D (eX O.1 (L.take (L.length-1)) A.2)) ?_;refine aE ?_;refine bO (aN ?_ (aj (D.int .i64) ?_));all_goals (rw[hq1,hk];rfl)
 simp only[bx]at hc0;have hq1:dJ s=if sQ s O.1 L A.2=true then some (eX O.1 L A.2)else none:=by rw[hq0];simp only[xk,ai hc0]
 refine aB ?_;refine aq (hc:=h1008 L) ?_;refine aS ?_;refine lD (bX.D _) ?_;refine aA ?_;refine bL (bX.D (tm L)) (he:=bN) ?_;refine aU ?_;refine aw (fun hc1=>?_) (fun hc1=>?_)
 ·simp only[bB]at hc1;refine aA ?_;refine cx (cG.D dF) ?_;refine aE ?_;refine bO (aN ?_ (aj (D.int .i64) ?_));all_goals (have hk:sQ s O.1 L A.2=false:=(by simp only[sQ,hc1];rfl);rw[hq1,hk];rfl)
 simp only[bY]at hc1;have hnr:tm L=Hx L:=by simp only[tm,hc1,br]
 rw[hnr];have hsm:(eX O.1 L A.2).v.sm:=⟨by show A.2.length<=_;omega,by show([]:au).length<=_;simp⟩;refine aE ?_;refine bL (bX.D (eX O.1 L A.2).v) (he:=bN) ?_;refine aI ?_;intro u1;refine ee (d:=bX.D (eX O.1 L A.2).v) ?_;refine cx (cG.D (eX O.1 L A.2)) ?_;refine aS ?_;refine bL (cG.D (eX O.1 L A.2)) (he:=bN) ?_;refine aB ?_;refine ee (d:=cG.D (eX O.1 L A.2)) ?_;refine aq (hc:=h482 (eX O.1 L A.2) hsm) ?_;refine lJ ?_;refine df (hb:=fun _=>cz) ?_;refine aE ?_;refine aw (fun hc2=>?_) (fun hc2=>?_)
 ·have hk:sQ s O.1 L A.2=false:=by simp only[sQ,hc1,eH];exact aj (!·) hc2
  refine aA ?_;refine cx (cG.D dF) ?_;refine aE ?_;refine bO (aN ?_ (aj (D.int .i64) ?_));all_goals (rw[hq1,hk];rfl)
 have hk:sQ s O.1 L A.2=true:=by simp only[sQ,hc1,eH];exact aj (!·) hc2
 refine aA ?_;refine ee (d:=cG.D (eX O.1 L A.2)) ?_;refine aE ?_;refine bO (aN ?_ (aj (D.int .i64) ?_));all_goals (rw[hq1,hk];rfl)
def Pw (Y:Ctx):Prop:=∀(s:au),(s.length<=1048576)->Y.pre 897 [.str s]/\Y.val 897 [.str s]=.tup [cG.D ((dJ s).getD dF),.int .i64 (if(dJ s).isSome=true then 0 else 6)]
end Go.Abs
