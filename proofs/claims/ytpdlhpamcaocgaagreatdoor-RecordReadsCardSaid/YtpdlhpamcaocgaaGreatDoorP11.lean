/- A part of the proofs of the statements: Y5, RSpec22, Z1, Z2, X1, X5, Z3, R0, R1, RB, SHELF, LLib, LLibR, RBld, RBldS. -/
import Derived.Ground.Names2Prog
import Derived.KernelRfl
import Derived.Lib.CountLaws
import Derived.Lib.IndexMore
import Derived.Lib.ItoaNum
import Derived.Lib.Join
import Derived.Lib.Split
import Derived.Lib.SplitLaws
import Derived.Lib.Strings
import Derived.Lib.TrimByte
import Derived.Shelf.LaysM
import Derived.Shelf.Slices.Clone
import Derived.Shelf.Small.Strs
import Derived.Shelf.Small.Utf8
import Derived.Shelf.Small.Wraps
import Derived.Shelf.Strconv.Itoa0
import Derived.Shelf.Strconv.Itoa1
import Derived.Shelf.Strconv.Itoa2
import Derived.Shelf.Strconv.Itoa3
import Derived.Shelf.Strings.AsciiSet
import Derived.Shelf.Strings.Builder1
import Derived.Shelf.Strings.Builder2
import Derived.Shelf.Strings.Count
import Derived.Shelf.Strings.Cut
import Derived.Shelf.Strings.OnBuilder
import Derived.Shelf.Strings.Prefix
import Derived.Shelf.Strings.Runes
import Derived.Shelf.Strings.Search1
import Derived.Shelf.Strings.Search2
import Derived.Shelf.Strings.Search3
import Derived.Shelf.Strings.Shaped
import Derived.Shelf.Strings.Split
import Derived.Shelf.Strings.SplitShaped
import Derived.Shelf.Strings.Trim
import Derived.Shelf.Unicode.DecodeSlow
import Derived.Test.YtpdlhpamcaocgaaGreatDoorProg
import Derived.Test.YtpdlhpamcaocgaaGreatDoorP10
set_option linter.all false
set_option maxRecDepth 4000
section
namespace Go.Abs
open Go
def A0:aB:=⟨1,14,[⟨1,some (9,true)⟩,⟨2,none⟩,⟨3,none⟩],[[.a,.a,.a,.a,.a,.a,.sl 3 [.sl 4 [.a,.a,.sl 1 [.a],.a],.a,.a],.sl 3 [.a,.a,.a],.sl 2 [.a,.sl 1 [.a]]],[.a],[.a]],(sq (rg [gb 9 (.c (.agg [.str [],.int .i64 0,.int .i64 0,.int .i64 0,.str [],.str [],.az,.az,.az])),gm bh,gm bh] [(1,0),(2,1),(3,2)]) (sq (sq (r1 [gm s0,m9 l0,cB l1 (i6 4096)] 4 2) (.cond s4 (sq (rg [gn (.build [.str [],.int .i64 0,.int .i64 0,.int .i64 0,.str [],.str [],.az,.az,.az] []),gt 9 s1 l0,gm jG,gm bh] [(2,2),(3,3)]) .ret) .skip)) (sq (rg [gm s0,gx 223 [l0] bO,gm l1,ge l2 0,ge l2 1,gm l3,gm l4] [(6,5),(8,6)]) (sq (r1 [gn (.build [.str [],.int .i64 0,.int .i64 0,.int .i64 0,.str [],.str [],.az,.az,.az,.int .i64 0] []),gb 10 l0,gm l1] 9 2) (sq (sq (r1 [gm bh] 5 0) (.block 0 (.loop (sq (sq (r1 [gm s5,gm s6,gl l1,aN l0 l2] 7 3) (eN s7 0)) (sq (.block 1 (sq (r1 [gm s8,ix l0,gm l1,gmt 2 s5,gmt 2 s6,bZ 2 (.len l4),bZ 2 (iG l5 bR),bZ 2 (ca l3 l6),dZ l2 l7,gm l8,dH 9 s9,dH 9 s6,dH 9 s5,bT 9 (.ia 1 fI gV),hY 9 iQ,bT 9 (.callM 224 [l10,jt]),bT 9 (.un .not kB),ea l9 mE] 10 17) (.cond jx (sq (rg [gn (.build [.str [],.int .i64 0,.int .i64 0,.int .i64 0,.str [],.str [],.az,.az,.az] []),gm s5,au l1 bR,gt 9 s1 l0,gm jF,gm l2] [(2,4),(3,5)]) .ret) .skip))) (r1 [gm s5,au l0 bR,gm l1] 5 2)))))) (sq (sq (r1 [gm s9,gc l0,gf 9 l1,gd l2,aG l3 bh] 11 4) (.cond mc (sq (rg [gn (.build [.str [],.int .i64 0,.int .i64 0,.int .i64 0,.str [],.str [],.az,.az,.az] []),gt 9 s1 l0,gm jF,gm bR] [(2,2),(3,3)]) .ret) .skip)) (sq (sq (r1 [gm s9,gc l0,gf 0 l1,gk 9 true l2,gx 71 [l3] [[.a,.a,.a,.a,.a,.a,.sl 3 [.sl 4 [.a,.a,.sl 1 [.a],.a],.a,.a],.sl 3 [.a,.a,.a],.sl 2 [.a,.sl 1 [.a]]]],gm l4,ge l5 0,ge l5 1,gm l6,gm l7] 12 8) (sq (r1 [gm lY,bN l0 bh] 13 1) (.cond pP (sq (rg [gn (.build [.str [],.int .i64 0,.int .i64 0,.int .i64 0,.str [],.str [],.az,.az,.az] []),gm lY,gt 9 s1 l0,gm l1,gm bh] [(2,3),(3,4)]) .ret) .skip))) (sq (rg [gm s9,gc l0,gf 0 l1,gk 9 true l2,gt 9 s1 l3,gm bh,gm bh] [(2,5),(3,6)]) .ret))))))))⟩
def w77 {Γ:Ctx}(hm:(Γ.at 0).a8)(h71:C71 Γ)(h223:Nt Γ)(h224:KN Γ)(s:ai)   :dq Γ A0 (.tup [Rec.D (c7 s).1,.int .i64 (c7 s).2.1,.int .i64 (c7 s).2.2]) [.str s]:=by
 show bz _ _ _ [⟨_,_⟩,_,_,_,_,_,_,_,_,_,_,_,_,_] _;have hcase:=Ce s;obtain⟨⟨ls,e⟩,hlx⟩:∃q,fA s=q:=⟨_,rfl⟩
 rw[hlx]at hcase;dsimp only at hcase;refine aj ?_;refine bB ?_;intro u0;refine ar ?_;refine aq (fun hc0=>?_) (fun hc0=>?_)
 ·simp only[decide_eq_true_eq]at hc0;have hrr:c7 s=(ik,3,0):=by unfold c7;rw[if_pos (by omega)]
  rw[hrr];refine ar ?_;refine aW cD ?_;refine aL cD (he:=by exact rfl) ?_;refine av ?_;refine kY [(0,.buf 9 [Rec.D ik])] (.bf ae (.cons j6 .nil) .nil) ?_;refine aC ?_;refine bC (dK ?_ (congrArg (D.int .i64) ?_) (congrArg (D.int .i64) ?_));all_goals rfl
 simp only[decide_eq_false_iff_not]at hc0;have h96:¬4096<s.length:=by omega
 have hsl:=cn s 10;have hln:(kj s).length≤4097:=by rw[List.length_take];omega
 have hll:ls.length≤(kj s).length+1:=by
  rcases hcase with⟨_,_,h⟩|⟨_,_,h⟩<;>rw[h]<;>simp
 have hlm:∀i:Nat,((kj s)[i]! :ai).length≤1048576:=fun i=>wH.get (l:=kj s) (fun t ht=>by have:=dj s 10 (List.mem_of_mem_take ht);omega) i
 refine av ?_;refine ak (v:=.tup [.sl 1 (ls.map D.str),.bool e]) (hc:=by have:=h223 s (by omega);rw[hlx]at this;exact this) ?_;refine aC ?_;refine dU (.sl _ _) ?_;refine aJ ?_;refine aW (.agg [.str [],.int .i64 0,.int .i64 0,.int .i64 0,.str [],.str [],.az,.az,.az,.int .i64 0]) ?_;refine aV ?_;refine aY hm (ι:=(Nat×fX)) (fun p=>[⟨true,.str s⟩,⟨true,.ptr 0 9 0 0⟩,⟨true,.int .i64 0⟩,⟨true,.int .i64 0⟩,.un,⟨true,.int .i64 (p.1:Nat)⟩,⟨true,.sl 1 (ls.map D.str)⟩,.un,⟨true,.bool e⟩,⟨true,.ptr 1 10 0 0⟩,.un,.un,.un,.un]) (fun p=>[(0,.buf 9 [cD]),(1,.buf 10 [lE p.2.r.name p.2.r.v p.2.r.needs.length p.2.r.bars.length p.2.r.feats.length ((p.2.st:Nat):Int) 2 4 5]),(2,.buf 3 (dk 3 p.2.r.needs)),(3,.buf 4 (kD p.2.r.needs)),(4,.buf 3 (p.2.r.bars.map ec.D)),(5,.buf 2 (p.2.r.feats.map bd.D))]) 50 (fun p=>p.1≤(kj s).length∧(p.2.ok∧p.2.sz≤p.1)∧jW rH (kj s)=jW p.2 ((kj s).drop p.1)) (fun p=>ls.length-p.1) (0,rH) ⟨Nat.zero_le _,⟨⟨fun _=>⟨rfl,rfl,rfl⟩,fun h=>by simp[rH]at h,fun h=>by simp[rH]at h⟩,Nat.le_refl _⟩,rfl⟩ (aX.to [(0,0),(14,1)] ae ae dt (by refine aO.eS ae ae ae ?_;refine aO.ni 14 ae ae (by exact⟨_,_,rfl,⟨_,rfl,⟨_,_,rfl,⟨rfl,rfl⟩,⟨_,_,rfl,⟨rfl,rfl⟩,⟨_,_,rfl,⟨rfl,rfl⟩,⟨_,_,rfl,⟨rfl,rfl⟩,⟨_,_,rfl,⟨rfl,rfl⟩,⟨_,_,rfl,⟨rfl,rfl⟩,⟨_,_,rfl,Or.inr ⟨_,_,_,rfl⟩,⟨_,_,rfl,Or.inr ⟨_,_,_,rfl⟩,⟨_,_,rfl,Or.inr ⟨_,_,_,rfl⟩,⟨_,_,rfl,⟨rfl,rfl⟩,rfl⟩⟩⟩⟩⟩⟩⟩⟩⟩⟩⟩,rfl⟩) ?_;refine aO.mt ae ae ae ae ?_;refine aO.mt ae ae ae ae ?_;refine aO.mt ae ae ae ae ?_;refine aO.mt ae ae ae ae ?_;exact aO.nil)) ?_;rintro⟨i,x⟩ ⟨hi,⟨hok,hsz⟩,hrun⟩;dsimp only at hi hok hsz hrun⊢;refine aJ ?_;intro u1;refine ar ?_;refine aq (fun hc1=>?_) (fun hc1=>?_)
 ·simp only[decide_eq_true_eq]at hc1;have hil:i<ls.length:=by omega
  refine av ?_;by_cases hb:(!e&&decide ((i:Nat)=((ls.length:Nat):Int) -1))=true
  ·refine aJ ?_;refine gT ?_;refine ar ?_;refine Hz ?_;rw[hb];refine ax ?_;refine bJ i (hb:=fun _=>by omega) ?_;refine bD (v:=.str ls[i]!) (hi:=fun _=>by omega) ?_;refine zd ?_;refine Qd (.bool false) ?_;refine Qe (kb:=fun _ h=>by cases h) ?_;refine aC ?_;refine wp_cond (fun hc2=>?_) (fun hc2=>?_)
   ·have hbb:=hb;simp only[Bool.and_eq_true,Bool.not_eq_true',decide_eq_true_eq]at hbb;have hrr:c7 s=(ik,2,(i:Int)+1):=by
     rcases hcase with⟨h1,_,_⟩|⟨_,h2,h⟩
     ·rw[h1]at hbb;cases hbb.1
     ·have hl':ls.length=(kj s).length+1:=by rw[h];simp
      have:i=(kj s).length:=by omega
      subst this;exact AM h96 hi (by rw[hrun,List.drop_length];rfl) (.inr h2)
    rw[hrr];refine aC ?_;refine aW cD ?_;refine ar ?_;refine aL cD (he:=by exact rfl) ?_;refine av ?_;refine kY [(0,.buf 9 [Rec.D ik])] (.bf ae (.cons j6 .nil) .nil) ?_;refine av ?_;refine bC (dK ?_ (congrArg (D.int .i64) ?_) (congrArg (D.int .i64) ?_));all_goals rfl
   skip
   exact absurd hc2 (by decide)
  ·refine aJ ?_;refine gT ?_;refine ar ?_;refine Hz ?_;rw[show(!e&&decide ((i:Nat)=((ls.length:Nat):Int) -1))=false by simpa using hb];refine ax ?_;refine bJ i (hb:=fun _=>by omega) ?_;refine bD (v:=.str ls[i]!) (hi:=fun _=>by omega) ?_;have hin:i<(kj s).length∧ls[i]! =(kj s)[i]! :=by
    rcases hcase with⟨_,_,h⟩|⟨h1,_,h⟩
    ·rw[h]at hil⊢;exact⟨hil,rfl⟩
    ·have hb':¬((i:Nat):Int)=((ls.length:Nat):Int) -1:=by rw[h1]at hb;simpa using hb
     have hl':ls.length=(kj s).length+1:=by rw[h];simp
     have hi':i<(kj s).length:=by omega
     exact⟨hi',by rw[h];exact nv hi'⟩
   refine sC (ι:=Unit) (aaz:=[.ptr 1 10 0 0,.str ls[i]!]) (fun _=>True) (fun _=>.bool (c8 x ls[i]!).isSome) 58 (fun _=>rS (c8 x ls[i]!) 1 69++[(0,.buf 9 [cD])]) (fun _ _=>?_) (hc:=fun K' hK=>h224 x ls[i]! hok (by omega) (by rw[hin.2];exact hlm i) _ 1 2 3 4 5 _ K' ⟨by exact rfl,by exact rfl,by exact rfl,by exact rfl,by exact rfl⟩ (by decide) ⟨by simp only[List.length_cons,List.length_nil];omega,by simp only[List.length_cons,List.length_nil];omega,by simp only[List.length_cons,List.length_nil];omega,by simp only[List.length_cons,List.length_nil];omega,by simp only[List.length_cons,List.length_nil];omega⟩ (by exact hK () trivial)) (hn:=by decide);refine av ?_;refine wp_cond (fun hc2=>?_) (fun hc2=>?_)
   ·simp only[Bool.false_or,Bool.not_eq_true']at hc2;have hso:=ic hc2;have hrr:c7 s=(ik,2,(i:Int)+1):=by
     refine AM (x:=x) h96 hi ?_ (.inl hin.1);rw[hrun,xX (x:=x) hin.1,pE (by rw[←hin.2];exact hso)]
    rw[hrr,hso];simp only[rS,List.nil_append];refine aC ?_;refine aW cD ?_;refine ar ?_;refine aL cD (he:=by exact rfl) ?_;refine av ?_;refine kY [(0,.buf 9 [Rec.D ik])] (.bf ae (.cons j6 .nil) .nil) ?_;refine av ?_;refine bC (dK ?_ (congrArg (D.int .i64) ?_) (congrArg (D.int .i64) ?_));all_goals rfl
   simp only[Bool.false_or,Bool.not_eq_false']at hc2;obtain⟨y,hso⟩:=ie hc2;obtain⟨hyo,hys⟩:=JX hso hok;have hrn:jW rH (kj s)=jW y ((kj s).drop (i+1)):=by rw[hrun,xX (x:=x) hin.1,fN (by rw[←hin.2];exact hso)]
   rw[hso];simp only[rS,LG,List.cons_append,List.nil_append];refine bB ?_;exact⟨(i+1,y),⟨by omega,⟨hyo,by dsimp only;omega⟩,hrn⟩,by dsimp only;omega,(aX.to [(0,0),(1,1),(69,2),(70,3),(71,4),(72,5)] ae ae dt (by refine aO.eS ae ae ae ?_;refine aO.eq 1 ae ae ae ?_;refine aO.eq 69 ae ae (sr _ _ _ _ ae _) ?_;refine aO.nl 70 ae ae rfl (jA _) ?_;refine aO.nl 71 ae ae rfl (bg (fun _=>rfl) _) ?_;refine aO.nl 72 ae ae rfl (bg (fun _=>rfl) _) ?_;exact aO.nil))⟩
 simp only[decide_eq_false_iff_not]at hc1;have hlast:vc s=[]∧jW rH (kj s)=(x,[]):=by
  rcases hcase with⟨_,h2,h⟩|⟨_,_,h⟩
  ·refine⟨h2, ?_⟩;have hl':ls.length=(kj s).length:=by rw[h]
   have:i=(kj s).length:=by omega
   subst this;rw[hrun,List.drop_length];rfl
  ·have hl':ls.length=(kj s).length+1:=by rw[h];simp
   omega
 obtain⟨hl0,hrx⟩:=hlast;refine aV ?_;refine bc (v:=.int .i64 ((x.st:Nat):Int)) ?_;refine ar ?_;refine aq (fun hc3=>?_) (fun hc3=>?_)
 ·simp only[decide_eq_true_eq]at hc3;have hrr:=HL h96 hrx (by omega);rw[hrr];refine ar ?_;refine aW cD ?_;refine aL cD (he:=by exact rfl) ?_;refine av ?_;refine kY ((0,.buf 9 [Rec.D ik])::[]) (.bf ae (.cons j6 .nil) .nil) ?_;refine aC ?_;refine bC (dK ?_ (congrArg (D.int .i64) ?_) (congrArg (D.int .i64) ?_));all_goals rfl
 simp only[decide_eq_false_iff_not]at hc3;obtain⟨hrs,hrr⟩:=JN h96 hrx (by omega) hl0;rw[hrr];refine ar ?_;refine eu 3 (hn:=jA _) (he:=by simp only[jr,fq,fV,ke,k9,bS,Nat.reduceEqDiff,if_true,if_false,and_self,true_and,and_true,false_and,and_false,Nat.zero_add,List.length_map,Nat.le_refl,List.drop_zero,aE,reduceCtorEq,List.length_cons,List.length_nil,Nat.reduceAdd,Nat.reduceLeDiff,lE,cD];exact rfl) (hm:=by simp only[jr,fq,fV,ke,k9,bS,Nat.reduceEqDiff,if_true,if_false,and_self,true_and,and_true,false_and,and_false,Nat.zero_add,List.length_map,Nat.le_refl,List.drop_zero,aE,reduceCtorEq,List.length_cons,List.length_nil,Nat.reduceAdd,Nat.reduceLeDiff,lE,cD,yO,qm,qn,sb];exact rfl) ?_;refine kY [(0,.buf 9 [cD]),(1,.buf 10 [lE x.r.name x.r.v x.r.needs.length x.r.bars.length x.r.feats.length ((x.st:Nat):Int) 2 4 5]),(2,.buf 3 (x.r.needs.map aP.D)),(4,.buf 3 (x.r.bars.map ec.D)),(5,.buf 2 (x.r.feats.map bd.D))] (.id ae (.id ae (.bf ae (vj 3 _) (.id ae (.id ae .nil))))) ?_;refine eu 2 (hn:=bg (fun _=>rfl) _) (he:=by simp only[jr,fq,fV,ke,k9,bS,Nat.reduceEqDiff,if_true,if_false,and_self,true_and,and_true,false_and,and_false,Nat.zero_add,List.length_map,Nat.le_refl,List.drop_zero,aE,reduceCtorEq,List.length_cons,List.length_nil,Nat.reduceAdd,Nat.reduceLeDiff,lE,cD];exact rfl) (hm:=by simp only[jr,fq,fV,ke,k9,bS,Nat.reduceEqDiff,if_true,if_false,and_self,true_and,and_true,false_and,and_false,Nat.zero_add,List.length_map,Nat.le_refl,List.drop_zero,aE,reduceCtorEq,List.length_cons,List.length_nil,Nat.reduceAdd,Nat.reduceLeDiff,lE,cD,yO,qm,qn,sb];exact rfl) ?_;refine eu 4 (hn:=bg (fun _=>rfl) _) (he:=by simp only[jr,fq,fV,ke,k9,bS,Nat.reduceEqDiff,if_true,if_false,and_self,true_and,and_true,false_and,and_false,Nat.zero_add,List.length_map,Nat.le_refl,List.drop_zero,aE,reduceCtorEq,List.length_cons,List.length_nil,Nat.reduceAdd,Nat.reduceLeDiff,lE,cD];exact rfl) (hm:=by simp only[jr,fq,fV,ke,k9,bS,Nat.reduceEqDiff,if_true,if_false,and_self,true_and,and_true,false_and,and_false,Nat.zero_add,List.length_map,Nat.le_refl,List.drop_zero,aE,reduceCtorEq,List.length_cons,List.length_nil,Nat.reduceAdd,Nat.reduceLeDiff,lE,cD,yO,qm,qn,sb];exact rfl) ?_;refine eu 5 (hn:=bg (fun _=>rfl) _) (he:=by simp only[jr,fq,fV,ke,k9,bS,Nat.reduceEqDiff,if_true,if_false,and_self,true_and,and_true,false_and,and_false,Nat.zero_add,List.length_map,Nat.le_refl,List.drop_zero,aE,reduceCtorEq,List.length_cons,List.length_nil,Nat.reduceAdd,Nat.reduceLeDiff,lE,cD];exact rfl) (hm:=by simp only[jr,fq,fV,ke,k9,bS,Nat.reduceEqDiff,if_true,if_false,and_self,true_and,and_true,false_and,and_false,Nat.zero_add,List.length_map,Nat.le_refl,List.drop_zero,aE,reduceCtorEq,List.length_cons,List.length_nil,Nat.reduceAdd,Nat.reduceLeDiff,lE,cD,yO,qm,qn,sb];exact rfl) ?_;refine ax ?_;refine bc (v:=Rec.D x.r) ?_;refine ak (hc:=h71 x.r hrs) ?_;refine fM ?_;refine aq (fun hc4=>?_) (fun hc4=>?_)
 ·simp only[Bool.not_eq_true',decide_eq_false_iff_not]at hc4;rw[if_pos hc4];refine ar ?_;refine aW cD ?_;refine aC ?_;refine aL cD (he:=by exact rfl) ?_;refine av ?_;refine kY ((0,.buf 9 [Rec.D ik])::[]) (.bf ae (.cons j6 .nil) .nil) ?_;refine aC ?_;refine bC (dK ?_ (congrArg (D.int .i64) ?_) (congrArg (D.int .i64) ?_));all_goals rfl
 simp only[Bool.not_eq_false',decide_eq_true_eq]at hc4;rw[if_neg (by rw[hc4];simp)];refine aJ ?_;refine bc (v:=Rec.D x.r) ?_;refine aL (Rec.D x.r) (he:=by exact rfl) ?_;refine ax ?_;refine bC (dK ?_ (congrArg (D.int .i64) ?_) (congrArg (D.int .i64) ?_));all_goals rfl
def C77 (Γ:Ctx):Prop:=∀(s:ai),Γ.pre 77 [.str s]∧Γ.val 77 [.str s]=.tup [Rec.D (c7 s).1,.int .i64 (c7 s).2.1,.int .i64 (c7 s).2.2]
end Go.Abs
end
section
namespace Go.Abs
def awT:ai:=[112,97,99,107,97,103,101,32,97,112,112,32,49,46,48,46,48,10,110,101,101,100,10,97,110,121,32,98,32,120,32,102,117,108,108,32,94,49,10,119,104,101,110,32,111,115,32,61,32,120,10,98,97,114,32,99,32,42,10,102,101,97,116,117,114,101,32,121,32,98,47,122,10]
def IX:ai:=[112,97,99,107,97,103,101,32,97,112,112,32,49,46,48,46,48,10,97,110,121,32,98,32,45,32,102,117,108,108,32,42,10]
def FH:Rec:=⟨[97,112,112],⟨1,0,0,[],[]⟩,[⟨[⟨[98],[94,49],[[120]],false⟩],[111,115,32,61,32,120],[]⟩],[⟨[99],[42],[]⟩],[⟨[121],[[98,47,122]]⟩]⟩
set_option maxRecDepth 100000 in
theorem aw1:c7 awT=(FH,0,0):=by decide+kernel
set_option maxRecDepth 100000 in
theorem aw3:nE FH=(awT,0):=by decide+kernel
set_option maxRecDepth 100000 in
theorem aw2:(c7 IX).2=(2,2):=by decide+kernel
def LO:gA FH:=by
 refine⟨⟨by decide,by decide,by decide⟩,fun n hn=>?_,fun b hb=>?_,fun f hf=>?_⟩
 ·simp only[FH,List.mem_singleton]at hn;subst hn;refine⟨fun w hw=>?_,by decide,by decide⟩;simp only[List.mem_singleton]at hw;subst hw;exact⟨⟨by decide,by decide⟩,fun t ht=>by simp only[List.mem_singleton]at ht;subst ht;decide⟩
 ·simp only[FH,List.mem_singleton]at hb;subst hb;exact⟨by decide,by decide,by decide⟩
 ·simp only[FH,List.mem_singleton]at hf;subst hf;exact⟨by decide,by decide,fun t ht=>by simp only[List.mem_singleton]at ht;subst ht;decide⟩
end Go.Abs
end
section
namespace Go.Abs
open Go
def As:aB:=⟨0,8,[⟨0,none⟩],bO,(sq (r1 [gm ct] 0 0) (sq (rg [gx 76 [(cs [112,97,99,107,97,103,101,32,97,112,112,32,49,46,48,46,48,10,110,101,101,100,10,97,110,121,32,98,32,120,32,102,117,108,108,32,94,49,10,119,104,101,110,32,111,115,32,61,32,120,10,98,97,114,32,99,32,42,10,102,101,97,116,117,114,101,32,121,32,98,47,122,10])] bO,gm l0,ge l1 0,ge l1 1,ge l1 2,gb 9 (.c (.agg [.str [],.int .i64 0,.int .i64 0,.int .i64 0,.str [],.str [],.az,.az,.az])),gt 9 l5 l2,gm l3,gm l4] [(1,5),(2,7),(4,8)]) (sq (rg [gk 9 true s1,gx 72 [l0] [[.a,.a,.a,.a,.a,.a,.sl 3 [.sl 4 [.a,.a,.sl 1 [.a],.a],.a,.a],.sl 3 [.a,.a,.a],.sl 2 [.a,.sl 1 [.a]]]],gm l1,ge l2 0,ge l2 1,gm l3,gm l4] [(5,5),(3,6)]) (sq (rg [gx 76 [(cs [112,97,99,107,97,103,101,32,97,112,112,32,49,46,48,46,48,10,97,110,121,32,98,32,45,32,102,117,108,108,32,42,10])] bO,gm l0,ge l1 0,ge l1 1,ge l1 2,gb 9 (.c (.agg [.str [],.int .i64 0,.int .i64 0,.int .i64 0,.str [],.str [],.az,.az,.az])),gt 9 l5 l2,gm l3,gm l4] [(6,7),(7,8)]) (sq (r1 [gm s2,aG l0 bh,gm l1,gmt 2 s3,bZ 2 (ca l3 bh),dZ l2 l4,gm l5,gmt 6 s4,bZ 6 (ca l7 bh),dZ l6 l8,gm l9,kA 10 6 s1,iO 10 fI,bZ 10 (.len gV),bZ 10 (ca iQ bR),dZ l10 jt,gm kB,kA 16 7 s1,iO 16 nU,bZ 16 (.len oB),bZ 16 (ca pY bR),dZ mE ua,gm wP,gmt 22 s5,bZ 22 (.lenS BC),bZ 22 (ca BD (i6 73)),dZ xA B8,gm FK,gmt 27 s6,bZ 27 (ca Jt jF),dZ GQ Ju,gm L6,gmt 31 s7,bZ 31 (ca MW jF),dZ MV l33,gm l34] 0 35) .ret)))))⟩
def w69 {Γ:Ctx}(hm:(Γ.at 0).a8)(h72:C72 Γ)(h76:C76 Γ)    :dq Γ As (.bool true) []:=by
 show bz _ _ _ [_,_,_,_,_,_,_,_] _;refine aj ?_;refine av ?_;refine ak (v:=.tup [Rec.D FH,.int .i64 0,.int .i64 0]) (hc:=by have:=h76 awT;rw[aw1]at this;exact this) ?_;refine aC ?_;refine dU (Rec.D _) ?_;refine av ?_;refine aL (Rec.D FH) (he:=by exact rfl) ?_;refine ax ?_;refine cG (d:=Rec.D FH) ?_;refine ak (v:=.tup [.str awT,.int .i64 0]) (hc:=by have:=h72 FH LO;rw[aw3]at this;exact this) ?_;refine aV ?_;refine ak (v:=.tup [Rec.D (c7 IX).1,.int .i64 2,.int .i64 2]) (hc:=by have:=h76 IX;rw[aw2]at this;exact this) ?_;refine aC ?_;refine dU (Rec.D _) ?_;refine av ?_;refine aL (Rec.D (c7 IX).1) (he:=by exact rfl) ?_;refine wC ?_;refine bc (v:=.sl 3 (FH.needs.map aP.D)) ?_;refine gT ?_;refine ax ?_;refine bc (v:=.sl 3 (FH.bars.map ec.D)) ?_;refine gT ?_;refine ax ?_;refine gT ?_;refine kv ?_;refine br ?_;decide
def C69 (Γ:Ctx):Prop:=Γ.pre 69 []∧Γ.val 69 []=.bool true
end Go.Abs
end
section
namespace Go.Abs
open Go
end Go.Abs
end
section
namespace Go.Abs
open Go
end Go.Abs
end
section
namespace Go.Abs
open Go
end Go.Abs
end
section
namespace Go.Abs
open Go
def rk:aB:=⟨1,9,gG,bO,(sq (r1 [gm ct] 1 0) (sq (sq (r1 [gm s0,m9 l0,cB l1 (i6 500)] 2 2) (.cond s2 (sq (r1 [gx 69 [] [],gm l0] 1 1) .ret) .skip)) (sq (rg [gm s0,gx 76 [l0] bO,gm l1,ge l2 0,ge l2 1,ge l2 2,gb 9 (.c (.agg [.str [],.int .i64 0,.int .i64 0,.int .i64 0,.str [],.str [],.az,.az,.az])),gt 9 l6 l3,gm l4,gm l5] [(3,6),(5,8),(7,9)]) (sq (rg [gm s0,gx 77 [l0] bO,gm l1,ge l2 0,ge l2 1,ge l2 2,gb 9 (.c (.agg [.str [],.int .i64 0,.int .i64 0,.int .i64 0,.str [],.str [],.az,.az,.az])),gt 9 l6 l3,gm l4,gm l5] [(4,6),(6,8),(8,9)]) (sq (r1 [gx 69 [] [],gm l0,bZ 1 (.ld 9 true s3),bZ 1 (.ld 9 true s4),bZ 1 (.call 78 [l2,l3] [[.a,.a,.a,.a,.a,.a,.sl 3 [.sl 4 [.a,.a,.sl 1 [.a],.a],.a,.a],.sl 3 [.a,.a,.a],.sl 2 [.a,.sl 1 [.a]]],[.a,.a,.a,.a,.a,.a,.sl 3 [.sl 4 [.a,.a,.sl 1 [.a],.a],.a,.a],.sl 3 [.a,.a,.a],.sl 2 [.a,.sl 1 [.a]]]]),dZ l1 l4,gm l5,gmt 6 s5,gmt 6 s6,bZ 6 (ca l7 l8),dZ l6 l9,gm l10,gmt 11 s7,gmt 11 s8,bZ 11 (ca gV iQ),dZ fI jt,gm kB] 1 16) .ret)))))⟩
def w12 {Γ:Ctx}(hm:(Γ.at 0).a8)(h69:C69 Γ)(h76:C76 Γ)(h77:C77 Γ)(h78:C78 Γ)(s:ai)   :dq Γ rk (.bool true) [.str s]:=by
 show bz _ _ _ [⟨_,_⟩,_,_,_,_,_,_,_,_] _;refine aj ?_;refine aA ?_;intro u0;refine ar ?_;refine cd (fun hc0=>?_) fun hc0=>?_
 ·refine ar ?_;refine ak (hc:=h69) ?_;refine av ?_;exact br rfl
 refine av ?_;refine ak (hc:=h76 s) ?_;refine aC ?_;refine dU (Rec.D _) ?_;refine av ?_;refine aL (Rec.D (c7 s).1) (he:=by exact rfl) ?_;refine aJ ?_;refine ak (hc:=h77 s) ?_;refine aC ?_;refine dU (Rec.D _) ?_;refine av ?_;refine aL (Rec.D (c7 s).1) (he:=by exact rfl) ?_;refine ax ?_;refine ak (hc:=h69) ?_;refine aC ?_;refine cG (d:=Rec.D (c7 s).1) ?_;refine cG (d:=Rec.D (c7 s).1) ?_;refine ak (hc:=h78 (c7 s).1 (c7 s).1) ?_;refine p8 ?_;refine br ?_;simp
end Go.Abs
end
section
namespace Go.Abs
def LR:List D→Nat
 |_::.int _ (.ofNat 4)::_=>3
 |_=>1
def A12 (T:RT):Prop:=∀(s:ai),T [.str s] (.bool true)
def D12:OE (yV A12):=bp
def A69 (T:RT):Prop:=T [] (.bool true)
def A70 (T:RT):Prop:=∀(r:Rec),(gA r)→T [Rec.D r] (.tup [.int .i64 (bX r).1,.int .i64 (bX r).2])
def A71 (T:RT):Prop:=∀(r:Rec),(gA r)→T [Rec.D r] (.tup [.int .i64 (bX r).1,.int .i64 (bX r).2])
def A72 (T:RT):Prop:=∀(r:Rec),(gA r)→T [Rec.D r] (.tup [.str (nE r).1,.int .i64 (nE r).2])
def A76 (T:RT):Prop:=∀(s:ai),T [.str s] (.tup [Rec.D (c7 s).1,.int .i64 (c7 s).2.1,.int .i64 (c7 s).2.2])
def A77 (T:RT):Prop:=∀(s:ai),T [.str s] (.tup [Rec.D (c7 s).1,.int .i64 (c7 s).2.1,.int .i64 (c7 s).2.2])
def A78 (T:RT):Prop:=∀(a:Rec)(b:Rec),T [Rec.D a,Rec.D b] (.bool (decide (a=b)))
def Nb (T:RT):Prop:=∀(s:ai)(b:UInt8),(s.length≤1048576)→T [.str s,.str [b]] (.sl 1 ((ah s b.toNat).map D.str))
def Nc (T:RT):Prop:=∀(s:ai),(s.length≤1048576)→T [.str s,.str [124,124]] (.sl 1 ((ay s []).map D.str))
def A124 (T:RT):Prop:=Nb T∧Nc T
def A208 (T:RT):Prop:=∀(s:ai),T [.str s] (.bool (eY s))
def A209 (T:RT):Prop:=∀(v:b7),(v.sm)→T [b7.D v] (.bool (iF v))
def A210 (T:RT):Prop:=∀(r:Rec)(n:aP),(n.sm)→T [Rec.D r,aP.D n] (.int .i64 (fJ r n))
def A211 (T:RT):Prop:=∀(r:Rec)(name:ai)(rng:ai),(rng.length≤1048576)→T [Rec.D r,.str name,.str rng] (.int .i64 (eL r name rng))
def A212 (T:RT):Prop:=∀(s:ai),T [.str s] (.bool (ml s))
def A213 (T:RT):Prop:=∀(l:List bd),(nr l)→T [.sl 2 (l.map bd.D)] (.bool (fo l))
def A214 (T:RT):Prop:=∀(r:Rec)(s:ai),(s.length≤1048576)→T [Rec.D r,.str s] (.int .i64 (kg r s))
def A215 (T:RT):Prop:=∀(r:Rec),(pW r∧gA r)→T [Rec.D r] (.str (nN r))
def A216 (T:RT):Prop:=∀(s:ai),T [.str s] (.bool (eY s))
def A217 (T:RT):Prop:=∀(v:b7),(v.sm)→T [b7.D v] (.bool (iF v))
def A218 (T:RT):Prop:=∀(r:Rec),(gA r)→T [Rec.D r] (.tup [.int .i64 (dh r).1,.int .i64 (dh r).2])
def A219 (T:RT):Prop:=∀(r:Rec),(pW r∧gA r)→T [Rec.D r] (.str (nN r))
def Nf (T:FT):Prop:=∀(r:Ld),(r.sm)→T (Ld.D r) [] (.tup [Rec.D (dX r.rest).1,.bool (mY r.rest).isSome]) (Ld.D (r.to (dX r.rest).2))
def OA:um (mF Nf):=I5
def A223 (T:RT):Prop:=∀(s:ai),(s.length≤1048576)→T [.str s] (.tup [.sl 1 ((fA s).1.map D.str),.bool (fA s).2])
def A225 (T:RT):Prop:=∀(a:aP)(b:aP),T [aP.D a,aP.D b] (.bool (decide (a=b)))
def A226 (T:RT):Prop:=∀(a:List ai)(b:List ai),T [.sl 1 (a.map D.str),.sl 1 (b.map D.str)] (.bool (decide (a=b)))
def A242 (T:RT):Prop:=∀(l:List ai)(sep:ai),(l.length≤1048600)→(sep.length≤4)→(∀t∈l,t.length≤2097200)→T [.sl 1 (l.map D.str),.str sep] (.str (aM sep l))
def A245 (T:RT):Prop:=∀(s:ai)(n:Int),(s.length≤1048576)→(n=-1∨(1≤n∧n≤1000))→T [.str s,.str [32],.int .i64 n] (.sl 1 ((jm n s).map D.str))
def A246 (T:RT):Prop:=∀(l:List ai)(x:ai),T [.sl 1 (l.map D.str),.str x] (.bool (decide (x∈l)))
def A249 (T:RT):Prop:=∀(l:List ai)(x:UInt8),((aM [x] l).length≤1099511627776)→T [.sl 1 (l.map D.str),.int .u8 (x.toNat:Nat)] (.str (aM [x] l))
def A254 (T:RT):Prop:=∀(s:ai)(p:ai),(s.length≤1048576)→(p.length≤1048576)→T [.str s,.str p] (.tup [.str (dN s p).1,.bool (dN s p).2])
def A316 (T:RT):Prop:=∀(v:b7),(v.sm)→T [b7.D v] (.str (lv v))
def A336 (T:RT):Prop:=∀(n:Int),(0≤n∧n≤9999)→T [.int .i64 n] (.str (cW n.toNat))
def A349 (T:RT):Prop:=∀(s:ai),T [.str s] (.bool (bV s))
def A357 (T:RT):Prop:=∀(s:ai),T [.str s] (.bool (bV s))
def A440 (T:RT):Prop:=∀(n:Int),T [.int .i64 n] (.bool (lM n))
def A441 (T:RT):Prop:=∀(s:ai),(s.length≤1048576)→T [.str s] (.bool (kW s true))
def A442 (T:RT):Prop:=∀(s:ai),(s.length≤1048576)→T [.str s] (.bool (kW s false))
def A443 (T:RT):Prop:=∀(r:Rec)(w:bm)(al:Bool),(w.sm)→T [Rec.D r,bm.D w,.bool al] (.int .i64 (gY r w al))
def A444 (T:RT):Prop:=∀(s:ai),(s.length≤1048576)→T [.str s] (.bool (nF s))
def A445 (T:RT):Prop:=∀(s:ai),T [.str s] (.tup [eX (ij s).1,.int .i64 (ij s).2])
def A446 (T:RT):Prop:=∀(m:Dg),T [eX m] (.str (Hp m))
def A447 (T:RT):Prop:=∀(l:List ai),T [.sl 1 (l.map D.str)] (.bool (rising l))
def A448 (T:RT):Prop:=∀(s:ai),(s.length≤1048576)→T [.str s] (.tup [.int .i64 (cg s).1,.str (cg s).2.1,.str (cg s).2.2])
def A449 (T:RT):Prop:=∀(l:List bd)(nm:ai),T [.sl 2 (l.map bd.D),.str nm] (.bool (L2 l nm))
def A451 (T:RT):Prop:=∀(v:b7),(v.sm)→T [b7.D v] (.str (lv v))
def A453 (T:RT):Prop:=∀(c:Int),T [.int .u8 c] (.bool (gu c))
def A454 (T:RT):Prop:=∀(c:Int),T [.int .u8 c] (.bool (aZ c))
def A455 (T:RT):Prop:=∀(n:Int),T [.int .i64 n] (.bool (lM n))
def A456 (T:RT):Prop:=∀(s:ai)(p:Bool),(s.length≤1048576)→T [.str s,.bool p] (.bool (oT s p))
def A457 (T:RT):Prop:=∀(r:Rec)(n:aP),(n.sm)→T [Rec.D r,aP.D n] (.int .i64 (fJ r n))
def A458 (T:RT):Prop:=∀(r:Rec)(b:ec),(b.sm)→T [Rec.D r,ec.D b] (.int .i64 (nP r b))
def A459 (T:RT):Prop:=∀(l:List bd),(nr l)→T [.sl 2 (l.map bd.D)] (.bool (fo l))
def A460 (T:RT):Prop:=∀(r:Rec)(of:List ai),(∀t∈of,t.length≤1048576)→T [Rec.D r,.sl 1 (of.map D.str)] (.int .i64 (iY r of))
def A461 (T:RT):Prop:=∀(w:bm),(w.fit)→T [bm.D w] (.str (gE w))
def A462 (T:RT):Prop:=∀(s:ai),(s.length≤1048576)→T [.str s] (.str (gX s))
def Ng (T:FT):Prop:=∀(r:Ld)(w:ai)(n:Nat)(op:Bool),(r.sm)→(n≤1000)→(op=true→1≤n)→T (Ld.D r) [.str w,.int .i64 (n:Nat),.bool op] (.tup [wT (bI w n op r.rest),.bool (bI w n op r.rest).isSome]) (Ld.D (r.after (bI w n op r.rest)))
def OB:um (mF Ng):=I5
def A466 (T:RT):Prop:=∀(s:ai),(s.length≤1048576)→T [.str s] (.tup [b7.D ((ee s).getD dY),.int .i64 (kO s)])
def Nh (T:FT):Prop:=∀(r:Ld),(r.sm)→T (Ld.D r) [] (aP.D (dA r.rest).1) (Ld.D (r.to (dA r.rest).2))
def OC:um (mF Nh):=I5
def Ni (T:FT):Prop:=∀(r:Ld),(r.sm)→T (Ld.D r) [] (.str (bG r.rest).1) (Ld.D (r.to (bG r.rest).2))
def OD:um (mF Ni):=I5
def A469 (T:RT):Prop:=∀(l:List ai),(l.length≤1048600)→T [.sl 1 (l.map D.str)] (.sl 1 (l.map D.str))
def A470 (T:RT):Prop:=∀(s:ai)(b:Int),(s.length≤1048576)→T [.str s,.int .u8 b] (.sl 1 ((ah s b).map D.str))
def A474 (T:RT):Prop:=∀(l:List ai)(n:Nat),T [.sl 1 (l.map D.str),.int .i64 (n:Nat)] (.bool (rr l n))
def A475 (T:RT):Prop:=∀(s:ai)(n:Nat),(s.length≤1048576)→(n≤100)→T [.str s,.int .i64 (n:Nat)] (.tup [.sl 1 ((ei s n).1.map D.str),.str (ei s n).2.1,.bool (ei s n).2.2])
def A477 (T:RT):Prop:=∀(a:bm)(b:bm),T [bm.D a,bm.D b] (.bool (decide (a=b)))
def A482 (T:RT):Prop:=∀(c:cj),(c.v.sm)→T [cj.D c] (.str (cP c))
def A487 (T:RT):Prop:=∀(s:ai)(b:UInt8),(s.length≤1048576)→T [.str s,.str [b]] (.tup [.str (fg s b).1,.str (fg s b).2.1,.bool (fg s b).2.2])
def A494 (T:RT):Prop:=∀(l:List ai)(x:ai),T [.sl 1 (l.map D.str),.str x] (.int .i64 (rh l x 0))
def A495 (T:RT):Prop:=∀(s:ai),(s.length≤1048576)→T [.str s] (.tup [dy (eK s).1,.int .i64 (eK s).2])
def A496 (T:RT):Prop:=∀(r:pR),(fU r)→T [dy r] (.str (oP r))
def A533 (T:RT):Prop:=∀(s:ai)(b:Int),(s.length≤1048576)→T [.str s,.int .u8 b] (.sl 1 ((ah s b).map D.str))
def A554 (T:RT):Prop:=∀(v:b7),(lM v.major=true∧lM v.minor=true∧lM v.patch=true)→T [b7.D v] (.str (cW v.major.toNat++[46]++cW v.minor.toNat++[46]++cW v.patch.toNat))
def A568 (T:RT):Prop:=∀(s:ai),(s.length≤1048576)→T [.str s] (.tup [b7.D ((ee s).getD dY),.int .i64 (kO s)])
def A572 (T:RT):Prop:=∀(s:ai),(s.length≤1048576)→T [.str s] (.bool (nF s))
def A658 (T:RT):Prop:=∀(s:ai),T [.str s] (.tup [.int .i64 (cT s),.bool (dQ s)])
def A659 (T:RT):Prop:=∀(t:ai),T [.str t] (.bool (eh t))
def A661 (T:RT):Prop:=∀(m:Dg),T [eX m] (.bool (qq m))
def A662 (T:RT):Prop:=∀(l:List Nd),(ez l∧l.length≤15)→T [.sl 5 (l.map Nd.D)] (.str (kP l))
def A663 (T:RT):Prop:=∀(l:List bd)(nm:ai),T [.sl 2 (l.map bd.D),.str nm] (.int .i64 (findF l nm 0))
def A665 (T:RT):Prop:=∀(n:Int),(0≤n∧n≤9999)→T [.int .i64 n] (.str (cW n.toNat))
def A666 (T:RT):Prop:=∀(t:ai),T [.str t] (.bool (nZ t))
def A667 (T:RT):Prop:=∀(s:ai),T [.str s] (.tup [.int .i64 (cT s),.bool (dQ s)])
def A668 (T:RT):Prop:=∀(t:ai),T [.str t] (.bool (eh t))
def A669 (T:RT):Prop:=∀(r:Rec)(w:bm)(al:Bool),(w.sm)→T [Rec.D r,bm.D w,.bool al] (.int .i64 (gY r w al))
def A670 (T:RT):Prop:=∀(s:ai),T [.str s] (.bool (ml s))
def A671 (T:RT):Prop:=∀(l:List bd)(of:List ai),(∀t∈of,t.length≤1048576)→T [.sl 2 (l.map bd.D),.sl 1 (of.map D.str)] (.bool (jJ l of))
def A672 (T:RT):Prop:=∀(s:ai),(s.length≤1048576)→T [.str s] (.tup [.int .i64 (cg s).1,.str (cg s).2.1,.str (cg s).2.2])
def A673 (T:RT):Prop:=∀(r:Rec)(x:ai),T [Rec.D r,.str x] (.bool (Co r.needs x))
def A674 (T:RT):Prop:=∀(r:Rec)(x:ai),T [Rec.D r,.str x] (.bool (vC r.needs x))
def A675 (T:RT):Prop:=∀(s:ai)(b:Int),T [.str s,.int .u8 b] (.tup [.str (aw s b).1,.str (aw s b).2])
def A676 (T:RT):Prop:=∀(c:cj),(c.v.sm)→T [cj.D c] (.bool (jC c))
def A678 (T:RT):Prop:=∀(op:Int),T [.int .i64 op] (.str (cv op))
def A682 (T:RT):Prop:=∀(s:ai),(s.length≤1048575)→T [.str s] (.tup [cj.D ((jq s).getD cZ),.int .i64 (if(jq s).isSome=true then 0 else 6)])
def A683 (T:RT):Prop:=∀(s:ai)(b:UInt8),(b=32)→(s.length≤1048576)→T [.str s,.str [b]] (.str (c9 s))
def A684 (T:RT):Prop:=∀(r:pR),(fU r)→T [dy r] (.tup [.str (if gN r=true then vT r else []),.bool (gN r)])
def A685 (T:RT):Prop:=∀(r:pR),(fU r)→T [dy r] (.bool (nW r))
def A734 (T:RT):Prop:=∀(n:Int),(0≤n∧n≤9999)→T [.int .i64 n] (.str (cW n.toNat))
def A741 (T:RT):Prop:=∀(s:ai)(b:Int),T [.str s,.int .u8 b] (.int .i64 ((aw s b).2.length:Nat))
def A742 (T:RT):Prop:=∀(l:List ai),T [.sl 1 (l.map D.str)] (.tup [b7.D (cF l).1,.bool (cF l).2])
def A744 (T:RT):Prop:=∀(s:ai),(s.length≤1048576)→T [.str s] (.tup [dy (eK s).1,.int .i64 (eK s).2])
def A745 (T:RT):Prop:=∀(r:pR),(fU r)→T [dy r] (.str (oP r))
def A810 (T:RT):Prop:=∀(l:List Nd),T [.sl 5 (l.map Nd.D)] (.bool (decide (l.length≤15)&&kX l))
def A811 (T:RT):Prop:=∀(l:List Nd)(i:Int),(ez l∧l.length≤15∧0≤i∧i<l.length)→T [.sl 5 (l.map Nd.D),.int .i64 i] (.str (iE l i))
def u811:List D→Nat:=fun ds=>2*(match ds.getD 1 .any with| .int _ i=>i.toNat|_=>0)
def A812 (T:RT):Prop:=∀(l:List ai)(al:Bool),T [.sl 1 (l.map D.str),.bool al] (.bool (jl l al))
def A813 (T:RT):Prop:=∀(s:ai),T [.str s] (.tup [eX (ij s).1,.int .i64 (ij s).2])
def A814 (T:RT):Prop:=∀(m:Dg),T [eX m] (.str (Hp m))
def A815 (T:RT):Prop:=∀(l:List ai),T [.sl 1 (l.map D.str)] (.bool (rising l))
def A816 (T:RT):Prop:=∀(l:List bd)(nm:ai),T [.sl 2 (l.map bd.D),.str nm] (.bool (L2 l nm))
def A819 (T:RT):Prop:=∀(s:ai),(s.length≤1048576)→T [.str s] (.tup [cj.D ((eQ s).getD cZ),.bool (eQ s).isSome])
def A827 (T:RT):Prop:=∀(c:cj),(c.v.sm)→T [cj.D c] (.bool (jC c))
def A828 (T:RT):Prop:=∀(c:cj),(c.v.sm)→T [cj.D c] (.str (cP c))
def A882 (T:RT):Prop:=∀(n:Nat),(n≤9999)→T [.int .u64 (n:Nat)] (.str (cW n))
def A896 (T:RT):Prop:=∀(s:ai),(s.length≤1048576)→T [.str s] (.sl 1 ((ay s []).map D.str))
def A897 (T:RT):Prop:=∀(s:ai),(s.length≤1048576)→T [.str s] (.tup [cj.D ((dc s).getD cZ),.int .i64 (if(dc s).isSome=true then 0 else 6)])
def A898 (T:RT):Prop:=∀(s:ai),T [.str s] (.str (c9 s))
def A899 (T:RT):Prop:=∀(r:pR),(fU r)→T [dy r] (.bool (gN r))
def A900 (T:RT):Prop:=∀(r:pR),(gN r=true∧fU r)→T [dy r] (.str (vT r))
def A901 (T:RT):Prop:=∀(r:pR),(fU r)→T [dy r] (.bool (nW r))
def A946 (T:RT):Prop:=∀(w:List ai)(es:List D)(b:Bool),T [.ref 3 [fF w (.sl 5 es) b] 0 0] (.str (aQ w))
def A950 (T:RT):Prop:=T [] (.sl 1 (nM.map D.str))
def A951 (T:RT):Prop:=∀(l:List Nd)(i:Int)(b:Bool),(ez l∧l.length≤15∧0≤i∧i<l.length)→T [.sl 5 (l.map Nd.D),.int .i64 i,.bool b] (.str (iN (iE l i) b))
def u951:List D→Nat:=fun ds=>2*(match ds.getD 1 .any with| .int _ i=>i.toNat|_=>0)+1
def A953 (T:RT):Prop:=∀(m:Dg),T [eX m] (.bool (qq m))
def A954 (T:RT):Prop:=∀(l:List Nd),(ez l∧l.length≤15)→T [.sl 5 (l.map Nd.D)] (.str (kP l))
def A955 (T:RT):Prop:=∀(l:List bd)(nm:ai),T [.sl 2 (l.map bd.D),.str nm] (.int .i64 (findF l nm 0))
def A956 (T:RT):Prop:=∀(s:ai)(w:ai),T [.str s,.str w] (.bool (nQ s w))
def A957 (T:RT):Prop:=∀(op:Int),T [.int .i64 op] (.str (cv op))
def M1 (T:RT):Prop:=∀(s:ai),T [.str s] (.tup [.int .i64 (eC s).1,.str (eC s).2])
def M3 (T:RT):Prop:=∀(s:ai),T [.str s] (.tup [.str (fh s 0).1,.str (fh s 0).2])
def M4 (T:RT):Prop:=∀(l:List ai),T [.sl 1 (l.map D.str)] (.tup [b7.D (tH l),.bool (dL l)])
def M5 (T:RT):Prop:=∀(l:List Nd),(l.length≤15)→T [.sl 5 (l.map Nd.D)] (.bool (kX l))
def M6 (T:RT):Prop:=∀(l:List Nd)(i:Int),(ez l∧l.length≤15∧0≤i∧i<l.length)→T [.sl 5 (l.map Nd.D),.int .i64 i] (.str (iE l i))
def Qq:List D→Nat:=fun ds=>2*(match ds.getD 1 .any with| .int _ i=>i.toNat|_=>0)
def M7 (T:RT):Prop:=∀(s:ai)(w:ai),T [.str s,.str w] (.bool (nQ s w))
def M8 (T:RT):Prop:=∀(n:Nd),T [Nd.D n] (.bool (lR n))
def M9 (T:RT):Prop:=∀(k:Int),(0≤k∧k<3)→T [.int .i64 k] (.str (pN k))
def Na (T:RT):Prop:=∀(s:ai)(b:Bool),(s.length≤1000000000)→T [.str s,.bool b] (.str (iN s b))
def aU:List (Nat×pK):=[(12,rP 17 A12),(69,rP 16 A69),(70,rP 14 A70),(71,rP 14 A71),(72,rP 15 A72),(76,rP 15 A76),(77,rP 15 A77),(78,rP 4 A78),(124,rP 1 A124),(208,rP 1 A208),(209,rP 4 A209),(210,rP 13 A210),(211,rP 11 A211),(212,rP 6 A212),(213,rP 3 A213),(214,rP 3 A214),(215,rP 6 A215),(216,rP 2 A216),(217,rP 4 A217),(218,rP 13 A218),(219,rP 6 A219),(222,rF 7 Nf),(223,rP 2 A223),(224,rG 7 KN),(225,rP 3 A225),(226,rP 1 A226),(242,rP 1 A242),(245,rP 1 A245),(246,rP 2 A246),(249,rP 1 A249),(254,rP 1 A254),(316,rP 5 A316),(336,rP 1 A336),(349,rP 1 A349),(357,rP 2 A357),(440,rP 1 A440),(441,rP 3 A441),(442,rP 2 A442),(443,rP 12 A443),(444,rP 10 A444),(445,rP 5 A445),(446,rP 5 A446),(447,rP 1 A447),(448,rP 2 A448),(449,rP 2 A449),(450,rG 2 KR),(451,rP 5 A451),(452,rG 1 KT),(453,rP 1 A453),(454,rP 1 A454),(455,rP 1 A455),(456,rP 3 A456),(457,rP 12 A457),(458,rP 11 A458),(459,rP 5 A459),(460,rP 4 A460),(461,rP 2 A461),(462,rP 1 A462),(465,rFG 3 Ng Dd),(466,rP 6 A466),(467,rF 5 Nh),(468,rF 4 Ni),(469,rP 1 A469),(470,rP 1 A470),(471,rG 6 KW),(472,rG 3 KX),(473,rG 3 KY),(474,rP 1 A474),(475,rP 2 A475),(476,rG 2 K0),(477,rP 2 A477),(482,rP 6 A482),(487,rP 1 A487),(489,rG 1 K2),(494,rP 1 A494),(495,rP 9 A495),(496,rP 8 A496),(533,rP 1 A533),(554,rP 3 A554),(568,rP 5 A568),(572,rP 10 A572),(658,rP 1 A658),(659,rP 1 A659),(660,rG 4 K4 (yX fun _=>4)),(661,rP 4 A661),(662,rP 3 A662),(663,rP 1 A663),(664,rG 1 K7),(665,rP 2 A665),(666,rP 1 A666),(667,rP 2 A667),(668,rP 1 A668),(669,rP 11 A669),(670,rP 7 A670),(671,rP 4 A671),(672,rP 3 A672),(673,rP 1 A673),(674,rP 1 A674),(675,rP 1 A675),(676,rP 5 A676),(677,rG 3 Lc),(678,rP 1 A678),(682,rP 8 A682),(683,rP 1 A683),(684,rP 7 A684),(685,rP 8 A685),(734,rP 2 A734),(741,rP 1 A741),(742,rP 3 A742),(744,rP 8 A744),(745,rP 9 A745),(808,rG 4 C808 (yX LR)),(809,rG 4 C809 (yX fun _=>2)),(810,rP 2 A810),(811,rP 2 A811 u811),(812,rP 3 A812),(813,rP 6 A813),(814,rP 6 A814),(815,rP 1 A815),(816,rP 2 A816),(819,rP 7 A819),(827,rP 5 A827),(828,rP 6 A828),(882,rP 1 A882),(896,rP 1 A896),(897,rP 7 A897),(898,rP 1 A898),(899,rP 6 A899),(900,rP 7 A900),(901,rP 8 A901),(946,rP 1 A946),(947,rG 2 Eg),(948,rG 1 F3),(949,rG 4 C949 (yX fun _=>0)),(950,rP 1 A950),(951,rP 2 A951 u951),(952,rG 4 Ln (yX fun _=>2)),(953,rP 5 A953),(954,rP 3 A954),(955,rP 1 A955),(956,rP 1 A956),(957,rP 1 A957),(1006,rP 2 M1),(1007,rP 1 M3),(1008,rP 3 M4),(1031,rG 3 FN),(1032,rG 4 Nj (yX fun _=>1)),(1033,rG 1 zL),(1034,rG 1 xa),(1035,rP 4 M5),(1036,rP 2 M6 Qq),(1079,rP 1 M7),(1097,rG 4 Nk (yX fun _=>0)),(1098,rP 3 M8),(1099,rP 1 M9),(1100,rP 1 Na),(1126,rG 3 FR),(1141,rG 1 FU)]
variable {k u v:Nat}
def G69 (hk:16<k:=by decide):C69 (under aU k u):=cX bp (.inl hk) fun T hT=>hT
def G70 (hk:14<k:=by decide):C70 (under aU k u):=fun r hp0=>cX bp (.inl hk) fun T hT=>hT r hp0
def G71 (hk:14<k:=by decide):C71 (under aU k u):=fun r hp0=>cX bp (.inl hk) fun T hT=>hT r hp0
def G72 (hk:15<k:=by decide):C72 (under aU k u):=fun r hp0=>cX bp (.inl hk) fun T hT=>hT r hp0
def G76 (hk:15<k:=by decide):C76 (under aU k u):=fun s=>cX bp (.inl hk) fun T hT=>hT s
def G77 (hk:15<k:=by decide):C77 (under aU k u):=fun s=>cX bp (.inl hk) fun T hT=>hT s
def G78 (hk:4<k:=by decide):C78 (under aU k u):=fun a b=>cX bp (.inl hk) fun T hT=>hT a b
def IH (hk:1<k:=by decide):FV (under aU k u):=fun s b hp=>cX bp (.inl hk) fun T h=>h.1 s b hp
def Pk (hk:1<k:=by decide):Kc (under aU k u):=fun s hp=>cX bp (.inl hk) fun T h=>h.2 s hp
def Lt (hk:1<k:=by decide):Iw (under aU k u):=fun s=>cX bp (.inl hk) fun T hT=>hT s
def II (hk:4<k:=by decide):FW (under aU k u):=fun v hp0=>cX bp (.inl hk) fun T hT=>hT v hp0
def G210 (hk:13<k:=by decide):Nl (under aU k u):=fun r n hp0=>cX bp (.inl hk) fun T hT=>hT r n hp0
def OR (hk:11<k:=by decide):KK (under aU k u):=fun r name rng hp0=>cX bp (.inl hk) fun T hT=>hT r name rng hp0
def OS (hk:6<k:=by decide):KL (under aU k u):=fun s=>cX bp (.inl hk) fun T hT=>hT s
def G213 (hk:3<k:=by decide):Nn (under aU k u):=fun l hp0=>cX bp (.inl hk) fun T hT=>hT l hp0
def G214 (hk:3<k:=by decide):Np (under aU k u):=fun r s hp0=>cX bp (.inl hk) fun T hT=>hT r s hp0
def OT (hk:6<k:=by decide):KM (under aU k u):=fun r hp0=>cX bp (.inl hk) fun T hT=>hT r hp0
def IJ (hk:2<k:=by decide):FX (under aU k u):=fun s=>cX bp (.inl hk) fun T hT=>hT s
def IK (hk:4<k:=by decide):FY (under aU k u):=fun v hp0=>cX bp (.inl hk) fun T hT=>hT v hp0
def G218 (hk:13<k:=by decide):Nq (under aU k u):=fun r hp0=>cX bp (.inl hk) fun T hT=>hT r hp0
def G219 (hk:6<k:=by decide):Nr (under aU k u):=fun r hp0=>cX bp (.inl hk) fun T hT=>hT r hp0
def G222 (hk:7<k:=by decide):Ns (under aU k u):=fun r hp0=>okf OA hk fun T h=>h r hp0
def G223 (hk:2<k:=by decide):Nt (under aU k u):=fun s hp0=>cX bp (.inl hk) fun T hT=>hT s hp0
def G224 (hk:7<k:=by decide):KN (under aU k u):=fun x t hp0 hp1 hp2 nx j0 j1 j2 j3 j4 m K h1 h2 h3 hK=>rN (.inl hk) fun T _ h=>h x t hp0 hp1 hp2 nx j0 j1 j2 j3 j4 m K h1 h2 h3 hK
def G225 (hk:3<k:=by decide):Nu (under aU k u):=fun a b=>cX bp (.inl hk) fun T hT=>hT a b
def OU (hk:1<k:=by decide):KO (under aU k u):=fun a b=>cX bp (.inl hk) fun T hT=>hT a b
def Lu (hk:1<k:=by decide):Ix (under aU k u):=fun l sep hp0 hp1 hp2=>cX bp (.inl hk) fun T hT=>hT l sep hp0 hp1 hp2
def OV (hk:1<k:=by decide):Nv (under aU k u):=fun s n hp0 hp1=>cX bp (.inl hk) fun T hT=>hT s n hp0 hp1
def OW (hk:2<k:=by decide):Nw (under aU k u):=fun l x=>cX bp (.inl hk) fun T hT=>hT l x
def IL (hk:1<k:=by decide):FZ (under aU k u):=fun l x hp0=>cX bp (.inl hk) fun T hT=>hT l x hp0
def G254 (hk:1<k:=by decide):Nx (under aU k u):=fun s p hp0 hp1=>cX bp (.inl hk) fun T hT=>hT s p hp0 hp1
def G316 (hk:5<k:=by decide):Ny (under aU k u):=fun v hp0=>cX bp (.inl hk) fun T hT=>hT v hp0
def G336 (hk:1<k:=by decide):Nz (under aU k u):=fun n hp0=>cX bp (.inl hk) fun T hT=>hT n hp0
def Ei (hk:1<k:=by decide):BI (under aU k u):=fun s=>cX bp (.inl hk) fun T hT=>hT s
def Ej (hk:2<k:=by decide):BJ (under aU k u):=fun s=>cX bp (.inl hk) fun T hT=>hT s
def G440 (hk:1<k:=by decide):NA (under aU k u):=fun n=>cX bp (.inl hk) fun T hT=>hT n
def G441 (hk:3<k:=by decide):NB (under aU k u):=fun s hp0=>cX bp (.inl hk) fun T hT=>hT s hp0
def OX (hk:2<k:=by decide):KP (under aU k u):=fun s hp0=>cX bp (.inl hk) fun T hT=>hT s hp0
def G443 (hk:12<k:=by decide):NC (under aU k u):=fun r w al hp0=>cX bp (.inl hk) fun T hT=>hT r w al hp0
def G444 (hk:10<k:=by decide):ND (under aU k u):=fun s hp0=>cX bp (.inl hk) fun T hT=>hT s hp0
def G445 (hk:5<k:=by decide):NF (under aU k u):=fun s=>cX bp (.inl hk) fun T hT=>hT s
def G446 (hk:5<k:=by decide):NG (under aU k u):=fun m=>cX bp (.inl hk) fun T hT=>hT m
def G447 (hk:1<k:=by decide):NH (under aU k u):=fun l=>cX bp (.inl hk) fun T hT=>hT l
def OY (hk:2<k:=by decide):KQ (under aU k u):=fun s hp0=>cX bp (.inl hk) fun T hT=>hT s hp0
def G449 (hk:2<k:=by decide):NI (under aU k u):=fun l nm=>cX bp (.inl hk) fun T hT=>hT l nm
def G450 (hk:2<k:=by decide):KR (under aU k u):=fun ws t l lw nx m K h1 h2 h3 h4 h5 hK=>rN (.inl hk) fun T _ h=>h ws t l lw nx m K h1 h2 h3 h4 h5 hK
def OZ (hk:5<k:=by decide):KS (under aU k u):=fun v hp0=>cX bp (.inl hk) fun T hT=>hT v hp0
def G452 (hk:1<k:=by decide):KT (under aU k u):=fun ds st K h1=>rN (.inl hk) fun T _ h=>h ds st K h1
def O0 (hk:1<k:=by decide):KU (under aU k u):=fun c=>cX bp (.inl hk) fun T hT=>hT c
def Lv (hk:1<k:=by decide):Iy (under aU k u):=fun c=>cX bp (.inl hk) fun T hT=>hT c
def G455 (hk:1<k:=by decide):NJ (under aU k u):=fun n=>cX bp (.inl hk) fun T hT=>hT n
def G456 (hk:3<k:=by decide):NK (under aU k u):=fun s p hp0=>cX bp (.inl hk) fun T hT=>hT s p hp0
def G457 (hk:12<k:=by decide):NL (under aU k u):=fun r n hp0=>cX bp (.inl hk) fun T hT=>hT r n hp0
def G458 (hk:11<k:=by decide):NM (under aU k u):=fun r b hp0=>cX bp (.inl hk) fun T hT=>hT r b hp0
def G459 (hk:5<k:=by decide):NN (under aU k u):=fun l hp0=>cX bp (.inl hk) fun T hT=>hT l hp0
def G460 (hk:4<k:=by decide):NO (under aU k u):=fun r of hp0=>cX bp (.inl hk) fun T hT=>hT r of hp0
def G461 (hk:2<k:=by decide):NP (under aU k u):=fun w hp0=>cX bp (.inl hk) fun T hT=>hT w hp0
def G462 (hk:1<k:=by decide):NQ (under aU k u):=fun s hp0=>cX bp (.inl hk) fun T hT=>hT s hp0
def O1 (hk:3<k:=by decide):Iz (under aU k u):=fun r w n op hp0 hp1 hp2=>okf OB hk fun T h=>h r w n op hp0 hp1 hp2
def Pl (hk:3<k:=by decide):Dd (under aU k u):=fun r w n op l nx m K h1 h2 h3 h4 hK=>rN (.inl hk) fun T _ h=>h r w n op l nx m K h1 h2 h3 h4 hK
def G466 (hk:6<k:=by decide):NR (under aU k u):=fun s hp0=>cX bp (.inl hk) fun T hT=>hT s hp0
def G467 (hk:5<k:=by decide):KV (under aU k u):=fun r hp0=>okf OC hk fun T h=>h r hp0
def O2 (hk:4<k:=by decide):IA (under aU k u):=fun r hp0=>okf OD hk fun T h=>h r hp0
def G469 (hk:1<k:=by decide):NS (under aU k u):=fun l hp0=>cX bp (.inl hk) fun T hT=>hT l hp0
def wG (hk:1<k:=by decide):uk (under aU k u):=fun s b hp0=>cX bp (.inl hk) fun T hT=>hT s b hp0
def G471 (hk:6<k:=by decide):KW (under aU k u):=fun x l hp0 nx j0 j1 j2 j3 j4 m K h1 h2 h3 hK=>rN (.inl hk) fun T _ h=>h x l hp0 nx j0 j1 j2 j3 j4 m K h1 h2 h3 hK
def G472 (hk:3<k:=by decide):KX (under aU k u):=fun x t hp0 hp1 hp2 hp3 nx j0 j1 j2 j3 j4 m K h1 h2 h3 hK=>rN (.inl hk) fun T _ h=>h x t hp0 hp1 hp2 hp3 nx j0 j1 j2 j3 j4 m K h1 h2 h3 hK
def G473 (hk:3<k:=by decide):KY (under aU k u):=fun x t hp0 hp1 hp2 hp3 hp4 nx j0 j1 j2 j3 j4 m K h1 h2 h3 hK=>rN (.inl hk) fun T _ h=>h x t hp0 hp1 hp2 hp3 hp4 nx j0 j1 j2 j3 j4 m K h1 h2 h3 hK
def O3 (hk:1<k:=by decide):KZ (under aU k u):=fun l n=>cX bp (.inl hk) fun T hT=>hT l n
def Lw (hk:2<k:=by decide):IB (under aU k u):=fun s n hp0 hp1=>cX bp (.inl hk) fun T hT=>hT s n hp0 hp1
def G476 (hk:2<k:=by decide):K0 (under aU k u):=fun x l hp0 hp1 nx j0 j1 j2 j3 j4 m K h1 h2 h3 hK=>rN (.inl hk) fun T _ h=>h x l hp0 hp1 nx j0 j1 j2 j3 j4 m K h1 h2 h3 hK
def G477 (hk:2<k:=by decide):NT (under aU k u):=fun a b=>cX bp (.inl hk) fun T hT=>hT a b
def O4 (hk:6<k:=by decide):K1 (under aU k u):=fun c hp0=>cX bp (.inl hk) fun T hT=>hT c hp0
def G487 (hk:1<k:=by decide):NU (under aU k u):=fun s b hp0=>cX bp (.inl hk) fun T hT=>hT s b hp0
def G489 (hk:1<k:=by decide):K2 (under aU k u):=fun ds st K h1=>rN (.inl hk) fun T _ h=>h ds st K h1
def G494 (hk:1<k:=by decide):NV (under aU k u):=fun l x=>cX bp (.inl hk) fun T hT=>hT l x
def G495 (hk:9<k:=by decide):NW (under aU k u):=fun s hp0=>cX bp (.inl hk) fun T hT=>hT s hp0
def G496 (hk:8<k:=by decide):NX (under aU k u):=fun r hp0=>cX bp (.inl hk) fun T hT=>hT r hp0
def IM (hk:1<k:=by decide):F0 (under aU k u):=fun s b hp0=>cX bp (.inl hk) fun T hT=>hT s b hp0
def G554 (hk:3<k:=by decide):NY (under aU k u):=fun v hp0=>cX bp (.inl hk) fun T hT=>hT v hp0
def G568 (hk:5<k:=by decide):NZ (under aU k u):=fun s hp0=>cX bp (.inl hk) fun T hT=>hT s hp0
def O5 (hk:10<k:=by decide):K3 (under aU k u):=fun s hp0=>cX bp (.inl hk) fun T hT=>hT s hp0
def Lx (hk:1<k:=by decide):IC (under aU k u):=fun s=>cX bp (.inl hk) fun T hT=>hT s
def G659 (hk:1<k:=by decide):N0 (under aU k u):=fun t=>cX bp (.inl hk) fun T hT=>hT t
def G660 (hk:4<k:=by decide):K4 (under aU k u):=fun w nd hp0 nx lp ln m K h1 h2 h3 h4 hK=>rN (.inl hk) fun T _ h=>h w nd hp0 nx lp ln m K h1 h2 h3 h4 hK
def O6 (hv:v≤u):Kb (under aU 4 u) v:=fun w nd hp0 hu nx lp ln m K h1 h2 h3 h4 hK=>rN (.inr ⟨rfl,by rw[show(lk aU 660 kU).muE=yX fun _=>4 from rfl,lU h1];exact Nat.lt_of_lt_of_le hu hv⟩) fun T _ h=>h w nd hp0 nx lp ln m K h1 h2 h3 h4 hK
def O7 (hk:4<k:=by decide):K5 (under aU k u):=fun m=>cX bp (.inl hk) fun T hT=>hT m
def O8 (hk:3<k:=by decide):K6 (under aU k u):=fun l hp0=>cX bp (.inl hk) fun T hT=>hT l hp0
def G663 (hk:1<k:=by decide):N1 (under aU k u):=fun l nm=>cX bp (.inl hk) fun T hT=>hT l nm
def G664 (hk:1<k:=by decide):K7 (under aU k u):=fun ds st K h1=>rN (.inl hk) fun T _ h=>h ds st K h1
def O9 (hk:2<k:=by decide):K8 (under aU k u):=fun n hp0=>cX bp (.inl hk) fun T hT=>hT n hp0
def G666 (hk:1<k:=by decide):N2 (under aU k u):=fun t=>cX bp (.inl hk) fun T hT=>hT t
def Ly (hk:2<k:=by decide):ID (under aU k u):=fun s=>cX bp (.inl hk) fun T hT=>hT s
def G668 (hk:1<k:=by decide):N3 (under aU k u):=fun t=>cX bp (.inl hk) fun T hT=>hT t
def G669 (hk:11<k:=by decide):N4 (under aU k u):=fun r w al hp0=>cX bp (.inl hk) fun T hT=>hT r w al hp0
def Pa (hk:7<k:=by decide):K9 (under aU k u):=fun s=>cX bp (.inl hk) fun T hT=>hT s
def G671 (hk:4<k:=by decide):N5 (under aU k u):=fun l of hp0=>cX bp (.inl hk) fun T hT=>hT l of hp0
def Pb (hk:3<k:=by decide):La (under aU k u):=fun s hp0=>cX bp (.inl hk) fun T hT=>hT s hp0
def G673 (hk:1<k:=by decide):N6 (under aU k u):=fun r x=>cX bp (.inl hk) fun T hT=>hT r x
def G674 (hk:1<k:=by decide):N7 (under aU k u):=fun r x=>cX bp (.inl hk) fun T hT=>hT r x
def G675 (hk:1<k:=by decide):N8 (under aU k u):=fun s b=>cX bp (.inl hk) fun T hT=>hT s b
def Pc (hk:5<k:=by decide):Lb (under aU k u):=fun c hp0=>cX bp (.inl hk) fun T hT=>hT c hp0
def G677 (hk:3<k:=by decide):Lc (under aU k u):=fun c hp0 nx m K hK=>rN (.inl hk) fun T _ h=>h c hp0 nx m K hK
def Pd (hk:1<k:=by decide):Lg (under aU k u):=fun op=>cX bp (.inl hk) fun T hT=>hT op
def G682 (hk:8<k:=by decide):N9 (under aU k u):=fun s hp0=>cX bp (.inl hk) fun T hT=>hT s hp0
def G683 (hk:1<k:=by decide):Oa (under aU k u):=fun s b hp0 hp1=>cX bp (.inl hk) fun T hT=>hT s b hp0 hp1
def Lz (hk:7<k:=by decide):IE (under aU k u):=fun r hp0=>cX bp (.inl hk) fun T hT=>hT r hp0
def G685 (hk:8<k:=by decide):Ob (under aU k u):=fun r hp0=>cX bp (.inl hk) fun T hT=>hT r hp0
def Pe (hk:2<k:=by decide):Lh (under aU k u):=fun n hp0=>cX bp (.inl hk) fun T hT=>hT n hp0
def G741 (hk:1<k:=by decide):Oc (under aU k u):=fun s b=>cX bp (.inl hk) fun T hT=>hT s b
def G742 (hk:3<k:=by decide):Od (under aU k u):=fun l=>cX bp (.inl hk) fun T hT=>hT l
def G744 (hk:8<k:=by decide):Oe (under aU k u):=fun s hp0=>cX bp (.inl hk) fun T hT=>hT s hp0
def G745 (hk:9<k:=by decide):Of (under aU k u):=fun r hp0=>cX bp (.inl hk) fun T hT=>hT r hp0
def Kh (hv:v≤u):F1 (under aU 4 u) v:=⟨fun w nd hp0 hu nx lp ln m K h1 h2 h3 h4 hK=>rN (.inr ⟨rfl,by rw[show(lk aU 808 kU).muE=yX LR from rfl,lU h1];exact Nat.lt_of_lt_of_le hu hv⟩) fun T _ h=>h.1 w nd hp0 nx lp ln m K h1 h2 h3 h4 hK,fun w nd hp0 hu nx lp ln m K h1 h2 h3 h4 hK=>rN (.inr ⟨rfl,by rw[show(lk aU 808 kU).muE=yX LR from rfl,lU h1];exact Nat.lt_of_lt_of_le hu hv⟩) fun T _ h=>h.2 w nd hp0 nx lp ln m K h1 h2 h3 h4 hK⟩
def Pf (hv:v≤u):Og (under aU 4 u) v:=fun w nd hp0 hu nx lp ln m K h1 h2 h3 h4 hK=>rN (.inr ⟨rfl,by rw[show(lk aU 809 kU).muE=yX fun _=>2 from rfl,lU h1];exact Nat.lt_of_lt_of_le hu hv⟩) fun T _ h=>h w nd hp0 nx lp ln m K h1 h2 h3 h4 hK
def G810 (hk:2<k:=by decide):Oh (under aU k u):=fun l=>cX bp (.inl hk) fun T hT=>hT l
def G811 (hk:2<k:=by decide):Oi (under aU k u):=fun l i hp0=>cX bp (.inl hk) fun T hT=>hT l i hp0
def Ki (hv:v≤u):F2 (under aU 2 u) v:=fun l i hp0 hu=>cX bp (.inr ⟨rfl,Nat.lt_of_lt_of_le hu hv⟩) fun T hT=>hT l i hp0
def G812 (hk:3<k:=by decide):Oj (under aU k u):=fun l al=>cX bp (.inl hk) fun T hT=>hT l al
def G813 (hk:6<k:=by decide):Ol (under aU k u):=fun s=>cX bp (.inl hk) fun T hT=>hT s
def G814 (hk:6<k:=by decide):Om (under aU k u):=fun m=>cX bp (.inl hk) fun T hT=>hT m
def Pg (hk:1<k:=by decide):Li (under aU k u):=fun l=>cX bp (.inl hk) fun T hT=>hT l
def G816 (hk:2<k:=by decide):On (under aU k u):=fun l nm=>cX bp (.inl hk) fun T hT=>hT l nm
def G819 (hk:7<k:=by decide):Oo (under aU k u):=fun s hp0=>cX bp (.inl hk) fun T hT=>hT s hp0
def LA (hk:5<k:=by decide):IF (under aU k u):=fun c hp0=>cX bp (.inl hk) fun T hT=>hT c hp0
def Ph (hk:6<k:=by decide):Lj (under aU k u):=fun c hp0=>cX bp (.inl hk) fun T hT=>hT c hp0
def G882 (hk:1<k:=by decide):Oq (under aU k u):=fun n hp0=>cX bp (.inl hk) fun T hT=>hT n hp0
def G896 (hk:1<k:=by decide):Ot (under aU k u):=fun s hp0=>cX bp (.inl hk) fun T hT=>hT s hp0
def G897 (hk:7<k:=by decide):Ou (under aU k u):=fun s hp0=>cX bp (.inl hk) fun T hT=>hT s hp0
def G898 (hk:1<k:=by decide):Ov (under aU k u):=fun s=>cX bp (.inl hk) fun T hT=>hT s
def Pj (hk:6<k:=by decide):Lk (under aU k u):=fun r hp0=>cX bp (.inl hk) fun T hT=>hT r hp0
def LB (hk:7<k:=by decide):IG (under aU k u):=fun r hp0=>cX bp (.inl hk) fun T hT=>hT r hp0
def G901 (hk:8<k:=by decide):Ox (under aU k u):=fun r hp0=>cX bp (.inl hk) fun T hT=>hT r hp0
def LC (hk:1<k:=by decide):Ll (under aU k u):=fun w es b=>cX bp (.inl hk) fun T hT=>hT w es b
def IP (hk:2<k:=by decide):Eg (under aU k u):=fun w nd b nx lp ln m K h1 h2 h3 h4 hK=>rN (.inl hk) fun T _ h=>h w nd b nx lp ln m K h1 h2 h3 h4 hK
def IQ (hk:1<k:=by decide):F3 (under aU k u):=fun x w nd b hp0 nx lp ln m K h1 h2 h3 h4 hK=>rN (.inl hk) fun T _ h=>h x w nd b hp0 nx lp ln m K h1 h2 h3 h4 hK
def Kj (hv:v≤u):Kd (under aU 4 u) v:=fun w nd hp0 hu nx lp ln m K h1 h2 h3 h4 hK=>rN (.inr ⟨rfl,by rw[show(lk aU 949 kU).muE=yX fun _=>0 from rfl,lU h1];exact Nat.lt_of_lt_of_le hu hv⟩) fun T _ h=>h w nd hp0 nx lp ln m K h1 h2 h3 h4 hK
def Pm (hk:1<k:=by decide):Lm (under aU k u):=cX bp (.inl hk) fun T hT=>hT
def Pn (hv:v≤u):Ke (under aU 2 u) v:=fun l i b hp0 hu=>cX bp (.inr ⟨rfl,Nat.lt_of_lt_of_le hu hv⟩) fun T hT=>hT l i b hp0
def G952 (hk:4<k:=by decide):Ln (under aU k u):=fun W w nd hp0 hp1 nx lp ln m K h1 h2 h3 h4 hK=>rN (.inl hk) fun T _ h=>h W w nd hp0 hp1 nx lp ln m K h1 h2 h3 h4 hK
def Po (hv:v≤u):Kf (under aU 4 u) v:=fun W w nd hp0 hp1 hu nx lp ln m K h1 h2 h3 h4 hK=>rN (.inr ⟨rfl,by rw[show(lk aU 952 kU).muE=yX fun _=>2 from rfl,qt hp0.1 h1];exact Nat.lt_of_lt_of_le hu hv⟩) fun T _ h=>h W w nd hp0 hp1 nx lp ln m K h1 h2 h3 h4 hK
def Pq (hk:5<k:=by decide):Lo (under aU k u):=fun m=>cX bp (.inl hk) fun T hT=>hT m
def Pr (hk:3<k:=by decide):Lp (under aU k u):=fun l hp0=>cX bp (.inl hk) fun T hT=>hT l hp0
def G955 (hk:1<k:=by decide):Oy (under aU k u):=fun l nm=>cX bp (.inl hk) fun T hT=>hT l nm
def G956 (hk:1<k:=by decide):Oz (under aU k u):=fun s w=>cX bp (.inl hk) fun T hT=>hT s w
def Ps (hk:1<k:=by decide):Lq (under aU k u):=fun op=>cX bp (.inl hk) fun T hT=>hT op
def OG (hk:2<k:=by decide):J3 (under aU k u):=fun s=>cX bp (.inl hk) fun T hT=>hT s
def OH (hk:1<k:=by decide):J4 (under aU k u):=fun s=>cX bp (.inl hk) fun T hT=>hT s
def OI (hk:3<k:=by decide):J5 (under aU k u):=fun l=>cX bp (.inl hk) fun T hT=>hT l
def OJ (hk:3<k:=by decide):FN (under aU k u):=fun k w nd b hp0 nx lp ln m K h1 h2 h3 h4 hK=>rN (.inl hk) fun T _ h=>h k w nd b hp0 nx lp ln m K h1 h2 h3 h4 hK
def Lr (hv:v≤u):FO (under aU 4 u) v:=fun W w nd hp0 hp1 hu nx lp ln m K h1 h2 h3 h4 hK=>rN (.inr ⟨rfl,by rw[show(lk aU 1032 kU).muE=yX fun _=>1 from rfl,qt hp0.1 h1];exact Nat.lt_of_lt_of_le hu hv⟩) fun T _ h=>h W w nd hp0 hp1 nx lp ln m K h1 h2 h3 h4 hK
def F4 (hk:1<k:=by decide):zL (under aU k u):=fun s W w nd b hp0 nx lp ln m K h1 h2 h3 h4 hK=>rN (.inl hk) fun T _ h=>h s W w nd b hp0 nx lp ln m K h1 h2 h3 h4 hK
def De (hk:1<k:=by decide):xa (under aU k u):=fun x W w nd b hp0 nx lp ln m K h1 h2 h3 h4 hK=>rN (.inl hk) fun T _ h=>h x W w nd b hp0 nx lp ln m K h1 h2 h3 h4 hK
def OK (hk:4<k:=by decide):J6 (under aU k u):=fun l hp0=>cX bp (.inl hk) fun T hT=>hT l hp0
def OL (hk:2<k:=by decide):J7 (under aU k u):=fun l i hp0=>cX bp (.inl hk) fun T hT=>hT l i hp0
def Ls (hv:v≤u):FP (under aU 2 u) v:=fun l i hp0 hu=>cX bp (.inr ⟨rfl,Nat.lt_of_lt_of_le hu hv⟩) fun T hT=>hT l i hp0
def OM (hk:1<k:=by decide):J8 (under aU k u):=fun s w=>cX bp (.inl hk) fun T hT=>hT s w
def F5 (hv:v≤u):BH (under aU 4 u) v:=fun W w nd hp0 hp1 hu nx lp ln m K h1 h2 h3 h4 hK=>rN (.inr ⟨rfl,by rw[show(lk aU 1097 kU).muE=yX fun _=>0 from rfl,qt hp0.1 h1];exact Nat.lt_of_lt_of_le hu hv⟩) fun T _ h=>h W w nd hp0 hp1 nx lp ln m K h1 h2 h3 h4 hK
def ON (hk:3<k:=by decide):J9 (under aU k u):=fun n=>cX bp (.inl hk) fun T hT=>hT n
def Kg (hk:1<k:=by decide):FQ (under aU k u):=fun k hp0=>cX bp (.inl hk) fun T hT=>hT k hp0
def OO (hk:1<k:=by decide):Ka (under aU k u):=fun s b hp0=>cX bp (.inl hk) fun T hT=>hT s b hp0
def OP (hk:3<k:=by decide):FR (under aU k u):=fun W w nd hp0 hp1 nx lp ln m K h1 h2 h3 h4 hK=>rN (.inl hk) fun T _ h=>h W w nd hp0 hp1 nx lp ln m K h1 h2 h3 h4 hK
def OQ (hk:1<k:=by decide):FU (under aU k u):=fun W w nd b hp0 nx lp ln m K h1 h2 h3 h4 hK=>rN (.inl hk) fun T _ h=>h W w nd b hp0 nx lp ln m K h1 h2 h3 h4 hK
end Go.Abs
end
namespace Go.Abs
def tG:List (Nat×Nat):=[(3,12),(12,69),(13,76),(14,77),(15,78),(20,70),(21,72),(23,71),(28,124),(29,222),(30,223),(31,224),(32,225),(33,226),(34,219),(41,208),(42,209),(43,210),(44,211),(45,212),(46,213),(47,214),(48,215),(50,216),(51,217),(52,218),(61,465),(62,466),(63,467),(64,468),(65,469),(66,470),(67,471),(68,472),(69,473),(70,474),(71,475),(72,476),(73,477),(74,316),(75,461),(76,462),(77,249),(80,482),(82,440),(83,441),(84,442),(85,443),(86,349),(87,444),(88,445),(89,446),(90,447),(91,448),(92,449),(93,450),(94,451),(95,242),(96,452),(97,453),(98,454),(99,455),(100,456),(101,457),(102,458),(103,459),(104,460),(112,245),(113,246),(114,675),(115,533),(116,658),(117,568),(118,554),(119,676),(120,677),(121,678),(122,659),(123,495),(124,496),(125,660),(126,661),(127,662),(128,254),(129,487),(130,663),(131,489),(132,664),(133,665),(135,666),(136,667),(137,668),(138,669),(139,670),(140,357),(141,572),(142,671),(143,672),(144,673),(145,674),(150,494),(151,741),(152,742),(153,734),(154,682),(155,683),(156,684),(157,685),(158,808),(159,809),(160,810),(161,811),(165,336),(167,812),(168,813),(169,814),(170,744),(171,745),(172,815),(173,816),(179,882),(180,819),(188,827),(189,828),(190,946),(191,947),(192,948),(193,949),(194,950),(195,951),(200,952),(201,953),(202,954),(203,896),(204,897),(205,898),(206,899),(207,900),(208,901),(209,955),(212,956),(213,957),(217,1031),(219,1032),(220,1033),(221,1034),(222,1035),(223,1036),(224,1006),(225,1007),(226,1008),(233,1097),(234,1098),(235,1099),(236,1100),(237,1079),(245,1126),(248,1141)]
def Gv:List Nat:=[219,1091,1354,1894,1896,1616,1320,1618,1898,2062,2066,2282,2068,2252,2194,2064,1904,900,931,937,935,445,978,1328,904,942,944,946,952,448,1000000133]
def ba:(Go.Proofs.Tryz.prog).follows .mixedOrders=true:=by kernel_rfl
abbrev Ow [cz](f n:Nat):Prop:=MR Go.Proofs.Tryz.prog tG Gv aU f n
abbrev Cp (f:Nat)(a:aB):Prop:=FG Go.Proofs.Tryz.prog tG Gv f a
def ck {f:Nat}{a:aB}(h:((Go.Proofs.Tryz.prog).funcs[f]?).map (fun f=>(compile Go.Proofs.Tryz.prog tG Gv f,f.name== "runtime.NumGoroutine"))=some (some a,false):=by kernel_rfl):Cp f a:=h
end Go.Abs
section
namespace Go.Proofs
open Go.Shelf
def Tryz.I0:Go.Shelf.Ren:=⟨fun|166=>131|167=>132|169=>96|240=>164|276=>197|n=>n,fun|70=>131|9=>9|0=>0|72=>133|37=>53|3=>3|5=>5|4=>4|20=>20|75=>172|80=>99|164=>215|127=>177|n=>n,fun|n=>n⟩
def Tryz.Dl:Go.Proofs.Lays.n166 Tryz.prog Tryz.I0:={
 mixed:=by kernel_rfl
 f166:=Tryz.func131.trans (congrArg some (by kernel_rfl))
 f240:=Tryz.func164.trans (congrArg some (by kernel_rfl))
 f276:=Tryz.func197.trans (congrArg some (by kernel_rfl))
 t0:=Tryz.underlying0
 a0:=Tryz.isAgg0
 z0:=Tryz.sizeOf0
 v0:=Tryz.zeroValue0
 t3:=Tryz.underlying3
 a3:=Tryz.isAgg3
 z3:=Tryz.sizeOf3
 v3:=Tryz.zeroValue3
 t4:=Tryz.underlying4
 a4:=Tryz.isAgg4
 z4:=Tryz.sizeOf4
 v4:=Tryz.zeroValue4
 t9:=Tryz.underlying9
 a9:=Tryz.isAgg9
 z9:=Tryz.sizeOf9
 v9:=Tryz.zeroValue9
 t20:=Tryz.underlying20
 a20:=Tryz.isAgg20
 z20:=Tryz.sizeOf20
 v20:=Tryz.zeroValue20
 t37:=Tryz.underlying53
 a37:=Tryz.isAgg53
 z37:=Tryz.sizeOf53
 v37:=Tryz.zeroValue53
 t70:=Tryz.underlying131
 a70:=Tryz.isAgg131
 z70:=Tryz.sizeOf131
 v70:=Tryz.zeroValue131
 t72:=Tryz.underlying133
 a72:=Tryz.isAgg133
 z72:=Tryz.sizeOf133
 v72:=Tryz.zeroValue133
 t75:=Tryz.underlying172
 a75:=Tryz.isAgg172
 z75:=Tryz.sizeOf172
 v75:=Tryz.zeroValue172
 t164:=Tryz.underlying215
 a164:=Tryz.isAgg215
 z164:=Tryz.sizeOf215
 v164:=Tryz.zeroValue215}
def Tryz.Dm:Go.Proofs.Lays.n167 Tryz.prog Tryz.I0:={
 mixed:=by kernel_rfl
 f167:=Tryz.func132.trans (congrArg some (by kernel_rfl))
 f240:=Tryz.func164.trans (congrArg some (by kernel_rfl))
 f276:=Tryz.func197.trans (congrArg some (by kernel_rfl))
 t0:=Tryz.underlying0
 a0:=Tryz.isAgg0
 z0:=Tryz.sizeOf0
 v0:=Tryz.zeroValue0
 t4:=Tryz.underlying4
 a4:=Tryz.isAgg4
 z4:=Tryz.sizeOf4
 v4:=Tryz.zeroValue4
 t5:=Tryz.underlying5
 a5:=Tryz.isAgg5
 z5:=Tryz.sizeOf5
 v5:=Tryz.zeroValue5
 t9:=Tryz.underlying9
 a9:=Tryz.isAgg9
 z9:=Tryz.sizeOf9
 v9:=Tryz.zeroValue9
 t20:=Tryz.underlying20
 a20:=Tryz.isAgg20
 z20:=Tryz.sizeOf20
 v20:=Tryz.zeroValue20
 t37:=Tryz.underlying53
 a37:=Tryz.isAgg53
 z37:=Tryz.sizeOf53
 v37:=Tryz.zeroValue53
 t70:=Tryz.underlying131
 a70:=Tryz.isAgg131
 z70:=Tryz.sizeOf131
 v70:=Tryz.zeroValue131
 t72:=Tryz.underlying133
 a72:=Tryz.isAgg133
 z72:=Tryz.sizeOf133
 v72:=Tryz.zeroValue133
 t75:=Tryz.underlying172
 a75:=Tryz.isAgg172
 z75:=Tryz.sizeOf172
 v75:=Tryz.zeroValue172
 t164:=Tryz.underlying215
 a164:=Tryz.isAgg215
 z164:=Tryz.sizeOf215
 v164:=Tryz.zeroValue215}
def Tryz.Dn:Go.Proofs.Lays.n169 Tryz.prog Tryz.I0:={
 mixed:=by kernel_rfl
 f169:=Tryz.func96.trans (congrArg some (by kernel_rfl))
 t0:=Tryz.underlying0
 a0:=Tryz.isAgg0
 z0:=Tryz.sizeOf0
 v0:=Tryz.zeroValue0
 t3:=Tryz.underlying3
 a3:=Tryz.isAgg3
 z3:=Tryz.sizeOf3
 v3:=Tryz.zeroValue3
 t9:=Tryz.underlying9
 a9:=Tryz.isAgg9
 z9:=Tryz.sizeOf9
 v9:=Tryz.zeroValue9
 t37:=Tryz.underlying53
 a37:=Tryz.isAgg53
 z37:=Tryz.sizeOf53
 v37:=Tryz.zeroValue53
 t70:=Tryz.underlying131
 a70:=Tryz.isAgg131
 z70:=Tryz.sizeOf131
 v70:=Tryz.zeroValue131
 t72:=Tryz.underlying133
 a72:=Tryz.isAgg133
 z72:=Tryz.sizeOf133
 v72:=Tryz.zeroValue133
 t127:=Tryz.underlying177
 a127:=Tryz.isAgg177
 z127:=Tryz.sizeOf177
 v127:=Tryz.zeroValue177}
def Tryz.LP:Builder.Extra Tryz.prog Tryz.I0:={
 sizeBuilder:=by kernel_rfl
 liesBuilder:=by kernel_rfl
 t5:=Tryz.underlying5
 a5:=Tryz.isAgg5
 z5:=Tryz.sizeOf5
 v5:=Tryz.zeroValue5
 infoByte:=by kernel_rfl
 cellsByte:=by kernel_rfl
 sizeByte:=by kernel_rfl
 neB5:=by decide}
end Go.Proofs
end
section
namespace Go.Proofs
open Go.Shelf
def Tryz.lays156_ren:Go.Shelf.Ren:=⟨fun|156=>95|165=>134|166=>131|169=>96|240=>164|241=>166|276=>197|277=>199|n=>n,fun|31=>55|9=>9|3=>3|4=>4|0=>0|20=>20|72=>133|76=>173|70=>131|37=>53|75=>172|127=>177|164=>215|5=>5|80=>99|n=>n,fun|n=>n⟩
def Tryz.lays156:Go.Proofs.Lays.n156 Tryz.prog Tryz.lays156_ren:={
 mixed:=by kernel_rfl
 f156:=Tryz.func95.trans (congrArg some (by kernel_rfl))
 f165:=Tryz.func134.trans (congrArg some (by kernel_rfl))
 f166:=Tryz.func131.trans (congrArg some (by kernel_rfl))
 f169:=Tryz.func96.trans (congrArg some (by kernel_rfl))
 f240:=Tryz.func164.trans (congrArg some (by kernel_rfl))
 f241:=Tryz.func166.trans (congrArg some (by kernel_rfl))
 f276:=Tryz.func197.trans (congrArg some (by kernel_rfl))
 f277:=Tryz.func199.trans (congrArg some (by kernel_rfl))
 t0:=Tryz.underlying0
 a0:=Tryz.isAgg0
 z0:=Tryz.sizeOf0
 v0:=Tryz.zeroValue0
 t3:=Tryz.underlying3
 a3:=Tryz.isAgg3
 z3:=Tryz.sizeOf3
 v3:=Tryz.zeroValue3
 t4:=Tryz.underlying4
 a4:=Tryz.isAgg4
 z4:=Tryz.sizeOf4
 v4:=Tryz.zeroValue4
 t9:=Tryz.underlying9
 a9:=Tryz.isAgg9
 z9:=Tryz.sizeOf9
 v9:=Tryz.zeroValue9
 t20:=Tryz.underlying20
 a20:=Tryz.isAgg20
 z20:=Tryz.sizeOf20
 v20:=Tryz.zeroValue20
 t31:=Tryz.underlying55
 a31:=Tryz.isAgg55
 z31:=Tryz.sizeOf55
 v31:=Tryz.zeroValue55
 t37:=Tryz.underlying53
 a37:=Tryz.isAgg53
 z37:=Tryz.sizeOf53
 v37:=Tryz.zeroValue53
 t70:=Tryz.underlying131
 a70:=Tryz.isAgg131
 z70:=Tryz.sizeOf131
 v70:=Tryz.zeroValue131
 t72:=Tryz.underlying133
 a72:=Tryz.isAgg133
 z72:=Tryz.sizeOf133
 v72:=Tryz.zeroValue133
 t75:=Tryz.underlying172
 a75:=Tryz.isAgg172
 z75:=Tryz.sizeOf172
 v75:=Tryz.zeroValue172
 t76:=Tryz.underlying173
 a76:=Tryz.isAgg173
 z76:=Tryz.sizeOf173
 v76:=Tryz.zeroValue173
 t127:=Tryz.underlying177
 a127:=Tryz.isAgg177
 z127:=Tryz.sizeOf177
 v127:=Tryz.zeroValue177
 t164:=Tryz.underlying215
 a164:=Tryz.isAgg215
 z164:=Tryz.sizeOf215
 v164:=Tryz.zeroValue215}
def Tryz.Builder_Extra_156:Builder.Extra Tryz.prog Tryz.lays156_ren:={
 sizeBuilder:=by kernel_rfl
 liesBuilder:=by kernel_rfl
 t5:=Tryz.underlying5
 a5:=Tryz.isAgg5
 z5:=Tryz.sizeOf5
 v5:=Tryz.zeroValue5
 infoByte:=by kernel_rfl
 cellsByte:=by kernel_rfl
 sizeByte:=by kernel_rfl
 neB5:=by decide}
open Go.RowKit in
theorem Tryz.strings_Join_none (a:Option Addr)(c:Nat)(sep:ByteArray)(w:World):
  Calls Tryz.prog 95 #[.slice a 0 c,.string sep] w fun e w'=>e=.returned (.string ⟨#[]⟩)∧w'=w:=Any.strings_Join_none Tryz.lays156 Tryz.Builder_Extra_156 a c sep w
open Go.RowKit in
theorem Tryz.strings_Join (bk o c:Nat)(xs:List ByteArray)(sep:ByteArray)(w:World)(hcells:∀(j:Nat) x,xs[j]? =some x→w.cell? ⟨bk,o+j,none⟩=some (.string x))(hbk:bk<w.heap.size)(hN:xs.length≤140737488355328)(hcap:xs.length≤c)(hlen:(Lib.join (xs.map (·.data.toList)) sep.data.toList).length≤140737488355328):
  Calls Tryz.prog 95 #[.slice (some ⟨bk,o,none⟩) xs.length c,.string sep] w fun e w'=>e=.returned (.string ⟨(Lib.join (xs.map (·.data.toList)) sep.data.toList).toArray⟩)∧Below w.heap.size w w':=Any.strings_Join Tryz.lays156 Tryz.Builder_Extra_156 bk o c xs sep w hcells hbk hN hcap hlen
def Tryz.lays160_ren:Go.Shelf.Ren:=⟨fun|160=>155|232=>182|231=>181|227=>183|234=>185|233=>184|236=>187|235=>186|228=>214|271=>216|151=>215|197=>147|120=>228|152=>227|260=>174|137=>238|119=>239|224=>177|225=>176|217=>175|266=>210|n=>n,fun|9=>9|4=>4|3=>3|5=>5|117=>205|116=>204|0=>0|124=>208|21=>21|105=>181|46=>89|119=>222|139=>225|138=>224|n=>n,fun|3=>1|4=>2|n=>n⟩
def Tryz.lays160:Go.Proofs.Lays.n160 Tryz.prog Tryz.lays160_ren:={
 mixed:=by kernel_rfl
 f119:=Tryz.func239.trans (congrArg some (by kernel_rfl))
 f120:=Tryz.func228.trans (congrArg some (by kernel_rfl))
 f137:=Tryz.func238.trans (congrArg some (by kernel_rfl))
 f151:=Tryz.func215.trans (congrArg some (by kernel_rfl))
 f152:=Tryz.func227.trans (congrArg some (by kernel_rfl))
 f160:=Tryz.func155.trans (congrArg some (by kernel_rfl))
 f197:=Tryz.func147.trans (congrArg some (by kernel_rfl))
 f217:=Tryz.func175.trans (congrArg some (by kernel_rfl))
 f224:=Tryz.func177.trans (congrArg some (by kernel_rfl))
 f225:=Tryz.func176.trans (congrArg some (by kernel_rfl))
 f227:=Tryz.func183.trans (congrArg some (by kernel_rfl))
 f228:=Tryz.func214.trans (congrArg some (by kernel_rfl))
 f231:=Tryz.func181.trans (congrArg some (by kernel_rfl))
 f232:=Tryz.func182.trans (congrArg some (by kernel_rfl))
 f233:=Tryz.func184.trans (congrArg some (by kernel_rfl))
 f234:=Tryz.func185.trans (congrArg some (by kernel_rfl))
 f235:=Tryz.func186.trans (congrArg some (by kernel_rfl))
 f236:=Tryz.func187.trans (congrArg some (by kernel_rfl))
 f260:=Tryz.func174.trans (congrArg some (by kernel_rfl))
 f266:=Tryz.func210.trans (congrArg some (by kernel_rfl))
 f271:=Tryz.func216.trans (congrArg some (by kernel_rfl))
 t0:=Tryz.underlying0
 a0:=Tryz.isAgg0
 z0:=Tryz.sizeOf0
 v0:=Tryz.zeroValue0
 t3:=Tryz.underlying3
 a3:=Tryz.isAgg3
 z3:=Tryz.sizeOf3
 v3:=Tryz.zeroValue3
 t4:=Tryz.underlying4
 a4:=Tryz.isAgg4
 z4:=Tryz.sizeOf4
 v4:=Tryz.zeroValue4
 t5:=Tryz.underlying5
 a5:=Tryz.isAgg5
 z5:=Tryz.sizeOf5
 v5:=Tryz.zeroValue5
 t9:=Tryz.underlying9
 a9:=Tryz.isAgg9
 z9:=Tryz.sizeOf9
 v9:=Tryz.zeroValue9
 t21:=Tryz.underlying21
 a21:=Tryz.isAgg21
 z21:=Tryz.sizeOf21
 v21:=Tryz.zeroValue21
 t46:=Tryz.underlying89
 a46:=Tryz.isAgg89
 z46:=Tryz.sizeOf89
 v46:=Tryz.zeroValue89
 t105:=Tryz.underlying181
 a105:=Tryz.isAgg181
 z105:=Tryz.sizeOf181
 v105:=Tryz.zeroValue181
 t116:=Tryz.underlying204
 a116:=Tryz.isAgg204
 z116:=Tryz.sizeOf204
 t117:=Tryz.underlying205
 a117:=Tryz.isAgg205
 z117:=Tryz.sizeOf205
 v117:=Tryz.zeroValue205
 t119:=Tryz.underlying222
 a119:=Tryz.isAgg222
 z119:=Tryz.sizeOf222
 t124:=Tryz.underlying208
 a124:=Tryz.isAgg208
 z124:=Tryz.sizeOf208
 v124:=Tryz.zeroValue208
 t138:=Tryz.underlying224
 a138:=Tryz.isAgg224
 z138:=Tryz.sizeOf224
 v138:=Tryz.zeroValue224
 t139:=Tryz.underlying225
 a139:=Tryz.isAgg225
 z139:=Tryz.sizeOf225
 v139:=Tryz.zeroValue225
 g3:=by kernel_rfl
 g4:=by kernel_rfl}
open Go.RowKit in
theorem Tryz.strings_Trim_one (s:ByteArray)(c:UInt8)(hc:c.toNat<128)(w:World)(hs:s.size≤9223372036854775807):
  Calls Tryz.prog 155 #[.string s,.string ⟨#[c]⟩] w fun e w'=>e=.returned (.string ⟨(Lib.trimB s.data.toList c).toArray⟩)∧(w'=w∨w'=w.drew):=Any.strings_Trim_one Tryz.lays160 s c hc w hs
def Tryz.lays103_ren:Go.Shelf.Ren:=⟨fun|103=>128|210=>162|206=>196|n=>n,fun|9=>9|4=>4|24=>166|3=>3|n=>n,fun|n=>n⟩
def Tryz.lays103:Go.Proofs.Lays.n103 Tryz.prog Tryz.lays103_ren:={
 mixed:=by kernel_rfl
 f103:=Tryz.func128.trans (congrArg some (by kernel_rfl))
 f206:=Tryz.func196.trans (congrArg some (by kernel_rfl))
 f210:=Tryz.func162.trans (congrArg some (by kernel_rfl))
 t3:=Tryz.underlying3
 a3:=Tryz.isAgg3
 z3:=Tryz.sizeOf3
 v3:=Tryz.zeroValue3
 t4:=Tryz.underlying4
 a4:=Tryz.isAgg4
 z4:=Tryz.sizeOf4
 v4:=Tryz.zeroValue4
 t9:=Tryz.underlying9
 a9:=Tryz.isAgg9
 z9:=Tryz.sizeOf9
 v9:=Tryz.zeroValue9
 t24:=Tryz.underlying166
 a24:=Tryz.isAgg166
 z24:=Tryz.sizeOf166
 v24:=Tryz.zeroValue166}
open Go.RowKit in
theorem Tryz.strings_CutPrefix (s p:ByteArray)(w:World):
  Calls Tryz.prog 128 #[.string s,.string p] w fun e w'=>e=.returned (.tuple #[.string ⟨(Lib.trimPrefix s.data.toList p.data.toList).toArray⟩,.bool (Lib.hasPrefix s.data.toList p.data.toList)])∧w'=w:=Any.strings_CutPrefix Tryz.lays103 s p w
def Tryz.laysM171_ren:Go.Shelf.Ren:=⟨fun|171=>165|243=>198|246=>218|283=>229|284=>230|285=>231|286=>232|129=>241|317=>240|318=>242|319=>243|320=>244|337=>246|338=>247|n=>n,fun|3=>3|9=>9|2=>2|4=>4|171=>235|0=>0|53=>49|37=>53|5=>5|173=>238|212=>244|51=>226|20=>20|213=>245|46=>89|232=>248|233=>249|n=>n,fun|17=>3|18=>4|19=>5|n=>n⟩
def Tryz.laysM171:Go.Proofs.LaysM.n171 Tryz.prog Tryz.laysM171_ren:={
 mixed:=by kernel_rfl
 f129:=Tryz.func241.trans (congrArg some (by kernel_rfl))
 f171:=Tryz.func165.trans (congrArg some (by kernel_rfl))
 f243:=Tryz.func198.trans (congrArg some (by kernel_rfl))
 f246:=Tryz.func218.trans (congrArg some (by kernel_rfl))
 f283:=Tryz.func229.trans (congrArg some (by kernel_rfl))
 f284:=Tryz.func230.trans (congrArg some (by kernel_rfl))
 f285:=Tryz.func231.trans (congrArg some (by kernel_rfl))
 f286:=Tryz.func232.trans (congrArg some (by kernel_rfl))
 f317:=Tryz.func240.trans (congrArg some (by kernel_rfl))
 f318:=Tryz.func242.trans (congrArg some (by kernel_rfl))
 f319:=Tryz.func243.trans (congrArg some (by kernel_rfl))
 f320:=Tryz.func244.trans (congrArg some (by kernel_rfl))
 f337:=Tryz.func246.trans (congrArg some (by kernel_rfl))
 f338:=Tryz.func247.trans (congrArg some (by kernel_rfl))
 t0:=Tryz.underlying0
 a0:=Tryz.isAgg0
 z0:=Tryz.sizeOf0
 v0:=Tryz.zeroValue0
 t2:=Tryz.underlying2
 a2:=Tryz.isAgg2
 z2:=Tryz.sizeOf2
 v2:=Tryz.zeroValue2
 t3:=Tryz.underlying3
 a3:=Tryz.isAgg3
 z3:=Tryz.sizeOf3
 v3:=Tryz.zeroValue3
 t4:=Tryz.underlying4
 a4:=Tryz.isAgg4
 z4:=Tryz.sizeOf4
 v4:=Tryz.zeroValue4
 t5:=Tryz.underlying5
 a5:=Tryz.isAgg5
 z5:=Tryz.sizeOf5
 v5:=Tryz.zeroValue5
 t9:=Tryz.underlying9
 a9:=Tryz.isAgg9
 z9:=Tryz.sizeOf9
 v9:=Tryz.zeroValue9
 t20:=Tryz.underlying20
 a20:=Tryz.isAgg20
 z20:=Tryz.sizeOf20
 v20:=Tryz.zeroValue20
 t37:=Tryz.underlying53
 a37:=Tryz.isAgg53
 z37:=Tryz.sizeOf53
 v37:=Tryz.zeroValue53
 t46:=Tryz.underlying89
 a46:=Tryz.isAgg89
 z46:=Tryz.sizeOf89
 v46:=Tryz.zeroValue89
 t51:=Tryz.underlying226
 a51:=Tryz.isAgg226
 z51:=Tryz.sizeOf226
 v51:=Tryz.zeroValue226
 t53:=Tryz.underlying49
 a53:=Tryz.isAgg49
 z53:=Tryz.sizeOf49
 v53:=Tryz.zeroValue49
 t171:=Tryz.underlying235
 a171:=Tryz.isAgg235
 z171:=Tryz.sizeOf235
 v171:=Tryz.zeroValue235
 t173:=Tryz.underlying238
 a173:=Tryz.isAgg238
 z173:=Tryz.sizeOf238
 v173:=Tryz.zeroValue238
 t212:=Tryz.underlying244
 a212:=Tryz.isAgg244
 z212:=Tryz.sizeOf244
 v212:=Tryz.zeroValue244
 t213:=Tryz.underlying245
 a213:=Tryz.isAgg245
 z213:=Tryz.sizeOf245
 t232:=Tryz.underlying248
 a232:=Tryz.isAgg248
 z232:=Tryz.sizeOf248
 v232:=Tryz.zeroValue248
 t233:=Tryz.underlying249
 a233:=Tryz.isAgg249
 z233:=Tryz.sizeOf249
 v233:=Tryz.zeroValue249
 g17:=by kernel_rfl
 g18:=by kernel_rfl
 g19:=by kernel_rfl
 i0:=by kernel_rfl
 i2:=by kernel_rfl
 i3:=by kernel_rfl
 i4:=by kernel_rfl
 i5:=by kernel_rfl
 i9:=by kernel_rfl
 i20:=by kernel_rfl
 i37:=by kernel_rfl
 i46:=by kernel_rfl
 i51:=by kernel_rfl
 i53:=by kernel_rfl
 i171:=by kernel_rfl
 i173:=by kernel_rfl
 i212:=by kernel_rfl
 i232:=by kernel_rfl
 i233:=by kernel_rfl
 m17:=by kernel_rfl
 m18:=by kernel_rfl
 m19:=by kernel_rfl}
open Go.RowKit Go.Sort Go.Lib in
theorem Tryz.strconv_Itoa (n:Int)(h0:-9223372036854775808≤n)(h1:n≤9223372036854775807)(w:World)(htab:Lib.TabIs Tryz.prog w "internal/strconv.uint64pow10" .u64 Lib.pow10Tab):
  Calls Tryz.prog 165 #[.int .i64 n] w fun e w'=>e=.returned (.string ⟨(Lib.itoa n).toArray⟩)∧∃k os,w'=grow (w.drewN k) os:=Any.strconv_Itoa Tryz.laysM171 n h0 h1 w htab
def Tryz.lays145_ren:Go.Shelf.Ren:=⟨fun|145=>129|220=>163|219=>149|217=>175|225=>176|224=>177|267=>178|266=>210|314=>211|n=>n,fun|9=>9|4=>4|59=>168|3=>3|5=>5|46=>89|146=>227|51=>226|n=>n,fun|1=>0|n=>n⟩
def Tryz.lays145:Go.Proofs.Lays.n145 Tryz.prog Tryz.lays145_ren:={
 mixed:=by kernel_rfl
 f145:=Tryz.func129.trans (congrArg some (by kernel_rfl))
 f217:=Tryz.func175.trans (congrArg some (by kernel_rfl))
 f219:=Tryz.func149.trans (congrArg some (by kernel_rfl))
 f220:=Tryz.func163.trans (congrArg some (by kernel_rfl))
 f224:=Tryz.func177.trans (congrArg some (by kernel_rfl))
 f225:=Tryz.func176.trans (congrArg some (by kernel_rfl))
 f266:=Tryz.func210.trans (congrArg some (by kernel_rfl))
 f267:=Tryz.func178.trans (congrArg some (by kernel_rfl))
 f314:=Tryz.func211.trans (congrArg some (by kernel_rfl))
 t3:=Tryz.underlying3
 a3:=Tryz.isAgg3
 z3:=Tryz.sizeOf3
 v3:=Tryz.zeroValue3
 t4:=Tryz.underlying4
 a4:=Tryz.isAgg4
 z4:=Tryz.sizeOf4
 v4:=Tryz.zeroValue4
 t5:=Tryz.underlying5
 a5:=Tryz.isAgg5
 z5:=Tryz.sizeOf5
 v5:=Tryz.zeroValue5
 t9:=Tryz.underlying9
 a9:=Tryz.isAgg9
 z9:=Tryz.sizeOf9
 v9:=Tryz.zeroValue9
 t46:=Tryz.underlying89
 a46:=Tryz.isAgg89
 z46:=Tryz.sizeOf89
 v46:=Tryz.zeroValue89
 t51:=Tryz.underlying226
 a51:=Tryz.isAgg226
 z51:=Tryz.sizeOf226
 v51:=Tryz.zeroValue226
 t59:=Tryz.underlying168
 a59:=Tryz.isAgg168
 z59:=Tryz.sizeOf168
 v59:=Tryz.zeroValue168
 t146:=Tryz.underlying227
 a146:=Tryz.isAgg227
 z146:=Tryz.sizeOf227
 v146:=Tryz.zeroValue227
 g1:=by kernel_rfl}
open Go.RowKit Go.Lib in
theorem Tryz.strings_Cut (s sep:ByteArray)(m:Int)(w:World)(hs:s.size<4294967281)(hm:w.cell? ⟨0,0,none⟩=some (.int .i64 m)):
  Calls Tryz.prog 129 #[.string s,.string sep] w fun e w'=>e=.returned (.tuple #[.string ⟨(Lib.cut s.data.toList sep.data.toList).1.toArray⟩,.string ⟨(Lib.cut s.data.toList sep.data.toList).2.1.toArray⟩,.bool (Lib.cut s.data.toList sep.data.toList).2.2])∧∃n,w'=w.drewN n:=Any.strings_Cut Tryz.lays145 s sep m w hs hm
def Tryz.laysM219_ren:Go.Shelf.Ren:=⟨fun|219=>149|217=>175|225=>176|224=>177|267=>178|266=>210|314=>211|n=>n,fun|9=>9|3=>3|4=>4|5=>5|46=>89|146=>227|51=>226|n=>n,fun|1=>0|n=>n⟩
def Tryz.laysM219:Go.Proofs.LaysM.n219 Tryz.prog Tryz.laysM219_ren:={
 mixed:=by kernel_rfl
 f217:=Tryz.func175.trans (congrArg some (by kernel_rfl))
 f219:=Tryz.func149.trans (congrArg some (by kernel_rfl))
 f224:=Tryz.func177.trans (congrArg some (by kernel_rfl))
 f225:=Tryz.func176.trans (congrArg some (by kernel_rfl))
 f266:=Tryz.func210.trans (congrArg some (by kernel_rfl))
 f267:=Tryz.func178.trans (congrArg some (by kernel_rfl))
 f314:=Tryz.func211.trans (congrArg some (by kernel_rfl))
 t3:=Tryz.underlying3
 a3:=Tryz.isAgg3
 z3:=Tryz.sizeOf3
 v3:=Tryz.zeroValue3
 t4:=Tryz.underlying4
 a4:=Tryz.isAgg4
 z4:=Tryz.sizeOf4
 v4:=Tryz.zeroValue4
 t5:=Tryz.underlying5
 a5:=Tryz.isAgg5
 z5:=Tryz.sizeOf5
 v5:=Tryz.zeroValue5
 t9:=Tryz.underlying9
 a9:=Tryz.isAgg9
 z9:=Tryz.sizeOf9
 v9:=Tryz.zeroValue9
 t46:=Tryz.underlying89
 a46:=Tryz.isAgg89
 z46:=Tryz.sizeOf89
 v46:=Tryz.zeroValue89
 t51:=Tryz.underlying226
 a51:=Tryz.isAgg226
 z51:=Tryz.sizeOf226
 v51:=Tryz.zeroValue226
 t146:=Tryz.underlying227
 a146:=Tryz.isAgg227
 z146:=Tryz.sizeOf227
 v146:=Tryz.zeroValue227
 g1:=by kernel_rfl
 i3:=by kernel_rfl
 i4:=by kernel_rfl
 i5:=by kernel_rfl
 i9:=by kernel_rfl
 i46:=by kernel_rfl
 i51:=by kernel_rfl
 i146:=by kernel_rfl
 m1:=by kernel_rfl
 s1_3:=fun w h=>Go.Proofs.cell_of_shapedOpen_int (zero:=#[.int .i64 0]) (t:=3) h (of_decide_eq_true (by kernel_rfl)) (by kernel_rfl) rfl (by kernel_rfl) (by kernel_rfl) Tryz.underlying3}
def Tryz.lays221_ren:Go.Shelf.Ren:=⟨fun|221=>60|268=>109|138=>110|143=>111|195=>146|197=>147|218=>148|219=>149|260=>174|217=>175|225=>176|224=>177|267=>178|266=>210|314=>211|n=>n,fun|9=>9|3=>3|31=>55|4=>4|0=>0|105=>181|21=>21|5=>5|46=>89|119=>222|139=>225|138=>224|146=>227|51=>226|n=>n,fun|1=>0|3=>1|4=>2|n=>n⟩
def Tryz.lays221:Go.Proofs.Lays.n221 Tryz.prog Tryz.lays221_ren:={
 mixed:=by kernel_rfl
 f138:=Tryz.func110.trans (congrArg some (by kernel_rfl))
 f143:=Tryz.func111.trans (congrArg some (by kernel_rfl))
 f195:=Tryz.func146.trans (congrArg some (by kernel_rfl))
 f197:=Tryz.func147.trans (congrArg some (by kernel_rfl))
 f217:=Tryz.func175.trans (congrArg some (by kernel_rfl))
 f218:=Tryz.func148.trans (congrArg some (by kernel_rfl))
 f219:=Tryz.func149.trans (congrArg some (by kernel_rfl))
 f221:=Tryz.func60.trans (congrArg some (by kernel_rfl))
 f224:=Tryz.func177.trans (congrArg some (by kernel_rfl))
 f225:=Tryz.func176.trans (congrArg some (by kernel_rfl))
 f260:=Tryz.func174.trans (congrArg some (by kernel_rfl))
 f266:=Tryz.func210.trans (congrArg some (by kernel_rfl))
 f267:=Tryz.func178.trans (congrArg some (by kernel_rfl))
 f268:=Tryz.func109.trans (congrArg some (by kernel_rfl))
 f314:=Tryz.func211.trans (congrArg some (by kernel_rfl))
 t0:=Tryz.underlying0
 a0:=Tryz.isAgg0
 z0:=Tryz.sizeOf0
 v0:=Tryz.zeroValue0
 t3:=Tryz.underlying3
 a3:=Tryz.isAgg3
 z3:=Tryz.sizeOf3
 v3:=Tryz.zeroValue3
 t4:=Tryz.underlying4
 a4:=Tryz.isAgg4
 z4:=Tryz.sizeOf4
 v4:=Tryz.zeroValue4
 t5:=Tryz.underlying5
 a5:=Tryz.isAgg5
 z5:=Tryz.sizeOf5
 v5:=Tryz.zeroValue5
 t9:=Tryz.underlying9
 a9:=Tryz.isAgg9
 z9:=Tryz.sizeOf9
 v9:=Tryz.zeroValue9
 t21:=Tryz.underlying21
 a21:=Tryz.isAgg21
 z21:=Tryz.sizeOf21
 v21:=Tryz.zeroValue21
 t31:=Tryz.underlying55
 a31:=Tryz.isAgg55
 z31:=Tryz.sizeOf55
 v31:=Tryz.zeroValue55
 t46:=Tryz.underlying89
 a46:=Tryz.isAgg89
 z46:=Tryz.sizeOf89
 v46:=Tryz.zeroValue89
 t51:=Tryz.underlying226
 a51:=Tryz.isAgg226
 z51:=Tryz.sizeOf226
 v51:=Tryz.zeroValue226
 t105:=Tryz.underlying181
 a105:=Tryz.isAgg181
 z105:=Tryz.sizeOf181
 v105:=Tryz.zeroValue181
 t119:=Tryz.underlying222
 a119:=Tryz.isAgg222
 z119:=Tryz.sizeOf222
 t138:=Tryz.underlying224
 a138:=Tryz.isAgg224
 z138:=Tryz.sizeOf224
 v138:=Tryz.zeroValue224
 t139:=Tryz.underlying225
 a139:=Tryz.isAgg225
 z139:=Tryz.sizeOf225
 v139:=Tryz.zeroValue225
 t146:=Tryz.underlying227
 a146:=Tryz.isAgg227
 z146:=Tryz.sizeOf227
 v146:=Tryz.zeroValue227
 g1:=by kernel_rfl
 g3:=by kernel_rfl
 g4:=by kernel_rfl}
open Go.RowKit Go.Lib in
theorem Tryz.strings_genSplit (s sep:ByteArray)(sv:Nat)(n:Int)(N:Nat)(m:Int)(w:World)(hs:s.size<4294967281)(hm:w.cell? ⟨0,0,none⟩=some (.int .i64 m))(h1:1≤sep.size)(hsv:sv≤sep.size)(hn0:n≠0)(hn63:n≤9223372036854775807)(hN:(N:Int)=min (if n<0 then(Lib.countB s sep:Int)+1 else n) ((s.size:Int)+1)):
  Calls Tryz.prog 60 #[.string s,.string sep,.int .i64 sv,.int .i64 n] w fun e w'=>
   e=.returned (.slice (some ⟨w.heap.size,0,none⟩) (Lib.splitB sep sv (N-1) s).length N)∧w'=w.alloc (.cells (Lib.cellsOf (Lib.splitB sep sv (N-1) s) N) 9):=Any.strings_genSplit Tryz.lays221 (by kernel_rfl) s sep sv n N m w hs hm h1 hsv hn0 hn63 hN
def Tryz.lays146_ren:Go.Shelf.Ren:=⟨fun|146=>28|221=>60|268=>109|138=>110|143=>111|195=>146|197=>147|218=>148|219=>149|260=>174|217=>175|225=>176|224=>177|267=>178|266=>210|314=>211|n=>n,fun|9=>9|31=>55|3=>3|4=>4|0=>0|105=>181|21=>21|5=>5|46=>89|119=>222|139=>225|138=>224|146=>227|51=>226|n=>n,fun|1=>0|3=>1|4=>2|n=>n⟩
def Tryz.lays146:Go.Proofs.Lays.n146 Tryz.prog Tryz.lays146_ren:={
 mixed:=by kernel_rfl
 f138:=Tryz.func110.trans (congrArg some (by kernel_rfl))
 f143:=Tryz.func111.trans (congrArg some (by kernel_rfl))
 f146:=Tryz.func28.trans (congrArg some (by kernel_rfl))
 f195:=Tryz.func146.trans (congrArg some (by kernel_rfl))
 f197:=Tryz.func147.trans (congrArg some (by kernel_rfl))
 f217:=Tryz.func175.trans (congrArg some (by kernel_rfl))
 f218:=Tryz.func148.trans (congrArg some (by kernel_rfl))
 f219:=Tryz.func149.trans (congrArg some (by kernel_rfl))
 f221:=Tryz.func60.trans (congrArg some (by kernel_rfl))
 f224:=Tryz.func177.trans (congrArg some (by kernel_rfl))
 f225:=Tryz.func176.trans (congrArg some (by kernel_rfl))
 f260:=Tryz.func174.trans (congrArg some (by kernel_rfl))
 f266:=Tryz.func210.trans (congrArg some (by kernel_rfl))
 f267:=Tryz.func178.trans (congrArg some (by kernel_rfl))
 f268:=Tryz.func109.trans (congrArg some (by kernel_rfl))
 f314:=Tryz.func211.trans (congrArg some (by kernel_rfl))
 t0:=Tryz.underlying0
 a0:=Tryz.isAgg0
 z0:=Tryz.sizeOf0
 v0:=Tryz.zeroValue0
 t3:=Tryz.underlying3
 a3:=Tryz.isAgg3
 z3:=Tryz.sizeOf3
 v3:=Tryz.zeroValue3
 t4:=Tryz.underlying4
 a4:=Tryz.isAgg4
 z4:=Tryz.sizeOf4
 v4:=Tryz.zeroValue4
 t5:=Tryz.underlying5
 a5:=Tryz.isAgg5
 z5:=Tryz.sizeOf5
 v5:=Tryz.zeroValue5
 t9:=Tryz.underlying9
 a9:=Tryz.isAgg9
 z9:=Tryz.sizeOf9
 v9:=Tryz.zeroValue9
 t21:=Tryz.underlying21
 a21:=Tryz.isAgg21
 z21:=Tryz.sizeOf21
 v21:=Tryz.zeroValue21
 t31:=Tryz.underlying55
 a31:=Tryz.isAgg55
 z31:=Tryz.sizeOf55
 v31:=Tryz.zeroValue55
 t46:=Tryz.underlying89
 a46:=Tryz.isAgg89
 z46:=Tryz.sizeOf89
 v46:=Tryz.zeroValue89
 t51:=Tryz.underlying226
 a51:=Tryz.isAgg226
 z51:=Tryz.sizeOf226
 v51:=Tryz.zeroValue226
 t105:=Tryz.underlying181
 a105:=Tryz.isAgg181
 z105:=Tryz.sizeOf181
 v105:=Tryz.zeroValue181
 t119:=Tryz.underlying222
 a119:=Tryz.isAgg222
 z119:=Tryz.sizeOf222
 t138:=Tryz.underlying224
 a138:=Tryz.isAgg224
 z138:=Tryz.sizeOf224
 v138:=Tryz.zeroValue224
 t139:=Tryz.underlying225
 a139:=Tryz.isAgg225
 z139:=Tryz.sizeOf225
 v139:=Tryz.zeroValue225
 t146:=Tryz.underlying227
 a146:=Tryz.isAgg227
 z146:=Tryz.sizeOf227
 v146:=Tryz.zeroValue227
 g1:=by kernel_rfl
 g3:=by kernel_rfl
 g4:=by kernel_rfl}
open Go.RowKit Go.Lib in
theorem Tryz.strings_Split (s sep:ByteArray)(m:Int)(w:World)(hs:s.size<4294967281)(hm:w.cell? ⟨0,0,none⟩=some (.int .i64 m))(h1:1≤sep.size):
  Calls Tryz.prog 28 #[.string s,.string sep] w fun e w'=>
   e=.returned (.slice (some ⟨w.heap.size,0,none⟩) (Lib.countB s sep+1) (Lib.countB s sep+1))∧w'=w.alloc (.cells ((Lib.splitB sep 0 (Lib.countB s sep) s).map Value.string).toArray 9):=Any.strings_Split Tryz.lays146 (by kernel_rfl) s sep m w hs hm h1
def Tryz.lays147_ren:Go.Shelf.Ren:=⟨fun|147=>112|221=>60|268=>109|138=>110|143=>111|195=>146|197=>147|218=>148|219=>149|260=>174|217=>175|225=>176|224=>177|267=>178|266=>210|314=>211|n=>n,fun|9=>9|3=>3|31=>55|4=>4|0=>0|105=>181|21=>21|5=>5|46=>89|119=>222|139=>225|138=>224|146=>227|51=>226|n=>n,fun|1=>0|3=>1|4=>2|n=>n⟩
def Tryz.lays147:Go.Proofs.Lays.n147 Tryz.prog Tryz.lays147_ren:={
 mixed:=by kernel_rfl
 f138:=Tryz.func110.trans (congrArg some (by kernel_rfl))
 f143:=Tryz.func111.trans (congrArg some (by kernel_rfl))
 f147:=Tryz.func112.trans (congrArg some (by kernel_rfl))
 f195:=Tryz.func146.trans (congrArg some (by kernel_rfl))
 f197:=Tryz.func147.trans (congrArg some (by kernel_rfl))
 f217:=Tryz.func175.trans (congrArg some (by kernel_rfl))
 f218:=Tryz.func148.trans (congrArg some (by kernel_rfl))
 f219:=Tryz.func149.trans (congrArg some (by kernel_rfl))
 f221:=Tryz.func60.trans (congrArg some (by kernel_rfl))
 f224:=Tryz.func177.trans (congrArg some (by kernel_rfl))
 f225:=Tryz.func176.trans (congrArg some (by kernel_rfl))
 f260:=Tryz.func174.trans (congrArg some (by kernel_rfl))
 f266:=Tryz.func210.trans (congrArg some (by kernel_rfl))
 f267:=Tryz.func178.trans (congrArg some (by kernel_rfl))
 f268:=Tryz.func109.trans (congrArg some (by kernel_rfl))
 f314:=Tryz.func211.trans (congrArg some (by kernel_rfl))
 t0:=Tryz.underlying0
 a0:=Tryz.isAgg0
 z0:=Tryz.sizeOf0
 v0:=Tryz.zeroValue0
 t3:=Tryz.underlying3
 a3:=Tryz.isAgg3
 z3:=Tryz.sizeOf3
 v3:=Tryz.zeroValue3
 t4:=Tryz.underlying4
 a4:=Tryz.isAgg4
 z4:=Tryz.sizeOf4
 v4:=Tryz.zeroValue4
 t5:=Tryz.underlying5
 a5:=Tryz.isAgg5
 z5:=Tryz.sizeOf5
 v5:=Tryz.zeroValue5
 t9:=Tryz.underlying9
 a9:=Tryz.isAgg9
 z9:=Tryz.sizeOf9
 v9:=Tryz.zeroValue9
 t21:=Tryz.underlying21
 a21:=Tryz.isAgg21
 z21:=Tryz.sizeOf21
 v21:=Tryz.zeroValue21
 t31:=Tryz.underlying55
 a31:=Tryz.isAgg55
 z31:=Tryz.sizeOf55
 v31:=Tryz.zeroValue55
 t46:=Tryz.underlying89
 a46:=Tryz.isAgg89
 z46:=Tryz.sizeOf89
 v46:=Tryz.zeroValue89
 t51:=Tryz.underlying226
 a51:=Tryz.isAgg226
 z51:=Tryz.sizeOf226
 v51:=Tryz.zeroValue226
 t105:=Tryz.underlying181
 a105:=Tryz.isAgg181
 z105:=Tryz.sizeOf181
 v105:=Tryz.zeroValue181
 t119:=Tryz.underlying222
 a119:=Tryz.isAgg222
 z119:=Tryz.sizeOf222
 t138:=Tryz.underlying224
 a138:=Tryz.isAgg224
 z138:=Tryz.sizeOf224
 v138:=Tryz.zeroValue224
 t139:=Tryz.underlying225
 a139:=Tryz.isAgg225
 z139:=Tryz.sizeOf225
 v139:=Tryz.zeroValue225
 t146:=Tryz.underlying227
 a146:=Tryz.isAgg227
 z146:=Tryz.sizeOf227
 v146:=Tryz.zeroValue227
 g1:=by kernel_rfl
 g3:=by kernel_rfl
 g4:=by kernel_rfl}
open Go.RowKit Go.Lib in
theorem Tryz.strings_SplitN (s sep:ByteArray)(n:Nat)(m:Int)(w:World)(hs:s.size<4294967281)(hm:w.cell? ⟨0,0,none⟩=some (.int .i64 m))(h1:1≤sep.size)(hn:1≤n)(hn63:n≤9223372036854775807):
  Calls Tryz.prog 112 #[.string s,.string sep,.int .i64 n] w fun e w'=>
   e=.returned (.slice (some ⟨w.heap.size,0,none⟩) (Lib.splitB sep 0 (min n (s.size+1) -1) s).length (min n (s.size+1)))∧w'=w.alloc (.cells (Lib.cellsOf (Lib.splitB sep 0 (min n (s.size+1) -1) s) (min n (s.size+1))) 9):=Any.strings_SplitN Tryz.lays147 (by kernel_rfl) s sep n m w hs hm h1 hn hn63
def Tryz.laysNm216_ren:Go.Shelf.Ren:=⟨fun|16=>65|n=>n,fun|24=>55|9=>9|4=>4|n=>n,fun|n=>n⟩
def Tryz.laysNm216:Go.Proofs.Lays2.n16 Tryz.prog Tryz.laysNm216_ren:={
 mixed:=by kernel_rfl
 f16:=Tryz.func65.trans (congrArg some (by kernel_rfl))
 t4:=Tryz.underlying4
 a4:=Tryz.isAgg4
 z4:=Tryz.sizeOf4
 v4:=Tryz.zeroValue4
 t9:=Tryz.underlying9
 a9:=Tryz.isAgg9
 z9:=Tryz.sizeOf9
 v9:=Tryz.zeroValue9
 t24:=Tryz.underlying55
 a24:=Tryz.isAgg55
 z24:=Tryz.sizeOf55
 v24:=Tryz.zeroValue55
 i9:=by kernel_rfl}
open Go.RowKit Go.Lib in
theorem Tryz.slices_Clone_string (b off n c:Nat)(zs:List ByteArray)(w:World)(hz:n≤zs.length)(hbig:n*16≤140737488355328)(hc:∀j,j<zs.length→w.cell? ⟨b,off+j,none⟩=some (.string (zs.getD j ByteArray.empty))):
  Calls Tryz.prog 65 #[.slice (some ⟨b,off,none⟩) n c] w fun e w'=>∃v',e=.returned v'∧w'.ownsRow w.heap.size 9 1 v' n ((zs.take n).map (Value.string))∧v'≠.slice none 0 0∧Below w.heap.size w w':=Any.slices_Clone_string Tryz.laysNm216 b off n c zs w hz hbig hc
open Go.RowKit Go.Lib in
theorem Tryz.slices_Clone_string_nil (n c:Nat)(w:World):
  Calls Tryz.prog 65 #[.slice none n c] w fun e w'=>e=.returned (.slice none 0 0)∧w'=w:=Any.slices_Clone_string_nil Tryz.laysNm216 n c w
open Go.RowKit Go.Lib in
theorem Tryz.slices_Clone_string_zero (a:Addr)(c:Nat)(w:World):
  Calls Tryz.prog 65 #[.slice (some a) 0 c] w fun e w'=>∃v',e=.returned v'∧w'.ownsRow w.heap.size 9 1 v' 0 []∧v'≠.slice none 0 0∧Below w.heap.size w w':=Any.slices_Clone_string_zero Tryz.laysNm216 a c w
end Go.Proofs
end
namespace Go.Abs
def pre1 (b c:UInt8)(r:ai):([b]:ai).isPrefixOf (c::r)=(b==c):=by simp[List.isPrefixOf]
def Kw:Option Nat→Int
 |some k=>(k:Int)
 |none=>-1
def uU:∀(s:ai)(b:UInt8),Lib.index s [b]=Kw (s.findIdx? (fun c=>c==b))
 |[],b=>rfl
 |c::r,b=>by
  unfold Lib.index;rw[pre1,List.findIdx?_cons,uU r b];by_cases h:c=b
  ·subst h;simp[Kw]
  ·have h1:(b==c)=false:=by simp[Ne.symm h]
   have h2:(c==b)=false:=by simp[h]
   simp only[h1,h2,Bool.false_eq_true,if_false];cases r.findIdx? (fun c=>c==b)with
   |none=>rfl
   |some k=>
    simp only[Option.map_some];rw[if_neg (by simp[Kw])];simp[Kw]
def LU (s:ai)(b:UInt8):Lib.cut s [b]=fg s b:=by
 unfold Lib.cut fg;rw[uU];cases s.findIdx? (fun c=>c==b)with
 |none=>simp[Kw]
 |some k=>simp[Kw]
def EC (s p:ai):(Lib.trimPrefix s p,Lib.hasPrefix s p)=dN s p:=by
 unfold Lib.trimPrefix Lib.hasPrefix dN;split<;>rename_i h
 ·rw[h]
 ·simp only[Bool.not_eq_true]at h;rw[h]
def Aq (b:ai):∀l,aM b l=Lib.join l b
 |[]=>rfl
 |[t]=>(Lib.join_one t b).symm
 |t::u::r=>by
  rw[fu _ _ _ (by simp),Aq b (u::r),Lib.join_cons,Lib.join_cons];simp[Lib.joinTail]
def decDigits_eq (n:Nat):Lib.decDigits n=cW n:=by
 induction n using Nat.strongRecOn with
 |_ n ih=>
  rw[Lib.decDigits];by_cases h:n<10
  ·rw[dif_pos h,nn h];rfl
  ·rw[dif_neg h,nk (by omega),ih (n/10) (by omega)];rfl
def Jq {n:Int}(h:0≤n):Lib.itoa n=cW n.toNat:=by
 unfold Lib.itoa;rw[if_neg (by omega),decDigits_eq]
def sK (b:UInt8):∀(s cur:ai),s.findIdx? (fun c=>c==b)=none→bK b.toNat s cur=[cur++s]
 |[],cur,_=>by simp[bK]
 |c::r,cur,h=>by
  rw[List.findIdx?_cons]at h;split at h
  ·cases h
  ·rename_i hc;have hr:r.findIdx? (fun c=>c==b)=none:=by
    cases hq:r.findIdx? (fun c=>c==b)with
    |none=>rfl
    |some k=>rw[hq]at h;cases h
   have hne:¬((c.toNat:Int)=(b.toNat:Int)):=fun e=>hc (by
    have:c.toNat=b.toNat:=by omega
    simp[UInt8.toNat_inj.1 this])
   simp only[bK,if_neg hne];rw[sK b r (cur++[c]) hr];simp
def qE (b:UInt8):∀(s cur:ai)(k:Nat),s.findIdx? (fun c=>c==b)=some k→bK b.toNat s cur=(cur++s.take k)::bK b.toNat (s.drop (k+1)) []
 |[],cur,k,h=>by simp at h
 |c::r,cur,k,h=>by
  rw[List.findIdx?_cons]at h;split at h
  ·rename_i hc;have hk:k=0:=by simpa using h.symm
   subst hk;have hcb:c=b:=by simpa using hc
   subst hcb;simp[bK]
  ·rename_i hc;have hne:¬((c.toNat:Int)=(b.toNat:Int)):=fun e=>hc (by
    have:c.toNat=b.toNat:=by omega
    simp[UInt8.toNat_inj.1 this])
   cases hq:r.findIdx? (fun c=>c==b)with
   |none=>rw[hq]at h;cases h
   |some j=>
    rw[hq]at h;have hk:k=j+1:=by simpa using h.symm
    subst hk;simp only[bK,if_neg hne];rw[qE b r (cur++[c]) j hq];simp
def ya (b:UInt8):∀(k:Nat)(s:ByteArray),Lib.countB s ⟨⟨[b]⟩⟩=k→(Lib.splitB ⟨⟨[b]⟩⟩ 0 k s).map (fun t=>t.data.toList)=ah s.data.toList b.toNat:=by
 intro k;induction k with
 |zero=>
  intro s h;rw[Lib.splitB_zero];have hi:Lib.indexB s ⟨⟨[b]⟩⟩=Kw (s.data.toList.findIdx? (fun c=>c==b)):=uU _ b;cases hq:s.data.toList.findIdx? (fun c=>c==b)with
  |none=>simp[ah,sK b _ [] hq]
  |some j=>
   rw[hq]at hi;have:=Lib.countB_hit s ⟨⟨[b]⟩⟩ j (Nat.le_refl 1) hi;omega
 |succ k ih=>
  intro s h;have hi:Lib.indexB s ⟨⟨[b]⟩⟩=Kw (s.data.toList.findIdx? (fun c=>c==b)):=uU _ b;cases hq:s.data.toList.findIdx? (fun c=>c==b)with
  |none=>
   rw[hq]at hi;have:=Lib.countB_miss s ⟨⟨[b]⟩⟩ hi;omega
  |some j=>
   rw[hq]at hi;have h1:1≤(⟨⟨[b]⟩⟩:ByteArray).size:=Nat.le_refl 1;have hc:=Lib.countB_hit s ⟨⟨[b]⟩⟩ j h1 hi;rw[Lib.splitB_hit _ _ _ _ j hi];simp only[List.map_cons];rw[ih _ (by omega)];have e1:(s.extract 0 (j+0)).data.toList=s.data.toList.take j:=by
    rw[Lib.extract_data];simp
   have e2:(s.extract (j+(⟨⟨[b]⟩⟩:ByteArray).size) s.size).data.toList=s.data.toList.drop (j+1):=by
    rw[Lib.extract_data];exact List.take_of_length_le (by rw[List.length_drop,Lib.size_eq];exact Nat.le_refl _)
   rw[e1,e2];simp only[ah];rw[qE b _ [] j hq];simp
end Go.Abs
section
namespace Go.Abs
open Go.Proofs
def Bh (sep:ai)(k:Nat)(s:ai)(h:Lib.index s sep=-1):Lib.splitK sep 0 k s=[s]:=by
 cases k with
 |zero=>rfl
 |succ k=>unfold Lib.splitK;rw[if_pos (beq_iff_eq.2 h)]
def C0 (sep:ai)(k:Nat)(s:ai)(i:Nat)(h:Lib.index s sep=i):Lib.splitK sep 0 (k+1) s=s.take i::Lib.splitK sep 0 k (s.drop (i+sep.length)):=by
 have hm:¬(Lib.index s sep==-1)=true:=fun e=>by have:=beq_iff_eq.1 e;omega
 have e:(Lib.index s sep).toNat=i:=by omega
 rw[Lib.splitK,if_neg hm,e];rfl
def ll (b:UInt8):∀(s cur:ai),aM [b] (bK b.toNat s cur)=cur++s
 |[],cur=>by simp[bK,aM]
 |c::r,cur=>by
  unfold bK;split
  ·rename_i h;have hc:c=b:=by
    have:c.toNat=b.toNat:=by omega
    exact UInt8.toNat_inj.1 this
   have hne:bK b.toNat r []≠[]:=m5 r b.toNat;rw[fu _ _ _ hne,ll b r [],hc];simp
  ·rw[ll b r (cur++[c])];simp
def EB (a:ai){l:List ai}(k:Nat)(hl:l≠[]):nS (k+2) (a::l)=a::nS (k+1) l:=by
 unfold nS;by_cases h:l.length≤k+1
 ·rw[if_pos h,if_pos (by simp only[List.length_cons];omega)]
 ·rw[if_neg h,if_neg (by simp only[List.length_cons];omega)];simp
def Fv:∀(k:Nat)(s:ai),Lib.splitK [32] 0 k s=nS (k+1) (ah s 32):=by
 intro k;induction k with
 |zero=>
  intro s;have hj:aM [32] (ah s 32)=s:=by
   have:=ll 32 s [];simpa[ah]using this
  unfold nS;split
  ·rename_i h;show [s]=_;have hne:ah s 32≠[]:=m5 _ _
   match hq:ah s 32,hne,h with
   |[t],_,_=>rw[hq]at hj;rw[←hj];rfl
   |_::_::_,_,h=>simp at h
  ·simp only[Nat.zero_add,Nat.sub_self,List.take_zero,List.drop_zero,List.nil_append,hj];rfl
 |succ k ih=>
  intro s;have hi:=uU s 32;cases hq:s.findIdx? (fun c=>c==32)with
  |none=>
   rw[hq]at hi;have hs:ah s 32=[s]:=by have:=sK 32 s [] hq;simpa[ah]using this
   rw[Bh _ _ _ hi,hs];rfl
  |some j=>
   rw[hq]at hi;have hs:ah s 32=s.take j::ah (s.drop (j+1)) 32:=by have:=qE 32 s [] j hq;simpa[ah]using this
   rw[C0 _ _ _ j hi,hs,EB _ _ (m5 _ _),ih];rfl
def C9 (n:Nat)(h:1≤n)(s:ai):Lib.splitK [32] 0 (min n (s.length+1) -1) s=jm (n:Int) s:=by
 have hl:=cn s 32;rw[Fv];unfold jm;rw[if_neg (by omega),Int.toNat_natCast];by_cases hn:n≤s.length+1
 ·rw[show min n (s.length+1) -1+1=n by omega]
 ·rw[show min n (s.length+1) -1+1=s.length+1 by omega];unfold nS;rw[if_pos hl,if_pos (by omega)]
def P4 (c d:UInt8)(r:ai):([124,124]:ai).isPrefixOf (c::d::r)=(decide (c=124)&&decide (d=124)):=by
 have e:∀x:UInt8,((124:UInt8)==x)=decide (x=124):=fun x=>by
  by_cases h:x=124
  ·subst h;rfl
  ·rw[decide_eq_false h];exact beq_eq_false_iff_ne.2 (Ne.symm h)
 simp only[List.isPrefixOf,Bool.and_true,e]
def yc:∀(s cur:ai),Lib.index s [124,124]=-1→ay s cur=[cur++s]
 |[],cur,_=>by simp[ay]
 |[c],cur,_=>rfl
 |c::d::r,cur,h=>by
  unfold Lib.index at h;rw[P4]at h;by_cases h2:c=124∧d=124
  ·simp[h2.1,h2.2]at h
  ·have h3:(decide (c=124)&&decide (d=124))=false:=by rw[←Bool.decide_and];exact decide_eq_false h2
   rw[h3,if_neg (by simp)]at h;have h4:Lib.index (d::r) [124,124]=-1:=by
    have:=Lib.index_ge (d::r) [124,124];split at h
    ·rename_i h5;exact beq_iff_eq.1 h5
    ·omega
   rw[ay,if_neg h2,yc (d::r) _ h4];simp
def yb:∀(s cur:ai)(i:Nat),Lib.index s [124,124]=i→ay s cur=(cur++s.take i)::ay (s.drop (i+2)) []
 |[],cur,i,h=>by simp[Lib.index]at h
 |[c],cur,i,h=>by simp[Lib.index,List.isPrefixOf]at h
 |c::d::r,cur,i,h=>by
  unfold Lib.index at h;rw[P4]at h;by_cases h2:c=124∧d=124
  ·rw[h2.1,h2.2]at h;have hi:i=0:=by simp at h;omega
   subst hi;rw[ay,if_pos h2];simp
  ·have h3:(decide (c=124)&&decide (d=124))=false:=by rw[←Bool.decide_and];exact decide_eq_false h2
   rw[h3,if_neg (by simp)]at h;split at h
   ·omega
   ·obtain⟨j,rfl⟩:∃j,i=j+1:=⟨i-1,by
     have:=Lib.index_ge (d::r) [124,124];rename_i h5;have:Lib.index (d::r) [124,124]≠-1:=fun e=>h5 (beq_iff_eq.2 e)
     omega⟩
    rw[ay,if_neg h2,yb (d::r) _ j (by omega)];simp
def Fu:∀(k:Nat)(s:ByteArray),Lib.countB s ⟨⟨[124,124]⟩⟩=k→(Lib.splitB ⟨⟨[124,124]⟩⟩ 0 k s).map (fun t=>t.data.toList)=ay s.data.toList []:=by
 intro k;induction k with
 |zero=>
  intro s h;rcases Lib.indexB_cases s ⟨⟨[124,124]⟩⟩with hi|⟨i,hi,_⟩
  ·rw[Lib.splitB_zero];rw[yc _ _ (show Lib.index s.data.toList [124,124]=-1 from hi)];rfl
  ·have:=Lib.countB_hit s ⟨⟨[124,124]⟩⟩ i (by decide) hi;omega
 |succ k ih=>
  intro s h;rcases Lib.indexB_cases s ⟨⟨[124,124]⟩⟩with hi|⟨i,hi,_⟩
  ·rw[Lib.countB_miss _ _ hi]at h;omega
  ·have hc:=Lib.countB_hit s ⟨⟨[124,124]⟩⟩ i (by decide) hi;rw[Lib.splitB_hit _ _ _ _ i hi,List.map_cons,ih _ (by omega),yb _ _ i (show Lib.index s.data.toList [124,124]=i from hi),Lib.extract_from_zero,Lib.extract_to_end];rfl
def yj {p:UInt8→Bool}:∀(l:ai),∀x∈l.takeWhile p,p x=true
 |[],x,h=>by cases h
 |a::r,x,h=>by
  rw[List.takeWhile_cons]at h;split at h
  ·rename_i ha;rcases List.mem_cons.1 h with rfl|h
   ·exact ha
   ·exact yj r x h
  ·cases h
def r6 {p:UInt8→Bool}:∀(l:ai),(∀x∈l,p x=true)→l.dropWhile p=[]
 |[],_=>rfl
 |a::r,h=>by
  rw[List.dropWhile_cons,if_pos (h a (.head _))];exact r6 r fun x hx=>h x (.tail _ hx)
def uu:∀s,iT s=s.dropWhile (· ==32)
 |[]=>rfl
 |c::r=>by
  unfold iT;by_cases h:c=32
  ·rw[if_pos h,uu r];simp[h]
  ·rw[if_neg h,List.dropWhile_cons,if_neg (by simpa using h)]
def Gf (s:ai):Lib.trimB s 32=c9 s:=by
 unfold Lib.trimB Lib.trimLeftB Lib.trimRightB c9;rw[uu,uu];generalize hp:(fun c:UInt8=>c==32)=p;have hs:s=s.takeWhile p++s.dropWhile p:=(List.takeWhile_append_dropWhile).symm;generalize ha:s.takeWhile p=a at hs;generalize hm:s.dropWhile p=m at hs;have hall:∀x∈a,p x=true:=by rw[←ha];exact yj s
 subst hs;rw[List.reverse_append,List.dropWhile_append];cases m with
 |nil=>
  simp only[List.reverse_nil,List.dropWhile_nil,List.isEmpty_nil,if_true];rw[r6 a.reverse (fun x hx=>hall x (List.mem_reverse.1 hx))];rfl
 |cons c r=>
  have hc:p c=false:=by
   have:=List.head_dropWhile_not p (l:=a++c::r) (by rw[hm];simp);simpa[hm]using this
  have hne:((c::r).reverse.dropWhile p)≠[]:=by
   rw[List.reverse_cons,List.dropWhile_append];split
   ·simp[hc]
   ·simp
  rw[if_neg (by simpa using hne),List.reverse_append,List.reverse_reverse,List.dropWhile_append,r6 _ hall];simp only[List.isEmpty_nil,if_true];rw[List.reverse_cons,List.dropWhile_append];split
  ·simp[hc]
  ·simp[hc]
end Go.Abs
namespace Go.Proofs
open Go.Shelf Go.RowKit Go.Lib
set_option maxHeartbeats 1000000 in
/--strings.SplitN into all -/
theorem C1 {P:Program}{ρ:Ren}(L:Lays.n147 P ρ)(hi9:(P.info? (ρ.t 9)).map (fun i=>(i.zero,i.size,i.bytes))=some (some (.string ByteArray.empty),1,16))(s sep:ByteArray)(m:Int)(w:World)
  (hs:s.size<4294967281) (hm:w.cell? ⟨(ρ.g 1),0,none⟩=some (.int .i64 m)) (h1:1≤sep.size):
  Calls P (ρ.f 147) #[.string s,.string sep,.int .i64 (-1)] w fun e w'=>
   e=.returned (.slice (some ⟨w.heap.size,0,none⟩) (Lib.splitB sep 0 (Lib.countB s sep) s).length (Lib.countB s sep+1))∧w'=w.alloc (.cells (Lib.cellsOf (Lib.splitB sep 0 (Lib.countB s sep) s) (Lib.countB s sep+1)) (ρ.t 9)):=by
 have hle:=Lib.countB_le sep h1 s.size s (Nat.le_refl _);have c:=Any.strings_genSplit {L with} hi9 s sep 0 (-1) (Lib.countB s sep+1) m w hs hm h1 (Nat.zero_le _) (by decide) (by decide) (by rw[if_pos (by decide)];omega);rw[Nat.add_sub_cancel]at c;have t3:=L.t3;have t9:=L.t9;have t31:=L.t31;have a3:=L.a3;have a9:=L.a9;have a31:=L.a31;have z3:=L.z3;have v3:=L.v3;have z9:=L.z9;have v9:=L.v9;have z31:=L.z31;have v31:=L.v31;have e221:∀args w,(callFunc (ρ.f 221) args).run P w=.ok (.enter (ρ.f 221) args) w:=enters_of L.f221 (by kernel_rfl) rfl
 go_enter L.f147,Body.n147_ntmps ρ
 go_wp2_with (go_at_fn (ρ.f 221);refine c.mono ?_;rintro e w' ⟨rfl,hw⟩;rw[hw])
 go_ret
 exact⟨rfl,rfl⟩
end Go.Proofs
end
section
namespace Go.Abs
open Go.Proofs Go.Shelf Go.RowKit
section
variable [cz] {P:Program}
def kQ (U:TypeId)(w:World)(v:Value)(s:List UInt8):Prop:=
 (v=.slice none 0 0∧s=[])∨∃g t c,v=.slice (some ⟨g,0,none⟩) s.length t∧w.heap[g]? =some (.cells c U (0,0))∧c.size=t∧t≤maxLen∧s.length≤t∧∀i,i<s.length→c.getD i undef=.int .u8 (s.getD i 0).toNat
def ef (s:List UInt8):List Value:=s.map fun b=>Value.int .u8 b.toNat
def fY (s:List UInt8):(ef s).length=s.length:=by simp[ef]
def qc (s:List UInt8)(i:Nat)(h:i<s.length):(ef s).getD i undef=.int .u8 (s.getD i 0).toNat:=by simp[ef,List.getD,h]
def uC (s:List UInt8):∀u∈ef s,u.oneCell'=true:=by
 intro u hu;obtain⟨b,_,rfl⟩:=List.mem_map.1 hu;rfl
def DR {x y:List UInt8}{zs:Array Value}(i:Nat)(hi:i<(x++y).length):(((ef x++ef y).toArray++zs).getD i undef)=.int .u8 ((x++y).getD i 0).toNat:=by
 rw[←bF];simp only[Array.toList_append];rw[cl,if_pos (by simpa[ef]using hi)];have:ef x++ef y=ef (x++y):=by simp[ef]
 rw[this,qc _ _ hi]
def IW {U t u ty:TypeId}{i:TypeInfo}{w:World}(ht:P.underlying t=some (.slice U))(hi:P.info? U=some i)(hz:i.zero=some (.int .u8 0))(hs:i.size=1)(hby:i.bytes=1){v xv:Value}{s s2:List UInt8}
  (hv:kQ U w v s) (h0:s2≠[]) (hsrc:Go.Src P 1 u xv s2.length (ef s2) w) (hle:s.length+s2.length≤1099511627776):
  ∃g' t' w',(Builtin.append_ #[t,u] ty #[v,xv]).run P w=.ok (.slice (some ⟨g',0,none⟩) (s++s2).length t') w'∧kQ U w' (.slice (some ⟨g',0,none⟩) (s++s2).length t') (s++s2)∧w.grownBy w' v.ownBlock∧(v.ownBlock=some g'∨w.heap.size≤g')∧g'<w'.heap.size:=by
 have hp:0<s2.length:=List.length_pos_iff.2 h0;have hm:maxLen=9223372036854775807:=rfl;rw[←hs]at hsrc;rcases hv with⟨rfl,rfl⟩|⟨g,cap,c,rfl,hg,hcs,hcm,hle2,hc⟩
 ·have hr:=run_append_grow_src (P:=P) w t u ty U i _ ht hi hz none 0 0 [] (by simp[Builtin.firstCells,loadCells,loadCellsFrom]) xv s2.length (ef s2) hsrc (by omega) (by simp only[List.length_nil]at hle;omega) (by rw[hby];exact growslice_fits (by omega) (by simp only[List.length_nil]at hle;omega));have hge:=grownCap_ge w (0+s2.length) 0 U;have hcm2:grownCap w (0+s2.length) 0 U≤maxLen:=grownCap_le_maxLen w (0+s2.length) 0 U (by simp only[List.length_nil]at hle;omega);simp only[Nat.zero_add,List.nil_append]at hr hge hcm2;refine⟨w.heap.size,_,_,hr,.inr ⟨w.heap.size,_,_,rfl,du w.drew _, ?_,hcm2,hge,fun j hj=>?_⟩,⟨rfl,rfl,rfl, ?_,fun k hk _=>jZ w.drew _ k hk⟩,.inr (Nat.le_refl _), ?_⟩
  ·have hz1:(Value.int IntKind.u8 0).cells.size=1:=rfl;simp only[List.nil_append,Array.size_append,List.size_toArray,fY,size_zeroCells,hz1];omega
  ·exact DR (x:=[]) j hj
  ·show w.heap.size≤(w.drew.heap.push _).size;rw[Array.size_push];exact Nat.le_succ _
  ·show w.heap.size<(w.drew.heap.push _).size;rw[Array.size_push];exact Nat.lt_succ_self _
 ·by_cases hroom:s.length+s2.length≤cap
  ·have hr:=run_append_room_src (P:=P) w t u ty U i ht hi g 0 s.length cap xv s2.length (ef s2) hsrc hroom (fun j hj=>by
    rw[hs,cell_of_heap hg (by rw[fY]at hj;omega)];rfl) (fun j hj=>by simp[World.frozen?,hg])
   obtain⟨c',s1,s3,s4⟩:=j7 g (ef s2) (0+s.length*i.size) w c U (0,0) hg (by rw[fY,hs];omega);obtain⟨f1,f2,f3,f4⟩:=ji g (ef s2) (0+s.length*i.size) w;have hlt:g<w.heap.size:=by
    rcases Nat.lt_or_ge g w.heap.size with h|h
    ·exact h
    ·simp[Array.getElem?_eq_none h]at hg
   refine⟨g,cap,_,by simpa using hr,.inr ⟨g,cap,c',by simp,s1,by omega,hcm,by rw[List.length_append];exact hroom,fun j hj=>?_⟩,⟨f1,f2,f3,by omega,fun k _ hk=>jj g _ _ _ k (fun e=>hk (by simp[Value.ownBlock,e]))⟩,.inl rfl,by omega⟩;rw[s4,fY,hs];rw[List.length_append]at hj;by_cases hj2:j<s.length
   ·rw[if_neg (by omega),hc j hj2,cl,if_pos hj2]
   ·rw[if_pos (by omega),qc _ _ (by omega),cl,if_neg hj2];congr 4;omega
  ·have hold:(Builtin.firstCells i.size s.length (.slice (some ⟨g,0,none⟩) s.length cap)).run P w.drew=.ok (ef s).toArray w.drew:=by
    refine run_firstCells_some w.drew i.size s.length _ s.length cap _ (by simp[fY,hs]) (fun j u' hj=>?_);have hj2:j<s.length:=by
     have:=(List.getElem?_eq_some_iff.1 hj).1;rwa [fY]at this
    have hg':w.drew.heap[g]? =some (.cells c U (0,0)):=hg;rw[Addr.tw,cell_of_heap hg' (by omega),Nat.zero_add,hc j hj2,←qc s j hj2];simp[List.getD,hj]
   have hr:=run_append_grow_src (P:=P) w t u ty U i _ ht hi hz (some ⟨g,0,none⟩) s.length cap (ef s) hold xv s2.length (ef s2) hsrc (by omega) (by omega) (by rw[hby];exact growslice_fits (by omega) (by omega));have hge:=grownCap_ge w (s.length+s2.length) cap U;have hcm2:grownCap w (s.length+s2.length) cap U≤maxLen:=grownCap_le_maxLen w (s.length+s2.length) cap U (by omega);refine⟨w.heap.size,_,_,by simpa using hr,.inr ⟨w.heap.size,_,_,by simp,du w.drew _, ?_,hcm2,by simpa using hge,fun j hj=>?_⟩,⟨rfl,rfl,rfl, ?_,fun k hk _=>jZ w.drew _ k hk⟩,.inr (Nat.le_refl _), ?_⟩
   ·have hz1:(Value.int IntKind.u8 0).cells.size=1:=rfl;simp only[Array.size_append,List.size_toArray,List.length_append,fY,size_zeroCells,hz1];omega
   ·exact DR j hj
   ·show w.heap.size≤(w.drew.heap.push _).size;rw[Array.size_push];exact Nat.le_succ _
   ·show w.heap.size<(w.drew.heap.push _).size;rw[Array.size_push];exact Nat.lt_succ_self _
def wz {ops:Array Oper}{rest:List Oper}{o:Oper}{a:Act}{Q:Exit→Act→World→Prop}(hgd:o.guard=none)(sl x:Operand)(t u:TypeId)
  (ho:o.op=.call {callee:=.builtin .append,args:=#[sl,x],argTypes:=#[t,u]}) {U:TypeId} {i:TypeInfo} {w:World}
  (ht:P.underlying t=some (.slice U)) (hi:P.info? U=some i) (hz:i.zero=some (.int .u8 0)) (hsz:i.size=1) (hby:i.bytes=1) {v xv:Value} {s s2:List UInt8} (hs:a.eval sl=v) (hx:a.eval x=xv)
  (hv:kQ U w v s) (h0:s2≠[]) (hsrc:Go.Src P 1 u xv s2.length (ef s2) w) (hle:s.length+s2.length≤1099511627776)
  (h:∀g' t' w',kQ U w' (.slice (some ⟨g',0,none⟩) (s++s2).length t') (s++s2)→w.grownBy w' v.ownBlock→(v.ownBlock=some g'∨w.heap.size≤g')→g'<w'.heap.size→wpList P ops Q rest (a.put o.dst (.slice (some ⟨g',0,none⟩) (s++s2).length t')) w'):wpList P ops Q (o::rest) a w:=by
 refine wpList_plain hgd fun K hK=>?_
 obtain⟨g',t',w',hr,h2,h3,h4,h5⟩:=IW (P:=P) (ty:=o.type) ht hi hz hsz hby hv h0 hsrc hle;unfold Oper.wp execOp;simp only[ho,resolve,invoke,builtin,Sem.run_bind,Sem.run_pure,Result.andThen_ok,List.map_toArray,List.map_cons,List.map_nil,hs,hx,hr];exact hK _ _ (h g' t' w' h2 h3 h4 h5)
def B1 (w:World)(g n:Nat):(w.drew.freeze ⟨g,0,none⟩ n).os=w.os∧(w.drew.freeze ⟨g,0,none⟩ n).tape=w.tape∧(w.drew.freeze ⟨g,0,none⟩ n).output=w.output∧(w.drew.freeze ⟨g,0,none⟩ n).heap.size=w.heap.size∧∀k,k≠g→(w.drew.freeze ⟨g,0,none⟩ n).heap[k]? =w.heap[k]? :=by
 unfold World.freeze;split
 ·exact⟨rfl,rfl,rfl,rfl,fun _ _=>rfl⟩
 ·refine⟨rfl,rfl,rfl,by simp,fun k hk=>?_⟩;simp only[Array.getElem?_modify];rw[if_neg (fun e=>hk e.symm)];rfl
def pL (b:Nat)(u:Bool)(v:Value)(T:TypeId):Obj:=.cells #[.pointer (if u=true then some ⟨b,0,none⟩else none),v] T (0,0)
variable {ρ:Ren}
def xj (L:Lays.n240 P ρ)(X:Builder.X72 P ρ){b:Nat}{u:Bool}{v:Value}{w:World}(h:w.heap[b]? =some (pL b u v (ρ.t 72))):
  Calls P (ρ.f 240) #[.pointer (some ⟨b,0,none⟩)] w fun e w'=>e=.returned (.tuple #[])∧w'.heap[b]? =some (pL b true v (ρ.t 72))∧w.grownBy w' (some b):=by
 unfold pL at h;cases u with
 |true=>
  refine(Any.Builder_copyCheck_used L X b w (by rw[Lib.cell_of_heap h];rfl)).mono ?_;rintro e w' ⟨rfl,rfl⟩;exact⟨rfl,h,⟨rfl,rfl,rfl,Nat.le_refl _,fun _ _ _=>rfl⟩⟩
 |false=>
  refine(Any.Builder_copyCheck_fresh L X b w (by rw[Lib.cell_of_heap h];rfl) (by simp[World.shape?,h]) (Lib.frozen_of_heap h 0)).mono ?_;rintro e w' ⟨rfl,rfl⟩;exact⟨rfl,by simp[World.setCell,Array.getElem?_modify,h,pL],⟨rfl,rfl,rfl,by simp[World.setCell],fun k _ hk=>Below.heap_setCell _ _ _ _ (fun e=>hk (by simp[e]))⟩⟩
def zS (T U:TypeId)(b:Nat)(g:Option Nat)(s:List UInt8)(w w':World):Prop:=
 ∃g' t',w'.heap[b]? =some (pL b true (.slice (some ⟨g',0,none⟩) s.length t') T)∧kQ U w' (.slice (some ⟨g',0,none⟩) s.length t') s∧(g=some g'∨w.heap.size≤g')∧g'<w'.heap.size∧g'≠b∧
  w'.os=w.os∧w'.tape=w.tape∧w'.output=w.output∧w.heap.size≤w'.heap.size∧∀k,k<w.heap.size→k≠b→some k≠g→w'.heap[k]? =w.heap[k]?
def kQ.ny {U:TypeId}{w w':World}{v:Value}{s:List UInt8}(h:kQ U w v s)(hk:∀g,v.ownBlock=some g→w'.heap[g]? =w.heap[g]?):kQ U w' v s:=by
 rcases h with h|⟨g,t,c,rfl,hg,r⟩
 ·exact .inl h
 ·exact .inr ⟨g,t,c,rfl,(hk g rfl).trans hg,r⟩
def kQ.lt {U:TypeId}{w:World}{v:Value}{s:List UInt8}(h:kQ U w v s){g:Nat}(hg:v.ownBlock=some g):g<w.heap.size∧∃c,w.heap[g]? =some (.cells c U (0,0)):=by
 rcases h with⟨rfl,_⟩|⟨g',t,c,rfl,hg',r⟩
 ·cases hg
 ·simp only[Value.ownBlock,Option.some.injEq]at hg;subst hg;refine⟨?_,c,hg'⟩;rcases Nat.lt_or_ge g' w.heap.size with h|h
  ·exact h
  ·simp[Array.getElem?_eq_none h]at hg'
set_option maxHeartbeats 2000000 in
set_option maxRecDepth 100000 in
theorem tx (L:Lays.n166 P ρ)(X:Builder.Extra P ρ){b:Nat}{u:Bool}{v:Value}{s s2:List UInt8}{w:World}(h:w.heap[b]? =some (pL b u v (ρ.t 72)))(hv:kQ (ρ.t 5) w v s)(h0:s2≠[])(hm2:s2.length≤maxLen)(hle:s.length+s2.length≤1099511627776):
  Calls P (ρ.f 166) #[.pointer (some ⟨b,0,none⟩),.string ⟨⟨s2⟩⟩] w fun e w'=>(∃r,e=.returned r)∧zS (ρ.t 72) (ρ.t 5) b v.ownBlock (s++s2) w w':=by
 obtain⟨i0,hi,hz0,hz1,hz2⟩:=info_parts X.infoByte;have mixed:=L.mixed;have t72:=L.t72;have a72:=L.a72;have z72:=L.z72;have v72:=L.v72;have u72:=run_underlying L.t72;have t70:=L.t70;have a70:=L.a70;have z70:=L.z70;have v70:=L.v70;have u70:=run_underlying L.t70;have t37:=L.t37;have a37:=L.a37;have z37:=L.z37;have v37:=L.v37;have u37:=run_underlying L.t37;have t3:=L.t3;have a3:=L.a3;have z3:=L.z3;have v3:=L.v3;have u3:=run_underlying L.t3;have t9:=L.t9;have a9:=L.a9;have z9:=L.z9;have v9:=L.v9;have u9:=run_underlying L.t9;have t4:=L.t4;have a4:=L.a4;have z4:=L.z4;have v4:=L.v4;have u4:=run_underlying L.t4;have t164:=L.t164;have a164:=L.a164;have z164:=L.z164;have v164:=L.v164;have u164:=run_underlying L.t164;have t5:=X.t5;have a5:=X.a5;have z5:=X.z5;have v5:=X.v5;have u5:=run_underlying X.t5;have e240:∀args w,(callFunc (ρ.f 240) args).run P w=.ok (.enter (ρ.f 240) args) w:=enters_of L.f240 (by kernel_rfl) rfl
 have hne:∀g,v.ownBlock=some g→g≠b:=by
  rintro g hg rfl;obtain⟨_,c,hc⟩:=hv.lt hg;rw[h]at hc;simp only[pL,Option.some.injEq,Obj.cells.injEq]at hc;exact X.neB5 hc.2.1
 go_enter L.f166,Body.n166_ntmps ρ
 go_wp2_with (go_at_fn (ρ.f 240);refine(xj {L with} X.toX72 h).mono ?_)
 rintro e w1 ⟨rfl,h1,hb1⟩;have hv1:kQ (ρ.t 5) w1 v s:=hv.ny fun g hg=>hb1.block g (hv.lt hg).1 (fun e=>hne g hg (Option.some.inj e))
 have c0:w1.cell? ⟨b,0,none⟩=some (.pointer (some ⟨b,0,none⟩)):=by rw[Lib.cell_of_heap h1];rfl
 have c1:w1.cell? ⟨b,1,none⟩=some v:=by rw[Lib.cell_of_heap h1];rfl
 have hsrc:Go.Src P 1 (ρ.t 9) (.string ⟨⟨s2⟩⟩) s2.length (ef s2) w1:=⟨.inr L.t9,fun _=>rfl,firstCells_string _ _,firstCells_string _ _,by rw[fY,Nat.mul_one],uC s2⟩;have key:=fun ops rest o a Q hgd ho hs hx h=>wz (P:=P) (ops:=ops) (rest:=rest) (o:=o) (a:=a) (Q:=Q) hgd (.tmp 12) (.tmp 13) (ρ.t 37) (ρ.t 9) ho L.t37 hi hz0 hz1 hz2 (v:=v) (xv:=.string ⟨⟨s2⟩⟩) hs hx hv1 h0 hsrc hle h
 go_wp2_with (at_builtin;refine key _ _ _ _ _ rfl rfl rfl rfl ?_)
 clear key;intro g' t' w2 hown' hgrow hg' hlt';have hlt:b<w1.heap.size:=by
  rcases Nat.lt_or_ge b w1.heap.size with h'|h'
  ·exact h'
  ·simp[Array.getElem?_eq_none h']at h1
 have gQ:w2.heap[b]? =some (pL b true v (ρ.t 72)):=by
  rw[hgrow.block b hlt (fun e=>hne b e.symm rfl)];exact h1
 have hgb:g'≠b:=by
  rcases hg' with h'|h'
  ·exact hne g' h'
  ·omega
 have d0:w2.cell? ⟨b,0,none⟩=some (.pointer (some ⟨b,0,none⟩)):=by rw[Lib.cell_of_heap gQ];rfl
 have d1:w2.cell? ⟨b,1,none⟩=some v:=by rw[Lib.cell_of_heap gQ];rfl
 have f1:w2.frozen? ⟨b,1,none⟩=false:=Lib.frozen_of_heap gQ 1
 go_wp2
 go_ret2
 have hsz:=hb1.size;refine⟨⟨_,rfl⟩, ?_⟩;unfold zS;simp only[List.length_append]at hown'⊢;refine⟨g',t',by simp[World.setCell,Array.getElem?_modify,gQ,pL],hown'.ny fun g hg=>Below.heap_setCell w2 ⟨b,1,none⟩ _ g (fun e=>hgb ((Option.some.inj hg).trans e)),hg'.imp id (fun h=>by omega),by simpa[World.setCell]using hlt',hgb,hgrow.os.trans hb1.os,hgrow.tape.trans hb1.tape,hgrow.output.trans hb1.output,by have:=hgrow.size;simp[World.setCell];omega,fun k hk h1' h2'=>?_⟩;rw[Below.heap_setCell w2 ⟨b,1,none⟩ _ k h1',hgrow.block k (by omega) h2',hb1.block k hk (fun e=>h1' (Option.some.inj e))]
set_option maxHeartbeats 2000000 in
set_option maxRecDepth 100000 in
theorem wJ (L:Lays.n167 P ρ)(X:Builder.Extra P ρ){b:Nat}{u:Bool}{v:Value}{s:List UInt8}{c:UInt8}{w:World}(h:w.heap[b]? =some (pL b u v (ρ.t 72)))(hv:kQ (ρ.t 5) w v s)(hle:s.length+1≤1099511627776):
  Calls P (ρ.f 167) #[.pointer (some ⟨b,0,none⟩),.int .u8 c.toNat] w fun e w'=>(∃r,e=.returned r)∧zS (ρ.t 72) (ρ.t 5) b v.ownBlock (s++[c]) w w':=by
 obtain⟨i0,hi,hz0,hz1,hz2⟩:=info_parts X.infoByte;have mixed:=L.mixed;have t72:=L.t72;have a72:=L.a72;have z72:=L.z72;have v72:=L.v72;have u72:=run_underlying L.t72;have t70:=L.t70;have a70:=L.a70;have z70:=L.z70;have v70:=L.v70;have u70:=run_underlying L.t70;have t37:=L.t37;have a37:=L.a37;have z37:=L.z37;have v37:=L.v37;have u37:=run_underlying L.t37;have t9:=L.t9;have a9:=L.a9;have z9:=L.z9;have v9:=L.v9;have u9:=run_underlying L.t9;have t4:=L.t4;have a4:=L.a4;have z4:=L.z4;have v4:=L.v4;have u4:=run_underlying L.t4;have t164:=L.t164;have a164:=L.a164;have z164:=L.z164;have v164:=L.v164;have u164:=run_underlying L.t164;have t5:=L.t5;have a5:=L.a5;have z5:=L.z5;have v5:=L.v5;have u5:=run_underlying L.t5;have e240:∀args w,(callFunc (ρ.f 240) args).run P w=.ok (.enter (ρ.f 240) args) w:=enters_of L.f240 (by kernel_rfl) rfl
 have hne:∀g,v.ownBlock=some g→g≠b:=by
  rintro g hg rfl;obtain⟨_,c,hc⟩:=hv.lt hg;rw[h]at hc;simp only[pL,Option.some.injEq,Obj.cells.injEq]at hc;exact X.neB5 hc.2.1
 go_enter L.f167,Body.n167_ntmps ρ
 go_wp2_with (go_at_fn (ρ.f 240);refine(xj {L with} X.toX72 h).mono ?_)
 rintro e w1 ⟨rfl,h1,hb1⟩;have hv1:kQ (ρ.t 5) w1 v s:=hv.ny fun g hg=>hb1.block g (hv.lt hg).1 (fun e=>hne g hg (Option.some.inj e))
 have c0:w1.cell? ⟨b,0,none⟩=some (.pointer (some ⟨b,0,none⟩)):=by rw[Lib.cell_of_heap h1];rfl
 have c1:w1.cell? ⟨b,1,none⟩=some v:=by rw[Lib.cell_of_heap h1];rfl
 have key:=fun ob ops rest o a Q sl x hgd ho hs hx hv2 hsrc h=>wz (P:=P) (w:=w1.alloc ob) (ops:=ops) (rest:=rest) (o:=o) (a:=a) (Q:=Q) hgd sl x (ρ.t 37) (ρ.t 37) ho L.t37 hi hz0 hz1 hz2 (v:=v) (xv:=.slice (some ⟨w1.heap.size,0,none⟩) 1 1) (s:=s) (s2:=[c]) hs hx hv2 (List.cons_ne_nil _ _) hsrc hle h
 go_wp2_with (at_builtin;refine key _ _ _ _ _ _ _ _ rfl rfl rfl rfl (hv1.ny fun g hg=>Lib.alloc_old w1 _ g (hv1.lt hg).1) ?hs ?_)
 case hs=>
  refine Go.Src.ofSlice _ L.t37 ⟨w1.heap.size,0,none⟩ 1 1 _ rfl (fun j u hj=>?_) (uC [c])
  match j,hj with
  |0,hj=>simp[ef]at hj;subst hj;simp[Addr.add]
 clear key;intro g' t' w2 hown' hgrow hg' hlt';have hlt:b<w1.heap.size:=by
  rcases Nat.lt_or_ge b w1.heap.size with h'|h'
  ·exact h'
  ·simp[Array.getElem?_eq_none h']at h1
 have gQ:w2.heap[b]? =some (pL b true v (ρ.t 72)):=by
  rw[hgrow.block b (by simp;omega) (fun e=>hne b e.symm rfl),Lib.alloc_old w1 _ b hlt];exact h1
 have hgb:g'≠b:=by
  rcases hg' with h'|h'
  ·exact hne g' h'
  ·omega
 have d0:w2.cell? ⟨b,0,none⟩=some (.pointer (some ⟨b,0,none⟩)):=by rw[Lib.cell_of_heap gQ];rfl
 have d1:w2.cell? ⟨b,1,none⟩=some v:=by rw[Lib.cell_of_heap gQ];rfl
 have f1:w2.frozen? ⟨b,1,none⟩=false:=Lib.frozen_of_heap gQ 1
 go_wp2
 go_ret
 have hsz:=hb1.size;refine⟨⟨_,rfl⟩, ?_⟩;unfold zS;simp only[List.length_append]at hown'⊢;refine⟨g',t',by simp[World.setCell,Array.getElem?_modify,gQ,pL],hown'.ny fun g hg=>Below.heap_setCell w2 ⟨b,1,none⟩ _ g (fun e=>hgb ((Option.some.inj hg).trans e)),hg'.imp id (fun h=>by omega),by simpa[World.setCell]using hlt',hgb,hgrow.os.trans hb1.os,hgrow.tape.trans hb1.tape,hgrow.output.trans hb1.output,by have:=hgrow.size;simp at this;simp[World.setCell];omega,fun k hk h1' h2'=>?_⟩;rw[Below.heap_setCell w2 ⟨b,1,none⟩ _ k h1',hgrow.block k (by simp;omega) h2',Lib.alloc_old w1 _ k (by omega),hb1.block k hk (fun e=>h1' (Option.some.inj e))]
set_option maxHeartbeats 1000000 in
set_option maxRecDepth 100000 in
theorem BT (L:Lays.n169 P ρ)(X:Builder.Extra P ρ){b g t:Nat}{u:Bool}{s:List UInt8}{w:World}(h:w.heap[b]? =some (pL b u (.slice (some ⟨g,0,none⟩) s.length t) (ρ.t 72)))(hv:kQ (ρ.t 5) w (.slice (some ⟨g,0,none⟩) s.length t) s)(h0:s≠[]):
  Calls P (ρ.f 169) #[.pointer (some ⟨b,0,none⟩)] w fun e w'=>e=.returned (.string ⟨⟨s⟩⟩)∧w'.os=w.os∧w'.tape=w.tape∧w'.output=w.output∧w'.heap.size=w.heap.size∧∀k,k≠g→w'.heap[k]? =w.heap[k]? :=by
 have hl0:s.length≠0:=by simpa using h0
 obtain⟨c,hg,hcs,hcm,hle,hc⟩:∃c,w.heap[g]? =some (.cells c (ρ.t 5) (0,0))∧c.size=t∧t≤maxLen∧s.length≤t∧∀i,i<s.length→c.getD i undef=.int .u8 (s.getD i 0).toNat:=by
  rcases hv with⟨h1,_⟩|⟨g',t',c,h1,r⟩
  ·cases h1
  ·simp only[Value.slice.injEq,Option.some.injEq,Addr.mk.injEq]at h1;obtain⟨⟨rfl,_⟩,_,rfl⟩:=h1;exact⟨c,r⟩
 have c1:w.drew.cell? ⟨b,1,none⟩=some (.slice (some ⟨g,0,none⟩) s.length t):=by
  have:w.drew.heap[b]? =some (pL b u (.slice (some ⟨g,0,none⟩) s.length t) (ρ.t 72)):=h;rw[Lib.cell_of_heap this];rfl
 have hSD:(Builtin.unsafeSliceData_ #[(ρ.t 37)] (ρ.t 127) #[.slice (some ⟨g,0,none⟩) s.length t]).run P w.drew=.ok (.pointer (some ⟨g,0,none⟩)) w.drew:=
  Lib.run_unsafeSliceData_row _ _ _ _ _ _ (by omega)
 have hUS:(Builtin.unsafeString_ #[(ρ.t 127),(ρ.t 3)] (ρ.t 9) #[.pointer (some ⟨g,0,none⟩),.int .i64 s.length]).run P w.drew=.ok (.string ⟨s.toArray⟩) (w.drew.freeze ⟨g,0,none⟩ s.length):=by
  refine Lib.run_unsafeString_row w.drew (ρ.t 127) (ρ.t 3) (ρ.t 9) (ρ.t 5) L.t127 X.cellsByte g c.size (by have hg':w.drew.heap[g]? =some (.cells c (ρ.t 5) (0,0)):=hg;simp[World.shape?,hg']) s h0 (by omega) (by unfold maxLen at hcm;omega) ?_;intro j x hx;have hj:=(List.getElem?_eq_some_iff.1 hx).1;have hg':w.drew.heap[g]? =some (.cells c (ρ.t 5) (0,0)):=hg;rw[Addr.tw,cell_of_heap hg' (by omega),Nat.zero_add,hc j hj];simp[List.getD,hx]
 have mixed:=L.mixed;have t72:=L.t72;have a72:=L.a72;have z72:=L.z72;have v72:=L.v72;have u72:=run_underlying L.t72;have t70:=L.t70;have a70:=L.a70;have z70:=L.z70;have v70:=L.v70;have u70:=run_underlying L.t70;have t37:=L.t37;have a37:=L.a37;have z37:=L.z37;have v37:=L.v37;have u37:=run_underlying L.t37;have t127:=L.t127;have a127:=L.a127;have z127:=L.z127;have v127:=L.v127;have u127:=run_underlying L.t127;have t3:=L.t3;have a3:=L.a3;have z3:=L.z3;have v3:=L.v3;have u3:=run_underlying L.t3;have t9:=L.t9;have a9:=L.a9;have z9:=L.z9;have v9:=L.v9;have u9:=run_underlying L.t9;have t5:=X.t5;have a5:=X.a5;have z5:=X.z5;have v5:=X.v5;have u5:=run_underlying X.t5
 go_enter L.f169,Body.n169_ntmps ρ
 go_wp2
 go_region_o
 all_goals (go_wp2;go_ret;exact⟨rfl,B1 _ _ _⟩)
end
end Go.Abs
end
section
namespace Go.Abs
open Go.Proofs Go.Shelf Go.RowKit
section
variable [cz] {P:Program} {ν:List (Nat×Nat)} {b9:List Nat} {Γ:Ctx} {x:X}
def BS {m:List (Nat×bo)}{l:Nat}{t:List UInt8}{v:Value}(hs:ey ν x (look m))(hb:pQ m l t)(hv:RD ν x v (.ptr l 2 0 0)):
  ∃b tot u w,v=.pointer (some ⟨b,0,none⟩)∧x.β l=some (b,0,tot)∧¬x.I b∧x.w.heap[b]? =some (pL b u w cz.tB)∧kQ cz.tU x.w w t∧
   (w.ownBlock=none∧eA m l=m∨∃l2 g t2,w=.slice (some ⟨g,0,none⟩) t.length t2∧x.β l2=some (g,0,t2)∧¬x.I g∧look m l2=some (.row t)∧l2≠l∧eA m l=bS m l2):=by
 cases hv with
 |ptr _ _ _ _ b base tot at_ hβ hat=>
  rcases hb with⟨u,h1,rfl⟩|⟨l2,u,h1,h2⟩
  ·obtain⟨o1,rfl,w,o2,_,rfl⟩:=hs.own l _ b base tot h1 hβ;simp only[Nat.zero_mul,Nat.add_zero]at hat;subst hat;exact⟨b,tot,u,_,rfl,hβ,o1,o2,.inl ⟨rfl,rfl⟩,.inl ⟨rfl,by simp only[eA,h1]⟩⟩
  ·obtain⟨o1,rfl,w,o2,g,t2,rfl,o3,o4⟩:=hs.own l _ b base tot h1 hβ;simp only[Nat.zero_mul,Nat.add_zero]at hat;subst hat;obtain⟨p1,_,c,p2,p3,p4,p5,p6⟩:=hs.own l2 _ g 0 t2 h2 o4;have hne:l2≠l:=by rintro rfl;rw[h1]at h2;cases h2
   exact⟨b,tot,u,_,rfl,hβ,o1,o2,.inr ⟨g,t2,c,rfl,p2,p3,p4,p5,p6⟩,.inr ⟨l2,g,t2,rfl,o4,p1,h2,hne,by simp only[eA,h1]⟩⟩
def yo {st:St}{l:Nat}{t s:List UInt8}{b tot:Nat}{w:Value}{w':World}(hs:ey ν x (look st.m))(hf:er st x)(hlive:look st.m l≠none)(hl:l<st.nx)
  (hβ:x.β l=some (b,0,tot)) (hI:¬x.I b)
  (hrow:w.ownBlock=none∧eA st.m l=st.m∨∃l2 g t2,w=.slice (some ⟨g,0,none⟩) t.length t2∧x.β l2=some (g,0,t2)∧¬x.I g∧look st.m l2=some (.row t)∧l2≠l∧eA st.m l=bS st.m l2)
  (hw:zS cz.tB cz.tU b w.ownBlock s x.w w'):
  ∃x':X,x'.w=w'∧Step x x'∧ey ν x' (look (od st.m l st.nx s))∧er ⟨st.nx+1,od st.m l st.nx s⟩ x':=by
 obtain⟨g',t',h1,h2,h3,h4,h5,k1,k2,k3,k4,k5⟩:=hw;have hn:=hf.β st.nx (Nat.le_refl _)

 have hg:∀g,w.ownBlock=some g→∃l2 t2,x.β l2=some (g,0,t2)∧¬x.I g∧look st.m l2=some (.row t)∧l2≠l∧eA st.m l=bS st.m l2:=by
  intro g hg;rcases hrow with⟨h,_⟩|⟨l2,g0,t2,rfl,q⟩
  ·rw[h]at hg;cases hg
  ·obtain rfl:=Option.some.inj hg;exact⟨l2,t2,q⟩
 have hlook:∀l' blk,l'≠l→look (eA st.m l) l'=some blk→look st.m l'=some blk∧∀g,w.ownBlock=some g→∀p,x.β l'=some p→p.1≠g:=by
  intro l' blk hl' hk;rcases hrow with⟨h,e⟩|⟨l2,g0,t2,rfl,q1,q2,q3,q4,e⟩
  ·rw[e]at hk;exact⟨hk,fun g hg=>by rw[h]at hg;cases hg⟩
  ·rw[e,eD]at hk;split at hk
   ·cases hk
   ·rename_i hne;refine⟨hk,fun g hg p hp e=>?_⟩;obtain rfl:=Option.some.inj hg;obtain⟨b',base',tot'⟩:=p;simp only at e;subst e;exact hne (hs.inj l' l2 _ _ _ _ _ (by rw[hk];simp) (by rw[q3];simp) hp q1)
 have hbg:∀l' p,x.β l'=some p→p.1<x.w.heap.size:=fun l' ⟨b',base',tot'⟩ hp=>hs.dE l' b' base' tot' hp
 have hkeep:∀k,k<x.w.heap.size→k≠b→some k≠w.ownBlock→w'.heap[k]? =x.w.heap[k]? :=k5
 let x':X:=⟨w',x.I,dm x.β st.nx (g',0,t')⟩
 have hst:Step x x':=by
  refine⟨k1,k2,k3,k4,fun _ h=>h,fun k hk=>hkeep k (hs.imm k hk) (fun e=>hI (e▸hk)) (fun e=>?_),fun l' p hp=>?_,fun k hk hn'=>hkeep k hk (fun e=>hn' l _ hβ e.symm) (fun e=>?_),fun _ h=>.inl h,fun l' p hp=>?_⟩
  ·obtain⟨l2,t2,q1,q2,_⟩:=hg k e.symm;exact q2 hk
  ·have:l'≠st.nx:=fun e=>by rw[e,hn]at hp;cases hp
   simp[x',dm,this,hp]
  ·obtain⟨l2,t2,q1,_⟩:=hg k e.symm;exact hn' l2 _ q1 rfl
  ·by_cases e1:l'=st.nx
   ·simp only[x',dm,e1,if_true,Option.some.injEq]at hp;subst hp;rcases h3 with h3|h3
    ·obtain⟨l2,t2,q1,_⟩:=hg g' h3;exact .inr (.inr ⟨l2,_,q1,rfl⟩)
    ·exact .inr (.inl h3)
   ·simp only[x',dm,e1,if_false]at hp;exact .inl hp
 have hle:=hst.le;have hlm:∀l',look (od st.m l st.nx s) l'=if l'=st.nx then some (.row s)else if l'=l then some (.bld (some st.nx) s.length true)else look (eA st.m l) l':=by
  intro l';simp only[od,look];by_cases e:l'=st.nx
  ·rw[if_pos e.symm,if_pos e]
  ·rw[if_neg (fun h=>e h.symm),if_neg e,bP]
 have hfr:∀l' p,l'≠st.nx→x.β l'=some p→l'≠l→look (eA st.m l) l'≠none→p.1≠g':=by
  intro l' p hl' hp hne hk e;cases hq:look (eA st.m l) l' with
  |none=>exact hk hq
  |some blk=>
   rcases h3 with h3|h3
   ·exact(hlook l' blk hne hq).2 g' h3 p hp e
   ·have:=hbg l' p hp;omega
 refine⟨x',rfl,hst,⟨fun l' blk b' base' tot' e1 e2=>?_,fun l1 l2 b' base1 tot1 base2 tot2 e1 e2 e3 e4=>?_,fun k hk=>Nat.lt_of_lt_of_le (hs.imm k hk) k4,fun l' b' base' tot' e=>?_,ox hle hs.gd⟩,⟨fun l' hl'=>?_,fun l' hl'=>?_⟩⟩
 ·rw[hlm]at e1;by_cases c1:l'=st.nx
  ·rw[if_pos c1]at e1;simp only[x',dm,if_pos c1,Option.some.injEq,Prod.mk.injEq]at e2;obtain⟨rfl,rfl,rfl⟩:=e2;obtain rfl:=Option.some.inj e1;refine⟨fun h=>?_,rfl, ?_⟩
   ·rcases h3 with h3|h3
    ·obtain⟨l2,t2,_,q2,_⟩:=hg g' h3;exact q2 h
    ·have:=hs.imm g' h;omega
   ·rcases h2 with⟨h2,_⟩|⟨g2,t2,c,h2,r⟩
    ·cases h2
    ·simp only[Value.slice.injEq,Option.some.injEq,Addr.mk.injEq]at h2;obtain⟨⟨rfl,_⟩,_,rfl⟩:=h2;exact⟨c,r⟩
  ·rw[if_neg c1]at e1;simp only[x',dm,if_neg c1]at e2;by_cases c2:l'=l
   ·subst c2;rw[if_pos rfl]at e1;rw[hβ]at e2;simp only[Option.some.injEq,Prod.mk.injEq]at e2;obtain⟨rfl,rfl,rfl⟩:=e2;obtain rfl:=Option.some.inj e1;refine⟨hI,rfl,_,h1,g',t',rfl, ?_,by simp[x',dm]⟩;rcases h2 with⟨h2,_⟩|⟨g2,t2,c,h2,_,_,_,r,_⟩
    ·cases h2
    ·simp only[Value.slice.injEq]at h2;obtain⟨_,_,rfl⟩:=h2;exact r
   ·rw[if_neg c2]at e1;obtain⟨q1,q2⟩:=hlook l' blk c2 e1;obtain⟨o1,o2⟩:=hs.own l' blk b' base' tot' q1 e2;refine⟨o1,o2.mono hle (hkeep b' (hs.dE _ _ _ _ e2) (fun e=>?_) (fun e=>q2 b' e.symm _ e2 rfl))⟩;subst e;exact c2 (hs.inj l' l _ _ _ _ _ (by rw[q1];simp) hlive e2 hβ)
 ·rw[hlm]at e1 e2;by_cases c1:l1=st.nx
  ·by_cases c2:l2=st.nx
   ·rw[c1,c2]
   ·exfalso;rw[if_neg c2]at e2;simp only[x',dm,if_pos c1,Option.some.injEq,Prod.mk.injEq]at e3;simp only[x',dm,if_neg c2]at e4;obtain⟨rfl,_⟩:=e3;by_cases c3:l2=l
    ·subst c3;rw[hβ]at e4;simp only[Option.some.injEq,Prod.mk.injEq]at e4;exact h5 e4.1.symm
    ·rw[if_neg c3]at e2;exact hfr l2 _ c2 e4 c3 e2 rfl
  ·rw[if_neg c1]at e1;simp only[x',dm,if_neg c1]at e3;by_cases c2:l2=st.nx
   ·exfalso;simp only[x',dm,if_pos c2,Option.some.injEq,Prod.mk.injEq]at e4;obtain⟨rfl,_⟩:=e4;by_cases c3:l1=l
    ·subst c3;rw[hβ]at e3;simp only[Option.some.injEq,Prod.mk.injEq]at e3;exact h5 e3.1.symm
    ·rw[if_neg c3]at e1;exact hfr l1 _ c1 e3 c3 e1 rfl
   ·rw[if_neg c2]at e2;simp only[x',dm,if_neg c2]at e4;have live:∀l',(if l'=l then some (bo.bld (some st.nx) s.length true)else look (eA st.m l) l')≠none→look st.m l'≠none:=by
     intro l' h;by_cases c:l'=l
     ·rw[c];exact hlive
     ·rw[if_neg c]at h;cases hq:look (eA st.m l) l' with
      |none=>exact absurd hq h
      |some blk=>rw[(hlook l' blk c hq).1];simp
    exact hs.inj l1 l2 b' base1 tot1 base2 tot2 (live l1 e1) (live l2 e2) e3 e4
 ·by_cases c1:l'=st.nx
  ·simp only[x',dm,if_pos c1,Option.some.injEq,Prod.mk.injEq]at e;obtain⟨rfl,_⟩:=e;exact h4
  ·simp only[x',dm,if_neg c1]at e;exact Nat.lt_of_lt_of_le (hs.dE _ _ _ _ e) k4
 ·have hl':st.nx+1≤l':=hl';simp only[x',dm,if_neg (show ¬l'=st.nx by omega)];exact hf.β l' (by omega)
 ·show l'<st.nx+1;simp only[hlm]at hl';by_cases c1:l'=st.nx
  ·omega
  ·rw[if_neg c1]at hl';by_cases c2:l'=l
   ·omega
   ·rw[if_neg c2]at hl';cases hq:look (eA st.m l) l' with
    |none=>exact absurd hq hl'
    |some blk=>have:=hf.m l' (by rw[(hlook l' blk c2 hq).1];simp);omega
def pQ.live {m:List (Nat×bo)}{l:Nat}{t:List UInt8}(h:pQ m l t):look m l≠none:=by
 rcases h with⟨u,h,_⟩|⟨l2,u,h,_⟩<;>rw[h]<;>simp
variable {ρ:Ren}
def Ga {args:Array Value}(h:args.size=2):args=#[args.getD 0 undef,args.getD 1 undef]:=by
 apply Array.ext
 ·simpa using h
 ·intro i h1 h2
  match i,h1 with
  |0,h1=>simp[Array.getD,h1]
  |1,h1=>simp[Array.getD,h1]
  |i+2,h1=>omega
def LN {args:Array Value}(h:args.size=1):args=#[args.getD 0 undef]:=by
 apply Array.ext
 ·simpa using h
 ·intro i h1 h2
  match i,h1 with
  |0,h1=>simp[Array.getD,h1]
  |i+1,h1=>omega
def Jf (hB:cz.tB=ρ.t 72)(hU:cz.tU=ρ.t 5)(L:Lays.n166 P ρ)(X':Builder.Extra P ρ)(hen:∀args w,(callFunc (ρ.f 166) args).run P w=.ok (.enter (ρ.f 166) args) w):F6 P ν Γ b9 Qp (ρ.f 166):=by
 rintro ds st K ⟨s,l,t,rfl,hb,hl,h0,hle,hK⟩ hok x args hl2 hargs hs hf;obtain⟨b,tot,u,w,e0,hβ,hI,hh,hv,hrow⟩:=BS hs hb (hargs 0 (by simp));have h1:=hargs 1 (by simp);simp only[List.getD_cons_succ,List.getD_cons_zero]at h1;obtain⟨e1,hm⟩:=h1.im;rw[hB]at hh;rw[hU]at hv;refine .inr ⟨ρ.f 166,args,hen args x.w, ?_⟩;rw[Ga (args:=args) (by simpa using hl2),e0,e1];refine(tx L X' hh hv h0 hm hle).mono ?_;rintro e w' ⟨⟨r,rfl⟩,hw⟩;rw[←hB,←hU]at hw;obtain⟨x',q1,q2,q3,q4⟩:=yo hs hf hb.live hl hβ hI hrow hw;exact⟨x',q1,.any,_,hK,q2,.any _,q3,q4⟩
def Je (hB:cz.tB=ρ.t 72)(hU:cz.tU=ρ.t 5)(L:Lays.n167 P ρ)(X':Builder.Extra P ρ)(hen:∀args w,(callFunc (ρ.f 167) args).run P w=.ok (.enter (ρ.f 167) args) w):F6 P ν Γ b9 Qo (ρ.f 167):=by
 rintro ds st K ⟨c,l,t,rfl,hb,hl,h0,hle,hK⟩ hok x args hl2 hargs hs hf;obtain⟨b,tot,u,w,e0,hβ,hI,hh,hv,hrow⟩:=BS hs hb (hargs 0 (by simp));have h1:=hargs 1 (by simp);simp only[List.getD_cons_succ,List.getD_cons_zero]at h1;have e1:=h1.cU;rw[hB]at hh;rw[hU]at hv;refine .inr ⟨ρ.f 167,args,hen args x.w, ?_⟩;rw[Ga (args:=args) (by simpa using hl2),e0,e1];refine(wJ L X' hh hv hle).mono ?_;rintro e w' ⟨⟨r,rfl⟩,hw⟩;rw[←hB,←hU]at hw;obtain⟨x',q1,q2,q3,q4⟩:=yo hs hf hb.live hl hβ hI hrow hw;exact⟨x',q1,.any,_,hK,q2,.any _,q3,q4⟩
def Jd (hB:cz.tB=ρ.t 72)(hU:cz.tU=ρ.t 5)(L:Lays.n169 P ρ)(X':Builder.Extra P ρ)(hen:∀args w,(callFunc (ρ.f 169) args).run P w=.ok (.enter (ρ.f 169) args) w):F6 P ν Γ b9 Qn (ρ.f 169):=by
 rintro ds st K ⟨l,t,rfl,hb,h0,hK⟩ hok x args hl2 hargs hs hf;obtain⟨b,tot,u,w,e0,hβ,hI,hh,hv,hrow⟩:=BS hs hb (hargs 0 (by simp));rcases hrow with⟨hn,_⟩|⟨l2,g,t2,rfl,q1,q2,q3,q4,q5⟩
 ·exfalso;rcases hv with⟨_,h⟩|⟨g,t',c,rfl,_⟩
  ·exact h0 h
  ·cases hn
 rw[hB]at hh;rw[hU]at hv;have htm:t.length≤maxLen:=by
  rcases hv with⟨_,rfl⟩|⟨g',t',c,h1,_,_,h4,h5,_⟩
  ·exact absurd rfl h0
  ·omega
 refine .inr ⟨ρ.f 169,args,hen args x.w, ?_⟩;rw[LN (args:=args) (by simpa using hl2),e0];refine(BT L X' hh hv h0).mono ?_;rintro e w' ⟨rfl,k1,k2,k3,k4,k5⟩;have hkeep:∀k,(∀l' p,look (bS (eA st.m l) l) l'≠none→x.β l'=some p→p.1=k→False)→True:=fun _ _=>trivial
 have hst:Step x ⟨w',x.I,x.β⟩:=⟨k1,k2,k3,Nat.le_of_eq k4.symm,fun _ h=>h,fun k hk=>k5 k (fun e=>q2 (e▸hk)),fun _ _ h=>h,fun k hk hn=>k5 k (fun e=>hn l2 _ q1 e.symm),fun _ h=>.inl h,fun _ _ h=>.inl h⟩;have hlm:∀l',look (bS (eA st.m l) l) l'=if l'=l then none else if l'=l2 then none else look st.m l':=fun l'=>by rw[eD,q5,eD]
 refine⟨⟨w',x.I,x.β⟩,rfl,.str t,_,hK,hst,.str t htm,⟨fun l' blk b' base' tot' e1 e2=>?_,fun l1 l3 b' base1 tot1 base2 tot2 e1 e2 e3 e4=>?_,fun k hk=>by show k<w'.heap.size;rw[k4];exact hs.imm k hk,fun l' b' base' tot' e=>by show b'<w'.heap.size;rw[k4];exact hs.dE _ _ _ _ e,ox hst.le hs.gd⟩,⟨hf.β,fun l' hl'=>?_⟩⟩
 ·rw[hlm]at e1;split at e1
  ·cases e1
  split at e1
  ·cases e1
  rename_i c1 c2;obtain⟨o1,o2⟩:=hs.own l' blk b' base' tot' e1 e2;refine⟨o1,o2.mono hst.le (k5 b' (fun e=>c2 ?_))⟩;subst e;exact hs.inj l' l2 _ _ _ _ _ (by rw[e1];simp) (by rw[q3];simp) e2 q1
 ·have live:∀l',look (bS (eA st.m l) l) l'≠none→look st.m l'≠none:=by
   intro l' h;rw[hlm]at h;split at h
   ·exact absurd rfl h
   split at h
   ·exact absurd rfl h
   ·exact h
  exact hs.inj l1 l3 b' base1 tot1 base2 tot2 (live l1 e1) (live l3 e2) e3 e4
 ·simp only[hlm]at hl';split at hl'
  ·exact absurd rfl hl'
  split at hl'
  ·exact absurd rfl hl'
  ·exact hf.m l' hl'
end
end Go.Abs
end
