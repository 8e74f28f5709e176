/- A part of the proofs of the statements: U17, UX, U18, U19, V1, V2, V3, V4, V5, V6, V7, V8, V9, V10, V11, V12, X7, X8, X9, UY, X10, X11, X12, RSpec15, X13. -/
import Derived.Test.YtpdlhpamcaocgaaGreatDoorP06
set_option linter.all false
set_option maxRecDepth 4000
section
namespace Go.Abs
open Go
def Ao:aB:=⟨1,19,[⟨1,none⟩,⟨2,none⟩],iz,(sq (rg [gb 1 s0,gm cse,gm dx] [(3,0),(1,1),(2,2)]) (sq (sq (r1 [gf 0 s3,gd l0,gl l1,aU l2 b9,gm l3,kl 4 0 s3,lF 4 l5,cA 4 (.len l6),cA 4 (dj l7 zJ),fM l4 l8] 4 9) (.cond s4 (sq (rg [gm cse,gm dx] [(1,0),(2,1)]) .ret) .skip)) (sq (r1 [gm (.c (.au))] 18 0) (sq (sq (rg [gf 0 s3,gd l0,gl l1,gm bD] [(8,1),(6,2),(5,3)]) (.block 0 (.loop (sq (r1 [aU s5 s6] 7 0) (sq (iN s7 0) (sq (.block 1 (sq (r1 [ga 1 s8 s5,gd l0,gm l1] 9 2) (sq (sq (r1 [gm s9,gl l0,aU l1 b9,gm l2,eW 3 s9,cA 3 (.len l4),cA 3 (dj l5 zJ),fM l3 l6] 10 7) (.cond lx (sq (rg [gm cse,gm dx] [(1,0),(2,1)]) .ret) .skip)) (sq (r1 [gm (.c (.au))] 17 0) (sq (sq (rg [gm s9,gl l0,gm bD] [(14,0),(12,1),(11,2)]) (.block 2 (.loop (sq (r1 [aU oz m8] 13 0) (sq (iN tn 2) (sq (.block 3 (sq (r1 [ga 7 rS oz,gk 7 true l0,gb 7 (.c (.agg [.int .i64 0,.int .i64 0,.int .i64 0,.int .i64 0,.int .i64 0,.str [],.str []])),gt 7 l2 l1] 15 2) (sq (sq (r1 [gk 7 true vc,gx 827 [l0] Jp,oy l1] 16 2) (.cond Bn (sq (rg [gm cse,gm dx] [(1,0),(2,1)]) .ret) .skip)) (r1 [gm wY,gk 7 true vc,gx 828 [l1] Jp,gn (.bsl 1 (.str []) 1 [(0,l2)]),gn (.app 1 l0 l3),gm l4] 17 5)))) (r1 [av oz b9,gm l0] 11 1))))))) (r1 [gm CU,gm wY,gx 242 [l1,(cs [44,32])] [[.sl 1 [.a]],[.a]],gn (.bsl 1 (.str []) 1 [(0,l2)]),gn (.app 1 l0 l3),gm l4] 18 5)))))) (r1 [av s5 b9,gm l0] 5 1))))))) (sq (rg [gm CU,gx 242 [l0,(cs [32,124,124,32])] [[.sl 1 [.a]],[.a]],gm l1,gm tO] [(1,2),(2,3)]) .ret)))))⟩
def w684 {Γ:Ctx}(hm:(Γ.at 0).bm)(h242:FU Γ)(h827:F0 Γ)(h828:IP Γ)(r:vO)  (hp0:mE r):dS Γ Ao (.tup [.str (if jV r=true then CT r else []),.bool (jV r)]) [gT r]:=by
 show bx _ _ _ [⟨_,_⟩,_,_,_,_,_,_,_,_,_,_,_,_,_,_,_,_,_,_] _;refine ak ?_;refine dh ?_;intro u0;refine aA ?_;refine ny ?_;refine az ?_;refine cF (fun hc0=>?_) fun hc0=>?_
 ·refine aT ?_;refine bX (aO (congrArg D.str ?_) (congrArg D.bool ?_));all_goals
   have hq:jV r=false:=by
    simp only[jV];rcases hc0 with h|h
    ·rw[decide_eq_false (by omega)];rfl
    ·rw[decide_eq_false (by omega:¬r.length≤6),Bool.and_false];rfl
   simp[hq]
 refine dh ?_;intro u1;refine ay ?_;have hb:jV r=cj (fun i=>k9 r[i]!) 0 r.length:=by simp only[jV];rw[decide_eq_true (by omega),decide_eq_true (by omega)];rfl
 refine bq hm (ι:=Nat) (fun i=>[.un,.un,.un,⟨true,.ptr 0 1 0 0⟩,.un,⟨true,.int .i64 (i:Nat)⟩,⟨true,.int .i64 (r.length:Nat)⟩,.un,⟨true,.sl 1 (r.map oC)⟩,.un,.un,.un,.un,.un,.un,.un,.un,.un,⟨true,.own 1 1 0 ((r.map pD).take i).length⟩]) (fun i=>[(0,.buf 1 [gT r]),(1,.buf 1 (((r.map pD).take i).map D.str))]) 18 (fun i=>i≤r.length∧jV r=cj (fun i=>k9 r[i]!) i r.length∧1≤r.length∧r.length≤6) (fun i=>r.length-i) 0 ⟨by omega,hb,by omega,by omega⟩ (aL.to [(0,0)] ae ae (by repeat(first|exact cV.nil|refine cV.un ?_|refine cV.eq ae ?_|refine cV.nl ae ae ?_|refine cV.ni (Or.inr ⟨_,_,_,rfl⟩) ?_)) (by(first|refine aC.cZ ae ae bT ?_|refine aC.lK ae ae ae ?_|refine aC.py ae ae ae ae ?_);refine aC.mt ae ae ae ae ?_;exact aC.nil)) ?_;rintro i ⟨hi,hr,hr1,hr6⟩;have hti:((r.map pD).take i).length≤i:=by rw[List.length_take];omega
 refine az ?_;refine cF (fun hc1=>?_) fun hc1=>?_
 ·refine fK ?_;intro u2;refine az ?_;refine ny ?_;refine az ?_;refine cF (fun hc2=>?_) fun hc2=>?_
  ·refine b6 ?_;refine bX (aO (congrArg D.str ?_) (congrArg D.bool ?_));all_goals
    have hq:jV r=false:=by
     rw[hr,aK (by omega)];have:k9 r[i]! =false:=by
      simp only[k9];rcases hc2 with h|h
      ·rw[decide_eq_false (by omega)];rfl
      ·rw[decide_eq_false (by omega:¬r[i]!.length≤6),Bool.and_false];rfl
     rw[this];rfl
    simp[hq]
  refine b6 ?_;intro u3;refine ay ?_;have hal:1≤r[i]!.length∧r[i]!.length≤6:=by omega
  have hkb:k9 r[i]! =cj (fun k=>iA r[i]![k]!) 0 r[i]!.length:=by simp only[k9];rw[decide_eq_true (by omega),decide_eq_true (by omega)];rfl
  refine bq hm (ι:=Nat) (fun k=>[.un,.un,.un,⟨true,.ptr 0 1 0 0⟩,.un,⟨true,.int .i64 (i:Nat)⟩,⟨true,.int .i64 (r.length:Nat)⟩,.un,⟨true,.sl 1 (r.map oC)⟩,.un,.un,⟨true,.int .i64 (k:Nat)⟩,⟨true,.int .i64 (r[i]!.length:Nat)⟩,.un,⟨true,.sl 7 (r[i]!.map bW.D)⟩,.un,.un,⟨true,.own 2 1 0 ((r[i]!.map cR).take k).length⟩,⟨true,.own 1 1 0 ((r.map pD).take i).length⟩]) (fun k=>[(0,.buf 1 [gT r]),(1,.buf 1 (((r.map pD).take i).map D.str)),(2,.buf 1 (((r[i]!.map cR).take k).map D.str))]) 34 (fun k=>k≤r[i]!.length∧k9 r[i]! =cj (fun k=>iA r[i]![k]!) k r[i]!.length) (fun k=>r[i]!.length-k) 0 ⟨by omega,hkb⟩ (aL.to [(0,0),(1,1)] ae ae (by repeat(first|exact cV.nil|refine cV.un ?_|refine cV.eq ae ?_|refine cV.nl ae ae ?_|refine cV.ni (Or.inr ⟨_,_,_,rfl⟩) ?_)) (by(first|refine aC.cZ ae ae bT ?_|refine aC.lK ae ae ae ?_|refine aC.py ae ae ae ae ?_);(first|refine aC.cZ ae ae bT ?_|refine aC.lK ae ae ae ?_|refine aC.py ae ae ae ae ?_);refine aC.mt ae ae ae ae ?_;exact aC.nil)) ?_;rintro k ⟨hk,hkr⟩;have htk:((r[i]!.map cR).take k).length≤k:=by rw[List.length_take];omega
  refine az ?_;refine cF (fun hc3=>?_) fun hc3=>?_
  ·refine aA ?_;first|refine ca (v:=(bW.D _)) ?_|refine gB (v:=(bW.D _)) ?_
   refine ax ?_;refine aF (bW.D r[i]![k]!) (he:=by exact rfl) ?_;refine az ?_;have hlo:=hp0 r[i]! (bG (by omega)) _ (bG (show k<r[i]!.length by omega));refine ax ?_;refine aj (hc:=h827 r[i]![k]! hlo.sm) ?_;refine ay ?_;refine aq (fun hc4=>?_) (fun hc4=>?_)
   ·simp only[Bool.not_eq_true']at hc4;refine iT ?_;refine bX (aO (congrArg D.str ?_) (congrArg D.bool ?_));all_goals
     have hq:jV r=false:=by rw[hr,aK (by omega),hkr,aK (by omega),hc4];rfl
     simp[hq]
   simp only[Bool.not_eq_false']at hc4;refine aA ?_;refine aj (hc:=h828 r[i]![k]! hlo.sm) ?_;refine ct [(.str _)] ?_;refine dh ?_;have hq:=hE cR r[i]! (show k<r[i]!.length by omega);rw[←hq];exact⟨k+1,⟨by omega,by rw[hkr,aK (by omega),hc4];rfl⟩,by omega,(aL.to [(0,0),(1,1),(46,2)] ae ae dM (by(first|refine aC.cZ ae ae bT ?_|refine aC.lK ae ae ae ?_|refine aC.py ae ae ae ae ?_);(first|refine aC.cZ ae ae bT ?_|refine aC.lK ae ae ae ?_|refine aC.py ae ae ae ae ?_);refine aC.nl 46 ae ae ae bT ?_;exact aC.nil))⟩
  refine az ?_;obtain rfl:k=r[i]!.length:=by omega
  have hok:k9 r[i]! =true:=by rw[hkr,bY (by omega)]
  rw[List.take_of_length_le (show(r[i]!.map cR).length≤r[i]!.length by rw[List.length_map];exact Nat.le_refl _)];have hj:∀t∈(r[i]!.map cR),t.length≤2097200:=fun t ht=>by
   obtain⟨c,hc,rfl⟩:=List.mem_map.1 ht;exact Nat.le_trans (xp (hp0 r[i]! (bG (by omega)) c hc)) (by decide)
  refine ay ?_;refine aj (hc:=h242 (r[i]!.map cR) [44,32] (by rw[List.length_map];omega) (by simp) hj) (ha:=fun _=>congrArg (fun d=>[d,D.str [44,32]]) (nj (q:=D.str) (fun _=>rfl) ae)) (hp:=fun _=>⟨kF (q:=D.str) (fun _=>rfl) ae,rfl,trivial⟩) ?_;refine ct [.str (pD r[i]!)] ?_;refine dh ?_;have hq:=hE pD r (show i<r.length by omega);rw[←hq];exact⟨i+1,⟨by omega,by rw[hr,aK (by omega),hok];rfl,hr1,hr6⟩,by omega,(aL.to [(0,0),(39,1)] ae ae dM (by(first|refine aC.cZ ae ae bT ?_|refine aC.lK ae ae ae ?_|refine aC.py ae ae ae ae ?_);refine aC.nl 39 ae ae ae bT ?_;exact aC.nil))⟩
 refine az ?_;obtain rfl:i=r.length:=by omega
 have hfw:jV r=true:=by rw[hr,bY (by omega)]
 rw[List.take_of_length_le (show(r.map pD).length≤r.length by rw[List.length_map];exact Nat.le_refl _)];have hj:∀t∈(r.map pD),t.length≤2097200:=fun t ht=>by
  obtain⟨a,ha,rfl⟩:=List.mem_map.1 ht;obtain⟨i,hi,rfl⟩:=List.mem_iff_getElem.1 ha;have h1:=DQ hfw hi;rw[show r[i]! =r[i]by simp[hi]]at h1;exact Nat.le_trans (Ds (hp0 _ ha) (BH h1).2) (by decide)
 refine ax ?_;refine aj (hc:=h242 (r.map pD) [32,124,124,32] (by rw[List.length_map];omega) (by simp) hj) (ha:=fun _=>congrArg (fun d=>[d,D.str [32,124,124,32]]) (nj (q:=D.str) (fun _=>rfl) ae)) (hp:=fun _=>⟨kF (q:=D.str) (fun _=>rfl) ae,rfl,trivial⟩) ?_;refine aA ?_;refine bX (aO (congrArg D.str ?_) (congrArg D.bool ?_));all_goals (simp only[hfw,if_true];first|done|rfl)
def FZ (Γ:Ctx):Prop:=∀(r:vO),(mE r)→Γ.pre 684 [gT r]∧Γ.val 684 [gT r]=.tup [.str (if jV r=true then CT r else []),.bool (jV r)]
def CV:aB:=⟨1,5,jN,cn,(sq (rg [gb 1 s0,gm dx] [(2,0),(1,1)]) (sq (rg [gk 1 true s2,gx 684 [l0] [[.sl 1 [.sl 7 [.a,.a,.a,.a,.a,.a,.a]]]],gm l1,ge l2 0,ge l2 1,gm l3,gm l4] [(4,5),(3,6)]) (sq (r1 [gm s3,gm l0,gmt 1 s4,cE 1 (.lenS l2),cE 1 (lN l3 (i6 96)),gp l1 l4,gm l5] 1 6) .ret)))⟩
def w685 {Γ:Ctx}(hm:(Γ.at 0).bm)(h684:FZ Γ)(r:vO)  (hp0:mE r):dS Γ CV (.bool (pZ r)) [gT r]:=by
 show bx _ _ _ [⟨_,_⟩,_,_,_,_] _;refine ak ?_;refine aR ?_;refine aj (hc:=h684 r hp0) ?_;refine iT ?_;refine ny ?_;refine aR ?_;refine bL ?_;cases hf:jV r with
 |false=>simp[pZ,hf]
 |true=>simp only[pZ,hf,if_true,Bool.true_and];exact decide_eq_decide.2 (by omega)
def Lw (Γ:Ctx):Prop:=∀(r:vO),(mE r)→Γ.pre 685 [gT r]∧Γ.val 685 [gT r]=.bool (pZ r)
def yC:aB:=⟨1,6,jN,cn,(sq (rg [gb 1 s0,gm cse] [(2,0),(1,1)]) (sq (sq (rg [gk 1 true s2,gx 684 [l0] [[.sl 1 [.sl 7 [.a,.a,.a,.a,.a,.a,.a]]]],gm l1,ge l2 0,ge l2 1,gm l3,gm l4] [(4,5),(3,6)]) (sq (r1 [gm s3,gm l0,gmt 1 s4,cE 1 (.lenS l2),cE 1 (lN l3 (i6 96)),gp l1 l4] 5 5) (.cond s5 (sq (r1 [gm s4,gm l0] 1 1) .ret) .skip))) (zH cse)))⟩
def w496 {Γ:Ctx}(hm:(Γ.at 0).bm)(h684:FZ Γ)(r:vO)  (hp0:mE r):dS Γ yC (.str (vb r)) [gT r]:=by
 show bx _ _ _ [⟨_,_⟩,_,_,_,_,_] _;refine ak ?_;refine aT ?_;refine aj (hc:=h684 r hp0) ?_;refine fK ?_;refine ny ?_;refine az ?_;refine aq (fun hc0=>?_) (fun hc0=>?_)
 ·simp only[Bool.and_eq_true,decide_eq_true_eq]at hc0;refine aT ?_;refine cu ?_;have hm:pZ r=true:=by simp only[pZ,hc0.1,Bool.true_and,decide_eq_true_eq];have:=hc0.2;rw[hc0.1,if_pos rfl]at this;omega
  simp only[vb,hm,hc0.1,if_true]
 skip
 refine aR ?_;refine cu ?_;have hm:pZ r=false:=by
  cases hf:jV r with
  |false=>simp[pZ,hf]
  |true=>
   rw[hf]at hc0;simp only[if_true,Bool.true_and,decide_eq_false_iff_not]at hc0;simp only[pZ,hf,Bool.true_and,decide_eq_false_iff_not];omega
 simp[vb,hm]
def Ll (Γ:Ctx):Prop:=∀(r:vO),(mE r)→Γ.pre 496 [gT r]∧Γ.val 496 [gT r]=.str (vb r)
end Go.Abs
end
section
namespace Go.Abs
open Go
def HM (Γ:Ctx):Prop:=∀(s:ah),(s.length≤1048576)→Γ.pre 124 [.str s,.str [124,124]]∧Γ.val 124 [.str s,.str [124,124]]=.sl 1 ((aJ s []).map D.str)
def Lv (Γ:Ctx):Prop:=∀(s:ah)(b:UInt8),(b=32)→(s.length≤1048576)→Γ.pre 683 [.str s,.str [b]]∧Γ.val 683 [.str s,.str [b]]=.str (dZ s)
def Iu (Γ:Ctx):Prop:=∀(r:Rec),(sB r∧il r)→Γ.pre 215 [Rec.D r]∧Γ.val 215 [Rec.D r]=.str (eZ r)
end Go.Abs
end
section
namespace Go.Abs
open Go
def yB:aB:=⟨1,22,[⟨1,some (1,true)⟩,⟨2,none⟩],[[.sl 1 [.sl 7 [.a,.a,.a,.a,.a,.a,.a]]],[.a]],(sq (rg [gb 1 (.c (.agg [.au])),gm bD] [(1,0),(2,1)]) (sq (sq (r1 [gm s0,wW l0,dz l1 (i6 96)] 3 2) (.cond s3 (sq (r1 [gn (.build [.au] []),gt 1 s1 l0,gm j7] 2 2) .ret) .skip)) (sq (r1 [gb 1 (.c (.agg [.au]))] 18 0) (sq (sq (rg [gm s0,gx 124 [l0,(cs [124,124])] iz,gl l1,gm bD] [(7,1),(5,2),(4,3)]) (.block 0 (.loop (sq (r1 [aU s4 s5] 6 0) (sq (iN s6 0) (sq (.block 1 (sq (r1 [ga 1 s7 s4,gd l0,gm l1] 8 2) (sq (r1 [gm (.c (.au))] 16 0) (sq (sq (rg [gm s8,gx 124 [l0,(cs [44])] iz,gl l1,gm bD] [(12,1),(10,2),(9,3)]) (.block 2 (.loop (sq (r1 [aU s9 lx] 11 0) (sq (iN oz 2) (sq (.block 3 (sq (r1 [ga 1 m8 s9,gd l0,gm l1] 13 2) (sq (rg [gm tn,gx 683 [l0,(cs [32])] iz,gx 682 [l1] cn,gm l2,ge l3 0,ge l3 1,gb 7 (.c (.agg [.int .i64 0,.int .i64 0,.int .i64 0,.int .i64 0,.int .i64 0,.str [],.str []])),gt 7 l6 l4,gm l5] [(17,6),(14,8)]) (sq (sq (r1 [gm rS,cl l0 bD] 15 1) (.cond vc (sq (r1 [gn (.build [.au] []),gt 1 s1 l0,gm zJ] 2 2) .ret) .skip)) (r1 [gm Bn,gk 7 true wY,gn (.bsl 7 (.agg [.int .i64 0,.int .i64 0,.int .i64 0,.int .i64 0,.int .i64 0,.str [],.str []]) 1 [(0,l1)]),gn (.app 7 l0 l2),gm l3] 16 4))))) (r1 [av s9 b9,gm l0] 9 1))))))) (rg [gf 0 CU,gd l0,gm Bn,gn (.bsl 1 (.au) 1 [(0,l2)]),gn (.app 1 l1 l3),gf 0 CU,gt 1 l5 l4] []))))) (r1 [av s4 b9,gm l0] 4 1))))))) (sq (sq (r1 [gk 1 true CU,gx 684 [l0] [[.sl 1 [.sl 7 [.a,.a,.a,.a,.a,.a,.a]]]],gm l1,ge l2 0,ge l2 1,gm l3,gm l4] 19 6) (sq (r1 [gm Kd,oy l0] 20 1) (.cond FN (sq (r1 [gn (.build [.au] []),gt 1 s1 l0,gm zJ] 2 2) .ret) .skip))) (sq (sq (r1 [gk 1 true CU,gx 685 [l0] [[.sl 1 [.sl 7 [.a,.a,.a,.a,.a,.a,.a]]]],oy l1] 21 2) (.cond s21 (sq (r1 [gn (.build [.au] []),gt 1 s1 l0,gm j7] 2 2) .ret) .skip)) (sq (r1 [gk 1 true CU,gt 1 s1 l0,gm bD] 2 2) .ret)))))))⟩
def w495 {Γ:Ctx}(hm:(Γ.at 0).bm)(h124:Dh Γ)(h682:Lu Γ)(h683:Lv Γ)(h684:FZ Γ)(h685:Lw Γ)(h9124:HM Γ)(s:ah)  (hp0:s.length≤1048576):dS Γ yB (.tup [gT (iI s).1,.int .i64 (iI s).2]) [.str s]:=by
 show bx _ _ _ [⟨_,_⟩,_,_,_,_,_,_,_,_,_,_,_,_,_,_,_,_,_,_,_,_,_] _;have hdl:=kW s [];have hgl:∀i,i<(aJ s []).length→(aJ s [])[i]!.length≤s.length:=fun i hi=>by
  have:=hdl.2 _ (bG hi);simpa using this
 refine ak ?_;refine ba ?_;intro u0;refine ay ?_;refine cF (fun hc0=>?_) fun hc0=>?_
 ·refine ay ?_;refine eI [.au] ?_;refine aF (.agg [.au]) (he:=by exact rfl) ?_;refine az ?_;refine bX (aO ?_ (congrArg (D.int .i64) ?_));all_goals
   have hq:iI s=([],3):=by
    unfold iI;rw[if_pos (by omega)]
   rw[hq];first|done|rfl
 refine ba ?_;refine aj (hc:=h9124 s (by omega)) ?_;refine ax ?_;intro u1;refine ay ?_;refine bq hm (ι:=Nat) (fun i=>[.un,⟨true,.ptr 0 1 0 0⟩,.un,.un,⟨true,.int .i64 (i:Nat)⟩,⟨true,.int .i64 ((aJ s []).length:Nat)⟩,.un,⟨true,.sl 1 ((aJ s []).map D.str)⟩,.un,.un,.un,.un,.un,.un,.un,.un,.un,.un,⟨true,.ptr 5 1 0 0⟩,.un,.un,.un]) (fun i=>[(0,.buf 1 [.agg [.au]]),(5,.buf 1 [.agg [.own 1 1 0 ((j4 s).take i).length]]),(1,.buf 1 (((j4 s).take i).map oC))]) 10 (fun i=>i≤(aJ s []).length∧Bl s=cj (fun i=>wOK (aJ s [])[i]!) i (aJ s []).length) (fun i=>(aJ s []).length-i) 0 ⟨by omega,rfl⟩ (aL.to [(0,0),(5,5)] ae ae dM (by(first|refine aC.cZ ae ae bT ?_|refine aC.lK ae ae ae ?_|refine aC.py ae ae ae ae ?_);refine aC.ni 5 ae ae (by exact⟨_,_,rfl,⟨_,rfl,⟨_,_,rfl,Or.inr ⟨_,_,_,rfl⟩,rfl⟩⟩,rfl⟩) ?_;refine aC.mt ae ae ae ae ?_;exact aC.nil)) ?_;rintro i ⟨hi,hr⟩;have hrt:((j4 s).take i).length≤i:=by rw[List.length_take];omega
 refine az ?_;refine cF (fun hc1=>?_) fun hc1=>?_
 ·refine ix ?_;have hgi:=hgl i (by omega);have hsl:=cM (aJ s [])[i]! 44;have hsp:1≤(ai (aJ s [])[i]! 44).length:=fB _ _ _;refine ax ?_;refine aj (v:=.sl 1 ((ai (aJ s [])[i]! 44).map D.str)) (hc:=h124 (aJ s [])[i]! 44 (by omega)) ?_;refine ax ?_;intro u2;refine ay ?_;refine bq hm (ι:=Nat) (fun k=>[.un,⟨true,.ptr 0 1 0 0⟩,.un,.un,⟨true,.int .i64 (i:Nat)⟩,⟨true,.int .i64 ((aJ s []).length:Nat)⟩,.un,⟨true,.sl 1 ((aJ s []).map D.str)⟩,.un,⟨true,.int .i64 (k:Nat)⟩,⟨true,.int .i64 ((ai (aJ s [])[i]! 44).length:Nat)⟩,.un,⟨true,.sl 1 ((ai (aJ s [])[i]! 44).map D.str)⟩,.un,.un,.un,⟨true,.own 2 7 0 ((pE (aJ s [])[i]!).take k).length⟩,.un,⟨true,.ptr 5 1 0 0⟩,.un,.un,.un]) (fun k=>[(0,.buf 1 [.agg [.au]]),(5,.buf 1 [.agg [.own 1 1 0 ((j4 s).take i).length]]),(1,.buf 1 (((j4 s).take i).map oC)),(2,.buf 7 (((pE (aJ s [])[i]!).take k).map bW.D))]) 19 (fun k=>k≤(ai (aJ s [])[i]! 44).length∧wOK (aJ s [])[i]! =cj (fun k=>(eK (dZ (ai (aJ s [])[i]! 44)[k]!)).isSome) k (ai (aJ s [])[i]! 44).length) (fun k=>(ai (aJ s [])[i]! 44).length-k) 0 ⟨by omega,rfl⟩ (aL.to [(0,0),(5,5),(1,1)] ae ae (by repeat(first|exact cV.nil|refine cV.un ?_|refine cV.eq ae ?_|refine cV.nl ae ae ?_|refine cV.ni (Or.inr ⟨_,_,_,rfl⟩) ?_)) (by(first|refine aC.cZ ae ae bT ?_|refine aC.lK ae ae ae ?_|refine aC.py ae ae ae ae ?_);(first|refine aC.cZ ae ae bT ?_|refine aC.lK ae ae ae ?_|refine aC.py ae ae ae ae ?_);(first|refine aC.cZ ae ae bT ?_|refine aC.lK ae ae ae ?_|refine aC.py ae ae ae ae ?_);refine aC.mt ae ae ae ae ?_;exact aC.nil)) ?_;rintro k ⟨hk,hwk⟩;have htk:((pE (aJ s [])[i]!).take k).length≤k:=by rw[List.length_take];omega
  refine az ?_;refine cF (fun hc2=>?_) fun hc2=>?_
  ·refine b6 ?_;have hwl:=Ar (aJ s [])[i]! 44 (show k<(ai (aJ s [])[i]! 44).length by omega);have hbl:=uq (ai (aJ s [])[i]! 44)[k]!;refine ax ?_;refine aj (hc:=h683 (ai (aJ s [])[i]! 44)[k]! 32 rfl (by omega)) ?_;refine aj (v:=.tup [bW.D ((eK (dZ (ai (aJ s [])[i]! 44)[k]!)).getD dk),.int .i64 (if(eK (dZ (ai (aJ s [])[i]! 44)[k]!)).isSome=true then 0 else 6)]) (hc:=by rw[←DG];exact h682 (dZ (ai (aJ s [])[i]! 44)[k]!) (by omega)) ?_;refine ax ?_;refine fG (bW.D _) ?_;refine ay ?_;refine aF (bW.D ((eK (dZ (ai (aJ s [])[i]! 44)[k]!)).getD dk)) (he:=by exact rfl) ?_;refine ba ?_;refine aq (fun hc3=>?_) (fun hc3=>?_)
   ·have hsm:(eK (dZ (ai (aJ s [])[i]! 44)[k]!)).isSome=false:=by cases hx:(eK (dZ (ai (aJ s [])[i]! 44)[k]!)).isSome with|false=>rfl|true=>rw[hx]at hc3;exact absurd hc3 (by decide)
    refine ay ?_;refine eI [.au] ?_;refine aF (.agg [.au]) (he:=by exact rfl) ?_;refine ba ?_;refine bX (aO ?_ (congrArg (D.int .i64) ?_));all_goals
     have hq:iI s=([],6):=by
      have hno:Bl s=false:=by rw[hr,aK (by omega),hwk,aK (by omega),hsm];rfl
      unfold iI;rw[if_neg (by omega),if_pos hno]
     rw[hq];first|done|rfl
   have hsm:(eK (dZ (ai (aJ s [])[i]! 44)[k]!)).isSome=true:=by cases hx:(eK (dZ (ai (aJ s [])[i]! 44)[k]!)).isSome with|true=>rfl|false=>rw[hx]at hc3;exact absurd hc3 (by decide)
   refine az ?_;refine cy (d:=bW.D ((eK (dZ (ai (aJ s [])[i]! 44)[k]!)).getD dk)) ?_;refine ct [(bW.D _)] ?_;refine dh ?_;have hq:=hE (fun x=>(eK (dZ x)).getD dk) (ai (aJ s [])[i]! 44) (show k<(ai (aJ s [])[i]! 44).length by omega);rw[show(fun x=>(eK (dZ x)).getD dk)=fun x=>(eK (dZ x)).getD dk from rfl]at hq;have hq:(pE (aJ s [])[i]!).take (k+1)=_:=hq;rw[show(pE (aJ s [])[i]!).take k++[(eK (dZ (ai (aJ s [])[i]! 44)[k]!)).getD dk]=(pE (aJ s [])[i]!).take (k+1)from hq.symm];exact⟨k+1,⟨by omega,by rw[hwk,aK (by omega),hsm];rfl⟩,by omega,(aL.to [(0,0),(5,5),(1,1),(37,2)] ae ae dM (by(first|refine aC.cZ ae ae bT ?_|refine aC.lK ae ae ae ?_|refine aC.py ae ae ae ae ?_);(first|refine aC.cZ ae ae bT ?_|refine aC.lK ae ae ae ?_|refine aC.py ae ae ae ae ?_);(first|refine aC.cZ ae ae bT ?_|refine aC.lK ae ae ae ?_|refine aC.py ae ae ae ae ?_);refine aC.nl 37 ae ae ae bT ?_;exact aC.nil))⟩
  refine ay ?_;refine ee 2 ?_ (he:=by simp only[lj,gu,j6,mb,nZ,bK,Nat.reduceEqDiff,if_true,if_false,and_self,true_and,and_true,false_and,and_false,Nat.zero_add,List.length_map,Nat.le_refl,List.drop_zero,aH,reduceCtorEq,List.length_cons,List.length_nil,Nat.reduceAdd,Nat.reduceLeDiff,rE];exact rfl) (hm:=by simp only[lj,gu,j6,mb,nZ,bK,Nat.reduceEqDiff,if_true,if_false,and_self,true_and,and_true,false_and,and_false,Nat.zero_add,List.length_map,Nat.le_refl,List.drop_zero,aH,reduceCtorEq,List.length_cons,List.length_nil,Nat.reduceAdd,Nat.reduceLeDiff,rE];exact rfl);refine ax ?_;obtain rfl:k=(ai (aJ s [])[i]! 44).length:=by omega
  rw[List.take_of_length_le (show(pE (aJ s [])[i]!).length≤(ai (aJ s [])[i]! 44).length by simp[pE])];refine ax ?_;refine ch (v:=.own _ _ _ _) ?_;refine ax ?_;refine ct [oC (pE (aJ s [])[i]!)] ?_;refine ay ?_;refine aF (.agg [.own 24 1 0 ((j4 s).take i++[pE (aJ s [])[i]!]).length]) (he:=by exact rfl) ?_;refine ba ?_;have hq:(j4 s).take (i+1)=(j4 s).take i++[pE (aJ s [])[i]!]:=hE pE (aJ s []) (show i<(aJ s []).length by omega);rw[←hq];exact⟨i+1,⟨by omega,by rw[hr,aK (by omega),hwk,bY (by omega)];rfl⟩,by omega,(aL.to [(0,0),(5,5),(24,1)] ae ae dM (by(first|refine aC.cZ ae ae bT ?_|refine aC.lK ae ae ae ?_|refine aC.py ae ae ae ae ?_);(first|refine aC.cZ ae ae bT ?_|refine aC.lK ae ae ae ?_|refine aC.py ae ae ae ae ?_);refine aC.nl 24 ae ae ae bT ?_;exact aC.nil))⟩
 refine az ?_;refine ee 1 ?_ (he:=by simp only[lj,gu,j6,mb,nZ,bK,Nat.reduceEqDiff,if_true,if_false,and_self,true_and,and_true,false_and,and_false,Nat.zero_add,List.length_map,Nat.le_refl,List.drop_zero,aH,reduceCtorEq,List.length_cons,List.length_nil,Nat.reduceAdd,Nat.reduceLeDiff,rE];exact rfl) (hm:=by simp only[lj,gu,j6,mb,nZ,bK,Nat.reduceEqDiff,if_true,if_false,and_self,true_and,and_true,false_and,and_false,Nat.zero_add,List.length_map,Nat.le_refl,List.drop_zero,aH,reduceCtorEq,List.length_cons,List.length_nil,Nat.reduceAdd,Nat.reduceLeDiff,rE];exact rfl);refine ax ?_;obtain rfl:i=(aJ s []).length:=by omega
 have hok:Bl s=true:=by rw[hr,bY (by omega)]
 rw[List.take_of_length_le (show(j4 s).length≤(aJ s []).length by simp[j4])];have hrs:=Bm (s:=s) (by omega);refine cy (d:=gT (j4 s)) ?_;refine aj (hc:=h684 (j4 s) hrs) ?_;refine fK ?_;refine aq (fun hc4=>?_) (fun hc4=>?_)
 ·simp only[Bool.not_eq_true']at hc4;refine ay ?_;refine eI [.au] ?_;refine aF (.agg [.au]) (he:=by exact rfl) ?_;refine az ?_;refine bX (aO ?_ (congrArg (D.int .i64) ?_));all_goals
   have hq:iI s=([],6):=by
    unfold iI;rw[if_neg (by omega),if_neg (by rw[hok];simp),if_pos hc4]
   rw[hq];first|done|rfl
 simp only[Bool.not_eq_false']at hc4;refine az ?_;refine cy (d:=gT (j4 s)) ?_;refine aj (hc:=h685 (j4 s) hrs) ?_;refine ay ?_;refine aq (fun hc5=>?_) (fun hc5=>?_)
 ·simp only[Bool.not_eq_true',pZ,hc4,Bool.true_and,decide_eq_false_iff_not]at hc5;refine ay ?_;refine eI [.au] ?_;refine aF (.agg [.au]) (he:=by exact rfl) ?_;refine az ?_;refine bX (aO ?_ (congrArg (D.int .i64) ?_));all_goals
   have hq:iI s=([],3):=by
    unfold iI;rw[if_neg (by omega),if_neg (by rw[hok];simp),if_neg (by rw[hc4];simp),if_pos (by omega)]
   rw[hq];first|done|rfl
 simp only[Bool.not_eq_false',pZ,hc4,Bool.true_and,decide_eq_true_eq]at hc5;refine ay ?_;refine cy (d:=gT (j4 s)) ?_;refine aF (gT (j4 s)) (he:=by exact rfl) ?_;refine az ?_;refine bX (aO ?_ (congrArg (D.int .i64) ?_));all_goals
  have hq:iI s=(j4 s,0):=by
   unfold iI;rw[if_neg (by omega),if_neg (by rw[hok];simp),if_neg (by rw[hc4];simp),if_neg (by omega)]
  rw[hq];first|done|rfl
def Lk (Γ:Ctx):Prop:=∀(s:ah),(s.length≤1048576)→Γ.pre 495 [.str s]∧Γ.val 495 [.str s]=.tup [gT (iI s).1,.int .i64 (iI s).2]
end Go.Abs
end
section
namespace Go.Abs
open Go
def ug:aB:=⟨1,4,jN,cn,(sq (r1 [gm dx] 1 0) (sq (rg [gm s0,gx 495 [l0] cn,gm l1,ge l2 0,ge l2 1,gb 1 (.c (.agg [.au])),gt 1 l5 l3,gm l4] [(3,5),(2,7)]) (sq (r1 [gm s2,aE l0 bD,gm l1,cE 2 (.ld 1 true s3),cE 2 (.call 496 [l3] [[.sl 1 [.sl 7 [.a,.a,.a,.a,.a,.a,.a]]]]),gmt 2 s0,cE 2 (cP l4 l5),gp l2 l6,gm l7] 1 8) .ret)))⟩
def w444 {Γ:Ctx}(hm:(Γ.at 0).bm)(h495:Lk Γ)(h496:Ll Γ)(s:ah)  (hp0:s.length≤1048576):dS Γ ug (.bool (m5 s)) [.str s]:=by
 show bx _ _ _ [⟨_,_⟩,_,_,_] _;refine ak ?_;refine aA ?_;refine aj (hc:=h495 s hp0) ?_;refine ax ?_;refine fG (gT _) ?_;refine ay ?_;refine aF (gT (iI s).1) (he:=by exact rfl) ?_;refine aT ?_;refine cy (d:=gT (iI s).1) ?_;refine en (hc:=fun hf=>h496 (iI s).1 Hx.1) ?_;refine aT ?_;exact bL rfl
def K0 (Γ:Ctx):Prop:=∀(s:ah),(s.length≤1048576)→Γ.pre 444 [.str s]∧Γ.val 444 [.str s]=.bool (m5 s)
end Go.Abs
end
section
namespace Go.Abs
open Go
def HO (Γ:Ctx)(u:Nat):Prop:=∀(l:List Nd)(i:Int)(b:Bool),(fk l∧l.length≤15∧0≤i∧i<l.length)→2*i.toNat+1<u→Γ.pre 951 [.sl 5 (l.map Nd.D),.int .i64 i,.bool b]∧Γ.val 951 [.sl 5 (l.map Nd.D),.int .i64 i,.bool b]=.str (jB (j5 l i) b)
def LA (Γ:Ctx):Prop:=∀(l:List Nd)(i:Int),(fk l∧l.length≤15∧0≤i∧i<l.length)→Γ.pre 811 [.sl 5 (l.map Nd.D),.int .i64 i]∧Γ.val 811 [.sl 5 (l.map Nd.D),.int .i64 i]=.str (j5 l i)
def Dm (Γ:Ctx)(u:Nat):Prop:=∀(l:List Nd)(i:Int),(fk l∧l.length≤15∧0≤i∧i<l.length)→2*i.toNat<u→Γ.pre 811 [.sl 5 (l.map Nd.D),.int .i64 i]∧Γ.val 811 [.sl 5 (l.map Nd.D),.int .i64 i]=.str (j5 l i)
def Ct:aB:=⟨0,1,[⟨0,none⟩],[[.sl 1 [.a]]],(sq (r1 [gm (.c (.au))] 0 0) (sq (r1 [gn (.bsl 1 (.str []) 3 [(0,(cs [111,115])),(1,(cs [97,114,99,104])),(2,(cs [97,98,105]))]),gm l0] 0 1) .ret))⟩
def w950 {Γ:Ctx}(hm:(Γ.at 0).bm)     :dS Γ Ct (.sl 1 (lr.map D.str)) []:=by
 show bx _ _ _ [_] _;refine ak ?_;refine az ?_;refine ct [(.str _),(.str _),(.str _)] ?_;refine ay ?_;refine ee 1 ?_;refine ax ?_;refine bX (?_);rfl
def IU (Γ:Ctx):Prop:=Γ.pre 950 []∧Γ.val 950 []=.sl 1 (lr.map D.str)
def Cs:aB:=⟨3,5,[⟨3,none⟩],cn,(sq (r1 [gm cse] 3 0) (sq (sq (r1 [gm s2] 4 0) (.cond s4 (sq (r1 [gm s0,gm s1,gx 811 [l0,l1] [[.sl 5 [.a,.a,.a,.a,.a]],[.a]],av (cs [40,32]) l2,av l3 (cs [32,41]),gm l4] 3 5) .ret) .skip)) (sq (r1 [gm s0,gm s1,gx 811 [l0,l1] [[.sl 5 [.a,.a,.a,.a,.a]],[.a]],gm l2] 3 3) .ret)))⟩
def w951 {Γ:Ctx}(hm:(Γ.at 0).bm)  (l:List Nd)(i:Int)(b:Bool)(h811:Dm (Γ.at 0) (2*i.toNat+1))(hp0:fk l∧l.length≤15∧0≤i∧i<l.length):dS Γ Cs (.str (jB (j5 l i) b)) [.sl 5 (l.map Nd.D),.int .i64 i,.bool b]:=by
 show bx _ _ _ [⟨_,_⟩,⟨_,_⟩,⟨_,_⟩,_,_] _;have htl:=tA hp0.1 hp0.2.1 hp0.2.2.1 hp0.2.2.2;refine ak ?_;refine aT ?_;refine cF (fun hc0=>?_) fun hc0=>?_
 ·refine aA ?_;refine aj (hc:=h811 l i hp0 (by omega)) ?_;refine qQ ?_;refine qQ ?_;refine az ?_;refine cu ?_;simp[jB,hc0]
 refine aA ?_;refine aj (hc:=h811 l i hp0 (by omega)) ?_;refine az ?_;refine cu ?_;simp[jB,hc0]
def Cu:aB:=⟨2,10,[⟨2,none⟩],cn,(sq (r1 [gm cse] 2 0) (sq (r1 [gm s0,gm s1,ga 5 l0 l1,gk 5 true l2,gb 5 (.c (.agg [.int .i64 0,.int .i64 0,.int .i64 0,.int .i64 0,.str []])),gt 5 l4 l3] 3 4) (sq (sq (r1 [gf 0 s3,gd l0] 4 1) (.block 0 (sq (r1 [aE s4 b9,gm l0] 5 1) (.cond s5 (sq (r2 [gx 950 [] [],gf 3 s3,gd l1,ga 1 l0 l2,gd l3,av l4 (cs [32,61,32]),gf 4 s3,gd l6,av l5 l7,gm l8] 2 9) .ret) (sq (r1 [aE s4 kn,gm l0] 6 1) (.cond s6 (sq (r1 [gm s0,gf 1 s3,gd l1,ga 5 l0 l2,gk 5 true l3,gb 5 (.c (.agg [.int .i64 0,.int .i64 0,.int .i64 0,.int .i64 0,.str []])),gt 5 l5 l4] 7 5) (sq (sq (r1 [gf 0 s7,gd l0,aE l1 b9] 8 2) (.cond s8 (sq (r2 [gx 950 [] [],gf 3 s7,gd l1,ga 1 l0 l2,gd l3,av l4 (cs [32,33,61,32]),gf 4 s7,gd l6,av l5 l7,gm l8] 2 9) .ret) .skip)) (sq (r1 [gm s0,gf 1 s3,gd l1,gf 0 s7,gd l3,cl l4 kn,gx 951 [l0,l2,l5] [[.sl 5 [.a,.a,.a,.a,.a]],[.a],[.a]],av (cs [110,111,116,32]) l6,gm l7] 2 8) .ret))) (sq (r1 [aE s4 j7,gm l0] 9 1) (.cond s9 (sq (r2 [gm s0,gf 1 s3,gd l1,gm s0,gf 1 s3,gd l4,ga 5 l3 l5,gf 0 l6,gd l7,aE l8 tJ,gx 951 [l0,l2,l9] [[.sl 5 [.a,.a,.a,.a,.a]],[.a],[.a]],av l10 (cs [32,97,110,100,32]),gm s0,gf 2 s3,gd nu,gm s0,gf 2 s3,gd q9,ga 5 oY wo,gf 0 wX,gd y5,aE A3 tJ,gm Ch,eW 22 s0,kl 22 2 s3,lF 22 Ib,cA 22 (.ia 5 Ia Jv),kl 22 0 Kz,lF 22 Mv,cA 22 (cP Mw j7),fM Ee Mx,gx 951 [lu,n7,l30] [[.sl 5 [.a,.a,.a,.a,.a]],[.a],[.a]],av jK l31,gm l32] 2 33) .ret) .skip)))))))) (sq (r2 [gm s0,gf 1 s3,gd l1,gx 811 [l0,l2] [[.sl 5 [.a,.a,.a,.a,.a]],[.a]],av l3 (cs [32,111,114,32]),gm s0,gf 2 s3,gd l6,gm s0,gf 2 s3,gd l9,ga 5 l8 l10,gf 0 jK,gd lu,aE nu tJ,gx 951 [l5,l7,n7] [[.sl 5 [.a,.a,.a,.a,.a]],[.a],[.a]],av l4 oY,gm q9] 2 17) .ret))))⟩
def w811 {Γ:Ctx}(hm:(Γ.at 0).bm)(h950:IU Γ)(l:List Nd)(i:Int)(h811:Dm (Γ.at 0) (2*i.toNat))(h951:HO (Γ.at 0) (2*i.toNat))(hp0:fk l∧l.length≤15∧0≤i∧i<l.length):dS Γ Cu (.str (j5 l i)) [.sl 5 (l.map Nd.D),.int .i64 i]:=by
 show bx _ _ _ [⟨_,_⟩,⟨_,_⟩,_,_,_,_,_,_,_,_] _;obtain⟨hk,hl15,hi0,hi1⟩:=hp0;have htx:=HF hk hi0 hi1;obtain⟨k1,k2,k3⟩:=hk i.toNat (by omega);refine ak ?_;refine aT ?_;first|refine ca (v:=(Nd.D _)) ?_|refine gB (v:=(Nd.D _)) ?_
 refine lB ?_;refine wp_cond (fun hc0=>?_) (fun hc0=>?_)
 ·simp only[decide_eq_true_eq]at hc0;have k1:=k1 hc0;have hkl:=oX l[i.toNat]!.key;refine ax ?_;refine aj (hc:=h950) ?_;refine ay ?_;refine cD l[i.toNat]!.key.toNat (hb:=fun _=>by show _<3;omega) ?_;refine ca (q:=D.str) (xs:=lr) (hi:=fun _=>by show _<3;omega) (i:=l[i.toNat]!.key.toNat) (k:=1) (o:=0) (v:=(.str (wj l[i.toNat]!.key))) (hv:=fun _=>congrArg D.str (uK k1.1 k1.2.1)) ?_;refine qQ ?_;refine ay ?_;refine qQ ?_;refine aA ?_;refine cu ?_;rw[htx,if_pos hc0]
 simp only[decide_eq_false_iff_not]at hc0;have ka:=k2 hc0;have hla:=tA hk hl15 (i:=l[i.toNat]!.a) (by omega) (by omega);have hwa:=fun b=>ng (j5 l l[i.toNat]!.a) b
 refine aA ?_;refine wp_cond (fun hc1=>?_) (fun hc1=>?_)
 ·simp only[decide_eq_true_eq]at hc1;refine aA ?_;refine cD l[i.toNat]!.a.toNat ?_;first|refine ca (v:=(Nd.D _)) ?_|refine gB (v:=(Nd.D _)) ?_
  refine dh ?_;refine aq (fun hc2=>?_) (fun hc2=>?_)
  ·simp only[decide_eq_true_eq]at hc2;have k4:=(hk l[i.toNat]!.a.toNat (by omega)).1 hc2;have hkl:=oX l[l[i.toNat]!.a.toNat]!.key;refine ay ?_;refine aj (hc:=h950) ?_;refine ay ?_;refine cD l[l[i.toNat]!.a.toNat]!.key.toNat (hb:=fun _=>by show _<3;omega) ?_;refine ca (q:=D.str) (xs:=lr) (hi:=fun _=>by show _<3;omega) (i:=l[l[i.toNat]!.a.toNat]!.key.toNat) (k:=1) (o:=0) (v:=(.str (wj l[l[i.toNat]!.a.toNat]!.key))) (hv:=fun _=>congrArg D.str (uK k4.1 k4.2.1)) ?_;refine qQ ?_;refine ay ?_;refine qQ ?_;refine aA ?_;refine cu ?_;rw[htx,if_neg hc0,if_pos hc1,if_pos hc2]
  try simp only[hO]at hc2
  refine b6 ?_;refine aj (hc:=h951 l l[i.toNat]!.a _ ⟨hk,hl15,by omega,by omega⟩ (by omega)) ?_;have hwx:=hwa (!decide (l[l[i.toNat]!.a.toNat]!.op=2));refine qQ ?_;refine aA ?_;refine cu ?_;rw[htx,if_neg hc0,if_pos hc1,if_neg hc2]
 simp only[decide_eq_false_iff_not]at hc1;have kb:=k3 hc0 hc1;have hlb:=tA hk hl15 (i:=l[i.toNat]!.b) (by omega) (by omega);have hwb:=fun b=>ng (j5 l l[i.toNat]!.b) b
 refine aA ?_;refine fQ (fun hc3=>?_) fun hc3=>?_
 ·refine ba ?_;refine cD l[i.toNat]!.a.toNat ?_;refine az ?_;refine aj (hc:=h951 l l[i.toNat]!.a _ ⟨hk,hl15,by omega,by omega⟩ (by omega)) ?_;have hwx:=hwa (decide (l[l[i.toNat]!.a.toNat]!.op=4));refine qQ ?_;refine aT ?_;refine cD l[i.toNat]!.b.toNat ?_;refine ba ?_;refine cD l[i.toNat]!.b.toNat ?_;refine aA ?_;refine aj (hc:=h951 l l[i.toNat]!.b _ ⟨hk,hl15,by omega,by omega⟩ (by omega)) ?_;have hwy:=hwb (decide (l[l[i.toNat]!.b.toNat]!.op=4) ||decide (l[l[i.toNat]!.b.toNat]!.op=3));refine qQ ?_;refine aA ?_;refine cu ?_;rw[htx,if_neg hc0,if_neg hc1,if_pos hc3]
 refine aT ?_;refine aj (hc:=h811 l l[i.toNat]!.a ⟨hk,hl15,by omega,by omega⟩ (by omega)) ?_;refine qQ ?_;refine aT ?_;refine cD l[i.toNat]!.b.toNat ?_;refine az ?_;refine aj (hc:=h951 l l[i.toNat]!.b _ ⟨hk,hl15,by omega,by omega⟩ (by omega)) ?_;have hwy:=hwb (decide (l[l[i.toNat]!.b.toNat]!.op=4));refine qQ ?_;refine az ?_;refine cu ?_;rw[htx,if_neg hc0,if_neg hc1,if_neg hc3]
end Go.Abs
end
section
namespace Go.Abs
open Go
end Go.Abs
end
section
namespace Go.Abs
open Go
def Cv:aB:=⟨1,18,jN,cn,(sq (r1 [gm dx] 1 0) (sq (sq (r1 [gm s0,gl l0,dz l1 (i6 15)] 2 2) (nG s2 dx)) (sq (r1 [gm s0,gl l0,gn (.mks 1 (.int .i64 0) l1 l1),gm l2] 7 3) (sq (sq (rg [gm s0,gl l0,gm bD] [(6,0),(4,1),(3,2)]) (.block 0 (.loop (sq (r1 [aU s3 s4] 5 0) (sq (iN s5 0) (sq (.block 1 (sq (rg [gm s3,ga 5 s6 s3,gk 5 true l1,gb 5 (.c (.agg [.int .i64 0,.int .i64 0,.int .i64 0,.int .i64 0,.str []])),gm l0,gt 5 l3 l2] [(9,3),(8,4)]) (sq (rg [gm s7,gm s8,gm s8,ga 1 l0 l1,gt 1 l3 l2] []) (sq (sq (r1 [gf 0 s9,gd l0] 10 1) (.block 2 (sq (r1 [aE lx b9,gm l0] 11 1) (.cond oz (sq (sq (r1 [gf 3 s9,gd l0,aU l1 bD,gm l2,kl 3 3 s9,lF 3 l4,cA 3 (xj l5 j7),fM l3 l6,gm l7,kl 8 4 s9,lF 8 l9,cA 8 (.call 349 [l10] cn),cA 8 (.un .not jK),fM l8 lu,gm nu,kl 14 1 s9,lF 14 oY,cA 14 (eJ q9 bD),fM n7 wo,gm wX,kl 19 2 s9,lF 19 A3,cA 19 (eJ Ch bD),fM y5 Ee] 12 23) (nG m8 dx)) (.exit 1)) (sq (r1 [aE lx kn,gm l0] 13 1) (.cond tn (sq (sq (r1 [gm s8,aU l0 b9,gm l1,kl 2 1 s9,lF 2 l3,eW 2 s8,cA 2 (lO l5 b9),cA 2 (eJ l4 l6),fM l2 l7,gm l8,kl 9 2 s9,lF 9 l10,cA 9 (eJ jK bD),fM l9 lu] 14 13) (nG rS dx)) (rg [gm s7,gm s8,gm s7,gm s8,eQ l3 b9,ga 1 l2 l4,gd l5,ga 1 l0 l1,gt 1 l7 l6] [])) (sq (sq (r1 [aE lx j7,gm l0] 15 1) (.cond vc .skip (r1 [aE lx tJ,gm l0] 15 1))) (.cond vc (sq (sq (r2 [gm s8,aU l0 kn,gm l1,kl 2 2 s9,lF 2 l3,eW 2 s8,cA 2 (lO l5 b9),cA 2 (eJ l4 l6),fM l2 l7,gm l8,eW 9 s7,eW 9 s8,cA 9 (lO jK b9),cA 9 (.ia 1 l10 lu),lF 9 nu,cA 9 (oD n7 b9),fM l9 oY,gm q9,kl 17 1 s9,lF 17 wX,eW 17 s7,eW 17 s8,cA 17 (lO Ch b9),cA 17 (.ia 1 A3 Ee),lF 17 Ia,cA 17 (lO Ib b9),cA 17 (eJ y5 Jv),fM wo Kz] 16 27) (nG Bn dx)) (rg [gm s7,gm s8,gm s7,gf 1 s9,gd l3,ga 1 l2 l4,gd l5,ga 1 l0 l1,gt 1 l7 l6] [])) (zH dx))))))))) (sq (r1 [gf 3 s9,gd l0,cl l1 bD,gm l2,kl 3 4 s9,lF 3 l4,cA 3 (eJ l5 cse),fM l3 l6] 17 7) (nG wY dx)))))) (r1 [av s3 b9,gm l0] 3 1))))))) (sq (r1 [gm s0,gl l0,aE l1 bD,gm l2,eW 3 s7,eW 3 s0,cA 3 (.len l5),cA 3 (lO l6 b9),cA 3 (.ia 1 l4 l7),lF 3 l8,cA 3 (cP l9 bD),fM l3 l10,gm jK] 1 12) .ret)))))⟩
def w810 {Γ:Ctx}(hm:(Γ.at 0).bm)(h349:y8 Γ)(l:List Nd)   :dS Γ Cv (.bool (decide (l.length≤15)&&mI l)) [.sl 5 (l.map Nd.D)]:=by
 show bx _ _ _ [⟨_,_⟩,_,_,_,_,_,_,_,_,_,_,_,_,_,_,_,_,_] _;refine ak ?_;refine aT ?_;intro u0;refine ay ?_;refine aq (fun hc0=>?_) (fun hc0=>?_)
 ·try simp only[hO]at hc0
  refine aR ?_;refine bL ?_;rw[show decide (l.length≤15)=false from decide_eq_false (by omega)];rfl
 simp only[decide_eq_false_iff_not]at hc0;have h15:l.length≤15:=by omega
 have hd15:decide (l.length≤15)=true:=decide_eq_true h15;refine aA ?_;intro u1;refine ML l.length ?_;refine aT ?_;intro u2;refine ay ?_;rw[show List.replicate l.length (D.int .i64 0)=(List.replicate l.length (0:Int)).map (D.int .i64)by simp];refine bq hm (ι:=(Nat×List Int×List Int)) (fun p=>[⟨true,.sl 5 (l.map Nd.D)⟩,.un,.un,⟨true,.int .i64 (p.1:Nat)⟩,⟨true,.int .i64 (l.length:Nat)⟩,.un,⟨true,.sl 5 (l.map Nd.D)⟩,⟨true,.own 0 1 0 l.length⟩,.un,.un,.un,.un,.un,.un,.un,.un,.un,.un]) (fun p=>[(0,.buf 1 (p.2.1.map (D.int .i64)))]) 11 (fun p=>p.1≤l.length∧p.2.1.length=l.length∧wV p.2.1 (p.1:Nat) p.2.2.reverse∧jM l 0 []=jM (l.drop p.1) p.1 p.2.2) (fun p=>l.length-p.1) (0,List.replicate l.length 0,[]) ⟨by simp,by simp,rfl,by simp⟩ (aL.to [(6,0)] ae ae dM (by refine aC.nl 6 ae ae ae bT ?_;exact aC.nil)) ?_;rintro⟨i,S,o⟩ ⟨hi,hS,hc,hr⟩;dsimp only at hi hS hc hr⊢;refine az ?_;refine cF (fun hc1=>?_) fun hc1=>?_
 ·refine aR ?_;first|refine ca (v:=(Nd.D _)) ?_|refine gB (v:=(Nd.D _)) ?_
  refine ay ?_;refine aF (Nd.D l[i]!) (he:=by exact rfl) ?_;refine aR ?_;refine kA i ?_;refine Bg ((S.set i (i:Int)).map (D.int .i64)) (hi:=by simp;omega) (he:=rT (by omega) _) ?_;have hch:wV (S.set i (i:Int)) (i:Nat) o.reverse:=vV (Int.le_refl _) hc;have hSl:(S.set i (i:Int)).length=l.length:=by simp[hS]
  refine b6 ?_;obtain⟨t1,t2⟩:=oJ hch;obtain⟨u1,u2⟩:=vW hch;refine az ?_;refine wp_cond (fun hc2=>?_) (fun hc2=>?_)
  ·simp only[decide_eq_true_eq]at hc2;have hq1:=hc2;refine lB ?_;refine aj (hc:=h349 _) ?_;refine lB ?_;refine aq (fun hc3=>?_) (fun hc3=>?_)
   ·have hlf:nH l[i]! =false:=by rw[A5 hq1,hc3];rfl
    refine b6 ?_;refine bL ?_;rw[hd15];symm;refine fH ?_;rw[hr];refine dU (by omega) ?_;exact wL hq1 hlf
   have hlf:nH l[i]! =true:=by rw[A5 hq1,hc3];rfl
   refine dh ?_;have hs:gC l[i]! i o=some (o++[(i:Int)]):=by exact At hlf
   have hp:wV (S.set i (i:Int)) ((i+1:Nat):Int) ((o++[(i:Int)])).reverse:=by
    rw[List.reverse_append,List.reverse_singleton,List.singleton_append];exact oI (by omega) (by omega) (Int.le_refl _) hc
   exact⟨(i+1,(S.set i (i:Int)),(o++[(i:Int)])),⟨by dsimp only;omega,by simp[hS],hp,by rw[hr];exact jv (by omega) hs⟩,by dsimp only;omega,(aL.to [(0,0)] ae ae dM (by(first|refine aC.cZ ae ae bT ?_|refine aC.lK ae ae ae ?_|refine aC.py ae ae ae ae ?_);exact aC.nil))⟩
  simp only[decide_eq_false_iff_not]at hc2;have hq1:=hc2;refine aA ?_;refine wp_cond (fun hc4=>?_) (fun hc4=>?_)
  ·simp only[decide_eq_true_eq]at hc4;have hq2:=hc4;refine FI ?_;refine aq (fun hc5=>?_) (fun hc5=>?_)
   ·try simp only[hO]at hc5
    refine b6 ?_;refine bL ?_;rw[hd15];symm;refine fH ?_;rw[hr];refine dU (by omega) ?_;rw[qm hch hq2,if_neg];rintro⟨⟨g1,g2,g3⟩,g4⟩;omega
   simp only[Bool.or_eq_false_iff,decide_eq_false_iff_not,Bool.not_eq_false',decide_eq_true_eq]at hc5;refine ba ?_;refine kA (i-1) ?_;refine qI (q:=D.int .i64) (xs:=(S.set i (i:Int))) (v:=(.int .i64 (S.set i (i:Int))[i-1]!)) (hi:=fun _=>by omega) (hv:=fun _=>by rw[Nat.zero_add];rfl) ?_;refine kA i ?_;refine Bg (((S.set i (i:Int)).set i (S.set i (i:Int))[i-1]!).map (D.int .i64)) (hi:=by simp;omega) (he:=rT (by omega) _) ?_;refine ix ?_;refine wp_cond (fun hc9=>?_) (fun hc9=>?_)
   ·have hb:gw l[i]! =false:=by simp only[Bool.or_eq_true,Bool.not_eq_true',decide_eq_false_iff_not]at hc9;simp only[gw,Bool.and_eq_false_iff,decide_eq_false_iff_not];exact hc9
    refine aT ?_;refine bL ?_;rw[hd15];symm;refine fH ?_;rw[hr];refine dU (by omega) ?_;rw[qm hch hq2,if_neg];rintro⟨⟨g1,g2,g3⟩,g4⟩;rw[hb]at g4;cases g4
   have hb:gw l[i]! =true:=by simp only[Bool.or_eq_false_iff,Bool.not_eq_false',decide_eq_true_eq]at hc9;simp only[gw,hc9.1,hc9.2,decide_true,Bool.and_self]
   refine ba ?_;have hs:gC l[i]! i o=some (o.take (o.length-1)++[(i:Int)]):=by rw[qm hch hq2,if_pos ⟨⟨by omega,by omega,by omega⟩,hb⟩]
   have hp:wV ((S.set i (i:Int)).set i (S.set i (i:Int))[i-1]!) ((i+1:Nat):Int) ((o.take (o.length-1)++[(i:Int)])).reverse:=by
    rw[List.reverse_append,List.reverse_singleton,List.singleton_append];obtain⟨y1,y2,y3,y4⟩:=t2 (by omega);exact oI (by omega) y2 (by omega) y4
   exact⟨(i+1,((S.set i (i:Int)).set i (S.set i (i:Int))[i-1]!),(o.take (o.length-1)++[(i:Int)])),⟨by dsimp only;omega,by simp[hS],hp,by rw[hr];exact jv (by omega) hs⟩,by dsimp only;omega,(aL.to [(0,0)] ae ae dM (by(first|refine aC.cZ ae ae bT ?_|refine aC.lK ae ae ae ?_|refine aC.py ae ae ae ae ?_);exact aC.nil))⟩
  simp only[decide_eq_false_iff_not]at hc4;have hq2:=hc4;refine aR ?_;refine cF (fun hc6=>?_) fun hc6=>?_
  ·refine ax ?_;refine fQ (fun hc7=>?_) fun hc7=>?_
   ·refine yW ?_;refine kA (i-1) ?_;refine qI (q:=D.int .i64) (xs:=(S.set i (i:Int))) (v:=(.int .i64 (S.set i (i:Int))[i-1]!)) (hi:=fun h=>by simp at h;omega) (hv:=fun _=>by rw[Nat.zero_add];rfl) ?_;refine b6 ?_;refine kA (i-1) ?_;refine qI (q:=D.int .i64) (xs:=(S.set i (i:Int))) (v:=(.int .i64 (S.set i (i:Int))[i-1]!)) (hi:=fun h=>by simp at h;omega) (hv:=fun _=>by rw[Nat.zero_add];rfl) ?_;refine aA ?_;refine aq (fun hc8=>?_) (fun hc8=>?_)
    ·have hq34:l[i]!.op=3∨l[i]!.op=4:=by omega
     simp only[Bool.or_eq_true,decide_eq_true_eq,Bool.not_eq_true',decide_eq_false_iff_not]at hc8;refine b6 ?_;refine bL ?_;rw[hd15];symm;refine fH ?_;rw[hr];refine dU (by omega) ?_;rw[jh hch hq34,if_neg];rintro⟨⟨g1,g2,g3,g4⟩,g5⟩;omega
    simp only[Bool.or_eq_false_iff,decide_eq_false_iff_not,Bool.not_eq_false',decide_eq_true_eq]at hc8;have hq34:l[i]!.op=3∨l[i]!.op=4:=by omega
    have hk2:=u1.2 ⟨by omega,by omega⟩;obtain⟨w1,w2,w3,w4⟩:=u2 hk2;obtain⟨y1,y2,y3,y4⟩:=t2 (by omega);refine ba ?_;refine kA l[i]!.a.toNat ?_;refine qI (q:=D.int .i64) (xs:=(S.set i (i:Int))) (v:=(.int .i64 (S.set i (i:Int))[l[i]!.a.toNat]!)) (hi:=fun _=>by omega) (hv:=fun _=>by rw[Nat.zero_add];rfl) ?_;refine kA i ?_;refine Bg (((S.set i (i:Int)).set i (S.set i (i:Int))[l[i]!.a.toNat]!).map (D.int .i64)) (hi:=by simp;omega) (he:=rT (by omega) _) ?_;refine ix ?_;refine wp_cond (fun hc9=>?_) (fun hc9=>?_)
    ·have hb:gw l[i]! =false:=by simp only[Bool.or_eq_true,Bool.not_eq_true',decide_eq_false_iff_not]at hc9;simp only[gw,Bool.and_eq_false_iff,decide_eq_false_iff_not];exact hc9
     refine aT ?_;refine bL ?_;rw[hd15];symm;refine fH ?_;rw[hr];refine dU (by omega) ?_;rw[jh hch hq34,if_neg];rintro⟨⟨g1,g2,g3,g4⟩,g5⟩;rw[hb]at g5;cases g5
    have hb:gw l[i]! =true:=by simp only[Bool.or_eq_false_iff,Bool.not_eq_false',decide_eq_true_eq]at hc9;simp only[gw,hc9.1,hc9.2,decide_true,Bool.and_self]
    refine ba ?_;have hs:gC l[i]! i o=some (o.take (o.length-2)++[(i:Int)]):=by rw[jh hch hq34,if_pos ⟨⟨by omega,by omega,by omega,by omega⟩,hb⟩]
    have hp:wV ((S.set i (i:Int)).set i (S.set i (i:Int))[l[i]!.a.toNat]!) ((i+1:Nat):Int) ((o.take (o.length-2)++[(i:Int)])).reverse:=by
     rw[List.reverse_append,List.reverse_singleton,List.singleton_append];rw[show l[i]!.a=(S.set i (i:Int))[i-1]! -1 by omega];exact oI (by omega) w2 (by omega) w4
    exact⟨(i+1,((S.set i (i:Int)).set i (S.set i (i:Int))[l[i]!.a.toNat]!),(o.take (o.length-2)++[(i:Int)])),⟨by dsimp only;omega,by simp[hS],hp,by rw[hr];exact jv (by omega) hs⟩,by dsimp only;omega,(aL.to [(0,0)] ae ae dM (by(first|refine aC.cZ ae ae bT ?_|refine aC.lK ae ae ae ?_|refine aC.py ae ae ae ae ?_);exact aC.nil))⟩
   refine ba ?_;refine bL ?_;exfalso;omega
  refine aA ?_;refine fQ (fun hc7=>?_) fun hc7=>?_
  ·refine yW ?_;refine kA (i-1) ?_;refine qI (q:=D.int .i64) (xs:=(S.set i (i:Int))) (v:=(.int .i64 (S.set i (i:Int))[i-1]!)) (hi:=fun h=>by simp at h;omega) (hv:=fun _=>by rw[Nat.zero_add];rfl) ?_;refine b6 ?_;refine kA (i-1) ?_;refine qI (q:=D.int .i64) (xs:=(S.set i (i:Int))) (v:=(.int .i64 (S.set i (i:Int))[i-1]!)) (hi:=fun h=>by simp at h;omega) (hv:=fun _=>by rw[Nat.zero_add];rfl) ?_;refine aA ?_;refine aq (fun hc8=>?_) (fun hc8=>?_)
   ·have hq34:l[i]!.op=3∨l[i]!.op=4:=by omega
    simp only[Bool.or_eq_true,decide_eq_true_eq,Bool.not_eq_true',decide_eq_false_iff_not]at hc8;refine b6 ?_;refine bL ?_;rw[hd15];symm;refine fH ?_;rw[hr];refine dU (by omega) ?_;rw[jh hch hq34,if_neg];rintro⟨⟨g1,g2,g3,g4⟩,g5⟩;omega
   simp only[Bool.or_eq_false_iff,decide_eq_false_iff_not,Bool.not_eq_false',decide_eq_true_eq]at hc8;have hq34:l[i]!.op=3∨l[i]!.op=4:=by omega
   have hk2:=u1.2 ⟨by omega,by omega⟩;obtain⟨w1,w2,w3,w4⟩:=u2 hk2;obtain⟨y1,y2,y3,y4⟩:=t2 (by omega);refine ba ?_;refine kA l[i]!.a.toNat ?_;refine qI (q:=D.int .i64) (xs:=(S.set i (i:Int))) (v:=(.int .i64 (S.set i (i:Int))[l[i]!.a.toNat]!)) (hi:=fun _=>by omega) (hv:=fun _=>by rw[Nat.zero_add];rfl) ?_;refine kA i ?_;refine Bg (((S.set i (i:Int)).set i (S.set i (i:Int))[l[i]!.a.toNat]!).map (D.int .i64)) (hi:=by simp;omega) (he:=rT (by omega) _) ?_;refine ix ?_;refine wp_cond (fun hc9=>?_) (fun hc9=>?_)
   ·have hb:gw l[i]! =false:=by simp only[Bool.or_eq_true,Bool.not_eq_true',decide_eq_false_iff_not]at hc9;simp only[gw,Bool.and_eq_false_iff,decide_eq_false_iff_not];exact hc9
    refine aT ?_;refine bL ?_;rw[hd15];symm;refine fH ?_;rw[hr];refine dU (by omega) ?_;rw[jh hch hq34,if_neg];rintro⟨⟨g1,g2,g3,g4⟩,g5⟩;rw[hb]at g5;cases g5
   have hb:gw l[i]! =true:=by simp only[Bool.or_eq_false_iff,Bool.not_eq_false',decide_eq_true_eq]at hc9;simp only[gw,hc9.1,hc9.2,decide_true,Bool.and_self]
   refine ba ?_;have hs:gC l[i]! i o=some (o.take (o.length-2)++[(i:Int)]):=by rw[jh hch hq34,if_pos ⟨⟨by omega,by omega,by omega,by omega⟩,hb⟩]
   have hp:wV ((S.set i (i:Int)).set i (S.set i (i:Int))[l[i]!.a.toNat]!) ((i+1:Nat):Int) ((o.take (o.length-2)++[(i:Int)])).reverse:=by
    rw[List.reverse_append,List.reverse_singleton,List.singleton_append];rw[show l[i]!.a=(S.set i (i:Int))[i-1]! -1 by omega];exact oI (by omega) w2 (by omega) w4
   exact⟨(i+1,((S.set i (i:Int)).set i (S.set i (i:Int))[l[i]!.a.toNat]!),(o.take (o.length-2)++[(i:Int)])),⟨by dsimp only;omega,by simp[hS],hp,by rw[hr];exact jv (by omega) hs⟩,by dsimp only;omega,(aL.to [(0,0)] ae ae dM (by(first|refine aC.cZ ae ae bT ?_|refine aC.lK ae ae ae ?_|refine aC.py ae ae ae ae ?_);exact aC.nil))⟩
  refine ba ?_;refine bL ?_;rw[hd15];symm;refine fH ?_;rw[hr];refine dU (by omega) ?_;exact yF hq1 hq2 (by omega) (by omega)
 refine az ?_;obtain rfl:i=l.length:=by omega
 obtain⟨t1,t2⟩:=oJ hc;obtain⟨u1,u2⟩:=vW hc;refine ay ?_;intro u3;refine aA ?_;refine ny ?_;refine ax ?_;refine kA (l.length-1) (hj:=fun h=>by have hz:¬l.length=0:=(fun hz=>by simp[hz]at h);omega) (hb:=fun h=>by have hz:¬l.length=0:=(fun hz=>by simp[hz]at h);omega) ?_;refine qI (q:=D.int .i64) (xs:=S) (v:=(.int .i64 S[l.length-1]!)) (hi:=fun h=>by have hz:¬l.length=0:=(fun hz=>by simp[hz]at h);omega) (hv:=fun _=>by rw[Nat.zero_add];rfl) ?_;refine aR ?_;refine bL ?_;rw[hd15];simp only[mI,hr,CH (Nat.le_refl l.length),Bool.true_and];exact(Fx t1 t2 u1).symm
def Lz (Γ:Ctx):Prop:=∀(l:List Nd),Γ.pre 810 [.sl 5 (l.map Nd.D)]∧Γ.val 810 [.sl 5 (l.map Nd.D)]=.bool (decide (l.length≤15)&&mI l)
end Go.Abs
end
section
namespace Go.Abs
open Go
def zU:aB:=⟨1,3,jN,cn,(sq (r1 [gm cse] 1 0) (sq (sq (r1 [gm s0,gl l0,aE l1 bD] 2 2) (nG s2 cse)) (sq (r1 [gm s0,gm s0,gl l1,eQ l2 b9,gx 811 [l0,l3] [[.sl 5 [.a,.a,.a,.a,.a]],[.a]],gm l4] 1 5) .ret)))⟩
def w662 {Γ:Ctx}(hm:(Γ.at 0).bm)(h811:LA Γ)(l:List Nd)  (hp0:fk l∧l.length≤15):dS Γ zU (.str (ov l)) [.sl 5 (l.map Nd.D)]:=by
 show bx _ _ _ [⟨_,_⟩,_,_] _;refine ak ?_;refine aT ?_;intro u0;refine ay ?_;refine cF (fun hc0=>?_) fun hc0=>?_
 ·refine aR ?_;refine cu ?_;simp only[ov];rw[if_pos (by omega)]
 refine aR ?_;intro u1;refine ax ?_;refine aj (hc:=h811 l ((l.length:Int) -1) ⟨hp0.1,hp0.2,by omega,by omega⟩) ?_;refine az ?_;refine cu ?_;simp only[ov];rw[if_neg (by omega)]
def IJ (Γ:Ctx):Prop:=∀(l:List Nd),(fk l∧l.length≤15)→Γ.pre 662 [.sl 5 (l.map Nd.D)]∧Γ.val 662 [.sl 5 (l.map Nd.D)]=.str (ov l)
def El:aB:=⟨1,3,jN,cn,(sq (rg [gb 1 s0,gm dx] [(2,0),(1,1)]) (sq (r1 [gf 0 s2,gd l0,gx 810 [l1] [[.sl 5 [.a,.a,.a,.a,.a]]],gm l2,rJ 3 0 s2,px 3 l4,cE 3 (.call 662 [l5] [[.sl 5 [.a,.a,.a,.a,.a]]]),cE 3 (.lenS l6),cE 3 (lN l7 (i6 96)),gp l3 l8,gm l9] 1 10) .ret))⟩
def w661 {Γ:Ctx}(hm:(Γ.at 0).bm)(h662:IJ Γ)(h810:Lz Γ)(m:HS)   :dS Γ El (.bool (ua m)) [jC m]:=by
 show bx _ _ _ [⟨_,_⟩,_,_] _;refine ak ?_;refine aT ?_;refine aj (hc:=h810 m) ?_;refine az ?_;refine en (hc:=fun hf=>h662 m (by simp only[Bool.and_eq_true,beq_iff_eq,decide_eq_true_eq,true_and]at hf;exact⟨tx hf.2,by omega⟩)) ?_;refine ny ?_;refine aR ?_;refine bL ?_;simp only[ua];congr 1;exact decide_eq_decide.2 (by omega)
def II (Γ:Ctx):Prop:=∀(m:HS),Γ.pre 661 [jC m]∧Γ.val 661 [jC m]=.bool (ua m)
def zT:aB:=⟨1,4,jN,cn,(sq (rg [gb 1 s0,gm cse] [(2,0),(1,1)]) (sq (sq (r1 [gk 1 true s2,gx 661 [l0] [[.sl 5 [.a,.a,.a,.a,.a]]],oy l1] 3 2) (nG s3 cse)) (sq (r1 [gf 0 s2,gd l0,gx 662 [l1] [[.sl 5 [.a,.a,.a,.a,.a]]],gm l2] 1 3) .ret)))⟩
def w446 {Γ:Ctx}(hm:(Γ.at 0).bm)(h661:II Γ)(h662:IJ Γ)(m:HS)   :dS Γ zT (.str (KB m)) [jC m]:=by
 show bx _ _ _ [⟨_,_⟩,_,_,_] _;refine ak ?_;refine aT ?_;refine aj (hc:=h661 m) ?_;refine ay ?_;refine aq (fun hc0=>?_) (fun hc0=>?_)
 ·simp only[Bool.not_eq_true']at hc0;refine aR ?_;refine cu ?_;simp[KB,hc0]
 simp only[Bool.not_eq_false']at hc0;have hfw:(decide (m.length≤15)&&mI m)=true:=by simp only[ua,Bool.and_eq_true]at hc0;simp only[Bool.and_eq_true];exact hc0.1
 simp only[Bool.and_eq_true,decide_eq_true_eq]at hfw;refine aA ?_;refine aj (hc:=h662 m ⟨tx hfw.2,hfw.1⟩) ?_;refine az ?_;refine cu ?_;simp[KB,hc0]
def K2 (Γ:Ctx):Prop:=∀(m:HS),Γ.pre 446 [jC m]∧Γ.val 446 [jC m]=.str (KB m)
end Go.Abs
end
section
namespace Go.Abs
open Go
def rb:aB:=⟨1,3,jN,cn,(sq (r1 [gm cse] 1 0) (sq (sq (r1 [gm s0,gc l0,gf 0 l1,gd l2,gl l3,aE l4 bD] 2 5) (nG s2 cse)) (sq (r1 [gm s0,gc l0,gf 0 l1,gd l2,ga 1 l3 bD,gd l4,gm l5] 1 6) .ret)))⟩
def w946 {Γ:Ctx}(hm:(Γ.at 0).bm)  (w:List ah)(es:List D)(b:Bool)   :dS Γ rb (.str (bH w)) [.ref 3 [dY w (.sl 5 es) b] 0 0]:=by
 show bx _ _ _ [⟨_,_⟩,_,_] _;refine ak ?_;refine ba ?_;refine gB (v:=.sl 1 (w.map D.str)) ?_;refine ax ?_;intro u0;refine ay ?_;refine cF (fun hc0=>?_) fun hc0=>?_
 ·refine aR ?_;refine cu ?_;have:w=[]:=List.length_eq_zero_iff.1 (by omega);subst this;rfl
 refine aR ?_;refine gB (v:=.sl 1 (w.map D.str)) ?_;refine cD 0 ?_;refine aA ?_;refine cu ?_
 match w,hc0 with
 |[],h=>exact absurd rfl h
 |x::r,_=>rfl
def IQ (Γ:Ctx):Prop:=∀(w:List ah)(es:List D)(b:Bool),Γ.pre 946 [.ref 3 [dY w (.sl 5 es) b] 0 0]∧Γ.val 946 [.ref 3 [dY w (.sl 5 es) b] 0 0]=.str (bH w)
def gJ:aB:=⟨1,4,jN,cn,(sq (r1 [gm cse] 1 0) (sq (r1 [gm s0,gx 946 [l0] [[.pt [.sl 1 [.a],.sl 5 [.a,.a,.a,.a,.a],.a]]],gm l1] 2 2) (sq (sq (r1 [gm s2,aE l0 cse] 3 1) (.cond s3 (sq (rg [gm s0,gc l0,gf 2 l1,gt 1 l2 tO] []) (zH cse)) .skip)) (sq (rg [gm s0,gm s0,gc l1,gf 0 l2,gd l3,gn (.slA 1 l4 (some b9) none),gc l0,gf 0 l6,gt 1 l7 l5] []) (sq (r1 [gm s2,gm l0] 1 1) .ret)))))⟩
def w947 {Γ:Ctx}(hm:(Γ.at 2).bm)(w:List ah)(nd:List Nd)(b:Bool)(h946:IQ (Γ.at 2))  :bx (Γ.at 2) gJ.body (nM gJ (HT 3 dY nd (fun o=>o=⟨0,aQ w,nd,bR w b⟩) (fun _=>.str (bH w))):Ex→List aW→St→Prop) (eu gJ [.ptr 0 3 0 0]) ⟨2,[(0,.buf 3 [dY w (.own 1 5 0 nd.length) b]),(1,.buf 5 (nd.map Nd.D))]⟩:=by
 show bx _ _ _ [⟨true,.ptr 0 3 0 0⟩,.un,.un,.un] ⟨2,[(0,.buf 3 [dY w (.own 1 5 0 nd.length) b]),(1,.buf 5 (nd.map Nd.D))]⟩;refine ak ?_;refine aA ?_;refine aj (hc:=h946 w _ b) (hp:=fun _=>Ew ae ae) ?_;refine ba ?_;refine cF (fun hc0=>?_) fun hc0=>?_
 ·refine aR ?_;refine aF (dY w (.own 1 5 0 nd.length) true) (he:=by exact rfl) ?_;refine aT ?_;refine dW trivial ik (Eq.trans ae (congrArg D.str ?_)) ae ⟨⟨0,aQ w,nd,bR w b⟩,rfl,rfl,by simp only[aQ,bR,hc0,if_true];rfl,rfl⟩;exact hc0.symm
 refine aT ?_;refine ch (v:=.sl 1 (w.map D.str)) ?_;refine te 1 (hb:=fun _=>by have:=Fs hc0;omega) ?_;refine ay ?_;refine aF (dY (w.drop 1) (.own 1 5 0 nd.length) b) (he:=by exact rfl) ?_;refine aT ?_;refine dW trivial ik (Eq.trans ae (congrArg D.str ?_)) ae ⟨⟨0,aQ w,nd,bR w b⟩,rfl,rfl,by simp only[aQ,bR,hc0,if_false];rfl,rfl⟩;rfl
def BB (Γ:Ctx):Prop:=∀(w:List ah)(nd:List Nd)(b:Bool),Mi Γ 3 dY 947 [] w nd b (fun o=>o=⟨0,aQ w,nd,bR w b⟩) (fun _=>.str (bH w))
def iF:aB:=⟨2,4,[⟨2,none⟩],cn,(sq (rg [gb 5 s1,gm bD] [(3,0),(2,1)]) (sq (rt [gm s0,gm s0,gc l1,gf 1 l2,gd l3,gk 5 true s3,gn (.bsl 5 (.agg [.int .i64 0,.int .i64 0,.int .i64 0,.int .i64 0,.str []]) 1 [(0,l5)]),gn (.app 5 l4 l6),gc l0,gf 1 l8,gt 1 l9 l7] []) (sq (r1 [gm s0,gc l0,gf 1 l1,gd l2,gl l3,eQ l4 b9,gm l5] 2 6) .ret)))⟩
def w948 {Γ:Ctx}(hm:(Γ.at 2).bm)(x:Nd)(w:List ah)(nd:List Nd)(b:Bool)  (hp0:nd.length≤2000):bx (Γ.at 2) iF.body (nM iF (zc 3 dY (fun o=>o=⟨(nd.length:Nat),w,nd++[x],b⟩) Va):Ex→List aW→St→Prop) (eu iF [.ptr 0 3 0 0,Nd.D x]) ⟨2,[(0,.buf 3 [dY w (.own 1 5 0 nd.length) b]),(1,.buf 5 (nd.map Nd.D))]⟩:=by
 show bx _ _ _ [⟨true,.ptr 0 3 0 0⟩,⟨true,Nd.D x⟩,.un,.un] ⟨2,[(0,.buf 3 [dY w (.own 1 5 0 nd.length) b]),(1,.buf 5 (nd.map Nd.D))]⟩;refine ak ?_;refine b6 ?_;refine ch (v:=.own 1 5 0 nd.length) ?_;refine cy (d:=Nd.D x) ?_;refine ct [Nd.D x] ?_;refine iH (q:=Nd.D) (xs:=nd) (e:=x) ?_;refine ay ?_;refine aF (dY w (.own 11 5 0 (nd++[x]).length) b) (he:=by exact rfl) ?_;refine aR ?_;refine ch (v:=.own 11 5 0 (nd++[x]).length) ?_;refine ax ?_;intro u0;refine aA ?_;refine dW trivial ik (Eq.trans ae (congrArg (D.int .i64) ?_)) ae ⟨⟨(nd.length:Nat),w,nd++[x],b⟩,11,by decide,rfl,rfl,rfl,rfl⟩;simp
def Dn (Γ:Ctx):Prop:=∀(x:Nd)(w:List ah)(nd:List Nd)(b:Bool),nd.length≤2000→pC Γ 3 dY 948 [Nd.D x] w nd b (fun o=>o=⟨(nd.length:Nat),w,nd++[x],b⟩) Va
end Go.Abs
end
section
namespace Go.Abs
open Go
def jq:aB:=⟨2,14,[⟨2,none⟩],cn,(sq (r1 [gm bD] 2 0) (sq (rg [gm s0,gn (.callM 947 [l0]),gm s0,gn (.callM 947 [l2]),gm l1,gm l3] [(8,4),(9,5)]) (sq (sq (rg [gx 950 [] [],gl l0,gm bD] [(6,0),(4,1),(3,2)]) (.block 0 (.loop (sq (r1 [aU s3 s4] 5 0) (sq (iN s5 0) (sq (.block 1 (sq (rg [gm s3,ga 1 s6 s3,gd l1,gm l0,gm l2] [(11,3),(7,4)]) (sq (sq (r1 [gm s7,gm s1,cl l0 l1,gm l2,eW 3 s0,cA 3 (.nilck l4),kl 3 2 l5,lF 3 l6,fM l3 l7,gm l8,eW 9 s8,cA 9 (eJ l10 (cs [61])),eW 9 jK,gmt 12 s8,cE 12 (eJ nu (cs [33,61])),Dd 9 lu n7,fM l9 oY,gm q9,eW 17 s9,cA 17 (.call 349 [wX] cn),cA 17 (.un .not y5),fM wo A3] 10 21) (.cond lx (.exit 1) .skip)) (sq (r1 [gm s0,gm oz,gm s9,gn (.build [.int .i64 0,.int .i64 0,.int .i64 0,.int .i64 0,.str []] [(0,1,b9),(3,1,l1),(4,1,l2)]),gn (.callM 948 [l0,l3]),gm l4] 13 5) (sq (sq (r1 [gm s8,aE l0 (cs [33,61])] 12 1) (.cond m8 (r1 [gm s0,gm tn,gn (.build [.int .i64 0,.int .i64 0,.int .i64 0,.int .i64 0,.str []] [(0,1,kn),(1,1,l1)]),gn (.callM 948 [l0,l2]),gm l3] 13 4) .skip)) (sq (r1 [gm tn,gm l0] 2 1) .ret)))))) (r1 [av s3 b9,gm l0] 3 1))))))) (sq (rg [gm s0,gc l0,gf 2 l1,gt 1 l2 tO] []) (sq (r1 [gm bD] 2 0) .ret)))))⟩
def MX {Γ:Ctx}(hm:(Γ.at 2).bm)(k:ah)(w:List ah)(nd:List Nd)(b:Bool)(h349:y8 (Γ.at 2))(h947:BB (Γ.at 2))(h948:Dn (Γ.at 2))(h950:IU (Γ.at 2))(hp0:nd.length+2*w.length≤1000):bx (Γ.at 2) jq.body (nM jq (zc 3 dY (dI (jk b k w nd) w nd) Va):Ex→List aW→St→Prop) (eu jq [.ptr 0 3 0 0,.str k]) ⟨2,[(0,.buf 3 [dY w (.own 1 5 0 nd.length) b]),(1,.buf 5 (nd.map Nd.D))]⟩:=by
 show bx _ _ _ [⟨true,.ptr 0 3 0 0⟩,⟨true,.str k⟩,.un,.un,.un,.un,.un,.un,.un,.un,.un,.un,.un,.un] ⟨2,[(0,.buf 3 [dY w (.own 1 5 0 nd.length) b]),(1,.buf 5 (nd.map Nd.D))]⟩;refine ak ?_;refine aA ?_;refine cg (nx':=3) (v:=.str (bH w)) (m':=[(0,.buf 3 [dY (aQ w) (.own 1 5 0 nd.length) (bR w b)]),(1,.buf 5 (nd.map Nd.D))]) (hc:=fun K' hK=>h947 w nd b _ 0 1 _ K' ae ae (by simp only[List.length_cons,List.length_nil];omega) (by simp only[List.length_cons,List.length_nil];omega) (fun o ho=>by subst ho;exact hK)) (hn:=by decide) ?_;refine ax ?_;refine cg (nx':=3) (v:=.str (bH (aQ w))) (m':=[(0,.buf 3 [dY (aQ (aQ w)) (.own 1 5 0 nd.length) (bR (aQ w) (bR w b))]),(1,.buf 5 (nd.map Nd.D))]) (hc:=fun K' hK=>h947 (aQ w) nd (bR w b) _ 0 1 _ K' ae ae (by simp only[List.length_cons,List.length_nil];omega) (by simp only[List.length_cons,List.length_nil];omega) (fun o ho=>by subst ho;exact hK)) (hn:=by decide) ?_;refine aR ?_;refine aj (hc:=h950) ?_;refine ax ?_;intro u0;refine ay ?_;refine bq hm (ι:=Nat) (fun i=>[⟨true,.ptr 0 3 0 0⟩,⟨true,.str k⟩,.un,⟨true,.int .i64 (i:Nat)⟩,⟨true,.int .i64 3⟩,.un,⟨true,.sl 1 (lr.map D.str)⟩,.un,⟨true,.str (bH w)⟩,⟨true,.str (bH (aQ w))⟩,.un,.un,.un,.un]) (fun i=>[(0,.buf 3 [dY (aQ (aQ w)) (.own 1 5 0 nd.length) (bR (aQ w) (bR w b))]),(1,.buf 5 (nd.map Nd.D))]) 12 (fun i=>i≤3∧∀j,j<i→zI j k (bH w) (bH (aQ w)) (bR (aQ w) (bR w b))=false) (fun i=>3-i) 0 ⟨by omega,fun j hj=>by omega⟩ (aL.to [] ae ae dM (by(first|refine aC.cZ ae ae bT ?_|refine aC.lK ae ae ae ?_|refine aC.py ae ae ae ae ?_);(first|refine aC.cZ ae ae bT ?_|refine aC.lK ae ae ae ?_|refine aC.py ae ae ae ae ?_);exact aC.nil)) ?_;rintro i ⟨hi,hr⟩;refine az ?_;refine cF (fun hc0=>?_) fun hc0=>?_
 ·refine aA ?_;refine cD i (hb:=fun _=>by show _<3;omega) ?_;refine ca (q:=D.str) (xs:=lr) (i:=i) (k:=1) (o:=0) (hi:=fun _=>by show i<3;omega) (v:=(.str lr[i]!)) ?_;refine M3 ?_;refine aj (hc:=h349 _) ?_;refine az ?_;refine aq (fun hc1=>?_) (fun hc1=>?_)
  ·have hno:zI i k (bH w) (bH (aQ w)) (bR (aQ w) (bR w b))=false:=congrArg (!·) hc1;refine ba ?_;exact⟨i+1,⟨by omega,fun j hj=>by rcases Nat.lt_or_ge j i with h|h;exact hr j h;obtain rfl:j=i:=(by omega);exact hno⟩,by omega,(aL.to [] ae ae dM (by(first|refine aC.cZ ae ae bT ?_|refine aC.lK ae ae ae ?_|refine aC.py ae ae ae ae ?_);(first|refine aC.cZ ae ae bT ?_|refine aC.lK ae ae ae ?_|refine aC.py ae ae ae ae ?_);exact aC.nil))⟩
  have hyes:zI i k (bH w) (bH (aQ w)) (bR (aQ w) (bR w b))=true:=congrArg (!·) hc1;obtain⟨ha,hk,iz⟩:=D4 (nd:=nd) (w:=w) (b:=b) (show i<3 by omega) hyes;have hap:=AI w nd;have hl1:=hap.1;refine aR ?_;refine br (Nd.D ⟨1,0,0,(i:Nat),(bH (aQ w))⟩) ?_;refine cg (nx':=41) (v:=.int .i64 (nd.length:Nat)) (m':=[(44,.buf 5 ((nd++[(⟨1,0,0,(i:Nat),(bH (aQ w))⟩:Nd)]).map Nd.D)),(0,.buf 3 [dY (aQ (aQ w)) (.own 44 5 0 (nd++[(⟨1,0,0,(i:Nat),(bH (aQ w))⟩:Nd)]).length) (bR (aQ w) (bR w b))])]) (hc:=fun K' hK=>h948 ⟨1,0,0,(i:Nat),(bH (aQ w))⟩ (aQ (aQ w)) nd (bR (aQ w) (bR w b)) (by omega) _ 0 1 _ K' ae ae (by simp only[List.length_cons,List.length_nil];omega) (by simp only[List.length_cons,List.length_nil];omega) (fun o ho=>by subst ho;exact hK)) (hn:=by decide) ?_;refine ba ?_;refine aq (fun hc2=>?_) (fun hc2=>?_)
  ·simp only[decide_eq_true_eq]at hc2;have hat:jk b k w nd=some ((((nd++[(⟨1,0,0,(i:Nat),(bH (aQ w))⟩:Nd)]).length:Nat):Int),(aQ (aQ w)),((nd++[(⟨1,0,0,(i:Nat),(bH (aQ w))⟩:Nd)])++[(⟨2,(nd.length:Nat),0,0,[]⟩:Nd)])):=by rw[ha];simp only[xi,hk,if_pos hc2]
   refine az ?_;refine br (Nd.D ⟨2,(nd.length:Nat),0,0,[]⟩) ?_;refine cg (nx':=50) (v:=.int .i64 ((nd++[(⟨1,0,0,(i:Nat),(bH (aQ w))⟩:Nd)]).length:Nat)) (m':=[(52,.buf 5 (((nd++[(⟨1,0,0,(i:Nat),(bH (aQ w))⟩:Nd)])++[(⟨2,(nd.length:Nat),0,0,[]⟩:Nd)]).map Nd.D)),(0,.buf 3 [dY (aQ (aQ w)) (.own 52 5 0 ((nd++[(⟨1,0,0,(i:Nat),(bH (aQ w))⟩:Nd)])++[(⟨2,(nd.length:Nat),0,0,[]⟩:Nd)]).length) (bR (aQ w) (bR w b))])]) (hc:=fun K' hK=>h948 ⟨2,(nd.length:Nat),0,0,[]⟩ (aQ (aQ w)) (nd++[(⟨1,0,0,(i:Nat),(bH (aQ w))⟩:Nd)]) (bR (aQ w) (bR w b)) (by simp;omega) _ 0 44 _ K' ae ae (by simp only[List.length_cons,List.length_nil];omega) (by simp only[List.length_cons,List.length_nil];omega) (fun o ho=>by subst ho;exact hK)) (hn:=by decide) ?_;refine dh ?_;refine dW trivial ik (Eq.trans ae (congrArg (D.int .i64) ?_)) ae ⟨⟨((nd++[(⟨1,0,0,(i:Nat),(bH (aQ w))⟩:Nd)]).length:Nat),(aQ (aQ w)),((nd++[(⟨1,0,0,(i:Nat),(bH (aQ w))⟩:Nd)])++[(⟨2,(nd.length:Nat),0,0,[]⟩:Nd)]),(bR (aQ w) (bR w b))⟩,52,by decide,⟨.inl ⟨hat,iz⟩,r5 hat⟩,rfl,rfl,rfl⟩;rfl
  simp only[decide_eq_false_iff_not]at hc2;have hat:jk b k w nd=some (((nd.length:Nat):Int),(aQ (aQ w)),(nd++[(⟨1,0,0,(i:Nat),(bH (aQ w))⟩:Nd)])):=by rw[ha];simp only[xi,hk,if_neg hc2]
  refine b6 ?_;refine dW trivial ik (Eq.trans ae (congrArg (D.int .i64) ?_)) ae ⟨⟨(nd.length:Nat),(aQ (aQ w)),(nd++[(⟨1,0,0,(i:Nat),(bH (aQ w))⟩:Nd)]),(bR (aQ w) (bR w b))⟩,44,by decide,⟨.inl ⟨hat,iz⟩,r5 hat⟩,rfl,rfl,rfl⟩;rfl
 refine ay ?_;have hn:jk b k w nd=none:=GH (fun j hj=>hr j (by omega));refine fJ (aL.to (env':=[⟨true,.ptr 0 3 0 0⟩,.un,.un,.un,.un,.un,.un,.un,.un,.un,.un,.un,.un,.un]) (c:=90) (nx':=90) (m':=[(0,.buf 3 [dY (aQ (aQ w)) (.own 2 5 0 nd.length) (bR (aQ w) (bR w b))]),(2,.buf 5 (nd.map Nd.D))]) [(1,2)] rfl ae dM (by refine aC.lK ae ae ae ?_;refine aC.nl 1 ae ae rfl (by exact bn (fun _=>rfl) _) ?_;exact aC.nil)) ?_;refine aA ?_;refine aF (dY (aQ (aQ w)) (.own 2 5 0 nd.length) true) (he:=by exact rfl) ?_;refine aR ?_;refine dW trivial ik (Eq.trans ae (congrArg (D.int .i64) ?_)) ae ⟨⟨0,(aQ (aQ w)),nd,true⟩,2,by decide,⟨.inr ⟨hn,rfl⟩,AI w nd⟩,rfl,rfl,rfl⟩;rfl
def Dg (Γ:Ctx):Prop:=∀(k:ah)(w:List ah)(nd:List Nd)(b:Bool),nd.length+2*w.length≤1000→pC Γ 3 dY 1031 [.str k] w nd b (dI (jk b k w nd) w nd) Va
end Go.Abs
end
section
namespace Go.Abs
open Go
def C808 (Γ:Ctx):Prop:=(∀(w:List ah)(nd:List Nd),nd.length+2*w.length≤1000→pC Γ 3 dY 808 [.str yO,.int .i64 4,.fn 809 []] w nd false (dI (jl w nd) w nd) Va)∧(∀(w:List ah)(nd:List Nd),nd.length+2*w.length≤1000→pC Γ 3 dY 808 [.str qO,.int .i64 3,.fn 949 []] w nd false (dI (oG w nd) w nd) Va)
def Dl (Γ:Ctx)(u:Nat):Prop:=(∀(w:List ah)(nd:List Nd),nd.length+2*w.length≤1000→6*w.length+3<u→pC Γ 3 dY 808 [.str yO,.int .i64 4,.fn 809 []] w nd false (dI (jl w nd) w nd) Va)∧(∀(w:List ah)(nd:List Nd),nd.length+2*w.length≤1000→6*w.length+1<u→pC Γ 3 dY 808 [.str qO,.int .i64 3,.fn 949 []] w nd false (dI (oG w nd) w nd) Va)
def IH (Γ:Ctx):Prop:=∀(w:List ah)(nd:List Nd),nd.length+2*w.length≤1000→pC Γ 3 dY 660 [] w nd false (dI (jl w nd) w nd) Va
def HL (Γ:Ctx)(u:Nat):Prop:=∀(w:List ah)(nd:List Nd),nd.length+2*w.length≤1000→6*w.length+4<u→pC Γ 3 dY 660 [] w nd false (dI (jl w nd) w nd) Va
def C809 (Γ:Ctx):Prop:=∀(w:List ah)(nd:List Nd),nd.length+2*w.length≤1000→pC Γ 3 dY 809 [] w nd false (dI (oG w nd) w nd) Va
def Ly (Γ:Ctx)(u:Nat):Prop:=∀(w:List ah)(nd:List Nd),nd.length+2*w.length≤1000→6*w.length+2<u→pC Γ 3 dY 809 [] w nd false (dI (oG w nd) w nd) Va
def C949 (Γ:Ctx):Prop:=∀(w:List ah)(nd:List Nd),nd.length+2*w.length≤1000→pC Γ 3 dY 949 [] w nd false (dI (kM w nd) w nd) Va
def HN (Γ:Ctx)(u:Nat):Prop:=∀(w:List ah)(nd:List Nd),nd.length+2*w.length≤1000→6*w.length+0<u→pC Γ 3 dY 949 [] w nd false (dI (kM w nd) w nd) Va
def fV:aB:=⟨4,8,[⟨4,none⟩],cn,(sq (r1 [gm bD] 4 0) (sq (r1 [gm s3,gm s0,gn (.callvM l0 [l1]),gm l2] 6 3) (sq (.block 0 (.loop (sq (sq (r1 [gm s0,gc l0,gf 2 l1,gd l2,oy l3,gm l4,gmt 5 s0,cE 5 (.call 946 [l6] [[.pt [.sl 1 [.a],.sl 5 [.a,.a,.a,.a,.a],.a]]]),gmt 5 s1,cE 5 (cP l7 l8),gp l5 l9] 5 10) (iN s5 0)) (.block 1 (sq (rg [gm s0,gn (.callM 947 [l0])] []) (sq (r1 [gm s3,gm s0,gn (.callvM l0 [l1]),gm l2] 7 3) (r1 [gm s0,gm s2,gm s6,gm s7,gn (.build [.int .i64 0,.int .i64 0,.int .i64 0,.int .i64 0,.str []] [(0,1,l1),(1,1,l2),(2,1,l3)]),gn (.callM 948 [l0,l4]),gm l5] 6 6))))))) (sq (r1 [gm s6,gm l0] 4 1) .ret))))⟩
def take_cons {Γ:Ctx}(h:BB Γ){x:ah}(hx:x≠[])(r:List ah)(nd:List Nd)(b:Bool):Mi Γ 3 dY 947 [] (x::r) nd b (fun o=>o=⟨0,r,nd,b⟩) (fun _=>.str x):=by
 have:=h (x::r) nd b;rw[fD hx,fC hx]at this;exact this
def BI {bad:Bool}{w:List ah}{wd:ah}(h:(!bad&&decide (bH w=wd))=false):bad=true∨w.head? ≠some wd:=by
 cases bad with
 |true=>exact .inl rfl
 |false=>
  right;simp only[Bool.not_false,Bool.true_and,decide_eq_false_iff_not]at h
  match w,h with
  |[],_=>simp
  |x::r,h=>intro e;exact h (show x=wd by simpa using e)
def M0 {Γ:Ctx}(hm:(Γ.at 2).bm)(part:List ah→List Nd→PR)(pn:Nat)(wd:ah)(op:Int)(w:List ah)(nd:List Nd)(h946:IQ (Γ.at 2))(h947:BB (Γ.at 2))(h948:Dn (Γ.at 2))(hp0:nd.length+2*w.length≤1000)(hp1:qS part)(hp2:pn<1000000)(hp3:wd≠[])(hp4:∀(w2:List ah)(nd2:List Nd),w2.length≤w.length→nd2.length+2*w2.length≤1000→pC (Γ.at 2) 3 dY pn [] w2 nd2 false (dI (part w2 nd2) w2 nd2) Va):bx (Γ.at 2) fV.body (nM fV (zc 3 dY (dI (eM part wd op w nd) w nd) Va):Ex→List aW→St→Prop) (eu fV [.ptr 0 3 0 0,.str wd,.int .i64 op,.fn pn []]) ⟨2,[(0,.buf 3 [dY w (.own 1 5 0 nd.length) false]),(1,.buf 5 (nd.map Nd.D))]⟩:=by
 show bx _ _ _ [⟨true,.ptr 0 3 0 0⟩,⟨true,.str wd⟩,⟨true,.int .i64 op⟩,⟨true,.fn pn []⟩,.un,.un,.un,.un] ⟨2,[(0,.buf 3 [dY w (.own 1 5 0 nd.length) false]),(1,.buf 5 (nd.map Nd.D))]⟩;have hpn:vS pn=pn:=if_pos hp2;have hpa:∀UO:List D,tN pn UO []=UO:=fun UO=>by rw[tN,if_pos hp2,List.append_nil]
 refine ak ?_;refine aR ?_;refine jf (UO:=[.ptr 0 3 0 0]) (dI (part w nd) w nd) Va 4 (fun o=>[(5,.buf 5 (o.nd.map Nd.D)),(0,.buf 3 [dY o.w (.own 5 5 0 o.nd.length) o.bad])]) (fun o0 ho0=>?_) (hc:=fun K' hK=>by rw[hpn];exact hp4 w nd (Nat.le_refl _) (by omega) _ 0 1 _ K' ae ae (by simp only[List.length_cons,List.length_nil];omega) (by simp only[List.length_cons,List.length_nil];omega) (fun o ho=>hK o ho)) (hn:=by decide) (ha:=hpa _);refine ay ?_;refine bq hm (ι:=PO) (fun o=>[⟨true,.ptr 0 3 0 0⟩,⟨true,.str wd⟩,⟨true,.int .i64 op⟩,⟨true,.fn pn []⟩,.un,.un,⟨true,.int .i64 o.a⟩,.un]) (fun o=>[(0,.buf 3 [dY o.w (.own 2 5 0 o.nd.length) o.bad]),(2,.buf 5 (o.nd.map Nd.D))]) 8 (fun o=>FK part wd op (eM part wd op w nd) w nd o) (fun o=>o.w.length) o0 (FK.first ho0) (aL.to [(5,2)] ae ae dM (by(first|refine aC.cZ ae ae bT ?_|refine aC.lK ae ae ae ?_|refine aC.py ae ae ae ae ?_);refine aC.nl 5 ae ae ae bT ?_;exact aC.nil)) ?_;rintro⟨a,w1,nd1,bad⟩ hI;dsimp only;have hpb:=hI.2;have hl1:=hpb.1;have hl2:=hpb.2.1;dsimp only at hl1 hl2;refine dh ?_;refine en (hc:=fun _=>h946 w1 _ bad) (hp:=fun _=>Ew ae ae) ?_;refine aA ?_;refine aq (fun hc0=>?_) (fun hc0=>?_)
 ·simp only[Bool.and_eq_true,Bool.not_eq_true',decide_eq_true_eq]at hc0;obtain⟨rfl,hts⟩:=hc0;obtain⟨r,rfl⟩:=na hp3 hts;simp only[List.length_cons]at hl1 hl2;refine aA ?_;refine cg (nx':=19) (v:=.str wd) (m':=[(0,.buf 3 [dY r (.own 2 5 0 nd1.length) false]),(2,.buf 5 (nd1.map Nd.D))]) (hc:=fun K' hK=>take_cons h947 hp3 r nd1 false _ 0 2 _ K' ae ae (by simp only[List.length_cons,List.length_nil];omega) (by simp only[List.length_cons,List.length_nil];omega) (fun o ho=>by subst ho;exact hK)) (hn:=by decide) ?_;refine aA ?_;refine jf (UO:=[.ptr 0 3 0 0]) (dI (part r nd1) r nd1) Va 22 (fun o=>[(23,.buf 5 (o.nd.map Nd.D)),(0,.buf 3 [dY o.w (.own 23 5 0 o.nd.length) o.bad])]) (fun o2 ho2=>?_) (hc:=fun K' hK=>by rw[hpn];exact hp4 r nd1 (by omega) (by omega) _ 0 2 _ K' ae ae (by simp only[List.length_cons,List.length_nil];omega) (by simp only[List.length_cons,List.length_nil];omega) (fun o ho=>hK o ho)) (hn:=by decide) (ha:=hpa _);have hl3:=ho2.2.2.1;have hl4:=ho2.2.1;refine ba ?_;refine br (Nd.D (⟨op,a,o2.a,0,[]⟩:Nd)) ?_;refine cg (nx':=27) (v:=.int .i64 (o2.nd.length:Nat)) (m':=[(31,.buf 5 ((o2.nd++[(⟨op,a,o2.a,0,[]⟩:Nd)]).map Nd.D)),(0,.buf 3 [dY o2.w (.own 31 5 0 (o2.nd++[(⟨op,a,o2.a,0,[]⟩:Nd)]).length) o2.bad])]) (hc:=fun K' hK=>h948 (⟨op,a,o2.a,0,[]⟩:Nd) o2.w o2.nd o2.bad (by omega) _ 0 23 _ K' ae ae (by simp only[List.length_cons,List.length_nil];omega) (by simp only[List.length_cons,List.length_nil];omega) (fun o ho=>by subst ho;exact hK)) (hn:=by decide) ?_;refine aA ?_;exact⟨⟨(o2.nd.length:Nat),o2.w,o2.nd++[(⟨op,a,o2.a,0,[]⟩:Nd)],o2.bad⟩,FK.next hp1 hI ho2,by dsimp only;simp only[List.length_cons];omega,(aL.to [(31,2)] ae ae dM (by(first|refine aC.cZ ae ae bT ?_|refine aC.lK ae ae ae ?_|refine aC.py ae ae ae ae ?_);refine aC.nl 31 ae ae ae bT ?_;exact aC.nil))⟩
 have hx:=BI hc0;refine ba ?_;refine dW trivial ik (Eq.trans ae (congrArg (D.int .i64) ?_)) ae ⟨⟨a,w1,nd1,bad⟩,2,by decide,hI.last hx,rfl,rfl,rfl⟩;rfl
def iE:aB:=⟨1,2,jN,cn,(sq (r1 [gm bD] 1 0) (sq (r1 [gm s0,gn (.callM 808 [l0,(cs [111,114]),tJ,(.c (.fn 809 []))]),gm l1] 1 2) .ret))⟩
def w660 {Γ:Ctx}(hm:(Γ.at 2).bm)(w:List ah)(nd:List Nd)(h808:Dl (Γ.at 2) (6*w.length+4))(hp0:nd.length+2*w.length≤1000):bx (Γ.at 2) iE.body (nM iE (zc 3 dY (dI (jl w nd) w nd) Va):Ex→List aW→St→Prop) (eu iE [.ptr 0 3 0 0]) ⟨2,[(0,.buf 3 [dY w (.own 1 5 0 nd.length) false]),(1,.buf 5 (nd.map Nd.D))]⟩:=by
 show bx _ _ _ [⟨true,.ptr 0 3 0 0⟩,.un] ⟨2,[(0,.buf 3 [dY w (.own 1 5 0 nd.length) false]),(1,.buf 5 (nd.map Nd.D))]⟩;refine ak ?_;refine aA ?_;refine kv (dI (jl w nd) w nd) Va 4 (fun o=>[(4,.buf 5 (o.nd.map Nd.D)),(0,.buf 3 [dY o.w (.own 4 5 0 o.nd.length) o.bad])]) (fun o1 ho1=>?_) (hc:=fun K' hK=>h808.1 w nd hp0 (by omega) _ 0 1 _ K' ae ae (by simp only[List.length_cons,List.length_nil];omega) (by simp only[List.length_cons,List.length_nil];omega) (fun o ho=>hK o ho)) (hn:=by decide);refine az ?_;refine dW trivial ik (Eq.trans ae (congrArg (D.int .i64) ?_)) ae ⟨o1,4,by decide,ho1,rfl,rfl,rfl⟩;rfl
def gI:aB:=⟨1,2,jN,cn,(sq (r1 [gm bD] 1 0) (sq (r1 [gm s0,gn (.callM 808 [l0,(cs [97,110,100]),j7,(.c (.fn 949 []))]),gm l1] 1 2) .ret))⟩
def w809 {Γ:Ctx}(hm:(Γ.at 2).bm)(w:List ah)(nd:List Nd)(h808:Dl (Γ.at 2) (6*w.length+2))(hp0:nd.length+2*w.length≤1000):bx (Γ.at 2) gI.body (nM gI (zc 3 dY (dI (oG w nd) w nd) Va):Ex→List aW→St→Prop) (eu gI [.ptr 0 3 0 0]) ⟨2,[(0,.buf 3 [dY w (.own 1 5 0 nd.length) false]),(1,.buf 5 (nd.map Nd.D))]⟩:=by
 show bx _ _ _ [⟨true,.ptr 0 3 0 0⟩,.un] ⟨2,[(0,.buf 3 [dY w (.own 1 5 0 nd.length) false]),(1,.buf 5 (nd.map Nd.D))]⟩;refine ak ?_;refine aA ?_;refine kv (dI (oG w nd) w nd) Va 4 (fun o=>[(4,.buf 5 (o.nd.map Nd.D)),(0,.buf 3 [dY o.w (.own 4 5 0 o.nd.length) o.bad])]) (fun o1 ho1=>?_) (hc:=fun K' hK=>h808.2 w nd hp0 (by omega) _ 0 1 _ K' ae ae (by simp only[List.length_cons,List.length_nil];omega) (by simp only[List.length_cons,List.length_nil];omega) (fun o ho=>hK o ho)) (hn:=by decide);refine az ?_;refine dW trivial ik (Eq.trans ae (congrArg (D.int .i64) ?_)) ae ⟨o1,4,by decide,ho1,rfl,rfl,rfl⟩;rfl
def iD:aB:=⟨1,10,jN,cn,(sq (r1 [gm bD] 1 0) (sq (sq (r1 [gm s0,gc l0,gf 2 l1,gd l2] 2 3) (nG s2 bD)) (sq (r1 [gm s0,gn (.callM 947 [l0]),gm l1] 3 2) (sq (r1 [gm s3] 4 0) (.block 0 (sq (r1 [aE s4 (cs [110,111,116]),gm l0] 5 1) (.cond s5 (sq (r1 [gm s0,gn (.callM 949 [l0]),gm l1] 6 2) (sq (r1 [gm s0,gm s6,gn (.build [.int .i64 0,.int .i64 0,.int .i64 0,.int .i64 0,.str []] [(0,1,kn),(1,1,l1)]),gn (.callM 948 [l0,l2]),gm l3] 1 4) .ret)) (sq (r1 [aE s4 (cs [40]),gm l0] 7 1) (.cond s7 (sq (r1 [gm s0,gn (.callM 660 [l0]),gm l1] 9 2) (sq (sq (r1 [gm s0,gn (.callM 947 [l0]),cl l1 (cs [41])] 8 2) (.cond s8 (rg [gm s0,gc l0,gf 2 l1,gt 1 l2 tO] []) .skip)) (sq (r1 [gm s9,gm l0] 1 1) .ret))) (sq (r1 [gm s0,gm s3,gn (.callM 1031 [l0,l1]),gm l2] 1 3) .ret))))))))))⟩
def w949 {Γ:Ctx}(hm:(Γ.at 2).bm)(w:List ah)(nd:List Nd)(h660:HL (Γ.at 2) (6*w.length))(h947:BB (Γ.at 2))(h948:Dn (Γ.at 2))(h949:HN (Γ.at 2) (6*w.length))(h1031:Dg (Γ.at 2))(hp0:nd.length+2*w.length≤1000):bx (Γ.at 2) iD.body (nM iD (zc 3 dY (dI (kM w nd) w nd) Va):Ex→List aW→St→Prop) (eu iD [.ptr 0 3 0 0]) ⟨2,[(0,.buf 3 [dY w (.own 1 5 0 nd.length) false]),(1,.buf 5 (nd.map Nd.D))]⟩:=by
 show bx _ _ _ [⟨true,.ptr 0 3 0 0⟩,.un,.un,.un,.un,.un,.un,.un,.un,.un] ⟨2,[(0,.buf 3 [dY w (.own 1 5 0 nd.length) false]),(1,.buf 5 (nd.map Nd.D))]⟩;refine ak ?_;refine dh ?_;refine aq (fun hc0=>?_) (fun hc0=>?_)
 ·skip
  exact absurd hc0 (by decide)
 skip
 refine az ?_;refine cg (nx':=7) (v:=.str (bH w)) (m':=[(0,.buf 3 [dY (aQ w) (.own 1 5 0 nd.length) (bR w false)]),(1,.buf 5 (nd.map Nd.D))]) (hc:=fun K' hK=>h947 w nd false _ 0 1 _ K' ae ae (by simp only[List.length_cons,List.length_nil];omega) (by simp only[List.length_cons,List.length_nil];omega) (fun o ho=>by subst ho;exact hK)) (hn:=by decide) ?_;refine iT ?_;refine wp_cond (fun hc1=>?_) (fun hc1=>?_)
 ·simp only[decide_eq_true_eq]at hc1;obtain⟨r,rfl⟩:=na (by decide) hc1;rw[fD (by decide),fC (by decide)];simp only[List.length_cons]at hp0;refine ay ?_;refine kv (dI (kM r nd) r nd) Va 14 (fun o=>[(14,.buf 5 (o.nd.map Nd.D)),(0,.buf 3 [dY o.w (.own 14 5 0 o.nd.length) o.bad])]) (fun o1 ho1=>?_) (hc:=fun K' hK=>h949 r nd (by omega) (by simp only[List.length_cons];omega) _ 0 1 _ K' ae ae (by simp only[List.length_cons,List.length_nil];omega) (by simp only[List.length_cons,List.length_nil];omega) (fun o ho=>hK o ho)) (hn:=by decide);have hl3:=ho1.2.2.1;have hl4:=ho1.2.1;refine aR ?_;refine br (Nd.D (⟨2,o1.a,0,0,[]⟩:Nd)) ?_;refine cg (nx':=18) (v:=.int .i64 (o1.nd.length:Nat)) (m':=[(20,.buf 5 ((o1.nd++[(⟨2,o1.a,0,0,[]⟩:Nd)]).map Nd.D)),(0,.buf 3 [dY o1.w (.own 20 5 0 (o1.nd++[(⟨2,o1.a,0,0,[]⟩:Nd)]).length) o1.bad])]) (hc:=fun K' hK=>h948 (⟨2,o1.a,0,0,[]⟩:Nd) o1.w o1.nd o1.bad (by omega) _ 0 14 _ K' ae ae (by simp only[List.length_cons,List.length_nil];omega) (by simp only[List.length_cons,List.length_nil];omega) (fun o ho=>by subst ho;exact hK)) (hn:=by decide) ?_;refine aA ?_;refine dW trivial ik (Eq.trans ae (congrArg (D.int .i64) ?_)) ae ⟨⟨(o1.nd.length:Nat),o1.w,o1.nd++[(⟨2,o1.a,0,0,[]⟩:Nd)],o1.bad⟩,20,by decide,He ho1,rfl,rfl,rfl⟩;rfl
 simp only[decide_eq_false_iff_not]at hc1;refine aA ?_;refine wp_cond (fun hc2=>?_) (fun hc2=>?_)
 ·simp only[decide_eq_true_eq]at hc2;obtain⟨r,rfl⟩:=na (by decide) hc2;rw[fD (by decide),fC (by decide)];simp only[List.length_cons]at hp0;refine ay ?_;refine kv (dI (jl r nd) r nd) Va 16 (fun o=>[(16,.buf 5 (o.nd.map Nd.D)),(0,.buf 3 [dY o.w (.own 16 5 0 o.nd.length) o.bad])]) (fun o1 ho1=>?_) (hc:=fun K' hK=>h660 r nd (by omega) (by simp only[List.length_cons];omega) _ 0 1 _ K' ae ae (by simp only[List.length_cons,List.length_nil];omega) (by simp only[List.length_cons,List.length_nil];omega) (fun o ho=>hK o ho)) (hn:=by decide);refine aR ?_;refine cg (nx':=19) (v:=.str (bH o1.w)) (m':=[(16,.buf 5 (o1.nd.map Nd.D)),(0,.buf 3 [dY (aQ o1.w) (.own 16 5 0 o1.nd.length) (bR o1.w o1.bad)])]) (hc:=fun K' hK=>h947 o1.w o1.nd o1.bad _ 0 16 _ K' ae ae (by simp only[List.length_cons,List.length_nil];omega) (by simp only[List.length_cons,List.length_nil];omega) (fun o ho=>by subst ho;exact hK)) (hn:=by decide) ?_;refine ay ?_;refine aq (fun hc3=>?_) (fun hc3=>?_)
  ·simp only[Bool.not_eq_true',decide_eq_false_iff_not]at hc3;refine aA ?_;refine aF (dY (aQ o1.w) (.own 16 5 0 o1.nd.length) true) (he:=by exact rfl) ?_;refine ba ?_;refine dW trivial ik (Eq.trans ae (congrArg (D.int .i64) ?_)) ae ⟨⟨o1.a,aQ o1.w,o1.nd,true⟩,16,by decide,yf ho1 hc3,rfl,rfl,rfl⟩;rfl
  simp only[Bool.not_eq_false',decide_eq_true_eq]at hc3;refine ba ?_;refine dW trivial ik (Eq.trans ae (congrArg (D.int .i64) ?_)) ae ⟨⟨o1.a,aQ o1.w,o1.nd,bR o1.w o1.bad⟩,16,by decide,EN ho1 hc3,rfl,rfl,rfl⟩;rfl
 simp only[decide_eq_false_iff_not]at hc2;have hfa:=DP (nd:=nd) hc1 hc2;have htl:=(kD w nd).1;refine az ?_;refine kv (dI (jk (bR w false) (bH w) (aQ w) nd) (aQ w) nd) Va 16 (fun o=>[(17,.buf 5 (o.nd.map Nd.D)),(0,.buf 3 [dY o.w (.own 17 5 0 o.nd.length) o.bad])]) (fun o1 ho1=>?_) (hc:=fun K' hK=>h1031 (bH w) (aQ w) nd (bR w false) (by omega) _ 0 1 _ K' ae ae (by simp only[List.length_cons,List.length_nil];omega) (by simp only[List.length_cons,List.length_nil];omega) (fun o ho=>hK o ho)) (hn:=by decide);refine aA ?_;refine dW trivial ik (Eq.trans ae (congrArg (D.int .i64) ?_)) ae ⟨o1,17,by decide,EM hfa ho1,rfl,rfl,rfl⟩;rfl
end Go.Abs
end
section
namespace Go.Abs
open Go
def zS:aB:=⟨1,8,[⟨1,some (1,true)⟩,⟨2,none⟩],[[.sl 5 [.a,.a,.a,.a,.a]],[.a]],(sq (rg [gb 1 (.c (.agg [.au])),gm bD] [(1,0),(2,1)]) (sq (sq (r1 [gm s0,wW l0,dz l1 (i6 96)] 3 2) (.cond s3 (sq (r1 [gn (.build [.au] []),gt 1 s1 l0,gm j7] 2 2) .ret) .skip)) (sq (sq (r1 [gm s0,aE l0 cse] 4 1) (.cond s4 (sq (r1 [gn (.build [.au] []),gt 1 s1 l0,gm bD] 2 2) .ret) .skip)) (sq (r1 [gm s0,gx 124 [l0,(cs [32])] iz,gn (.build [.au,.au,.bool false] [(0,1,l1)]),gb 3 l2,gm l3] 5 4) (sq (rg [gm s5,gn (.callM 660 [l0])] []) (sq (r1 [gm s5,gc l0,gf 1 l1,gd l2,gn (.build [.au] [(0,1,l3)]),gb 1 (.c (.agg [.au])),gt 1 l5 l4] 6 5) (sq (sq (r1 [gm s5,gc l0,gf 2 l1,gd l2,gm l3,eW 4 s5,cA 4 (.nilck l5),kl 4 0 l6,lF 4 l7,cA 4 (.len l8),cA 4 (dj l9 bD),fM l4 l10,gm jK,cA 12 (.ld 1 true s6),cA 12 (.call 661 [nu] [[.sl 5 [.a,.a,.a,.a,.a]]]),cA 12 (.un .not n7),fM lu oY] 7 16) (.cond s7 (sq (r1 [gn (.build [.au] []),gt 1 s1 l0,gm Jr] 2 2) .ret) .skip)) (sq (r1 [gk 1 true s6,gt 1 s1 l0,gm bD] 2 2) .ret))))))))⟩
def w445 {Γ:Ctx}(hm:(Γ.at 0).bm)(h124:Dh Γ)(h660:IH Γ)(h661:II Γ)(s:ah)   :dS Γ zS (.tup [jC (kT s).1,.int .i64 (kT s).2]) [.str s]:=by
 show bx _ _ _ [⟨_,_⟩,_,_,_,_,_,_,_] _;refine ak ?_;refine aT ?_;refine ny ?_;refine ay ?_;refine cF (fun hc0=>?_) fun hc0=>?_
 ·refine ay ?_;refine eI [.au] ?_;refine aF (.agg [.au]) (he:=by exact rfl) ?_;refine az ?_;refine bX (aO ?_ (congrArg (D.int .i64) ?_));all_goals (have hq:kT s=([],3):=(by simp only[kT];rw[if_pos (by omega)]);rw[hq];first|done|rfl)
 refine aT ?_;refine aq (fun hc1=>?_) (fun hc1=>?_)
 ·try simp only[hO]at hc1
  refine ay ?_;refine eI [.au] ?_;refine aF (.agg [.au]) (he:=by exact rfl) ?_;refine az ?_;refine bX (aO ?_ (congrArg (D.int .i64) ?_));all_goals (have hq:kT s=([],0):=(by simp only[kT];rw[if_neg (by omega),if_pos hc1]);rw[hq];first|done|rfl)
 simp only[decide_eq_false_iff_not]at hc1;have hnl:¬96<s.length:=by omega
 have hsl:=cM s 32;refine az ?_;refine aj (hc:=h124 s 32 (by omega)) ?_;refine br (dY (ai s 32) .au false) ?_;refine az ?_;refine fJ (aL.to (env':=[⟨true,.str s⟩,⟨true,.ptr 0 1 0 0⟩,.un,.un,.un,⟨true,.ptr 1 3 0 0⟩,.un,.un]) (c:=20) (nx':=20) (m':=[(0,.buf 1 [.agg [.au]]),(1,.buf 3 [dY (ai s 32) (.own 2 5 0 ([]:List Nd).length) false]),(2,.buf 5 (([]:List Nd).map Nd.D))]) [(0,0),(10,1)] rfl ae dM (by refine aC.cZ ae ae ae ?_;refine aC.ni 10 ae ae (by exact⟨_,_,rfl,⟨_,rfl,⟨_,_,rfl,⟨rfl,rfl⟩,⟨_,_,rfl,Or.inr ⟨_,_,_,rfl⟩,⟨_,_,rfl,⟨rfl,rfl⟩,rfl⟩⟩⟩⟩,rfl⟩) ?_;refine aC.mt ae ae ae ae ?_;exact aC.nil)) ?_;refine ay ?_;refine kv (dI (jl (ai s 32) []) (ai s 32) []) Va 21 (fun o=>[(21,.buf 5 (o.nd.map Nd.D)),(0,.buf 1 [.agg [.au]]),(1,.buf 3 [dY o.w (.own 21 5 0 o.nd.length) o.bad])]) (fun o1 ho1=>?_) (hc:=fun K' hK=>h660 (ai s 32) [] (by simp only[List.length_nil];omega) _ 1 2 _ K' ae ae (by simp only[List.length_cons,List.length_nil];omega) (by simp only[List.length_cons,List.length_nil];omega) (fun o ho=>hK o ho)) (hn:=by decide);refine ax ?_;refine ee 21 ?_ (he:=by simp only[lj,gu,j6,mb,nZ,bK,Nat.reduceEqDiff,if_true,if_false,and_self,true_and,and_true,false_and,and_false,Nat.zero_add,List.length_map,Nat.le_refl,List.drop_zero,aH,reduceCtorEq,List.length_cons,List.length_nil,Nat.reduceAdd,Nat.reduceLeDiff,dY];exact rfl) (hm:=by simp only[lj,gu,j6,mb,nZ,bK,Nat.reduceEqDiff,if_true,if_false,and_self,true_and,and_true,false_and,and_false,Nat.zero_add,List.length_map,Nat.le_refl,List.drop_zero,aH,reduceCtorEq,List.length_cons,List.length_nil,Nat.reduceAdd,Nat.reduceLeDiff,dY];exact rfl);refine aA ?_;refine ch (v:=.sl 5 (o1.nd.map Nd.D)) ?_;refine br (jC o1.nd) ?_;refine ax ?_;refine aF (jC o1.nd) (he:=by exact rfl) ?_;refine aT ?_;refine ch (v:=.bool o1.bad) ?_;refine aA ?_;refine ch (v:=.sl 1 (o1.w.map D.str)) ?_;refine ny ?_;refine az ?_;refine cy (d:=jC o1.nd) ?_;refine aj (hc:=h661 o1.nd) ?_;refine az ?_;refine aq (fun hc2=>?_) (fun hc2=>?_)
 ·have hmx:=Jz ho1 hc2;refine ay ?_;refine eI [.au] ?_;refine aF (.agg [.au]) (he:=by exact rfl) ?_;refine az ?_;refine bX (aO ?_ (congrArg (D.int .i64) ?_));all_goals (have hq:=GY hnl hc1 hmx;rw[hq];first|done|rfl)
 have hmx:=G0 ho1 hc2;refine ay ?_;refine cy (d:=jC o1.nd) ?_;refine aF (jC o1.nd) (he:=by exact rfl) ?_;refine az ?_;refine bX (aO ?_ (congrArg (D.int .i64) ?_));all_goals (have hq:=GZ hnl hc1 hmx;rw[hq];first|done|rfl)
def K1 (Γ:Ctx):Prop:=∀(s:ah),Γ.pre 445 [.str s]∧Γ.val 445 [.str s]=.tup [jC (kT s).1,.int .i64 (kT s).2]
def uf:aB:=⟨1,4,jN,cn,(sq (r1 [gm dx] 1 0) (sq (rg [gm s0,gx 445 [l0] cn,gm l1,ge l2 0,ge l2 1,gb 1 (.c (.agg [.au])),gt 1 l5 l3,gm l4] [(3,5),(2,7)]) (sq (r1 [gm s2,aE l0 bD,gm l1,cE 2 (.ld 1 true s3),cE 2 (.call 446 [l3] [[.sl 5 [.a,.a,.a,.a,.a]]]),gmt 2 s0,cE 2 (cP l4 l5),gp l2 l6,gm l7] 1 8) .ret)))⟩
def w212 {Γ:Ctx}(hm:(Γ.at 0).bm)(h445:K1 Γ)(h446:K2 Γ)(s:ah)   :dS Γ uf (.bool (kR s)) [.str s]:=by
 show bx _ _ _ [⟨_,_⟩,_,_,_] _;refine ak ?_;refine aA ?_;refine aj (hc:=h445 s) ?_;refine ax ?_;refine fG (jC _) ?_;refine ay ?_;refine aF (jC (kT s).1) (he:=by exact rfl) ?_;refine aT ?_;refine cy (d:=jC (kT s).1) ?_;refine aj (hc:=h446 (kT s).1) ?_;refine aT ?_;exact bL rfl
def It (Γ:Ctx):Prop:=∀(s:ah),Γ.pre 212 [.str s]∧Γ.val 212 [.str s]=.bool (kR s)
end Go.Abs
end
section
namespace Go.Abs
open Go
end Go.Abs
end
section
namespace Go.Abs
open Go
end Go.Abs
end
section
namespace Go.Abs
open Go
end Go.Abs
end
section
namespace Go.Abs
open Go
end Go.Abs
end
section
namespace Go.Abs
open Go
end Go.Abs
end
section
namespace Go.Abs
open Go
end Go.Abs
end
section
namespace Go.Abs
open Go
def wK:aB:=⟨2,8,[⟨2,none⟩],cn,(sq (r1 [gm bD] 2 0) (sq (sq (rg [gm s0,gl l0,gm bD] [(4,1),(3,2)]) (.block 0 (.loop (sq (r1 [aU s3 s4] 5 0) (sq (iN s5 0) (sq (.block 1 (sq (r1 [gm s3,gm l0] 6 1) (sq (r1 [gm s1,gm s0,gm s6,ga 1 l1 l2,gd l3,aE l0 l4] 7 5) (.cond s7 (sq (r1 [gm s6,gm l0] 2 1) .ret) .skip)))) (r1 [av s3 b9,gm l0] 3 1))))))) (sq (r1 [gn (.mv (.c (.int .i64 (-1))))] 2 0) .ret)))⟩
def w494 {Γ:Ctx}(hm:(Γ.at 0).bm)  (l:List ah)(x:ah)   :dS Γ wK (.int .i64 (oV l x 0)) [.sl 1 (l.map D.str),.str x]:=by
 show bx _ _ _ [⟨_,_⟩,⟨_,_⟩,_,_,_,_,_,_] _;refine ak ?_;refine aT ?_;intro u0;refine ay ?_;refine bq hm (ι:=Nat) (fun i=>[⟨true,.sl 1 (l.map D.str)⟩,⟨true,.str x⟩,.un,⟨true,.int .i64 (i:Nat)⟩,⟨true,.int .i64 (l.length:Nat)⟩,.un,.un,.un]) (fun i=>[]) 4 (fun i=>i≤l.length∧oV l x 0=oV l x i) (fun i=>l.length-i) 0 ⟨by omega,rfl⟩ (ef []) ?_;rintro i ⟨hi,hr⟩;refine az ?_;refine cF (fun hc0=>?_) fun hc0=>?_
 ·refine vL ?_;refine fQ (fun hc1=>?_) fun hc1=>?_
  ·refine ba ?_;refine gU ?_;rw[hr,GL (by omega) hc1]
  refine ba ?_;exact⟨i+1,⟨by omega,by rw[hr,GM (by omega) hc1]⟩,by omega,(ef [])⟩
 refine aT ?_;refine gU ?_;rw[hr,D8 (by omega)]
def Lj (Γ:Ctx):Prop:=∀(l:List ah)(x:ah),Γ.pre 494 [.sl 1 (l.map D.str),.str x]∧Γ.val 494 [.sl 1 (l.map D.str),.str x]=.int .i64 (oV l x 0)
def rl:aB:=⟨2,3,[⟨2,none⟩],cn,(sq (r1 [gm dx] 2 0) (sq (r1 [gm s0,gm s1,gx 494 [l0,l1] [[.sl 1 [.a]],[.a]],gL l2 bD,gm l3] 2 4) .ret))⟩
def w246 {Γ:Ctx}(hm:(Γ.at 0).bm)(h494:Lj Γ)(l:List ah)(x:ah)   :dS Γ rl (.bool (decide (x∈l))) [.sl 1 (l.map D.str),.str x]:=by
 show bx _ _ _ [⟨_,_⟩,⟨_,_⟩,_] _;refine ak ?_;refine aR ?_;refine aj (hc:=h494 l x) ?_;refine aA ?_;refine bL ?_;exact D9 l x
def KT (Γ:Ctx):Prop:=∀(l:List ah)(x:ah),Γ.pre 246 [.sl 1 (l.map D.str),.str x]∧Γ.val 246 [.sl 1 (l.map D.str),.str x]=.bool (decide (x∈l))
end Go.Abs
end
section
namespace Go.Abs
open Go
def KS (Γ:Ctx):Prop:=∀(s:ah)(n:Int),(s.length≤1048576)→(n=-1∨(1≤n∧n≤1000))→Γ.pre 245 [.str s,.str [32],.int .i64 n]∧Γ.val 245 [.str s,.str [32],.int .i64 n]=.sl 1 ((gh n s).map D.str)
def La (Γ:Ctx):Prop:=∀(l:List ah),(l.length≤1048600)→Γ.pre 469 [.sl 1 (l.map D.str)]∧Γ.val 469 [.sl 1 (l.map D.str)]=.sl 1 (l.map D.str)
end Go.Abs
end
section
namespace Go.Abs
open Go
def fw:aB:=⟨4,11,[⟨4,none⟩,⟨5,none⟩],[[.sl 1 [.a]],[.a]],(sq (rg [gm (.c (.au)),gm dx] [(4,0),(5,1)]) (sq (sq (r2 [gm s0,gc l0,gf 1 l1,gd l2,gm s0,gc l4,gf 0 l5,gd l6,gl l7,gL l3 l8] 6 9) (.cond s6 (sq (rg [gm (.c (.au)),gm dx] [(4,0),(5,1)]) .ret) .skip)) (sq (r1 [gn (.mv (.c (.int .i64 (-1))))] 8 0) (sq (sq (r1 [gm s3] 7 0) (.cond s7 (r1 [gm s2,gm l0] 8 1) .skip)) (sq (r2 [gm s0,gc l0,gf 0 l1,gd l2,gm s0,gc l4,gf 1 l5,gd l6,ga 1 l3 l7,gd l8,gm s8,gx 245 [l9,(cs [32]),l10] Mq,gm jK] 9 12) (sq (sq (r1 [gm s9,ga 1 l0 bD,gd l1,gm s1,cl l2 l3,gm l4,eW 5 s9,cA 5 (.len l6),cA 5 (oD l7 b9),fM l5 l8,gm l9,eW 10 s2,cA 10 (dj jK bD),eW 10 lu,gmt 13 s9,cE 13 (.len n7),gmt 13 s2,cE 13 (eJ oY q9),Dd 10 nu wo,fM l10 wX,gm y5,eW 20 s9,cA 20 (.call 246 [Ch,cse] [[.sl 1 [.a]],[.a]]),fM A3 Ee] 10 23) (.cond lx (sq (rg [gm (.c (.au)),gm dx] [(4,0),(5,1)]) .ret) .skip)) (sq (rg [gm s0,gc l0,gf 1 l1,gd l2,av l3 b9,gc l0,gf 1 l5,gt 1 l6 l4] []) (sq (rg [gm s9,gm l0,gm tO] [(4,1),(5,2)]) .ret))))))))⟩
def MZ {Γ:Ctx}(hm:(Γ.at 1).bm)(h245:KS (Γ.at 1))(h246:KT (Γ.at 1))(r:Ld)(w:ah)(n:Nat)(op:Bool)(hp0:r.sm)(hp1:n≤1000)(hp2:op=true→1≤n):bx (Γ.at 1) fw.body (BE fw 2 (.tup [uc (bo w n op r.rest),.bool (bo w n op r.rest).isSome]) (Ld.D (r.after (bo w n op r.rest))):Ex→List aW→St→Prop) (eu fw (.ptr 0 2 0 0::[.str w,.int .i64 (n:Nat),.bool op])) ⟨1,[(0,.buf 2 [(Ld.D r)])]⟩:=by
 show bx _ _ _ [⟨true,.ptr 0 2 0 0⟩,⟨true,.str w⟩,⟨true,.int .i64 (n:Nat)⟩,⟨true,.bool op⟩,.un,.un,.un,.un,.un,.un,.un] ⟨1,[(0,.buf 2 [(Ld.D r)])]⟩;refine ak ?_;refine lB ?_;refine ny ?_;refine ay ?_;refine cF (fun hc0=>?_) fun hc0=>?_
 ·refine ay ?_;have hv:bo w n op r.rest=none:=by rw[Ld.Fi (by omega)];rfl
  rw[hv];refine aA ?_;refine dV trivial ik (Eq.trans ae (aO ?_ (congrArg D.bool ?_))) ae ae ae;all_goals (first|done|rfl)
 refine aT ?_;have hll:=hp0.1;have hlt:r.at'<r.ls.length:=by omega
 have hwl:=C6 n op r.ls[r.at']! hp2;have hw1:op=true→gh n r.ls[r.at']! =cN n op r.ls[r.at']! :=fun h=>by rw[←vD,if_pos h]
 have hw2:op=false→gh (-1) r.ls[r.at']! =cN n op r.ls[r.at']! :=fun h=>by rw[←vD,if_neg (by rw[h];simp)]
 refine ay ?_;refine cF (fun hc1=>?_) fun hc1=>?_
 ·refine vL ?_;refine ca (v:=.str r.ls[r.at']!) (hi:=fun _=>by omega) ?_;refine ax ?_;first|(refine aj (hc:=h245 r.ls[r.at']! (n:Int) (hp0.2 _ (bG (by omega))) (.inr ⟨by have:=hp2 hc1;omega,by omega⟩)) ?_;rw[hw1 hc1])|(refine aj (hc:=h245 r.ls[r.at']! (-1) (hp0.2 _ (bG (by omega))) (.inl rfl)) ?_;rw[hw2 hc1])
  refine aR ?_;refine cD 0 ?_;refine aR ?_;refine ny ?_;refine aA ?_;first|refine Ab ?_|refine Ac ?_
  refine ay ?_;refine ny ?_;refine aT ?_;refine aj (hc:=h246 _ _) ?_;refine ay ?_;refine cF (fun hc2=>?_) fun hc2=>?_
  ·refine ay ?_;have hv:bo w n op r.rest=none:=by rw[Ld.m7 hlt,bo,x9 hc2 hwl]
   rw[hv];refine aA ?_;refine dV trivial ik (Eq.trans ae (aO ?_ (congrArg D.bool ?_))) ae ae ae;all_goals (first|done|rfl)
  refine dh ?_;refine aF (Ld.D ⟨r.ls,r.at'+1⟩) (he:=by exact rfl) ?_;refine ay ?_;have hv:bo w n op r.rest=some (cN n op r.ls[r.at']!,r.ls.drop (r.at'+1)):=by rw[Ld.m7 hlt,bo,uR hc2]
  rw[hv];refine aR ?_;refine dV trivial ik (Eq.trans ae (aO ?_ (congrArg D.bool ?_))) ae ae ae;all_goals (first|done|rfl)
 refine fK ?_;refine ca (v:=.str r.ls[r.at']!) (hi:=fun _=>by omega) ?_;refine ax ?_;first|(refine aj (hc:=h245 r.ls[r.at']! (n:Int) (hp0.2 _ (bG (by omega))) (.inr ⟨by have:=hp2 hc1;omega,by omega⟩)) ?_;rw[hw1 hc1])|(refine aj (hc:=h245 r.ls[r.at']! (-1) (hp0.2 _ (bG (by omega))) (.inl rfl)) ?_;rw[hw2 hc1])
 refine aR ?_;refine cD 0 ?_;refine aR ?_;refine ny ?_;refine aA ?_;first|refine Ab ?_|refine Ac ?_
 refine ay ?_;refine ny ?_;refine aT ?_;refine aj (hc:=h246 _ _) ?_;refine ay ?_;refine cF (fun hc2=>?_) fun hc2=>?_
 ·refine ay ?_;have hv:bo w n op r.rest=none:=by rw[Ld.m7 hlt,bo,x9 hc2 hwl]
  rw[hv];refine aA ?_;refine dV trivial ik (Eq.trans ae (aO ?_ (congrArg D.bool ?_))) ae ae ae;all_goals (first|done|rfl)
 refine dh ?_;refine aF (Ld.D ⟨r.ls,r.at'+1⟩) (he:=by exact rfl) ?_;refine ay ?_;have hv:bo w n op r.rest=some (cN n op r.ls[r.at']!,r.ls.drop (r.at'+1)):=by rw[Ld.m7 hlt,bo,uR hc2]
 rw[hv];refine aR ?_;refine dV trivial ik (Eq.trans ae (aO ?_ (congrArg D.bool ?_))) ae ae ae;all_goals (first|done|rfl)
def FV (Γ:Ctx):Prop:=∀(r:Ld)(w:ah)(n:Nat)(op:Bool),(r.sm)→(n≤1000)→(op=true→1≤n)→Γ.fp 465 (Ld.D r) [.str w,.int .i64 (n:Nat),.bool op]∧Γ.fv 465 (Ld.D r) [.str w,.int .i64 (n:Nat),.bool op]=.tup [uc (bo w n op r.rest),.bool (bo w n op r.rest).isSome]∧Γ.fs 465 (Ld.D r) [.str w,.int .i64 (n:Nat),.bool op]=Ld.D (r.after (bo w n op r.rest))
end Go.Abs
end
section
namespace Go.Abs
open Go
def mB:aB:=⟨2,2,[],[],(sq (rg [gm s0,gm s1,gx 242 [l1,(cs [32])] [[.sl 1 [.a]],[.a]],gn (.callM 489 [l0,l2])] []) (rg [gm s0,gn (.callM 664 [l0,(i8 10)])] []))⟩
def w450 {Γ:Ctx}(hm:(Γ.at 3).bm)(ws:List ah)(t:ah)(m0:List (Nat×aV))(h242:FU (Γ.at 3))(h489:IG (Γ.at 3))(h664:IK (Γ.at 3))(hp0:nA m0 0 t)(hp1:look m0 1=some (.buf 1 (ws.map D.str)))(hp2:vN ws t):bx (Γ.at 3) mB.body (nM mB (fun d m=>d=.tup []∧look m 0=some (.bld (some 9) (t++bt ws).length true)∧look m 9=some (.row (t++bt ws))):Ex→List aW→St→Prop) (eu mB [.ptr 0 2 0 0,.own 1 1 0 ws.length]) ⟨3,m0⟩:=by
 show bx _ _ _ [⟨true,.ptr 0 2 0 0⟩,⟨true,.own 1 1 0 ws.length⟩] ⟨3,m0⟩;obtain⟨⟨q1,q2⟩,q3,q4⟩:=hp2;have hlt:t++bt ws=t++aP [32] ws++[10]:=by unfold bt;simp
 refine ak ?_;refine ay ?_;refine aj (hc:=h242 ws [32] q2 (by decide) q3) (ha:=fun _=>congrArg (fun d=>[d,D.str [32]]) (nj (q:=D.str) (fun _=>rfl) hp1)) (hp:=fun _=>⟨kF (q:=D.str) (fun _=>rfl) hp1,rfl,trivial⟩) ?_;refine cg (nx':=4) (v:=.any) (m':=lQ m0 0 6 (t++aP [32] ws)) (hc:=fun K' hK=>h489 _ _ K' ⟨_,0,t,rfl,hp0,Nat.lt_of_lt_of_le (by decide:0<3) (Nat.le_add_right _ _),q1,by omega,hK⟩) (hn:=by decide) ?_;refine az ?_;refine cg (nx':=9) (v:=.any) (m':=lQ (lQ m0 0 6 (t++aP [32] ws)) 0 9 (t++aP [32] ws++[10])) (hc:=fun K' hK=>h664 _ _ K' ⟨10,0,t++aP [32] ws,rfl,Gd (by decide),Nat.lt_of_lt_of_le (by decide:0<8) (Nat.le_add_right _ _),by simp,by rw[List.length_append];exact q4,hK⟩) (hn:=by decide) ?_;refine ax ?_

 refine dW trivial ik (Eq.trans ae (?_)) ae ⟨rfl,by rw[hlt];exact(pY (by decide)).1,by rw[hlt];exact(pY (by decide)).2⟩;rfl
end Go.Abs
end
section
namespace Go.Abs
open Go
def yp:aB:=⟨1,31,jN,cn,(sq (rg [gb 9 s0,gm cse] [(2,0),(1,1)]) (sq (r1 [⟨.mkB,none⟩] 3 0) (sq (rt [gf 0 s2,gd l0,gf 1 s2,gk 5 true l2,gx 451 [l3] Jo,gn (.bsl 1 (.str []) 3 [(0,(cs [112,97,99,107,97,103,101])),(1,l1),(2,l4)]),gn (.callM 450 [s3,l5])] []) (sq (sq (rg [gf 6 s2,gd l0,gl l1,gm bD] [(7,1),(5,2),(4,3)]) (.block 0 (.loop (sq (r1 [aU s4 s5] 6 0) (sq (iN s6 0) (sq (.block 1 (sq (r1 [ga 3 s7 s4,gk 3 true l0,gb 3 (.c (.agg [.au,.str [],.str []])),gt 3 l2 l1] 8 2) (sq (rg [gn (.bsl 1 (.str []) 1 [(0,(cs [110,101,101,100]))]),gn (.callM 450 [s3,l0])] []) (sq (sq (rg [gf 0 s8,gd l0,gl l1,gm bD] [(12,1),(10,2),(9,3)]) (.block 2 (.loop (sq (r1 [aU s9 lx] 11 0) (sq (iN oz 2) (sq (.block 3 (sq (r1 [ga 4 m8 s9,gk 4 true l0,gb 4 (.c (.agg [.str [],.str [],.au,.bool false])),gt 4 l2 l1] 13 2) (sq (rg [gm (cs [45]),gm (cs [102,117,108,108])] [(16,0),(17,1)]) (sq (sq (r1 [gf 2 tn,gd l0,gl l1,dz l2 bD] 14 3) (.cond rS (r1 [gf 2 tn,gd l0,gx 242 [l1,(cs [44])] [[.sl 1 [.a]],[.a]],gm l2] 16 3) .skip)) (sq (sq (r1 [gf 3 tn,gd l0] 15 1) (.cond vc (r1 [gm (cs [98,97,114,101])] 17 0) .skip)) (rg [gf 0 tn,gd l0,gm Bn,gm wY,gf 1 tn,gd l4,gn (.bsl 1 (.str []) 5 [(0,(cs [97,110,121])),(1,l1),(2,l2),(3,l3),(4,l5)]),gn (.callM 450 [s3,l6])] [])))))) (r1 [av s9 b9,gm l0] 9 1))))))) (sq (sq (r1 [gf 1 s8,gd l0,cl l1 cse] 18 2) (.cond CU (rg [gf 1 s8,gd l0,gn (.bsl 1 (.str []) 2 [(0,(cs [119,104,101,110])),(1,l1)]),gn (.callM 450 [s3,l2])] []) .skip)) (sq (r1 [gf 2 s8,gd l0,cl l1 cse] 19 2) (.cond Kd (rg [gf 2 s8,gd l0,gn (.bsl 1 (.str []) 2 [(0,(cs [111,112,116,105,111,110])),(1,l1)]),gn (.callM 450 [s3,l2])] []) .skip))))))) (r1 [av s4 b9,gm l0] 4 1))))))) (sq (sq (rg [gf 7 s2,gd l0,gl l1,gm bD] [(23,1),(21,2),(20,3)]) (.block 4 (.loop (sq (r1 [aU FN s21] 22 0) (sq (iN s22 4) (sq (.block 5 (sq (r1 [ga 3 s23 FN,gk 3 true l0,gb 3 (.c (.agg [.str [],.str [],.str []])),gt 3 l2 l1] 24 2) (sq (rg [gf 0 KD,gd l0,gf 1 KD,gd l2,gn (.bsl 1 (.str []) 3 [(0,(cs [98,97,114])),(1,l1),(2,l3)]),gn (.callM 450 [s3,l4])] []) (sq (r1 [gf 2 KD,gd l0,cl l1 cse] 25 2) (.cond KE (rg [gf 2 KD,gd l0,gn (.bsl 1 (.str []) 2 [(0,(cs [119,104,101,110])),(1,l1)]),gn (.callM 450 [s3,l2])] []) .skip))))) (r1 [av FN b9,gm l0] 20 1))))))) (sq (sq (rg [gf 8 s2,gd l0,gl l1,gm bD] [(29,1),(27,2),(26,3)]) (.block 6 (.loop (sq (r1 [aU MR s27] 28 0) (sq (iN s28 6) (sq (.block 7 (sq (r1 [ga 2 s29 MR,gk 2 true l0,gb 2 (.c (.agg [.str [],.au])),gt 2 l2 l1] 30 2) (rg [gf 0 Ii,gd l0,gn (.bsl 1 (.str []) 2 [(0,(cs [102,101,97,116,117,114,101])),(1,l1)]),gf 1 Ii,gd l3,gn (.app 1 l2 l4),gn (.callM 450 [s3,l5])] []))) (r1 [av MR b9,gm l0] 26 1))))))) (sq (r1 [gn (.callM 452 [s3]),gm l0] 1 1) .ret)))))))⟩
def w215 {Γ:Ctx}(hm:(Γ.at 0).bm)(h242:FU Γ)(h450:IB Γ)(h451:IC Γ)(h452:ID Γ)(r:Rec)  (hp0:sB r∧il r):dS Γ yp (.str (eZ r)) [Rec.D r]:=by
 show bx _ _ _ [⟨_,_⟩,_,_,_,_,_,_,_,_,_,_,_,_,_,_,_,_,_,_,_,_,_,_,_,_,_,_,_,_,_,_] _;have hft:=B9 hp0;have q0:=hft.nm;have q00:=yK r.v hft.v;have hs:=hp0.2;refine ak ?_;refine iT ?_;refine ch (v:=dq.D r.v) ?_;refine aj (hc:=h451 r.v hft.v) ?_;refine ct [(.str _),(.str _),(.str _)] ?_;refine cg (nx':=4) (v:=.tup []) (m':=[(9,.row (mh r)),(0,.buf 9 [Rec.D r]),(2,.bld (some 9) (mh r).length true)]) (hc:=fun K' hK=>h450 [de,r.name,kY r.v] ([]) 2 8 _ _ K' (.inl ⟨false,by exact rfl,rfl⟩) ae (by simp only[List.length_cons,List.length_nil];omega) (by simp only[List.length_cons,List.length_nil];omega) (.mk (by decide) (by simp only[List.length_cons,List.length_nil,List.cons_append,List.nil_append];omega) (List.forall_mem_cons.2 ⟨by decide,List.forall_mem_cons.2 ⟨by omega,List.forall_mem_cons.2 ⟨by omega,fun _ h=>nomatch h⟩⟩⟩) (by first|omega|(simp only[List.length_append,List.length_nil];omega))) (by rw[show([])++bt [de,r.name,kY r.v]=mh r from rfl];exact hK)) (hn:=by decide) ?_;refine aT ?_;intro u0;refine ay ?_;refine bq hm (ι:=Nat) (fun i=>[.un,.un,⟨true,.ptr 0 9 0 0⟩,⟨true,.ptr 2 2 0 0⟩,⟨true,.int .i64 (i:Nat)⟩,⟨true,.int .i64 (r.needs.length:Nat)⟩,.un,⟨true,.sl 3 (r.needs.map bg.D)⟩,.un,.un,.un,.un,.un,.un,.un,.un,.un,.un,.un,.un,.un,.un,.un,.un,.un,.un,.un,.un,.un,.un,.un]) (fun i=>[(0,.buf 9 [Rec.D r]),(2,.bld (some 3) (hH r i).length true),(3,.row (hH r i))]) 10 (fun i=>i≤r.needs.length) (fun i=>r.needs.length-i) 0 (by omega) (aL.to [(0,0),(2,2),(9,3)] ae ae dM (by refine aC.cZ ae ae ae ?_;refine aC.bl 2 ae ae ae (congrArg List.length (by rw[Ij])) rfl ?_;refine aC.rw 9 ae ae (by rw[Ij]) ?_;exact aC.nil)) ?_;intro i hi;have q1:=Bt hft i hi;refine az ?_;refine cF (fun hc0=>?_) fun hc0=>?_
 ·refine az ?_;have hnf:=hft.n _ (bG (show i<r.needs.length by omega));have hn3:=hnf.1.1;refine ax ?_;refine ca (v:=bg.D r.needs[i]!) (hi:=fun _=>by omega) ?_;refine ax ?_;refine aF (bg.D r.needs[i]!) (he:=by exact rfl) ?_;refine ay ?_;refine ct [(.str _)] ?_;refine cg (nx':=16) (v:=.tup []) (m':=[(16,.row (hH r i++cq r.needs[i]! 0)),(0,.buf 9 [Rec.D r]),(2,.bld (some 16) (hH r i++cq r.needs[i]! 0).length true),(13,.buf 3 [bg.D r.needs[i]!])]) (hc:=fun K' hK=>h450 [gE] (hH r i) 2 15 _ _ K' (.inr ⟨3,true,by exact rfl,by exact rfl⟩) ae (by simp only[List.length_cons,List.length_nil];omega) (by simp only[List.length_cons,List.length_nil];omega) (.mk (by decide) (by simp only[List.length_cons,List.length_nil,List.cons_append,List.nil_append];omega) (List.forall_mem_cons.2 ⟨by decide,fun _ h=>nomatch h⟩) (by first|omega|(simp only[List.length_append,List.length_nil];omega))) (by rw[show(hH r i)++bt [gE]=hH r i++cq r.needs[i]! 0 from rfl];exact hK)) (hn:=by decide) ?_;refine aT ?_;intro u1;refine ay ?_;refine bq hm (ι:=Nat) (fun j=>[.un,.un,⟨true,.ptr 0 9 0 0⟩,⟨true,.ptr 2 2 0 0⟩,⟨true,.int .i64 (i:Nat)⟩,⟨true,.int .i64 (r.needs.length:Nat)⟩,.un,⟨true,.sl 3 (r.needs.map bg.D)⟩,⟨true,.ptr 4 3 0 0⟩,⟨true,.int .i64 (j:Nat)⟩,⟨true,.int .i64 (r.needs[i]!.any.length:Nat)⟩,.un,⟨true,.sl 4 (r.needs[i]!.any.map bz.D)⟩,.un,.un,.un,.un,.un,.un,.un,.un,.un,.un,.un,.un,.un,.un,.un,.un,.un,.un]) (fun j=>[(0,.buf 9 [Rec.D r]),(4,.buf 3 [bg.D r.needs[i]!]),(2,.bld (some 3) (hH r i++cq r.needs[i]! j).length true),(3,.row (hH r i++cq r.needs[i]! j))]) 20 (fun j=>j≤r.needs[i]!.any.length) (fun j=>r.needs[i]!.any.length-j) 0 (by omega) (aL.to [(0,0),(13,4),(2,2),(16,3)] ae ae dM (by refine aC.cZ ae ae ae ?_;refine aC.nl 13 ae ae rfl ae ?_;refine aC.bl 2 ae ae ae (congrArg List.length (rfl)) rfl ?_;refine aC.rw 16 ae ae (rfl) ?_;exact aC.nil)) ?_;intro j hj;have q2:=Cz hnf j (by omega);refine az ?_;refine cF (fun hc1=>?_) fun hc1=>?_
  ·refine az ?_;have hwf:=hnf.1.2 _ (bG (show j<r.needs[i]!.any.length by omega));have q3:=wQ hwf;have q4:=hwf.1.1.1;have q5:=hwf.1.1.2;refine ax ?_;refine ca (v:=bz.D r.needs[i]!.any[j]!) (hi:=fun _=>by omega) ?_;refine ax ?_;refine aF (bz.D r.needs[i]!.any[j]!) (he:=by exact rfl) ?_;refine iT ?_;intro u2;refine ay ?_;refine cF (fun hc2=>?_) fun hc2=>?_
   ·refine az ?_;refine aj (hc:=h242 r.needs[i]!.any[j]!.feats [44] (by have:=hwf.2.1;omega) (by decide) (fun t ht=>by have:=hwf.2.2 t ht;omega)) ?_;refine ba ?_;refine cF (fun hc3=>?_) fun hc3=>?_
    ·refine aA ?_;have hwl:bt [jE,r.needs[i]!.any[j]!.name,(aP [44] r.needs[i]!.any[j]!.feats),ir,r.needs[i]!.any[j]!.range]=iS r.needs[i]!.any[j]! :=by
      unfold iS lz;first|rw[if_pos (show r.needs[i]!.any[j]!.feats.length=0 by omega)]|rw[if_neg (show ¬r.needs[i]!.any[j]!.feats.length=0 by omega)]
      rw[hc3];rfl
     have hwj:=kU (n:=r.needs[i]!) (j:=j) (by omega);refine aT ?_;refine ct [(.str _),(.str _),(.str _),(.str _),(.str _)] ?_;refine cg (nx':=39) (v:=.tup []) (m':=[(45,.row (hH r i++cq r.needs[i]! (j+1))),(0,.buf 9 [Rec.D r]),(4,.buf 3 [bg.D r.needs[i]!]),(2,.bld (some 45) (hH r i++cq r.needs[i]! (j+1)).length true),(23,.buf 4 [bz.D r.needs[i]!.any[j]!])]) (hc:=fun K' hK=>h450 [jE,r.needs[i]!.any[j]!.name,(aP [44] r.needs[i]!.any[j]!.feats),ir,r.needs[i]!.any[j]!.range] (hH r i++cq r.needs[i]! j) 2 44 _ _ K' (.inr ⟨3,true,by exact rfl,by exact rfl⟩) ae (by simp only[List.length_cons,List.length_nil];omega) (by simp only[List.length_cons,List.length_nil];omega) (.mk (by decide) (by simp only[List.length_cons,List.length_nil,List.cons_append,List.nil_append];omega) (List.forall_mem_cons.2 ⟨by decide,List.forall_mem_cons.2 ⟨by omega,List.forall_mem_cons.2 ⟨by first|omega|decide,List.forall_mem_cons.2 ⟨by decide,List.forall_mem_cons.2 ⟨by omega,fun _ h=>nomatch h⟩⟩⟩⟩⟩) (by first|omega|(simp only[List.length_append,List.length_nil];omega))) (by rw[show(hH r i++cq r.needs[i]! j)++bt [jE,r.needs[i]!.any[j]!.name,(aP [44] r.needs[i]!.any[j]!.feats),ir,r.needs[i]!.any[j]!.range]=hH r i++cq r.needs[i]! (j+1)from by rw[hwl,hwj,List.append_assoc]];exact hK)) (hn:=by decide) ?_;refine ba ?_;exact⟨j+1,(by omega),by omega,(aL.to [(0,0),(4,4),(2,2),(45,3)] ae ae dM (by refine aC.cZ ae ae ae ?_;refine aC.nl 4 ae ae rfl ae ?_;refine aC.bl 2 ae ae ae (congrArg List.length (rfl)) rfl ?_;refine aC.rw 45 ae ae (rfl) ?_;exact aC.nil))⟩
    refine ay ?_;have hwl:bt [jE,r.needs[i]!.any[j]!.name,(aP [44] r.needs[i]!.any[j]!.feats),mK,r.needs[i]!.any[j]!.range]=iS r.needs[i]!.any[j]! :=by
     unfold iS lz;first|rw[if_pos (show r.needs[i]!.any[j]!.feats.length=0 by omega)]|rw[if_neg (show ¬r.needs[i]!.any[j]!.feats.length=0 by omega)]
     rw[hc3];rfl
    have hwj:=kU (n:=r.needs[i]!) (j:=j) (by omega);refine aT ?_;refine ct [(.str _),(.str _),(.str _),(.str _),(.str _)] ?_;refine cg (nx':=38) (v:=.tup []) (m':=[(44,.row (hH r i++cq r.needs[i]! (j+1))),(0,.buf 9 [Rec.D r]),(4,.buf 3 [bg.D r.needs[i]!]),(2,.bld (some 44) (hH r i++cq r.needs[i]! (j+1)).length true),(23,.buf 4 [bz.D r.needs[i]!.any[j]!])]) (hc:=fun K' hK=>h450 [jE,r.needs[i]!.any[j]!.name,(aP [44] r.needs[i]!.any[j]!.feats),mK,r.needs[i]!.any[j]!.range] (hH r i++cq r.needs[i]! j) 2 43 _ _ K' (.inr ⟨3,true,by exact rfl,by exact rfl⟩) ae (by simp only[List.length_cons,List.length_nil];omega) (by simp only[List.length_cons,List.length_nil];omega) (.mk (by decide) (by simp only[List.length_cons,List.length_nil,List.cons_append,List.nil_append];omega) (List.forall_mem_cons.2 ⟨by decide,List.forall_mem_cons.2 ⟨by omega,List.forall_mem_cons.2 ⟨by first|omega|decide,List.forall_mem_cons.2 ⟨by decide,List.forall_mem_cons.2 ⟨by omega,fun _ h=>nomatch h⟩⟩⟩⟩⟩) (by first|omega|(simp only[List.length_append,List.length_nil];omega))) (by rw[show(hH r i++cq r.needs[i]! j)++bt [jE,r.needs[i]!.any[j]!.name,(aP [44] r.needs[i]!.any[j]!.feats),mK,r.needs[i]!.any[j]!.range]=hH r i++cq r.needs[i]! (j+1)from by rw[hwl,hwj,List.append_assoc]];exact hK)) (hn:=by decide) ?_;refine ba ?_;exact⟨j+1,(by omega),by omega,(aL.to [(0,0),(4,4),(2,2),(44,3)] ae ae dM (by refine aC.cZ ae ae ae ?_;refine aC.nl 4 ae ae rfl ae ?_;refine aC.bl 2 ae ae ae (congrArg List.length (rfl)) rfl ?_;refine aC.rw 44 ae ae (rfl) ?_;exact aC.nil))⟩
   refine aT ?_;refine cF (fun hc3=>?_) fun hc3=>?_
   ·refine aA ?_;have hwl:bt [jE,r.needs[i]!.any[j]!.name,[45],ir,r.needs[i]!.any[j]!.range]=iS r.needs[i]!.any[j]! :=by
     unfold iS lz;first|rw[if_pos (show r.needs[i]!.any[j]!.feats.length=0 by omega)]|rw[if_neg (show ¬r.needs[i]!.any[j]!.feats.length=0 by omega)]
     rw[hc3];rfl
    have hwj:=kU (n:=r.needs[i]!) (j:=j) (by omega);refine aT ?_;refine ct [(.str _),(.str _),(.str _),(.str _),(.str _)] ?_;refine cg (nx':=35) (v:=.tup []) (m':=[(41,.row (hH r i++cq r.needs[i]! (j+1))),(0,.buf 9 [Rec.D r]),(4,.buf 3 [bg.D r.needs[i]!]),(2,.bld (some 41) (hH r i++cq r.needs[i]! (j+1)).length true),(23,.buf 4 [bz.D r.needs[i]!.any[j]!])]) (hc:=fun K' hK=>h450 [jE,r.needs[i]!.any[j]!.name,[45],ir,r.needs[i]!.any[j]!.range] (hH r i++cq r.needs[i]! j) 2 40 _ _ K' (.inr ⟨3,true,by exact rfl,by exact rfl⟩) ae (by simp only[List.length_cons,List.length_nil];omega) (by simp only[List.length_cons,List.length_nil];omega) (.mk (by decide) (by simp only[List.length_cons,List.length_nil,List.cons_append,List.nil_append];omega) (List.forall_mem_cons.2 ⟨by decide,List.forall_mem_cons.2 ⟨by omega,List.forall_mem_cons.2 ⟨by first|omega|decide,List.forall_mem_cons.2 ⟨by decide,List.forall_mem_cons.2 ⟨by omega,fun _ h=>nomatch h⟩⟩⟩⟩⟩) (by first|omega|(simp only[List.length_append,List.length_nil];omega))) (by rw[show(hH r i++cq r.needs[i]! j)++bt [jE,r.needs[i]!.any[j]!.name,[45],ir,r.needs[i]!.any[j]!.range]=hH r i++cq r.needs[i]! (j+1)from by rw[hwl,hwj,List.append_assoc]];exact hK)) (hn:=by decide) ?_;refine ba ?_;exact⟨j+1,(by omega),by omega,(aL.to [(0,0),(4,4),(2,2),(41,3)] ae ae dM (by refine aC.cZ ae ae ae ?_;refine aC.nl 4 ae ae rfl ae ?_;refine aC.bl 2 ae ae ae (congrArg List.length (rfl)) rfl ?_;refine aC.rw 41 ae ae (rfl) ?_;exact aC.nil))⟩
   refine ay ?_;have hwl:bt [jE,r.needs[i]!.any[j]!.name,[45],mK,r.needs[i]!.any[j]!.range]=iS r.needs[i]!.any[j]! :=by
    unfold iS lz;first|rw[if_pos (show r.needs[i]!.any[j]!.feats.length=0 by omega)]|rw[if_neg (show ¬r.needs[i]!.any[j]!.feats.length=0 by omega)]
    rw[hc3];rfl
   have hwj:=kU (n:=r.needs[i]!) (j:=j) (by omega);refine aT ?_;refine ct [(.str _),(.str _),(.str _),(.str _),(.str _)] ?_;refine cg (nx':=34) (v:=.tup []) (m':=[(40,.row (hH r i++cq r.needs[i]! (j+1))),(0,.buf 9 [Rec.D r]),(4,.buf 3 [bg.D r.needs[i]!]),(2,.bld (some 40) (hH r i++cq r.needs[i]! (j+1)).length true),(23,.buf 4 [bz.D r.needs[i]!.any[j]!])]) (hc:=fun K' hK=>h450 [jE,r.needs[i]!.any[j]!.name,[45],mK,r.needs[i]!.any[j]!.range] (hH r i++cq r.needs[i]! j) 2 39 _ _ K' (.inr ⟨3,true,by exact rfl,by exact rfl⟩) ae (by simp only[List.length_cons,List.length_nil];omega) (by simp only[List.length_cons,List.length_nil];omega) (.mk (by decide) (by simp only[List.length_cons,List.length_nil,List.cons_append,List.nil_append];omega) (List.forall_mem_cons.2 ⟨by decide,List.forall_mem_cons.2 ⟨by omega,List.forall_mem_cons.2 ⟨by first|omega|decide,List.forall_mem_cons.2 ⟨by decide,List.forall_mem_cons.2 ⟨by omega,fun _ h=>nomatch h⟩⟩⟩⟩⟩) (by first|omega|(simp only[List.length_append,List.length_nil];omega))) (by rw[show(hH r i++cq r.needs[i]! j)++bt [jE,r.needs[i]!.any[j]!.name,[45],mK,r.needs[i]!.any[j]!.range]=hH r i++cq r.needs[i]! (j+1)from by rw[hwl,hwj,List.append_assoc]];exact hK)) (hn:=by decide) ?_;refine ba ?_;exact⟨j+1,(by omega),by omega,(aL.to [(0,0),(4,4),(2,2),(40,3)] ae ae dM (by refine aC.cZ ae ae ae ?_;refine aC.nl 4 ae ae rfl ae ?_;refine aC.bl 2 ae ae ae (congrArg List.length (rfl)) rfl ?_;refine aC.rw 40 ae ae (rfl) ?_;exact aC.nil))⟩
  refine aA ?_;have hnA:=Cy (n:=r.needs[i]!) (j:=j) (by omega);have w4:=nb hnf.2.1;have w5:=hnf.2.2;have w6:=hnf.2.1;refine aA ?_;refine cF (fun hc4=>?_) fun hc4=>?_
  ·refine ax ?_;have hwt:gF r.needs[i]!.when'=bt [jQ,r.needs[i]!.when']:=if_neg hc4;refine ay ?_;refine ct [(.str _),(.str _)] ?_;refine cg (nx':=25) (v:=.tup []) (m':=[(27,.row (hH r i++(cq r.needs[i]! j++gF r.needs[i]!.when'))),(0,.buf 9 [Rec.D r]),(4,.buf 3 [bg.D r.needs[i]!]),(2,.bld (some 27) (hH r i++(cq r.needs[i]! j++gF r.needs[i]!.when')).length true)]) (hc:=fun K' hK=>h450 [jQ,r.needs[i]!.when'] (hH r i++cq r.needs[i]! j) 2 26 _ _ K' (.inr ⟨3,true,by exact rfl,by exact rfl⟩) ae (by simp only[List.length_cons,List.length_nil];omega) (by simp only[List.length_cons,List.length_nil];omega) (.mk (by decide) (by simp only[List.length_cons,List.length_nil,List.cons_append,List.nil_append];omega) (List.forall_mem_cons.2 ⟨by decide,List.forall_mem_cons.2 ⟨by omega,fun _ h=>nomatch h⟩⟩) (by first|omega|(simp only[List.length_append,List.length_nil];omega))) (by rw[show(hH r i++cq r.needs[i]! j)++bt [jQ,r.needs[i]!.when']=hH r i++(cq r.needs[i]! j++gF r.needs[i]!.when')from by rw[hwt,List.append_assoc]];exact hK)) (hn:=by decide) ?_;refine aT ?_;refine fQ (fun hc5=>?_) fun hc5=>?_
   ·refine ax ?_;have hot:ud r.needs[i]!.option=bt [dH,r.needs[i]!.option]:=if_neg hc5;refine ay ?_;refine ct [(.str _),(.str _)] ?_;refine cg (nx':=33) (v:=.tup []) (m':=[(35,.row (hH r (i+1))),(0,.buf 9 [Rec.D r]),(4,.buf 3 [bg.D r.needs[i]!]),(2,.bld (some 35) (hH r (i+1)).length true)]) (hc:=fun K' hK=>h450 [dH,r.needs[i]!.option] (hH r i++(cq r.needs[i]! j++gF r.needs[i]!.when')) 2 34 _ _ K' (.inr ⟨27,true,by exact rfl,by exact rfl⟩) ae (by simp only[List.length_cons,List.length_nil];omega) (by simp only[List.length_cons,List.length_nil];omega) (.mk (by decide) (by simp only[List.length_cons,List.length_nil,List.cons_append,List.nil_append];omega) (List.forall_mem_cons.2 ⟨by decide,List.forall_mem_cons.2 ⟨by omega,fun _ h=>nomatch h⟩⟩) (by first|omega|(simp only[List.length_append,List.length_nil];omega))) (by rw[show(hH r i++(cq r.needs[i]! j++gF r.needs[i]!.when'))++bt [dH,r.needs[i]!.option]=hH r (i+1)from by rw[kE (by omega),hnA,hot];simp only[List.append_assoc,List.append_nil]];exact hK)) (hn:=by decide) ?_;refine ba ?_;exact⟨i+1,(by omega),by omega,(aL.to [(0,0),(2,2),(35,3)] ae ae dM (by refine aC.cZ ae ae ae ?_;refine aC.bl 2 ae ae ae (congrArg List.length (rfl)) rfl ?_;refine aC.rw 35 ae ae (rfl) ?_;exact aC.nil))⟩
   refine az ?_;have hno:ud r.needs[i]!.option=[]:=if_pos (by simpa using hc5);refine aA ?_;exact⟨i+1,(by omega),by omega,(aL.to [(0,0),(2,2),(27,3)] ae ae dM (by refine aC.cZ ae ae ae ?_;refine aC.bl 2 ae ae ae (congrArg List.length (by rw[kE (by omega),hnA,hno];simp only[List.append_assoc,List.append_nil])) rfl ?_;refine aC.rw 27 ae ae (by rw[kE (by omega),hnA,hno];simp only[List.append_assoc,List.append_nil]) ?_;exact aC.nil))⟩
  refine ay ?_;have hnw:gF r.needs[i]!.when'=[]:=if_pos (by simpa using hc4);refine aA ?_;refine fQ (fun hc5=>?_) fun hc5=>?_
  ·refine ax ?_;have hot:ud r.needs[i]!.option=bt [dH,r.needs[i]!.option]:=if_neg hc5;refine ay ?_;refine ct [(.str _),(.str _)] ?_;refine cg (nx':=28) (v:=.tup []) (m':=[(30,.row (hH r (i+1))),(0,.buf 9 [Rec.D r]),(4,.buf 3 [bg.D r.needs[i]!]),(2,.bld (some 30) (hH r (i+1)).length true)]) (hc:=fun K' hK=>h450 [dH,r.needs[i]!.option] (hH r i++cq r.needs[i]! j) 2 29 _ _ K' (.inr ⟨3,true,by exact rfl,by exact rfl⟩) ae (by simp only[List.length_cons,List.length_nil];omega) (by simp only[List.length_cons,List.length_nil];omega) (.mk (by decide) (by simp only[List.length_cons,List.length_nil,List.cons_append,List.nil_append];omega) (List.forall_mem_cons.2 ⟨by decide,List.forall_mem_cons.2 ⟨by omega,fun _ h=>nomatch h⟩⟩) (by first|omega|(simp only[List.length_append,List.length_nil];omega))) (by rw[show(hH r i++cq r.needs[i]! j)++bt [dH,r.needs[i]!.option]=hH r (i+1)from by rw[kE (by omega),hnA,hot,hnw];simp only[List.append_assoc,List.append_nil]];exact hK)) (hn:=by decide) ?_;refine ba ?_;exact⟨i+1,(by omega),by omega,(aL.to [(0,0),(2,2),(30,3)] ae ae dM (by refine aC.cZ ae ae ae ?_;refine aC.bl 2 ae ae ae (congrArg List.length (rfl)) rfl ?_;refine aC.rw 30 ae ae (rfl) ?_;exact aC.nil))⟩
  refine az ?_;have hno:ud r.needs[i]!.option=[]:=if_pos (by simpa using hc5);refine aA ?_;exact⟨i+1,(by omega),by omega,(aL.to [(0,0),(2,2),(3,3)] ae ae dM (by refine aC.cZ ae ae ae ?_;refine aC.bl 2 ae ae ae (congrArg List.length (by rw[kE (by omega),hnA,hno,hnw];simp only[List.append_assoc,List.append_nil])) rfl ?_;refine aC.rw 3 ae ae (by rw[kE (by omega),hnA,hno,hnw];simp only[List.append_assoc,List.append_nil]) ?_;exact aC.nil))⟩
 refine aA ?_;have h33:i=r.needs.length:=by omega
 subst h33;refine az ?_;intro u3;refine ay ?_;refine bq hm (ι:=Nat) (fun i=>[.un,.un,⟨true,.ptr 0 9 0 0⟩,⟨true,.ptr 2 2 0 0⟩,.un,.un,.un,.un,.un,.un,.un,.un,.un,.un,.un,.un,.un,.un,.un,.un,⟨true,.int .i64 (i:Nat)⟩,⟨true,.int .i64 (r.bars.length:Nat)⟩,.un,⟨true,.sl 3 (r.bars.map iy.D)⟩,.un,.un,.un,.un,.un,.un,.un]) (fun i=>[(0,.buf 9 [Rec.D r]),(2,.bld (some 3) (tL r i).length true),(3,.row (tL r i))]) 10 (fun i=>i≤r.bars.length) (fun i=>r.bars.length-i) 0 (by omega) (aL.to [(0,0),(2,2),(3,3)] ae ae dM (by refine aC.cZ ae ae ae ?_;refine aC.bl 2 ae ae ae (congrArg List.length (by rw[Ik])) rfl ?_;refine aC.rw 3 ae ae (by rw[Ik]) ?_;exact aC.nil)) ?_;intro i hi;have q1:=Bu hft i hi;refine az ?_;refine cF (fun hc6=>?_) fun hc6=>?_
 ·refine az ?_;have q4:=hft.b _ (bG (show i<r.bars.length by omega));have q5:=q4.1;have q6:=q4.2.1;have q7:=q4.2.2;have hbt:qU r.bars[i]! =bt [iZ,r.bars[i]!.name,r.bars[i]!.range]++gF r.bars[i]!.when':=rfl;have hxb:=Fy (r:=r) (i:=i) (by omega);have w7:=nb q7;refine ax ?_;refine ca (v:=iy.D r.bars[i]!) (hi:=fun _=>by omega) ?_;refine ax ?_;refine aF (iy.D r.bars[i]!) (he:=by exact rfl) ?_;refine aT ?_;refine ct [(.str _),(.str _),(.str _)] ?_;refine cg (nx':=16) (v:=.tup []) (m':=[(20,.row (tL r i++bt [iZ,r.bars[i]!.name,r.bars[i]!.range])),(0,.buf 9 [Rec.D r]),(2,.bld (some 20) (tL r i++bt [iZ,r.bars[i]!.name,r.bars[i]!.range]).length true),(13,.buf 3 [iy.D r.bars[i]!])]) (hc:=fun K' hK=>h450 [iZ,r.bars[i]!.name,r.bars[i]!.range] (tL r i) 2 19 _ _ K' (.inr ⟨3,true,by exact rfl,by exact rfl⟩) ae (by simp only[List.length_cons,List.length_nil];omega) (by simp only[List.length_cons,List.length_nil];omega) (.mk (by decide) (by simp only[List.length_cons,List.length_nil,List.cons_append,List.nil_append];omega) (List.forall_mem_cons.2 ⟨by decide,List.forall_mem_cons.2 ⟨by omega,List.forall_mem_cons.2 ⟨by omega,fun _ h=>nomatch h⟩⟩⟩) (by first|omega|(simp only[List.length_append,List.length_nil];omega))) (by rw[show(tL r i)++bt [iZ,r.bars[i]!.name,r.bars[i]!.range]=tL r i++bt [iZ,r.bars[i]!.name,r.bars[i]!.range]from rfl];exact hK)) (hn:=by decide) ?_;refine ay ?_;have w8:(bt [iZ,r.bars[i]!.name,r.bars[i]!.range]).length≤2200000:=by unfold bt;simp only[aP,iZ,List.length_append,List.length_cons,List.length_nil];omega
  refine aA ?_;refine fQ (fun hc7=>?_) fun hc7=>?_
  ·refine ax ?_;have hwt:gF r.bars[i]!.when'=bt [jQ,r.bars[i]!.when']:=if_neg hc7;refine ay ?_;refine ct [(.str _),(.str _)] ?_;refine cg (nx':=26) (v:=.tup []) (m':=[(28,.row (tL r (i+1))),(0,.buf 9 [Rec.D r]),(2,.bld (some 28) (tL r (i+1)).length true),(13,.buf 3 [iy.D r.bars[i]!])]) (hc:=fun K' hK=>h450 [jQ,r.bars[i]!.when'] (tL r i++bt [iZ,r.bars[i]!.name,r.bars[i]!.range]) 2 27 _ _ K' (.inr ⟨20,true,by exact rfl,by exact rfl⟩) ae (by simp only[List.length_cons,List.length_nil];omega) (by simp only[List.length_cons,List.length_nil];omega) (.mk (by decide) (by simp only[List.length_cons,List.length_nil,List.cons_append,List.nil_append];omega) (List.forall_mem_cons.2 ⟨by decide,List.forall_mem_cons.2 ⟨by omega,fun _ h=>nomatch h⟩⟩) (by first|omega|(simp only[List.length_append,List.length_nil];omega))) (by rw[show(tL r i++bt [iZ,r.bars[i]!.name,r.bars[i]!.range])++bt [jQ,r.bars[i]!.when']=tL r (i+1)from by rw[hxb,hbt,hwt,List.append_assoc]];exact hK)) (hn:=by decide) ?_;refine ba ?_;exact⟨i+1,(by omega),by omega,(aL.to [(0,0),(2,2),(28,3)] ae ae dM (by refine aC.cZ ae ae ae ?_;refine aC.bl 2 ae ae ae (congrArg List.length (rfl)) rfl ?_;refine aC.rw 28 ae ae (rfl) ?_;exact aC.nil))⟩
  refine az ?_;have hno:gF r.bars[i]!.when'=[]:=if_pos (by simpa using hc7);refine aA ?_;exact⟨i+1,(by omega),by omega,(aL.to [(0,0),(2,2),(20,3)] ae ae dM (by refine aC.cZ ae ae ae ?_;refine aC.bl 2 ae ae ae (congrArg List.length (by rw[hxb,hbt,hno,List.append_nil])) rfl ?_;refine aC.rw 20 ae ae (by rw[hxb,hbt,hno,List.append_nil]) ?_;exact aC.nil))⟩
 refine aA ?_;have h33:i=r.bars.length:=by omega
 subst h33;refine az ?_;intro u4;refine ay ?_;refine bq hm (ι:=Nat) (fun i=>[.un,.un,⟨true,.ptr 0 9 0 0⟩,⟨true,.ptr 2 2 0 0⟩,.un,.un,.un,.un,.un,.un,.un,.un,.un,.un,.un,.un,.un,.un,.un,.un,.un,.un,.un,.un,.un,.un,⟨true,.int .i64 (i:Nat)⟩,⟨true,.int .i64 (r.feats.length:Nat)⟩,.un,⟨true,.sl 2 (r.feats.map bp.D)⟩,.un]) (fun i=>[(0,.buf 9 [Rec.D r]),(2,.bld (some 3) (wN r i).length true),(3,.row (wN r i))]) 10 (fun i=>i≤r.feats.length) (fun i=>r.feats.length-i) 0 (by omega) (aL.to [(0,0),(2,2),(3,3)] ae ae dM (by refine aC.cZ ae ae ae ?_;refine aC.bl 2 ae ae ae (congrArg List.length (by rw[Il])) rfl ?_;refine aC.rw 3 ae ae (by rw[Il]) ?_;exact aC.nil)) ?_;intro i hi;have q1:=HE hft i hi;refine az ?_;refine cF (fun hc8=>?_) fun hc8=>?_
 ·refine az ?_;have q4:=hft.f _ (bG (show i<r.feats.length by omega));have q5:=q4.1.1;have q6:=q4.2;have q8:∀t∈r.feats[i]!.of,t.length≤2097200:=fun t ht=>Nat.le_trans (q4.1.2.2 t ht) (by decide)
  have hxf:=Fz (r:=r) (i:=i) (by omega);refine ax ?_;refine ca (v:=bp.D r.feats[i]!) (hi:=fun _=>by omega) ?_;refine ax ?_;refine aF (bp.D r.feats[i]!) (he:=by exact rfl) ?_;refine aA ?_;refine ct [(.str _),(.str _)] ?_;refine ay ?_;refine Bd (zs:=([cC,r.feats[i]!.name]++r.feats[i]!.of).map D.str) (n:=([cC,r.feats[i]!.name]++r.feats[i]!.of).length) (ha:=by simp) (he:=qR.sl) (hz:=by rw[List.drop_zero];rfl) (hn:=by simp<;>omega) (hb:=by simp only[List.length_cons,List.length_nil,List.cons_append,List.nil_append];omega) ?_;refine cg (nx':=16) (v:=.tup []) (m':=[(21,.row (wN r (i+1))),(0,.buf 9 [Rec.D r]),(2,.bld (some 21) (wN r (i+1)).length true),(13,.buf 2 [bp.D r.feats[i]!])]) (hc:=fun K' hK=>h450 ([cC,r.feats[i]!.name]++r.feats[i]!.of) (wN r i) 2 20 _ _ K' (.inr ⟨3,true,by exact rfl,by exact rfl⟩) ae (by simp only[List.length_cons,List.length_nil];omega) (by simp only[List.length_cons,List.length_nil];omega) (.mk (l:=r.feats[i]!.name::r.feats[i]!.of) (by decide) (by simp only[List.length_cons,List.length_nil,List.cons_append,List.nil_append];omega) (List.forall_mem_cons.2 ⟨by decide,List.forall_mem_cons.2 ⟨by omega,q8⟩⟩) (by first|omega|(simp only[List.length_append,List.length_nil];omega))) (by rw[show(wN r i)++bt ([cC,r.feats[i]!.name]++r.feats[i]!.of)=wN r (i+1)from by rw[hxf];rfl];exact hK)) (hn:=by decide) ?_;refine ba ?_;exact⟨i+1,(by omega),by omega,(aL.to [(0,0),(2,2),(21,3)] ae ae dM (by refine aC.cZ ae ae ae ?_;refine aC.bl 2 ae ae ae (congrArg List.length (rfl)) rfl ?_;refine aC.rw 21 ae ae (rfl) ?_;exact aC.nil))⟩
 refine az ?_;have h33:i=r.feats.length:=by omega
 subst h33;have hne:wN r r.feats.length≠[]:=by
  rw[Bv];unfold eZ mh bt;simp[aP,de]
 refine cg (nx':=11) (v:=.str (wN r r.feats.length)) (m':=[(0,.buf 9 [Rec.D r])]) (hc:=fun K' hK=>h452 _ _ K' ⟨2,wN r r.feats.length,rfl,.inr ⟨3,true,by exact rfl,by exact rfl⟩,hne,hK⟩) (hn:=by decide) ?_;refine az ?_;refine cu ?_;exact Bv r
end Go.Abs
end
namespace Go.Abs
def Ld.wM {r:Ld}(h:r.sm):r.to r.rest=r:=by
 obtain⟨ls,n⟩:=r;have h1:n≤ls.length:=h.1.1;simp only[Ld.to,Ld.rest,List.length_drop,Ld.mk.injEq,true_and];omega
def Ld.rV {r:Ld}{q:List ah}(h:q<:+r.ls):(r.to q).rest=q:=by
 obtain⟨ls,n⟩:=r;obtain⟨a,e⟩:=h;simp only at e;subst e;simp[Ld.rest,Ld.to]
def Ld.sm.to {r:Ld}(h:r.sm)(q:List ah):(r.to q).sm:=⟨⟨Nat.sub_le _ _,h.1.2⟩,h.2⟩
def Ld.tl (r:Ld):r.rest<:+r.ls:=List.drop_suffix _ _
def cx (w:ah)(n:Nat)(op:Bool)(p:List ah):List ah:=match bo w n op p with
 |some (_,q)=>q
 |none=>p
def kq {w:ah}{n:Nat}{op:Bool}{p l q:List ah}(h:bo w n op p=some (l,q)):q<:+p:=by
 obtain⟨t,rfl,_⟩:=c9 h;exact List.suffix_cons _ _
def Ld.xd {r:Ld}{p:List ah}(hp:p<:+r.ls){w:ah}{n:Nat}{op:Bool}:(r.to p).after (bo w n op p)=r.to (cx w n op p):=by
 unfold cx;cases h:bo w n op p with
 |none=>rfl
 |some lq=>
  obtain⟨l,q⟩:=lq;have:=gM h;have:=hp.length_le;simp only[Ld.after,Ld.to,Ld.mk.injEq,true_and];omega
def rN {Γ:Ctx}(h:FV Γ){r:Ld}(hr:r.sm){p:List ah}(hp:p<:+r.ls){w:ah}{n:Nat}{op:Bool}(hn:n≤1000)(ho:op=true→1≤n):
  Γ.fp 465 (Ld.D (r.to p)) [.str w,.int .i64 (n:Nat),.bool op]∧Γ.fv 465 (Ld.D (r.to p)) [.str w,.int .i64 (n:Nat),.bool op]=.tup [uc (bo w n op p),.bool (bo w n op p).isSome]∧Γ.fs 465 (Ld.D (r.to p)) [.str w,.int .i64 (n:Nat),.bool op]=Ld.D (r.to (cx w n op p)):=by
 have:=h (r.to p) w n op (hr.to p) hn ho;rw[Ld.rV hp,Ld.xd hp]at this;exact this
def p0 {w:ah}{n:Nat}{op:Bool}{t:ah}{l:List ah}(h:ju w n op t=some l):(n=0∨l.length=n)∧[]∉l∧l=cN n op t:=by
 unfold ju at h;split at h
 ·rename_i hc;obtain rfl:=Option.some.inj h;exact⟨hc.2.1,hc.2.2,rfl⟩
 ·cases h
def mi (x:UInt8):∀(l:List ah)(n:Nat),(aP [x] (l.drop n)).length≤(aP [x] l).length
 |[],n=>by simp
 |a::r,0=>Nat.le_refl _
 |[a],n+1=>by simp[aP]
 |a::b::r,n+1=>by
  have:=mi x (b::r) n;rw[List.drop_succ_cons,ew [x] a (b::r) (by simp)];simp only[List.length_append];omega
def yR {n:Nat}{op:Bool}{t w:ah}(h:w∈cN n op t):w.length≤t.length:=by
 unfold cN at h;split at h
 ·unfold nU at h;split at h
  ·exact dd t 32 h
  ·rw[List.mem_append]at h;rcases h with h|h
   ·exact dd t 32 (List.mem_of_mem_take h)
   ·simp only[List.mem_singleton]at h;subst h;have:=mi 32 (ai t 32) (n-1);rw[jJ (b:=32) (x:=32) rfl t]at this;exact this
 ·exact dd t 32 h
def jL {r:Ld}(hr:r.sm){p:List ah}(hp:p<:+r.ls){w:ah}{n:Nat}{op:Bool}{l q:List ah}(h:bo w n op p=some (l,q)):
  (n=0∨l.length=n)∧(∀u∈l,u.length≤1048576)∧q<:+r.ls∧q.length+1=p.length:=by
 obtain⟨t,rfl,ht⟩:=c9 h;obtain⟨h1,_,h3⟩:=p0 ht;refine⟨h1,fun u hu=>?_,(List.suffix_cons _ _).trans hp,rfl⟩;rw[h3]at hu;have:=yR hu;have:=hr.2 t (hp.subset (.head _));omega
def Ld.back {r:Ld}{t:ah}{q:List ah}(h:(t::q)<:+r.ls):tu (Ld.D (r.to q)) 2 1 1 (.int .i64 (((r.to q).at':Nat) -1:Int))=Ld.D (r.to (t::q)):=by
 have:=h.length_le;show D.agg [.sl 1 (r.ls.map D.str),.int .i64 (((r.ls.length-q.length:Nat):Int) -1)]=D.agg [.sl 1 (r.ls.map D.str),.int .i64 ((r.ls.length-(q.length+1):Nat):Int)];simp only[List.length_cons]at this;congr 4;omega
def fU {α:Type}{o:Option α}(h:o.isSome=true):∃a,o=some a:=Option.isSome_iff_exists.1 h
def fT {α:Type}{o:Option α}(h:o.isSome=false):o=none:=by cases o with
 |none=>rfl
 |some a=>cases h
def bz.N (x:bz):Go.Abs.D:=.agg [.str x.name,.str x.range,JC x.feats,.bool x.bare]
def JE:∀l:List ah,rr (JC l) (.sl 1 (l.map D.str))
 |[]=>.nil 1
 |_::_=>.refl _
def bz.wk (x:bz):rr x.N x.D:=.ag (.cons (.refl _) (.cons (.refl _) (.cons (JE _) (.cons (.refl _) .nil))))
def bz.kH (x:bz):x.N.aI=true:=by
 simp only[bz.N,D.aI,aG,uS,Bool.and_true]
def wS {p:List ah}(h:bo jE 5 true p=none):bV p=([],p):=by
 match p,h with
 |[],_=>rfl
 |t::r,h=>
  simp only[bo]at h;split at h
  ·cases h
  ·rename_i hn;simp only[bV,hn]
def Ay {p l q:List ah}(h:bo jE 5 true p=some (l,q))(ho:qC l=false):bV p=([],p):=by
 obtain⟨t,rfl,ht⟩:=c9 h;simp only[bV,ht,ho,Bool.false_eq_true,if_false]
def yQ {p l q:List ah}(h:bo jE 5 true p=some (l,q))(ho:qC l=true):bV p=(eR l::(bV q).1,(bV q).2):=by
 obtain⟨t,rfl,ht⟩:=c9 h;simp only[bV,ht,ho,if_true]
def m9 (s:ah)(b:Int):ai s b≠[]:=by
 have:=fB b s [];intro h;unfold ai at h;rw[h]at this;simp at this
def JD {l:List ah}(h:l≠[]):JC l=.sl 1 (l.map D.str):=by
 match l,h with
 |_::_,_=>rfl
def fI (p:List ah):(bj p).2<:+p:=by
 unfold bj;split
 ·rename_i h;exact kq h
 ·exact List.suffix_refl _
def EI (p:List ah):(p7 p).2<:+p:=by
 unfold p7;split
 ·rename_i h;exact kq h
 ·exact List.suffix_refl _
end Go.Abs
section
namespace Go.Abs
open Go
def fA:aB:=⟨1,5,jN,cn,(sq (r1 [gm cse] 1 0) (sq (sq (rg [gm s0,gn (.callF 465 l0 [(cs [119,104,101,110]),kn,tO] Mq),gm l1,ge l2 0,ge l2 1,gm l3,gm l4] [(4,5),(2,6)]) (sq (r1 [gm s2] 3 0) (.cond s3 (sq (r1 [gm s4,ga 1 l0 b9,gd l1,gm l2] 1 3) .ret) .skip))) (zH cse)))⟩
def w468 {Γ:Ctx}(hm:(Γ.at 1).bm)(h465:FV (Γ.at 1))(r:Ld)  (hp0:r.sm):bx (Γ.at 1) fA.body (BE fA 2 (.str (bj r.rest).1) (Ld.D (r.to (bj r.rest).2)):Ex→List aW→St→Prop) (eu fA (.ptr 0 2 0 0::[])) ⟨1,[(0,.buf 2 [(Ld.D r)])]⟩:=by
 show bx _ _ _ [⟨true,.ptr 0 2 0 0⟩,.un,.un,.un,.un] ⟨1,[(0,.buf 2 [(Ld.D r)])]⟩;have hself:=Ld.wM hp0;have hq1:=r.tl;refine ak ?_;refine aA ?_;rw[show Ld.D r=Ld.D (r.to r.rest)by rw[hself]];refine ax ?_;refine iY (hc:=rN h465 hp0 (p:=r.rest) hq1 (w:=jQ) (n:=2) (op:=true) (by decide) (by decide)) ?_;refine ax ?_;refine fG _ ?_;refine b6 ?_;refine cF (fun hc0=>?_) fun hc0=>?_
 ·refine ay ?_;obtain⟨⟨l,q2⟩,hq⟩:=fU hc0;have hnr:cx jQ 2 true r.rest=q2:=by simp only[cx,hq]
  obtain⟨hl,hlm,hq2,hqp⟩:=jL hp0 hq1 hq;rw[hnr,hq];have hwp:bj r.rest=(l[1]!,q2):=by simp only[bj,hq]
  rw[hwp];refine ax ?_;refine cD 1 (hb:=fun _=>by omega) ?_;refine ca (v:=.str l[1]!) (hi:=fun _=>by omega) ?_;refine az ?_;refine dV trivial ik (Eq.trans ae (congrArg D.str ?_)) ae ae ae;rfl
 refine ay ?_;have hq:=fT hc0;have hnr:cx jQ 2 true r.rest=r.rest:=by simp only[cx,hq]
 rw[hnr];have hwp:bj r.rest=([],r.rest):=by simp only[bj,hq]
 rw[hwp];refine az ?_;refine dV trivial ik (Eq.trans ae (congrArg D.str ?_)) ae ae ae;rfl
def FW (Γ:Ctx):Prop:=∀(r:Ld),(r.sm)→Γ.fp 468 (Ld.D r) []∧Γ.fv 468 (Ld.D r) []=.str (bj r.rest).1∧Γ.fs 468 (Ld.D r) []=Ld.D (r.to (bj r.rest).2)
end Go.Abs
end
