/- A part of the proofs of the statements: U17, UX, U18, U19, V1, V2, V3, V4, V5, V6, V7, V8, V9, V10, V11, V12, X7, X8, X9, UY, X10, X11, X12, RSpec15, X13. -/
import Derived.Test.YtpdlhpamcaocgaaGreatDoorP06
set_option linter.all false
set_option maxRecDepth 4000
section
namespace Go.Abs
open Go
def zU:aB:=⟨1,19,[⟨1,none⟩,⟨2,none⟩],iK,(sq (rg [gb 1 s0,gm cse,gm dx] [(3,0),(1,1),(2,2)]) (sq (sq (r1 [gf 0 s3,gd l0,gl l1,aV l2 b8,gm l3,ko 4 0 s3,lB 4 l5,cx 4 (.len l6),cx 4 (dh l7 zm),fI l4 l8] 4 9) (.cond s4 (sq (rg [gm cse,gm dx] [(1,0),(2,1)]) .ret) .skip)) (sq (r1 [gm (.c (.ar))] 18 0) (sq (sq (rg [gf 0 s3,gd l0,gl l1,gm bD] [(8,1),(6,2),(5,3)]) (.block 0 (.loop (sq (r1 [aV s5 s6] 7 0) (sq (iS s7 0) (sq (.block 1 (sq (r1 [ga 1 s8 s5,gd l0,gm l1] 9 2) (sq (sq (r1 [gm s9,gl l0,aV l1 b8,gm l2,eV 3 s9,cx 3 (.len l4),cx 3 (dh l5 zm),fI l3 l6] 10 7) (.cond lr (sq (rg [gm cse,gm dx] [(1,0),(2,1)]) .ret) .skip)) (sq (r1 [gm (.c (.ar))] 17 0) (sq (sq (rg [gm s9,gl l0,gm bD] [(14,0),(12,1),(11,2)]) (.block 2 (.loop (sq (r1 [aV oo m6] 13 0) (sq (iS tk 2) (sq (.block 3 (sq (r1 [ga 7 rN oo,gk 7 true l0,gb 7 (.c (.agg [.int .i64 0,.int .i64 0,.int .i64 0,.int .i64 0,.int .i64 0,.str [],.str []])),gt 7 l2 l1] 15 2) (sq (sq (r1 [gk 7 true uT,gx 827 [l0] IK,om l1] 16 2) (.cond AW (sq (rg [gm cse,gm dx] [(1,0),(2,1)]) .ret) .skip)) (r1 [gm wM,gk 7 true uT,gx 828 [l1] IK,gn (.bsl 1 (.str []) 1 [(0,l2)]),gn (.app 1 l0 l3),gm l4] 17 5)))) (r1 [av oo b8,gm l0] 11 1))))))) (r1 [gm Cm,gm wM,gx 242 [l1,(cs [44,32])] [[.sl 1 [.a]],[.a]],gn (.bsl 1 (.str []) 1 [(0,l2)]),gn (.app 1 l0 l3),gm l4] 18 5)))))) (r1 [av s5 b8,gm l0] 5 1))))))) (sq (rg [gm Cm,gx 242 [l0,(cs [32,124,124,32])] [[.sl 1 [.a]],[.a]],gm l1,gm tK] [(1,2),(2,3)]) .ret)))))⟩
def w684 {Γ:Ctx}(hm:(Γ.at 0).bp)(h242:Fo Γ)(h827:Fv Γ)(h828:Ic Γ)(r:vC)  (hp0:mA r):ef Γ zU (.tup [.str (if jW r=true then Cl r else []),.bool (jW r)]) [gV r]:=by
 show bz _ _ _ [⟨_,_⟩,_,_,_,_,_,_,_,_,_,_,_,_,_,_,_,_,_,_] _;refine ak ?_;refine dp ?_;intro u0;refine aA ?_;refine nr ?_;refine az ?_;refine cI (fun hc0=>?_) fun hc0=>?_
 ·refine aT ?_;refine b7 (aR (congrArg D.str ?_) (congrArg D.bool ?_));all_goals
   have hq:jW r=false:=by
    simp only[jW];rcases hc0 with h|h
    ·rw[decide_eq_false (by omega)];rfl
    ·rw[decide_eq_false (by omega:¬r.length≤6),Bool.and_false];rfl
   simp[hq]
 refine dp ?_;intro u1;refine ay ?_;have hb:jW r=cj (fun i=>kZ r[i]!) 0 r.length:=by simp only[jW];rw[decide_eq_true (by omega),decide_eq_true (by omega)];rfl
 refine br hm (ι:=Nat) (fun i=>[.un,.un,.un,⟨true,.ptr 0 1 0 0⟩,.un,⟨true,.int .i64 (i:Nat)⟩,⟨true,.int .i64 (r.length:Nat)⟩,.un,⟨true,.sl 1 (r.map ou)⟩,.un,.un,.un,.un,.un,.un,.un,.un,.un,⟨true,.own 1 1 0 ((r.map pz).take i).length⟩]) (fun i=>[(0,.buf 1 [gV r]),(1,.buf 1 (((r.map pz).take i).map D.str))]) 18 (fun i=>i≤r.length∧jW r=cj (fun i=>kZ r[i]!) i r.length∧1≤r.length∧r.length≤6) (fun i=>r.length-i) 0 ⟨by omega,hb,by omega,by omega⟩ (aL.to [(0,0)] ae ae (by repeat(first|exact cV.nil|refine cV.un ?_|refine cV.eq ae ?_|refine cV.nl ae ae ?_|refine cV.ni (Or.inr ⟨_,_,_,rfl⟩) ?_)) (by(first|refine aC.cZ ae ae bR ?_|refine aC.lH ae ae ae ?_|refine aC.pj ae ae ae ae ?_);refine aC.mt ae ae ae ae ?_;exact aC.nil)) ?_;rintro i ⟨hi,hr,hr1,hr6⟩;have hti:((r.map pz).take i).length≤i:=by rw[List.length_take];omega
 refine az ?_;refine cI (fun hc1=>?_) fun hc1=>?_
 ·refine fG ?_;intro u2;refine az ?_;refine nr ?_;refine az ?_;refine cI (fun hc2=>?_) fun hc2=>?_
  ·refine bY ?_;refine b7 (aR (congrArg D.str ?_) (congrArg D.bool ?_));all_goals
    have hq:jW r=false:=by
     rw[hr,aK (by omega)];have:kZ r[i]! =false:=by
      simp only[kZ];rcases hc2 with h|h
      ·rw[decide_eq_false (by omega)];rfl
      ·rw[decide_eq_false (by omega:¬r[i]!.length≤6),Bool.and_false];rfl
     rw[this];rfl
    simp[hq]
  refine bY ?_;intro u3;refine ay ?_;have hal:1≤r[i]!.length∧r[i]!.length≤6:=by omega
  have hkb:kZ r[i]! =cj (fun k=>iy r[i]![k]!) 0 r[i]!.length:=by simp only[kZ];rw[decide_eq_true (by omega),decide_eq_true (by omega)];rfl
  refine br hm (ι:=Nat) (fun k=>[.un,.un,.un,⟨true,.ptr 0 1 0 0⟩,.un,⟨true,.int .i64 (i:Nat)⟩,⟨true,.int .i64 (r.length:Nat)⟩,.un,⟨true,.sl 1 (r.map ou)⟩,.un,.un,⟨true,.int .i64 (k:Nat)⟩,⟨true,.int .i64 (r[i]!.length:Nat)⟩,.un,⟨true,.sl 7 (r[i]!.map bU.D)⟩,.un,.un,⟨true,.own 2 1 0 ((r[i]!.map cP).take k).length⟩,⟨true,.own 1 1 0 ((r.map pz).take i).length⟩]) (fun k=>[(0,.buf 1 [gV r]),(1,.buf 1 (((r.map pz).take i).map D.str)),(2,.buf 1 (((r[i]!.map cP).take k).map D.str))]) 34 (fun k=>k≤r[i]!.length∧kZ r[i]! =cj (fun k=>iy r[i]![k]!) k r[i]!.length) (fun k=>r[i]!.length-k) 0 ⟨by omega,hkb⟩ (aL.to [(0,0),(1,1)] ae ae (by repeat(first|exact cV.nil|refine cV.un ?_|refine cV.eq ae ?_|refine cV.nl ae ae ?_|refine cV.ni (Or.inr ⟨_,_,_,rfl⟩) ?_)) (by(first|refine aC.cZ ae ae bR ?_|refine aC.lH ae ae ae ?_|refine aC.pj ae ae ae ae ?_);(first|refine aC.cZ ae ae bR ?_|refine aC.lH ae ae ae ?_|refine aC.pj ae ae ae ae ?_);refine aC.mt ae ae ae ae ?_;exact aC.nil)) ?_;rintro k ⟨hk,hkr⟩;have htk:((r[i]!.map cP).take k).length≤k:=by rw[List.length_take];omega
  refine az ?_;refine cI (fun hc3=>?_) fun hc3=>?_
  ·refine aA ?_;first|refine ca (v:=(bU.D _)) ?_|refine gA (v:=(bU.D _)) ?_
   refine ax ?_;refine aF (bU.D r[i]![k]!) (he:=by exact rfl) ?_;refine az ?_;have hlo:=hp0 r[i]! (bG (by omega)) _ (bG (show k<r[i]!.length by omega));refine ax ?_;refine aj (hc:=h827 r[i]![k]! hlo.sm) ?_;refine ay ?_;refine aq (fun hc4=>?_) (fun hc4=>?_)
   ·simp only[Bool.not_eq_true']at hc4;refine jB ?_;refine b7 (aR (congrArg D.str ?_) (congrArg D.bool ?_));all_goals
     have hq:jW r=false:=by rw[hr,aK (by omega),hkr,aK (by omega),hc4];rfl
     simp[hq]
   simp only[Bool.not_eq_false']at hc4;refine aA ?_;refine aj (hc:=h828 r[i]![k]! hlo.sm) ?_;refine cg [(.str _)] ?_;refine dp ?_;have hq:=hO cP r[i]! (show k<r[i]!.length by omega);rw[←hq];exact⟨k+1,⟨by omega,by rw[hkr,aK (by omega),hc4];rfl⟩,by omega,(aL.to [(0,0),(1,1),(46,2)] ae ae dN (by(first|refine aC.cZ ae ae bR ?_|refine aC.lH ae ae ae ?_|refine aC.pj ae ae ae ae ?_);(first|refine aC.cZ ae ae bR ?_|refine aC.lH ae ae ae ?_|refine aC.pj ae ae ae ae ?_);refine aC.nl 46 ae ae ae bR ?_;exact aC.nil))⟩
  refine az ?_;obtain rfl:k=r[i]!.length:=by omega
  have hok:kZ r[i]! =true:=by rw[hkr,bW (by omega)]
  rw[List.take_of_length_le (show(r[i]!.map cP).length≤r[i]!.length by rw[List.length_map];exact Nat.le_refl _)];have hj:∀t∈(r[i]!.map cP),t.length≤2097200:=fun t ht=>by
   obtain⟨c,hc,rfl⟩:=List.mem_map.1 ht;exact Nat.le_trans (xe (hp0 r[i]! (bG (by omega)) c hc)) (by decide)
  refine ay ?_;refine aj (hc:=h242 (r[i]!.map cP) [44,32] (by rw[List.length_map];omega) (by simp) hj) (ha:=fun _=>congrArg (fun d=>[d,D.str [44,32]]) (rU (q:=D.str) (fun _=>rfl) ae)) (hp:=fun _=>⟨pe (q:=D.str) (fun _=>rfl) ae,rfl,trivial⟩) ?_;refine cg [.str (pz r[i]!)] ?_;refine dp ?_;have hq:=hO pz r (show i<r.length by omega);rw[←hq];exact⟨i+1,⟨by omega,by rw[hr,aK (by omega),hok];rfl,hr1,hr6⟩,by omega,(aL.to [(0,0),(39,1)] ae ae dN (by(first|refine aC.cZ ae ae bR ?_|refine aC.lH ae ae ae ?_|refine aC.pj ae ae ae ae ?_);refine aC.nl 39 ae ae ae bR ?_;exact aC.nil))⟩
 refine az ?_;obtain rfl:i=r.length:=by omega
 have hfw:jW r=true:=by rw[hr,bW (by omega)]
 rw[List.take_of_length_le (show(r.map pz).length≤r.length by rw[List.length_map];exact Nat.le_refl _)];have hj:∀t∈(r.map pz),t.length≤2097200:=fun t ht=>by
  obtain⟨a,ha,rfl⟩:=List.mem_map.1 ht;obtain⟨i,hi,rfl⟩:=List.mem_iff_getElem.1 ha;have h1:=Dl hfw hi;rw[show r[i]! =r[i]by simp[hi]]at h1;exact Nat.le_trans (CY (hp0 _ ha) (Bd h1).2) (by decide)
 refine ax ?_;refine aj (hc:=h242 (r.map pz) [32,124,124,32] (by rw[List.length_map];omega) (by simp) hj) (ha:=fun _=>congrArg (fun d=>[d,D.str [32,124,124,32]]) (rU (q:=D.str) (fun _=>rfl) ae)) (hp:=fun _=>⟨pe (q:=D.str) (fun _=>rfl) ae,rfl,trivial⟩) ?_;refine aA ?_;refine b7 (aR (congrArg D.str ?_) (congrArg D.bool ?_));all_goals (simp only[hfw,if_true];first|done|rfl)
def Fu (Γ:Ctx):Prop:=∀(r:vC),(mA r)→Γ.pre 684 [gV r]∧Γ.val 684 [gV r]=.tup [.str (if jW r=true then Cl r else []),.bool (jW r)]
def Cn:aB:=⟨1,5,j5,cr,(sq (rg [gb 1 s0,gm dx] [(2,0),(1,1)]) (sq (rg [gk 1 true s2,gx 684 [l0] [[.sl 1 [.sl 7 [.a,.a,.a,.a,.a,.a,.a]]]],gm l1,ge l2 0,ge l2 1,gm l3,gm l4] [(4,5),(3,6)]) (sq (r1 [gm s3,gm l0,gmt 1 s4,cH 1 (.lenS l2),cH 1 (lK l3 (i6 96)),gy l1 l4,gm l5] 1 6) .ret)))⟩
def w685 {Γ:Ctx}(hm:(Γ.at 0).bp)(h684:Fu Γ)(r:vC)  (hp0:mA r):ef Γ Cn (.bool (pV r)) [gV r]:=by
 show bz _ _ _ [⟨_,_⟩,_,_,_,_] _;refine ak ?_;refine aQ ?_;refine aj (hc:=h684 r hp0) ?_;refine jB ?_;refine nr ?_;refine aQ ?_;refine bL ?_;cases hf:jW r with
 |false=>simp[pV,hf]
 |true=>simp only[pV,hf,if_true,Bool.true_and];exact decide_eq_decide.2 (by omega)
def KM (Γ:Ctx):Prop:=∀(r:vC),(mA r)→Γ.pre 685 [gV r]∧Γ.val 685 [gV r]=.bool (pV r)
def yo:aB:=⟨1,6,j5,cr,(sq (rg [gb 1 s0,gm cse] [(2,0),(1,1)]) (sq (sq (rg [gk 1 true s2,gx 684 [l0] [[.sl 1 [.sl 7 [.a,.a,.a,.a,.a,.a,.a]]]],gm l1,ge l2 0,ge l2 1,gm l3,gm l4] [(4,5),(3,6)]) (sq (r1 [gm s3,gm l0,gmt 1 s4,cH 1 (.lenS l2),cH 1 (lK l3 (i6 96)),gy l1 l4] 5 5) (.cond s5 (sq (r1 [gm s4,gm l0] 1 1) .ret) .skip))) (zk cse)))⟩
def w496 {Γ:Ctx}(hm:(Γ.at 0).bp)(h684:Fu Γ)(r:vC)  (hp0:mA r):ef Γ yo (.str (uS r)) [gV r]:=by
 show bz _ _ _ [⟨_,_⟩,_,_,_,_,_] _;refine ak ?_;refine aT ?_;refine aj (hc:=h684 r hp0) ?_;refine fG ?_;refine nr ?_;refine az ?_;refine aq (fun hc0=>?_) (fun hc0=>?_)
 ·simp only[Bool.and_eq_true,decide_eq_true_eq]at hc0;refine aT ?_;refine cq ?_;have hm:pV r=true:=by simp only[pV,hc0.1,Bool.true_and,decide_eq_true_eq];have:=hc0.2;rw[hc0.1,if_pos rfl]at this;omega
  simp only[uS,hm,hc0.1,if_true]
 skip
 refine aQ ?_;refine cq ?_;have hm:pV r=false:=by
  cases hf:jW r with
  |false=>simp[pV,hf]
  |true=>
   rw[hf]at hc0;simp only[if_true,Bool.true_and,decide_eq_false_iff_not]at hc0;simp only[pV,hf,Bool.true_and,decide_eq_false_iff_not];omega
 simp[uS,hm]
def KB (Γ:Ctx):Prop:=∀(r:vC),(mA r)→Γ.pre 496 [gV r]∧Γ.val 496 [gV r]=.str (uS r)
end Go.Abs
end
section
namespace Go.Abs
open Go
def Hi (Γ:Ctx):Prop:=∀(s:ah),(s.length≤1048576)→Γ.pre 124 [.str s,.str [124,124]]∧Γ.val 124 [.str s,.str [124,124]]=.sl 1 ((aJ s []).map D.str)
def KL (Γ:Ctx):Prop:=∀(s:ah)(b:UInt8),(b=32)→(s.length≤1048576)→Γ.pre 683 [.str s,.str [b]]∧Γ.val 683 [.str s,.str [b]]=.str (ea s)
def HT (Γ:Ctx):Prop:=∀(r:Rec),(su r∧jO r)→Γ.pre 215 [Rec.D r]∧Γ.val 215 [Rec.D r]=.str (iP r)
end Go.Abs
end
section
namespace Go.Abs
open Go
def yn:aB:=⟨1,22,[⟨1,some (1,true)⟩,⟨2,none⟩],[[.sl 1 [.sl 7 [.a,.a,.a,.a,.a,.a,.a]]],[.a]],(sq (rg [gb 1 (.c (.agg [.ar])),gm bD] [(1,0),(2,1)]) (sq (sq (r1 [gm s0,wK l0,dz l1 (i6 96)] 3 2) (.cond s3 (sq (r1 [gn (.build [.ar] []),gt 1 s1 l0,gm kd] 2 2) .ret) .skip)) (sq (r1 [gb 1 (.c (.agg [.ar]))] 18 0) (sq (sq (rg [gm s0,gx 124 [l0,(cs [124,124])] iK,gl l1,gm bD] [(7,1),(5,2),(4,3)]) (.block 0 (.loop (sq (r1 [aV s4 s5] 6 0) (sq (iS s6 0) (sq (.block 1 (sq (r1 [ga 1 s7 s4,gd l0,gm l1] 8 2) (sq (r1 [gm (.c (.ar))] 16 0) (sq (sq (rg [gm s8,gx 124 [l0,(cs [44])] iK,gl l1,gm bD] [(12,1),(10,2),(9,3)]) (.block 2 (.loop (sq (r1 [aV s9 lr] 11 0) (sq (iS oo 2) (sq (.block 3 (sq (r1 [ga 1 m6 s9,gd l0,gm l1] 13 2) (sq (rg [gm tk,gx 683 [l0,(cs [32])] iK,gx 682 [l1] cr,gm l2,ge l3 0,ge l3 1,gb 7 (.c (.agg [.int .i64 0,.int .i64 0,.int .i64 0,.int .i64 0,.int .i64 0,.str [],.str []])),gt 7 l6 l4,gm l5] [(17,6),(14,8)]) (sq (sq (r1 [gm rN,ct l0 bD] 15 1) (.cond uT (sq (r1 [gn (.build [.ar] []),gt 1 s1 l0,gm zm] 2 2) .ret) .skip)) (r1 [gm AW,gk 7 true wM,gn (.bsl 7 (.agg [.int .i64 0,.int .i64 0,.int .i64 0,.int .i64 0,.int .i64 0,.str [],.str []]) 1 [(0,l1)]),gn (.app 7 l0 l2),gm l3] 16 4))))) (r1 [av s9 b8,gm l0] 9 1))))))) (rg [gf 0 Cm,gd l0,gm AW,gn (.bsl 1 (.ar) 1 [(0,l2)]),gn (.app 1 l1 l3),gf 0 Cm,gt 1 l5 l4] []))))) (r1 [av s4 b8,gm l0] 4 1))))))) (sq (sq (r1 [gk 1 true Cm,gx 684 [l0] [[.sl 1 [.sl 7 [.a,.a,.a,.a,.a,.a,.a]]]],gm l1,ge l2 0,ge l2 1,gm l3,gm l4] 19 6) (sq (r1 [gm JB,om l0] 20 1) (.cond Fi (sq (r1 [gn (.build [.ar] []),gt 1 s1 l0,gm zm] 2 2) .ret) .skip))) (sq (sq (r1 [gk 1 true Cm,gx 685 [l0] [[.sl 1 [.sl 7 [.a,.a,.a,.a,.a,.a,.a]]]],om l1] 21 2) (.cond s21 (sq (r1 [gn (.build [.ar] []),gt 1 s1 l0,gm kd] 2 2) .ret) .skip)) (sq (r1 [gk 1 true Cm,gt 1 s1 l0,gm bD] 2 2) .ret)))))))⟩
def w495 {Γ:Ctx}(hm:(Γ.at 0).bp)(h124:CN Γ)(h682:KK Γ)(h683:KL Γ)(h684:Fu Γ)(h685:KM Γ)(h9124:Hi Γ)(s:ah)  (hp0:s.length≤1048576):ef Γ yn (.tup [gV (iF s).1,.int .i64 (iF s).2]) [.str s]:=by
 show bz _ _ _ [⟨_,_⟩,_,_,_,_,_,_,_,_,_,_,_,_,_,_,_,_,_,_,_,_,_] _;have hdl:=kW s [];have hgl:∀i,i<(aJ s []).length→(aJ s [])[i]!.length≤s.length:=fun i hi=>by
  have:=hdl.2 _ (bG hi);simpa using this
 refine ak ?_;refine ba ?_;intro u0;refine ay ?_;refine cI (fun hc0=>?_) fun hc0=>?_
 ·refine ay ?_;refine eH [.ar] ?_;refine aF (.agg [.ar]) (he:=by exact rfl) ?_;refine az ?_;refine b7 (aR ?_ (congrArg (D.int .i64) ?_));all_goals
   have hq:iF s=([],3):=by
    unfold iF;rw[if_pos (by omega)]
   rw[hq];first|done|rfl
 refine ba ?_;refine aj (hc:=h9124 s (by omega)) ?_;refine ax ?_;intro u1;refine ay ?_;refine br hm (ι:=Nat) (fun i=>[.un,⟨true,.ptr 0 1 0 0⟩,.un,.un,⟨true,.int .i64 (i:Nat)⟩,⟨true,.int .i64 ((aJ s []).length:Nat)⟩,.un,⟨true,.sl 1 ((aJ s []).map D.str)⟩,.un,.un,.un,.un,.un,.un,.un,.un,.un,.un,⟨true,.ptr 5 1 0 0⟩,.un,.un,.un]) (fun i=>[(0,.buf 1 [.agg [.ar]]),(5,.buf 1 [.agg [.own 1 1 0 ((j7 s).take i).length]]),(1,.buf 1 (((j7 s).take i).map ou))]) 10 (fun i=>i≤(aJ s []).length∧AU s=cj (fun i=>wOK (aJ s [])[i]!) i (aJ s []).length) (fun i=>(aJ s []).length-i) 0 ⟨by omega,rfl⟩ (aL.to [(0,0),(5,5)] ae ae dN (by(first|refine aC.cZ ae ae bR ?_|refine aC.lH ae ae ae ?_|refine aC.pj ae ae ae ae ?_);refine aC.ni 5 ae ae (by exact⟨_,_,rfl,⟨_,rfl,⟨_,_,rfl,Or.inr ⟨_,_,_,rfl⟩,rfl⟩⟩,rfl⟩) ?_;refine aC.mt ae ae ae ae ?_;exact aC.nil)) ?_;rintro i ⟨hi,hr⟩;have hrt:((j7 s).take i).length≤i:=by rw[List.length_take];omega
 refine az ?_;refine cI (fun hc1=>?_) fun hc1=>?_
 ·refine ix ?_;have hgi:=hgl i (by omega);have hsl:=cL (aJ s [])[i]! 44;have hsp:1≤(ai (aJ s [])[i]! 44).length:=fq _ _ _;refine ax ?_;refine aj (v:=.sl 1 ((ai (aJ s [])[i]! 44).map D.str)) (hc:=h124 (aJ s [])[i]! 44 (by omega)) ?_;refine ax ?_;intro u2;refine ay ?_;refine br hm (ι:=Nat) (fun k=>[.un,⟨true,.ptr 0 1 0 0⟩,.un,.un,⟨true,.int .i64 (i:Nat)⟩,⟨true,.int .i64 ((aJ s []).length:Nat)⟩,.un,⟨true,.sl 1 ((aJ s []).map D.str)⟩,.un,⟨true,.int .i64 (k:Nat)⟩,⟨true,.int .i64 ((ai (aJ s [])[i]! 44).length:Nat)⟩,.un,⟨true,.sl 1 ((ai (aJ s [])[i]! 44).map D.str)⟩,.un,.un,.un,⟨true,.own 2 7 0 ((pA (aJ s [])[i]!).take k).length⟩,.un,⟨true,.ptr 5 1 0 0⟩,.un,.un,.un]) (fun k=>[(0,.buf 1 [.agg [.ar]]),(5,.buf 1 [.agg [.own 1 1 0 ((j7 s).take i).length]]),(1,.buf 1 (((j7 s).take i).map ou)),(2,.buf 7 (((pA (aJ s [])[i]!).take k).map bU.D))]) 19 (fun k=>k≤(ai (aJ s [])[i]! 44).length∧wOK (aJ s [])[i]! =cj (fun k=>(eJ (ea (ai (aJ s [])[i]! 44)[k]!)).isSome) k (ai (aJ s [])[i]! 44).length) (fun k=>(ai (aJ s [])[i]! 44).length-k) 0 ⟨by omega,rfl⟩ (aL.to [(0,0),(5,5),(1,1)] ae ae (by repeat(first|exact cV.nil|refine cV.un ?_|refine cV.eq ae ?_|refine cV.nl ae ae ?_|refine cV.ni (Or.inr ⟨_,_,_,rfl⟩) ?_)) (by(first|refine aC.cZ ae ae bR ?_|refine aC.lH ae ae ae ?_|refine aC.pj ae ae ae ae ?_);(first|refine aC.cZ ae ae bR ?_|refine aC.lH ae ae ae ?_|refine aC.pj ae ae ae ae ?_);(first|refine aC.cZ ae ae bR ?_|refine aC.lH ae ae ae ?_|refine aC.pj ae ae ae ae ?_);refine aC.mt ae ae ae ae ?_;exact aC.nil)) ?_;rintro k ⟨hk,hwk⟩;have htk:((pA (aJ s [])[i]!).take k).length≤k:=by rw[List.length_take];omega
  refine az ?_;refine cI (fun hc2=>?_) fun hc2=>?_
  ·refine bY ?_;have hwl:=zX (aJ s [])[i]! 44 (show k<(ai (aJ s [])[i]! 44).length by omega);have hbl:=uf (ai (aJ s [])[i]! 44)[k]!;refine ax ?_;refine aj (hc:=h683 (ai (aJ s [])[i]! 44)[k]! 32 rfl (by omega)) ?_;refine aj (v:=.tup [bU.D ((eJ (ea (ai (aJ s [])[i]! 44)[k]!)).getD di),.int .i64 (if(eJ (ea (ai (aJ s [])[i]! 44)[k]!)).isSome=true then 0 else 6)]) (hc:=by rw[←Db];exact h682 (ea (ai (aJ s [])[i]! 44)[k]!) (by omega)) ?_;refine ax ?_;refine fC (bU.D _) ?_;refine ay ?_;refine aF (bU.D ((eJ (ea (ai (aJ s [])[i]! 44)[k]!)).getD di)) (he:=by exact rfl) ?_;refine ba ?_;refine aq (fun hc3=>?_) (fun hc3=>?_)
   ·have hsm:(eJ (ea (ai (aJ s [])[i]! 44)[k]!)).isSome=false:=by cases hx:(eJ (ea (ai (aJ s [])[i]! 44)[k]!)).isSome with|false=>rfl|true=>rw[hx]at hc3;exact absurd hc3 (by decide)
    refine ay ?_;refine eH [.ar] ?_;refine aF (.agg [.ar]) (he:=by exact rfl) ?_;refine ba ?_;refine b7 (aR ?_ (congrArg (D.int .i64) ?_));all_goals
     have hq:iF s=([],6):=by
      have hno:AU s=false:=by rw[hr,aK (by omega),hwk,aK (by omega),hsm];rfl
      unfold iF;rw[if_neg (by omega),if_pos hno]
     rw[hq];first|done|rfl
   have hsm:(eJ (ea (ai (aJ s [])[i]! 44)[k]!)).isSome=true:=by cases hx:(eJ (ea (ai (aJ s [])[i]! 44)[k]!)).isSome with|true=>rfl|false=>rw[hx]at hc3;exact absurd hc3 (by decide)
   refine az ?_;refine cA (d:=bU.D ((eJ (ea (ai (aJ s [])[i]! 44)[k]!)).getD di)) ?_;refine cg [(bU.D _)] ?_;refine dp ?_;have hq:=hO (fun x=>(eJ (ea x)).getD di) (ai (aJ s [])[i]! 44) (show k<(ai (aJ s [])[i]! 44).length by omega);rw[show(fun x=>(eJ (ea x)).getD di)=fun x=>(eJ (ea x)).getD di from rfl]at hq;have hq:(pA (aJ s [])[i]!).take (k+1)=_:=hq;rw[show(pA (aJ s [])[i]!).take k++[(eJ (ea (ai (aJ s [])[i]! 44)[k]!)).getD di]=(pA (aJ s [])[i]!).take (k+1)from hq.symm];exact⟨k+1,⟨by omega,by rw[hwk,aK (by omega),hsm];rfl⟩,by omega,(aL.to [(0,0),(5,5),(1,1),(37,2)] ae ae dN (by(first|refine aC.cZ ae ae bR ?_|refine aC.lH ae ae ae ?_|refine aC.pj ae ae ae ae ?_);(first|refine aC.cZ ae ae bR ?_|refine aC.lH ae ae ae ?_|refine aC.pj ae ae ae ae ?_);(first|refine aC.cZ ae ae bR ?_|refine aC.lH ae ae ae ?_|refine aC.pj ae ae ae ae ?_);refine aC.nl 37 ae ae ae bR ?_;exact aC.nil))⟩
  refine ay ?_;refine dT 2 ?_ (he:=by simp only[lg,gp,j9,lY,nR,bK,Nat.reduceEqDiff,if_true,if_false,and_self,true_and,and_true,false_and,and_false,Nat.zero_add,List.length_map,Nat.le_refl,List.drop_zero,aH,reduceCtorEq,List.length_cons,List.length_nil,Nat.reduceAdd,Nat.reduceLeDiff,rz];exact rfl) (hm:=by simp only[lg,gp,j9,lY,nR,bK,Nat.reduceEqDiff,if_true,if_false,and_self,true_and,and_true,false_and,and_false,Nat.zero_add,List.length_map,Nat.le_refl,List.drop_zero,aH,reduceCtorEq,List.length_cons,List.length_nil,Nat.reduceAdd,Nat.reduceLeDiff,rz];exact rfl);refine ax ?_;obtain rfl:k=(ai (aJ s [])[i]! 44).length:=by omega
  rw[List.take_of_length_le (show(pA (aJ s [])[i]!).length≤(ai (aJ s [])[i]! 44).length by simp[pA])];refine ax ?_;refine ch (v:=.own _ _ _ _) ?_;refine ax ?_;refine cg [ou (pA (aJ s [])[i]!)] ?_;refine ay ?_;refine aF (.agg [.own 24 1 0 ((j7 s).take i++[pA (aJ s [])[i]!]).length]) (he:=by exact rfl) ?_;refine ba ?_;have hq:(j7 s).take (i+1)=(j7 s).take i++[pA (aJ s [])[i]!]:=hO pA (aJ s []) (show i<(aJ s []).length by omega);rw[←hq];exact⟨i+1,⟨by omega,by rw[hr,aK (by omega),hwk,bW (by omega)];rfl⟩,by omega,(aL.to [(0,0),(5,5),(24,1)] ae ae dN (by(first|refine aC.cZ ae ae bR ?_|refine aC.lH ae ae ae ?_|refine aC.pj ae ae ae ae ?_);(first|refine aC.cZ ae ae bR ?_|refine aC.lH ae ae ae ?_|refine aC.pj ae ae ae ae ?_);refine aC.nl 24 ae ae ae bR ?_;exact aC.nil))⟩
 refine az ?_;refine dT 1 ?_ (he:=by simp only[lg,gp,j9,lY,nR,bK,Nat.reduceEqDiff,if_true,if_false,and_self,true_and,and_true,false_and,and_false,Nat.zero_add,List.length_map,Nat.le_refl,List.drop_zero,aH,reduceCtorEq,List.length_cons,List.length_nil,Nat.reduceAdd,Nat.reduceLeDiff,rz];exact rfl) (hm:=by simp only[lg,gp,j9,lY,nR,bK,Nat.reduceEqDiff,if_true,if_false,and_self,true_and,and_true,false_and,and_false,Nat.zero_add,List.length_map,Nat.le_refl,List.drop_zero,aH,reduceCtorEq,List.length_cons,List.length_nil,Nat.reduceAdd,Nat.reduceLeDiff,rz];exact rfl);refine ax ?_;obtain rfl:i=(aJ s []).length:=by omega
 have hok:AU s=true:=by rw[hr,bW (by omega)]
 rw[List.take_of_length_le (show(j7 s).length≤(aJ s []).length by simp[j7])];have hrs:=AV (s:=s) (by omega);refine cA (d:=gV (j7 s)) ?_;refine aj (hc:=h684 (j7 s) hrs) ?_;refine fG ?_;refine aq (fun hc4=>?_) (fun hc4=>?_)
 ·simp only[Bool.not_eq_true']at hc4;refine ay ?_;refine eH [.ar] ?_;refine aF (.agg [.ar]) (he:=by exact rfl) ?_;refine az ?_;refine b7 (aR ?_ (congrArg (D.int .i64) ?_));all_goals
   have hq:iF s=([],6):=by
    unfold iF;rw[if_neg (by omega),if_neg (by rw[hok];simp),if_pos hc4]
   rw[hq];first|done|rfl
 simp only[Bool.not_eq_false']at hc4;refine az ?_;refine cA (d:=gV (j7 s)) ?_;refine aj (hc:=h685 (j7 s) hrs) ?_;refine ay ?_;refine aq (fun hc5=>?_) (fun hc5=>?_)
 ·simp only[Bool.not_eq_true',pV,hc4,Bool.true_and,decide_eq_false_iff_not]at hc5;refine ay ?_;refine eH [.ar] ?_;refine aF (.agg [.ar]) (he:=by exact rfl) ?_;refine az ?_;refine b7 (aR ?_ (congrArg (D.int .i64) ?_));all_goals
   have hq:iF s=([],3):=by
    unfold iF;rw[if_neg (by omega),if_neg (by rw[hok];simp),if_neg (by rw[hc4];simp),if_pos (by omega)]
   rw[hq];first|done|rfl
 simp only[Bool.not_eq_false',pV,hc4,Bool.true_and,decide_eq_true_eq]at hc5;refine ay ?_;refine cA (d:=gV (j7 s)) ?_;refine aF (gV (j7 s)) (he:=by exact rfl) ?_;refine az ?_;refine b7 (aR ?_ (congrArg (D.int .i64) ?_));all_goals
  have hq:iF s=(j7 s,0):=by
   unfold iF;rw[if_neg (by omega),if_neg (by rw[hok];simp),if_neg (by rw[hc4];simp),if_neg (by omega)]
  rw[hq];first|done|rfl
def KA (Γ:Ctx):Prop:=∀(s:ah),(s.length≤1048576)→Γ.pre 495 [.str s]∧Γ.val 495 [.str s]=.tup [gV (iF s).1,.int .i64 (iF s).2]
end Go.Abs
end
section
namespace Go.Abs
open Go
def tY:aB:=⟨1,4,j5,cr,(sq (r1 [gm dx] 1 0) (sq (rg [gm s0,gx 495 [l0] cr,gm l1,ge l2 0,ge l2 1,gb 1 (.c (.agg [.ar])),gt 1 l5 l3,gm l4] [(3,5),(2,7)]) (sq (r1 [gm s2,aE l0 bD,gm l1,cH 2 (.ld 1 true s3),cH 2 (.call 496 [l3] [[.sl 1 [.sl 7 [.a,.a,.a,.a,.a,.a,.a]]]]),gmt 2 s0,cH 2 (cQ l4 l5),gy l2 l6,gm l7] 1 8) .ret)))⟩
def w444 {Γ:Ctx}(hm:(Γ.at 0).bp)(h495:KA Γ)(h496:KB Γ)(s:ah)  (hp0:s.length≤1048576):ef Γ tY (.bool (m3 s)) [.str s]:=by
 show bz _ _ _ [⟨_,_⟩,_,_,_] _;refine ak ?_;refine aA ?_;refine aj (hc:=h495 s hp0) ?_;refine ax ?_;refine fC (gV _) ?_;refine ay ?_;refine aF (gV (iF s).1) (he:=by exact rfl) ?_;refine aT ?_;refine cA (d:=gV (iF s).1) ?_;refine eI (hc:=fun hf=>h496 (iF s).1 G4.1) ?_;refine aT ?_;exact bL rfl
def Kj (Γ:Ctx):Prop:=∀(s:ah),(s.length≤1048576)→Γ.pre 444 [.str s]∧Γ.val 444 [.str s]=.bool (m3 s)
end Go.Abs
end
section
namespace Go.Abs
open Go
def Hk (Γ:Ctx)(u:Nat):Prop:=∀(l:List Nd)(i:Int)(b:Bool),(fe l∧l.length≤15∧0≤i∧i<l.length)→2*i.toNat+1<u→Γ.pre 951 [.sl 5 (l.map Nd.D),.int .i64 i,.bool b]∧Γ.val 951 [.sl 5 (l.map Nd.D),.int .i64 i,.bool b]=.str (jA (j8 l i) b)
def KQ (Γ:Ctx):Prop:=∀(l:List Nd)(i:Int),(fe l∧l.length≤15∧0≤i∧i<l.length)→Γ.pre 811 [.sl 5 (l.map Nd.D),.int .i64 i]∧Γ.val 811 [.sl 5 (l.map Nd.D),.int .i64 i]=.str (j8 l i)
def CT (Γ:Ctx)(u:Nat):Prop:=∀(l:List Nd)(i:Int),(fe l∧l.length≤15∧0≤i∧i<l.length)→2*i.toNat<u→Γ.pre 811 [.sl 5 (l.map Nd.D),.int .i64 i]∧Γ.val 811 [.sl 5 (l.map Nd.D),.int .i64 i]=.str (j8 l i)
def BY:aB:=⟨0,1,[⟨0,none⟩],[[.sl 1 [.a]]],(sq (r1 [gm (.c (.ar))] 0 0) (sq (r1 [gn (.bsl 1 (.str []) 3 [(0,(cs [111,115])),(1,(cs [97,114,99,104])),(2,(cs [97,98,105]))]),gm l0] 0 1) .ret))⟩
def w950 {Γ:Ctx}(hm:(Γ.at 0).bp)     :ef Γ BY (.sl 1 (lj.map D.str)) []:=by
 show bz _ _ _ [_] _;refine ak ?_;refine az ?_;refine cg [(.str _),(.str _),(.str _)] ?_;refine ay ?_;refine dT 1 ?_;refine ax ?_;refine b7 (?_);rfl
def Ig (Γ:Ctx):Prop:=Γ.pre 950 []∧Γ.val 950 []=.sl 1 (lj.map D.str)
def BX:aB:=⟨3,5,[⟨3,none⟩],cr,(sq (r1 [gm cse] 3 0) (sq (sq (r1 [gm s2] 4 0) (.cond s4 (sq (r1 [gm s0,gm s1,gx 811 [l0,l1] [[.sl 5 [.a,.a,.a,.a,.a]],[.a]],av (cs [40,32]) l2,av l3 (cs [32,41]),gm l4] 3 5) .ret) .skip)) (sq (r1 [gm s0,gm s1,gx 811 [l0,l1] [[.sl 5 [.a,.a,.a,.a,.a]],[.a]],gm l2] 3 3) .ret)))⟩
def w951 {Γ:Ctx}(hm:(Γ.at 0).bp)  (l:List Nd)(i:Int)(b:Bool)(h811:CT (Γ.at 0) (2*i.toNat+1))(hp0:fe l∧l.length≤15∧0≤i∧i<l.length):ef Γ BX (.str (jA (j8 l i) b)) [.sl 5 (l.map Nd.D),.int .i64 i,.bool b]:=by
 show bz _ _ _ [⟨_,_⟩,⟨_,_⟩,⟨_,_⟩,_,_] _;have htl:=tw hp0.1 hp0.2.1 hp0.2.2.1 hp0.2.2.2;refine ak ?_;refine aT ?_;refine cI (fun hc0=>?_) fun hc0=>?_
 ·refine aA ?_;refine aj (hc:=h811 l i hp0 (by omega)) ?_;refine qP ?_;refine qP ?_;refine az ?_;refine cq ?_;simp[jA,hc0]
 refine aA ?_;refine aj (hc:=h811 l i hp0 (by omega)) ?_;refine az ?_;refine cq ?_;simp[jA,hc0]
def BZ:aB:=⟨2,10,[⟨2,none⟩],cr,(sq (r1 [gm cse] 2 0) (sq (r1 [gm s0,gm s1,ga 5 l0 l1,gk 5 true l2,gb 5 (.c (.agg [.int .i64 0,.int .i64 0,.int .i64 0,.int .i64 0,.str []])),gt 5 l4 l3] 3 4) (sq (sq (r1 [gf 0 s3,gd l0] 4 1) (.block 0 (sq (r1 [aE s4 b8,gm l0] 5 1) (.cond s5 (sq (r2 [gx 950 [] [],gf 3 s3,gd l1,ga 1 l0 l2,gd l3,av l4 (cs [32,61,32]),gf 4 s3,gd l6,av l5 l7,gm l8] 2 9) .ret) (sq (r1 [aE s4 kp,gm l0] 6 1) (.cond s6 (sq (r1 [gm s0,gf 1 s3,gd l1,ga 5 l0 l2,gk 5 true l3,gb 5 (.c (.agg [.int .i64 0,.int .i64 0,.int .i64 0,.int .i64 0,.str []])),gt 5 l5 l4] 7 5) (sq (sq (r1 [gf 0 s7,gd l0,aE l1 b8] 8 2) (.cond s8 (sq (r2 [gx 950 [] [],gf 3 s7,gd l1,ga 1 l0 l2,gd l3,av l4 (cs [32,33,61,32]),gf 4 s7,gd l6,av l5 l7,gm l8] 2 9) .ret) .skip)) (sq (r1 [gm s0,gf 1 s3,gd l1,gf 0 s7,gd l3,ct l4 kp,gx 951 [l0,l2,l5] [[.sl 5 [.a,.a,.a,.a,.a]],[.a],[.a]],av (cs [110,111,116,32]) l6,gm l7] 2 8) .ret))) (sq (r1 [aE s4 kd,gm l0] 9 1) (.cond s9 (sq (r2 [gm s0,gf 1 s3,gd l1,gm s0,gf 1 s3,gd l4,ga 5 l3 l5,gf 0 l6,gd l7,aE l8 tF,gx 951 [l0,l2,l9] [[.sl 5 [.a,.a,.a,.a,.a]],[.a],[.a]],av l10 (cs [32,97,110,100,32]),gm s0,gf 2 s3,gd nn,gm s0,gf 2 s3,gd rE,ga 5 pk wL,gf 0 xF,gd zp,aE BM tF,gm CI,eV 22 s0,ko 22 2 s3,lB 22 IW,cx 22 (.ia 5 IV IX),ko 22 0 JT,lB 22 LJ,cx 22 (cQ LK kd),fI Fh LL,gx 951 [ll,nX,l30] [[.sl 5 [.a,.a,.a,.a,.a]],[.a],[.a]],av jK l31,gm l32] 2 33) .ret) .skip)))))))) (sq (r2 [gm s0,gf 1 s3,gd l1,gx 811 [l0,l2] [[.sl 5 [.a,.a,.a,.a,.a]],[.a]],av l3 (cs [32,111,114,32]),gm s0,gf 2 s3,gd l6,gm s0,gf 2 s3,gd l9,ga 5 l8 l10,gf 0 jK,gd ll,aE nn tF,gx 951 [l5,l7,nX] [[.sl 5 [.a,.a,.a,.a,.a]],[.a],[.a]],av l4 pk,gm rE] 2 17) .ret))))⟩
def w811 {Γ:Ctx}(hm:(Γ.at 0).bp)(h950:Ig Γ)(l:List Nd)(i:Int)(h811:CT (Γ.at 0) (2*i.toNat))(h951:Hk (Γ.at 0) (2*i.toNat))(hp0:fe l∧l.length≤15∧0≤i∧i<l.length):ef Γ BZ (.str (j8 l i)) [.sl 5 (l.map Nd.D),.int .i64 i]:=by
 show bz _ _ _ [⟨_,_⟩,⟨_,_⟩,_,_,_,_,_,_,_,_] _;obtain⟨hk,hl15,hi0,hi1⟩:=hp0;have htx:=Hb hk hi0 hi1;obtain⟨k1,k2,k3⟩:=hk i.toNat (by omega);refine ak ?_;refine aT ?_;first|refine ca (v:=(Nd.D _)) ?_|refine gA (v:=(Nd.D _)) ?_
 refine lv ?_;refine wp_cond (fun hc0=>?_) (fun hc0=>?_)
 ·simp only[decide_eq_true_eq]at hc0;have k1:=k1 hc0;have hkl:=oQ l[i.toNat]!.key;refine ax ?_;refine aj (hc:=h950) ?_;refine ay ?_;refine cE l[i.toNat]!.key.toNat (hb:=fun _=>by show _<3;omega) ?_;refine ca (q:=D.str) (xs:=lj) (hi:=fun _=>by show _<3;omega) (i:=l[i.toNat]!.key.toNat) (k:=1) (o:=0) (v:=(.str (vV l[i.toNat]!.key))) (hv:=fun _=>congrArg D.str (uD k1.1 k1.2.1)) ?_;refine qP ?_;refine ay ?_;refine qP ?_;refine aA ?_;refine cq ?_;rw[htx,if_pos hc0]
 simp only[decide_eq_false_iff_not]at hc0;have ka:=k2 hc0;have hla:=tw hk hl15 (i:=l[i.toNat]!.a) (by omega) (by omega);have hwa:=fun b=>na (j8 l l[i.toNat]!.a) b
 refine aA ?_;refine wp_cond (fun hc1=>?_) (fun hc1=>?_)
 ·simp only[decide_eq_true_eq]at hc1;refine aA ?_;refine cE l[i.toNat]!.a.toNat ?_;first|refine ca (v:=(Nd.D _)) ?_|refine gA (v:=(Nd.D _)) ?_
  refine dp ?_;refine aq (fun hc2=>?_) (fun hc2=>?_)
  ·simp only[decide_eq_true_eq]at hc2;have k4:=(hk l[i.toNat]!.a.toNat (by omega)).1 hc2;have hkl:=oQ l[l[i.toNat]!.a.toNat]!.key;refine ay ?_;refine aj (hc:=h950) ?_;refine ay ?_;refine cE l[l[i.toNat]!.a.toNat]!.key.toNat (hb:=fun _=>by show _<3;omega) ?_;refine ca (q:=D.str) (xs:=lj) (hi:=fun _=>by show _<3;omega) (i:=l[l[i.toNat]!.a.toNat]!.key.toNat) (k:=1) (o:=0) (v:=(.str (vV l[l[i.toNat]!.a.toNat]!.key))) (hv:=fun _=>congrArg D.str (uD k4.1 k4.2.1)) ?_;refine qP ?_;refine ay ?_;refine qP ?_;refine aA ?_;refine cq ?_;rw[htx,if_neg hc0,if_pos hc1,if_pos hc2]
  try simp only[hX]at hc2
  refine bY ?_;refine aj (hc:=h951 l l[i.toNat]!.a _ ⟨hk,hl15,by omega,by omega⟩ (by omega)) ?_;have hwx:=hwa (!decide (l[l[i.toNat]!.a.toNat]!.op=2));refine qP ?_;refine aA ?_;refine cq ?_;rw[htx,if_neg hc0,if_pos hc1,if_neg hc2]
 simp only[decide_eq_false_iff_not]at hc1;have kb:=k3 hc0 hc1;have hlb:=tw hk hl15 (i:=l[i.toNat]!.b) (by omega) (by omega);have hwb:=fun b=>na (j8 l l[i.toNat]!.b) b
 refine aA ?_;refine fN (fun hc3=>?_) fun hc3=>?_
 ·refine ba ?_;refine cE l[i.toNat]!.a.toNat ?_;refine az ?_;refine aj (hc:=h951 l l[i.toNat]!.a _ ⟨hk,hl15,by omega,by omega⟩ (by omega)) ?_;have hwx:=hwa (decide (l[l[i.toNat]!.a.toNat]!.op=4));refine qP ?_;refine aT ?_;refine cE l[i.toNat]!.b.toNat ?_;refine ba ?_;refine cE l[i.toNat]!.b.toNat ?_;refine aA ?_;refine aj (hc:=h951 l l[i.toNat]!.b _ ⟨hk,hl15,by omega,by omega⟩ (by omega)) ?_;have hwy:=hwb (decide (l[l[i.toNat]!.b.toNat]!.op=4) ||decide (l[l[i.toNat]!.b.toNat]!.op=3));refine qP ?_;refine aA ?_;refine cq ?_;rw[htx,if_neg hc0,if_neg hc1,if_pos hc3]
 refine aT ?_;refine aj (hc:=h811 l l[i.toNat]!.a ⟨hk,hl15,by omega,by omega⟩ (by omega)) ?_;refine qP ?_;refine aT ?_;refine cE l[i.toNat]!.b.toNat ?_;refine az ?_;refine aj (hc:=h951 l l[i.toNat]!.b _ ⟨hk,hl15,by omega,by omega⟩ (by omega)) ?_;have hwy:=hwb (decide (l[l[i.toNat]!.b.toNat]!.op=4));refine qP ?_;refine az ?_;refine cq ?_;rw[htx,if_neg hc0,if_neg hc1,if_neg hc3]
end Go.Abs
end
section
namespace Go.Abs
open Go
end Go.Abs
end
section
namespace Go.Abs
open Go
def B0:aB:=⟨1,18,j5,cr,(sq (r1 [gm dx] 1 0) (sq (sq (r1 [gm s0,gl l0,dz l1 (i6 15)] 2 2) (ny s2 dx)) (sq (r1 [gm s0,gl l0,gn (.mks 1 (.int .i64 0) l1 l1),gm l2] 7 3) (sq (sq (rg [gm s0,gl l0,gm bD] [(6,0),(4,1),(3,2)]) (.block 0 (.loop (sq (r1 [aV s3 s4] 5 0) (sq (iS s5 0) (sq (.block 1 (sq (rg [gm s3,ga 5 s6 s3,gk 5 true l1,gb 5 (.c (.agg [.int .i64 0,.int .i64 0,.int .i64 0,.int .i64 0,.str []])),gm l0,gt 5 l3 l2] [(9,3),(8,4)]) (sq (rg [gm s7,gm s8,gm s8,ga 1 l0 l1,gt 1 l3 l2] []) (sq (sq (r1 [gf 0 s9,gd l0] 10 1) (.block 2 (sq (r1 [aE lr b8,gm l0] 11 1) (.cond oo (sq (sq (r1 [gf 3 s9,gd l0,aV l1 bD,gm l2,ko 3 3 s9,lB 3 l4,cx 3 (wZ l5 kd),fI l3 l6,gm l7,ko 8 4 s9,lB 8 l9,cx 8 (.call 349 [l10] cr),cx 8 (.un .not jK),fI l8 ll,gm nn,ko 14 1 s9,lB 14 pk,cx 14 (eR rE bD),fI nX wL,gm xF,ko 19 2 s9,lB 19 BM,cx 19 (eR CI bD),fI zp Fh] 12 23) (ny m6 dx)) (.exit 1)) (sq (r1 [aE lr kp,gm l0] 13 1) (.cond tk (sq (sq (r1 [gm s8,aV l0 b8,gm l1,ko 2 1 s9,lB 2 l3,eV 2 s8,cx 2 (lL l5 b8),cx 2 (eR l4 l6),fI l2 l7,gm l8,ko 9 2 s9,lB 9 l10,cx 9 (eR jK bD),fI l9 ll] 14 13) (ny rN dx)) (rg [gm s7,gm s8,gm s7,gm s8,ff l3 b8,ga 1 l2 l4,gd l5,ga 1 l0 l1,gt 1 l7 l6] [])) (sq (sq (r1 [aE lr kd,gm l0] 15 1) (.cond uT .skip (r1 [aE lr tF,gm l0] 15 1))) (.cond uT (sq (sq (r2 [gm s8,aV l0 kp,gm l1,ko 2 2 s9,lB 2 l3,eV 2 s8,cx 2 (lL l5 b8),cx 2 (eR l4 l6),fI l2 l7,gm l8,eV 9 s7,eV 9 s8,cx 9 (lL jK b8),cx 9 (.ia 1 l10 ll),lB 9 nn,cx 9 (ov nX b8),fI l9 pk,gm rE,ko 17 1 s9,lB 17 xF,eV 17 s7,eV 17 s8,cx 17 (lL CI b8),cx 17 (.ia 1 BM Fh),lB 17 IV,cx 17 (lL IW b8),cx 17 (eR zp IX),fI wL JT] 16 27) (ny AW dx)) (rg [gm s7,gm s8,gm s7,gf 1 s9,gd l3,ga 1 l2 l4,gd l5,ga 1 l0 l1,gt 1 l7 l6] [])) (zk dx))))))))) (sq (r1 [gf 3 s9,gd l0,ct l1 bD,gm l2,ko 3 4 s9,lB 3 l4,cx 3 (eR l5 cse),fI l3 l6] 17 7) (ny wM dx)))))) (r1 [av s3 b8,gm l0] 3 1))))))) (sq (r1 [gm s0,gl l0,aE l1 bD,gm l2,eV 3 s7,eV 3 s0,cx 3 (.len l5),cx 3 (lL l6 b8),cx 3 (.ia 1 l4 l7),lB 3 l8,cx 3 (cQ l9 bD),fI l3 l10,gm jK] 1 12) .ret)))))⟩
def w810 {Γ:Ctx}(hm:(Γ.at 0).bp)(h349:yO Γ)(l:List Nd)   :ef Γ B0 (.bool (decide (l.length≤15)&&mE l)) [.sl 5 (l.map Nd.D)]:=by
 show bz _ _ _ [⟨_,_⟩,_,_,_,_,_,_,_,_,_,_,_,_,_,_,_,_,_] _;refine ak ?_;refine aT ?_;intro u0;refine ay ?_;refine aq (fun hc0=>?_) (fun hc0=>?_)
 ·try simp only[hX]at hc0
  refine aQ ?_;refine bL ?_;rw[show decide (l.length≤15)=false from decide_eq_false (by omega)];rfl
 simp only[decide_eq_false_iff_not]at hc0;have h15:l.length≤15:=by omega
 have hd15:decide (l.length≤15)=true:=decide_eq_true h15;refine aA ?_;intro u1;refine L0 l.length ?_;refine aT ?_;intro u2;refine ay ?_;rw[show List.replicate l.length (D.int .i64 0)=(List.replicate l.length (0:Int)).map (D.int .i64)by simp];refine br hm (ι:=(Nat×List Int×List Int)) (fun p=>[⟨true,.sl 5 (l.map Nd.D)⟩,.un,.un,⟨true,.int .i64 (p.1:Nat)⟩,⟨true,.int .i64 (l.length:Nat)⟩,.un,⟨true,.sl 5 (l.map Nd.D)⟩,⟨true,.own 0 1 0 l.length⟩,.un,.un,.un,.un,.un,.un,.un,.un,.un,.un]) (fun p=>[(0,.buf 1 (p.2.1.map (D.int .i64)))]) 11 (fun p=>p.1≤l.length∧p.2.1.length=l.length∧wJ p.2.1 (p.1:Nat) p.2.2.reverse∧jN l 0 []=jN (l.drop p.1) p.1 p.2.2) (fun p=>l.length-p.1) (0,List.replicate l.length 0,[]) ⟨by simp,by simp,rfl,by simp⟩ (aL.to [(6,0)] ae ae dN (by refine aC.nl 6 ae ae ae bR ?_;exact aC.nil)) ?_;rintro⟨i,S,o⟩ ⟨hi,hS,hc,hr⟩;dsimp only at hi hS hc hr⊢;refine az ?_;refine cI (fun hc1=>?_) fun hc1=>?_
 ·refine aQ ?_;first|refine ca (v:=(Nd.D _)) ?_|refine gA (v:=(Nd.D _)) ?_
  refine ay ?_;refine aF (Nd.D l[i]!) (he:=by exact rfl) ?_;refine aQ ?_;refine kC i ?_;refine AO ((S.set i (i:Int)).map (D.int .i64)) (hi:=by simp;omega) (he:=rO (by omega) _) ?_;have hch:wJ (S.set i (i:Int)) (i:Nat) o.reverse:=vJ (Int.le_refl _) hc;have hSl:(S.set i (i:Int)).length=l.length:=by simp[hS]
  refine bY ?_;obtain⟨t1,t2⟩:=oC hch;obtain⟨u1,u2⟩:=vK hch;refine az ?_;refine wp_cond (fun hc2=>?_) (fun hc2=>?_)
  ·simp only[decide_eq_true_eq]at hc2;have hq1:=hc2;refine lv ?_;refine aj (hc:=h349 _) ?_;refine lv ?_;refine aq (fun hc3=>?_) (fun hc3=>?_)
   ·have hlf:nA l[i]! =false:=by rw[AA hq1,hc3];rfl
    refine bY ?_;refine bL ?_;rw[hd15];symm;refine fD ?_;rw[hr];refine dV (by omega) ?_;exact wz hq1 hlf
   have hlf:nA l[i]! =true:=by rw[AA hq1,hc3];rfl
   refine dp ?_;have hs:gB l[i]! i o=some (o++[(i:Int)]):=by exact zZ hlf
   have hp:wJ (S.set i (i:Int)) ((i+1:Nat):Int) ((o++[(i:Int)])).reverse:=by
    rw[List.reverse_append,List.reverse_singleton,List.singleton_append];exact oB (by omega) (by omega) (Int.le_refl _) hc
   exact⟨(i+1,(S.set i (i:Int)),(o++[(i:Int)])),⟨by dsimp only;omega,by simp[hS],hp,by rw[hr];exact jt (by omega) hs⟩,by dsimp only;omega,(aL.to [(0,0)] ae ae dN (by(first|refine aC.cZ ae ae bR ?_|refine aC.lH ae ae ae ?_|refine aC.pj ae ae ae ae ?_);exact aC.nil))⟩
  simp only[decide_eq_false_iff_not]at hc2;have hq1:=hc2;refine aA ?_;refine wp_cond (fun hc4=>?_) (fun hc4=>?_)
  ·simp only[decide_eq_true_eq]at hc4;have hq2:=hc4;refine Fb ?_;refine aq (fun hc5=>?_) (fun hc5=>?_)
   ·try simp only[hX]at hc5
    refine bY ?_;refine bL ?_;rw[hd15];symm;refine fD ?_;rw[hr];refine dV (by omega) ?_;rw[qg hch hq2,if_neg];rintro⟨⟨g1,g2,g3⟩,g4⟩;omega
   simp only[Bool.or_eq_false_iff,decide_eq_false_iff_not,Bool.not_eq_false',decide_eq_true_eq]at hc5;refine ba ?_;refine kC (i-1) ?_;refine qH (q:=D.int .i64) (xs:=(S.set i (i:Int))) (v:=(.int .i64 (S.set i (i:Int))[i-1]!)) (hi:=fun _=>by omega) (hv:=fun _=>by rw[Nat.zero_add];rfl) ?_;refine kC i ?_;refine AO (((S.set i (i:Int)).set i (S.set i (i:Int))[i-1]!).map (D.int .i64)) (hi:=by simp;omega) (he:=rO (by omega) _) ?_;refine ix ?_;refine wp_cond (fun hc9=>?_) (fun hc9=>?_)
   ·have hb:gu l[i]! =false:=by simp only[Bool.or_eq_true,Bool.not_eq_true',decide_eq_false_iff_not]at hc9;simp only[gu,Bool.and_eq_false_iff,decide_eq_false_iff_not];exact hc9
    refine aT ?_;refine bL ?_;rw[hd15];symm;refine fD ?_;rw[hr];refine dV (by omega) ?_;rw[qg hch hq2,if_neg];rintro⟨⟨g1,g2,g3⟩,g4⟩;rw[hb]at g4;cases g4
   have hb:gu l[i]! =true:=by simp only[Bool.or_eq_false_iff,Bool.not_eq_false',decide_eq_true_eq]at hc9;simp only[gu,hc9.1,hc9.2,decide_true,Bool.and_self]
   refine ba ?_;have hs:gB l[i]! i o=some (o.take (o.length-1)++[(i:Int)]):=by rw[qg hch hq2,if_pos ⟨⟨by omega,by omega,by omega⟩,hb⟩]
   have hp:wJ ((S.set i (i:Int)).set i (S.set i (i:Int))[i-1]!) ((i+1:Nat):Int) ((o.take (o.length-1)++[(i:Int)])).reverse:=by
    rw[List.reverse_append,List.reverse_singleton,List.singleton_append];obtain⟨y1,y2,y3,y4⟩:=t2 (by omega);exact oB (by omega) y2 (by omega) y4
   exact⟨(i+1,((S.set i (i:Int)).set i (S.set i (i:Int))[i-1]!),(o.take (o.length-1)++[(i:Int)])),⟨by dsimp only;omega,by simp[hS],hp,by rw[hr];exact jt (by omega) hs⟩,by dsimp only;omega,(aL.to [(0,0)] ae ae dN (by(first|refine aC.cZ ae ae bR ?_|refine aC.lH ae ae ae ?_|refine aC.pj ae ae ae ae ?_);exact aC.nil))⟩
  simp only[decide_eq_false_iff_not]at hc4;have hq2:=hc4;refine aQ ?_;refine cI (fun hc6=>?_) fun hc6=>?_
  ·refine ax ?_;refine fN (fun hc7=>?_) fun hc7=>?_
   ·refine yI ?_;refine kC (i-1) ?_;refine qH (q:=D.int .i64) (xs:=(S.set i (i:Int))) (v:=(.int .i64 (S.set i (i:Int))[i-1]!)) (hi:=fun h=>by simp at h;omega) (hv:=fun _=>by rw[Nat.zero_add];rfl) ?_;refine bY ?_;refine kC (i-1) ?_;refine qH (q:=D.int .i64) (xs:=(S.set i (i:Int))) (v:=(.int .i64 (S.set i (i:Int))[i-1]!)) (hi:=fun h=>by simp at h;omega) (hv:=fun _=>by rw[Nat.zero_add];rfl) ?_;refine aA ?_;refine aq (fun hc8=>?_) (fun hc8=>?_)
    ·have hq34:l[i]!.op=3∨l[i]!.op=4:=by omega
     simp only[Bool.or_eq_true,decide_eq_true_eq,Bool.not_eq_true',decide_eq_false_iff_not]at hc8;refine bY ?_;refine bL ?_;rw[hd15];symm;refine fD ?_;rw[hr];refine dV (by omega) ?_;rw[jf hch hq34,if_neg];rintro⟨⟨g1,g2,g3,g4⟩,g5⟩;omega
    simp only[Bool.or_eq_false_iff,decide_eq_false_iff_not,Bool.not_eq_false',decide_eq_true_eq]at hc8;have hq34:l[i]!.op=3∨l[i]!.op=4:=by omega
    have hk2:=u1.2 ⟨by omega,by omega⟩;obtain⟨w1,w2,w3,w4⟩:=u2 hk2;obtain⟨y1,y2,y3,y4⟩:=t2 (by omega);refine ba ?_;refine kC l[i]!.a.toNat ?_;refine qH (q:=D.int .i64) (xs:=(S.set i (i:Int))) (v:=(.int .i64 (S.set i (i:Int))[l[i]!.a.toNat]!)) (hi:=fun _=>by omega) (hv:=fun _=>by rw[Nat.zero_add];rfl) ?_;refine kC i ?_;refine AO (((S.set i (i:Int)).set i (S.set i (i:Int))[l[i]!.a.toNat]!).map (D.int .i64)) (hi:=by simp;omega) (he:=rO (by omega) _) ?_;refine ix ?_;refine wp_cond (fun hc9=>?_) (fun hc9=>?_)
    ·have hb:gu l[i]! =false:=by simp only[Bool.or_eq_true,Bool.not_eq_true',decide_eq_false_iff_not]at hc9;simp only[gu,Bool.and_eq_false_iff,decide_eq_false_iff_not];exact hc9
     refine aT ?_;refine bL ?_;rw[hd15];symm;refine fD ?_;rw[hr];refine dV (by omega) ?_;rw[jf hch hq34,if_neg];rintro⟨⟨g1,g2,g3,g4⟩,g5⟩;rw[hb]at g5;cases g5
    have hb:gu l[i]! =true:=by simp only[Bool.or_eq_false_iff,Bool.not_eq_false',decide_eq_true_eq]at hc9;simp only[gu,hc9.1,hc9.2,decide_true,Bool.and_self]
    refine ba ?_;have hs:gB l[i]! i o=some (o.take (o.length-2)++[(i:Int)]):=by rw[jf hch hq34,if_pos ⟨⟨by omega,by omega,by omega,by omega⟩,hb⟩]
    have hp:wJ ((S.set i (i:Int)).set i (S.set i (i:Int))[l[i]!.a.toNat]!) ((i+1:Nat):Int) ((o.take (o.length-2)++[(i:Int)])).reverse:=by
     rw[List.reverse_append,List.reverse_singleton,List.singleton_append];rw[show l[i]!.a=(S.set i (i:Int))[i-1]! -1 by omega];exact oB (by omega) w2 (by omega) w4
    exact⟨(i+1,((S.set i (i:Int)).set i (S.set i (i:Int))[l[i]!.a.toNat]!),(o.take (o.length-2)++[(i:Int)])),⟨by dsimp only;omega,by simp[hS],hp,by rw[hr];exact jt (by omega) hs⟩,by dsimp only;omega,(aL.to [(0,0)] ae ae dN (by(first|refine aC.cZ ae ae bR ?_|refine aC.lH ae ae ae ?_|refine aC.pj ae ae ae ae ?_);exact aC.nil))⟩
   refine ba ?_;refine bL ?_;exfalso;omega
  refine aA ?_;refine fN (fun hc7=>?_) fun hc7=>?_
  ·refine yI ?_;refine kC (i-1) ?_;refine qH (q:=D.int .i64) (xs:=(S.set i (i:Int))) (v:=(.int .i64 (S.set i (i:Int))[i-1]!)) (hi:=fun h=>by simp at h;omega) (hv:=fun _=>by rw[Nat.zero_add];rfl) ?_;refine bY ?_;refine kC (i-1) ?_;refine qH (q:=D.int .i64) (xs:=(S.set i (i:Int))) (v:=(.int .i64 (S.set i (i:Int))[i-1]!)) (hi:=fun h=>by simp at h;omega) (hv:=fun _=>by rw[Nat.zero_add];rfl) ?_;refine aA ?_;refine aq (fun hc8=>?_) (fun hc8=>?_)
   ·have hq34:l[i]!.op=3∨l[i]!.op=4:=by omega
    simp only[Bool.or_eq_true,decide_eq_true_eq,Bool.not_eq_true',decide_eq_false_iff_not]at hc8;refine bY ?_;refine bL ?_;rw[hd15];symm;refine fD ?_;rw[hr];refine dV (by omega) ?_;rw[jf hch hq34,if_neg];rintro⟨⟨g1,g2,g3,g4⟩,g5⟩;omega
   simp only[Bool.or_eq_false_iff,decide_eq_false_iff_not,Bool.not_eq_false',decide_eq_true_eq]at hc8;have hq34:l[i]!.op=3∨l[i]!.op=4:=by omega
   have hk2:=u1.2 ⟨by omega,by omega⟩;obtain⟨w1,w2,w3,w4⟩:=u2 hk2;obtain⟨y1,y2,y3,y4⟩:=t2 (by omega);refine ba ?_;refine kC l[i]!.a.toNat ?_;refine qH (q:=D.int .i64) (xs:=(S.set i (i:Int))) (v:=(.int .i64 (S.set i (i:Int))[l[i]!.a.toNat]!)) (hi:=fun _=>by omega) (hv:=fun _=>by rw[Nat.zero_add];rfl) ?_;refine kC i ?_;refine AO (((S.set i (i:Int)).set i (S.set i (i:Int))[l[i]!.a.toNat]!).map (D.int .i64)) (hi:=by simp;omega) (he:=rO (by omega) _) ?_;refine ix ?_;refine wp_cond (fun hc9=>?_) (fun hc9=>?_)
   ·have hb:gu l[i]! =false:=by simp only[Bool.or_eq_true,Bool.not_eq_true',decide_eq_false_iff_not]at hc9;simp only[gu,Bool.and_eq_false_iff,decide_eq_false_iff_not];exact hc9
    refine aT ?_;refine bL ?_;rw[hd15];symm;refine fD ?_;rw[hr];refine dV (by omega) ?_;rw[jf hch hq34,if_neg];rintro⟨⟨g1,g2,g3,g4⟩,g5⟩;rw[hb]at g5;cases g5
   have hb:gu l[i]! =true:=by simp only[Bool.or_eq_false_iff,Bool.not_eq_false',decide_eq_true_eq]at hc9;simp only[gu,hc9.1,hc9.2,decide_true,Bool.and_self]
   refine ba ?_;have hs:gB l[i]! i o=some (o.take (o.length-2)++[(i:Int)]):=by rw[jf hch hq34,if_pos ⟨⟨by omega,by omega,by omega,by omega⟩,hb⟩]
   have hp:wJ ((S.set i (i:Int)).set i (S.set i (i:Int))[l[i]!.a.toNat]!) ((i+1:Nat):Int) ((o.take (o.length-2)++[(i:Int)])).reverse:=by
    rw[List.reverse_append,List.reverse_singleton,List.singleton_append];rw[show l[i]!.a=(S.set i (i:Int))[i-1]! -1 by omega];exact oB (by omega) w2 (by omega) w4
   exact⟨(i+1,((S.set i (i:Int)).set i (S.set i (i:Int))[l[i]!.a.toNat]!),(o.take (o.length-2)++[(i:Int)])),⟨by dsimp only;omega,by simp[hS],hp,by rw[hr];exact jt (by omega) hs⟩,by dsimp only;omega,(aL.to [(0,0)] ae ae dN (by(first|refine aC.cZ ae ae bR ?_|refine aC.lH ae ae ae ?_|refine aC.pj ae ae ae ae ?_);exact aC.nil))⟩
  refine ba ?_;refine bL ?_;rw[hd15];symm;refine fD ?_;rw[hr];refine dV (by omega) ?_;exact yr hq1 hq2 (by omega) (by omega)
 refine az ?_;obtain rfl:i=l.length:=by omega
 obtain⟨t1,t2⟩:=oC hc;obtain⟨u1,u2⟩:=vK hc;refine ay ?_;intro u3;refine aA ?_;refine nr ?_;refine ax ?_;refine kC (l.length-1) (hj:=fun h=>by have hz:¬l.length=0:=(fun hz=>by simp[hz]at h);omega) (hb:=fun h=>by have hz:¬l.length=0:=(fun hz=>by simp[hz]at h);omega) ?_;refine qH (q:=D.int .i64) (xs:=S) (v:=(.int .i64 S[l.length-1]!)) (hi:=fun h=>by have hz:¬l.length=0:=(fun hz=>by simp[hz]at h);omega) (hv:=fun _=>by rw[Nat.zero_add];rfl) ?_;refine aQ ?_;refine bL ?_;rw[hd15];simp only[mE,hr,Cb (Nat.le_refl l.length),Bool.true_and];exact(EZ t1 t2 u1).symm
def KP (Γ:Ctx):Prop:=∀(l:List Nd),Γ.pre 810 [.sl 5 (l.map Nd.D)]∧Γ.val 810 [.sl 5 (l.map Nd.D)]=.bool (decide (l.length≤15)&&mE l)
end Go.Abs
end
section
namespace Go.Abs
open Go
def zz:aB:=⟨1,3,j5,cr,(sq (r1 [gm cse] 1 0) (sq (sq (r1 [gm s0,gl l0,aE l1 bD] 2 2) (ny s2 cse)) (sq (r1 [gm s0,gm s0,gl l1,ff l2 b8,gx 811 [l0,l3] [[.sl 5 [.a,.a,.a,.a,.a]],[.a]],gm l4] 1 5) .ret)))⟩
def w662 {Γ:Ctx}(hm:(Γ.at 0).bp)(h811:KQ Γ)(l:List Nd)  (hp0:fe l∧l.length≤15):ef Γ zz (.str (oe l)) [.sl 5 (l.map Nd.D)]:=by
 show bz _ _ _ [⟨_,_⟩,_,_] _;refine ak ?_;refine aT ?_;intro u0;refine ay ?_;refine cI (fun hc0=>?_) fun hc0=>?_
 ·refine aQ ?_;refine cq ?_;simp only[oe];rw[if_pos (by omega)]
 refine aQ ?_;intro u1;refine ax ?_;refine aj (hc:=h811 l ((l.length:Int) -1) ⟨hp0.1,hp0.2,by omega,by omega⟩) ?_;refine az ?_;refine cq ?_;simp only[oe];rw[if_neg (by omega)]
def H8 (Γ:Ctx):Prop:=∀(l:List Nd),(fe l∧l.length≤15)→Γ.pre 662 [.sl 5 (l.map Nd.D)]∧Γ.val 662 [.sl 5 (l.map Nd.D)]=.str (oe l)
def DR:aB:=⟨1,3,j5,cr,(sq (rg [gb 1 s0,gm dx] [(2,0),(1,1)]) (sq (r1 [gf 0 s2,gd l0,gx 810 [l1] [[.sl 5 [.a,.a,.a,.a,.a]]],gm l2,rC 3 0 s2,ph 3 l4,cH 3 (.call 662 [l5] [[.sl 5 [.a,.a,.a,.a,.a]]]),cH 3 (.lenS l6),cH 3 (lK l7 (i6 96)),gy l3 l8,gm l9] 1 10) .ret))⟩
def w661 {Γ:Ctx}(hm:(Γ.at 0).bp)(h662:H8 Γ)(h810:KP Γ)(m:Ho)   :ef Γ DR (.bool (tR m)) [jC m]:=by
 show bz _ _ _ [⟨_,_⟩,_,_] _;refine ak ?_;refine aT ?_;refine aj (hc:=h810 m) ?_;refine az ?_;refine eI (hc:=fun hf=>h662 m (by simp only[Bool.and_eq_true,beq_iff_eq,decide_eq_true_eq,true_and]at hf;exact⟨tu hf.2,by omega⟩)) ?_;refine nr ?_;refine aQ ?_;refine bL ?_;simp only[tR];congr 1;exact decide_eq_decide.2 (by omega)
def H7 (Γ:Ctx):Prop:=∀(m:Ho),Γ.pre 661 [jC m]∧Γ.val 661 [jC m]=.bool (tR m)
def zy:aB:=⟨1,4,j5,cr,(sq (rg [gb 1 s0,gm cse] [(2,0),(1,1)]) (sq (sq (r1 [gk 1 true s2,gx 661 [l0] [[.sl 5 [.a,.a,.a,.a,.a]]],om l1] 3 2) (ny s3 cse)) (sq (r1 [gf 0 s2,gd l0,gx 662 [l1] [[.sl 5 [.a,.a,.a,.a,.a]]],gm l2] 1 3) .ret)))⟩
def w446 {Γ:Ctx}(hm:(Γ.at 0).bp)(h661:H7 Γ)(h662:H8 Γ)(m:Ho)   :ef Γ zy (.str (JV m)) [jC m]:=by
 show bz _ _ _ [⟨_,_⟩,_,_,_] _;refine ak ?_;refine aT ?_;refine aj (hc:=h661 m) ?_;refine ay ?_;refine aq (fun hc0=>?_) (fun hc0=>?_)
 ·simp only[Bool.not_eq_true']at hc0;refine aQ ?_;refine cq ?_;simp[JV,hc0]
 simp only[Bool.not_eq_false']at hc0;have hfw:(decide (m.length≤15)&&mE m)=true:=by simp only[tR,Bool.and_eq_true]at hc0;simp only[Bool.and_eq_true];exact hc0.1
 simp only[Bool.and_eq_true,decide_eq_true_eq]at hfw;refine aA ?_;refine aj (hc:=h662 m ⟨tu hfw.2,hfw.1⟩) ?_;refine az ?_;refine cq ?_;simp[JV,hc0]
def Kl (Γ:Ctx):Prop:=∀(m:Ho),Γ.pre 446 [jC m]∧Γ.val 446 [jC m]=.str (JV m)
end Go.Abs
end
section
namespace Go.Abs
open Go
def qZ:aB:=⟨1,3,j5,cr,(sq (r1 [gm cse] 1 0) (sq (sq (r1 [gm s0,gc l0,gf 0 l1,gd l2,gl l3,aE l4 bD] 2 5) (ny s2 cse)) (sq (r1 [gm s0,gc l0,gf 0 l1,gd l2,ga 1 l3 bD,gd l4,gm l5] 1 6) .ret)))⟩
def w946 {Γ:Ctx}(hm:(Γ.at 0).bp)  (w:List ah)(es:List D)(b:Bool)   :ef Γ qZ (.str (bH w)) [.ref 3 [dZ w (.sl 5 es) b] 0 0]:=by
 show bz _ _ _ [⟨_,_⟩,_,_] _;refine ak ?_;refine ba ?_;refine gA (v:=.sl 1 (w.map D.str)) ?_;refine ax ?_;intro u0;refine ay ?_;refine cI (fun hc0=>?_) fun hc0=>?_
 ·refine aQ ?_;refine cq ?_;have:w=[]:=List.length_eq_zero_iff.1 (by omega);subst this;rfl
 refine aQ ?_;refine gA (v:=.sl 1 (w.map D.str)) ?_;refine cE 0 ?_;refine aA ?_;refine cq ?_
 match w,hc0 with
 |[],h=>exact absurd rfl h
 |x::r,_=>rfl
def Ie (Γ:Ctx):Prop:=∀(w:List ah)(es:List D)(b:Bool),Γ.pre 946 [.ref 3 [dZ w (.sl 5 es) b] 0 0]∧Γ.val 946 [.ref 3 [dZ w (.sl 5 es) b] 0 0]=.str (bH w)
def gL:aB:=⟨1,4,j5,cr,(sq (r1 [gm cse] 1 0) (sq (r1 [gm s0,gx 946 [l0] [[.pt [.sl 1 [.a],.sl 5 [.a,.a,.a,.a,.a],.a]]],gm l1] 2 2) (sq (sq (r1 [gm s2,aE l0 cse] 3 1) (.cond s3 (sq (rg [gm s0,gc l0,gf 2 l1,gt 1 l2 tK] []) (zk cse)) .skip)) (sq (rg [gm s0,gm s0,gc l1,gf 0 l2,gd l3,gn (.slA 1 l4 (some b8) none),gc l0,gf 0 l6,gt 1 l7 l5] []) (sq (r1 [gm s2,gm l0] 1 1) .ret)))))⟩
def w947 {Γ:Ctx}(hm:(Γ.at 2).bp)(w:List ah)(nd:List Nd)(b:Bool)(h946:Ie (Γ.at 2))  :bz (Γ.at 2) gL.body (nD gL (Hp 3 dZ nd (fun o=>o=⟨0,aP w,nd,bP w b⟩) (fun _=>.str (bH w))):Ex→List aW→St→Prop) (et gL [.ptr 0 3 0 0]) ⟨2,[(0,.buf 3 [dZ w (.own 1 5 0 nd.length) b]),(1,.buf 5 (nd.map Nd.D))]⟩:=by
 show bz _ _ _ [⟨true,.ptr 0 3 0 0⟩,.un,.un,.un] ⟨2,[(0,.buf 3 [dZ w (.own 1 5 0 nd.length) b]),(1,.buf 5 (nd.map Nd.D))]⟩;refine ak ?_;refine aA ?_;refine aj (hc:=h946 w _ b) (hp:=fun _=>D1 ae ae) ?_;refine ba ?_;refine cI (fun hc0=>?_) fun hc0=>?_
 ·refine aQ ?_;refine aF (dZ w (.own 1 5 0 nd.length) true) (he:=by exact rfl) ?_;refine aT ?_;refine dX trivial im (Eq.trans ae (congrArg D.str ?_)) ae ⟨⟨0,aP w,nd,bP w b⟩,rfl,rfl,by simp only[aP,bP,hc0,if_true];rfl,rfl⟩;exact hc0.symm
 refine aT ?_;refine ch (v:=.sl 1 (w.map D.str)) ?_;refine sZ 1 (hb:=fun _=>by have:=EU hc0;omega) ?_;refine ay ?_;refine aF (dZ (w.drop 1) (.own 1 5 0 nd.length) b) (he:=by exact rfl) ?_;refine aT ?_;refine dX trivial im (Eq.trans ae (congrArg D.str ?_)) ae ⟨⟨0,aP w,nd,bP w b⟩,rfl,rfl,by simp only[aP,bP,hc0,if_false];rfl,rfl⟩;rfl
def A7 (Γ:Ctx):Prop:=∀(w:List ah)(nd:List Nd)(b:Bool),Lw Γ 3 dZ 947 [] w nd b (fun o=>o=⟨0,aP w,nd,bP w b⟩) (fun _=>.str (bH w))
def iD:aB:=⟨2,4,[⟨2,none⟩],cr,(sq (rg [gb 5 s1,gm bD] [(3,0),(2,1)]) (sq (rt [gm s0,gm s0,gc l1,gf 1 l2,gd l3,gk 5 true s3,gn (.bsl 5 (.agg [.int .i64 0,.int .i64 0,.int .i64 0,.int .i64 0,.str []]) 1 [(0,l5)]),gn (.app 5 l4 l6),gc l0,gf 1 l8,gt 1 l9 l7] []) (sq (r1 [gm s0,gc l0,gf 1 l1,gd l2,gl l3,ff l4 b8,gm l5] 2 6) .ret)))⟩
def w948 {Γ:Ctx}(hm:(Γ.at 2).bp)(x:Nd)(w:List ah)(nd:List Nd)(b:Bool)  (hp0:nd.length≤2000):bz (Γ.at 2) iD.body (nD iD (yS 3 dZ (fun o=>o=⟨(nd.length:Nat),w,nd++[x],b⟩) Va):Ex→List aW→St→Prop) (et iD [.ptr 0 3 0 0,Nd.D x]) ⟨2,[(0,.buf 3 [dZ w (.own 1 5 0 nd.length) b]),(1,.buf 5 (nd.map Nd.D))]⟩:=by
 show bz _ _ _ [⟨true,.ptr 0 3 0 0⟩,⟨true,Nd.D x⟩,.un,.un] ⟨2,[(0,.buf 3 [dZ w (.own 1 5 0 nd.length) b]),(1,.buf 5 (nd.map Nd.D))]⟩;refine ak ?_;refine bY ?_;refine ch (v:=.own 1 5 0 nd.length) ?_;refine cA (d:=Nd.D x) ?_;refine cg [Nd.D x] ?_;refine gS (q:=Nd.D) (xs:=nd) (e:=x) ?_;refine ay ?_;refine aF (dZ w (.own 11 5 0 (nd++[x]).length) b) (he:=by exact rfl) ?_;refine aQ ?_;refine ch (v:=.own 11 5 0 (nd++[x]).length) ?_;refine ax ?_;intro u0;refine aA ?_;refine dX trivial im (Eq.trans ae (congrArg (D.int .i64) ?_)) ae ⟨⟨(nd.length:Nat),w,nd++[x],b⟩,11,by decide,rfl,rfl,rfl,rfl⟩;simp
def CU (Γ:Ctx):Prop:=∀(x:Nd)(w:List ah)(nd:List Nd)(b:Bool),nd.length≤2000→py Γ 3 dZ 948 [Nd.D x] w nd b (fun o=>o=⟨(nd.length:Nat),w,nd++[x],b⟩) Va
end Go.Abs
end
section
namespace Go.Abs
open Go
def jn:aB:=⟨2,14,[⟨2,none⟩],cr,(sq (r1 [gm bD] 2 0) (sq (rg [gm s0,gn (.callM 947 [l0]),gm s0,gn (.callM 947 [l2]),gm l1,gm l3] [(8,4),(9,5)]) (sq (sq (rg [gx 950 [] [],gl l0,gm bD] [(6,0),(4,1),(3,2)]) (.block 0 (.loop (sq (r1 [aV s3 s4] 5 0) (sq (iS s5 0) (sq (.block 1 (sq (rg [gm s3,ga 1 s6 s3,gd l1,gm l0,gm l2] [(11,3),(7,4)]) (sq (sq (r1 [gm s7,gm s1,ct l0 l1,gm l2,eV 3 s0,cx 3 (.nilck l4),ko 3 2 l5,lB 3 l6,fI l3 l7,gm l8,eV 9 s8,cx 9 (eR l10 (cs [61])),eV 9 jK,gmt 12 s8,cH 12 (eR nn (cs [33,61])),CH 9 ll nX,fI l9 pk,gm rE,eV 17 s9,cx 17 (.call 349 [xF] cr),cx 17 (.un .not zp),fI wL BM] 10 21) (.cond lr (.exit 1) .skip)) (sq (r1 [gm s0,gm oo,gm s9,gn (.build [.int .i64 0,.int .i64 0,.int .i64 0,.int .i64 0,.str []] [(0,1,b8),(3,1,l1),(4,1,l2)]),gn (.callM 948 [l0,l3]),gm l4] 13 5) (sq (sq (r1 [gm s8,aE l0 (cs [33,61])] 12 1) (.cond m6 (r1 [gm s0,gm tk,gn (.build [.int .i64 0,.int .i64 0,.int .i64 0,.int .i64 0,.str []] [(0,1,kp),(1,1,l1)]),gn (.callM 948 [l0,l2]),gm l3] 13 4) .skip)) (sq (r1 [gm tk,gm l0] 2 1) .ret)))))) (r1 [av s3 b8,gm l0] 3 1))))))) (sq (rg [gm s0,gc l0,gf 2 l1,gt 1 l2 tK] []) (sq (r1 [gm bD] 2 0) .ret)))))⟩
def Mb {Γ:Ctx}(hm:(Γ.at 2).bp)(k:ah)(w:List ah)(nd:List Nd)(b:Bool)(h349:yO (Γ.at 2))(h947:A7 (Γ.at 2))(h948:CU (Γ.at 2))(h950:Ig (Γ.at 2))(hp0:nd.length+2*w.length≤1000):bz (Γ.at 2) jn.body (nD jn (yS 3 dZ (dJ (ji b k w nd) w nd) Va):Ex→List aW→St→Prop) (et jn [.ptr 0 3 0 0,.str k]) ⟨2,[(0,.buf 3 [dZ w (.own 1 5 0 nd.length) b]),(1,.buf 5 (nd.map Nd.D))]⟩:=by
 show bz _ _ _ [⟨true,.ptr 0 3 0 0⟩,⟨true,.str k⟩,.un,.un,.un,.un,.un,.un,.un,.un,.un,.un,.un,.un] ⟨2,[(0,.buf 3 [dZ w (.own 1 5 0 nd.length) b]),(1,.buf 5 (nd.map Nd.D))]⟩;refine ak ?_;refine aA ?_;refine cd (nx':=3) (v:=.str (bH w)) (m':=[(0,.buf 3 [dZ (aP w) (.own 1 5 0 nd.length) (bP w b)]),(1,.buf 5 (nd.map Nd.D))]) (hc:=fun K' hK=>h947 w nd b _ 0 1 _ K' ae ae (by simp only[List.length_cons,List.length_nil];omega) (by simp only[List.length_cons,List.length_nil];omega) (fun o ho=>by subst ho;exact hK)) (hn:=by decide) ?_;refine ax ?_;refine cd (nx':=3) (v:=.str (bH (aP w))) (m':=[(0,.buf 3 [dZ (aP (aP w)) (.own 1 5 0 nd.length) (bP (aP w) (bP w b))]),(1,.buf 5 (nd.map Nd.D))]) (hc:=fun K' hK=>h947 (aP w) nd (bP w b) _ 0 1 _ K' ae ae (by simp only[List.length_cons,List.length_nil];omega) (by simp only[List.length_cons,List.length_nil];omega) (fun o ho=>by subst ho;exact hK)) (hn:=by decide) ?_;refine aQ ?_;refine aj (hc:=h950) ?_;refine ax ?_;intro u0;refine ay ?_;refine br hm (ι:=Nat) (fun i=>[⟨true,.ptr 0 3 0 0⟩,⟨true,.str k⟩,.un,⟨true,.int .i64 (i:Nat)⟩,⟨true,.int .i64 3⟩,.un,⟨true,.sl 1 (lj.map D.str)⟩,.un,⟨true,.str (bH w)⟩,⟨true,.str (bH (aP w))⟩,.un,.un,.un,.un]) (fun i=>[(0,.buf 3 [dZ (aP (aP w)) (.own 1 5 0 nd.length) (bP (aP w) (bP w b))]),(1,.buf 5 (nd.map Nd.D))]) 12 (fun i=>i≤3∧∀j,j<i→zl j k (bH w) (bH (aP w)) (bP (aP w) (bP w b))=false) (fun i=>3-i) 0 ⟨by omega,fun j hj=>by omega⟩ (aL.to [] ae ae dN (by(first|refine aC.cZ ae ae bR ?_|refine aC.lH ae ae ae ?_|refine aC.pj ae ae ae ae ?_);(first|refine aC.cZ ae ae bR ?_|refine aC.lH ae ae ae ?_|refine aC.pj ae ae ae ae ?_);exact aC.nil)) ?_;rintro i ⟨hi,hr⟩;refine az ?_;refine cI (fun hc0=>?_) fun hc0=>?_
 ·refine aA ?_;refine cE i (hb:=fun _=>by show _<3;omega) ?_;refine ca (q:=D.str) (xs:=lj) (i:=i) (k:=1) (o:=0) (hi:=fun _=>by show i<3;omega) (v:=(.str lj[i]!)) ?_;refine Mg ?_;refine aj (hc:=h349 _) ?_;refine az ?_;refine aq (fun hc1=>?_) (fun hc1=>?_)
  ·have hno:zl i k (bH w) (bH (aP w)) (bP (aP w) (bP w b))=false:=congrArg (!·) hc1;refine ba ?_;exact⟨i+1,⟨by omega,fun j hj=>by rcases Nat.lt_or_ge j i with h|h;exact hr j h;obtain rfl:j=i:=(by omega);exact hno⟩,by omega,(aL.to [] ae ae dN (by(first|refine aC.cZ ae ae bR ?_|refine aC.lH ae ae ae ?_|refine aC.pj ae ae ae ae ?_);(first|refine aC.cZ ae ae bR ?_|refine aC.lH ae ae ae ?_|refine aC.pj ae ae ae ae ?_);exact aC.nil))⟩
  have hyes:zl i k (bH w) (bH (aP w)) (bP (aP w) (bP w b))=true:=congrArg (!·) hc1;obtain⟨ha,hk,iK⟩:=DA (nd:=nd) (w:=w) (b:=b) (show i<3 by omega) hyes;have hap:=Aj w nd;have hl1:=hap.1;refine aQ ?_;refine bn (Nd.D ⟨1,0,0,(i:Nat),(bH (aP w))⟩) ?_;refine cd (nx':=41) (v:=.int .i64 (nd.length:Nat)) (m':=[(44,.buf 5 ((nd++[(⟨1,0,0,(i:Nat),(bH (aP w))⟩:Nd)]).map Nd.D)),(0,.buf 3 [dZ (aP (aP w)) (.own 44 5 0 (nd++[(⟨1,0,0,(i:Nat),(bH (aP w))⟩:Nd)]).length) (bP (aP w) (bP w b))])]) (hc:=fun K' hK=>h948 ⟨1,0,0,(i:Nat),(bH (aP w))⟩ (aP (aP w)) nd (bP (aP w) (bP w b)) (by omega) _ 0 1 _ K' ae ae (by simp only[List.length_cons,List.length_nil];omega) (by simp only[List.length_cons,List.length_nil];omega) (fun o ho=>by subst ho;exact hK)) (hn:=by decide) ?_;refine ba ?_;refine aq (fun hc2=>?_) (fun hc2=>?_)
  ·simp only[decide_eq_true_eq]at hc2;have hat:ji b k w nd=some ((((nd++[(⟨1,0,0,(i:Nat),(bH (aP w))⟩:Nd)]).length:Nat):Int),(aP (aP w)),((nd++[(⟨1,0,0,(i:Nat),(bH (aP w))⟩:Nd)])++[(⟨2,(nd.length:Nat),0,0,[]⟩:Nd)])):=by rw[ha];simp only[wX,hk,if_pos hc2]
   refine az ?_;refine bn (Nd.D ⟨2,(nd.length:Nat),0,0,[]⟩) ?_;refine cd (nx':=50) (v:=.int .i64 ((nd++[(⟨1,0,0,(i:Nat),(bH (aP w))⟩:Nd)]).length:Nat)) (m':=[(52,.buf 5 (((nd++[(⟨1,0,0,(i:Nat),(bH (aP w))⟩:Nd)])++[(⟨2,(nd.length:Nat),0,0,[]⟩:Nd)]).map Nd.D)),(0,.buf 3 [dZ (aP (aP w)) (.own 52 5 0 ((nd++[(⟨1,0,0,(i:Nat),(bH (aP w))⟩:Nd)])++[(⟨2,(nd.length:Nat),0,0,[]⟩:Nd)]).length) (bP (aP w) (bP w b))])]) (hc:=fun K' hK=>h948 ⟨2,(nd.length:Nat),0,0,[]⟩ (aP (aP w)) (nd++[(⟨1,0,0,(i:Nat),(bH (aP w))⟩:Nd)]) (bP (aP w) (bP w b)) (by simp;omega) _ 0 44 _ K' ae ae (by simp only[List.length_cons,List.length_nil];omega) (by simp only[List.length_cons,List.length_nil];omega) (fun o ho=>by subst ho;exact hK)) (hn:=by decide) ?_;refine dp ?_;refine dX trivial im (Eq.trans ae (congrArg (D.int .i64) ?_)) ae ⟨⟨((nd++[(⟨1,0,0,(i:Nat),(bH (aP w))⟩:Nd)]).length:Nat),(aP (aP w)),((nd++[(⟨1,0,0,(i:Nat),(bH (aP w))⟩:Nd)])++[(⟨2,(nd.length:Nat),0,0,[]⟩:Nd)]),(bP (aP w) (bP w b))⟩,52,by decide,⟨.inl ⟨hat,iK⟩,rX hat⟩,rfl,rfl,rfl⟩;rfl
  simp only[decide_eq_false_iff_not]at hc2;have hat:ji b k w nd=some (((nd.length:Nat):Int),(aP (aP w)),(nd++[(⟨1,0,0,(i:Nat),(bH (aP w))⟩:Nd)])):=by rw[ha];simp only[wX,hk,if_neg hc2]
  refine bY ?_;refine dX trivial im (Eq.trans ae (congrArg (D.int .i64) ?_)) ae ⟨⟨(nd.length:Nat),(aP (aP w)),(nd++[(⟨1,0,0,(i:Nat),(bH (aP w))⟩:Nd)]),(bP (aP w) (bP w b))⟩,44,by decide,⟨.inl ⟨hat,iK⟩,rX hat⟩,rfl,rfl,rfl⟩;rfl
 refine ay ?_;have hn:ji b k w nd=none:=Ga (fun j hj=>hr j (by omega));refine fF (aL.to (env':=[⟨true,.ptr 0 3 0 0⟩,.un,.un,.un,.un,.un,.un,.un,.un,.un,.un,.un,.un,.un]) (c:=90) (nx':=90) (m':=[(0,.buf 3 [dZ (aP (aP w)) (.own 2 5 0 nd.length) (bP (aP w) (bP w b))]),(2,.buf 5 (nd.map Nd.D))]) [(1,2)] rfl ae dN (by refine aC.lH ae ae ae ?_;refine aC.nl 1 ae ae rfl (by exact bm (fun _=>rfl) _) ?_;exact aC.nil)) ?_;refine aA ?_;refine aF (dZ (aP (aP w)) (.own 2 5 0 nd.length) true) (he:=by exact rfl) ?_;refine aQ ?_;refine dX trivial im (Eq.trans ae (congrArg (D.int .i64) ?_)) ae ⟨⟨0,(aP (aP w)),nd,true⟩,2,by decide,⟨.inr ⟨hn,rfl⟩,Aj w nd⟩,rfl,rfl,rfl⟩;rfl
def CM (Γ:Ctx):Prop:=∀(k:ah)(w:List ah)(nd:List Nd)(b:Bool),nd.length+2*w.length≤1000→py Γ 3 dZ 1031 [.str k] w nd b (dJ (ji b k w nd) w nd) Va
end Go.Abs
end
section
namespace Go.Abs
open Go
def C808 (Γ:Ctx):Prop:=(∀(w:List ah)(nd:List Nd),nd.length+2*w.length≤1000→py Γ 3 dZ 808 [.str yB,.int .i64 4,.fn 809 []] w nd false (dJ (jj w nd) w nd) Va)∧(∀(w:List ah)(nd:List Nd),nd.length+2*w.length≤1000→py Γ 3 dZ 808 [.str qN,.int .i64 3,.fn 949 []] w nd false (dJ (oz w nd) w nd) Va)
def CS (Γ:Ctx)(u:Nat):Prop:=(∀(w:List ah)(nd:List Nd),nd.length+2*w.length≤1000→6*w.length+3<u→py Γ 3 dZ 808 [.str yB,.int .i64 4,.fn 809 []] w nd false (dJ (jj w nd) w nd) Va)∧(∀(w:List ah)(nd:List Nd),nd.length+2*w.length≤1000→6*w.length+1<u→py Γ 3 dZ 808 [.str qN,.int .i64 3,.fn 949 []] w nd false (dJ (oz w nd) w nd) Va)
def H6 (Γ:Ctx):Prop:=∀(w:List ah)(nd:List Nd),nd.length+2*w.length≤1000→py Γ 3 dZ 660 [] w nd false (dJ (jj w nd) w nd) Va
def Hh (Γ:Ctx)(u:Nat):Prop:=∀(w:List ah)(nd:List Nd),nd.length+2*w.length≤1000→6*w.length+4<u→py Γ 3 dZ 660 [] w nd false (dJ (jj w nd) w nd) Va
def C809 (Γ:Ctx):Prop:=∀(w:List ah)(nd:List Nd),nd.length+2*w.length≤1000→py Γ 3 dZ 809 [] w nd false (dJ (oz w nd) w nd) Va
def KO (Γ:Ctx)(u:Nat):Prop:=∀(w:List ah)(nd:List Nd),nd.length+2*w.length≤1000→6*w.length+2<u→py Γ 3 dZ 809 [] w nd false (dJ (oz w nd) w nd) Va
def C949 (Γ:Ctx):Prop:=∀(w:List ah)(nd:List Nd),nd.length+2*w.length≤1000→py Γ 3 dZ 949 [] w nd false (dJ (kO w nd) w nd) Va
def Hj (Γ:Ctx)(u:Nat):Prop:=∀(w:List ah)(nd:List Nd),nd.length+2*w.length≤1000→6*w.length+0<u→py Γ 3 dZ 949 [] w nd false (dJ (kO w nd) w nd) Va
def fT:aB:=⟨4,8,[⟨4,none⟩],cr,(sq (r1 [gm bD] 4 0) (sq (r1 [gm s3,gm s0,gn (.callvM l0 [l1]),gm l2] 6 3) (sq (.block 0 (.loop (sq (sq (r1 [gm s0,gc l0,gf 2 l1,gd l2,om l3,gm l4,gmt 5 s0,cH 5 (.call 946 [l6] [[.pt [.sl 1 [.a],.sl 5 [.a,.a,.a,.a,.a],.a]]]),gmt 5 s1,cH 5 (cQ l7 l8),gy l5 l9] 5 10) (iS s5 0)) (.block 1 (sq (rg [gm s0,gn (.callM 947 [l0])] []) (sq (r1 [gm s3,gm s0,gn (.callvM l0 [l1]),gm l2] 7 3) (r1 [gm s0,gm s2,gm s6,gm s7,gn (.build [.int .i64 0,.int .i64 0,.int .i64 0,.int .i64 0,.str []] [(0,1,l1),(1,1,l2),(2,1,l3)]),gn (.callM 948 [l0,l4]),gm l5] 6 6))))))) (sq (r1 [gm s6,gm l0] 4 1) .ret))))⟩
def take_cons {Γ:Ctx}(h:A7 Γ){x:ah}(hx:x≠[])(r:List ah)(nd:List Nd)(b:Bool):Lw Γ 3 dZ 947 [] (x::r) nd b (fun o=>o=⟨0,r,nd,b⟩) (fun _=>.str x):=by
 have:=h (x::r) nd b;rw[fw hx,fu hx]at this;exact this
def Be {bad:Bool}{w:List ah}{wd:ah}(h:(!bad&&decide (bH w=wd))=false):bad=true∨w.head? ≠some wd:=by
 cases bad with
 |true=>exact .inl rfl
 |false=>
  right;simp only[Bool.not_false,Bool.true_and,decide_eq_false_iff_not]at h
  match w,h with
  |[],_=>simp
  |x::r,h=>intro e;exact h (show x=wd by simpa using e)
def Me {Γ:Ctx}(hm:(Γ.at 2).bp)(part:List ah→List Nd→PR)(pn:Nat)(wd:ah)(op:Int)(w:List ah)(nd:List Nd)(h946:Ie (Γ.at 2))(h947:A7 (Γ.at 2))(h948:CU (Γ.at 2))(hp0:nd.length+2*w.length≤1000)(hp1:qQ part)(hp2:pn<1000000)(hp3:wd≠[])(hp4:∀(w2:List ah)(nd2:List Nd),w2.length≤w.length→nd2.length+2*w2.length≤1000→py (Γ.at 2) 3 dZ pn [] w2 nd2 false (dJ (part w2 nd2) w2 nd2) Va):bz (Γ.at 2) fT.body (nD fT (yS 3 dZ (dJ (eK part wd op w nd) w nd) Va):Ex→List aW→St→Prop) (et fT [.ptr 0 3 0 0,.str wd,.int .i64 op,.fn pn []]) ⟨2,[(0,.buf 3 [dZ w (.own 1 5 0 nd.length) false]),(1,.buf 5 (nd.map Nd.D))]⟩:=by
 show bz _ _ _ [⟨true,.ptr 0 3 0 0⟩,⟨true,.str wd⟩,⟨true,.int .i64 op⟩,⟨true,.fn pn []⟩,.un,.un,.un,.un] ⟨2,[(0,.buf 3 [dZ w (.own 1 5 0 nd.length) false]),(1,.buf 5 (nd.map Nd.D))]⟩;have hpn:vG pn=pn:=if_pos hp2;have hpa:∀TN:List D,tJ pn TN []=TN:=fun TN=>by rw[tJ,if_pos hp2,List.append_nil]
 refine ak ?_;refine aQ ?_;refine jd (TN:=[.ptr 0 3 0 0]) (dJ (part w nd) w nd) Va 4 (fun o=>[(5,.buf 5 (o.nd.map Nd.D)),(0,.buf 3 [dZ o.w (.own 5 5 0 o.nd.length) o.bad])]) (fun o0 ho0=>?_) (hc:=fun K' hK=>by rw[hpn];exact hp4 w nd (Nat.le_refl _) (by omega) _ 0 1 _ K' ae ae (by simp only[List.length_cons,List.length_nil];omega) (by simp only[List.length_cons,List.length_nil];omega) (fun o ho=>hK o ho)) (hn:=by decide) (ha:=hpa _);refine ay ?_;refine br hm (ι:=PO) (fun o=>[⟨true,.ptr 0 3 0 0⟩,⟨true,.str wd⟩,⟨true,.int .i64 op⟩,⟨true,.fn pn []⟩,.un,.un,⟨true,.int .i64 o.a⟩,.un]) (fun o=>[(0,.buf 3 [dZ o.w (.own 2 5 0 o.nd.length) o.bad]),(2,.buf 5 (o.nd.map Nd.D))]) 8 (fun o=>Fe part wd op (eK part wd op w nd) w nd o) (fun o=>o.w.length) o0 (Fe.first ho0) (aL.to [(5,2)] ae ae dN (by(first|refine aC.cZ ae ae bR ?_|refine aC.lH ae ae ae ?_|refine aC.pj ae ae ae ae ?_);refine aC.nl 5 ae ae ae bR ?_;exact aC.nil)) ?_;rintro⟨a,w1,nd1,bad⟩ hI;dsimp only;have hpb:=hI.2;have hl1:=hpb.1;have hl2:=hpb.2.1;dsimp only at hl1 hl2;refine dp ?_;refine eI (hc:=fun _=>h946 w1 _ bad) (hp:=fun _=>D1 ae ae) ?_;refine aA ?_;refine aq (fun hc0=>?_) (fun hc0=>?_)
 ·simp only[Bool.and_eq_true,Bool.not_eq_true',decide_eq_true_eq]at hc0;obtain⟨rfl,hts⟩:=hc0;obtain⟨r,rfl⟩:=m8 hp3 hts;simp only[List.length_cons]at hl1 hl2;refine aA ?_;refine cd (nx':=19) (v:=.str wd) (m':=[(0,.buf 3 [dZ r (.own 2 5 0 nd1.length) false]),(2,.buf 5 (nd1.map Nd.D))]) (hc:=fun K' hK=>take_cons h947 hp3 r nd1 false _ 0 2 _ K' ae ae (by simp only[List.length_cons,List.length_nil];omega) (by simp only[List.length_cons,List.length_nil];omega) (fun o ho=>by subst ho;exact hK)) (hn:=by decide) ?_;refine aA ?_;refine jd (TN:=[.ptr 0 3 0 0]) (dJ (part r nd1) r nd1) Va 22 (fun o=>[(23,.buf 5 (o.nd.map Nd.D)),(0,.buf 3 [dZ o.w (.own 23 5 0 o.nd.length) o.bad])]) (fun o2 ho2=>?_) (hc:=fun K' hK=>by rw[hpn];exact hp4 r nd1 (by omega) (by omega) _ 0 2 _ K' ae ae (by simp only[List.length_cons,List.length_nil];omega) (by simp only[List.length_cons,List.length_nil];omega) (fun o ho=>hK o ho)) (hn:=by decide) (ha:=hpa _);have hl3:=ho2.2.2.1;have hl4:=ho2.2.1;refine ba ?_;refine bn (Nd.D (⟨op,a,o2.a,0,[]⟩:Nd)) ?_;refine cd (nx':=27) (v:=.int .i64 (o2.nd.length:Nat)) (m':=[(31,.buf 5 ((o2.nd++[(⟨op,a,o2.a,0,[]⟩:Nd)]).map Nd.D)),(0,.buf 3 [dZ o2.w (.own 31 5 0 (o2.nd++[(⟨op,a,o2.a,0,[]⟩:Nd)]).length) o2.bad])]) (hc:=fun K' hK=>h948 (⟨op,a,o2.a,0,[]⟩:Nd) o2.w o2.nd o2.bad (by omega) _ 0 23 _ K' ae ae (by simp only[List.length_cons,List.length_nil];omega) (by simp only[List.length_cons,List.length_nil];omega) (fun o ho=>by subst ho;exact hK)) (hn:=by decide) ?_;refine aA ?_;exact⟨⟨(o2.nd.length:Nat),o2.w,o2.nd++[(⟨op,a,o2.a,0,[]⟩:Nd)],o2.bad⟩,Fe.next hp1 hI ho2,by dsimp only;simp only[List.length_cons];omega,(aL.to [(31,2)] ae ae dN (by(first|refine aC.cZ ae ae bR ?_|refine aC.lH ae ae ae ?_|refine aC.pj ae ae ae ae ?_);refine aC.nl 31 ae ae ae bR ?_;exact aC.nil))⟩
 have hx:=Be hc0;refine ba ?_;refine dX trivial im (Eq.trans ae (congrArg (D.int .i64) ?_)) ae ⟨⟨a,w1,nd1,bad⟩,2,by decide,hI.last hx,rfl,rfl,rfl⟩;rfl
def iC:aB:=⟨1,2,j5,cr,(sq (r1 [gm bD] 1 0) (sq (r1 [gm s0,gn (.callM 808 [l0,(cs [111,114]),tF,(.c (.fn 809 []))]),gm l1] 1 2) .ret))⟩
def w660 {Γ:Ctx}(hm:(Γ.at 2).bp)(w:List ah)(nd:List Nd)(h808:CS (Γ.at 2) (6*w.length+4))(hp0:nd.length+2*w.length≤1000):bz (Γ.at 2) iC.body (nD iC (yS 3 dZ (dJ (jj w nd) w nd) Va):Ex→List aW→St→Prop) (et iC [.ptr 0 3 0 0]) ⟨2,[(0,.buf 3 [dZ w (.own 1 5 0 nd.length) false]),(1,.buf 5 (nd.map Nd.D))]⟩:=by
 show bz _ _ _ [⟨true,.ptr 0 3 0 0⟩,.un] ⟨2,[(0,.buf 3 [dZ w (.own 1 5 0 nd.length) false]),(1,.buf 5 (nd.map Nd.D))]⟩;refine ak ?_;refine aA ?_;refine kB (dJ (jj w nd) w nd) Va 4 (fun o=>[(4,.buf 5 (o.nd.map Nd.D)),(0,.buf 3 [dZ o.w (.own 4 5 0 o.nd.length) o.bad])]) (fun o1 ho1=>?_) (hc:=fun K' hK=>h808.1 w nd hp0 (by omega) _ 0 1 _ K' ae ae (by simp only[List.length_cons,List.length_nil];omega) (by simp only[List.length_cons,List.length_nil];omega) (fun o ho=>hK o ho)) (hn:=by decide);refine az ?_;refine dX trivial im (Eq.trans ae (congrArg (D.int .i64) ?_)) ae ⟨o1,4,by decide,ho1,rfl,rfl,rfl⟩;rfl
def gJ:aB:=⟨1,2,j5,cr,(sq (r1 [gm bD] 1 0) (sq (r1 [gm s0,gn (.callM 808 [l0,(cs [97,110,100]),kd,(.c (.fn 949 []))]),gm l1] 1 2) .ret))⟩
def w809 {Γ:Ctx}(hm:(Γ.at 2).bp)(w:List ah)(nd:List Nd)(h808:CS (Γ.at 2) (6*w.length+2))(hp0:nd.length+2*w.length≤1000):bz (Γ.at 2) gJ.body (nD gJ (yS 3 dZ (dJ (oz w nd) w nd) Va):Ex→List aW→St→Prop) (et gJ [.ptr 0 3 0 0]) ⟨2,[(0,.buf 3 [dZ w (.own 1 5 0 nd.length) false]),(1,.buf 5 (nd.map Nd.D))]⟩:=by
 show bz _ _ _ [⟨true,.ptr 0 3 0 0⟩,.un] ⟨2,[(0,.buf 3 [dZ w (.own 1 5 0 nd.length) false]),(1,.buf 5 (nd.map Nd.D))]⟩;refine ak ?_;refine aA ?_;refine kB (dJ (oz w nd) w nd) Va 4 (fun o=>[(4,.buf 5 (o.nd.map Nd.D)),(0,.buf 3 [dZ o.w (.own 4 5 0 o.nd.length) o.bad])]) (fun o1 ho1=>?_) (hc:=fun K' hK=>h808.2 w nd hp0 (by omega) _ 0 1 _ K' ae ae (by simp only[List.length_cons,List.length_nil];omega) (by simp only[List.length_cons,List.length_nil];omega) (fun o ho=>hK o ho)) (hn:=by decide);refine az ?_;refine dX trivial im (Eq.trans ae (congrArg (D.int .i64) ?_)) ae ⟨o1,4,by decide,ho1,rfl,rfl,rfl⟩;rfl
def iB:aB:=⟨1,10,j5,cr,(sq (r1 [gm bD] 1 0) (sq (sq (r1 [gm s0,gc l0,gf 2 l1,gd l2] 2 3) (ny s2 bD)) (sq (r1 [gm s0,gn (.callM 947 [l0]),gm l1] 3 2) (sq (r1 [gm s3] 4 0) (.block 0 (sq (r1 [aE s4 (cs [110,111,116]),gm l0] 5 1) (.cond s5 (sq (r1 [gm s0,gn (.callM 949 [l0]),gm l1] 6 2) (sq (r1 [gm s0,gm s6,gn (.build [.int .i64 0,.int .i64 0,.int .i64 0,.int .i64 0,.str []] [(0,1,kp),(1,1,l1)]),gn (.callM 948 [l0,l2]),gm l3] 1 4) .ret)) (sq (r1 [aE s4 (cs [40]),gm l0] 7 1) (.cond s7 (sq (r1 [gm s0,gn (.callM 660 [l0]),gm l1] 9 2) (sq (sq (r1 [gm s0,gn (.callM 947 [l0]),ct l1 (cs [41])] 8 2) (.cond s8 (rg [gm s0,gc l0,gf 2 l1,gt 1 l2 tK] []) .skip)) (sq (r1 [gm s9,gm l0] 1 1) .ret))) (sq (r1 [gm s0,gm s3,gn (.callM 1031 [l0,l1]),gm l2] 1 3) .ret))))))))))⟩
def w949 {Γ:Ctx}(hm:(Γ.at 2).bp)(w:List ah)(nd:List Nd)(h660:Hh (Γ.at 2) (6*w.length))(h947:A7 (Γ.at 2))(h948:CU (Γ.at 2))(h949:Hj (Γ.at 2) (6*w.length))(h1031:CM (Γ.at 2))(hp0:nd.length+2*w.length≤1000):bz (Γ.at 2) iB.body (nD iB (yS 3 dZ (dJ (kO w nd) w nd) Va):Ex→List aW→St→Prop) (et iB [.ptr 0 3 0 0]) ⟨2,[(0,.buf 3 [dZ w (.own 1 5 0 nd.length) false]),(1,.buf 5 (nd.map Nd.D))]⟩:=by
 show bz _ _ _ [⟨true,.ptr 0 3 0 0⟩,.un,.un,.un,.un,.un,.un,.un,.un,.un] ⟨2,[(0,.buf 3 [dZ w (.own 1 5 0 nd.length) false]),(1,.buf 5 (nd.map Nd.D))]⟩;refine ak ?_;refine dp ?_;refine aq (fun hc0=>?_) (fun hc0=>?_)
 ·skip
  exact absurd hc0 (by decide)
 skip
 refine az ?_;refine cd (nx':=7) (v:=.str (bH w)) (m':=[(0,.buf 3 [dZ (aP w) (.own 1 5 0 nd.length) (bP w false)]),(1,.buf 5 (nd.map Nd.D))]) (hc:=fun K' hK=>h947 w nd false _ 0 1 _ K' ae ae (by simp only[List.length_cons,List.length_nil];omega) (by simp only[List.length_cons,List.length_nil];omega) (fun o ho=>by subst ho;exact hK)) (hn:=by decide) ?_;refine jB ?_;refine wp_cond (fun hc1=>?_) (fun hc1=>?_)
 ·simp only[decide_eq_true_eq]at hc1;obtain⟨r,rfl⟩:=m8 (by decide) hc1;rw[fw (by decide),fu (by decide)];simp only[List.length_cons]at hp0;refine ay ?_;refine kB (dJ (kO r nd) r nd) Va 14 (fun o=>[(14,.buf 5 (o.nd.map Nd.D)),(0,.buf 3 [dZ o.w (.own 14 5 0 o.nd.length) o.bad])]) (fun o1 ho1=>?_) (hc:=fun K' hK=>h949 r nd (by omega) (by simp only[List.length_cons];omega) _ 0 1 _ K' ae ae (by simp only[List.length_cons,List.length_nil];omega) (by simp only[List.length_cons,List.length_nil];omega) (fun o ho=>hK o ho)) (hn:=by decide);have hl3:=ho1.2.2.1;have hl4:=ho1.2.1;refine aQ ?_;refine bn (Nd.D (⟨2,o1.a,0,0,[]⟩:Nd)) ?_;refine cd (nx':=18) (v:=.int .i64 (o1.nd.length:Nat)) (m':=[(20,.buf 5 ((o1.nd++[(⟨2,o1.a,0,0,[]⟩:Nd)]).map Nd.D)),(0,.buf 3 [dZ o1.w (.own 20 5 0 (o1.nd++[(⟨2,o1.a,0,0,[]⟩:Nd)]).length) o1.bad])]) (hc:=fun K' hK=>h948 (⟨2,o1.a,0,0,[]⟩:Nd) o1.w o1.nd o1.bad (by omega) _ 0 14 _ K' ae ae (by simp only[List.length_cons,List.length_nil];omega) (by simp only[List.length_cons,List.length_nil];omega) (fun o ho=>by subst ho;exact hK)) (hn:=by decide) ?_;refine aA ?_;refine dX trivial im (Eq.trans ae (congrArg (D.int .i64) ?_)) ae ⟨⟨(o1.nd.length:Nat),o1.w,o1.nd++[(⟨2,o1.a,0,0,[]⟩:Nd)],o1.bad⟩,20,by decide,GK ho1,rfl,rfl,rfl⟩;rfl
 simp only[decide_eq_false_iff_not]at hc1;refine aA ?_;refine wp_cond (fun hc2=>?_) (fun hc2=>?_)
 ·simp only[decide_eq_true_eq]at hc2;obtain⟨r,rfl⟩:=m8 (by decide) hc2;rw[fw (by decide),fu (by decide)];simp only[List.length_cons]at hp0;refine ay ?_;refine kB (dJ (jj r nd) r nd) Va 16 (fun o=>[(16,.buf 5 (o.nd.map Nd.D)),(0,.buf 3 [dZ o.w (.own 16 5 0 o.nd.length) o.bad])]) (fun o1 ho1=>?_) (hc:=fun K' hK=>h660 r nd (by omega) (by simp only[List.length_cons];omega) _ 0 1 _ K' ae ae (by simp only[List.length_cons,List.length_nil];omega) (by simp only[List.length_cons,List.length_nil];omega) (fun o ho=>hK o ho)) (hn:=by decide);refine aQ ?_;refine cd (nx':=19) (v:=.str (bH o1.w)) (m':=[(16,.buf 5 (o1.nd.map Nd.D)),(0,.buf 3 [dZ (aP o1.w) (.own 16 5 0 o1.nd.length) (bP o1.w o1.bad)])]) (hc:=fun K' hK=>h947 o1.w o1.nd o1.bad _ 0 16 _ K' ae ae (by simp only[List.length_cons,List.length_nil];omega) (by simp only[List.length_cons,List.length_nil];omega) (fun o ho=>by subst ho;exact hK)) (hn:=by decide) ?_;refine ay ?_;refine aq (fun hc3=>?_) (fun hc3=>?_)
  ·simp only[Bool.not_eq_true',decide_eq_false_iff_not]at hc3;refine aA ?_;refine aF (dZ (aP o1.w) (.own 16 5 0 o1.nd.length) true) (he:=by exact rfl) ?_;refine ba ?_;refine dX trivial im (Eq.trans ae (congrArg (D.int .i64) ?_)) ae ⟨⟨o1.a,aP o1.w,o1.nd,true⟩,16,by decide,xZ ho1 hc3,rfl,rfl,rfl⟩;rfl
  simp only[Bool.not_eq_false',decide_eq_true_eq]at hc3;refine ba ?_;refine dX trivial im (Eq.trans ae (congrArg (D.int .i64) ?_)) ae ⟨⟨o1.a,aP o1.w,o1.nd,bP o1.w o1.bad⟩,16,by decide,Eh ho1 hc3,rfl,rfl,rfl⟩;rfl
 simp only[decide_eq_false_iff_not]at hc2;have hfa:=Dk (nd:=nd) hc1 hc2;have htl:=(kF w nd).1;refine az ?_;refine kB (dJ (ji (bP w false) (bH w) (aP w) nd) (aP w) nd) Va 16 (fun o=>[(17,.buf 5 (o.nd.map Nd.D)),(0,.buf 3 [dZ o.w (.own 17 5 0 o.nd.length) o.bad])]) (fun o1 ho1=>?_) (hc:=fun K' hK=>h1031 (bH w) (aP w) nd (bP w false) (by omega) _ 0 1 _ K' ae ae (by simp only[List.length_cons,List.length_nil];omega) (by simp only[List.length_cons,List.length_nil];omega) (fun o ho=>hK o ho)) (hn:=by decide);refine aA ?_;refine dX trivial im (Eq.trans ae (congrArg (D.int .i64) ?_)) ae ⟨o1,17,by decide,Eg hfa ho1,rfl,rfl,rfl⟩;rfl
end Go.Abs
end
section
namespace Go.Abs
open Go
def zx:aB:=⟨1,8,[⟨1,some (1,true)⟩,⟨2,none⟩],[[.sl 5 [.a,.a,.a,.a,.a]],[.a]],(sq (rg [gb 1 (.c (.agg [.ar])),gm bD] [(1,0),(2,1)]) (sq (sq (r1 [gm s0,wK l0,dz l1 (i6 96)] 3 2) (.cond s3 (sq (r1 [gn (.build [.ar] []),gt 1 s1 l0,gm kd] 2 2) .ret) .skip)) (sq (sq (r1 [gm s0,aE l0 cse] 4 1) (.cond s4 (sq (r1 [gn (.build [.ar] []),gt 1 s1 l0,gm bD] 2 2) .ret) .skip)) (sq (r1 [gm s0,gx 124 [l0,(cs [32])] iK,gn (.build [.ar,.ar,.bool false] [(0,1,l1)]),gb 3 l2,gm l3] 5 4) (sq (rg [gm s5,gn (.callM 660 [l0])] []) (sq (r1 [gm s5,gc l0,gf 1 l1,gd l2,gn (.build [.ar] [(0,1,l3)]),gb 1 (.c (.agg [.ar])),gt 1 l5 l4] 6 5) (sq (sq (r1 [gm s5,gc l0,gf 2 l1,gd l2,gm l3,eV 4 s5,cx 4 (.nilck l5),ko 4 0 l6,lB 4 l7,cx 4 (.len l8),cx 4 (dh l9 bD),fI l4 l10,gm jK,cx 12 (.ld 1 true s6),cx 12 (.call 661 [nn] [[.sl 5 [.a,.a,.a,.a,.a]]]),cx 12 (.un .not nX),fI ll pk] 7 16) (.cond s7 (sq (r1 [gn (.build [.ar] []),gt 1 s1 l0,gm IM] 2 2) .ret) .skip)) (sq (r1 [gk 1 true s6,gt 1 s1 l0,gm bD] 2 2) .ret))))))))⟩
def w445 {Γ:Ctx}(hm:(Γ.at 0).bp)(h124:CN Γ)(h660:H6 Γ)(h661:H7 Γ)(s:ah)   :ef Γ zx (.tup [jC (kT s).1,.int .i64 (kT s).2]) [.str s]:=by
 show bz _ _ _ [⟨_,_⟩,_,_,_,_,_,_,_] _;refine ak ?_;refine aT ?_;refine nr ?_;refine ay ?_;refine cI (fun hc0=>?_) fun hc0=>?_
 ·refine ay ?_;refine eH [.ar] ?_;refine aF (.agg [.ar]) (he:=by exact rfl) ?_;refine az ?_;refine b7 (aR ?_ (congrArg (D.int .i64) ?_));all_goals (have hq:kT s=([],3):=(by simp only[kT];rw[if_pos (by omega)]);rw[hq];first|done|rfl)
 refine aT ?_;refine aq (fun hc1=>?_) (fun hc1=>?_)
 ·try simp only[hX]at hc1
  refine ay ?_;refine eH [.ar] ?_;refine aF (.agg [.ar]) (he:=by exact rfl) ?_;refine az ?_;refine b7 (aR ?_ (congrArg (D.int .i64) ?_));all_goals (have hq:kT s=([],0):=(by simp only[kT];rw[if_neg (by omega),if_pos hc1]);rw[hq];first|done|rfl)
 simp only[decide_eq_false_iff_not]at hc1;have hnl:¬96<s.length:=by omega
 have hsl:=cL s 32;refine az ?_;refine aj (hc:=h124 s 32 (by omega)) ?_;refine bn (dZ (ai s 32) .ar false) ?_;refine az ?_;refine fF (aL.to (env':=[⟨true,.str s⟩,⟨true,.ptr 0 1 0 0⟩,.un,.un,.un,⟨true,.ptr 1 3 0 0⟩,.un,.un]) (c:=20) (nx':=20) (m':=[(0,.buf 1 [.agg [.ar]]),(1,.buf 3 [dZ (ai s 32) (.own 2 5 0 ([]:List Nd).length) false]),(2,.buf 5 (([]:List Nd).map Nd.D))]) [(0,0),(10,1)] rfl ae dN (by refine aC.cZ ae ae ae ?_;refine aC.ni 10 ae ae (by exact⟨_,_,rfl,⟨_,rfl,⟨_,_,rfl,⟨rfl,rfl⟩,⟨_,_,rfl,Or.inr ⟨_,_,_,rfl⟩,⟨_,_,rfl,⟨rfl,rfl⟩,rfl⟩⟩⟩⟩,rfl⟩) ?_;refine aC.mt ae ae ae ae ?_;exact aC.nil)) ?_;refine ay ?_;refine kB (dJ (jj (ai s 32) []) (ai s 32) []) Va 21 (fun o=>[(21,.buf 5 (o.nd.map Nd.D)),(0,.buf 1 [.agg [.ar]]),(1,.buf 3 [dZ o.w (.own 21 5 0 o.nd.length) o.bad])]) (fun o1 ho1=>?_) (hc:=fun K' hK=>h660 (ai s 32) [] (by simp only[List.length_nil];omega) _ 1 2 _ K' ae ae (by simp only[List.length_cons,List.length_nil];omega) (by simp only[List.length_cons,List.length_nil];omega) (fun o ho=>hK o ho)) (hn:=by decide);refine ax ?_;refine dT 21 ?_ (he:=by simp only[lg,gp,j9,lY,nR,bK,Nat.reduceEqDiff,if_true,if_false,and_self,true_and,and_true,false_and,and_false,Nat.zero_add,List.length_map,Nat.le_refl,List.drop_zero,aH,reduceCtorEq,List.length_cons,List.length_nil,Nat.reduceAdd,Nat.reduceLeDiff,dZ];exact rfl) (hm:=by simp only[lg,gp,j9,lY,nR,bK,Nat.reduceEqDiff,if_true,if_false,and_self,true_and,and_true,false_and,and_false,Nat.zero_add,List.length_map,Nat.le_refl,List.drop_zero,aH,reduceCtorEq,List.length_cons,List.length_nil,Nat.reduceAdd,Nat.reduceLeDiff,dZ];exact rfl);refine aA ?_;refine ch (v:=.sl 5 (o1.nd.map Nd.D)) ?_;refine bn (jC o1.nd) ?_;refine ax ?_;refine aF (jC o1.nd) (he:=by exact rfl) ?_;refine aT ?_;refine ch (v:=.bool o1.bad) ?_;refine aA ?_;refine ch (v:=.sl 1 (o1.w.map D.str)) ?_;refine nr ?_;refine az ?_;refine cA (d:=jC o1.nd) ?_;refine aj (hc:=h661 o1.nd) ?_;refine az ?_;refine aq (fun hc2=>?_) (fun hc2=>?_)
 ·have hmx:=I1 ho1 hc2;refine ay ?_;refine eH [.ar] ?_;refine aF (.agg [.ar]) (he:=by exact rfl) ?_;refine az ?_;refine b7 (aR ?_ (congrArg (D.int .i64) ?_));all_goals (have hq:=Gr hnl hc1 hmx;rw[hq];first|done|rfl)
 have hmx:=Gu ho1 hc2;refine ay ?_;refine cA (d:=jC o1.nd) ?_;refine aF (jC o1.nd) (he:=by exact rfl) ?_;refine az ?_;refine b7 (aR ?_ (congrArg (D.int .i64) ?_));all_goals (have hq:=Gt hnl hc1 hmx;rw[hq];first|done|rfl)
def Kk (Γ:Ctx):Prop:=∀(s:ah),Γ.pre 445 [.str s]∧Γ.val 445 [.str s]=.tup [jC (kT s).1,.int .i64 (kT s).2]
def tX:aB:=⟨1,4,j5,cr,(sq (r1 [gm dx] 1 0) (sq (rg [gm s0,gx 445 [l0] cr,gm l1,ge l2 0,ge l2 1,gb 1 (.c (.agg [.ar])),gt 1 l5 l3,gm l4] [(3,5),(2,7)]) (sq (r1 [gm s2,aE l0 bD,gm l1,cH 2 (.ld 1 true s3),cH 2 (.call 446 [l3] [[.sl 5 [.a,.a,.a,.a,.a]]]),gmt 2 s0,cH 2 (cQ l4 l5),gy l2 l6,gm l7] 1 8) .ret)))⟩
def w212 {Γ:Ctx}(hm:(Γ.at 0).bp)(h445:Kk Γ)(h446:Kl Γ)(s:ah)   :ef Γ tX (.bool (jL s)) [.str s]:=by
 show bz _ _ _ [⟨_,_⟩,_,_,_] _;refine ak ?_;refine aA ?_;refine aj (hc:=h445 s) ?_;refine ax ?_;refine fC (jC _) ?_;refine ay ?_;refine aF (jC (kT s).1) (he:=by exact rfl) ?_;refine aT ?_;refine cA (d:=jC (kT s).1) ?_;refine aj (hc:=h446 (kT s).1) ?_;refine aT ?_;exact bL rfl
def HS (Γ:Ctx):Prop:=∀(s:ah),Γ.pre 212 [.str s]∧Γ.val 212 [.str s]=.bool (jL s)
end Go.Abs
end
section
namespace Go.Abs
open Go
end Go.Abs
end
section
namespace Go.Abs
open Go
end Go.Abs
end
section
namespace Go.Abs
open Go
end Go.Abs
end
section
namespace Go.Abs
open Go
end Go.Abs
end
section
namespace Go.Abs
open Go
end Go.Abs
end
section
namespace Go.Abs
open Go
end Go.Abs
end
section
namespace Go.Abs
open Go
def wy:aB:=⟨2,8,[⟨2,none⟩],cr,(sq (r1 [gm bD] 2 0) (sq (sq (rg [gm s0,gl l0,gm bD] [(4,1),(3,2)]) (.block 0 (.loop (sq (r1 [aV s3 s4] 5 0) (sq (iS s5 0) (sq (.block 1 (sq (r1 [gm s3,gm l0] 6 1) (sq (r1 [gm s1,gm s0,gm s6,ga 1 l1 l2,gd l3,aE l0 l4] 7 5) (.cond s7 (sq (r1 [gm s6,gm l0] 2 1) .ret) .skip)))) (r1 [av s3 b8,gm l0] 3 1))))))) (sq (r1 [gn (.mv (.c (.int .i64 (-1))))] 2 0) .ret)))⟩
def w494 {Γ:Ctx}(hm:(Γ.at 0).bp)  (l:List ah)(x:ah)   :ef Γ wy (.int .i64 (oO l x 0)) [.sl 1 (l.map D.str),.str x]:=by
 show bz _ _ _ [⟨_,_⟩,⟨_,_⟩,_,_,_,_,_,_] _;refine ak ?_;refine aT ?_;intro u0;refine ay ?_;refine br hm (ι:=Nat) (fun i=>[⟨true,.sl 1 (l.map D.str)⟩,⟨true,.str x⟩,.un,⟨true,.int .i64 (i:Nat)⟩,⟨true,.int .i64 (l.length:Nat)⟩,.un,.un,.un]) (fun i=>[]) 4 (fun i=>i≤l.length∧oO l x 0=oO l x i) (fun i=>l.length-i) 0 ⟨by omega,rfl⟩ (ek []) ?_;rintro i ⟨hi,hr⟩;refine az ?_;refine cI (fun hc0=>?_) fun hc0=>?_
 ·refine vy ?_;refine fN (fun hc1=>?_) fun hc1=>?_
  ·refine ba ?_;refine gW ?_;rw[hr,Gd (by omega) hc1]
  refine ba ?_;exact⟨i+1,⟨by omega,by rw[hr,Ge (by omega) hc1]⟩,by omega,(ek [])⟩
 refine aT ?_;refine gW ?_;rw[hr,DF (by omega)]
def Kz (Γ:Ctx):Prop:=∀(l:List ah)(x:ah),Γ.pre 494 [.sl 1 (l.map D.str),.str x]∧Γ.val 494 [.sl 1 (l.map D.str),.str x]=.int .i64 (oO l x 0)
def ri:aB:=⟨2,3,[⟨2,none⟩],cr,(sq (r1 [gm dx] 2 0) (sq (r1 [gm s0,gm s1,gx 494 [l0,l1] [[.sl 1 [.a]],[.a]],gM l2 bD,gm l3] 2 4) .ret))⟩
def w246 {Γ:Ctx}(hm:(Γ.at 0).bp)(h494:Kz Γ)(l:List ah)(x:ah)   :ef Γ ri (.bool (decide (x∈l))) [.sl 1 (l.map D.str),.str x]:=by
 show bz _ _ _ [⟨_,_⟩,⟨_,_⟩,_] _;refine ak ?_;refine aQ ?_;refine aj (hc:=h494 l x) ?_;refine aA ?_;refine bL ?_;exact DG l x
def Kc (Γ:Ctx):Prop:=∀(l:List ah)(x:ah),Γ.pre 246 [.sl 1 (l.map D.str),.str x]∧Γ.val 246 [.sl 1 (l.map D.str),.str x]=.bool (decide (x∈l))
end Go.Abs
end
section
namespace Go.Abs
open Go
def Kb (Γ:Ctx):Prop:=∀(s:ah)(n:Int),(s.length≤1048576)→(n=-1∨(1≤n∧n≤1000))→Γ.pre 245 [.str s,.str [32],.int .i64 n]∧Γ.val 245 [.str s,.str [32],.int .i64 n]=.sl 1 ((fY n s).map D.str)
def Kt (Γ:Ctx):Prop:=∀(l:List ah),(l.length≤1048600)→Γ.pre 469 [.sl 1 (l.map D.str)]∧Γ.val 469 [.sl 1 (l.map D.str)]=.sl 1 (l.map D.str)
end Go.Abs
end
section
namespace Go.Abs
open Go
def fm:aB:=⟨4,11,[⟨4,none⟩,⟨5,none⟩],[[.sl 1 [.a]],[.a]],(sq (rg [gm (.c (.ar)),gm dx] [(4,0),(5,1)]) (sq (sq (r2 [gm s0,gc l0,gf 1 l1,gd l2,gm s0,gc l4,gf 0 l5,gd l6,gl l7,gM l3 l8] 6 9) (.cond s6 (sq (rg [gm (.c (.ar)),gm dx] [(4,0),(5,1)]) .ret) .skip)) (sq (r1 [gn (.mv (.c (.int .i64 (-1))))] 8 0) (sq (sq (r1 [gm s3] 7 0) (.cond s7 (r1 [gm s2,gm l0] 8 1) .skip)) (sq (r2 [gm s0,gc l0,gf 0 l1,gd l2,gm s0,gc l4,gf 1 l5,gd l6,ga 1 l3 l7,gd l8,gm s8,gx 245 [l9,(cs [32]),l10] LD,gm jK] 9 12) (sq (sq (r1 [gm s9,ga 1 l0 bD,gd l1,gm s1,ct l2 l3,gm l4,eV 5 s9,cx 5 (.len l6),cx 5 (ov l7 b8),fI l5 l8,gm l9,eV 10 s2,cx 10 (dh jK bD),eV 10 ll,gmt 13 s9,cH 13 (.len nX),gmt 13 s2,cH 13 (eR pk rE),CH 10 nn wL,fI l10 xF,gm zp,eV 20 s9,cx 20 (.call 246 [CI,cse] [[.sl 1 [.a]],[.a]]),fI BM Fh] 10 23) (.cond lr (sq (rg [gm (.c (.ar)),gm dx] [(4,0),(5,1)]) .ret) .skip)) (sq (rg [gm s0,gc l0,gf 1 l1,gd l2,av l3 b8,gc l0,gf 1 l5,gt 1 l6 l4] []) (sq (rg [gm s9,gm l0,gm tK] [(4,1),(5,2)]) .ret))))))))⟩
def Md {Γ:Ctx}(hm:(Γ.at 1).bp)(h245:Kb (Γ.at 1))(h246:Kc (Γ.at 1))(r:Ld)(w:ah)(n:Nat)(op:Bool)(hp0:r.sm)(hp1:n≤1000)(hp2:op=true→1≤n):bz (Γ.at 1) fm.body (Ba fm 2 (.tup [tT (bq w n op r.rest),.bool (bq w n op r.rest).isSome]) (Ld.D (r.after (bq w n op r.rest))):Ex→List aW→St→Prop) (et fm (.ptr 0 2 0 0::[.str w,.int .i64 (n:Nat),.bool op])) ⟨1,[(0,.buf 2 [(Ld.D r)])]⟩:=by
 show bz _ _ _ [⟨true,.ptr 0 2 0 0⟩,⟨true,.str w⟩,⟨true,.int .i64 (n:Nat)⟩,⟨true,.bool op⟩,.un,.un,.un,.un,.un,.un,.un] ⟨1,[(0,.buf 2 [(Ld.D r)])]⟩;refine ak ?_;refine lv ?_;refine nr ?_;refine ay ?_;refine cI (fun hc0=>?_) fun hc0=>?_
 ·refine ay ?_;have hv:bq w n op r.rest=none:=by rw[Ld.EO (by omega)];rfl
  rw[hv];refine aA ?_;refine dW trivial im (Eq.trans ae (aR ?_ (congrArg D.bool ?_))) ae ae ae;all_goals (first|done|rfl)
 refine aT ?_;have hll:=hp0.1;have hlt:r.at'<r.ls.length:=by omega
 have hwl:=Cz n op r.ls[r.at']! hp2;have hw1:op=true→fY n r.ls[r.at']! =cM n op r.ls[r.at']! :=fun h=>by rw[←vo,if_pos h]
 have hw2:op=false→fY (-1) r.ls[r.at']! =cM n op r.ls[r.at']! :=fun h=>by rw[←vo,if_neg (by rw[h];simp)]
 refine ay ?_;refine cI (fun hc1=>?_) fun hc1=>?_
 ·refine vy ?_;refine ca (v:=.str r.ls[r.at']!) (hi:=fun _=>by omega) ?_;refine ax ?_;first|(refine aj (hc:=h245 r.ls[r.at']! (n:Int) (hp0.2 _ (bG (by omega))) (.inr ⟨by have:=hp2 hc1;omega,by omega⟩)) ?_;rw[hw1 hc1])|(refine aj (hc:=h245 r.ls[r.at']! (-1) (hp0.2 _ (bG (by omega))) (.inl rfl)) ?_;rw[hw2 hc1])
  refine aQ ?_;refine cE 0 ?_;refine aQ ?_;refine nr ?_;refine aA ?_;first|refine zJ ?_|refine zK ?_
  refine ay ?_;refine nr ?_;refine aT ?_;refine aj (hc:=h246 _ _) ?_;refine ay ?_;refine cI (fun hc2=>?_) fun hc2=>?_
  ·refine ay ?_;have hv:bq w n op r.rest=none:=by rw[Ld.m5 hlt,bq,xS hc2 hwl]
   rw[hv];refine aA ?_;refine dW trivial im (Eq.trans ae (aR ?_ (congrArg D.bool ?_))) ae ae ae;all_goals (first|done|rfl)
  refine dp ?_;refine aF (Ld.D ⟨r.ls,r.at'+1⟩) (he:=by exact rfl) ?_;refine ay ?_;have hv:bq w n op r.rest=some (cM n op r.ls[r.at']!,r.ls.drop (r.at'+1)):=by rw[Ld.m5 hlt,bq,uK hc2]
  rw[hv];refine aQ ?_;refine dW trivial im (Eq.trans ae (aR ?_ (congrArg D.bool ?_))) ae ae ae;all_goals (first|done|rfl)
 refine fG ?_;refine ca (v:=.str r.ls[r.at']!) (hi:=fun _=>by omega) ?_;refine ax ?_;first|(refine aj (hc:=h245 r.ls[r.at']! (n:Int) (hp0.2 _ (bG (by omega))) (.inr ⟨by have:=hp2 hc1;omega,by omega⟩)) ?_;rw[hw1 hc1])|(refine aj (hc:=h245 r.ls[r.at']! (-1) (hp0.2 _ (bG (by omega))) (.inl rfl)) ?_;rw[hw2 hc1])
 refine aQ ?_;refine cE 0 ?_;refine aQ ?_;refine nr ?_;refine aA ?_;first|refine zJ ?_|refine zK ?_
 refine ay ?_;refine nr ?_;refine aT ?_;refine aj (hc:=h246 _ _) ?_;refine ay ?_;refine cI (fun hc2=>?_) fun hc2=>?_
 ·refine ay ?_;have hv:bq w n op r.rest=none:=by rw[Ld.m5 hlt,bq,xS hc2 hwl]
  rw[hv];refine aA ?_;refine dW trivial im (Eq.trans ae (aR ?_ (congrArg D.bool ?_))) ae ae ae;all_goals (first|done|rfl)
 refine dp ?_;refine aF (Ld.D ⟨r.ls,r.at'+1⟩) (he:=by exact rfl) ?_;refine ay ?_;have hv:bq w n op r.rest=some (cM n op r.ls[r.at']!,r.ls.drop (r.at'+1)):=by rw[Ld.m5 hlt,bq,uK hc2]
 rw[hv];refine aQ ?_;refine dW trivial im (Eq.trans ae (aR ?_ (congrArg D.bool ?_))) ae ae ae;all_goals (first|done|rfl)
def Fp (Γ:Ctx):Prop:=∀(r:Ld)(w:ah)(n:Nat)(op:Bool),(r.sm)→(n≤1000)→(op=true→1≤n)→Γ.fp 465 (Ld.D r) [.str w,.int .i64 (n:Nat),.bool op]∧Γ.fv 465 (Ld.D r) [.str w,.int .i64 (n:Nat),.bool op]=.tup [tT (bq w n op r.rest),.bool (bq w n op r.rest).isSome]∧Γ.fs 465 (Ld.D r) [.str w,.int .i64 (n:Nat),.bool op]=Ld.D (r.after (bq w n op r.rest))
end Go.Abs
end
section
namespace Go.Abs
open Go
def mw:aB:=⟨2,2,[],[],(sq (rg [gm s0,gm s1,gx 242 [l1,(cs [32])] [[.sl 1 [.a]],[.a]],gn (.callM 489 [l0,l2])] []) (rg [gm s0,gn (.callM 664 [l0,(i8 10)])] []))⟩
def w450 {Γ:Ctx}(hm:(Γ.at 3).bp)(ws:List ah)(t:ah)(m0:List (Nat×aU))(h242:Fo (Γ.at 3))(h489:H5 (Γ.at 3))(h664:H9 (Γ.at 3))(hp0:nt m0 0 t)(hp1:look m0 1=some (.buf 1 (ws.map D.str)))(hp2:vB ws t):bz (Γ.at 3) mw.body (nD mw (fun d m=>d=.tup []∧look m 0=some (.bld (some 9) (t++bt ws).length true)∧look m 9=some (.row (t++bt ws))):Ex→List aW→St→Prop) (et mw [.ptr 0 2 0 0,.own 1 1 0 ws.length]) ⟨3,m0⟩:=by
 show bz _ _ _ [⟨true,.ptr 0 2 0 0⟩,⟨true,.own 1 1 0 ws.length⟩] ⟨3,m0⟩;obtain⟨⟨q1,q2⟩,q3,q4⟩:=hp2;have hlt:t++bt ws=t++aO [32] ws++[10]:=by unfold bt;simp
 refine ak ?_;refine ay ?_;refine aj (hc:=h242 ws [32] q2 (by decide) q3) (ha:=fun _=>congrArg (fun d=>[d,D.str [32]]) (rU (q:=D.str) (fun _=>rfl) hp1)) (hp:=fun _=>⟨pe (q:=D.str) (fun _=>rfl) hp1,rfl,trivial⟩) ?_;refine cd (nx':=4) (v:=.any) (m':=lN m0 0 6 (t++aO [32] ws)) (hc:=fun K' hK=>h489 _ _ K' ⟨_,0,t,rfl,hp0,Nat.lt_of_lt_of_le (by decide:0<3) (Nat.le_add_right _ _),q1,by omega,hK⟩) (hn:=by decide) ?_;refine az ?_;refine cd (nx':=9) (v:=.any) (m':=lN (lN m0 0 6 (t++aO [32] ws)) 0 9 (t++aO [32] ws++[10])) (hc:=fun K' hK=>h664 _ _ K' ⟨10,0,t++aO [32] ws,rfl,FI (by decide),Nat.lt_of_lt_of_le (by decide:0<8) (Nat.le_add_right _ _),by simp,by rw[List.length_append];exact q4,hK⟩) (hn:=by decide) ?_;refine ax ?_

 refine dX trivial im (Eq.trans ae (?_)) ae ⟨rfl,by rw[hlt];exact(pU (by decide)).1,by rw[hlt];exact(pU (by decide)).2⟩;rfl
end Go.Abs
end
section
namespace Go.Abs
open Go
def yd:aB:=⟨1,31,j5,cr,(sq (rg [gb 9 s0,gm cse] [(2,0),(1,1)]) (sq (r1 [⟨.mkB,none⟩] 3 0) (sq (rt [gf 0 s2,gd l0,gf 1 s2,gk 5 true l2,gx 451 [l3] IJ,gn (.bsl 1 (.str []) 3 [(0,(cs [112,97,99,107,97,103,101])),(1,l1),(2,l4)]),gn (.callM 450 [s3,l5])] []) (sq (sq (rg [gf 6 s2,gd l0,gl l1,gm bD] [(7,1),(5,2),(4,3)]) (.block 0 (.loop (sq (r1 [aV s4 s5] 6 0) (sq (iS s6 0) (sq (.block 1 (sq (r1 [ga 3 s7 s4,gk 3 true l0,gb 3 (.c (.agg [.ar,.str [],.str []])),gt 3 l2 l1] 8 2) (sq (rg [gn (.bsl 1 (.str []) 1 [(0,(cs [110,101,101,100]))]),gn (.callM 450 [s3,l0])] []) (sq (sq (rg [gf 0 s8,gd l0,gl l1,gm bD] [(12,1),(10,2),(9,3)]) (.block 2 (.loop (sq (r1 [aV s9 lr] 11 0) (sq (iS oo 2) (sq (.block 3 (sq (r1 [ga 4 m6 s9,gk 4 true l0,gb 4 (.c (.agg [.str [],.str [],.ar,.bool false])),gt 4 l2 l1] 13 2) (sq (rg [gm (cs [45]),gm (cs [102,117,108,108])] [(16,0),(17,1)]) (sq (sq (r1 [gf 2 tk,gd l0,gl l1,dz l2 bD] 14 3) (.cond rN (r1 [gf 2 tk,gd l0,gx 242 [l1,(cs [44])] [[.sl 1 [.a]],[.a]],gm l2] 16 3) .skip)) (sq (sq (r1 [gf 3 tk,gd l0] 15 1) (.cond uT (r1 [gm (cs [98,97,114,101])] 17 0) .skip)) (rg [gf 0 tk,gd l0,gm AW,gm wM,gf 1 tk,gd l4,gn (.bsl 1 (.str []) 5 [(0,(cs [97,110,121])),(1,l1),(2,l2),(3,l3),(4,l5)]),gn (.callM 450 [s3,l6])] [])))))) (r1 [av s9 b8,gm l0] 9 1))))))) (sq (sq (r1 [gf 1 s8,gd l0,ct l1 cse] 18 2) (.cond Cm (rg [gf 1 s8,gd l0,gn (.bsl 1 (.str []) 2 [(0,(cs [119,104,101,110])),(1,l1)]),gn (.callM 450 [s3,l2])] []) .skip)) (sq (r1 [gf 2 s8,gd l0,ct l1 cse] 19 2) (.cond JB (rg [gf 2 s8,gd l0,gn (.bsl 1 (.str []) 2 [(0,(cs [111,112,116,105,111,110])),(1,l1)]),gn (.callM 450 [s3,l2])] []) .skip))))))) (r1 [av s4 b8,gm l0] 4 1))))))) (sq (sq (rg [gf 7 s2,gd l0,gl l1,gm bD] [(23,1),(21,2),(20,3)]) (.block 4 (.loop (sq (r1 [aV Fi s21] 22 0) (sq (iS s22 4) (sq (.block 5 (sq (r1 [ga 3 s23 Fi,gk 3 true l0,gb 3 (.c (.agg [.str [],.str [],.str []])),gt 3 l2 l1] 24 2) (sq (rg [gf 0 JW,gd l0,gf 1 JW,gd l2,gn (.bsl 1 (.str []) 3 [(0,(cs [98,97,114])),(1,l1),(2,l3)]),gn (.callM 450 [s3,l4])] []) (sq (r1 [gf 2 JW,gd l0,ct l1 cse] 25 2) (.cond JX (rg [gf 2 JW,gd l0,gn (.bsl 1 (.str []) 2 [(0,(cs [119,104,101,110])),(1,l1)]),gn (.callM 450 [s3,l2])] []) .skip))))) (r1 [av Fi b8,gm l0] 20 1))))))) (sq (sq (rg [gf 8 s2,gd l0,gl l1,gm bD] [(29,1),(27,2),(26,3)]) (.block 6 (.loop (sq (r1 [aV L5 s27] 28 0) (sq (iS s28 6) (sq (.block 7 (sq (r1 [ga 2 s29 L5,gk 2 true l0,gb 2 (.c (.agg [.str [],.ar])),gt 2 l2 l1] 30 2) (rg [gf 0 HI,gd l0,gn (.bsl 1 (.str []) 2 [(0,(cs [102,101,97,116,117,114,101])),(1,l1)]),gf 1 HI,gd l3,gn (.app 1 l2 l4),gn (.callM 450 [s3,l5])] []))) (r1 [av L5 b8,gm l0] 26 1))))))) (sq (r1 [gn (.callM 452 [s3]),gm l0] 1 1) .ret)))))))⟩
def w215 {Γ:Ctx}(hm:(Γ.at 0).bp)(h242:Fo Γ)(h450:HZ Γ)(h451:H0 Γ)(h452:H2 Γ)(r:Rec)  (hp0:su r∧jO r):ef Γ yd (.str (iP r)) [Rec.D r]:=by
 show bz _ _ _ [⟨_,_⟩,_,_,_,_,_,_,_,_,_,_,_,_,_,_,_,_,_,_,_,_,_,_,_,_,_,_,_,_,_,_] _;have hft:=BE hp0;have q0:=hft.nm;have q00:=yx r.v hft.v;have hs:=hp0.2;refine ak ?_;refine jB ?_;refine ch (v:=dw.D r.v) ?_;refine aj (hc:=h451 r.v hft.v) ?_;refine cg [(.str _),(.str _),(.str _)] ?_;refine cd (nx':=4) (v:=.tup []) (m':=[(9,.row (lh r)),(0,.buf 9 [Rec.D r]),(2,.bld (some 9) (lh r).length true)]) (hc:=fun K' hK=>h450 [du,r.name,mG r.v] ([]) 2 8 _ _ K' (.inl ⟨false,by exact rfl,rfl⟩) ae (by simp only[List.length_cons,List.length_nil];omega) (by simp only[List.length_cons,List.length_nil];omega) (.mk (by decide) (by simp only[List.length_cons,List.length_nil,List.cons_append,List.nil_append];omega) (List.forall_mem_cons.2 ⟨by decide,List.forall_mem_cons.2 ⟨by omega,List.forall_mem_cons.2 ⟨by omega,fun _ h=>nomatch h⟩⟩⟩) (by first|omega|(simp only[List.length_append,List.length_nil];omega))) (by rw[show([])++bt [du,r.name,mG r.v]=lh r from rfl];exact hK)) (hn:=by decide) ?_;refine aT ?_;intro u0;refine ay ?_;refine br hm (ι:=Nat) (fun i=>[.un,.un,⟨true,.ptr 0 9 0 0⟩,⟨true,.ptr 2 2 0 0⟩,⟨true,.int .i64 (i:Nat)⟩,⟨true,.int .i64 (r.needs.length:Nat)⟩,.un,⟨true,.sl 3 (r.needs.map bc.D)⟩,.un,.un,.un,.un,.un,.un,.un,.un,.un,.un,.un,.un,.un,.un,.un,.un,.un,.un,.un,.un,.un,.un,.un]) (fun i=>[(0,.buf 9 [Rec.D r]),(2,.bld (some 3) (hR r i).length true),(3,.row (hR r i))]) 10 (fun i=>i≤r.needs.length) (fun i=>r.needs.length-i) 0 (by omega) (aL.to [(0,0),(2,2),(9,3)] ae ae dN (by refine aC.cZ ae ae ae ?_;refine aC.bl 2 ae ae ae (congrArg List.length (by rw[HJ])) rfl ?_;refine aC.rw 9 ae ae (by rw[HJ]) ?_;exact aC.nil)) ?_;intro i hi;have q1:=A0 hft i hi;refine az ?_;refine cI (fun hc0=>?_) fun hc0=>?_
 ·refine az ?_;have hnf:=hft.n _ (bG (show i<r.needs.length by omega));have hn3:=hnf.1.1;refine ax ?_;refine ca (v:=bc.D r.needs[i]!) (hi:=fun _=>by omega) ?_;refine ax ?_;refine aF (bc.D r.needs[i]!) (he:=by exact rfl) ?_;refine ay ?_;refine cg [(.str _)] ?_;refine cd (nx':=16) (v:=.tup []) (m':=[(16,.row (hR r i++cn r.needs[i]! 0)),(0,.buf 9 [Rec.D r]),(2,.bld (some 16) (hR r i++cn r.needs[i]! 0).length true),(13,.buf 3 [bc.D r.needs[i]!])]) (hc:=fun K' hK=>h450 [gD] (hR r i) 2 15 _ _ K' (.inr ⟨3,true,by exact rfl,by exact rfl⟩) ae (by simp only[List.length_cons,List.length_nil];omega) (by simp only[List.length_cons,List.length_nil];omega) (.mk (by decide) (by simp only[List.length_cons,List.length_nil,List.cons_append,List.nil_append];omega) (List.forall_mem_cons.2 ⟨by decide,fun _ h=>nomatch h⟩) (by first|omega|(simp only[List.length_append,List.length_nil];omega))) (by rw[show(hR r i)++bt [gD]=hR r i++cn r.needs[i]! 0 from rfl];exact hK)) (hn:=by decide) ?_;refine aT ?_;intro u1;refine ay ?_;refine br hm (ι:=Nat) (fun j=>[.un,.un,⟨true,.ptr 0 9 0 0⟩,⟨true,.ptr 2 2 0 0⟩,⟨true,.int .i64 (i:Nat)⟩,⟨true,.int .i64 (r.needs.length:Nat)⟩,.un,⟨true,.sl 3 (r.needs.map bc.D)⟩,⟨true,.ptr 4 3 0 0⟩,⟨true,.int .i64 (j:Nat)⟩,⟨true,.int .i64 (r.needs[i]!.any.length:Nat)⟩,.un,⟨true,.sl 4 (r.needs[i]!.any.map bw.D)⟩,.un,.un,.un,.un,.un,.un,.un,.un,.un,.un,.un,.un,.un,.un,.un,.un,.un,.un]) (fun j=>[(0,.buf 9 [Rec.D r]),(4,.buf 3 [bc.D r.needs[i]!]),(2,.bld (some 3) (hR r i++cn r.needs[i]! j).length true),(3,.row (hR r i++cn r.needs[i]! j))]) 20 (fun j=>j≤r.needs[i]!.any.length) (fun j=>r.needs[i]!.any.length-j) 0 (by omega) (aL.to [(0,0),(13,4),(2,2),(16,3)] ae ae dN (by refine aC.cZ ae ae ae ?_;refine aC.nl 13 ae ae rfl ae ?_;refine aC.bl 2 ae ae ae (congrArg List.length (rfl)) rfl ?_;refine aC.rw 16 ae ae (rfl) ?_;exact aC.nil)) ?_;intro j hj;have q2:=B4 hnf j (by omega);refine az ?_;refine cI (fun hc1=>?_) fun hc1=>?_
  ·refine az ?_;have hwf:=hnf.1.2 _ (bG (show j<r.needs[i]!.any.length by omega));have q3:=wE hwf;have q4:=hwf.1.1.1;have q5:=hwf.1.1.2;refine ax ?_;refine ca (v:=bw.D r.needs[i]!.any[j]!) (hi:=fun _=>by omega) ?_;refine ax ?_;refine aF (bw.D r.needs[i]!.any[j]!) (he:=by exact rfl) ?_;refine jB ?_;intro u2;refine ay ?_;refine cI (fun hc2=>?_) fun hc2=>?_
   ·refine az ?_;refine aj (hc:=h242 r.needs[i]!.any[j]!.feats [44] (by have:=hwf.2.1;omega) (by decide) (fun t ht=>by have:=hwf.2.2 t ht;omega)) ?_;refine ba ?_;refine cI (fun hc3=>?_) fun hc3=>?_
    ·refine aA ?_;have hwl:bt [jE,r.needs[i]!.any[j]!.name,(aO [44] r.needs[i]!.any[j]!.feats),iv,r.needs[i]!.any[j]!.range]=iQ r.needs[i]!.any[j]! :=by
      unfold iQ lu;first|rw[if_pos (show r.needs[i]!.any[j]!.feats.length=0 by omega)]|rw[if_neg (show ¬r.needs[i]!.any[j]!.feats.length=0 by omega)]
      rw[hc3];rfl
     have hwj:=kU (n:=r.needs[i]!) (j:=j) (by omega);refine aT ?_;refine cg [(.str _),(.str _),(.str _),(.str _),(.str _)] ?_;refine cd (nx':=39) (v:=.tup []) (m':=[(45,.row (hR r i++cn r.needs[i]! (j+1))),(0,.buf 9 [Rec.D r]),(4,.buf 3 [bc.D r.needs[i]!]),(2,.bld (some 45) (hR r i++cn r.needs[i]! (j+1)).length true),(23,.buf 4 [bw.D r.needs[i]!.any[j]!])]) (hc:=fun K' hK=>h450 [jE,r.needs[i]!.any[j]!.name,(aO [44] r.needs[i]!.any[j]!.feats),iv,r.needs[i]!.any[j]!.range] (hR r i++cn r.needs[i]! j) 2 44 _ _ K' (.inr ⟨3,true,by exact rfl,by exact rfl⟩) ae (by simp only[List.length_cons,List.length_nil];omega) (by simp only[List.length_cons,List.length_nil];omega) (.mk (by decide) (by simp only[List.length_cons,List.length_nil,List.cons_append,List.nil_append];omega) (List.forall_mem_cons.2 ⟨by decide,List.forall_mem_cons.2 ⟨by omega,List.forall_mem_cons.2 ⟨by first|omega|decide,List.forall_mem_cons.2 ⟨by decide,List.forall_mem_cons.2 ⟨by omega,fun _ h=>nomatch h⟩⟩⟩⟩⟩) (by first|omega|(simp only[List.length_append,List.length_nil];omega))) (by rw[show(hR r i++cn r.needs[i]! j)++bt [jE,r.needs[i]!.any[j]!.name,(aO [44] r.needs[i]!.any[j]!.feats),iv,r.needs[i]!.any[j]!.range]=hR r i++cn r.needs[i]! (j+1)from by rw[hwl,hwj,List.append_assoc]];exact hK)) (hn:=by decide) ?_;refine ba ?_;exact⟨j+1,(by omega),by omega,(aL.to [(0,0),(4,4),(2,2),(45,3)] ae ae dN (by refine aC.cZ ae ae ae ?_;refine aC.nl 4 ae ae rfl ae ?_;refine aC.bl 2 ae ae ae (congrArg List.length (rfl)) rfl ?_;refine aC.rw 45 ae ae (rfl) ?_;exact aC.nil))⟩
    refine ay ?_;have hwl:bt [jE,r.needs[i]!.any[j]!.name,(aO [44] r.needs[i]!.any[j]!.feats),mH,r.needs[i]!.any[j]!.range]=iQ r.needs[i]!.any[j]! :=by
     unfold iQ lu;first|rw[if_pos (show r.needs[i]!.any[j]!.feats.length=0 by omega)]|rw[if_neg (show ¬r.needs[i]!.any[j]!.feats.length=0 by omega)]
     rw[hc3];rfl
    have hwj:=kU (n:=r.needs[i]!) (j:=j) (by omega);refine aT ?_;refine cg [(.str _),(.str _),(.str _),(.str _),(.str _)] ?_;refine cd (nx':=38) (v:=.tup []) (m':=[(44,.row (hR r i++cn r.needs[i]! (j+1))),(0,.buf 9 [Rec.D r]),(4,.buf 3 [bc.D r.needs[i]!]),(2,.bld (some 44) (hR r i++cn r.needs[i]! (j+1)).length true),(23,.buf 4 [bw.D r.needs[i]!.any[j]!])]) (hc:=fun K' hK=>h450 [jE,r.needs[i]!.any[j]!.name,(aO [44] r.needs[i]!.any[j]!.feats),mH,r.needs[i]!.any[j]!.range] (hR r i++cn r.needs[i]! j) 2 43 _ _ K' (.inr ⟨3,true,by exact rfl,by exact rfl⟩) ae (by simp only[List.length_cons,List.length_nil];omega) (by simp only[List.length_cons,List.length_nil];omega) (.mk (by decide) (by simp only[List.length_cons,List.length_nil,List.cons_append,List.nil_append];omega) (List.forall_mem_cons.2 ⟨by decide,List.forall_mem_cons.2 ⟨by omega,List.forall_mem_cons.2 ⟨by first|omega|decide,List.forall_mem_cons.2 ⟨by decide,List.forall_mem_cons.2 ⟨by omega,fun _ h=>nomatch h⟩⟩⟩⟩⟩) (by first|omega|(simp only[List.length_append,List.length_nil];omega))) (by rw[show(hR r i++cn r.needs[i]! j)++bt [jE,r.needs[i]!.any[j]!.name,(aO [44] r.needs[i]!.any[j]!.feats),mH,r.needs[i]!.any[j]!.range]=hR r i++cn r.needs[i]! (j+1)from by rw[hwl,hwj,List.append_assoc]];exact hK)) (hn:=by decide) ?_;refine ba ?_;exact⟨j+1,(by omega),by omega,(aL.to [(0,0),(4,4),(2,2),(44,3)] ae ae dN (by refine aC.cZ ae ae ae ?_;refine aC.nl 4 ae ae rfl ae ?_;refine aC.bl 2 ae ae ae (congrArg List.length (rfl)) rfl ?_;refine aC.rw 44 ae ae (rfl) ?_;exact aC.nil))⟩
   refine aT ?_;refine cI (fun hc3=>?_) fun hc3=>?_
   ·refine aA ?_;have hwl:bt [jE,r.needs[i]!.any[j]!.name,[45],iv,r.needs[i]!.any[j]!.range]=iQ r.needs[i]!.any[j]! :=by
     unfold iQ lu;first|rw[if_pos (show r.needs[i]!.any[j]!.feats.length=0 by omega)]|rw[if_neg (show ¬r.needs[i]!.any[j]!.feats.length=0 by omega)]
     rw[hc3];rfl
    have hwj:=kU (n:=r.needs[i]!) (j:=j) (by omega);refine aT ?_;refine cg [(.str _),(.str _),(.str _),(.str _),(.str _)] ?_;refine cd (nx':=35) (v:=.tup []) (m':=[(41,.row (hR r i++cn r.needs[i]! (j+1))),(0,.buf 9 [Rec.D r]),(4,.buf 3 [bc.D r.needs[i]!]),(2,.bld (some 41) (hR r i++cn r.needs[i]! (j+1)).length true),(23,.buf 4 [bw.D r.needs[i]!.any[j]!])]) (hc:=fun K' hK=>h450 [jE,r.needs[i]!.any[j]!.name,[45],iv,r.needs[i]!.any[j]!.range] (hR r i++cn r.needs[i]! j) 2 40 _ _ K' (.inr ⟨3,true,by exact rfl,by exact rfl⟩) ae (by simp only[List.length_cons,List.length_nil];omega) (by simp only[List.length_cons,List.length_nil];omega) (.mk (by decide) (by simp only[List.length_cons,List.length_nil,List.cons_append,List.nil_append];omega) (List.forall_mem_cons.2 ⟨by decide,List.forall_mem_cons.2 ⟨by omega,List.forall_mem_cons.2 ⟨by first|omega|decide,List.forall_mem_cons.2 ⟨by decide,List.forall_mem_cons.2 ⟨by omega,fun _ h=>nomatch h⟩⟩⟩⟩⟩) (by first|omega|(simp only[List.length_append,List.length_nil];omega))) (by rw[show(hR r i++cn r.needs[i]! j)++bt [jE,r.needs[i]!.any[j]!.name,[45],iv,r.needs[i]!.any[j]!.range]=hR r i++cn r.needs[i]! (j+1)from by rw[hwl,hwj,List.append_assoc]];exact hK)) (hn:=by decide) ?_;refine ba ?_;exact⟨j+1,(by omega),by omega,(aL.to [(0,0),(4,4),(2,2),(41,3)] ae ae dN (by refine aC.cZ ae ae ae ?_;refine aC.nl 4 ae ae rfl ae ?_;refine aC.bl 2 ae ae ae (congrArg List.length (rfl)) rfl ?_;refine aC.rw 41 ae ae (rfl) ?_;exact aC.nil))⟩
   refine ay ?_;have hwl:bt [jE,r.needs[i]!.any[j]!.name,[45],mH,r.needs[i]!.any[j]!.range]=iQ r.needs[i]!.any[j]! :=by
    unfold iQ lu;first|rw[if_pos (show r.needs[i]!.any[j]!.feats.length=0 by omega)]|rw[if_neg (show ¬r.needs[i]!.any[j]!.feats.length=0 by omega)]
    rw[hc3];rfl
   have hwj:=kU (n:=r.needs[i]!) (j:=j) (by omega);refine aT ?_;refine cg [(.str _),(.str _),(.str _),(.str _),(.str _)] ?_;refine cd (nx':=34) (v:=.tup []) (m':=[(40,.row (hR r i++cn r.needs[i]! (j+1))),(0,.buf 9 [Rec.D r]),(4,.buf 3 [bc.D r.needs[i]!]),(2,.bld (some 40) (hR r i++cn r.needs[i]! (j+1)).length true),(23,.buf 4 [bw.D r.needs[i]!.any[j]!])]) (hc:=fun K' hK=>h450 [jE,r.needs[i]!.any[j]!.name,[45],mH,r.needs[i]!.any[j]!.range] (hR r i++cn r.needs[i]! j) 2 39 _ _ K' (.inr ⟨3,true,by exact rfl,by exact rfl⟩) ae (by simp only[List.length_cons,List.length_nil];omega) (by simp only[List.length_cons,List.length_nil];omega) (.mk (by decide) (by simp only[List.length_cons,List.length_nil,List.cons_append,List.nil_append];omega) (List.forall_mem_cons.2 ⟨by decide,List.forall_mem_cons.2 ⟨by omega,List.forall_mem_cons.2 ⟨by first|omega|decide,List.forall_mem_cons.2 ⟨by decide,List.forall_mem_cons.2 ⟨by omega,fun _ h=>nomatch h⟩⟩⟩⟩⟩) (by first|omega|(simp only[List.length_append,List.length_nil];omega))) (by rw[show(hR r i++cn r.needs[i]! j)++bt [jE,r.needs[i]!.any[j]!.name,[45],mH,r.needs[i]!.any[j]!.range]=hR r i++cn r.needs[i]! (j+1)from by rw[hwl,hwj,List.append_assoc]];exact hK)) (hn:=by decide) ?_;refine ba ?_;exact⟨j+1,(by omega),by omega,(aL.to [(0,0),(4,4),(2,2),(40,3)] ae ae dN (by refine aC.cZ ae ae ae ?_;refine aC.nl 4 ae ae rfl ae ?_;refine aC.bl 2 ae ae ae (congrArg List.length (rfl)) rfl ?_;refine aC.rw 40 ae ae (rfl) ?_;exact aC.nil))⟩
  refine aA ?_;have hnA:=B3 (n:=r.needs[i]!) (j:=j) (by omega);have w4:=m9 hnf.2.1;have w5:=hnf.2.2;have w6:=hnf.2.1;refine aA ?_;refine cI (fun hc4=>?_) fun hc4=>?_
  ·refine ax ?_;have hwt:gE r.needs[i]!.when'=bt [jR,r.needs[i]!.when']:=if_neg hc4;refine ay ?_;refine cg [(.str _),(.str _)] ?_;refine cd (nx':=25) (v:=.tup []) (m':=[(27,.row (hR r i++(cn r.needs[i]! j++gE r.needs[i]!.when'))),(0,.buf 9 [Rec.D r]),(4,.buf 3 [bc.D r.needs[i]!]),(2,.bld (some 27) (hR r i++(cn r.needs[i]! j++gE r.needs[i]!.when')).length true)]) (hc:=fun K' hK=>h450 [jR,r.needs[i]!.when'] (hR r i++cn r.needs[i]! j) 2 26 _ _ K' (.inr ⟨3,true,by exact rfl,by exact rfl⟩) ae (by simp only[List.length_cons,List.length_nil];omega) (by simp only[List.length_cons,List.length_nil];omega) (.mk (by decide) (by simp only[List.length_cons,List.length_nil,List.cons_append,List.nil_append];omega) (List.forall_mem_cons.2 ⟨by decide,List.forall_mem_cons.2 ⟨by omega,fun _ h=>nomatch h⟩⟩) (by first|omega|(simp only[List.length_append,List.length_nil];omega))) (by rw[show(hR r i++cn r.needs[i]! j)++bt [jR,r.needs[i]!.when']=hR r i++(cn r.needs[i]! j++gE r.needs[i]!.when')from by rw[hwt,List.append_assoc]];exact hK)) (hn:=by decide) ?_;refine aT ?_;refine fN (fun hc5=>?_) fun hc5=>?_
   ·refine ax ?_;have hot:tV r.needs[i]!.option=bt [dI,r.needs[i]!.option]:=if_neg hc5;refine ay ?_;refine cg [(.str _),(.str _)] ?_;refine cd (nx':=33) (v:=.tup []) (m':=[(35,.row (hR r (i+1))),(0,.buf 9 [Rec.D r]),(4,.buf 3 [bc.D r.needs[i]!]),(2,.bld (some 35) (hR r (i+1)).length true)]) (hc:=fun K' hK=>h450 [dI,r.needs[i]!.option] (hR r i++(cn r.needs[i]! j++gE r.needs[i]!.when')) 2 34 _ _ K' (.inr ⟨27,true,by exact rfl,by exact rfl⟩) ae (by simp only[List.length_cons,List.length_nil];omega) (by simp only[List.length_cons,List.length_nil];omega) (.mk (by decide) (by simp only[List.length_cons,List.length_nil,List.cons_append,List.nil_append];omega) (List.forall_mem_cons.2 ⟨by decide,List.forall_mem_cons.2 ⟨by omega,fun _ h=>nomatch h⟩⟩) (by first|omega|(simp only[List.length_append,List.length_nil];omega))) (by rw[show(hR r i++(cn r.needs[i]! j++gE r.needs[i]!.when'))++bt [dI,r.needs[i]!.option]=hR r (i+1)from by rw[kG (by omega),hnA,hot];simp only[List.append_assoc,List.append_nil]];exact hK)) (hn:=by decide) ?_;refine ba ?_;exact⟨i+1,(by omega),by omega,(aL.to [(0,0),(2,2),(35,3)] ae ae dN (by refine aC.cZ ae ae ae ?_;refine aC.bl 2 ae ae ae (congrArg List.length (rfl)) rfl ?_;refine aC.rw 35 ae ae (rfl) ?_;exact aC.nil))⟩
   refine az ?_;have hno:tV r.needs[i]!.option=[]:=if_pos (by simpa using hc5);refine aA ?_;exact⟨i+1,(by omega),by omega,(aL.to [(0,0),(2,2),(27,3)] ae ae dN (by refine aC.cZ ae ae ae ?_;refine aC.bl 2 ae ae ae (congrArg List.length (by rw[kG (by omega),hnA,hno];simp only[List.append_assoc,List.append_nil])) rfl ?_;refine aC.rw 27 ae ae (by rw[kG (by omega),hnA,hno];simp only[List.append_assoc,List.append_nil]) ?_;exact aC.nil))⟩
  refine ay ?_;have hnw:gE r.needs[i]!.when'=[]:=if_pos (by simpa using hc4);refine aA ?_;refine fN (fun hc5=>?_) fun hc5=>?_
  ·refine ax ?_;have hot:tV r.needs[i]!.option=bt [dI,r.needs[i]!.option]:=if_neg hc5;refine ay ?_;refine cg [(.str _),(.str _)] ?_;refine cd (nx':=28) (v:=.tup []) (m':=[(30,.row (hR r (i+1))),(0,.buf 9 [Rec.D r]),(4,.buf 3 [bc.D r.needs[i]!]),(2,.bld (some 30) (hR r (i+1)).length true)]) (hc:=fun K' hK=>h450 [dI,r.needs[i]!.option] (hR r i++cn r.needs[i]! j) 2 29 _ _ K' (.inr ⟨3,true,by exact rfl,by exact rfl⟩) ae (by simp only[List.length_cons,List.length_nil];omega) (by simp only[List.length_cons,List.length_nil];omega) (.mk (by decide) (by simp only[List.length_cons,List.length_nil,List.cons_append,List.nil_append];omega) (List.forall_mem_cons.2 ⟨by decide,List.forall_mem_cons.2 ⟨by omega,fun _ h=>nomatch h⟩⟩) (by first|omega|(simp only[List.length_append,List.length_nil];omega))) (by rw[show(hR r i++cn r.needs[i]! j)++bt [dI,r.needs[i]!.option]=hR r (i+1)from by rw[kG (by omega),hnA,hot,hnw];simp only[List.append_assoc,List.append_nil]];exact hK)) (hn:=by decide) ?_;refine ba ?_;exact⟨i+1,(by omega),by omega,(aL.to [(0,0),(2,2),(30,3)] ae ae dN (by refine aC.cZ ae ae ae ?_;refine aC.bl 2 ae ae ae (congrArg List.length (rfl)) rfl ?_;refine aC.rw 30 ae ae (rfl) ?_;exact aC.nil))⟩
  refine az ?_;have hno:tV r.needs[i]!.option=[]:=if_pos (by simpa using hc5);refine aA ?_;exact⟨i+1,(by omega),by omega,(aL.to [(0,0),(2,2),(3,3)] ae ae dN (by refine aC.cZ ae ae ae ?_;refine aC.bl 2 ae ae ae (congrArg List.length (by rw[kG (by omega),hnA,hno,hnw];simp only[List.append_assoc,List.append_nil])) rfl ?_;refine aC.rw 3 ae ae (by rw[kG (by omega),hnA,hno,hnw];simp only[List.append_assoc,List.append_nil]) ?_;exact aC.nil))⟩
 refine aA ?_;have h33:i=r.needs.length:=by omega
 subst h33;refine az ?_;intro u3;refine ay ?_;refine br hm (ι:=Nat) (fun i=>[.un,.un,⟨true,.ptr 0 9 0 0⟩,⟨true,.ptr 2 2 0 0⟩,.un,.un,.un,.un,.un,.un,.un,.un,.un,.un,.un,.un,.un,.un,.un,.un,⟨true,.int .i64 (i:Nat)⟩,⟨true,.int .i64 (r.bars.length:Nat)⟩,.un,⟨true,.sl 3 (r.bars.map fZ.D)⟩,.un,.un,.un,.un,.un,.un,.un]) (fun i=>[(0,.buf 9 [Rec.D r]),(2,.bld (some 3) (tH r i).length true),(3,.row (tH r i))]) 10 (fun i=>i≤r.bars.length) (fun i=>r.bars.length-i) 0 (by omega) (aL.to [(0,0),(2,2),(3,3)] ae ae dN (by refine aC.cZ ae ae ae ?_;refine aC.bl 2 ae ae ae (congrArg List.length (by rw[HK])) rfl ?_;refine aC.rw 3 ae ae (by rw[HK]) ?_;exact aC.nil)) ?_;intro i hi;have q1:=A1 hft i hi;refine az ?_;refine cI (fun hc6=>?_) fun hc6=>?_
 ·refine az ?_;have q4:=hft.b _ (bG (show i<r.bars.length by omega));have q5:=q4.1;have q6:=q4.2.1;have q7:=q4.2.2;have hbt:ow r.bars[i]! =bt [iX,r.bars[i]!.name,r.bars[i]!.range]++gE r.bars[i]!.when':=rfl;have hxb:=E0 (r:=r) (i:=i) (by omega);have w7:=m9 q7;refine ax ?_;refine ca (v:=fZ.D r.bars[i]!) (hi:=fun _=>by omega) ?_;refine ax ?_;refine aF (fZ.D r.bars[i]!) (he:=by exact rfl) ?_;refine aT ?_;refine cg [(.str _),(.str _),(.str _)] ?_;refine cd (nx':=16) (v:=.tup []) (m':=[(20,.row (tH r i++bt [iX,r.bars[i]!.name,r.bars[i]!.range])),(0,.buf 9 [Rec.D r]),(2,.bld (some 20) (tH r i++bt [iX,r.bars[i]!.name,r.bars[i]!.range]).length true),(13,.buf 3 [fZ.D r.bars[i]!])]) (hc:=fun K' hK=>h450 [iX,r.bars[i]!.name,r.bars[i]!.range] (tH r i) 2 19 _ _ K' (.inr ⟨3,true,by exact rfl,by exact rfl⟩) ae (by simp only[List.length_cons,List.length_nil];omega) (by simp only[List.length_cons,List.length_nil];omega) (.mk (by decide) (by simp only[List.length_cons,List.length_nil,List.cons_append,List.nil_append];omega) (List.forall_mem_cons.2 ⟨by decide,List.forall_mem_cons.2 ⟨by omega,List.forall_mem_cons.2 ⟨by omega,fun _ h=>nomatch h⟩⟩⟩) (by first|omega|(simp only[List.length_append,List.length_nil];omega))) (by rw[show(tH r i)++bt [iX,r.bars[i]!.name,r.bars[i]!.range]=tH r i++bt [iX,r.bars[i]!.name,r.bars[i]!.range]from rfl];exact hK)) (hn:=by decide) ?_;refine ay ?_;have w8:(bt [iX,r.bars[i]!.name,r.bars[i]!.range]).length≤2200000:=by unfold bt;simp only[aO,iX,List.length_append,List.length_cons,List.length_nil];omega
  refine aA ?_;refine fN (fun hc7=>?_) fun hc7=>?_
  ·refine ax ?_;have hwt:gE r.bars[i]!.when'=bt [jR,r.bars[i]!.when']:=if_neg hc7;refine ay ?_;refine cg [(.str _),(.str _)] ?_;refine cd (nx':=26) (v:=.tup []) (m':=[(28,.row (tH r (i+1))),(0,.buf 9 [Rec.D r]),(2,.bld (some 28) (tH r (i+1)).length true),(13,.buf 3 [fZ.D r.bars[i]!])]) (hc:=fun K' hK=>h450 [jR,r.bars[i]!.when'] (tH r i++bt [iX,r.bars[i]!.name,r.bars[i]!.range]) 2 27 _ _ K' (.inr ⟨20,true,by exact rfl,by exact rfl⟩) ae (by simp only[List.length_cons,List.length_nil];omega) (by simp only[List.length_cons,List.length_nil];omega) (.mk (by decide) (by simp only[List.length_cons,List.length_nil,List.cons_append,List.nil_append];omega) (List.forall_mem_cons.2 ⟨by decide,List.forall_mem_cons.2 ⟨by omega,fun _ h=>nomatch h⟩⟩) (by first|omega|(simp only[List.length_append,List.length_nil];omega))) (by rw[show(tH r i++bt [iX,r.bars[i]!.name,r.bars[i]!.range])++bt [jR,r.bars[i]!.when']=tH r (i+1)from by rw[hxb,hbt,hwt,List.append_assoc]];exact hK)) (hn:=by decide) ?_;refine ba ?_;exact⟨i+1,(by omega),by omega,(aL.to [(0,0),(2,2),(28,3)] ae ae dN (by refine aC.cZ ae ae ae ?_;refine aC.bl 2 ae ae ae (congrArg List.length (rfl)) rfl ?_;refine aC.rw 28 ae ae (rfl) ?_;exact aC.nil))⟩
  refine az ?_;have hno:gE r.bars[i]!.when'=[]:=if_pos (by simpa using hc7);refine aA ?_;exact⟨i+1,(by omega),by omega,(aL.to [(0,0),(2,2),(20,3)] ae ae dN (by refine aC.cZ ae ae ae ?_;refine aC.bl 2 ae ae ae (congrArg List.length (by rw[hxb,hbt,hno,List.append_nil])) rfl ?_;refine aC.rw 20 ae ae (by rw[hxb,hbt,hno,List.append_nil]) ?_;exact aC.nil))⟩
 refine aA ?_;have h33:i=r.bars.length:=by omega
 subst h33;refine az ?_;intro u4;refine ay ?_;refine br hm (ι:=Nat) (fun i=>[.un,.un,⟨true,.ptr 0 9 0 0⟩,⟨true,.ptr 2 2 0 0⟩,.un,.un,.un,.un,.un,.un,.un,.un,.un,.un,.un,.un,.un,.un,.un,.un,.un,.un,.un,.un,.un,.un,⟨true,.int .i64 (i:Nat)⟩,⟨true,.int .i64 (r.feats.length:Nat)⟩,.un,⟨true,.sl 2 (r.feats.map bo.D)⟩,.un]) (fun i=>[(0,.buf 9 [Rec.D r]),(2,.bld (some 3) (wB r i).length true),(3,.row (wB r i))]) 10 (fun i=>i≤r.feats.length) (fun i=>r.feats.length-i) 0 (by omega) (aL.to [(0,0),(2,2),(3,3)] ae ae dN (by refine aC.cZ ae ae ae ?_;refine aC.bl 2 ae ae ae (congrArg List.length (by rw[HL])) rfl ?_;refine aC.rw 3 ae ae (by rw[HL]) ?_;exact aC.nil)) ?_;intro i hi;have q1:=Ha hft i hi;refine az ?_;refine cI (fun hc8=>?_) fun hc8=>?_
 ·refine az ?_;have q4:=hft.f _ (bG (show i<r.feats.length by omega));have q5:=q4.1.1;have q6:=q4.2;have q8:∀t∈r.feats[i]!.of,t.length≤2097200:=fun t ht=>Nat.le_trans (q4.1.2.2 t ht) (by decide)
  have hxf:=E1 (r:=r) (i:=i) (by omega);refine ax ?_;refine ca (v:=bo.D r.feats[i]!) (hi:=fun _=>by omega) ?_;refine ax ?_;refine aF (bo.D r.feats[i]!) (he:=by exact rfl) ?_;refine aA ?_;refine cg [(.str _),(.str _)] ?_;refine ay ?_;refine AJ (zs:=([cB,r.feats[i]!.name]++r.feats[i]!.of).map D.str) (n:=([cB,r.feats[i]!.name]++r.feats[i]!.of).length) (ha:=by simp) (he:=qn.sl) (hz:=by rw[List.drop_zero];rfl) (hn:=by simp<;>omega) (hb:=by simp only[List.length_cons,List.length_nil,List.cons_append,List.nil_append];omega) ?_;refine cd (nx':=16) (v:=.tup []) (m':=[(21,.row (wB r (i+1))),(0,.buf 9 [Rec.D r]),(2,.bld (some 21) (wB r (i+1)).length true),(13,.buf 2 [bo.D r.feats[i]!])]) (hc:=fun K' hK=>h450 ([cB,r.feats[i]!.name]++r.feats[i]!.of) (wB r i) 2 20 _ _ K' (.inr ⟨3,true,by exact rfl,by exact rfl⟩) ae (by simp only[List.length_cons,List.length_nil];omega) (by simp only[List.length_cons,List.length_nil];omega) (.mk (l:=r.feats[i]!.name::r.feats[i]!.of) (by decide) (by simp only[List.length_cons,List.length_nil,List.cons_append,List.nil_append];omega) (List.forall_mem_cons.2 ⟨by decide,List.forall_mem_cons.2 ⟨by omega,q8⟩⟩) (by first|omega|(simp only[List.length_append,List.length_nil];omega))) (by rw[show(wB r i)++bt ([cB,r.feats[i]!.name]++r.feats[i]!.of)=wB r (i+1)from by rw[hxf];rfl];exact hK)) (hn:=by decide) ?_;refine ba ?_;exact⟨i+1,(by omega),by omega,(aL.to [(0,0),(2,2),(21,3)] ae ae dN (by refine aC.cZ ae ae ae ?_;refine aC.bl 2 ae ae ae (congrArg List.length (rfl)) rfl ?_;refine aC.rw 21 ae ae (rfl) ?_;exact aC.nil))⟩
 refine az ?_;have h33:i=r.feats.length:=by omega
 subst h33;have hne:wB r r.feats.length≠[]:=by
  rw[A2];unfold iP lh bt;simp[aO,du]
 refine cd (nx':=11) (v:=.str (wB r r.feats.length)) (m':=[(0,.buf 9 [Rec.D r])]) (hc:=fun K' hK=>h452 _ _ K' ⟨2,wB r r.feats.length,rfl,.inr ⟨3,true,by exact rfl,by exact rfl⟩,hne,hK⟩) (hn:=by decide) ?_;refine az ?_;refine cq ?_;exact A2 r
end Go.Abs
end
namespace Go.Abs
def Ld.wA {r:Ld}(h:r.sm):r.to r.rest=r:=by
 obtain⟨ls,n⟩:=r;have h1:n≤ls.length:=h.1.1;simp only[Ld.to,Ld.rest,List.length_drop,Ld.mk.injEq,true_and];omega
def Ld.rQ {r:Ld}{q:List ah}(h:q<:+r.ls):(r.to q).rest=q:=by
 obtain⟨ls,n⟩:=r;obtain⟨a,e⟩:=h;simp only at e;subst e;simp[Ld.rest,Ld.to]
def Ld.sm.to {r:Ld}(h:r.sm)(q:List ah):(r.to q).sm:=⟨⟨Nat.sub_le _ _,h.1.2⟩,h.2⟩
def Ld.tg (r:Ld):r.rest<:+r.ls:=List.drop_suffix _ _
def cv (w:ah)(n:Nat)(op:Bool)(p:List ah):List ah:=match bq w n op p with
 |some (_,q)=>q
 |none=>p
def kt {w:ah}{n:Nat}{op:Bool}{p l q:List ah}(h:bq w n op p=some (l,q)):q<:+p:=by
 obtain⟨t,rfl,_⟩:=c9 h;exact List.suffix_cons _ _
def Ld.wS {r:Ld}{p:List ah}(hp:p<:+r.ls){w:ah}{n:Nat}{op:Bool}:(r.to p).after (bq w n op p)=r.to (cv w n op p):=by
 unfold cv;cases h:bq w n op p with
 |none=>rfl
 |some lq=>
  obtain⟨l,q⟩:=lq;have:=gN h;have:=hp.length_le;simp only[Ld.after,Ld.to,Ld.mk.injEq,true_and];omega
def rJ {Γ:Ctx}(h:Fp Γ){r:Ld}(hr:r.sm){p:List ah}(hp:p<:+r.ls){w:ah}{n:Nat}{op:Bool}(hn:n≤1000)(ho:op=true→1≤n):
  Γ.fp 465 (Ld.D (r.to p)) [.str w,.int .i64 (n:Nat),.bool op]∧Γ.fv 465 (Ld.D (r.to p)) [.str w,.int .i64 (n:Nat),.bool op]=.tup [tT (bq w n op p),.bool (bq w n op p).isSome]∧Γ.fs 465 (Ld.D (r.to p)) [.str w,.int .i64 (n:Nat),.bool op]=Ld.D (r.to (cv w n op p)):=by
 have:=h (r.to p) w n op (hr.to p) hn ho;rw[Ld.rQ hp,Ld.wS hp]at this;exact this
def pW {w:ah}{n:Nat}{op:Bool}{t:ah}{l:List ah}(h:js w n op t=some l):(n=0∨l.length=n)∧[]∉l∧l=cM n op t:=by
 unfold js at h;split at h
 ·rename_i hc;obtain rfl:=Option.some.inj h;exact⟨hc.2.1,hc.2.2,rfl⟩
 ·cases h
def mc (x:UInt8):∀(l:List ah)(n:Nat),(aO [x] (l.drop n)).length≤(aO [x] l).length
 |[],n=>by simp
 |a::r,0=>Nat.le_refl _
 |[a],n+1=>by simp[aO]
 |a::b::r,n+1=>by
  have:=mc x (b::r) n;rw[List.drop_succ_cons,eu [x] a (b::r) (by simp)];simp only[List.length_append];omega
def yE {n:Nat}{op:Bool}{t w:ah}(h:w∈cM n op t):w.length≤t.length:=by
 unfold cM at h;split at h
 ·unfold nM at h;split at h
  ·exact dd t 32 h
  ·rw[List.mem_append]at h;rcases h with h|h
   ·exact dd t 32 (List.mem_of_mem_take h)
   ·simp only[List.mem_singleton]at h;subst h;have:=mc 32 (ai t 32) (n-1);rw[jJ (b:=32) (x:=32) rfl t]at this;exact this
 ·exact dd t 32 h
def jM {r:Ld}(hr:r.sm){p:List ah}(hp:p<:+r.ls){w:ah}{n:Nat}{op:Bool}{l q:List ah}(h:bq w n op p=some (l,q)):
  (n=0∨l.length=n)∧(∀u∈l,u.length≤1048576)∧q<:+r.ls∧q.length+1=p.length:=by
 obtain⟨t,rfl,ht⟩:=c9 h;obtain⟨h1,_,h3⟩:=pW ht;refine⟨h1,fun u hu=>?_,(List.suffix_cons _ _).trans hp,rfl⟩;rw[h3]at hu;have:=yE hu;have:=hr.2 t (hp.subset (.head _));omega
def Ld.back {r:Ld}{t:ah}{q:List ah}(h:(t::q)<:+r.ls):tp (Ld.D (r.to q)) 2 1 1 (.int .i64 (((r.to q).at':Nat) -1:Int))=Ld.D (r.to (t::q)):=by
 have:=h.length_le;show D.agg [.sl 1 (r.ls.map D.str),.int .i64 (((r.ls.length-q.length:Nat):Int) -1)]=D.agg [.sl 1 (r.ls.map D.str),.int .i64 ((r.ls.length-(q.length+1):Nat):Int)];simp only[List.length_cons]at this;congr 4;omega
def fS {α:Type}{o:Option α}(h:o.isSome=true):∃a,o=some a:=Option.isSome_iff_exists.1 h
def fR {α:Type}{o:Option α}(h:o.isSome=false):o=none:=by cases o with
 |none=>rfl
 |some a=>cases h
def bw.N (x:bw):Go.Abs.D:=.agg [.str x.name,.str x.range,I3 x.feats,.bool x.bare]
def I5:∀l:List ah,rm (I3 l) (.sl 1 (l.map D.str))
 |[]=>.nil 1
 |_::_=>.refl _
def bw.wk (x:bw):rm x.N x.D:=.ag (.cons (.refl _) (.cons (.refl _) (.cons (I5 _) (.cons (.refl _) .nil))))
def bw.kJ (x:bw):x.N.aI=true:=by
 simp only[bw.N,D.aI,aG,uL,Bool.and_true]
def wG {p:List ah}(h:bq jE 5 true p=none):bT p=([],p):=by
 match p,h with
 |[],_=>rfl
 |t::r,h=>
  simp only[bq]at h;split at h
  ·cases h
  ·rename_i hn;simp only[bT,hn]
def Aa {p l q:List ah}(h:bq jE 5 true p=some (l,q))(ho:qA l=false):bT p=([],p):=by
 obtain⟨t,rfl,ht⟩:=c9 h;simp only[bT,ht,ho,Bool.false_eq_true,if_false]
def yD {p l q:List ah}(h:bq jE 5 true p=some (l,q))(ho:qA l=true):bT p=(eP l::(bT q).1,(bT q).2):=by
 obtain⟨t,rfl,ht⟩:=c9 h;simp only[bT,ht,ho,if_true]
def m7 (s:ah)(b:Int):ai s b≠[]:=by
 have:=fq b s [];intro h;unfold ai at h;rw[h]at this;simp at this
def I4 {l:List ah}(h:l≠[]):I3 l=.sl 1 (l.map D.str):=by
 match l,h with
 |_::_,_=>rfl
def fE (p:List ah):(bj p).2<:+p:=by
 unfold bj;split
 ·rename_i h;exact kt h
 ·exact List.suffix_refl _
def Ec (p:List ah):(pX p).2<:+p:=by
 unfold pX;split
 ·rename_i h;exact kt h
 ·exact List.suffix_refl _
end Go.Abs
section
namespace Go.Abs
open Go
def fo:aB:=⟨1,5,j5,cr,(sq (r1 [gm cse] 1 0) (sq (sq (rg [gm s0,gn (.callF 465 l0 [(cs [119,104,101,110]),kp,tK] LD),gm l1,ge l2 0,ge l2 1,gm l3,gm l4] [(4,5),(2,6)]) (sq (r1 [gm s2] 3 0) (.cond s3 (sq (r1 [gm s4,ga 1 l0 b8,gd l1,gm l2] 1 3) .ret) .skip))) (zk cse)))⟩
def w468 {Γ:Ctx}(hm:(Γ.at 1).bp)(h465:Fp (Γ.at 1))(r:Ld)  (hp0:r.sm):bz (Γ.at 1) fo.body (Ba fo 2 (.str (bj r.rest).1) (Ld.D (r.to (bj r.rest).2)):Ex→List aW→St→Prop) (et fo (.ptr 0 2 0 0::[])) ⟨1,[(0,.buf 2 [(Ld.D r)])]⟩:=by
 show bz _ _ _ [⟨true,.ptr 0 2 0 0⟩,.un,.un,.un,.un] ⟨1,[(0,.buf 2 [(Ld.D r)])]⟩;have hself:=Ld.wA hp0;have hq1:=r.tg;refine ak ?_;refine aA ?_;rw[show Ld.D r=Ld.D (r.to r.rest)by rw[hself]];refine ax ?_;refine iW (hc:=rJ h465 hp0 (p:=r.rest) hq1 (w:=jR) (n:=2) (op:=true) (by decide) (by decide)) ?_;refine ax ?_;refine fC _ ?_;refine bY ?_;refine cI (fun hc0=>?_) fun hc0=>?_
 ·refine ay ?_;obtain⟨⟨l,q2⟩,hq⟩:=fS hc0;have hnr:cv jR 2 true r.rest=q2:=by simp only[cv,hq]
  obtain⟨hl,hlm,hq2,hqp⟩:=jM hp0 hq1 hq;rw[hnr,hq];have hwp:bj r.rest=(l[1]!,q2):=by simp only[bj,hq]
  rw[hwp];refine ax ?_;refine cE 1 (hb:=fun _=>by omega) ?_;refine ca (v:=.str l[1]!) (hi:=fun _=>by omega) ?_;refine az ?_;refine dW trivial im (Eq.trans ae (congrArg D.str ?_)) ae ae ae;rfl
 refine ay ?_;have hq:=fR hc0;have hnr:cv jR 2 true r.rest=r.rest:=by simp only[cv,hq]
 rw[hnr];have hwp:bj r.rest=([],r.rest):=by simp only[bj,hq]
 rw[hwp];refine az ?_;refine dW trivial im (Eq.trans ae (congrArg D.str ?_)) ae ae ae;rfl
def Fq (Γ:Ctx):Prop:=∀(r:Ld),(r.sm)→Γ.fp 468 (Ld.D r) []∧Γ.fv 468 (Ld.D r) []=.str (bj r.rest).1∧Γ.fs 468 (Ld.D r) []=Ld.D (r.to (bj r.rest).2)
end Go.Abs
end
