/- A part of the proofs of the statements: X14, RSpec16, X15, RSpec17, W1, W4, X16, RSpec18, Y1, RSpec19, LAsmS, LInj, Y2, Y3, RSpec20, Y4, RSpec21, LAsmT, RGen1, G1, G2, G3, G4, G5. -/
import Derived.Test.YtpdlhpamcaocgaaGreatDoorP07
set_option linter.all false
set_option maxRecDepth 4000
section
namespace Go.Abs
open Go
def fk:aB:=⟨1,12,[⟨1,some (3,true)⟩],[[.sl 4 [.a,.a,.sl 1 [.a],.a],.a,.a]],(sq (r1 [gb 3 (.c (.agg [.ar,.str [],.str []]))] 1 0) (sq (r1 [gb 3 (.c (.agg [.ar,.str [],.str []]))] 8 0) (sq (.block 0 (.loop (.block 1 (sq (rg [gm s0,gn (.callF 465 l0 [(cs [97,110,121]),Av,tK] LD),gm l1,ge l2 0,ge l2 1,gm l3,gm l4] [(4,5),(2,6)]) (sq (sq (r1 [gm s2,om l0] 3 1) (.cond s3 (.exit 0) .skip)) (sq (sq (r1 [gm s4,ga 1 l0 kd,gd l1,ct l2 (cs [98,97,114,101]),gm l3,gmt 4 s4,cH 4 (.ia 1 l5 kd),ph 4 l6,cH 4 (eR l7 (cs [102,117,108,108])),gy l4 l8] 5 9) (.cond s5 (sq (rg [gm s0,gc l0,gf 1 l1,gd l2,ff l3 b8,gc l0,gf 1 l5,gt 1 l6 l4] []) (.exit 0)) .skip)) (sq (r2 [gm s4,ga 1 l0 b8,gd l1,gm s4,ga 1 l3 tF,gd l4,gm s4,ga 1 l6 kd,gd l7,aE l8 (cs [98,97,114,101]),gn (.build [.str [],.str [],.ar,.bool false] [(0,1,l2),(1,1,l5),(3,1,l9)]),gb 4 (.c (.agg [.str [],.str [],.ar,.bool false])),gt 4 jK l10] 7 11) (sq (sq (r1 [gm s4,ga 1 l0 kp,gd l1,ct l2 (cs [45])] 6 3) (.cond s6 (rg [gm s4,ga 1 l0 kp,gd l1,gx 124 [l2,(cs [44])] iK,gf 2 s7,gt 1 l4 l3] []) .skip)) (rg [gf 0 s8,gd l0,gk 4 true s7,gn (.bsl 4 (.agg [.str [],.str [],.ar,.bool false]) 1 [(0,l2)]),gn (.app 4 l1 l3),gf 0 s8,gt 1 l5 l4] []))))))))) (sq (rg [gm s0,gn (.callF 468 l0 [] []),gf 1 s8,gt 1 l2 l1] []) (sq (sq (rg [gm s0,gn (.callF 465 l0 [(cs [111,112,116,105,111,110]),kp,dx] LD),gm l1,ge l2 0,ge l2 1,gm l3,gm l4] [(11,5),(9,6)]) (sq (r1 [gm s9] 10 0) (.cond lr (rg [gm oo,ga 1 l0 b8,gd l1,gf 2 s8,gt 1 l3 l2] []) .skip))) (sq (rg [gk 3 true s8,gt 3 s1 l0] []) .ret))))))⟩
def wF {Γ:Ctx}(h:Fq Γ){r:Ld}(hr:r.sm){p:List ah}(hp:p<:+r.ls):Γ.fp 468 (Ld.D (r.to p)) []∧Γ.fv 468 (Ld.D (r.to p)) []=.str (bj p).1∧Γ.fs 468 (Ld.D (r.to p)) []=Ld.D (r.to (bj p).2):=by
 have:=h (r.to p) (hr.to p);rw[Ld.rQ hp]at this;exact this
def w467 {Γ:Ctx}(hm:(Γ.at 1).bp)(h124:CN (Γ.at 1))(h465:Fp (Γ.at 1))(h468:Fq (Γ.at 1))(r:Ld)  (hp0:r.sm):bz (Γ.at 1) fk.body (Ba fk 2 (bc.D (cX r.rest).1) (Ld.D (r.to (cX r.rest).2)):Ex→List aW→St→Prop) (et fk (.ptr 0 2 0 0::[])) ⟨1,[(0,.buf 2 [(Ld.D r)])]⟩:=by
 show bz _ _ _ [⟨true,.ptr 0 2 0 0⟩,.un,.un,.un,.un,.un,.un,.un,.un,.un,.un,.un] ⟨1,[(0,.buf 2 [(Ld.D r)])]⟩;have hself:=Ld.wA hp0;have hq0:=r.tg;refine ak ?_;refine aQ ?_;refine br hm (ι:=(List bw×List ah)) (fun p=>[⟨true,.ptr 0 2 0 0⟩,⟨true,.ptr 1 3 0 0⟩,.un,.un,.un,.un,.un,.un,⟨true,.ptr 2 3 0 0⟩,.un,.un,.un]) (fun p=>[(0,.buf 2 [Ld.D (r.to p.2)]),(1,.buf 3 [.agg [.ar,.str [],.str []]]),(2,.buf 3 [.agg [.own 3 4 0 (p.1).length,.str [],.str []]]),(3,.buf 4 (p.1.map bw.N))]) 10 (fun p=>p.2<:+r.ls∧p.1.length+p.2.length≤r.ls.length∧bT r.rest=(p.1++(bT p.2).1,(bT p.2).2)) (fun p=>p.2.length) ([],r.rest) ⟨hq0,by simpa using hq0.length_le,by simp⟩ (aL.to [(1,1),(2,2)] ae ae dN (by refine aC.nl 0 ae ae (by rw[hself]) ae ?_;refine aC.cZ ae ae ae ?_;refine aC.ni 2 ae ae (by exact⟨_,_,rfl,⟨_,rfl,⟨_,_,rfl,Or.inr ⟨_,_,_,rfl⟩,⟨_,_,rfl,⟨rfl,rfl⟩,⟨_,_,rfl,⟨rfl,rfl⟩,rfl⟩⟩⟩⟩,rfl⟩) ?_;refine aC.mt ae ae ae ae ?_;exact aC.nil)) ?_;rintro⟨A,p⟩ ⟨hq1,hlen,hw⟩;dsimp only at hq1 hlen hw⊢;have hll:=hp0.1.2;refine az ?_;refine iW (hc:=rJ h465 hp0 (p:=p) hq1 (w:=jE) (n:=5) (op:=true) (by decide) (by decide)) ?_;refine ax ?_;refine fC _ ?_;refine dp ?_;refine aq (fun hc0=>?_) (fun hc0=>?_)
 ·simp only[Bool.not_eq_true']at hc0;have hq:=fR hc0;have hnr:cv jE 5 true p=p:=by simp only[cv,hq]
  rw[hnr];have hw2:bT r.rest=(A,p):=by rw[hw,wG hq,List.append_nil]
  refine aA ?_;have hq3:=(fE p).trans hq1;refine ax ?_;refine iW (hc:=wF h468 hp0 hq1) ?_;refine ax ?_;refine aF (.agg [.own 3 4 0 A.length,.str (bj p).1,.str []]) (he:=by exact rfl) ?_;refine aA ?_;refine iW (hc:=rJ h465 hp0 (p:=(bj p).2) hq3 (w:=dI) (n:=2) (op:=false) (by decide) (by decide)) ?_;refine ax ?_;refine fC _ ?_;refine bY ?_;refine cI (fun hc3=>?_) fun hc3=>?_
  ·refine ax ?_;obtain⟨⟨l,q2⟩,hq⟩:=fS hc3;have hnr:cv dI 2 false (bj p).2=q2:=by simp only[cv,hq]
   obtain⟨hl,hlm,hq2,hqp⟩:=jM hp0 hq3 hq;rw[hnr,hq];obtain hl:l.length=2:=by rcases hl with h|h;cases h;exact h
   refine ax ?_;refine cE 1 (hb:=fun _=>by omega) ?_;refine ca (v:=.str l[1]!) (hi:=fun _=>by omega) ?_;refine ax ?_;refine aF (.agg [.own 3 4 0 A.length,.str (bj p).1,.str l[1]!]) (he:=by exact rfl) ?_;refine ax ?_;have hnp:cX r.rest=(⟨A,(bj p).1,l[1]!⟩,q2):=by simp only[cX,hw2,pX,hq]
   rw[hnp];refine dT 3 (hn:=bm bw.kJ _) (he:=by simp only[lg,gp,j9,lY,nR,bK,Nat.reduceEqDiff,if_true,if_false,and_self,true_and,and_true,false_and,and_false,Nat.zero_add,List.length_map,Nat.le_refl,List.drop_zero,aH,reduceCtorEq,List.length_cons,List.length_nil,Nat.reduceAdd,Nat.reduceLeDiff,Ld.D];exact rfl) (hm:=by simp only[lg,gp,j9,lY,nR,bK,Nat.reduceEqDiff,if_true,if_false,and_self,true_and,and_true,false_and,and_false,Nat.zero_add,List.length_map,Nat.le_refl,List.drop_zero,aH,reduceCtorEq,List.length_cons,List.length_nil,Nat.reduceAdd,Nat.reduceLeDiff,Ld.D];exact rfl) ?_;refine kH [(0,.buf 2 [Ld.D (r.to q2)]),(1,.buf 3 [.agg [.ar,.str [],.str []]]),(2,.buf 3 [bc.D ⟨A,(bj p).1,l[1]!⟩])] (.id ae (.id ae (.bf ae (.cons (.ag (.cons (.ss (.map fun x _=>x.wk)) (.rf _))) .nil) .nil))) ?_;refine ax ?_;refine cA (d:=bc.D ⟨A,(bj p).1,l[1]!⟩) ?_;refine aF (bc.D ⟨A,(bj p).1,l[1]!⟩) (he:=by exact rfl) ?_;refine ay ?_;refine dW trivial rh (Eq.trans ae (?_)) ae ae ae;rfl
  refine ax ?_;have hq:=fR hc3;have hnr:cv dI 2 false (bj p).2=(bj p).2:=by simp only[cv,hq]
  rw[hnr];have hnp:cX r.rest=(⟨A,(bj p).1,[]⟩,(bj p).2):=by simp only[cX,hw2,pX,hq]
  rw[hnp];refine dT 3 (hn:=bm bw.kJ _) (he:=by simp only[lg,gp,j9,lY,nR,bK,Nat.reduceEqDiff,if_true,if_false,and_self,true_and,and_true,false_and,and_false,Nat.zero_add,List.length_map,Nat.le_refl,List.drop_zero,aH,reduceCtorEq,List.length_cons,List.length_nil,Nat.reduceAdd,Nat.reduceLeDiff,Ld.D];exact rfl) (hm:=by simp only[lg,gp,j9,lY,nR,bK,Nat.reduceEqDiff,if_true,if_false,and_self,true_and,and_true,false_and,and_false,Nat.zero_add,List.length_map,Nat.le_refl,List.drop_zero,aH,reduceCtorEq,List.length_cons,List.length_nil,Nat.reduceAdd,Nat.reduceLeDiff,Ld.D];exact rfl) ?_;refine kH [(0,.buf 2 [Ld.D (r.to (bj p).2)]),(1,.buf 3 [.agg [.ar,.str [],.str []]]),(2,.buf 3 [bc.D ⟨A,(bj p).1,[]⟩])] (.id ae (.id ae (.bf ae (.cons (.ag (.cons (.ss (.map fun x _=>x.wk)) (.rf _))) .nil) .nil))) ?_;refine ax ?_;refine cA (d:=bc.D ⟨A,(bj p).1,[]⟩) ?_;refine aF (bc.D ⟨A,(bj p).1,[]⟩) (he:=by exact rfl) ?_;refine ay ?_;refine dW trivial rh (Eq.trans ae (?_)) ae ae ae;rfl
 simp only[Bool.not_eq_false']at hc0;obtain⟨⟨l,q2⟩,hq⟩:=fS hc0;have hnr:cv jE 5 true p=q2:=by simp only[cv,hq]
 obtain⟨hl,hlm,hq2,hqp⟩:=jM hp0 hq1 hq;rw[hnr,hq];obtain hl:l.length=5:=by rcases hl with h|h;cases h;exact h
 refine aA ?_;refine cE 3 (hb:=fun _=>by omega) ?_;refine ca (v:=.str l[3]!) (hi:=fun _=>by omega) ?_;refine az ?_;refine cE 3 (hb:=fun _=>by omega) ?_;refine ca (v:=.str l[3]!) (hi:=fun _=>by omega) ?_;refine az ?_;refine aq (fun hc1=>?_) (fun hc1=>?_)
 ·simp only[Bool.and_eq_true,Bool.not_eq_true',decide_eq_false_iff_not]at hc1;have hho:qA l=false:=by unfold qA;rw[decide_eq_false (show ¬l[3]! =iv from hc1.1),decide_eq_false (show ¬l[3]! =mH from hc1.2)];rfl
  have hw2:bT r.rest=(A,p):=by rw[hw,Aa hq hho,List.append_nil]
  obtain⟨t,hpt,_⟩:=c9 hq;refine ay ?_;obtain⟨hab1,hab2⟩:=(hp0.to q2).1;refine az ?_;refine ch (v:=.int .i64 ((r.to q2).at':Nat)) ?_;refine az ?_;refine aF (Ld.D (r.to p)) (he:=by rw[hpt];exact Ld.back (hpt▸hq1)) ?_;refine aQ ?_;have hq3:=(fE p).trans hq1;refine ax ?_;refine iW (hc:=wF h468 hp0 hq1) ?_;refine ax ?_;refine aF (.agg [.own 3 4 0 A.length,.str (bj p).1,.str []]) (he:=by exact rfl) ?_;refine aA ?_;refine iW (hc:=rJ h465 hp0 (p:=(bj p).2) hq3 (w:=dI) (n:=2) (op:=false) (by decide) (by decide)) ?_;refine ax ?_;refine fC _ ?_;refine bY ?_;refine cI (fun hc3=>?_) fun hc3=>?_
  ·refine ax ?_;obtain⟨⟨l,q2⟩,hq⟩:=fS hc3;have hnr:cv dI 2 false (bj p).2=q2:=by simp only[cv,hq]
   obtain⟨hl,hlm,hq2,hqp⟩:=jM hp0 hq3 hq;rw[hnr,hq];obtain hl:l.length=2:=by rcases hl with h|h;cases h;exact h
   refine ax ?_;refine cE 1 (hb:=fun _=>by omega) ?_;refine ca (v:=.str l[1]!) (hi:=fun _=>by omega) ?_;refine ax ?_;refine aF (.agg [.own 3 4 0 A.length,.str (bj p).1,.str l[1]!]) (he:=by exact rfl) ?_;refine ax ?_;have hnp:cX r.rest=(⟨A,(bj p).1,l[1]!⟩,q2):=by simp only[cX,hw2,pX,hq]
   rw[hnp];refine dT 3 (hn:=bm bw.kJ _) (he:=by simp only[lg,gp,j9,lY,nR,bK,Nat.reduceEqDiff,if_true,if_false,and_self,true_and,and_true,false_and,and_false,Nat.zero_add,List.length_map,Nat.le_refl,List.drop_zero,aH,reduceCtorEq,List.length_cons,List.length_nil,Nat.reduceAdd,Nat.reduceLeDiff,Ld.D];exact rfl) (hm:=by simp only[lg,gp,j9,lY,nR,bK,Nat.reduceEqDiff,if_true,if_false,and_self,true_and,and_true,false_and,and_false,Nat.zero_add,List.length_map,Nat.le_refl,List.drop_zero,aH,reduceCtorEq,List.length_cons,List.length_nil,Nat.reduceAdd,Nat.reduceLeDiff,Ld.D];exact rfl) ?_;refine kH [(0,.buf 2 [Ld.D (r.to q2)]),(1,.buf 3 [.agg [.ar,.str [],.str []]]),(2,.buf 3 [bc.D ⟨A,(bj p).1,l[1]!⟩])] (.id ae (.id ae (.bf ae (.cons (.ag (.cons (.ss (.map fun x _=>x.wk)) (.rf _))) .nil) .nil))) ?_;refine ax ?_;refine cA (d:=bc.D ⟨A,(bj p).1,l[1]!⟩) ?_;refine aF (bc.D ⟨A,(bj p).1,l[1]!⟩) (he:=by exact rfl) ?_;refine ay ?_;refine dW trivial rh (Eq.trans ae (?_)) ae ae ae;rfl
  refine ax ?_;have hq:=fR hc3;have hnr:cv dI 2 false (bj p).2=(bj p).2:=by simp only[cv,hq]
  rw[hnr];have hnp:cX r.rest=(⟨A,(bj p).1,[]⟩,(bj p).2):=by simp only[cX,hw2,pX,hq]
  rw[hnp];refine dT 3 (hn:=bm bw.kJ _) (he:=by simp only[lg,gp,j9,lY,nR,bK,Nat.reduceEqDiff,if_true,if_false,and_self,true_and,and_true,false_and,and_false,Nat.zero_add,List.length_map,Nat.le_refl,List.drop_zero,aH,reduceCtorEq,List.length_cons,List.length_nil,Nat.reduceAdd,Nat.reduceLeDiff,Ld.D];exact rfl) (hm:=by simp only[lg,gp,j9,lY,nR,bK,Nat.reduceEqDiff,if_true,if_false,and_self,true_and,and_true,false_and,and_false,Nat.zero_add,List.length_map,Nat.le_refl,List.drop_zero,aH,reduceCtorEq,List.length_cons,List.length_nil,Nat.reduceAdd,Nat.reduceLeDiff,Ld.D];exact rfl) ?_;refine kH [(0,.buf 2 [Ld.D (r.to (bj p).2)]),(1,.buf 3 [.agg [.ar,.str [],.str []]]),(2,.buf 3 [bc.D ⟨A,(bj p).1,[]⟩])] (.id ae (.id ae (.bf ae (.cons (.ag (.cons (.ss (.map fun x _=>x.wk)) (.rf _))) .nil) .nil))) ?_;refine ax ?_;refine cA (d:=bc.D ⟨A,(bj p).1,[]⟩) ?_;refine aF (bc.D ⟨A,(bj p).1,[]⟩) (he:=by exact rfl) ?_;refine ay ?_;refine dW trivial rh (Eq.trans ae (?_)) ae ae ae;rfl
 simp only[Bool.and_eq_false_iff,Bool.not_eq_false',decide_eq_true_eq]at hc1;have hho:qA l=true:=by
  unfold qA;rcases hc1 with h|h
  ·rw[decide_eq_true (show l[3]! =iv from h)];rfl
  ·rw[decide_eq_true (show l[3]! =mH from h),Bool.or_true]
 have hwy:=yD hq hho;refine az ?_;refine cE 1 (hb:=fun _=>by omega) ?_;refine ca (v:=.str l[1]!) (hi:=fun _=>by omega) ?_;refine ax ?_;refine cE 4 (hb:=fun _=>by omega) ?_;refine ca (v:=.str l[4]!) (hi:=fun _=>by omega) ?_;refine ax ?_;refine cE 3 (hb:=fun _=>by omega) ?_;refine ca (v:=.str l[3]!) (hi:=fun _=>by omega) ?_;refine ax ?_;refine bn (.agg [.str l[1]!,.str l[4]!,.ar,.bool (decide (l[3]! =iv))]) ?_;refine ax ?_;refine aF (.agg [.str l[1]!,.str l[4]!,.ar,.bool (decide (l[3]! =iv))]) (he:=by exact rfl) ?_;refine aA ?_;refine cE 2 (hb:=fun _=>by omega) ?_;refine ca (v:=.str l[2]!) (hi:=fun _=>by omega) ?_;refine ay ?_;refine cI (fun hc2=>?_) fun hc2=>?_
 ·refine ay ?_;refine cE 2 (hb:=fun _=>by omega) ?_;refine ca (v:=.str l[2]!) (hi:=fun _=>by omega) ?_;refine aj (hc:=h124 l[2]! 44 (hlm _ (bG (by omega)))) ?_;refine ax ?_;refine aF (bw.N (eP l)) (he:=by show _=D.agg [.str l[1]!,.str l[4]!,I3 (if l[2]! =[45]then []else ai l[2]! 44),.bool (decide (l[3]! =iv))];rw[if_neg hc2,I4 (m7 _ _)];exact rfl) ?_;refine az ?_;refine ch (v:=.own 3 4 0 A.length) ?_;refine cA (d:=bw.N (eP l)) ?_;refine cg [bw.N (eP l)] ?_;refine gS (q:=bw.N) (xs:=A) (e:=eP l) ?_;refine ax ?_;refine aF (.agg [.own 56 4 0 (A++[eP l]).length,.str [],.str []]) (he:=by exact rfl) ?_;refine az ?_;exact⟨(A++[eP l],q2),⟨hq2,by simp only[List.length_append,List.length_cons,List.length_nil];omega,by rw[hw,hwy];simp⟩,by dsimp only;omega,(aL.to [(1,1),(2,2),(56,3)] ae ae dN (by refine aC.cZ ae ae ae ?_;refine aC.cZ ae ae ae ?_;refine aC.eq 2 ae ae ae ?_;refine aC.nl 56 ae ae rfl (by exact bm bw.kJ _) ?_;exact aC.nil))⟩
 refine ay ?_;rw[show(D.agg [.str l[1]!,.str l[4]!,.ar,.bool (decide (l[3]! =iv))])=bw.N (eP l)by show _=D.agg [.str l[1]!,.str l[4]!,I3 (if l[2]! =[45]then []else ai l[2]! 44),.bool (decide (l[3]! =iv))];rw[if_pos hc2];rfl];refine ax ?_;refine ch (v:=.own 3 4 0 A.length) ?_;refine cA (d:=bw.N (eP l)) ?_;refine cg [bw.N (eP l)] ?_;refine gS (q:=bw.N) (xs:=A) (e:=eP l) ?_;refine ax ?_;refine aF (.agg [.own 50 4 0 (A++[eP l]).length,.str [],.str []]) (he:=by exact rfl) ?_;refine az ?_;exact⟨(A++[eP l],q2),⟨hq2,by simp only[List.length_append,List.length_cons,List.length_nil];omega,by rw[hw,hwy];simp⟩,by dsimp only;omega,(aL.to [(1,1),(2,2),(50,3)] ae ae dN (by refine aC.cZ ae ae ae ?_;refine aC.cZ ae ae ae ?_;refine aC.eq 2 ae ae ae ?_;refine aC.nl 50 ae ae rfl (by exact bm bw.kJ _) ?_;exact aC.nil))⟩
def H3 (Γ:Ctx):Prop:=∀(r:Ld),(r.sm)→Γ.fp 467 (Ld.D r) []∧Γ.fv 467 (Ld.D r) []=bc.D (cX r.rest).1∧Γ.fs 467 (Ld.D r) []=Ld.D (r.to (cX r.rest).2)
end Go.Abs
end
namespace Go.Abs
def Af (Γ:Ctx):Prop:=∀(r:Ld)(w:ah)(n:Nat)(op:Bool)(l nx:Nat)(m:List (Nat×aU))(K:D→St→Prop),r.sm→n≤1000→(op=true→1≤n)→look m l=some (.buf 2 [Ld.D r])→
 K (.tup [tT (bq w n op r.rest),.bool (bq w n op r.rest).isSome]) ⟨nx,bN m l (.buf 2 [Ld.D (r.after (bq w n op r.rest))])⟩→Γ.tr 465 [.ptr l 2 0 0,.str w,.int .i64 (n:Nat),.bool op] ⟨nx,m⟩ K
def rK {Γ:Ctx}(h:Af Γ){r:Ld}(hr:r.sm){p:List ah}(hp:p<:+r.ls){w:ah}{n:Nat}{op:Bool}(hn:n≤1000)(ho:op=true→1≤n){nx:Nat}{m:List (Nat×aU)}{K:D→St→Prop}(hl:look m 0=some (.buf 2 [Ld.D (r.to p)]))
  (hK:K (.tup [tT (bq w n op p),.bool (bq w n op p).isSome]) ⟨nx,bN m 0 (.buf 2 [Ld.D (r.to (cv w n op p))])⟩):Γ.tr 465 [.ptr 0 2 0 0,.str w,.int .i64 (n:Nat),.bool op] ⟨nx,m⟩ K:=by
 refine h (r.to p) w n op 0 nx m K (hr.to p) hn ho hl ?_;rw[Ld.rQ hp,Ld.wS hp];exact hK
def Gx {Γ:Ctx}(h:H3 Γ){r:Ld}(hr:r.sm){p:List ah}(hp:p<:+r.ls):Γ.fp 467 (Ld.D (r.to p)) []∧Γ.fv 467 (Ld.D (r.to p)) []=bc.D (cX p).1∧Γ.fs 467 (Ld.D (r.to p)) []=Ld.D (r.to (cX p).2):=by
 have:=h (r.to p) (hr.to p);rw[Ld.rQ hp]at this;exact this
def jT:∀p:List ah,(bT p).2<:+p
 |[]=>List.suffix_refl _
 |t::r=>by
  simp only[bT];split
  ·split
   ·exact(jT r).trans (List.suffix_cons _ _)
   ·exact List.suffix_refl _
  ·exact List.suffix_refl _
def mX (p:List ah):(cX p).2<:+p:=(Ec _).trans ((fE _).trans (jT p))
def xl {p:List ah}(h:bq cB 0 false p=none):dy p=([],p):=by
 match p,h with
 |[],_=>rfl
 |t::r,h=>
  simp only[bq]at h;split at h
  ·cases h
  ·rename_i hn;simp only[dy,hn]
def Bq {p l q:List ah}(h:bq cB 0 false p=some (l,q))(ho:¬2≤l.length):dy p=([],p):=by
 obtain⟨t,rfl,ht⟩:=c9 h;simp only[dy,ht,ho,if_false]
def ze {p l q:List ah}(h:bq cB 0 false p=some (l,q))(ho:2≤l.length):dy p=(⟨l[1]!,l.drop 2⟩::(dy q).1,(dy q).2):=by
 obtain⟨t,rfl,ht⟩:=c9 h;simp only[dy,ht,ho,if_true]
def en (ls:List ah):Rec×List ah:=match p9 ls with
 |some p=>p
 |none=>(nq,ls)
def cU:D:=.agg [.str [],.int .i64 0,.int .i64 0,.int .i64 0,.str [],.str [],.ar,.ar,.ar]
def oX:rm cU nq.D:=.ag (.cons (.refl _) (.cons (.refl _) (.cons (.refl _) (.cons (.refl _) (.cons (.refl _) (.cons (.refl _) (.cons (.nil 3) (.cons (.nil 3) (.cons (.nil 2) .nil)))))))))
def ku (nm:ah)(v:dw)(n b f:D):D:=.agg [.str nm,.int .i64 v.major,.int .i64 v.minor,.int .i64 v.patch,.str v.pre,.str v.build,n,b,f]
def JJ {s:ah}(h:tz s=0):∃v,lG s=some v:=by
 unfold tz at h;split at h
 ·rename_i hs;exact fS hs
 ·cases h
def JI {s:ah}(h:¬tz s=0):lG s=none:=by
 unfold tz at h;split at h
 ·exact absurd rfl h
 ·rename_i hs;exact fR (by simpa using hs)
def vr (n:Nat)(op:Bool)(t:ah):(cM n op t).length≤t.length+1:=by
 have h:=cL t 32;have hp:=fq 32 t [];unfold cM;split
 ·unfold nM;split
  ·exact h
  ·simp only[List.length_append,List.length_take,List.length_cons,List.length_nil];have:1≤(ai t 32).length:=hp;omega
 ·exact h
def DY {r:Ld}(hr:r.sm){p:List ah}(hp:p<:+r.ls){w:ah}{n:Nat}{op:Bool}{l q:List ah}(h:bq w n op p=some (l,q)):l.length≤1048577:=by
 obtain⟨t,rfl,ht⟩:=c9 h;obtain⟨_,_,h3⟩:=pW ht;have:=vr n op t;have:=hr.2 t (hp.subset (.head _));rw[h3];omega
end Go.Abs
section
namespace Go.Abs
open Go
def eA:aB:=⟨1,20,[⟨1,some (9,true)⟩,⟨2,none⟩],[[.a,.a,.a,.a,.a,.a,.sl 3 [.sl 4 [.a,.a,.sl 1 [.a],.a],.a,.a],.sl 3 [.a,.a,.a],.sl 2 [.a,.sl 1 [.a]]],[.a]],(sq (rg [gb 9 (.c (.agg [.str [],.int .i64 0,.int .i64 0,.int .i64 0,.str [],.str [],.ar,.ar,.ar])),gm dx] [(1,0),(2,1)]) (sq (r1 [gm s0,gn (.mkf 1000465 [l0]),gm l1] 3 2) (sq (rg [gm s3,gn (.callvM l0 [(cs [112,97,99,107,97,103,101]),kd,dx]),gm l1,ge l2 0,ge l2 1,gm l3,gm l4] [(6,5),(4,6)]) (sq (sq (r1 [gm s4,om l0] 5 1) (.cond s5 (sq (r1 [gn (.build [.str [],.int .i64 0,.int .i64 0,.int .i64 0,.str [],.str [],.ar,.ar,.ar] []),gt 9 s1 l0,gm dx] 2 2) .ret) .skip)) (sq (rg [gm s6,ga 1 l0 kp,gd l1,gx 466 [l2] cr,gm l3,ge l4 0,ge l4 1,gb 5 (.c (.agg [.int .i64 0,.int .i64 0,.int .i64 0,.str [],.str []])),gt 5 l7 l5,gm l6] [(9,7),(7,9)]) (sq (sq (r1 [gm s7,ct l0 bD] 8 1) (.cond s8 (sq (rg [gm s0,gc l0,gf 1 l1,gd l2,ff l3 b8,gc l0,gf 1 l5,gt 1 l6 l4] []) (sq (r1 [gn (.build [.str [],.int .i64 0,.int .i64 0,.int .i64 0,.str [],.str [],.ar,.ar,.ar] []),gt 9 s1 l0,gm dx] 2 2) .ret)) .skip)) (sq (r2 [gm s6,ga 1 l0 b8,gd l1,gk 5 true s9,gn (.build [.str [],.int .i64 0,.int .i64 0,.int .i64 0,.str [],.str [],.ar,.ar,.ar] [(0,1,l2),(1,5,l3)]),gb 9 (.c (.agg [.str [],.int .i64 0,.int .i64 0,.int .i64 0,.str [],.str [],.ar,.ar,.ar])),gt 9 l5 l4] 12 5) (sq (.block 0 (.loop (.block 1 (sq (sq (r1 [gm s3,gn (.callvM l0 [(cs [110,101,101,100]),b8,dx]),gm l1,ge l2 0,ge l2 1,gm l3,gm l4] 10 6) (sq (r1 [gm lr,om l0] 11 1) (.cond oo (.exit 0) .skip))) (rt [gf 6 m6,gn (.ldU 1 false l0),gm s0,gn (.callF 467 l2 [] []),gn (.bsl 3 (.agg [.ar,.str [],.str []]) 1 [(0,l3)]),gn (.app 3 l1 l4),gf 6 m6,gt 1 l6 l5] []))))) (sq (.block 2 (.loop (.block 3 (sq (rg [gm s3,gn (.callvM l0 [(cs [98,97,114]),kd,tK]),gm l1,ge l2 0,ge l2 1,gm l3,gm l4] [(15,5),(13,6)]) (sq (sq (r1 [gm tk,om l0] 14 1) (.cond rN (.exit 2) .skip)) (rt [gf 7 m6,gn (.ldU 1 false l0),gm uT,ga 1 l2 b8,gn (.ldU 1 false l3),gm uT,ga 1 l5 kp,gn (.ldU 1 false l6),gm s0,gn (.callF 468 l8 [] []),gn (.build [.str [],.str [],.str []] [(0,1,l4),(1,1,l7),(2,1,l9)]),gn (.bsl 3 (.agg [.str [],.str [],.str []]) 1 [(0,l10)]),gn (.app 3 l1 jK),gf 7 m6,gt 1 nn ll] [])))))) (sq (.block 4 (.loop (.block 5 (sq (rg [gm s3,gn (.callvM l0 [(cs [102,101,97,116,117,114,101]),bD,dx]),gm l1,ge l2 0,ge l2 1,gm l3,gm l4] [(18,5),(16,6)]) (sq (sq (r1 [gm AW,om l0] 17 1) (.cond wM (.exit 4) .skip)) (sq (sq (r1 [gm Cm,gl l0,aV l1 kp] 19 2) (.cond JB (sq (rg [gm s0,gc l0,gf 1 l1,gd l2,ff l3 b8,gc l0,gf 1 l5,gt 1 l6 l4] []) (.exit 4)) .skip)) (rt [gf 8 m6,gd l0,gm Cm,ga 1 l2 b8,gd l3,gm Cm,gn (.slA 1 l5 (some kp) none),gx 469 [l6] [[.sl 1 [.a]]],gn (.build [.str [],.ar] [(0,1,l4),(1,1,l7)]),gn (.bsl 2 (.agg [.str [],.ar]) 1 [(0,l8)]),gn (.app 2 l1 l9),gf 8 m6,gt 1 jK l10] []))))))) (sq (r1 [gk 9 true m6,gt 9 s1 l0,gm tK] 2 2) .ret)))))))))))⟩
def w222 {Γ:Ctx}(hm:(Γ.at 1).bp)(h466:Ks (Γ.at 1))(h467:H3 (Γ.at 1))(h468:Fq (Γ.at 1))(h469:Kt (Γ.at 1))(h9465:Af (Γ.at 1))(r:Ld)  (hp0:r.sm):bz (Γ.at 1) eA.body (Ba eA 2 (.tup [Rec.D (en r.rest).1,.bool (p9 r.rest).isSome]) (Ld.D (r.to (en r.rest).2)):Ex→List aW→St→Prop) (et eA (.ptr 0 2 0 0::[])) ⟨1,[(0,.buf 2 [(Ld.D r)])]⟩:=by
 show bz _ _ _ [⟨true,.ptr 0 2 0 0⟩,.un,.un,.un,.un,.un,.un,.un,.un,.un,.un,.un,.un,.un,.un,.un,.un,.un,.un,.un] ⟨1,[(0,.buf 2 [(Ld.D r)])]⟩;have hself:=Ld.wA hp0;have hq1:=r.tg;have hll:=hp0.1.2;refine ak ?_;refine aQ ?_;refine LZ _ ?_;refine az ?_;rw[show Ld.D r=Ld.D (r.to r.rest)by rw[hself]];refine ax ?_;refine jd (n:=1000465) (TN:=[.ptr 0 2 0 0,.str du,.int .i64 ((3:Nat):Int),.bool false]) (ι:=Unit) (fun _=>True) (fun _=>.tup [tT (bq du 3 false r.rest),.bool (bq du 3 false r.rest).isSome]) 6 (fun _=>[(0,.buf 2 [Ld.D (r.to (cv du 3 false r.rest))]),(1,.buf 9 [cU])]) (fun _ _=>?_) (hc:=fun K' hK=>rK h9465 hp0 hq1 (w:=du) (n:=3) (op:=false) (by decide) (by decide) ae (hK () trivial)) (hn:=by decide);refine ax ?_;refine fC _ ?_;refine dp ?_;refine aq (fun hc0=>?_) (fun hc0=>?_)
 ·simp only[Bool.not_eq_true']at hc0;have hq:=fR hc0;have hnr:cv du 3 false r.rest=r.rest:=by simp only[cv,hq]
  rw[hnr];have hrp:p9 r.rest=none:=by simp only[p9,hq]
  have hrv:en r.rest=(nq,r.rest):=by simp only[en,hrp]
  rw[hrv,hrp];refine ay ?_;refine bn cU ?_;refine aF cU (he:=by exact rfl) ?_;refine ay ?_;refine kH [(0,.buf 2 [Ld.D (r.to r.rest)]),(1,.buf 9 [Rec.D nq])] (.id ae (.bf ae (.cons oX .nil) .nil)) ?_;refine ax ?_;refine dW trivial rh (Eq.trans ae (aR ?_ ?_)) ae ae ae;all_goals rfl
 simp only[Bool.not_eq_false']at hc0;obtain⟨⟨l,q0⟩,hq⟩:=fS hc0;have hnr:cv du 3 false r.rest=q0:=by simp only[cv,hq]
 obtain⟨hl,hlm,hq0,hqp⟩:=jM hp0 hq1 hq;rw[hnr,hq];obtain hl:l.length=3:=by rcases hl with h|h;cases h;exact h
 refine az ?_;refine cE 2 (hb:=fun _=>by omega) ?_;refine ca (v:=.str l[2]!) (hi:=fun _=>by omega) ?_;refine aj (hc:=h466 l[2]! (hlm _ (bG (by omega)))) ?_;refine ax ?_;refine fC (dw.D _) ?_;refine ay ?_;refine aF (dw.D ((lG l[2]!).getD iH)) (he:=by exact rfl) ?_;refine ba ?_;refine aq (fun hc1=>?_) (fun hc1=>?_)
 ·simp only[Bool.not_eq_true',decide_eq_false_iff_not]at hc1;have hv:=JI hc1;have hrp:p9 r.rest=none:=by simp only[p9,hq,hv]
  have hrv:en r.rest=(nq,r.rest):=by simp only[en,hrp]
  rw[hrv,hrp];obtain⟨t,hpt,_⟩:=c9 hq;refine ay ?_;obtain⟨hab1,hab2⟩:=(hp0.to q0).1;refine az ?_;refine ch (v:=.int .i64 ((r.to q0).at':Nat)) ?_;refine az ?_;refine aF (Ld.D (r.to r.rest)) (he:=by rw[hpt];exact Ld.back (hpt▸hq1)) ?_;refine az ?_;refine bn cU ?_;refine aF cU (he:=by exact rfl) ?_;refine ay ?_;refine kH [(0,.buf 2 [Ld.D (r.to r.rest)]),(1,.buf 9 [Rec.D nq]),(22,.buf 5 [dw.D ((lG l[2]!).getD iH)])] (.id ae (.bf ae (.cons oX .nil) (.id ae .nil))) ?_;refine ax ?_;refine dW trivial rh (Eq.trans ae (aR ?_ ?_)) ae ae ae;all_goals rfl
 simp only[Bool.not_eq_false',decide_eq_true_eq]at hc1;obtain⟨v,hv⟩:=JJ hc1;rw[hv];have hrp:p9 r.rest=some (rZ l[1]! v q0):=by simp only[p9,hq,hv]
 have hrv:en r.rest=rZ l[1]! v q0:=by simp only[en,hrp]
 rw[hrv,hrp];generalize hnm:l[1]! =nm;have hq01:=hq0.length_le;refine ay ?_;rw[←hnm];refine ax ?_;refine cE 1 (hb:=fun _=>by omega) ?_;refine ca (v:=.str l[1]!) (hi:=fun _=>by omega) ?_;refine cA (d:=dw.D v) ?_;refine bn (ku l[1]! v .ar .ar .ar) ?_;refine ax ?_;refine aF (ku l[1]! v .ar .ar .ar) (he:=by exact rfl) ?_;refine ax ?_;rw[hnm];refine br hm (ι:=(List bc×List ah)) (fun z=>[⟨true,.ptr 0 2 0 0⟩,⟨true,.ptr 1 9 0 0⟩,⟨true,.bool false⟩,⟨true,.fn 1000465 [.ptr 0 2 0 0]⟩,.un,.un,.un,.un,.un,.un,.un,.un,⟨true,.ptr 2 9 0 0⟩,.un,.un,.un,.un,.un,.un,.un]) (fun z=>[(0,.buf 2 [Ld.D (r.to z.2)]),(1,.buf 9 [cU]),(2,.buf 9 [ku nm v (.own 3 3 0 (z.1).length) (.ar) (.ar)]),(3,.buf 3 (z.1.map bc.D))]) 10 (fun z=>z.2<:+r.ls∧z.1.length+z.2.length≤r.ls.length∧ew q0=(z.1++(ew z.2).1,(ew z.2).2)) (fun z=>z.2.length) ([],q0) ⟨hq0,by simpa using hq01,by simp⟩ (aL.to [(1,1),(32,2)] ae ae dN (by refine aC.cZ ae ae ae ?_;refine aC.cZ ae ae ae ?_;refine aC.ni 32 ae ae (by exact⟨_,_,rfl,⟨_,rfl,⟨_,_,rfl,⟨rfl,rfl⟩,⟨_,_,rfl,⟨rfl,rfl⟩,⟨_,_,rfl,⟨rfl,rfl⟩,⟨_,_,rfl,⟨rfl,rfl⟩,⟨_,_,rfl,⟨rfl,rfl⟩,⟨_,_,rfl,⟨rfl,rfl⟩,⟨_,_,rfl,Or.inr ⟨_,_,_,rfl⟩,⟨_,_,rfl,Or.inl rfl,⟨_,_,rfl,Or.inl rfl,rfl⟩⟩⟩⟩⟩⟩⟩⟩⟩⟩,rfl⟩) ?_;refine aC.mt ae ae ae ae ?_;exact aC.nil)) ?_;rintro⟨N,p⟩ ⟨hq1,hlen,hw⟩;dsimp only at hq1 hlen hw⊢;refine aA ?_;refine jd (n:=1000465) (TN:=[.ptr 0 2 0 0,.str gD,.int .i64 ((1:Nat):Int),.bool false]) (ι:=Unit) (fun _=>True) (fun _=>.tup [tT (bq gD 1 false p),.bool (bq gD 1 false p).isSome]) 10 (fun _=>[(0,.buf 2 [Ld.D (r.to (cv gD 1 false p))]),(1,.buf 9 [cU]),(2,.buf 9 [ku nm v (.own 3 3 0 (N).length) (.ar) (.ar)]),(3,.buf 3 (N.map bc.D))]) (fun _ _=>?_) (hc:=fun K' hK=>rK h9465 hp0 hq1 (w:=gD) (n:=1) (op:=false) (by decide) (by decide) ae (hK () trivial)) (hn:=by decide);refine ax ?_;refine fC _ ?_;refine dp ?_;refine aq (fun hc2=>?_) (fun hc2=>?_)
 ·simp only[Bool.not_eq_true']at hc2;have hq:=fR hc2;have hnr:cv gD 1 false p=p:=by simp only[cv,hq]
  rw[hnr];have hn2:ew q0=(N,p):=by rw[hw,xQ hq,List.append_nil]
  have hpl:=hq1.length_le;refine az ?_;refine dT 3 (hn:=bm (fun _=>rfl) _) (he:=by simp only[lg,gp,j9,lY,nR,bK,Nat.reduceEqDiff,if_true,if_false,and_self,true_and,and_true,false_and,and_false,Nat.zero_add,List.length_map,Nat.le_refl,List.drop_zero,aH,reduceCtorEq,List.length_cons,List.length_nil,Nat.reduceAdd,Nat.reduceLeDiff,Ld.D,cU,ku];exact rfl) (hm:=by simp only[lg,gp,j9,lY,nR,bK,Nat.reduceEqDiff,if_true,if_false,and_self,true_and,and_true,false_and,and_false,Nat.zero_add,List.length_map,Nat.le_refl,List.drop_zero,aH,reduceCtorEq,List.length_cons,List.length_nil,Nat.reduceAdd,Nat.reduceLeDiff,Ld.D,cU,ku];exact rfl) ?_;refine br hm (ι:=(List fZ×List ah)) (fun z=>[⟨true,.ptr 0 2 0 0⟩,⟨true,.ptr 1 9 0 0⟩,⟨true,.bool false⟩,⟨true,.fn 1000465 [.ptr 0 2 0 0]⟩,.un,.un,.un,.un,.un,.un,.un,.un,⟨true,.ptr 2 9 0 0⟩,.un,.un,.un,.un,.un,.un,.un]) (fun z=>[(0,.buf 2 [Ld.D (r.to z.2)]),(1,.buf 9 [cU]),(2,.buf 9 [ku nm v ((.sl 3 (N.map bc.D))) (.own 3 3 0 (z.1).length) (.ar)]),(3,.buf 3 (z.1.map fZ.D))]) 10 (fun z=>z.2<:+r.ls∧z.1.length+z.2.length≤r.ls.length∧jF p=(z.1++(jF z.2).1,(jF z.2).2)) (fun z=>z.2.length) ([],p) ⟨hq1,by simpa using hpl,by simp⟩ (aL.to [(1,1),(2,2)] ae ae dN (by refine aC.cZ ae ae ae ?_;refine aC.cZ ae ae ae ?_;refine aC.ni 2 ae ae (by exact⟨_,_,rfl,⟨_,rfl,⟨_,_,rfl,⟨rfl,rfl⟩,⟨_,_,rfl,⟨rfl,rfl⟩,⟨_,_,rfl,⟨rfl,rfl⟩,⟨_,_,rfl,⟨rfl,rfl⟩,⟨_,_,rfl,⟨rfl,rfl⟩,⟨_,_,rfl,⟨rfl,rfl⟩,⟨_,_,rfl,⟨rfl,rfl⟩,⟨_,_,rfl,Or.inr ⟨_,_,_,rfl⟩,⟨_,_,rfl,Or.inl rfl,rfl⟩⟩⟩⟩⟩⟩⟩⟩⟩⟩,rfl⟩) ?_;refine aC.mt ae ae ae ae ?_;exact aC.nil)) ?_;rintro⟨B,pb⟩ ⟨hq1,hlen,hw⟩;dsimp only at hq1 hlen hw⊢;refine az ?_;refine jd (n:=1000465) (TN:=[.ptr 0 2 0 0,.str iX,.int .i64 ((3:Nat):Int),.bool true]) (ι:=Unit) (fun _=>True) (fun _=>.tup [tT (bq iX 3 true pb),.bool (bq iX 3 true pb).isSome]) 10 (fun _=>[(0,.buf 2 [Ld.D (r.to (cv iX 3 true pb))]),(1,.buf 9 [cU]),(2,.buf 9 [ku nm v ((.sl 3 (N.map bc.D))) (.own 3 3 0 (B).length) (.ar)]),(3,.buf 3 (B.map fZ.D))]) (fun _ _=>?_) (hc:=fun K' hK=>rK h9465 hp0 hq1 (w:=iX) (n:=3) (op:=true) (by decide) (by decide) ae (hK () trivial)) (hn:=by decide);refine ax ?_;refine fC _ ?_;refine dp ?_;refine aq (fun hc3=>?_) (fun hc3=>?_)
  ·simp only[Bool.not_eq_true']at hc3;have hq:=fR hc3;have hnr:cv iX 3 true pb=pb:=by simp only[cv,hq]
   rw[hnr];have iK:jF p=(B,pb):=by rw[hw,yX hq,List.append_nil]
   have hpl2:=hq1.length_le;refine az ?_;refine dT 3 (hn:=bm (fun _=>rfl) _) (he:=by simp only[lg,gp,j9,lY,nR,bK,Nat.reduceEqDiff,if_true,if_false,and_self,true_and,and_true,false_and,and_false,Nat.zero_add,List.length_map,Nat.le_refl,List.drop_zero,aH,reduceCtorEq,List.length_cons,List.length_nil,Nat.reduceAdd,Nat.reduceLeDiff,Ld.D,cU,ku];exact rfl) (hm:=by simp only[lg,gp,j9,lY,nR,bK,Nat.reduceEqDiff,if_true,if_false,and_self,true_and,and_true,false_and,and_false,Nat.zero_add,List.length_map,Nat.le_refl,List.drop_zero,aH,reduceCtorEq,List.length_cons,List.length_nil,Nat.reduceAdd,Nat.reduceLeDiff,Ld.D,cU,ku];exact rfl) ?_;refine br hm (ι:=(List bo×List ah)) (fun z=>[⟨true,.ptr 0 2 0 0⟩,⟨true,.ptr 1 9 0 0⟩,⟨true,.bool false⟩,⟨true,.fn 1000465 [.ptr 0 2 0 0]⟩,.un,.un,.un,.un,.un,.un,.un,.un,⟨true,.ptr 2 9 0 0⟩,.un,.un,.un,.un,.un,.un,.un]) (fun z=>[(0,.buf 2 [Ld.D (r.to z.2)]),(1,.buf 9 [cU]),(2,.buf 9 [ku nm v ((.sl 3 (N.map bc.D))) ((.sl 3 (B.map fZ.D))) (.own 3 2 0 (z.1).length)]),(3,.buf 2 (z.1.map bo.D))]) 10 (fun z=>z.2<:+r.ls∧z.1.length+z.2.length≤r.ls.length∧dy pb=(z.1++(dy z.2).1,(dy z.2).2)) (fun z=>z.2.length) ([],pb) ⟨hq1,by simpa using hpl2,by simp⟩ (aL.to [(1,1),(2,2)] ae ae dN (by refine aC.cZ ae ae ae ?_;refine aC.cZ ae ae ae ?_;refine aC.ni 2 ae ae (by exact⟨_,_,rfl,⟨_,rfl,⟨_,_,rfl,⟨rfl,rfl⟩,⟨_,_,rfl,⟨rfl,rfl⟩,⟨_,_,rfl,⟨rfl,rfl⟩,⟨_,_,rfl,⟨rfl,rfl⟩,⟨_,_,rfl,⟨rfl,rfl⟩,⟨_,_,rfl,⟨rfl,rfl⟩,⟨_,_,rfl,⟨rfl,rfl⟩,⟨_,_,rfl,⟨rfl,rfl⟩,⟨_,_,rfl,Or.inr ⟨_,_,_,rfl⟩,rfl⟩⟩⟩⟩⟩⟩⟩⟩⟩⟩,rfl⟩) ?_;refine aC.mt ae ae ae ae ?_;exact aC.nil)) ?_;rintro⟨Z,pf⟩ ⟨hq1,hlen,hw⟩;dsimp only at hq1 hlen hw⊢;refine az ?_;refine jd (n:=1000465) (TN:=[.ptr 0 2 0 0,.str cB,.int .i64 ((0:Nat):Int),.bool false]) (ι:=Unit) (fun _=>True) (fun _=>.tup [tT (bq cB 0 false pf),.bool (bq cB 0 false pf).isSome]) 10 (fun _=>[(0,.buf 2 [Ld.D (r.to (cv cB 0 false pf))]),(1,.buf 9 [cU]),(2,.buf 9 [ku nm v ((.sl 3 (N.map bc.D))) ((.sl 3 (B.map fZ.D))) (.own 3 2 0 (Z).length)]),(3,.buf 2 (Z.map bo.D))]) (fun _ _=>?_) (hc:=fun K' hK=>rK h9465 hp0 hq1 (w:=cB) (n:=0) (op:=false) (by decide) (by decide) ae (hK () trivial)) (hn:=by decide);refine ax ?_;refine fC _ ?_;refine dp ?_;refine aq (fun hc4=>?_) (fun hc4=>?_)
   ·simp only[Bool.not_eq_true']at hc4;have hq:=fR hc4;have hnr:cv cB 0 false pf=pf:=by simp only[cv,hq]
    rw[hnr];have hf2:dy pb=(Z,pf):=by rw[hw,xl hq,List.append_nil]
    refine az ?_;have hbd:rZ nm v q0=(⟨nm,v,N,B,Z⟩,pf):=by simp only[rZ,hn2,iK,hf2]
    rw[hbd];refine dT 3 (hn:=bm (fun _=>rfl) _) (he:=by simp only[lg,gp,j9,lY,nR,bK,Nat.reduceEqDiff,if_true,if_false,and_self,true_and,and_true,false_and,and_false,Nat.zero_add,List.length_map,Nat.le_refl,List.drop_zero,aH,reduceCtorEq,List.length_cons,List.length_nil,Nat.reduceAdd,Nat.reduceLeDiff,Ld.D,cU,ku];exact rfl) (hm:=by simp only[lg,gp,j9,lY,nR,bK,Nat.reduceEqDiff,if_true,if_false,and_self,true_and,and_true,false_and,and_false,Nat.zero_add,List.length_map,Nat.le_refl,List.drop_zero,aH,reduceCtorEq,List.length_cons,List.length_nil,Nat.reduceAdd,Nat.reduceLeDiff,Ld.D,cU,ku];exact rfl) ?_;refine ax ?_;refine cA (d:=Rec.D ⟨nm,v,N,B,Z⟩) ?_;refine aF (Rec.D ⟨nm,v,N,B,Z⟩) (he:=by exact rfl) ?_;refine az ?_;refine dW trivial rh (Eq.trans ae (aR ?_ ?_)) ae ae ae;all_goals rfl
   simp only[Bool.not_eq_false']at hc4;obtain⟨⟨l,q2⟩,hq⟩:=fS hc4;have hnr:cv cB 0 false pf=q2:=by simp only[cv,hq]
   obtain⟨hl,hlm,hq2,hqp⟩:=jM hp0 hq1 hq;rw[hnr,hq];have hll2:=DY hp0 hq1 hq;refine aQ ?_;intro u0;refine ay ?_;refine cI (fun hc5=>?_) fun hc5=>?_
   ·refine ay ?_;have hf2:dy pb=(Z,pf):=by rw[hw,Bq hq (by omega),List.append_nil]
    obtain⟨t,hpt,_⟩:=c9 hq;obtain⟨hab1,hab2⟩:=(hp0.to q2).1;refine az ?_;refine ch (v:=.int .i64 ((r.to q2).at':Nat)) ?_;refine az ?_;refine aF (Ld.D (r.to pf)) (he:=by rw[hpt];exact Ld.back (hpt▸hq1)) ?_;refine aA ?_;have hbd:rZ nm v q0=(⟨nm,v,N,B,Z⟩,pf):=by simp only[rZ,hn2,iK,hf2]
    rw[hbd];refine dT 3 (hn:=bm (fun _=>rfl) _) (he:=by simp only[lg,gp,j9,lY,nR,bK,Nat.reduceEqDiff,if_true,if_false,and_self,true_and,and_true,false_and,and_false,Nat.zero_add,List.length_map,Nat.le_refl,List.drop_zero,aH,reduceCtorEq,List.length_cons,List.length_nil,Nat.reduceAdd,Nat.reduceLeDiff,Ld.D,cU,ku];exact rfl) (hm:=by simp only[lg,gp,j9,lY,nR,bK,Nat.reduceEqDiff,if_true,if_false,and_self,true_and,and_true,false_and,and_false,Nat.zero_add,List.length_map,Nat.le_refl,List.drop_zero,aH,reduceCtorEq,List.length_cons,List.length_nil,Nat.reduceAdd,Nat.reduceLeDiff,Ld.D,cU,ku];exact rfl) ?_;refine ax ?_;refine cA (d:=Rec.D ⟨nm,v,N,B,Z⟩) ?_;refine aF (Rec.D ⟨nm,v,N,B,Z⟩) (he:=by exact rfl) ?_;refine az ?_;refine dW trivial rh (Eq.trans ae (aR ?_ ?_)) ae ae ae;all_goals rfl
   refine ay ?_;have h2l:2≤l.length:=by omega
   refine ax ?_;refine ch (v:=.own 3 2 0 Z.length) ?_;refine ax ?_;refine cE 1 (hb:=fun _=>by omega) ?_;refine ca (v:=.str l[1]!) (hi:=fun _=>by omega) ?_;refine ax ?_;refine sZ 2 (hb:=fun _=>by omega) ?_;refine aj (hc:=h469 (l.drop 2) (by rw[List.length_drop];omega)) ?_;refine bn (bo.D ⟨l[1]!,l.drop 2⟩) ?_;refine cg [bo.D ⟨l[1]!,l.drop 2⟩] ?_;refine gS (q:=bo.D) (xs:=Z) (e:=⟨l[1]!,l.drop 2⟩) ?_;refine ax ?_;refine aF (ku nm v (.sl 3 (N.map bc.D)) (.sl 3 (B.map fZ.D)) (.own 32 2 0 (Z++[(⟨l[1]!,l.drop 2⟩:bo)]).length)) (he:=by exact rfl) ?_;refine az ?_;have hsl:=Nat.le_refl 0;exact⟨(Z++[⟨l[1]!,l.drop 2⟩],q2),⟨hq2,by simp only[List.length_append,List.length_cons,List.length_nil];omega,by rw[hw,ze hq h2l];simp⟩,by dsimp only;omega,(aL.to [(1,1),(2,2),(32,3)] ae ae dN (by refine aC.cZ ae ae ae ?_;refine aC.cZ ae ae ae ?_;refine aC.eq 2 ae ae ae ?_;refine aC.nl 32 ae ae rfl (by exact bm (fun _=>rfl) _) ?_;exact aC.nil))⟩
  simp only[Bool.not_eq_false']at hc3;obtain⟨⟨l,q2⟩,hq⟩:=fS hc3;have hnr:cv iX 3 true pb=q2:=by simp only[cv,hq]
  obtain⟨hl,hlm,hq2,hqp⟩:=jM hp0 hq1 hq;rw[hnr,hq];obtain hl:l.length=3:=by rcases hl with h|h;cases h;exact h
  refine az ?_;refine EC (v:=.own 3 3 0 B.length) ?_;refine ax ?_;refine cE 1 (hb:=fun _=>by omega) ?_;refine ED (v:=.str l[1]!) (hi:=fun _=>by omega) ?_;refine ax ?_;refine cE 2 (hb:=fun _=>by omega) ?_;refine ED (v:=.str l[2]!) (hi:=fun _=>by omega) ?_;refine ax ?_;refine iW (hc:=wF h468 hp0 hq2) ?_;refine bn (fZ.D ⟨l[1]!,l[2]!,(bj q2).1⟩) ?_;refine cg [fZ.D ⟨l[1]!,l[2]!,(bj q2).1⟩] ?_;refine gS (q:=fZ.D) (xs:=B) (e:=⟨l[1]!,l[2]!,(bj q2).1⟩) ?_;refine ax ?_;refine aF (ku nm v (.sl 3 (N.map bc.D)) (.own 31 3 0 (B++[(⟨l[1]!,l[2]!,(bj q2).1⟩:fZ)]).length) .ar) (he:=by exact rfl) ?_;refine az ?_;have hsl:=(fE q2).length_le;exact⟨(B++[⟨l[1]!,l[2]!,(bj q2).1⟩],(bj q2).2),⟨(fE q2).trans hq2,by simp only[List.length_append,List.length_cons,List.length_nil];omega,by rw[hw,yY hq];simp⟩,by dsimp only;omega,(aL.to [(1,1),(2,2),(31,3)] ae ae dN (by refine aC.cZ ae ae ae ?_;refine aC.cZ ae ae ae ?_;refine aC.eq 2 ae ae ae ?_;refine aC.nl 31 ae ae rfl (by exact bm (fun _=>rfl) _) ?_;exact aC.nil))⟩
 simp only[Bool.not_eq_false']at hc2;obtain⟨⟨l,q2⟩,hq⟩:=fS hc2;have hnr:cv gD 1 false p=q2:=by simp only[cv,hq]
 obtain⟨hl,hlm,hq2,hqp⟩:=jM hp0 hq1 hq;rw[hnr,hq];refine az ?_;refine EC (v:=.own 3 3 0 N.length) ?_;refine ax ?_;refine iW (hc:=Gx h467 hp0 hq2) ?_;refine cg [bc.D (cX q2).1] ?_;refine gS (q:=bc.D) (xs:=N) (e:=(cX q2).1) ?_;refine ax ?_;refine aF (ku nm v (.own 24 3 0 (N++[(cX q2).1]).length) .ar .ar) (he:=by exact rfl) ?_;refine az ?_;have hsl:=(mX q2).length_le;exact⟨(N++[(cX q2).1],(cX q2).2),⟨(mX q2).trans hq2,by simp only[List.length_append,List.length_cons,List.length_nil];omega,by rw[hw,xR hq];simp⟩,by dsimp only;omega,(aL.to [(1,1),(2,2),(24,3)] ae ae dN (by refine aC.cZ ae ae ae ?_;refine aC.cZ ae ae ae ?_;refine aC.eq 2 ae ae ae ?_;refine aC.nl 24 ae ae rfl (by exact bm (fun _=>rfl) _) ?_;exact aC.nil))⟩
def J8 (Γ:Ctx):Prop:=∀(r:Ld),(r.sm)→Γ.fp 222 (Ld.D r) []∧Γ.fv 222 (Ld.D r) []=.tup [Rec.D (en r.rest).1,.bool (p9 r.rest).isSome]∧Γ.fs 222 (Ld.D r) []=Ld.D (r.to (en r.rest).2)
end Go.Abs
end
namespace Go.Abs
def vA (p:List ah):Prop:=∀t∈p,t.length≤1048576
def vA.get {l:List ah}(h:vA l)(i:Nat):l[i]!.length≤1048576:=by
 rcases Nat.lt_or_ge i l.length with hi|hi
 ·exact h _ (bG hi)
 ·simp[hi];exact Nat.zero_le _
def vA.next {p:List ah}(hp:vA p){w:ah}{n:Nat}{op:Bool}{l q:List ah}(h:bq w n op p=some (l,q)):vA l∧vA q∧l.length≤1048577:=by
 obtain⟨t,rfl,ht⟩:=c9 h;obtain⟨_,_,h3⟩:=pW ht;have h0:=hp t (.head _);refine⟨fun u hu=>?_,fun u hu=>hp u (.tail _ hu), ?_⟩
 ·rw[h3]at hu;have:=yE hu;omega
 ·have:=vr n op t;rw[h3];omega
def vA.G8 {p q:List ah}(hp:vA p)(h:q<:+p):vA q:=fun t ht=>hp t (h.subset ht)
def Cy {l:List ah}(h:vA l):(eP l).sm:=by
 refine⟨⟨h.get 1,h.get 4⟩,fun t ht=>?_⟩;unfold eP at ht;simp only at ht;split at ht
 ·cases ht
 ·have:=dd _ _ ht;have:=h.get 2;omega
def AF {w:ah}{n:Nat}{op:Bool}{t:ah}{r l:List ah}(h:js w n op t=some l):bq w n op (t::r)=some (l,r):=by simp only[bq,h]
def tC:∀p:List ah,vA p→∀x∈(bT p).1,x.sm
 |[],_,x,hx=>by simp[bT]at hx
 |t::r,hp,x,hx=>by
  have ih:=tC r (fun u hu=>hp u (.tail _ hu));simp only[bT]at hx;split at hx
  ·rename_i l hl;split at hx
   ·simp only[List.mem_cons]at hx;rcases hx with rfl|hx
    ·exact Cy (hp.next (AF (r:=r) hl)).1
    ·exact ih x hx
   ·simp at hx
  ·simp at hx
def yC {p:List ah}(hp:vA p):(bj p).1.length≤1048576:=by
 unfold bj;split
 ·rename_i h;exact(hp.next h).1.get 1
 ·simp
def GJ {p:List ah}(hp:vA p):(pX p).1.length≤1048576:=by
 unfold pX;split
 ·rename_i h;exact(hp.next h).1.get 1
 ·simp
def DW {p:List ah}(hp:vA p):(cX p).1.sm:=⟨tC p hp,yC (hp.G8 (jT p)),GJ ((hp.G8 (jT p)).G8 (fE _))⟩
def uJ:∀(f:Nat)(p:List ah),vA p→(∀x∈(iE f p).1,x.sm)∧(iE f p).2<:+p
 |0,p,_=>⟨fun x hx=>by simp[iE]at hx,List.suffix_refl _⟩
 |f+1,p,hp=>by
  simp only[iE];split
  ·rename_i l r h;have hr:=(hp.next h).2.1;obtain⟨i1,i2⟩:=uJ f (cX r).2 (hr.G8 (mX r));refine⟨fun x hx=>?_,i2.trans ((mX r).trans (kt h))⟩;simp only[List.mem_cons]at hx;rcases hx with rfl|hx
   ·exact DW hr
   ·exact i1 x hx
  ·exact⟨fun x hx=>by simp at hx,List.suffix_refl _⟩
def xa:∀(f:Nat)(p:List ah),vA p→(∀x∈(k8 f p).1,x.sm)∧(k8 f p).2<:+p
 |0,p,_=>⟨fun x hx=>by simp[k8]at hx,List.suffix_refl _⟩
 |f+1,p,hp=>by
  simp only[k8];split
  ·rename_i l r h;obtain⟨hl,hr,_⟩:=hp.next h;obtain⟨i1,i2⟩:=xa f (bj r).2 (hr.G8 (fE r));refine⟨fun x hx=>?_,i2.trans ((fE r).trans (kt h))⟩;simp only[List.mem_cons]at hx;rcases hx with rfl|hx
   ·exact⟨hl.get 1,hl.get 2,yC hr⟩
   ·exact i1 x hx
  ·exact⟨fun x hx=>by simp at hx,List.suffix_refl _⟩
def uq:∀(p:List ah),vA p→(∀x∈(dy p).1,x.sm)∧(dy p).2<:+p
 |[],_=>⟨fun x hx=>by simp[dy]at hx,List.suffix_refl _⟩
 |t::r,hp=>by
  obtain⟨i1,i2⟩:=uq r (fun u hu=>hp u (.tail _ hu));simp only[dy];split
  ·rename_i l hl;obtain⟨hlm,_,hll⟩:=hp.next (AF (r:=r) hl);split
   ·refine⟨fun x hx=>?_,i2.trans (List.suffix_cons _ _)⟩;simp only[List.mem_cons]at hx;rcases hx with rfl|hx
    ·refine⟨hlm.get 1, ?_,fun u hu=>hlm u (List.mem_of_mem_drop hu)⟩;simp only[List.length_drop];omega
    ·exact i1 x hx
   ·exact⟨fun x hx=>by simp at hx,List.suffix_refl _⟩
  ·exact⟨fun x hx=>by simp at hx,List.suffix_refl _⟩
def AQ:jO nq:=⟨⟨by decide,by decide,by decide⟩,fun n hn=>(by cases hn),fun n hn=>(by cases hn),fun n hn=>(by cases hn)⟩
def GY {p:List ah}(hp:vA p):jO (en p).1∧(en p).2<:+p:=by
 unfold en p9;cases h:bq du 3 false p with
 |none=>exact⟨AQ,List.suffix_refl _⟩
 |some lq=>
  obtain⟨l,r⟩:=lq;obtain⟨hl,hr,_⟩:=hp.next h;simp only;cases hv:lG l[2]! with
  |none=>exact⟨AQ,List.suffix_refl _⟩
  |some v=>
   have hvs:=Hc (hl.get 2);rw[hv]at hvs;obtain⟨n1,n2⟩:=uJ r.length r hr;obtain⟨b1,b2⟩:=xa (ew r).2.length (ew r).2 (hr.G8 n2);obtain⟨f1,f2⟩:=uq (jF (ew r).2).2 ((hr.G8 n2).G8 b2);exact⟨⟨⟨hl.get 1,hvs⟩,n1,b1,f1⟩,f2.trans (b2.trans (n2.trans (kt h)))⟩
def fV (s:ah):Rec×Int×Int:=
 if 4096<s.length then(nq,3,0)
 else
  let ls:=(ai s 10).take ((ai s 10).length-1)
  if(p9 ls).isSome=false∨(en ls).2≠[]∨(ai s 10)[(ai s 10).length-1]! ≠[]then(nq,2,((ls.length-(en ls).2.length:Nat):Int)+1)
  else if(cb (en ls).1).1≠0 then(nq,(cb (en ls).1).1,0)
  else((en ls).1,0,0)
end Go.Abs
section
namespace Go.Abs
open Go
def ye:aB:=⟨3,8,[⟨3,none⟩],cr,(sq (rg [gb 9 s0,gm bD] [(5,0),(3,1)]) (sq (.block 0 (sq (r1 [gm s1,gx 208 [l0] cr,om l1,gm l2] 4 3) (.cond s4 (sq (r1 [gm tF] 3 0) .ret) (sq (r1 [gm s1,gf 0 s5,gd l1,aE l0 l2,gm l3] 6 4) (.cond s6 (sq (r1 [gm Gc] 3 0) .ret) (sq (r1 [gm s2,gx 444 [l0] cr,om l1,gm l2] 7 3) (.cond s7 (sq (r1 [gm zm] 3 0) .ret) .skip))))))) (sq (r1 [gm bD] 3 0) .ret)))⟩
def w211 {Γ:Ctx}(hm:(Γ.at 0).bp)(h208:Fm Γ)(h444:Kj Γ)(r:Rec)(name:ah)(rng:ah)  (hp0:rng.length≤1048576):ef Γ ye (.int .i64 (gF r name rng)) [Rec.D r,.str name,.str rng]:=by
 show bz _ _ _ [⟨_,_⟩,⟨_,_⟩,⟨_,_⟩,_,_,_,_,_] _;refine ak ?_;refine aT ?_;refine aj (hc:=h208 _) ?_;refine az ?_;refine fN (fun hc0=>?_) fun hc0=>?_
 ·refine aQ ?_;refine gW ?_;rw[gF,if_pos hc0]
 refine ba ?_;refine fN (fun hc1=>?_) fun hc1=>?_
 ·refine aQ ?_;refine gW ?_;rw[gF,if_neg (by simp[hc0]),if_pos hc1]
 refine ay ?_;refine aj (hc:=h444 rng hp0) ?_;refine az ?_;refine fN (fun hc2=>?_) fun hc2=>?_
 ·refine aQ ?_;refine gW ?_;rw[gF,if_neg (by simp[hc0]),if_neg hc1,if_pos hc2]
 refine aT ?_;refine gW ?_;rw[gF,if_neg (by simp[hc0]),if_neg hc1,if_neg (by simp[hc2])]
def HR (Γ:Ctx):Prop:=∀(r:Rec)(name:ah)(rng:ah),(rng.length≤1048576)→Γ.pre 211 [Rec.D r,.str name,.str rng]∧Γ.val 211 [Rec.D r,.str name,.str rng]=.int .i64 (gF r name rng)
def yf:aB:=⟨3,16,[⟨3,none⟩],cr,(sq (rg [gb 9 s0,gb 4 s1,gm bD] [(4,0),(5,1),(3,2)]) (sq (sq (r1 [gk 9 true s4,gf 0 s5,gd l1,gf 1 s5,gd l3,gx 211 [l0,l2,l4] [[.a,.a,.a,.a,.a,.a,.sl 3 [.sl 4 [.a,.a,.sl 1 [.a],.a],.a,.a],.sl 3 [.a,.a,.a],.sl 2 [.a,.sl 1 [.a]]],[.a],[.a]],gm l5] 6 6) (sq (r1 [gm s6,ct l0 bD] 7 1) (.cond s7 (sq (r1 [gm s6,gm l0] 3 1) .ret) .skip))) (sq (sq (r1 [gf 2 s5,gd l0,gl l1,dz l2 zm,gm l3,ko 4 2 s5,lB 4 l5,cx 4 (.len l6),cx 4 (dh l7 bD),eV 4 l8,gmt 9 s2,cH 9 (.un .not l10),CH 4 l9 jK,fI l4 ll] 8 13) (.cond s8 (sq (r1 [gm (i6 11)] 3 0) .ret) .skip)) (sq (sq (rg [gf 2 s5,gd l0,gl l1,gm bD] [(12,1),(10,2),(9,3)]) (.block 0 (.loop (sq (r1 [aV s9 lr] 11 0) (sq (iS oo 0) (sq (.block 1 (sq (rg [gm s9,ga 1 m6 s9,gd l1,gm l0,gm l2] [(14,3),(13,4)]) (sq (r1 [gm tk,gx 349 [l0] cr,om l1,gm l2,eV 3 rN,cx 3 (dh l4 bD),eV 3 l5,rC 6 2 s5,ph 6 l7,gmt 6 rN,cH 6 (lL l9 b8),cH 6 (.ia 1 l8 l10),ph 6 jK,gmt 6 tk,cH 6 (wZ ll nn),CH 3 l6 nX,fI l3 pk] 15 16) (.cond uT (sq (r1 [gm (i6 11)] 3 0) .ret) .skip)))) (r1 [av s9 b8,gm l0] 9 1))))))) (sq (r1 [gm bD] 3 0) .ret)))))⟩
def w443 {Γ:Ctx}(hm:(Γ.at 0).bp)(h211:HR Γ)(h349:yO Γ)(r:Rec)(w:bw)(al:Bool)  (hp0:w.sm):ef Γ yf (.int .i64 (jz r w al)) [Rec.D r,bw.D w,.bool al]:=by
 show bz _ _ _ [⟨_,_⟩,⟨_,_⟩,⟨_,_⟩,_,_,_,_,_,_,_,_,_,_,_,_,_] _;refine ak ?_;refine fG ?_;refine aj (hc:=h211 r w.name w.range hp0.1.2) ?_;refine ba ?_;refine cI (fun hc0=>?_) fun hc0=>?_
 ·refine aT ?_;refine gW ?_;rw[jz,if_pos hc0]
 refine aT ?_;intro u0;refine aA ?_;refine nr ?_;refine ba ?_;refine aq (fun hc1=>?_) (fun hc1=>?_)
 ·have hq:(decide (w.feats.length≤6)&&(al ||decide (w.feats.length=0)))=false:=by rw[←Bool.not_eq_true',←E3];exact hc1
  refine aQ ?_;refine gW ?_;rw[jz,if_neg (by simp[hc0]),if_pos (by unfold jS;rw[hq];rfl)]
 have hq:(decide (w.feats.length≤6)&&(al ||decide (w.feats.length=0)))=true:=by rw[←Bool.not_eq_false',←E3];exact hc1
 refine aT ?_;intro u1;refine ay ?_;refine br hm (ι:=Nat) (fun i=>[.un,.un,⟨true,.bool al⟩,.un,⟨true,.ptr 0 9 0 0⟩,⟨true,.ptr 1 4 0 0⟩,.un,.un,.un,⟨true,.int .i64 (i:Nat)⟩,⟨true,.int .i64 (w.feats.length:Nat)⟩,.un,⟨true,.sl 1 (w.feats.map D.str)⟩,.un,.un,.un]) (fun i=>[(0,.buf 9 [Rec.D r]),(1,.buf 4 [bw.D w])]) 30 (fun i=>i≤w.feats.length∧jS w.feats al=cj (JL w.feats) i w.feats.length) (fun i=>w.feats.length-i) 0 ⟨by omega,by unfold jS;rw[hq,Bool.true_and]⟩ (ek [(0,0),(1,1)]) ?_;rintro i ⟨hi,hr⟩;refine az ?_;refine cI (fun hc2=>?_) fun hc2=>?_
 ·refine fG ?_;refine aj (hc:=h349 _) ?_;refine dp ?_;refine cE (i-1) ?_;refine aT ?_;refine wp_cond (fun hc3=>?_) (fun hc3=>?_)
  ·have hz:JL w.feats i=false:=by rw[←Bool.not_eq_true',←Mf];exact hc3
   refine aT ?_;refine gW ?_;rw[jz,if_neg (by simp[hc0]),if_pos (by rw[hr,aK (by omega),hz];rfl)]
  have hz:JL w.feats i=true:=by rw[←Bool.not_eq_false',←Mf];exact hc3
  refine ba ?_;exact⟨i+1,⟨by omega,by rw[hr,aK (by omega),hz];rfl⟩,by omega,(ek [(0,0),(1,1)])⟩
 refine aT ?_;refine gW ?_;rw[jz,if_neg (by simp[hc0]),if_neg (by rw[hr,bW (by omega)];simp)]
def Ki (Γ:Ctx):Prop:=∀(r:Rec)(w:bw)(al:Bool),(w.sm)→Γ.pre 443 [Rec.D r,bw.D w,.bool al]∧Γ.val 443 [Rec.D r,bw.D w,.bool al]=.int .i64 (jz r w al)
def yc:aB:=⟨2,16,[⟨2,none⟩],cr,(sq (rg [gb 9 s0,gb 3 s1,gm bD] [(10,0),(3,1),(2,2)]) (sq (sq (r1 [gf 0 s3,gd l0,gl l1,aE l2 bD] 4 3) (.cond s4 (sq (r1 [gm Aw] 2 0) .ret) .skip)) (sq (sq (r1 [gf 0 s3,gd l0,gl l1,dz l2 kd] 5 3) (.cond s5 (sq (r1 [gm kd] 2 0) .ret) .skip)) (sq (sq (rg [gf 0 s3,gd l0,gl l1,gm bD] [(9,1),(7,2),(6,3)]) (.block 0 (.loop (sq (r1 [aV s6 s7] 8 0) (sq (iS s8 0) (sq (.block 1 (sq (r1 [ga 4 s9 s6,gk 4 true l0,gb 4 (.c (.agg [.str [],.str [],.ar,.bool false])),gt 4 l2 l1] 11 2) (sq (r1 [gk 9 true lr,gk 4 true oo,gf 0 s3,gd l2,gl l3,aE l4 b8,gx 443 [l0,l1,l5] [[.a,.a,.a,.a,.a,.a,.sl 3 [.sl 4 [.a,.a,.sl 1 [.a],.a],.a,.a],.sl 3 [.a,.a,.a],.sl 2 [.a,.sl 1 [.a]]],[.a,.a,.sl 1 [.a],.a],[.a]],gm l6] 12 7) (sq (r1 [gm m6,ct l0 bD] 13 1) (.cond tk (sq (r1 [gm m6,gm l0] 2 1) .ret) .skip))))) (r1 [av s6 b8,gm l0] 6 1))))))) (sq (sq (r1 [gf 1 s3,gd l0,gx 212 [l1] cr,om l2] 14 3) (.cond rN (sq (r1 [gm IM] 2 0) .ret) .skip)) (sq (sq (r1 [gf 2 s3,gd l0,ct l1 cse,gm l2,rC 3 2 s3,ph 3 l4,cH 3 (.call 349 [l5] cr),cH 3 (.un .not l6),gy l3 l7] 15 8) (.cond uT (sq (r1 [gm (i6 14)] 2 0) .ret) .skip)) (sq (r1 [gm bD] 2 0) .ret)))))))⟩
def w210 {Γ:Ctx}(hm:(Γ.at 0).bp)(h212:HS Γ)(h349:yO Γ)(h443:Ki Γ)(r:Rec)(n:bc)  (hp0:n.sm):ef Γ yc (.int .i64 (iM r n)) [Rec.D r,bc.D n]:=by
 show bz _ _ _ [⟨_,_⟩,⟨_,_⟩,_,_,_,_,_,_,_,_,_,_,_,_,_,_] _;refine ak ?_;refine dp ?_;intro u0;refine ay ?_;refine cI (fun hc0=>?_) fun hc0=>?_
 ·refine aQ ?_;refine gW ?_;rw[iM,if_pos (by omega)]
 refine aT ?_;intro u1;refine ay ?_;refine cI (fun hc1=>?_) fun hc1=>?_
 ·refine aQ ?_;refine gW ?_;rw[iM,if_neg (by omega),if_pos (by omega)]
 refine aT ?_;intro u2;refine ay ?_;refine br hm (ι:=Nat) (fun i=>[.un,.un,.un,⟨true,.ptr 1 3 0 0⟩,.un,.un,⟨true,.int .i64 (i:Nat)⟩,⟨true,.int .i64 (n.any.length:Nat)⟩,.un,⟨true,.sl 4 (n.any.map bw.D)⟩,⟨true,.ptr 0 9 0 0⟩,.un,.un,.un,.un,.un]) (fun i=>[(0,.buf 9 [Rec.D r]),(1,.buf 3 [bc.D n])]) 15 (fun i=>i≤n.any.length∧kY r n.any=fO (fun i=>jz r n.any[i]! (decide ((n.any.length:Int)=1))) i n.any.length) (fun i=>n.any.length-i) 0 ⟨by omega,rfl⟩ (ek [(0,0),(1,1)]) ?_;rintro i ⟨hi,hr⟩;refine az ?_;refine cI (fun hc2=>?_) fun hc2=>?_
 ·refine aA ?_;first|refine ca (v:=(bw.D _)) ?_|refine gA (v:=(bw.D _)) ?_
  refine ax ?_;refine aF (bw.D n.any[i]!) (he:=by exact rfl) ?_;refine ba ?_;intro u3;refine ax ?_;refine aj (hc:=h443 r n.any[i]! _ (hp0.1 _ (bG (by omega)))) ?_;refine aT ?_;refine fN (fun hc3=>?_) fun hc3=>?_
  ·refine ba ?_;refine gW ?_;have hw:kY r n.any=jz r n.any[i]! (decide ((n.any.length:Int)=1)):=by rw[hr,sc (by omega) hc3]
   rw[iM,if_neg (by omega),if_neg (by omega),if_pos (by rw[hw];exact hc3),hw]
  refine ba ?_;exact⟨i+1,⟨by omega,by rw[hr,pL (by omega) hc3]⟩,by omega,(ek [(0,0),(1,1)])⟩
 refine aA ?_;have hw0:kY r n.any=0:=by rw[hr,pK (by omega)]
 refine ay ?_;refine aj (hc:=h212 _) ?_;refine ay ?_;refine aq (fun hc4=>?_) (fun hc4=>?_)
 ·try simp only[hX]at hc4
  refine aQ ?_;refine gW ?_;rw[iM,if_neg (by omega),if_neg (by omega),if_neg (by simp[hw0]),if_pos hc4]
 simp only[Bool.not_eq_false']at hc4;refine dp ?_;refine aj (hc:=h349 _) ?_;refine az ?_;refine aq (fun hc5=>?_) (fun hc5=>?_)
 ·try simp only[hX]at hc5
  refine aQ ?_;refine gW ?_;rw[iM,if_neg (by omega),if_neg (by omega),if_neg (by simp[hw0]),if_neg (by simp[hc4]),if_pos hc5]
 simp only[Bool.and_eq_false_iff,Bool.not_eq_false',decide_eq_true_eq]at hc5;refine aQ ?_;refine gW ?_;rw[iM,if_neg (by omega),if_neg (by omega),if_neg (by simp[hw0]),if_neg (by simp[hc4]),if_neg (by rintro⟨g1,g2⟩;rcases hc5 with h|h;exact g1 h;rw[g2]at h;cases h)]
def J4 (Γ:Ctx):Prop:=∀(r:Rec)(n:bc),(n.sm)→Γ.pre 210 [Rec.D r,bc.D n]∧Γ.val 210 [Rec.D r,bc.D n]=.int .i64 (iM r n)
def yb:aB:=⟨2,15,[⟨2,none⟩],cr,(sq (rg [gb 9 s0,gm bD] [(3,0),(2,1)]) (sq (rg [gm s1,gx 448 [l0] cr,gm l1,ge l2 0,ge l2 1,ge l2 2,gm l3,gm l4,gm l5] [(8,6),(10,7)]) (sq (sq (rg [gf 6 s3,gd l0,gl l1,gm bD] [(7,1),(5,2),(4,3)]) (.block 0 (.loop (sq (r1 [aV s4 s5] 6 0) (sq (iS s6 0) (sq (.block 1 (sq (r1 [ga 3 s7 s4,gk 3 true l0,gb 3 (.c (.agg [.ar,.str [],.str []])),gt 3 l2 l1] 9 2) (sq (r1 [gm s8,aE l0 kp,gm l1,rC 2 2 s9,ph 2 l3,gmt 2 lr,cH 2 (cQ l4 l5),gy l2 l6,gm l7,eV 8 s8,cx 8 (cQ l9 kd),eV 8 l10,rC 11 0 s9,ph 11 ll,cH 11 (.len nn),cH 11 (cQ nX b8),CH 8 jK pk,eV 8 rE,rC 17 0 s9,ph 17 xF,cH 17 (.ia 4 zp bD),rC 17 0 BM,ph 17 CI,gmt 17 lr,cH 17 (cQ Fh IV),CH 8 wL IW,fI l8 IX] 11 26) (.cond oo (sq (r1 [gm bD] 2 0) .ret) .skip)))) (r1 [av s4 b8,gm l0] 4 1))))))) (sq (sq (r1 [gm s8] 12 0) (.block 2 (sq (r1 [aE m6 kp,gm l0] 13 1) (.cond tk (sq (r1 [gm (i6 14)] 2 0) .ret) (sq (r1 [aE m6 kd,gm l0] 14 1) (.cond rN (sq (r1 [gm (i6 16)] 2 0) .ret) .skip)))))) (sq (r1 [gm bD] 2 0) .ret)))))⟩
def w214 {Γ:Ctx}(hm:(Γ.at 0).bp)(h448:HY Γ)(r:Rec)(s:ah)  (hp0:s.length≤1048576):ef Γ yb (.int .i64 (iL r s)) [Rec.D r,.str s]:=by
 show bz _ _ _ [⟨_,_⟩,⟨_,_⟩,_,_,_,_,_,_,_,_,_,_,_,_,_] _;refine ak ?_;refine aQ ?_;refine aj (hc:=h448 s hp0) ?_;refine lv ?_;intro u0;refine ay ?_;refine br hm (ι:=Nat) (fun i=>[.un,.un,.un,⟨true,.ptr 0 9 0 0⟩,⟨true,.int .i64 (i:Nat)⟩,⟨true,.int .i64 (r.needs.length:Nat)⟩,.un,⟨true,.sl 3 (r.needs.map bc.D)⟩,⟨true,.int .i64 (bZ s).1⟩,.un,⟨true,.str (bZ s).2.1⟩,.un,.un,.un,.un]) (fun i=>[(0,.buf 9 [Rec.D r])]) 15 (fun i=>i≤r.needs.length∧iL r s=(if(r.needs.drop i).any (Fg (bZ s).1 (bZ s).2.1)=true then 0 else IU (bZ s).1)) (fun i=>r.needs.length-i) 0 ⟨by omega,DJ r s⟩ (ek [(0,0)]) ?_;rintro i ⟨hi,hr⟩;refine az ?_;refine cI (fun hc0=>?_) fun hc0=>?_
 ·refine aA ?_;first|refine ca (v:=(bc.D _)) ?_|refine gA (v:=(bc.D _)) ?_
  refine ax ?_;refine aF (bc.D r.needs[i]!) (he:=by exact rfl) ?_;refine vz ?_;refine nr ?_;refine aQ ?_;refine cE 0 (hb:=fun h=>by simp only[Bool.true_and,beq_iff_eq,Bool.and_eq_true,decide_eq_true_eq]at h;omega) ?_;refine ax ?_;refine ca (q:=bw.D) (xs:=r.needs[i]!.any) (i:=0) (hi:=fun h=>by simp only[Bool.true_and,beq_iff_eq,Bool.and_eq_true,decide_eq_true_eq]at h;omega) (v:=(.str r.needs[i]!.any[0]!.name)) ?_;refine aQ ?_;refine wp_cond (fun hc1=>?_) (fun hc1=>?_)
  ·have hz:Fg (bZ s).1 (bZ s).2.1 r.needs[i]! =true:=hc1;refine aT ?_;refine gW ?_;rw[hr,FE (by omega) hz];rfl
  have hz:Fg (bZ s).1 (bZ s).2.1 r.needs[i]! =false:=hc1;refine ba ?_;exact⟨i+1,⟨by omega,by rw[hr,Iv (by omega) hz]⟩,by omega,(ek [(0,0)])⟩
 refine aA ?_;have he:iL r s=IU (bZ s).1:=by rw[hr,FD (by omega)];rfl
 refine ba ?_;refine fN (fun hc2=>?_) fun hc2=>?_
 ·refine aQ ?_;refine gW ?_;rw[he,IU,if_pos hc2]
 refine aA ?_;refine fN (fun hc3=>?_) fun hc3=>?_
 ·refine aQ ?_;refine gW ?_;rw[he,IU,if_neg hc2,if_pos hc3]
 refine aT ?_;refine gW ?_;rw[he,IU,if_neg hc2,if_neg hc3]
def J6 (Γ:Ctx):Prop:=∀(r:Rec)(s:ah),(s.length≤1048576)→Γ.pre 214 [Rec.D r,.str s]∧Γ.val 214 [Rec.D r,.str s]=.int .i64 (iL r s)
end Go.Abs
end
section
namespace Go.Abs
open Go
def wq:aB:=⟨1,39,[⟨1,none⟩,⟨2,none⟩],iK,(sq (rg [gb 9 s0,gm bD,gm bD] [(3,0),(1,1),(2,2)]) (sq (.block 0 (sq (r1 [gf 0 s3,gd l0,gx 208 [l1] cr,om l2,gm l3] 4 4) (.cond s4 (sq (rg [gm tF,gm bD] [(1,0),(2,1)]) .ret) (sq (r1 [gf 1 s3,gk 5 true l0,gx 209 [l1] IJ,om l2,gm l3] 5 4) (.cond s5 (sq (rg [gm Av,gm bD] [(1,0),(2,1)]) .ret) (sq (r1 [gf 6 s3,gd l0,gl l1,dz l2 Gc,gm l3,ko 4 7 s3,lB 4 l5,cx 4 (.len l6),cx 4 (dh l7 Gc),fI l4 l8,gm l9] 6 10) (.cond s6 (sq (rg [gm kd,gm bD] [(1,0),(2,1)]) .ret) .skip))))))) (sq (sq (rg [gf 6 s3,gd l0,gl l1,gm bD] [(10,1),(8,2),(7,3)]) (.block 1 (.loop (sq (r1 [aV s7 s8] 9 0) (sq (iS s9 1) (sq (.block 2 (sq (rg [gm s7,ga 3 lr s7,gk 3 true l1,gb 3 (.c (.agg [.ar,.str [],.str []])),gm l0,gt 3 l3 l2] [(11,3),(14,4)]) (sq (r1 [gk 9 true s3,gk 3 true oo,gx 210 [l0,l1] [[.a,.a,.a,.a,.a,.a,.sl 3 [.sl 4 [.a,.a,.sl 1 [.a],.a],.a,.a],.sl 3 [.a,.a,.a],.sl 2 [.a,.sl 1 [.a]]],[.sl 4 [.a,.a,.sl 1 [.a],.a],.a,.a]],gm l2] 12 3) (sq (r1 [gm m6,ct l0 bD] 13 1) (.cond tk (sq (rg [gm m6,gm rN,gm l0,gm l1] [(1,2),(2,3)]) .ret) .skip))))) (r1 [av s7 b8,gm l0] 7 1))))))) (sq (sq (rg [gf 7 s3,gd l0,gl l1,gm bD] [(18,1),(16,2),(15,3)]) (.block 3 (.loop (sq (r1 [aV uT AW] 17 0) (sq (iS wM 3) (sq (.block 4 (sq (rg [gm uT,ga 3 Cm uT,gk 3 true l1,gb 3 (.c (.agg [.str [],.str [],.str []])),gm l0,gt 3 l3 l2] [(19,3),(22,4)]) (sq (sq (r1 [gk 9 true s3,gf 0 JB,gd l1,gf 1 JB,gd l3,gx 211 [l0,l2,l4] [[.a,.a,.a,.a,.a,.a,.sl 3 [.sl 4 [.a,.a,.sl 1 [.a],.a],.a,.a],.sl 3 [.a,.a,.a],.sl 2 [.a,.sl 1 [.a]]],[.a],[.a]],gm l5] 20 6) (sq (r1 [gm Fi,ct l0 bD] 21 1) (.cond s21 (sq (rg [gm Fi,gm s22,gm l0,gm l1] [(1,2),(2,3)]) .ret) .skip))) (sq (r1 [gf 2 JB,gd l0,gx 212 [l1] cr,om l2] 23 3) (.cond s23 (sq (rg [gm s22,gm IM,gm l0] [(1,1),(2,2)]) .ret) .skip))))) (r1 [av uT b8,gm l0] 15 1))))))) (sq (sq (r1 [gf 8 s3,gd l0,gx 213 [l1] [[.sl 2 [.a,.sl 1 [.a]]]],om l2] 24 3) (.cond JW (sq (rg [gm (i6 11),gm bD] [(1,0),(2,1)]) .ret) .skip)) (sq (sq (rg [gf 8 s3,gd l0,gl l1,gm bD] [(28,1),(26,2),(25,3)]) (.block 5 (.loop (sq (r1 [aV JX L5] 27 0) (sq (iS s27 5) (sq (.block 6 (sq (rg [gm JX,ga 2 s28 JX,gk 2 true l1,gb 2 (.c (.agg [.str [],.ar])),gm l0,gt 2 l3 l2] [(29,3),(37,4)]) (sq (rg [gf 1 s29,gd l0,gl l1,gm bD] [(33,1),(31,2),(30,3)]) (.block 7 (.loop (sq (r1 [aV HI s31] 32 0) (sq (iS s32 7) (sq (.block 8 (sq (r1 [ga 1 s33 HI,gd l0,gm l1] 34 2) (sq (r1 [gk 9 true s3,gm s34,gx 214 [l0,l1] [[.a,.a,.a,.a,.a,.a,.sl 3 [.sl 4 [.a,.a,.sl 1 [.a],.a],.a,.a],.sl 3 [.a,.a,.a],.sl 2 [.a,.sl 1 [.a]]],[.a]],gm l2] 35 3) (sq (r1 [gm s35,ct l0 bD] 36 1) (.cond s36 (sq (rg [gm s35,gm s37,gm l0,gm l1] [(1,2),(2,3)]) .ret) .skip))))) (r1 [av HI b8,gm l0] 30 1))))))))) (r1 [av JX b8,gm l0] 25 1))))))) (sq (sq (r1 [gk 9 true s3,gx 215 [l0] [[.a,.a,.a,.a,.a,.a,.sl 3 [.sl 4 [.a,.a,.sl 1 [.a],.a],.a,.a],.sl 3 [.a,.a,.a],.sl 2 [.a,.sl 1 [.a]]]],wK l1,dz l2 (i6 4096)] 38 3) (.cond s38 (sq (rg [gm kd,gm bD] [(1,0),(2,1)]) .ret) .skip)) (sq (rg [gm bD,gm bD] [(1,0),(2,1)]) .ret))))))))⟩
def w70 {Γ:Ctx}(hm:(Γ.at 0).bp)(h208:Fm Γ)(h209:CO Γ)(h210:J4 Γ)(h211:HR Γ)(h212:HS Γ)(h213:J5 Γ)(h214:J6 Γ)(h215:HT Γ)(r:Rec)  (hp0:jO r):ef Γ wq (.tup [.int .i64 (cb r).1,.int .i64 (cb r).2]) [Rec.D r]:=by
 show bz _ _ _ (⟨true,Rec.D r⟩::.un::.un::.un::.un::.un::.un::.un::.un::.un::.un::.un::.un::.un::.un::.un::.un::.un::.un::.un::.un::.un::.un::.un::.un::.un::.un::.un::.un::.un::.un::.un::.un::.un::.un::.un::.un::.un::.un::[]) ⟨0,[]⟩;refine ak ?_;refine bY ?_;refine aj (hc:=h208 _) ?_;refine az ?_;refine wp_cond (fun hc0=>?_) (fun hc0=>?_)
 ·try simp only[hX]at hc0
  refine aT ?_;refine b7 (aR (congrArg (D.int .i64) ?_) (congrArg (D.int .i64) ?_));all_goals (have hq:cb r=(4,0):=(by rw[cb,if_pos hc0]);rw[hq];first|done|rfl)
 simp only[Bool.not_eq_false']at hc0;refine ay ?_;refine ch (v:=dw.D r.v) ?_;refine aj (hc:=h209 r.v hp0.1.2) ?_;refine az ?_;refine wp_cond (fun hc1=>?_) (fun hc1=>?_)
 ·try simp only[hX]at hc1
  refine aT ?_;refine b7 (aR (congrArg (D.int .i64) ?_) (congrArg (D.int .i64) ?_));all_goals (have hq:cb r=(5,0):=(by rw[cb,if_neg (by simp[hc0]),if_pos hc1]);rw[hq];first|done|rfl)
 simp only[Bool.not_eq_false']at hc1;refine aA ?_;intro u0;refine aA ?_;refine nr ?_;refine aA ?_;refine fN (fun hc2=>?_) fun hc2=>?_
 ·refine aT ?_;refine b7 (aR (congrArg (D.int .i64) ?_) (congrArg (D.int .i64) ?_));all_goals (have hq:cb r=(3,0):=(by rw[cb,if_neg (by simp[hc0]),if_neg (by simp[hc1]),if_pos (by omega)]);rw[hq];first|done|rfl)
 refine ba ?_;intro u1;refine ay ?_;refine br hm (ι:=Nat) (fun i=>(.un::.un::.un::⟨true,.ptr 0 9 0 0⟩::.un::.un::.un::⟨true,.int .i64 (i:Nat)⟩::⟨true,.int .i64 (r.needs.length:Nat)⟩::.un::⟨true,.sl 3 (r.needs.map bc.D)⟩::.un::.un::.un::.un::.un::.un::.un::.un::.un::.un::.un::.un::.un::.un::.un::.un::.un::.un::.un::.un::.un::.un::.un::.un::.un::.un::.un::.un::[])) (fun i=>[(0,.buf 9 [Rec.D r])]) 28 (fun i=>i≤r.needs.length∧jr r=eM (fun i=>iM r r.needs[i]!) i r.needs.length) (fun i=>r.needs.length-i) 0 ⟨by omega,rfl⟩ (ek [(0,0)]) ?_;rintro i ⟨hi,hr⟩;refine az ?_;refine cI (fun hc3=>?_) fun hc3=>?_
 ·refine aQ ?_;first|refine ca (v:=(bc.D _)) ?_|refine gA (v:=(bc.D _)) ?_
  refine ay ?_;refine aF (bc.D r.needs[i]!) (he:=by exact rfl) ?_;refine aA ?_;refine aj (hc:=h210 r r.needs[i]! (hp0.2.1 _ (bG (by omega)))) ?_;refine aT ?_;refine fN (fun hc4=>?_) fun hc4=>?_
  ·refine dp ?_;refine b7 (aR (congrArg (D.int .i64) ?_) (congrArg (D.int .i64) ?_));all_goals
    have hq:cb r=(iM r r.needs[i]!,((i:Nat):Int)):=by
     exact lP hc0 hc1 (by omega) (by omega) (Ej (by rw[hr,kP (by omega) hc4]) hc4) hc4
    rw[hq];first|done|rfl
  refine ba ?_;exact⟨i+1,⟨by omega,by rw[hr,mT (by omega) hc4]⟩,by omega,(ek [(0,0)])⟩
 refine aA ?_;have hn0:jr r=(0,0):=by rw[hr,mS (by omega)]
 refine az ?_;intro u2;refine ay ?_;refine br hm (ι:=Nat) (fun i=>(.un::.un::.un::⟨true,.ptr 0 9 0 0⟩::.un::.un::.un::.un::.un::.un::.un::.un::.un::.un::.un::⟨true,.int .i64 (i:Nat)⟩::⟨true,.int .i64 (r.bars.length:Nat)⟩::.un::⟨true,.sl 3 (r.bars.map fZ.D)⟩::.un::.un::.un::.un::.un::.un::.un::.un::.un::.un::.un::.un::.un::.un::.un::.un::.un::.un::.un::.un::[])) (fun i=>[(0,.buf 9 [Rec.D r])]) 33 (fun i=>i≤r.bars.length∧qq r=eM (fun i=>qS r r.bars[i]!) i r.bars.length) (fun i=>r.bars.length-i) 0 ⟨by omega,rfl⟩ (ek [(0,0)]) ?_;rintro i ⟨hi,hr⟩;refine az ?_;refine cI (fun hc5=>?_) fun hc5=>?_
 ·refine aQ ?_;first|refine ca (v:=(fZ.D _)) ?_|refine gA (v:=(fZ.D _)) ?_
  refine ay ?_;refine aF (fZ.D r.bars[i]!) (he:=by exact rfl) ?_;refine bY ?_;refine aj (hc:=h211 r r.bars[i]!.name r.bars[i]!.range (hp0.2.2.1 _ (bG (by omega))).2.1) ?_;refine ba ?_;refine aq (fun hc6=>?_) (fun hc6=>?_)
  ·simp only[Bool.not_eq_true',decide_eq_false_iff_not]at hc6;have hbe:qS r r.bars[i]! =gF r r.bars[i]!.name r.bars[i]!.range:=by rw[qS,if_pos hc6]
   refine jB ?_;refine b7 (aR (congrArg (D.int .i64) ?_) (congrArg (D.int .i64) ?_));all_goals
    have hq:cb r=(gF r r.bars[i]!.name r.bars[i]!.range,((i:Nat):Int)):=by
     exact lP hc0 hc1 (by omega) (by omega) (x5 hn0 (by rw[hr,kP (by omega) (by rw[hbe];exact hc6),hbe]) hc6) hc6
    rw[hq];first|done|rfl
  try simp only[hX]at hc6
  refine aA ?_;refine aj (hc:=h212 _) ?_;refine ay ?_;refine wp_cond (fun hc7=>?_) (fun hc7=>?_)
  ·simp only[Bool.not_eq_true']at hc7;have hbe:qS r r.bars[i]! =7:=by rw[qS,if_neg (fun h=>h hc6),if_pos hc7]
   refine bY ?_;refine b7 (aR (congrArg (D.int .i64) ?_) (congrArg (D.int .i64) ?_));all_goals
    have hq:cb r=((7:Int),((i:Nat):Int)):=by
     exact lP hc0 hc1 (by omega) (by omega) (x5 hn0 (by rw[hr,kP (by omega) (by rw[hbe];decide),hbe]) (show(7:Int)≠0 by decide)) (show(7:Int)≠0 by decide)
    rw[hq];first|done|rfl
  simp only[Bool.not_eq_false']at hc7;have hbz:qS r r.bars[i]! =0:=by rw[qS,if_neg (fun h=>h hc6),if_neg (by rw[hc7];simp)]
  refine ba ?_;exact⟨i+1,⟨by omega,by rw[hr,mT (by omega) hbz]⟩,by omega,(ek [(0,0)])⟩
 refine aA ?_;have hb0:qq r=(0,0):=by rw[hr,mS (by omega)]
 refine ay ?_;refine aj (hc:=h213 r.feats hp0.2.2.2) ?_;refine ay ?_;refine aq (fun hc8=>?_) (fun hc8=>?_)
 ·try simp only[hX]at hc8
  refine aT ?_;refine b7 (aR (congrArg (D.int .i64) ?_) (congrArg (D.int .i64) ?_));all_goals
   have hq:cb r=(11,0):=by
    exact lP hc0 hc1 (by omega) (by omega) (Ek hn0 hb0 hc8) (by decide)
   rw[hq];first|done|rfl
 simp only[Bool.not_eq_false']at hc8;refine aT ?_;intro u3;refine ay ?_;refine br hm (ι:=Nat) (fun i=>(.un::.un::.un::⟨true,.ptr 0 9 0 0⟩::.un::.un::.un::.un::.un::.un::.un::.un::.un::.un::.un::.un::.un::.un::.un::.un::.un::.un::.un::.un::.un::⟨true,.int .i64 (i:Nat)⟩::⟨true,.int .i64 (r.feats.length:Nat)⟩::.un::⟨true,.sl 2 (r.feats.map bo.D)⟩::.un::.un::.un::.un::.un::.un::.un::.un::.un::.un::[])) (fun i=>[(0,.buf 9 [Rec.D r])]) 42 (fun i=>i≤r.feats.length∧pJ r=eM (fun i=>nU r r.feats[i]!.of) i r.feats.length) (fun i=>r.feats.length-i) 0 ⟨by omega,rfl⟩ (ek [(0,0)]) ?_;rintro i ⟨hi,hr⟩;refine az ?_;refine cI (fun hc9=>?_) fun hc9=>?_
 ·refine aQ ?_;first|refine ca (v:=(bo.D _)) ?_|refine gA (v:=(bo.D _)) ?_
  refine ay ?_;refine aF (bo.D r.feats[i]!) (he:=by exact rfl) ?_;refine aQ ?_;intro u4;refine ay ?_;refine pd hm (ι:=Nat) (fun j=>(.un::.un::.un::⟨true,.ptr 0 9 0 0⟩::.un::.un::.un::.un::.un::.un::.un::.un::.un::.un::.un::.un::.un::.un::.un::.un::.un::.un::.un::.un::.un::⟨true,.int .i64 (i:Nat)⟩::⟨true,.int .i64 (r.feats.length:Nat)⟩::.un::⟨true,.sl 2 (r.feats.map bo.D)⟩::.un::⟨true,.int .i64 (j:Nat)⟩::⟨true,.int .i64 (r.feats[i]!.of.length:Nat)⟩::.un::⟨true,.sl 1 (r.feats[i]!.of.map D.str)⟩::.un::.un::.un::⟨true,.int .i64 (i:Nat)⟩::.un::[])) (fun j=>[(0,.buf 9 [Rec.D r])]) 53 (fun j=>j≤r.feats[i]!.of.length∧nU r r.feats[i]!.of=fO (fun j=>iL r r.feats[i]!.of[j]!) j r.feats[i]!.of.length) (fun j=>r.feats[i]!.of.length-j) 0 ⟨by omega,rfl⟩ (ek [(0,0)]) ?_;rintro j ⟨hj,hjr⟩;refine az ?_;refine cI (fun hc10=>?_) fun hc10=>?_
  ·refine jB ?_;refine aj (hc:=h214 r r.feats[i]!.of[j]! ((hp0.2.2.2 _ (bG (by omega))).2.2 _ (bG (by omega)))) ?_;refine aT ?_;refine fN (fun hc11=>?_) fun hc11=>?_
   ·refine fG ?_;refine b7 (aR (congrArg (D.int .i64) ?_) (congrArg (D.int .i64) ?_));all_goals
     have hq:cb r=(iL r r.feats[i]!.of[j]!,((i:Nat):Int)):=by
      have hie:nU r r.feats[i]!.of=iL r r.feats[i]!.of[j]! :=by rw[hjr,sc (by omega) hc11]
      exact lP hc0 hc1 (by omega) (by omega) (sS hn0 hb0 hc8 (by rw[hr,kP (f:=(fun i=>nU r r.feats[i]!.of)) (by omega) (by rw[hie];exact hc11),hie])) hc11
     rw[hq];first|done|rfl
   refine ba ?_;exact⟨j+1,⟨by omega,by rw[hjr,pL (by omega) hc11]⟩,by omega,(ek [(0,0)])⟩
  refine bY ?_;exact⟨i+1,⟨by omega,by rw[hr,mT (f:=(fun i=>nU r r.feats[i]!.of)) (by omega) (by rw[hjr,pK (by omega)])]⟩,by omega,(ek [(0,0)])⟩
 refine aA ?_;have hpz:eg r=(0,0):=sS hn0 hb0 hc8 (by rw[hr,mS (by omega)]);have hgd:su r:=⟨⟨hc0,hc1⟩,⟨by omega,by omega⟩,hpz⟩;refine ax ?_;refine aj (hc:=h215 r ⟨hgd,hp0⟩) ?_;refine ax ?_;intro u5;refine ay ?_;refine cI (fun hc12=>?_) fun hc12=>?_
 ·refine aT ?_;refine b7 (aR (congrArg (D.int .i64) ?_) (congrArg (D.int .i64) ?_));all_goals
   have hq:cb r=(3,0):=by
    rw[r7 hc0 hc1 (by omega) (by omega) hpz,if_pos (by omega)]
   rw[hq];first|done|rfl
 refine aT ?_;refine b7 (aR (congrArg (D.int .i64) ?_) (congrArg (D.int .i64) ?_));all_goals
  have hq:cb r=(0,0):=by
   rw[r7 hc0 hc1 (by omega) (by omega) hpz,if_neg (by omega)]
  rw[hq];first|done|rfl
def C70 (Γ:Ctx):Prop:=∀(r:Rec),(jO r)→Γ.pre 70 [Rec.D r]∧Γ.val 70 [Rec.D r]=.tup [.int .i64 (cb r).1,.int .i64 (cb r).2]
end Go.Abs
end
section
namespace Go.Abs
open Go
def wu:aB:=⟨1,12,[⟨1,some (9,true)⟩,⟨2,none⟩,⟨3,none⟩],[[.a,.a,.a,.a,.a,.a,.sl 3 [.sl 4 [.a,.a,.sl 1 [.a],.a],.a,.a],.sl 3 [.a,.a,.a],.sl 2 [.a,.sl 1 [.a]]],[.a],[.a]],(sq (rg [gb 9 (.c (.agg [.str [],.int .i64 0,.int .i64 0,.int .i64 0,.str [],.str [],.ar,.ar,.ar])),gm bD,gm bD] [(1,0),(2,1),(3,2)]) (sq (sq (r1 [gm s0,wK l0,dz l1 (i6 4096)] 4 2) (.cond s4 (sq (rg [gn (.build [.str [],.int .i64 0,.int .i64 0,.int .i64 0,.str [],.str [],.ar,.ar,.ar] []),gt 9 s1 l0,gm kd,gm bD] [(2,2),(3,3)]) .ret) .skip)) (sq (r1 [gm s0,gx 124 [l0,(cs [10])] iK,gm l1] 5 2) (sq (r1 [gm s5,gm s5,gl l1,ff l2 b8,gn (.slA 1 l0 none (some l3)),gn (.build [.ar,.int .i64 0] [(0,1,l4)]),gb 2 l5,gm l6] 6 7) (sq (rg [gm s6,gn (.callF 222 l0 [] []),gm l1,ge l2 0,ge l2 1,gb 9 (.c (.agg [.str [],.int .i64 0,.int .i64 0,.int .i64 0,.str [],.str [],.ar,.ar,.ar])),gt 9 l5 l3,gm l4] [(9,5),(7,7)]) (sq (sq (r2 [gm s7,om l0,gm l1,eV 2 s6,cx 2 (.nilck l3),ko 2 1 l4,lB 2 l5,eV 2 s6,cx 2 (.nilck l7),ko 2 0 l8,lB 2 l9,cx 2 (.len l10),cx 2 (ov l6 jK),fI l2 ll,gm nn,eV 14 s5,eV 14 s5,cx 14 (.len rE),cx 14 (lL wL b8),cx 14 (.ia 1 pk xF),lB 14 zp,cx 14 (eR BM cse),fI nX CI] 8 22) (.cond s8 (sq (rt [gn (.build [.str [],.int .i64 0,.int .i64 0,.int .i64 0,.str [],.str [],.ar,.ar,.ar] []),gm s6,gc l1,gf 1 l2,gn (.ldI 1 false l3),av l4 b8,gt 9 s1 l0,gm kp,gm l5] [(2,7),(3,8)]) .ret) .skip)) (sq (sq (r1 [gk 9 true s9,gx 70 [l0] [[.a,.a,.a,.a,.a,.a,.sl 3 [.sl 4 [.a,.a,.sl 1 [.a],.a],.a,.a],.sl 3 [.a,.a,.a],.sl 2 [.a,.sl 1 [.a]]]],gm l1,ge l2 0,ge l2 1,gm l3,gm l4] 10 5) (sq (r1 [gm lr,ct l0 bD] 11 1) (.cond oo (sq (rg [gn (.build [.str [],.int .i64 0,.int .i64 0,.int .i64 0,.str [],.str [],.ar,.ar,.ar] []),gm lr,gt 9 s1 l0,gm l1,gm bD] [(2,3),(3,4)]) .ret) .skip))) (sq (rg [gk 9 true s9,gt 9 s1 l0,gm bD,gm bD] [(2,2),(3,3)]) .ret))))))))⟩
def w76 {Γ:Ctx}(hm:(Γ.at 0).bp)(h70:C70 Γ)(h124:CN Γ)(h222:J8 Γ)(s:ah)   :ef Γ wu (.tup [Rec.D (fV s).1,.int .i64 (fV s).2.1,.int .i64 (fV s).2.2]) [.str s]:=by
 show bz _ _ _ [⟨_,_⟩,_,_,_,_,_,_,_,_,_,_,_] _;refine ak ?_;refine bY ?_;intro u0;refine ay ?_;refine aq (fun hc0=>?_) (fun hc0=>?_)
 ·simp only[decide_eq_true_eq]at hc0;have hrr:fV s=(nq,3,0):=by unfold fV;rw[if_pos (by omega)]
  rw[hrr];refine ay ?_;refine bn cU ?_;refine aF cU (he:=by exact rfl) ?_;refine az ?_;refine kH [(0,.buf 9 [Rec.D nq])] (.bf ae (.cons oX .nil) .nil) ?_;refine ax ?_;refine b7 (jQ ?_ (congrArg (D.int .i64) ?_) (congrArg (D.int .i64) ?_));all_goals rfl
 simp only[decide_eq_false_iff_not]at hc0;have hsp:=fq 10 s [];have hsp:1≤(ai s 10).length:=hsp;have hsl:=cL s 10;refine az ?_;refine aj (v:=.sl 1 ((ai s 10).map D.str)) (hc:=h124 s 10 (by omega)) ?_;refine aT ?_;intro u1;refine ax ?_;refine sY ((ai s 10).length-1) (hj:=fun _=>by omega) (hb:=fun _=>by omega) ?_;refine bn (Ld.D ⟨((ai s 10).take ((ai s 10).length-1)),0⟩) ?_;refine aA ?_;generalize hLS:((ai s 10).take ((ai s 10).length-1))=LS;have hLl:LS.length=(ai s 10).length-1:=by rw[←hLS,List.length_take];omega
 have hLm:vA LS:=fun t ht=>by
  rw[←hLS]at ht;have:=dd s 10 (List.mem_of_mem_take ht);omega
 have hsm0:(⟨LS,0⟩:Ld).sm:=⟨⟨Nat.zero_le _,by simp only;omega⟩,hLm⟩;obtain⟨hrs,hsf⟩:=GY hLm;have hsfl:=hsf.length_le;refine ax ?_;refine iW (v:=.tup [Rec.D (en LS).1,.bool (p9 LS).isSome]) (e:=Ld.D ((⟨LS,0⟩:Ld).to (en LS).2)) (hc:=h222 ⟨LS,0⟩ hsm0) ?_;refine ax ?_;refine fC (Rec.D _) ?_;refine ay ?_;refine aF (Rec.D (en LS).1) (he:=by exact rfl) ?_;refine jB ?_;refine ch (v:=.int .i64 ((LS.length-(en LS).2.length:Nat):Int)) ?_;refine az ?_;refine ch (v:=.sl 1 (LS.map D.str)) ?_;refine nr ?_;refine aQ ?_;refine nr ?_;refine ax ?_;refine cE ((ai s 10).length-1) (hj:=fun _=>by omega) (hb:=fun _=>by omega) ?_;refine ca (v:=.str (ai s 10)[(ai s 10).length-1]!) (hi:=fun _=>by omega) ?_;refine az ?_;refine aq (fun hc1=>?_) (fun hc1=>?_)
 ·simp only[Bool.or_eq_true,Bool.not_eq_true',decide_eq_true_eq,decide_eq_false_iff_not]at hc1;have hrr:fV s=(nq,2,((LS.length-(en LS).2.length:Nat):Int)+1):=by
   unfold fV;rw[if_neg (by omega)];simp only[hLS];rw[if_pos];rcases hc1 with(h|h)|h
   ·exact .inl h
   ·refine .inr (.inl fun e=>?_);rw[e]at h;simp only[List.length_nil]at h;omega
   ·exact .inr (.inr h)
  rw[hrr];refine ax ?_;refine dT 15 (he:=by simp only[lg,gp,j9,lY,nR,bK,Nat.reduceEqDiff,if_true,if_false,and_self,true_and,and_true,false_and,and_false,Nat.zero_add,List.length_map,Nat.le_refl,List.drop_zero,aH,reduceCtorEq,List.length_cons,List.length_nil,Nat.reduceAdd,Nat.reduceLeDiff,Ld.D,cU,ku];exact rfl) (hm:=by simp only[lg,gp,j9,lY,nR,bK,Nat.reduceEqDiff,if_true,if_false,and_self,true_and,and_true,false_and,and_false,Nat.zero_add,List.length_map,Nat.le_refl,List.drop_zero,aH,reduceCtorEq,List.length_cons,List.length_nil,Nat.reduceAdd,Nat.reduceLeDiff,Ld.D,cU,Rec.D];exact rfl) ?_;refine ax ?_;refine bn cU ?_;refine az ?_;refine zM (v:=.int .i64 ((LS.length-(en LS).2.length:Nat):Int)) ?_;refine ax ?_;refine aF cU (he:=by exact rfl) ?_;refine az ?_;refine kH [(0,.buf 9 [Rec.D nq]),(22,.buf 9 [Rec.D (en LS).1])] (.bf ae (.cons oX .nil) (.id ae .nil)) ?_;refine ax ?_;refine b7 (jQ ?_ (congrArg (D.int .i64) ?_) (congrArg (D.int .i64) ?_));all_goals rfl
 simp only[Bool.or_eq_false_iff,Bool.not_eq_false',decide_eq_true_eq,decide_eq_false_iff_not]at hc1;have hrr:fV s=if(cb (en LS).1).1≠0 then(nq,(cb (en LS).1).1,0)else((en LS).1,0,0):=by
  unfold fV;rw[if_neg (by omega)];simp only[hLS];rw[if_neg];rintro(h|h|h)
  ·rw[hc1.1.1]at h;cases h
  ·exact h (List.eq_nil_of_length_eq_zero (by have:=hc1.1.2;omega))
  ·exact h hc1.2
 rw[hrr];refine az ?_;refine cA (d:=Rec.D (en LS).1) ?_;refine aj (hc:=h70 (en LS).1 hrs) ?_;refine fG ?_;refine aq (fun hc2=>?_) (fun hc2=>?_)
 ·simp only[Bool.not_eq_true',decide_eq_false_iff_not]at hc2;rw[if_pos hc2];refine ay ?_;refine bn cU ?_;refine ax ?_;refine aF cU (he:=by exact rfl) ?_;refine az ?_;refine kH [(0,.buf 9 [Rec.D nq]),(15,.buf 2 [Ld.D ((⟨LS,0⟩:Ld).to (en LS).2)]),(22,.buf 9 [Rec.D (en LS).1])] (.bf ae (.cons oX .nil) (.id ae (.id ae .nil))) ?_;refine ax ?_;refine b7 (jQ ?_ (congrArg (D.int .i64) ?_) (congrArg (D.int .i64) ?_));all_goals rfl
 simp only[Bool.not_eq_false',decide_eq_true_eq]at hc2;rw[if_neg (by rw[hc2];simp)];refine ay ?_;refine cA (d:=Rec.D (en LS).1) ?_;refine aF (Rec.D (en LS).1) (he:=by exact rfl) ?_;refine aA ?_;refine b7 (jQ ?_ (congrArg (D.int .i64) ?_) (congrArg (D.int .i64) ?_));all_goals rfl
def C76 (Γ:Ctx):Prop:=∀(s:ah),Γ.pre 76 [.str s]∧Γ.val 76 [.str s]=.tup [Rec.D (fV s).1,.int .i64 (fV s).2.1,.int .i64 (fV s).2.2]
end Go.Abs
end
namespace Go.Abs
end Go.Abs
section
namespace Go.Abs
open Go
end Go.Abs
end
section
namespace Go.Abs
def RdS.ok (x:RdS):Prop:=(x.st=0→x.r.needs=[]∧x.r.bars=[]∧x.r.feats=[])∧((x.st=2∨x.st=3)→x.r.needs≠[])∧(x.st=5→x.r.bars≠[])
end Go.Abs
namespace Go.Abs
end Go.Abs
end
section
namespace Go.Abs
def FC (ob:yR):Prop:=∀(σ:List (Nat×Nat))(l l':Nat)(w:List ah)(n:Nat)(b:Bool),j6 0 σ l=some l'→qJ 0 σ (ob w (.own l 5 0 n) b)=some (ob w (.own l' 5 0 n) b)
def mj:FC dZ:=fun σ l l' w n b h=>by simp only[dZ,qJ,oZ,CL,h]
def Jz:D→Nat
 | .agg [.sl _ ws,_,_]=>ws.length
 | .agg [.sl _ ws,.int _ i,_,_]=>ws.length-i.toNat
 |_=>0
def DT (c:List D→Nat)(ds:List D)(st:St):Nat:=match ds with
 | .ptr l _ _ _::TN=>(match look st.m l with
  |some (.buf _ [o])=>6*Jz o+c TN
  |_=>0)
 |_=>0
def G1 (w:List ah)(X:D)(b:Bool):Jz (dZ w X b)=w.length:=by simp[Jz,dZ]
def jq {c:List D→Nat}{l k nx:Nat}{TN:List D}{m:List (Nat×aU)}{w:List ah}{X:D}{b:Bool}(h:look m l=some (.buf k [dZ w X b])):DT c (.ptr l k 0 0::TN) ⟨nx,m⟩=6*w.length+c TN:=by
 simp only[DT,h,G1]
def zB (nd:List Nd):aG (nd.map Nd.D)=true:=bm (fun _=>rfl) _
section
variable [bQ] {P:Program} {ν:List (Nat×Nat)} {bx:List Nat} {t:List (Nat×ng)} {fid n key u k:Nat} {af:aB} {ob:yR} {TN:List D} {w:List ah} {nd:List Nd} {b:Bool} {lp ln nx:Nat} {m:List (Nat×aU)} {K:D→St→Prop} {Pp:PO→Prop} {V:PO→D}
def Eo (hob:FC ob)(hk5:k≠5)(has:aG TN=true)(h1:look m lp=some (.buf k [ob w (.own ln 5 0 nd.length) b]))(h2:look m ln=some (.buf 5 (nd.map Nd.D))):
  lp≠ln∧(∀i,i<(D.ptr lp k 0 0::TN).length→Ff 0 [(lp,0),(ln,1)] ((D.ptr lp k 0 0::TN).getD i .any) ((D.ptr 0 k 0 0::TN).getD i .any))∧eB 0 2 [(lp,0),(ln,1)]=true∧(∀l i,(l,i)∈[(lp,0),(ln,1)]→look m l≠none)∧
   ∀i bb,look [(0,.buf k [ob w (.own 1 5 0 nd.length) b]),(1,.buf 5 (nd.map Nd.D))] i=some bb→∃l b',(l,i)∈[(lp,0),(ln,1)]∧look m l=some b'∧nu 0 [(lp,0),(ln,1)] b' bb:=by
 have hne:lp≠ln:=by
  rintro rfl;rw[h1]at h2;exact hk5 (aU.buf.inj (Option.some.inj h2)).1
 have hb:Nat.beq lp ln=false:=by cases h:Nat.beq lp ln with
  |false=>rfl
  |true=>exact absurd (Nat.eq_of_beq_eq_true h) hne
 have hb':Nat.beq ln lp=false:=by cases h:Nat.beq ln lp with
  |false=>rfl
  |true=>exact absurd (Nat.eq_of_beq_eq_true h).symm hne
 refine⟨hne,fun i hi=>?_, ?_,fun l i h=>?_,fun i bb h=>?_⟩
 ·match i with
  |0=>exact .inr (.inl (by simp[qJ,CL,j6]))
  |i+1=>exact .inl ⟨rfl,bO has i⟩
 ·simp[eB,hb,hb'];rfl
 ·rcases List.mem_cons.1 h with h|h
  ·obtain⟨rfl,rfl⟩:=Prod.mk.inj h;rw[h1];simp
  ·obtain⟨rfl,rfl⟩:=Prod.mk.inj (List.mem_singleton.1 h);rw[h2];simp
 ·simp only[look]at h;split at h
  ·rename_i e;subst e;obtain rfl:=Option.some.inj h;exact⟨lp,_,.head _,h1,rfl,.inr (.inl (by simp only[oZ,hob _ ln 1 w nd.length b (show j6 0 [(lp,0),(ln,1)] ln=some 1 by simp[j6,hb])]))⟩
  ·split at h
   ·rename_i e;subst e;obtain rfl:=Option.some.inj h;exact⟨ln,_,.tail _ (.head _),h2,rfl,.inl ⟨rfl,zB nd⟩⟩
   ·cases h
def gQ (hob:FC ob)(hk5:k≠5)(has:aG TN=true)(hV:∀o,(V o).aI=true)(hmix:P.follows .mixedOrders=true)(hC:CV P ν bx fid af)(hnp:TN.length+1=af.np)
  (h1:look m lp=some (.buf k [ob w (.own ln 5 0 nd.length) b])) (h2:look m ln=some (.buf 5 (nd.map Nd.D))) (h3:lp<nx) (h4:ln<nx)
  (hK:∀o,Pp o→K (V o) ⟨nx+1,(nx,.buf 5 (o.nd.map Nd.D))::bN (bK m ln) lp (.buf k [ob o.w (.own nx 5 0 o.nd.length) o.bad])⟩)
  (hw:bz ((under t key u).at 2) af.body (nD af (yS k ob Pp V)) (et af (.ptr 0 k 0 0::TN)) ⟨2,[(0,.buf k [ob w (.own 1 5 0 nd.length) b]),(1,.buf 5 (nd.map Nd.D))]⟩):lI P ν bx (under t key u) fid (.ptr lp k 0 0::TN) ⟨nx,m⟩ K:=by
 obtain⟨hne,g2,g3,g4,g5⟩:=Eo hob hk5 has h1 h2;refine xz (σi:=[(lp,0),(ln,1)]) (cs:=.ptr 0 k 0 0::TN) (fun q=>aN t key u q) hmix hC (by simp) g2 (by simpa using hnp) g3 g4 g5 hw ?_;rintro d m1 ⟨o,j,hj,hP,rfl,e0,ej⟩;have hb0:Nat.beq 0 j=false:=by cases j<;>first|omega|rfl
 have hbj:Nat.beq j 0=false:=by cases j<;>first|omega|rfl
 have hbl:Nat.beq lp nx=false:=by cases h:Nat.beq lp nx with
  |false=>rfl
  |true=>have:=Nat.eq_of_beq_eq_true h;omega
 have hbl':Nat.beq nx lp=false:=by cases h:Nat.beq nx lp with
  |false=>rfl
  |true=>have:=Nat.eq_of_beq_eq_true h;omega
 refine⟨[(0,lp),(j,nx)],j+1,_,V o,⟨g3, ?_,Nat.le_succ _,g4, ?_,g5, ?_⟩,.inl ⟨rfl,hV o⟩,hK o hP⟩
 ·simp[eB,hbj,hb0,hbl,hbl'];omega
 ·intro i l h;rcases List.mem_cons.1 h with h|h
  ·obtain⟨rfl,rfl⟩:=Prod.mk.inj h;exact .inl (.head _)
  ·obtain⟨rfl,rfl⟩:=Prod.mk.inj (List.mem_singleton.1 h);exact .inr (Nat.le_refl _)
 ·intro l bb h;simp only[look]at h;split at h
  ·rename_i e;subst e;obtain rfl:=Option.some.inj h;exact .inl ⟨j,_,.tail _ (.head _),ej,rfl,.inl ⟨rfl,zB _⟩⟩
  ·rename_i hln;rw[bh]at h;split at h
   ·rename_i e;subst e;obtain rfl:=Option.some.inj h;exact .inl ⟨0,_,.head _,e0,rfl,.inr (.inl (by simp only[oZ,hob _ j nx o.w o.nd.length o.bad (show j6 0 [(0,l),(j,nx)] j=some nx by simp[j6,hb0])]))⟩
   ·rename_i hlp;rw[dL]at h;split at h
    ·cases h
    ·rename_i hl2;refine .inr ⟨by simp only[jm,if_neg (fun e=>hlp (Eq.symm e)),if_neg hln],fun i hi=>?_,h⟩;rcases List.mem_cons.1 hi with hi|hi
     ·exact hlp (Prod.mk.inj hi).1
     ·exact hl2 (Prod.mk.inj (List.mem_singleton.1 hi)).1
def Ce (hob:FC ob)(hk5:k≠5)(has:aG TN=true)(hV:∀o,(V o).aI=true)(hmix:P.follows .mixedOrders=true)(hC:CV P ν bx fid af)(hnp:TN.length+1=af.np)
  (h1:look m lp=some (.buf k [ob w (.own ln 5 0 nd.length) b])) (h2:look m ln=some (.buf 5 (nd.map Nd.D))) (h3:lp<nx) (h4:ln<nx)
  (hK:∀o,Pp o→K (V o) ⟨nx,bN m lp (.buf k [ob o.w (.own ln 5 0 nd.length) o.bad])⟩)
  (hw:bz ((under t key u).at 2) af.body (nD af (Hp k ob nd Pp V)) (et af (.ptr 0 k 0 0::TN)) ⟨2,[(0,.buf k [ob w (.own 1 5 0 nd.length) b]),(1,.buf 5 (nd.map Nd.D))]⟩):lI P ν bx (under t key u) fid (.ptr lp k 0 0::TN) ⟨nx,m⟩ K:=by
 obtain⟨hne,g2,g3,g4,g5⟩:=Eo hob hk5 has h1 h2;refine xz (σi:=[(lp,0),(ln,1)]) (cs:=.ptr 0 k 0 0::TN) (fun q=>aN t key u q) hmix hC (by simp) g2 (by simpa using hnp) g3 g4 g5 hw ?_;rintro d m1 ⟨o,hP,rfl,e0,ej⟩;have hbl:Nat.beq lp ln=false:=by cases h:Nat.beq lp ln with
  |false=>rfl
  |true=>exact absurd (Nat.eq_of_beq_eq_true h) hne
 have hbl':Nat.beq ln lp=false:=by cases h:Nat.beq ln lp with
  |false=>rfl
  |true=>exact absurd (Nat.eq_of_beq_eq_true h).symm hne
 refine⟨[(0,lp),(1,ln)],2,⟨nx,bN m lp (.buf k [ob o.w (.own ln 5 0 nd.length) o.bad])⟩,V o,⟨g3, ?_,Nat.le_refl _,g4, ?_,g5, ?_⟩,.inl ⟨rfl,hV o⟩,hK o hP⟩
 ·simp[eB,hbl,hbl'];exact⟨h3,rfl,h4⟩
 ·intro i l h;rcases List.mem_cons.1 h with h|h
  ·obtain⟨rfl,rfl⟩:=Prod.mk.inj h;exact .inl (.head _)
  ·obtain⟨rfl,rfl⟩:=Prod.mk.inj (List.mem_singleton.1 h);exact .inl (.tail _ (.head _))
 ·intro l bb h;simp only at h;rw[bh]at h;split at h
  ·rename_i e;subst e;obtain rfl:=Option.some.inj h;exact .inl ⟨0,_,.head _,e0,rfl,.inr (.inl (by simp only[oZ,hob _ 1 ln o.w nd.length o.bad (show j6 0 [(0,l),(1,ln)] 1=some ln from rfl)]))⟩
  ·rename_i hlp;by_cases hl2:l=ln
   ·subst hl2;rw[h2]at h;obtain rfl:=Option.some.inj h;exact .inl ⟨1,_,.tail _ (.head _),ej,rfl,.inl ⟨rfl,zB _⟩⟩
   ·refine .inr ⟨by simp only[jm,if_neg (fun e=>hlp (Eq.symm e)),if_neg (fun e=>hl2 (Eq.symm e))],fun i hi=>?_,h⟩;rcases List.mem_cons.1 hi with hi|hi
    ·exact hlp (Prod.mk.inj hi).1
    ·exact hl2 (Prod.mk.inj (List.mem_singleton.1 hi)).1
def lM {a b:Nat}(h:a≠b):Nat.beq a b=false:=by
 cases h2:Nat.beq a b with
 |false=>rfl
 |true=>exact absurd (Nat.eq_of_beq_eq_true h2) h
def tj {m:List (Nat×aU)}{l lw:Nat}(h:l≠lw):dn (bK m lw) l=match look m l with
 |some (.bld (some l2) _ _)=>bK (bK m lw) l2
 |_=>bK m lw:=by
 haveI:bQ:={gd:=fun _=>True,le:=fun _ _ _ _ _=>trivial}
 unfold dn;rw[dL,if_neg h];cases look m l with
 |none=>rfl
 |some b=>cases b with
  |bld o n u=>cases o<;>rfl
  |_=>rfl
def BU {ws:List ah}{s:ah}{l lw:Nat}(hmix:P.follows .mixedOrders=true)(hC:CV P ν bx fid af)(hnp:2=af.np)
  (h1:nt m l s) (h2:look m lw=some (.buf 1 (ws.map D.str))) (h3:l<nx) (h4:lw<nx) (hK:K (.tup []) ⟨nx+1,lN (bK m lw) l nx (s++bt ws)⟩)
  (hw:∀m0,nt m0 0 s→look m0 1=some (.buf 1 (ws.map D.str))→bz ((under t key u).at 3) af.body (nD af (fun d m=>d=.tup []∧look m 0=some (.bld (some 9) (s++bt ws).length true)∧look m 9=some (.row (s++bt ws)))) (et af [.ptr 0 2 0 0,.own 1 1 0 ws.length]) ⟨3,m0⟩):
  lI P ν bx (under t key u) fid [.ptr l 2 0 0,.own lw 1 0 ws.length] ⟨nx,m⟩ K:=by
 have hlw:l≠lw:=by
  rintro rfl;rcases h1 with⟨u,h,_⟩|⟨l2,u,h,_⟩<;>rw[h2]at h<;>cases h
 have hnl:aG (ws.map D.str)=true:=bm (fun _=>rfl) _;have b1:=lM hlw;have b2:=lM (Ne.symm hlw);have b3:=lM (show l≠nx by omega);have b4:=lM (show nx≠l by omega)

 have fin:∀(σi:List (Nat×Nat)) (m0:List (Nat×aU)),eB 0 3 σi=true→(l,0)∈σi→(∀l i,(l,i)∈σi→look m l≠none)→(∀i b,look m0 i=some b→∃l b',(l,i)∈σi∧look m l=some b'∧nu 0 σi b' b)→
   (∀l' b,look (dn (bK m lw) l) l'=some b→l'≠l→look m l'=some b∧∀i,(l',i)∉σi)→∀d m1,(d=.tup []∧look m1 0=some (.bld (some 9) (s++bt ws).length true)∧look m1 9=some (.row (s++bt ws)))→
   ∃(σo:List (Nat×Nat)) (q1:Nat) (st':St) (vd':D),Fr σi σo 3 q1 m0 m1 ⟨nx,m⟩ st'∧Ff 0 σo d vd'∧K vd' st':=by
  rintro σi m0 oki hm hlt hm0 hoff d m1 ⟨rfl,e0,e9⟩;refine⟨[(0,l),(9,nx)],10,⟨nx+1,lN (bK m lw) l nx (s++bt ws)⟩,.tup [],⟨oki, ?_,Nat.le_succ _,hlt, ?_,hm0, ?_⟩,.inl ⟨rfl,rfl⟩,hK⟩
  ·simp[eB,b3,b4];exact⟨by omega,rfl⟩
  ·intro i l' h;rcases List.mem_cons.1 h with h|h
   ·obtain⟨rfl,rfl⟩:=Prod.mk.inj h;exact .inl hm
   ·obtain⟨rfl,rfl⟩:=Prod.mk.inj (List.mem_singleton.1 h);exact .inr (Nat.le_refl _)
  ·intro l' bb h;simp only[lN,look]at h;split at h
   ·rename_i e;subst e;obtain rfl:=Option.some.inj h;exact .inl ⟨9,_,.tail _ (.head _),e9,rfl⟩
   ·rename_i hln;rw[bh]at h;split at h
    ·rename_i e;subst e;obtain rfl:=Option.some.inj h;exact .inl ⟨0,_,.head _,e0,⟨nx,rfl,rfl⟩,rfl,rfl⟩
    ·rename_i hl;obtain⟨g1,g2⟩:=hoff l' bb h hl;exact .inr ⟨by simp only[jm,if_neg (fun e=>hl (Eq.symm e)),if_neg hln],g2,g1⟩
 rcases h1 with⟨u,h1,rfl⟩|⟨l2,u,h1,h5⟩
 ·have g4:∀l' i,(l',i)∈[(l,0),(lw,1)]→look m l'≠none:=by
   intro l' i h;rcases List.mem_cons.1 h with h|h
   ·obtain⟨rfl,rfl⟩:=Prod.mk.inj h;rw[h1];simp
   ·obtain⟨rfl,rfl⟩:=Prod.mk.inj (List.mem_singleton.1 h);rw[h2];simp
  have g3:eB 0 3 [(l,0),(lw,1)]=true:=by simp[eB,b1,b2];rfl
  have g5:∀i b,look [(0,aU.bld none 0 u),(1,.buf 1 (ws.map D.str))] i=some b→∃l' b',(l',i)∈[(l,0),(lw,1)]∧look m l'=some b'∧nu 0 [(l,0),(lw,1)] b' b:=by
   intro i b h;simp only[look]at h;split at h
   ·rename_i e;subst e;obtain rfl:=Option.some.inj h;exact⟨l,_,.head _,h1,rfl,rfl,rfl⟩
   ·split at h
    ·rename_i e;subst e;obtain rfl:=Option.some.inj h;exact⟨lw,_,.tail _ (.head _),h2,rfl,.inl ⟨rfl,hnl⟩⟩
    ·cases h
  refine xz (σi:=[(l,0),(lw,1)]) (cs:=[.ptr 0 2 0 0,.own 1 1 0 ws.length]) (fun q=>aN t key _ q) hmix hC rfl ?_ hnp g3 g4 g5 (hw _ (.inl ⟨u,rfl,rfl⟩) rfl) (fin _ _ g3 (.head _) g4 g5 ?_)
  ·intro i hi
   match i,hi with
   |0,_=>exact .inr (.inl (by simp[qJ,CL,j6]))
   |1,_=>exact .inr (.inl (by simp[qJ,CL,j6,b1]))
  ·intro l' b h hl;rw[tj hlw]at h;simp only[h1]at h;rw[dL]at h;split at h
   ·cases h
   ·rename_i hw';refine⟨h,fun i hi=>?_⟩;rcases List.mem_cons.1 hi with hi|hi
    ·exact hl (Prod.mk.inj hi).1
    ·exact hw' (Prod.mk.inj (List.mem_singleton.1 hi)).1
 ·have c1:l2≠l:=by rintro rfl;rw[h1]at h5;cases h5
  have c2:l2≠lw:=by rintro rfl;rw[h2]at h5;cases h5
  have d1:=lM c1;have d2:=lM c2;have d3:=lM (Ne.symm c1);have d4:=lM (Ne.symm c2);have g4:∀l' i,(l',i)∈[(l,0),(lw,1),(l2,2)]→look m l'≠none:=by
   intro l' i h;rcases List.mem_cons.1 h with h|h
   ·obtain⟨rfl,rfl⟩:=Prod.mk.inj h;rw[h1];simp
   ·rcases List.mem_cons.1 h with h|h
    ·obtain⟨rfl,rfl⟩:=Prod.mk.inj h;rw[h2];simp
    ·obtain⟨rfl,rfl⟩:=Prod.mk.inj (List.mem_singleton.1 h);rw[h5];simp
  have g3:eB 0 3 [(l,0),(lw,1),(l2,2)]=true:=by simp[eB,b1,b2,d1,d2,d3,d4];exact⟨⟨rfl,rfl⟩,rfl⟩
  have g5:∀i b,look [(0,aU.bld (some 2) s.length u),(1,.buf 1 (ws.map D.str)),(2,.row s)] i=some b→∃l' b',(l',i)∈[(l,0),(lw,1),(l2,2)]∧look m l'=some b'∧nu 0 [(l,0),(lw,1),(l2,2)] b' b:=by
   intro i b h;simp only[look]at h;split at h
   ·rename_i e;subst e;obtain rfl:=Option.some.inj h;exact⟨l,_,.head _,h1,⟨2,by simp[j6,d3,d4],rfl⟩,rfl,rfl⟩
   ·split at h
    ·rename_i e;subst e;obtain rfl:=Option.some.inj h;exact⟨lw,_,.tail _ (.head _),h2,rfl,.inl ⟨rfl,hnl⟩⟩
    ·split at h
     ·rename_i e;subst e;obtain rfl:=Option.some.inj h;exact⟨l2,_,.tail _ (.tail _ (.head _)),h5,rfl⟩
     ·cases h
  refine xz (σi:=[(l,0),(lw,1),(l2,2)]) (cs:=[.ptr 0 2 0 0,.own 1 1 0 ws.length]) (fun q=>aN t key _ q) hmix hC rfl ?_ hnp g3 g4 g5 (hw _ (.inr ⟨2,u,rfl,rfl⟩) rfl) (fin _ _ g3 (.head _) g4 g5 ?_)
  ·intro i hi
   match i,hi with
   |0,_=>exact .inr (.inl (by simp[qJ,CL,j6]))
   |1,_=>exact .inr (.inl (by simp[qJ,CL,j6,b1]))
  ·intro l' b h hl;rw[tj hlw]at h;simp only[h1]at h;rw[dL]at h;split at h
   ·cases h
   ·rename_i hw2;rw[dL]at h;split at h
    ·cases h
    ·rename_i hw';refine⟨h,fun i hi=>?_⟩;rcases List.mem_cons.1 hi with hi|hi
     ·exact hl (Prod.mk.inj hi).1
     ·rcases List.mem_cons.1 hi with hi|hi
      ·exact hw' (Prod.mk.inj hi).1
      ·exact hw2 (Prod.mk.inj (List.mem_singleton.1 hi)).1
end
end Go.Abs
end
namespace Go.Abs
def qY {α:Type}{f:α→D}(hf:∀x y,f x=f y↔x=y):∀a b:List α,a.map f=b.map f↔a=b
 |[],[]=>by simp
 |[],_::_=>by simp
 |_::_,[]=>by simp
 |x::a,y::b=>by simp only[List.map_cons,List.cons.injEq,hf,qY hf a b]
def Gb (a b:Nat):((a:Nat):Int)=(b:Nat)↔a=b:=by omega
def iU8 (x y:UInt8):((x.toNat:Nat):Int)=(y.toNat:Nat)↔x=y:=(Gb _ _).trans UInt8.toNat_inj
def BH (a b:List ah):a.map D.str=b.map D.str↔a=b:=qY (fun _ _=>by simp) a b
def iInt (a b:List Int):a.map (D.int .i64)=b.map (D.int .i64)↔a=b:=qY (fun _ _=>by simp) a b
def iByt (a b:ah):(a.map fun c=>D.int .u8 c.toNat)=(b.map fun c=>D.int .u8 c.toNat)↔a=b:=qY (fun x y=>by rw[D.int.injEq,iU8];simp) a b
def iVer (a b:dw):dw.D a=dw.D b↔a=b:=by cases a;cases b;simp[dw.D]
def HD (a b:bw):bw.D a=bw.D b↔a=b:=by cases a;cases b;simp[bw.D,BH]
def DE (a b:List bw):a.map bw.D=b.map bw.D↔a=b:=qY HD a b
def HC (a b:bc):bc.D a=bc.D b↔a=b:=by cases a;cases b;simp[bc.D,DE]
def DC (a b:List bc):a.map bc.D=b.map bc.D↔a=b:=qY HC a b
def LG (a b:fZ):fZ.D a=fZ.D b↔a=b:=by cases a;cases b;simp[fZ.D]
def Hz (a b:List fZ):a.map fZ.D=b.map fZ.D↔a=b:=qY LG a b
def HB (a b:bo):bo.D a=bo.D b↔a=b:=by cases a;cases b;simp[bo.D,BH]
def DB (a b:List bo):a.map bo.D=b.map bo.D↔a=b:=qY HB a b
def iRec (a b:Rec):Rec.D a=Rec.D b↔a=b:=by
 obtain⟨n,⟨v1,v2,v3,v4,v5⟩,x,y,z⟩:=a;obtain⟨n',⟨w1,w2,w3,w4,w5⟩,x',y',z'⟩:=b;simp[Rec.D,DC,Hz,DB,and_assoc]
def LH (a b:bU):bU.D a=bU.D b↔a=b:=by
 obtain⟨n,p,v1,v2,v3,v4,v5⟩:=a;obtain⟨n',p',w1,w2,w3,w4,w5⟩:=b;simp[bU.D]
def HA (a b:List bU):a.map bU.D=b.map bU.D↔a=b:=qY LH a b
def iNd (a b:Nd):Nd.D a=Nd.D b↔a=b:=by cases a;cases b;simp[Nd.D]
def LI (a b:List Nd):a.map Nd.D=b.map Nd.D↔a=b:=qY iNd a b
def IL (a b:Alt):ou a=ou b↔a=b:=by simp[ou,HA]
def iRng (a b:vC):gV a=gV b↔a=b:=by simp[gV,qY IL]
def LF (a b:List Alt):a.map ou=b.map ou↔a=b:=qY IL a b
def iMrk (a b:Ho):jC a=jC b↔a=b:=by simp[jC,LI]
def iLd (a b:Ld):Ld.D a=Ld.D b↔a=b:=by cases a;cases b;simp[Ld.D,BH,Gb]
def iPr (w w':List ah)(x x':D)(b b':Bool):dZ w x b=dZ w' x' b'↔w=w'∧x=x'∧b=b':=by simp[dZ,BH]
def bC {A:RT→Prop}(h:A (fun ds d=>A fun ds' d'=>ds'=ds→d=d'):=by
 (repeat' first|apply And.intro|intro _)
 all_goals rename_i e
 all_goals (try simp only[List.cons.injEq,D.str.injEq,D.int.injEq,D.bool.injEq,D.sl.injEq,D.ref.injEq,D.agg.injEq,BH,iInt,iByt,iVer,HD,DE,HC,DC,LG,Hz,HB,DB,iRec,LH,HA,iNd,LI,IL,iRng,LF,iMrk,iPr,iU8,UInt8.toNat_inj,Gb,and_true,true_and,reduceCtorEq,and_false,false_and]at e)
 all_goals first|rfl|(simp only[e];done)|simp_all):KZ (vY A):=IC h
def FO {A:FT→Prop}(h:A (fun d ds v s=>A fun d' ds' v' s'=>d'=d→ds'=ds→v=v'∧s=s'):=by
 (repeat' first|apply And.intro|intro _)
 all_goals rename_i e' e
 all_goals (try simp only[List.cons.injEq,D.str.injEq,D.int.injEq,D.bool.injEq,D.sl.injEq,iLd,BH,iU8,UInt8.toNat_inj,Gb,and_true,true_and]at e e')
 all_goals first|rfl|(simp only[e,e'];done)|simp_all):rV (j0 A):=FP h
end Go.Abs
section
namespace Go.Abs
open Go
end Go.Abs
end
section
namespace Go.Abs
open Go
end Go.Abs
end
namespace Go.Abs
end Go.Abs
section
namespace Go.Abs
open Go
end Go.Abs
end
namespace Go.Abs
end Go.Abs
section
namespace Go.Abs
section
variable [bQ] {P:Program} {ν:List (Nat×Nat)} {bx:List Nat} {t:List (Nat×ng)} {fid n key u k:Nat} {af:aB} {TN:List D} {nx:Nat} {m:List (Nat×aU)} {K:D→St→Prop}
def Ct {a:D}{k q i:Nat}{es:List D}{m1:List (Nat×aU)}(ha:a.aI=true)(hes:aG es=true)(hmix:P.follows .mixedOrders=true)(hC:CV P ν bx fid af)(hnp:1=af.np)
  (hl:look m1 q=some (.buf k es)) (hK:K (.own nx k 0 i) ⟨nx+1,(nx,.buf k es)::m⟩) (hw:bz ((under t key u).at 0) af.body (nD af (One (.own q k 0 i) m1)) (et af [a]) ⟨0,[]⟩):lI P ν bx (under t key u) fid [a] ⟨nx,m⟩ K:=by
 refine xz (σi:=[]) (m0:=[]) (cs:=[a]) (fun q=>aN t key u q) hmix hC rfl ?_ hnp rfl (fun _ _ h=>by cases h) (fun _ _ h=>by cases h) hw ?_
 ·intro i hi
  match i,hi with
  |0,_=>exact .inl ⟨rfl,ha⟩
 ·rintro d m2 ⟨rfl,rfl⟩;refine⟨[(q,nx)],q+1,_,.own nx k 0 i,⟨rfl, ?_,Nat.le_succ _,(fun _ _ h=>by cases h), ?_,(fun _ _ h=>by cases h), ?_⟩,.inr (.inl (by simp[qJ,CL,j6])),hK⟩
  ·simp[eB]
  ·intro i l h;obtain⟨rfl,rfl⟩:=Prod.mk.inj (List.mem_singleton.1 h);exact .inr (Nat.le_refl _)
  ·intro l bb h;simp only[look]at h;split at h
   ·rename_i e;subst e;obtain rfl:=Option.some.inj h;exact .inl ⟨q,_,.head _,hl,rfl,.inl ⟨rfl,hes⟩⟩
   ·rename_i hn;exact .inr ⟨by simp only[jm,if_neg hn],(fun _ h=>by cases h),h⟩
end
end Go.Abs
end
namespace Go.Abs
def fH (l:List Int)(i:Int):Int:=if i<0∨(l.length:Int)≤i then 0 else l[i.toNat]!
def GO {v n:Int}(h:0<n)(h2:¬v.tmod n<0):v.tmod n=v%n:=by
 rw[Int.tmod_eq_emod];rw[Int.tmod_eq_emod]at h2;have h3:=Int.emod_nonneg v (show n≠0 by omega);have h4:=Int.emod_lt_of_pos v h;split at h2<;>split<;>first|omega|contradiction
def GN {v n:Int}(h:0<n)(h2:v.tmod n<0):v.tmod n+n=v%n:=by
 rw[Int.tmod_eq_emod]at h2⊢;have h3:=Int.emod_nonneg v (show n≠0 by omega);have h4:=Int.emod_lt_of_pos v h;have h5:(n.natAbs:Int)=n:=by omega
 split at h2<;>split<;>first|omega|contradiction
def cY (l:List Int)(i n:Int):Int:=fH l i%n
def cl (l:List Int)(i n:Int)(h:0<n):0≤cY l i n∧cY l i n<n:=⟨Int.emod_nonneg _ (by omega),Int.emod_lt_of_pos _ h⟩
def jb (v n:Int)(h:0<n):0≤v%n∧v%n<n:=⟨Int.emod_nonneg _ (by omega),Int.emod_lt_of_pos _ h⟩
def oD {α:Type} [Inhabited α]{q:α→D}(xs:List α){j:Nat}(h:j<xs.length):cut (xs.map q) (j*1) 1 false=q xs[j]! :=by
 show(xs.map q).getD (j*1) .any=_;rw[Nat.mul_one];exact getD_map h
def zu {α:Type} [Inhabited α]{q:α→D}(xs:List α){j n:Nat}(h:j<xs.length)(hn:(1==n)=false):lC (.agg (xs.map q)) n 1 (0+j*1) false=q xs[j]! :=by
 have hc:(D.agg (xs.map q)).cells=xs.map q:=by
  rfl
 unfold lC;rw[hn,hc,Nat.zero_add];exact oD xs h
def DZ:List ah:=[[97,112,112],[98],[99],[100],[101,45,50]]
def cD (n:Int):ah:=DZ[(n%5).toNat]!
def Hd:List ah:=[[120],[121],[122],[119,95,49]]
def ie (n:Int):ah:=Hd[(n%4).toNat]!
def zI:List Int:=[9,7,6,3,1,2]
def qU (l:List Int)(i:Int):bU:=⟨zI[(cY l i 6).toNat]!,3,⟨cY l (i+1) 3,cY l (i+2) 2,0,[],[]⟩⟩
def lZ (l:List Int)(i:Int):ah:=if(qU l i).op=9 then [42]else cP (qU l i)
def uC:List ah:=[[111,115],[97,114,99,104],[97,98,105]]
def Bl:List ah:=[[32,61,32],[32,33,61,32]]
def gw (l:List Int)(i:Int):ah:=if 2<cY l i 6 then []else uC[(cY l i 6).toNat]! ++Bl[(cY l (i+1) 2).toNat]! ++ie (1+cY l (i+1) 3)
def vw:List ah:=[[120],[121]]
def jY (l:List Int)(i:Int)(alone:Bool):List ah:=if alone=true∧2<cY l (i+5) 5 then vw.take (cY l (i+5) 5-2).toNat else []
def ic (l:List Int)(i own:Int)(alone:Bool):bw:=⟨cD (own+1+cY l i 4),lZ l (i+1),jY l i alone,decide (cY l (i+4) 3=0)⟩
def dj (l:List Int)(i:Int):Nat:=if cY l i 5=1 then 2 else 1
def oN (l:List Int)(i own:Int)(k:Nat):List bw:=(List.range k).map fun(k:Nat)=>ic l (i+1+6*(k:Nat)) own (decide ((dj l i:Int)=1))
def dS (l:List Int)(i own:Int):bc:=⟨oN l i own (dj l i),gw l (i+14),if cY l (i+16) 4=1 then ie (fH l (i+17))else []⟩
def Bx (l:List Int)(i own:Int)(k:Nat):oN l i own (k+1)=oN l i own k++[ic l (i+1+6*(k:Nat)) own (decide ((dj l i:Int)=1))]:=by
 unfold oN;rw[List.range_succ,List.map_append];rfl
def sk (l:List Int)(i:Int):dj l i≤2:=by
 unfold dj;split<;>omega
def gR (s:ah):List ah→Nat
 |[]=>0
 |a::r=>if Op.bytesLess a s=true then gR s r+1 else 0
def dE (l:List ah)(s:ah):List ah:=if gR s l<l.length∧l[gR s l]! =s then l else l.take (gR s l)++[s]++l.drop (gR s l)
def wg (s:ah):∀l:List ah,gR s l≤l.length
 |[]=>Nat.le_refl _
 |a::r=>by
  have:=wg s r;simp only[gR,List.length_cons];split<;>omega
def wh (s:ah):∀(l:List ah)(i:Nat),i<gR s l→Op.bytesLess l[i]! s=true
 |[],i,h=>by simp[gR]at h
 |a::r,i,h=>by
  simp only[gR]at h;split at h
  ·rename_i ha;cases i with
   |zero=>simpa using ha
   |succ i=>simpa using wh s r i (by omega)
  ·omega
def p7 (s:ah):∀l:List ah,gR s l<l.length→Op.bytesLess l[gR s l]! s=false
 |[],h=>by simp at h
 |a::r,h=>by
  simp only[gR]at h⊢;split
  ·rename_i ha;rw[if_pos ha]at h;simpa using p7 s r (by simpa using h)
  ·rename_i ha;simpa using ha
def y6 (n b:Int):Int:=IntKind.wrap .i64 (((BitVec.ofInt 64 (n.fdiv (2^(min b.toNat 64))))&&&(BitVec.ofInt 64 1)).toNat)
def jc:List ah:=[Hu,[120],[121],[122]]
def Ds (r:Rec)(n:Int)(of:List ah)(j:Nat):List ah:=if ¬r.needs[j]!.option=[]∧y6 n (3+(j:Nat))=1 then dE of ([63]++r.needs[j]!.option)else of
def Hw (r:Rec)(n:Int)(of:List ah)(j:Nat):List ah:=if r.needs[j]!.any.length=1∧y6 n (5+(j:Nat))=1 then dE of (r.needs[j]!.any[0]!.name++[47]++[120])else of
def Hx (r:Rec)(n:Int)(of:List ah)(j:Nat):List ah:=Hw r n (Ds r n of j) j
def lf (r:Rec)(n:Int)(j:Nat):List ah:=(List.range j).foldl (Hx r n) []
def F2 (l:List Int)(i:Int)(n:Int)(k:Nat)(of:List ah):List ah:=if(k<3∧y6 n 7=1)∧¬fH l (i+(k:Nat)+1)%3=0 then dE of jc[k+1]! else of
def IG (l:List Int)(i:Int)(r:Rec)(k:Nat):Option bo:=if fH l (i+(k:Nat))%3=0 then none else some ⟨jc[k]!,F2 l i (fH l (i+(k:Nat))) k (lf r (fH l (i+(k:Nat))) (min r.needs.length 2))⟩
def Dt (l:List Int)(i:Int)(r:Rec)(k:Nat):List bo:=(List.range k).filterMap (IG l i r)
def e8 (l:List Int)(i:Int)(r:Rec):List bo:=Dt l i r 4
def kl (r:Rec)(n:Int)(j:Nat):lf r n (j+1)=Hx r n (lf r n j) j:=by
 unfold lf;rw[List.range_succ,List.foldl_append];rfl
def IH {l:List Int}{i:Int}{r:Rec}{k:Nat}(h:fH l (i+(k:Nat))%3=0):Dt l i r (k+1)=Dt l i r k:=by
 unfold Dt;rw[List.range_succ,List.filterMap_append];simp[IG,h]
def As {l:List Int}{i:Int}{r:Rec}{k:Nat}{of:List ah}(h:¬fH l (i+(k:Nat))%3=0)(ho:F2 l i (fH l (i+(k:Nat))) k (lf r (fH l (i+(k:Nat))) (min r.needs.length 2))=of):Dt l i r (k+1)=Dt l i r k++[⟨jc[k]!,of⟩]:=by
 unfold Dt;rw[List.range_succ,List.filterMap_append];simp[IG,h,ho]
def ml (l:List ah)(s:ah):(dE l s).length≤l.length+1:=by
 unfold dE;split
 ·omega
 ·simp only[List.length_append,List.length_take,List.length_drop,List.length_cons,List.length_nil];omega
def F0 (r:Rec)(n:Int)(of:List ah)(j:Nat):(Ds r n of j).length≤of.length+1:=by
 unfold Ds;split
 ·exact ml _ _
 ·omega
def F1 (r:Rec)(n:Int)(of:List ah)(j:Nat):(Hw r n of j).length≤of.length+1:=by
 unfold Hw;split
 ·exact ml _ _
 ·omega
def vQ (r:Rec)(n:Int):∀j,(lf r n j).length≤2*j
 |0=>by simp[lf]
 |j+1=>by
  have h1:=vQ r n j;have h2:=F0 r n (lf r n j) j;have h3:=F1 r n (Ds r n (lf r n j) j) j;rw[kl,Hx];omega
def iY (n:Int):(cD n).length≤3:=by
 obtain⟨h1,h2⟩:=jb n 5 (by decide);unfold cD;have:(n%5).toNat<5:=by omega
 revert this;generalize (n%5).toNat=k;revert k;decide
def pQ (n:Int):(ie n).length≤3:=by
 obtain⟨h1,h2⟩:=jb n 4 (by decide);unfold ie;have:(n%4).toNat<4:=by omega
 revert this;generalize (n%4).toNat=k;revert k;decide
def BL (k:Nat)(h:k<3):(uC[k]!).length≤4:=by
 revert k;decide
def Di (k:Nat)(h:k<2):(Bl[k]!).length≤4:=by
 revert k;decide
def FR (l:List Int)(i:Int):(qU l i).v.sm:=⟨by simp[qU],by simp[qU]⟩
end Go.Abs
section
namespace Go.Abs
open Go
def zr:aB:=⟨2,5,[⟨2,none⟩],cr,(sq (r1 [gm bD] 2 0) (sq (r1 [gm s0,gm s1,gn (.bin .rem l0 l1),gm l2] 3 3) (sq (sq (r1 [gm s3,aV l0 bD] 4 1) (.cond s4 (r1 [gm s3,gm s1,av l0 l1,gm l2] 3 3) .skip)) (sq (r1 [gm s3,gm l0] 2 1) .ret))))⟩
def w478 {Γ:Ctx}(hm:(Γ.at 0).bp)  (v:Int)(n:Int)  (hp0:0<n∧n≤9223372036854775807):ef Γ zr (.int .i64 (v%n)) [.int .i64 v,.int .i64 n]:=by
 show bz _ _ _ [⟨_,_⟩,⟨_,_⟩,_,_,_] _;refine ak ?_;refine aQ ?_;refine AM (v.tmod n) (hn:=by intro _;omega) (hb:=fun _=>rfl) ?_;have ht:=z6 v n (by omega);refine ba ?_;refine cI (fun hc0=>?_) fun hc0=>?_
 ·refine fG ?_;refine gW ?_;exact GN hp0.1 hc0
 refine aT ?_;refine gW ?_;exact GO hp0.1 hc0
def CP (Γ:Ctx):Prop:=∀(v:Int)(n:Int),(0<n∧n≤9223372036854775807)→Γ.pre 478 [.int .i64 v,.int .i64 n]∧Γ.val 478 [.int .i64 v,.int .i64 n]=.int .i64 (v%n)
def Gp:aB:=⟨2,4,[⟨2,none⟩],cr,(sq (r1 [gm bD] 2 0) (sq (sq (r1 [gm s1,aV l0 bD,gm l1,eV 2 s1,eV 2 s0,cx 2 (.len l4),cx 2 (wZ l3 l5),fI l2 l6] 3 7) (.cond s3 (sq (r1 [gm bD] 2 0) .ret) .skip)) (sq (r1 [gm s0,gm s1,ga 1 l0 l1,gd l2,gm l3] 2 4) .ret)))⟩
def w479 {Γ:Ctx}(hm:(Γ.at 0).bp)  (l:List Int)(i:Int)   :ef Γ Gp (.int .i64 (fH l i)) [.sl 1 (l.map (D.int .i64)),.int .i64 i]:=by
 show bz _ _ _ [⟨_,_⟩,⟨_,_⟩,_,_] _;refine ak ?_;refine dp ?_;refine nr ?_;refine az ?_;refine cI (fun hc0=>?_) fun hc0=>?_
 ·refine aQ ?_;refine gW ?_;simp only[fH];rw[if_pos hc0]
 refine aA ?_;refine EB ?_;refine aA ?_;refine gW ?_;simp only[fH];rw[if_neg (by omega)]
def Fs (Γ:Ctx):Prop:=∀(l:List Int)(i:Int),Γ.pre 479 [.sl 1 (l.map (D.int .i64)),.int .i64 i]∧Γ.val 479 [.sl 1 (l.map (D.int .i64)),.int .i64 i]=.int .i64 (fH l i)
def BN:aB:=⟨3,4,[⟨3,none⟩],cr,(sq (r1 [gm bD] 3 0) (sq (r1 [gm s0,gm s1,gx 479 [l0,l1] [[.sl 1 [.a]],[.a]],gm s2,gx 478 [l2,l3] iK,gm l4] 3 5) .ret))⟩
def w228 {Γ:Ctx}(hm:(Γ.at 0).bp)(h478:CP Γ)(h479:Fs Γ)(l:List Int)(i:Int)(n:Int)  (hp0:0<n∧n≤9223372036854775807):ef Γ BN (.int .i64 (cY l i n)) [.sl 1 (l.map (D.int .i64)),.int .i64 i,.int .i64 n]:=by
 show bz _ _ _ [⟨_,_⟩,⟨_,_⟩,⟨_,_⟩,_] _;refine ak ?_;refine aQ ?_;refine aj (hc:=h479 l i) ?_;refine ax ?_;refine aj (hc:=h478 _ n hp0) ?_;refine az ?_;exact gW rfl
def A6 (Γ:Ctx):Prop:=∀(l:List Int)(i:Int)(n:Int),(0<n∧n≤9223372036854775807)→Γ.pre 228 [.sl 1 (l.map (D.int .i64)),.int .i64 i,.int .i64 n]∧Γ.val 228 [.sl 1 (l.map (D.int .i64)),.int .i64 i,.int .i64 n]=.int .i64 (cY l i n)
def BO:aB:=⟨1,2,j5,cr,(sq (r1 [gm cse] 1 0) (sq (r1 [gn (.build [.str [],.str [],.str [],.str [],.str []] [(0,1,(cs [97,112,112])),(1,1,(cs [98])),(2,1,(cs [99])),(3,1,(cs [100])),(4,1,(cs [101,45,50]))]),gm s0,gx 478 [l1,Av] iK,gn (.ixA 5 1 false l0 l2),gm l3] 1 4) .ret))⟩
def w227 {Γ:Ctx}(hm:(Γ.at 0).bp)(h478:CP Γ)(n:Int)   :ef Γ BO (.str (cD n)) [.int .i64 n]:=by
 show bz _ _ _ [⟨_,_⟩,_] _;refine ak ?_;refine az ?_;have hr:=jb n 5 (by decide);refine eH (DZ.map D.str) ?_;refine ax ?_;refine aj (hc:=h478 n 5 (by decide)) ?_;refine AK (n%5).toNat (.str DZ[(n%5).toNat]!) (hj:=fun _=>by omega) (hb:=fun _=>by omega) (hv:=fun _=>oD DZ (by show _<5;omega)) ?_;refine az ?_;exact cq rfl
def HU (Γ:Ctx):Prop:=∀(n:Int),Γ.pre 227 [.int .i64 n]∧Γ.val 227 [.int .i64 n]=.str (cD n)
def BT:aB:=⟨1,2,j5,cr,(sq (r1 [gm cse] 1 0) (sq (r1 [gn (.build [.str [],.str [],.str [],.str []] [(0,1,(cs [120])),(1,1,(cs [121])),(2,1,(cs [122])),(3,1,(cs [119,95,49]))]),gm s0,gx 478 [l1,tF] iK,gn (.ixA 4 1 false l0 l2),gm l3] 1 4) .ret))⟩
def w481 {Γ:Ctx}(hm:(Γ.at 0).bp)(h478:CP Γ)(n:Int)   :ef Γ BT (.str (ie n)) [.int .i64 n]:=by
 show bz _ _ _ [⟨_,_⟩,_] _;refine ak ?_;refine az ?_;have hr:=jb n 4 (by decide);refine eH (Hd.map D.str) ?_;refine ax ?_;refine aj (hc:=h478 n 4 (by decide)) ?_;refine AK (n%4).toNat (.str Hd[(n%4).toNat]!) (hj:=fun _=>by omega) (hb:=fun _=>by omega) (hv:=fun _=>oD Hd (by show _<4;omega)) ?_;refine az ?_;exact cq rfl
def H4 (Γ:Ctx):Prop:=∀(n:Int),Γ.pre 481 [.int .i64 n]∧Γ.val 481 [.int .i64 n]=.str (ie n)
def DN:aB:=⟨2,6,[⟨2,none⟩],cr,(sq (r1 [gm cse] 2 0) (sq (r1 [gn (.build [.int .i64 0,.int .i64 0,.int .i64 0,.int .i64 0,.int .i64 0,.int .i64 0] [(0,1,Aw),(1,1,IM),(2,1,zm),(3,1,kd),(4,1,b8),(5,1,kp)]),gb 6 (.c (.agg [.int .i64 0,.int .i64 0,.int .i64 0,.int .i64 0,.int .i64 0,.int .i64 0])),gt 6 l1 l0] 3 1) (sq (r2 [gm s0,gm s1,gx 228 [l0,l1,zm] [[.sl 1 [.a]],[.a],[.a]],gn (.iaP 6 1 s3 l2),gd l3,gm s0,gm s1,av l6 b8,gx 228 [l5,l7,kd] [[.sl 1 [.a]],[.a],[.a]],gm s0,gm s1,av l10 kp,gx 228 [l9,jK,kp] [[.sl 1 [.a]],[.a],[.a]],gn (.build [.int .i64 0,.int .i64 0,.int .i64 0,.str [],.str []] [(0,1,l8),(1,1,ll)]),gn (.build [.int .i64 0,.int .i64 0,.int .i64 0,.int .i64 0,.int .i64 0,.str [],.str []] [(0,1,l4),(1,1,kd),(2,5,nn)]),gb 7 (.c (.agg [.int .i64 0,.int .i64 0,.int .i64 0,.int .i64 0,.int .i64 0,.str [],.str []])),gt 7 pk nX] 4 15) (sq (sq (r1 [gf 0 s4,gd l0,aE l1 Aw] 5 2) (.cond s5 (sq (r1 [gm (cs [42])] 2 0) .ret) .skip)) (sq (r1 [gk 7 true s4,gx 482 [l0] IK,gm l1] 2 2) .ret)))))⟩
def w230 {Γ:Ctx}(hm:(Γ.at 0).bp)(h228:A6 Γ)(h482:Kw Γ)(l:List Int)(i:Int)  (hp0:0≤i∧i≤4000000):ef Γ DN (.str (lZ l i)) [.sl 1 (l.map (D.int .i64)),.int .i64 i]:=by
 show bz _ _ _ [⟨_,_⟩,⟨_,_⟩,_,_,_,_] _;refine ak ?_;refine az ?_;refine eH (zI.map (D.int .i64)) ?_;refine ax ?_;refine aF (.agg (zI.map (D.int .i64))) (he:=by exact rfl) ?_;refine ay ?_;have hr:=cl l i 6 (by decide);refine ay ?_;refine aj (hc:=h228 l (i) 6 (by decide)) ?_;refine wj (cY l i 6).toNat (hj:=fun _=>by omega) (hb:=fun _=>by omega) ?_;refine ch (v:=.int .i64 zI[(cY l i 6).toNat]!) (hv:=fun _=>zu zI (by show _<6;omega) rfl) (ho:=by omega) ?_;refine az ?_;refine aj (hc:=h228 l (i+1) 3 (by decide)) ?_;refine az ?_;refine aj (hc:=h228 l (i+2) 2 (by decide)) ?_;refine bn (dw.D (qU l i).v) ?_;refine bn (bU.D (qU l i)) ?_;refine ax ?_;refine aF (bU.D (qU l i)) (he:=by exact rfl) ?_;refine aA ?_;refine ch (v:=.int .i64 (qU l i).op) ?_;refine ay ?_;refine cI (fun hc0=>?_) fun hc0=>?_
 ·refine aQ ?_;refine cq ?_;unfold lZ;rw[if_pos hc0]
 refine ay ?_;refine cA (d:=bU.D (qU l i)) ?_;refine aj (hc:=h482 (qU l i) (FR l i)) ?_;refine az ?_;refine cq ?_;unfold lZ;rw[if_neg hc0]
def HV (Γ:Ctx):Prop:=∀(l:List Int)(i:Int),(0≤i∧i≤4000000)→Γ.pre 230 [.sl 1 (l.map (D.int .i64)),.int .i64 i]∧Γ.val 230 [.sl 1 (l.map (D.int .i64)),.int .i64 i]=.str (lZ l i)
def BR:aB:=⟨2,5,[⟨2,none⟩],cr,(sq (r1 [gm cse] 2 0) (sq (r1 [gm s0,gm s1,gx 228 [l0,l1,zm] [[.sl 1 [.a]],[.a],[.a]],gm l2] 3 3) (sq (sq (r1 [gm s3,dz l0 kp] 4 1) (.cond s4 (sq (r1 [gm cse] 2 0) .ret) .skip)) (sq (r2 [gn (.build [.str [],.str [],.str []] [(0,1,(cs [111,115])),(1,1,(cs [97,114,99,104])),(2,1,(cs [97,98,105]))]),gm s3,gn (.ixA 3 1 false l0 l1),gn (.build [.str [],.str []] [(0,1,(cs [32,61,32])),(1,1,(cs [32,33,61,32]))]),gm s0,gm s1,av l5 b8,gx 228 [l4,l6,kp] [[.sl 1 [.a]],[.a],[.a]],gn (.ixA 2 1 false l3 l7),av l2 l8,gm s0,gm s1,av jK b8,gx 228 [l10,ll,kd] [[.sl 1 [.a]],[.a],[.a]],av b8 nn,gx 481 [nX] cr,av l9 pk,gm rE] 2 17) .ret))))⟩
def w231 {Γ:Ctx}(hm:(Γ.at 0).bp)(h228:A6 Γ)(h481:H4 Γ)(l:List Int)(i:Int)  (hp0:0≤i∧i≤4000000):ef Γ BR (.str (gw l i)) [.sl 1 (l.map (D.int .i64)),.int .i64 i]:=by
 show bz _ _ _ [⟨_,_⟩,⟨_,_⟩,_,_,_] _;refine ak ?_;refine aQ ?_;refine aj (hc:=h228 l (i) 6 (by decide)) ?_;refine ba ?_;refine aq (fun hc0=>?_) (fun hc0=>?_)
 ·try simp only[hX]at hc0
  refine aQ ?_;refine cq ?_;unfold gw;rw[if_pos hc0]
 simp only[decide_eq_false_iff_not]at hc0;have hr:=cl l i 6 (by decide);have hr2:=cl l (i+1) 2 (by decide);have hr3:=cl l (i+1) 3 (by decide);have hw:=pQ (1+cY l (i+1) 3);have hk:=BL (cY l i 6).toNat (by omega);have he:=Di (cY l (i+1) 2).toNat (by omega);refine ay ?_;refine eH (uC.map D.str) ?_;refine ax ?_;refine AK (cY l i 6).toNat (.str uC[(cY l i 6).toNat]!) (hj:=fun _=>by omega) (hb:=fun _=>by omega) (hv:=fun _=>oD uC (by show _<3;omega)) ?_;refine eH (Bl.map D.str) ?_;refine az ?_;refine aj (hc:=h228 l (i+1) 2 (by decide)) ?_;refine AK (cY l (i+1) 2).toNat (.str Bl[(cY l (i+1) 2).toNat]!) (hj:=fun _=>by omega) (hb:=fun _=>by omega) (hv:=fun _=>oD Bl (by show _<2;omega)) ?_;refine cS (hb:=fun _=>by omega) ?_;refine az ?_;refine aj (hc:=h228 l (i+1) 3 (by decide)) ?_;refine ax ?_;refine aj (hc:=h481 _) ?_;refine cS (hb:=fun _=>by simp only[List.length_append];omega) ?_;refine az ?_;refine cq ?_;unfold gw;rw[if_neg hc0]
def HW (Γ:Ctx):Prop:=∀(l:List Int)(i:Int),(0≤i∧i≤4000000)→Γ.pre 231 [.sl 1 (l.map (D.int .i64)),.int .i64 i]∧Γ.val 231 [.sl 1 (l.map (D.int .i64)),.int .i64 i]=.str (gw l i)
end Go.Abs
end
section
namespace Go.Abs
open Go
def BS:aB:=⟨4,8,[⟨4,some (4,true)⟩],[[.a,.a,.sl 1 [.a],.a]],(sq (r1 [gb 4 (.c (.agg [.str [],.str [],.ar,.bool false]))] 4 0) (sq (r1 [gm s2,av l0 b8,gm s0,gm s1,gx 228 [l2,l3,tF] [[.sl 1 [.a]],[.a],[.a]],av l1 l4,gx 227 [l5] cr,gm s0,gm s1,av l8 b8,gx 230 [l7,l9] [[.sl 1 [.a]],[.a]],gm s0,gm s1,av ll tF,gx 228 [jK,nn,kd] [[.sl 1 [.a]],[.a],[.a]],aE nX bD,gn (.build [.str [],.str [],.ar,.bool false] [(0,1,l6),(1,1,l10),(3,1,pk)]),gb 4 (.c (.agg [.str [],.str [],.ar,.bool false])),gt 4 wL rE] 7 17) (sq (sq (r1 [gm s0,gm s1,av l1 Av,gx 228 [l0,l2,Av] [[.sl 1 [.a]],[.a],[.a]],gm l3] 5 4) (sq (r1 [gm s3,gm l0,gmt 1 s5,cH 1 (dh l2 kp),gy l1 l3] 6 4) (.cond s6 (rg [gn (.bsl 1 (.str []) 2 [(0,(cs [120])),(1,(cs [121]))]),gm s5,ff l1 kp,gn (.slA 1 l0 none (some l2)),gf 2 s7,gt 1 l4 l3] []) .skip))) (sq (rg [gk 4 true s7,gt 4 s4 l0] []) .ret))))⟩
def w480 {Γ:Ctx}(hm:(Γ.at 0).bp)(h227:HU Γ)(h228:A6 Γ)(h230:HV Γ)(l:List Int)(i:Int)(own:Int)(alone:Bool)  (hp0:0≤i∧i≤3000000)(hp1:0≤own∧own≤1000000):ef Γ BS (bw.D (ic l i own alone)) [.sl 1 (l.map (D.int .i64)),.int .i64 i,.int .i64 own,.bool alone]:=by
 show bz _ _ _ [⟨_,_⟩,⟨_,_⟩,⟨_,_⟩,⟨_,_⟩,_,_,_,_] _;refine ak ?_;refine az ?_;have hr:=cl l i 4 (by decide);refine aA ?_;refine aj (hc:=h228 l (i) 4 (by decide)) ?_;refine ax ?_;refine aj (hc:=h227 (own+1+cY l i 4)) ?_;refine az ?_;refine aj (hc:=h230 l (i+1) (by omega)) ?_;refine az ?_;refine aj (hc:=h228 l (i+4) 3 (by decide)) ?_;refine ax ?_;refine bn (.agg [.str (cD (own+1+cY l i 4)),.str (lZ l (i+1)),.ar,.bool (decide (cY l (i+4) 3=0))]) ?_;refine ax ?_;refine aF (.agg [.str (cD (own+1+cY l i 4)),.str (lZ l (i+1)),.ar,.bool (decide (cY l (i+4) 3=0))]) (he:=by exact rfl) ?_;refine aT ?_;refine aj (hc:=h228 l (i+5) 5 (by decide)) ?_;refine aA ?_;have hr5:=cl l (i+5) 5 (by decide);refine aT ?_;refine cI (fun hc0=>?_) fun hc0=>?_
 ·refine ax ?_;refine cg (vw.map D.str) ?_;refine ay ?_;refine x8 (cY l (i+5) 5-2).toNat (hj:=fun _=>by omega) (hb:=fun _=>by omega) ?_;refine ax ?_;refine aF (.agg [.str (cD (own+1+cY l i 4)),.str (lZ l (i+1)),(.own 30 1 0 (cY l (i+5) 5-2).toNat),.bool (decide (cY l (i+4) 3=0))]) (he:=by exact rfl) ?_;refine ax ?_;have hk:(cY l (i+5) 5-2).toNat≤vw.length:=by show _≤2;omega
  refine dT 30 ?_ (he:=by simp only[lg,gp,j9,lY,nR,bK,Nat.reduceEqDiff,if_true,if_false,and_self,true_and,and_true,false_and,and_false,Nat.zero_add,List.length_map,Nat.le_refl,List.drop_zero,aH,reduceCtorEq,List.length_cons,List.length_nil,Nat.reduceAdd,Nat.reduceLeDiff,hk,←List.map_take];exact rfl) (hm:=by simp only[lg,gp,j9,lY,nR,bK,Nat.reduceEqDiff,if_true,if_false,and_self,true_and,and_true,false_and,and_false,Nat.zero_add,List.length_map,Nat.le_refl,List.drop_zero,aH,reduceCtorEq,List.length_cons,List.length_nil,Nat.reduceAdd,Nat.reduceLeDiff,hk,←List.map_take];exact rfl);refine ax ?_;refine cA (d:=(.agg [.str (cD (own+1+cY l i 4)),.str (lZ l (i+1)),(.sl 1 ((vw.take (cY l (i+5) 5-2).toNat).map D.str)),.bool (decide (cY l (i+4) 3=0))])) ?_;refine aF (.agg [.str (cD (own+1+cY l i 4)),.str (lZ l (i+1)),(.sl 1 ((vw.take (cY l (i+5) 5-2).toNat).map D.str)),.bool (decide (cY l (i+4) 3=0))]) (he:=by exact rfl) ?_;refine ay ?_;refine b7 (?_);simp only[bw.D,ic,jY];rw[if_pos hc0];rfl
 refine ax ?_;have hf:jY l i alone=[]:=if_neg (by rintro⟨h1,h2⟩;rcases hc0 with h|h;rw[h]at h1;cases h1;exact h h2);refine kH [(0,.buf 4 [.agg [.str [],.str [],.ar,.bool false]]),(18,.buf 4 [bw.D (ic l i own alone)])] (.id ae (.bf ae (.cons (by simp only[bw.D,ic,hf];exact .ag (.cons (.refl _) (.cons (.refl _) (.cons (.nil 1) (.cons (.refl _) .nil))))) .nil) .nil)) ?_;refine ax ?_;refine cA (d:=(bw.D (ic l i own alone))) ?_;refine aF (bw.D (ic l i own alone)) (he:=by exact rfl) ?_;refine ay ?_;refine b7 (?_);rfl
def Kv (Γ:Ctx):Prop:=∀(l:List Int)(i:Int)(own:Int)(alone:Bool),(0≤i∧i≤3000000)→(0≤own∧own≤1000000)→Γ.pre 480 [.sl 1 (l.map (D.int .i64)),.int .i64 i,.int .i64 own,.bool alone]∧Γ.val 480 [.sl 1 (l.map (D.int .i64)),.int .i64 i,.int .i64 own,.bool alone]=bw.D (ic l i own alone)
end Go.Abs
end
section
namespace Go.Abs
open Go
def BP:aB:=⟨3,10,[⟨3,some (3,true)⟩],[[.sl 4 [.a,.a,.sl 1 [.a],.a],.a,.a]],(sq (r1 [gb 3 (.c (.agg [.ar,.str [],.str []]))] 3 0) (sq (r1 [gb 3 (.c (.agg [.ar,.str [],.str []]))] 8 0) (sq (r1 [gm b8] 6 0) (sq (sq (r1 [gm s0,gm s1,gx 228 [l0,l1,Av] [[.sl 1 [.a]],[.a],[.a]],aE l2 b8] 4 3) (.cond s4 (r1 [gm kp] 6 0) .skip)) (sq (sq (r1 [gm bD] 5 0) (.block 0 (.loop (sq (sq (r1 [gm s5,gm s6,aV l0 l1] 7 2) (iS s7 0)) (sq (.block 1 (rt [gf 0 s8,gd l0,gm s0,gm s1,av l3 b8,gm s5,gn (.bin .mul zm l5),av l4 l6,gm s2,gm s6,aE l9 b8,gx 480 [l2,l7,l8,l10] [[.sl 1 [.a]],[.a],[.a],[.a]],gn (.bsl 4 (.agg [.str [],.str [],.ar,.bool false]) 1 [(0,jK)]),gn (.app 4 l1 ll),gf 0 s8,gt 1 nX nn] [])) (r1 [gm s5,av l0 b8,gm l1] 5 2)))))) (sq (rg [gm s0,gm s1,av l1 (i6 14),gx 231 [l0,l2] [[.sl 1 [.a]],[.a]],gf 1 s8,gt 1 l4 l3] []) (sq (sq (r1 [gm s0,gm s1,av l1 (i6 16),gx 228 [l0,l2,tF] [[.sl 1 [.a]],[.a],[.a]],aE l3 b8] 9 4) (.cond s9 (rg [gm s0,gm s1,av l1 (i6 17),gx 479 [l0,l2] [[.sl 1 [.a]],[.a]],gx 481 [l3] cr,gf 2 s8,gt 1 l5 l4] []) .skip)) (sq (rg [gk 3 true s8,gt 3 s3 l0] []) .ret))))))))⟩
def w229 {Γ:Ctx}(hm:(Γ.at 0).bp)(h228:A6 Γ)(h231:HW Γ)(h479:Fs Γ)(h480:Kv Γ)(h481:H4 Γ)(l:List Int)(i:Int)(own:Int)  (hp0:0≤i∧i≤2000000)(hp1:0≤own∧own≤1000000):ef Γ BP (bc.D (dS l i own)) [.sl 1 (l.map (D.int .i64)),.int .i64 i,.int .i64 own]:=by
 show bz _ _ _ [⟨_,_⟩,⟨_,_⟩,⟨_,_⟩,_,_,_,_,_,_,_] _;refine ak ?_;refine ix ?_;refine aj (hc:=h228 l (i) 5 (by decide)) ?_;refine ay ?_;refine og hm (ι:=Unit) (fun _=>[⟨true,.sl 1 (l.map (D.int .i64))⟩,⟨true,.int .i64 i⟩,⟨true,.int .i64 own⟩,⟨true,.ptr 0 3 0 0⟩,.un,.un,⟨true,.int .i64 (dj l i:Nat)⟩,.un,⟨true,.ptr 1 3 0 0⟩,.un]) (fun _=>[(0,.buf 3 [.agg [.ar,.str [],.str []]]),(1,.buf 3 [.agg [.ar,.str [],.str []]])]) 20 (fun _=>True) ?_ ?_
 ·refine fN (fun hc0=>?_) fun hc0=>?_
  ·refine aA ?_;have hmn:((dj l i:Nat):Int)=2:=by simp[dj,hc0]
   exact⟨(),trivial,(aL.to [(0,0),(1,1)] ae ae (by repeat(first|exact cV.nil|refine cV.un ?_|refine cV.eq ae ?_|refine cV.nl (congrArg (D.int .i64) hmn) ae ?_)) x7)⟩
  refine ay ?_;have hmn:((dj l i:Nat):Int)=1:=by simp[dj,hc0]
  exact⟨(),trivial,(aL.to [(0,0),(1,1)] ae ae (by repeat(first|exact cV.nil|refine cV.un ?_|refine cV.eq ae ?_|refine cV.nl (congrArg (D.int .i64) hmn) ae ?_)) x7)⟩
 ·rintro _-
  have hml:=sk l i;refine aA ?_;refine br hm (ι:=(Nat×List bw)) (fun p=>[⟨true,.sl 1 (l.map (D.int .i64))⟩,⟨true,.int .i64 i⟩,⟨true,.int .i64 own⟩,⟨true,.ptr 0 3 0 0⟩,.un,⟨true,.int .i64 (p.1:Nat)⟩,⟨true,.int .i64 (dj l i:Nat)⟩,.un,⟨true,.ptr 1 3 0 0⟩,.un]) (fun p=>[(0,.buf 3 [.agg [.ar,.str [],.str []]]),(1,.buf 3 [(.agg [.own 2 4 0 p.2.length,.str [],.str []])]),(2,.buf 4 (p.2.map bw.D))]) 40 (fun p=>p.1≤dj l i∧p.2=oN l i own p.1) (fun p=>dj l i-p.1) (0,[]) ⟨by dsimp only;omega,rfl⟩ (aL.to [(0,0),(1,1)] ae ae kV (by(first|refine aC.cZ ae ae bR ?_|refine aC.lH ae ae ae ?_|refine aC.pj ae ae ae ae ?_);refine aC.ni 1 ae ae (by exact⟨_,_,rfl,⟨_,rfl,⟨_,_,rfl,Or.inr ⟨_,_,_,rfl⟩,⟨_,_,rfl,⟨rfl,rfl⟩,⟨_,_,rfl,⟨rfl,rfl⟩,rfl⟩⟩⟩⟩,rfl⟩) ?_;refine aC.mt ae ae ae ae ?_;exact aC.nil)) ?_;rintro⟨k,ws⟩ ⟨hk,hw⟩;dsimp only at hk hw⊢;have hwl:ws.length=k:=by rw[hw];simp[oN]
  refine aT ?_;refine aq (fun hc1=>?_) (fun hc1=>?_)
  ·try simp only[hX]at hc1
   refine dp ?_;refine rM ?_;refine aA ?_;refine aj (hc:=h480 l (i+1+6*(k:Nat)) own (decide ((dj l i:Int)=1)) (by omega) hp1) ?_;refine cg [bw.D (ic l (i+1+6*(k:Nat)) own (decide ((dj l i:Int)=1)))] ?_;refine gS (q:=bw.D) (xs:=ws) (e:=ic l (i+1+6*(k:Nat)) own (decide ((dj l i:Int)=1))) ?_;refine ax ?_;refine aF (.agg [.own 56 4 0 (ws++[ic l (i+1+6*(k:Nat)) own (decide ((dj l i:Int)=1))]).length,.str [],.str []]) (he:=by exact rfl) ?_;refine bY ?_;exact⟨(k+1,ws++[ic l (i+1+6*(k:Nat)) own (decide ((dj l i:Int)=1))]),⟨by dsimp only;omega,by dsimp only;rw[Bx,hw]⟩,by dsimp only;omega,(aL.to [(0,0),(1,1),(56,2)] ae ae kV (by(first|refine aC.cZ ae ae bR ?_|refine aC.lH ae ae ae ?_|refine aC.pj ae ae ae ae ?_);refine aC.lH ae ae ae ?_;refine aC.nl 56 ae ae rfl (bm (fun _=>rfl) _) ?_;exact aC.nil))⟩
  simp only[decide_eq_false_iff_not]at hc1;obtain rfl:k=dj l i:=by omega
  refine aT ?_;refine aj (hc:=h231 l (i+14) (by omega)) ?_;refine ax ?_;refine aF (.agg [.own 2 4 0 ws.length,.str (gw l (i+14)),.str []]) (he:=by exact rfl) ?_;refine aT ?_;refine aj (hc:=h228 l (i+16) 4 (by decide)) ?_;refine ay ?_;refine cI (fun hc2=>?_) fun hc2=>?_
  ·refine aA ?_;refine aj (hc:=h479 l (i+17)) ?_;refine aj (hc:=h481 _) ?_;refine ax ?_;refine aF (.agg [.own 2 4 0 ws.length,.str (gw l (i+14)),.str (ie (fH l (i+17)))]) (he:=by exact rfl) ?_;refine ax ?_;refine dT 2 ?_;refine ax ?_;refine cA (d:=(.agg [.sl 4 (ws.map bw.D),.str (gw l (i+14)),.str (ie (fH l (i+17)))])) ?_;refine aF (.agg [.sl 4 (ws.map bw.D),.str (gw l (i+14)),.str (ie (fH l (i+17)))]) (he:=by exact rfl) ?_;refine ay ?_;refine b7 (?_);simp only[bc.D,dS];rw[if_pos hc2,←hw];rfl
  refine ax ?_;refine dT 2 ?_;refine ax ?_;refine cA (d:=(.agg [.sl 4 (ws.map bw.D),.str (gw l (i+14)),.str []])) ?_;refine aF (.agg [.sl 4 (ws.map bw.D),.str (gw l (i+14)),.str []]) (he:=by exact rfl) ?_;refine ay ?_;refine b7 (?_);simp only[bc.D,dS];rw[if_neg hc2,←hw];rfl
def J9 (Γ:Ctx):Prop:=∀(l:List Int)(i:Int)(own:Int),(0≤i∧i≤2000000)→(0≤own∧own≤1000000)→Γ.pre 229 [.sl 1 (l.map (D.int .i64)),.int .i64 i,.int .i64 own]∧Γ.val 229 [.sl 1 (l.map (D.int .i64)),.int .i64 i,.int .i64 own]=bc.D (dS l i own)
end Go.Abs
end
section
namespace Go.Abs
open Go
def DO:aB:=⟨2,6,[⟨2,none⟩],[[.sl 1 [.a]]],(sq (r1 [gm (.c (.ar))] 2 0) (sq (r1 [gm bD] 3 0) (sq (.block 0 (.loop (sq (sq (r1 [gm s3,gm s0,gl l1,aV l0 l2,gm l3,gmt 4 s0,gmt 4 s3,cH 4 (.ia 1 l5 l6),ph 4 l7,gmt 4 s1,cH 4 (ov l8 l9),gy l4 l10] 4 11) (iS s4 0)) (.block 1 (r1 [gm s3,av l0 b8,gm l1] 3 2))))) (sq (sq (r1 [gm s3,gm s0,gl l1,aV l0 l2,gm l3,gmt 4 s0,gmt 4 s3,cH 4 (.ia 1 l5 l6),ph 4 l7,gmt 4 s1,cH 4 (cQ l8 l9),gy l4 l10] 5 11) (.cond s5 (sq (r1 [gm s0,gm l0] 2 1) .ret) .skip)) (sq (r2 [gm s0,gm s3,gn (.slA 1 l0 none (some l1)),gn (.appN 1 l2),gm s1,gn (.bsl 1 (.str []) 1 [(0,l4)]),gn (.app 1 l3 l5),gm s0,gm s3,gn (.slA 1 l7 (some l8) none),gn (.app 1 l6 l9),gm l10] 2 11) .ret)))))⟩
def w483 {Γ:Ctx}(hm:(Γ.at 0).bp)  (l:List ah)(s:ah)  (hp0:l.length≤1000):ef Γ DO (.sl 1 ((dE l s).map D.str)) [.sl 1 (l.map D.str),.str s]:=by
 show bz _ _ _ [⟨_,_⟩,⟨_,_⟩,_,_,_,_] _;refine ak ?_;refine aQ ?_;refine br hm (ι:=Nat) (fun i=>[⟨true,.sl 1 (l.map D.str)⟩,⟨true,.str s⟩,.un,⟨true,.int .i64 (i:Nat)⟩,.un,.un]) (fun i=>[]) 2 (fun i=>i≤gR s l) (fun i=>l.length-i) 0 (Nat.zero_le _) (ek []) ?_;rintro i hi;have hpl:=wg s l;refine aQ ?_;intro u0;refine aA ?_;refine cE i ?_;refine ca (v:=.str l[i]!) ?_;refine aA ?_;refine aq (fun hc0=>?_) (fun hc0=>?_)
 ·simp only[Bool.and_eq_true,decide_eq_true_eq]at hc0;have hip:i+1≤gR s l:=by
   by_cases he:i=gR s l
   ·have h1:=p7 s l (by omega);rw[←he,hc0.2]at h1;cases h1
   ·omega
  refine dp ?_;exact⟨i+1,(by omega),by omega,(ek [])⟩
 simp only[Bool.and_eq_false_iff,decide_eq_false_iff_not]at hc0;obtain rfl:i=gR s l:=by
  by_cases he:i<gR s l
  ·have h1:=wh s l i he;rcases hc0 with h|h
   ·omega
   ·rw[h1]at h;cases h
  ·omega
 refine ba ?_;intro u1;refine aA ?_;refine cE (gR s l) ?_;refine ca (v:=.str l[gR s l]!) ?_;refine aA ?_;refine cI (fun hc1=>?_) fun hc1=>?_
 ·refine aT ?_;refine b7 (?_);rw[dE,if_pos ⟨by omega,hc1.2⟩];rfl
 refine aA ?_;refine sY (gR s l) ?_;refine GU (he:=qn.sl) (n:=(l.take (gR s l)).length) (hn:=by simp) (hb:=by simp only[List.length_take];omega) ?_;refine ax ?_;refine cg [.str s] ?_;refine gS (q:=D.str) (xs:=l.take (gR s l)) (e:=s) (hb:=by simp only[List.length_take];omega) ?_;refine ay ?_;refine sZ (gR s l) ?_;refine Ji (xs:=l.take (gR s l)++[s]) (ys:=l.drop (gR s l)) (he:=qn.sl) (hb:=by simp only[List.length_append,List.length_take,List.length_drop,List.length_cons,List.length_nil];omega) ?_;refine ay ?_;refine dT 36 ?_;refine ax ?_;refine b7 (?_);rw[dE,if_neg (by rintro⟨h1,h2⟩;rcases hc1 with h|h;omega;exact h h2)];rfl
def Kx (Γ:Ctx):Prop:=∀(l:List ah)(s:ah),(l.length≤1000)→Γ.pre 483 [.sl 1 (l.map D.str),.str s]∧Γ.val 483 [.sl 1 (l.map D.str),.str s]=.sl 1 ((dE l s).map D.str)
end Go.Abs
end
section
namespace Go.Abs
open Go
def tP:aB:=⟨3,18,[⟨3,none⟩],[[.sl 2 [.a,.sl 1 [.a]]]],(sq (rg [gb 9 s2,gm (.c (.ar))] [(10,0),(3,1)]) (sq (r1 [gm (.c (.ar))] 17 0) (sq (r1 [gn (.build [.str [],.str [],.str [],.str []] [(0,1,(cs [100,101,102,97,117,108,116])),(1,1,(cs [120])),(2,1,(cs [121])),(3,1,(cs [122]))]),gb 4 (.c (.agg [.str [],.str [],.str [],.str []])),gt 4 l1 l0] 8 1) (sq (sq (r1 [gm bD] 4 0) (.block 0 (.loop (sq (sq (r1 [gm s4,aV l0 tF] 5 1) (iS s5 0)) (sq (.block 1 (sq (r1 [gm s0,gm s1,gm s4,av l1 l2,gx 479 [l0,l3] [[.sl 1 [.a]],[.a]],gm l4] 6 5) (sq (sq (r1 [gm s6,gx 478 [l0,kd] iK,aE l1 bD] 7 2) (.cond s7 (.exit 1) .skip)) (sq (r1 [gm s4,gn (.iaP 4 1 s8 l0),gd l1,gn (.build [.str [],.ar] [(0,1,l2)]),gb 2 (.c (.agg [.str [],.ar])),gt 2 l4 l3] 14 4) (sq (sq (r1 [gm bD] 9 0) (.block 2 (.loop (sq (sq (r1 [gm s9,gf 6 lr,gd l1,gl l2,aV l0 l3,gm l4,gmt 5 s9,cH 5 (ov l6 kp),gy l5 l7] 11 8) (iS oo 2)) (sq (.block 3 (sq (r1 [gf 6 lr,gd l0,gm s9,ga 3 l1 l2,gk 3 true l3,gb 3 (.c (.agg [.ar,.str [],.str []])),gt 3 l5 l4] 12 5) (sq (sq (r1 [gf 2 m6,gd l0,ct l1 cse,gm l2,gmt 3 s6,gmt 3 s9,cH 3 (wY kd l5),cH 3 (.cvi .u64 l6),cH 3 (.bin .shr l4 l7),cH 3 (C3 l8 b8),cH 3 (cQ l9 b8),gy l3 l10] 13 11) (.cond tk (rg [gf 1 rN,gd l0,gf 2 m6,gd l2,av (cs [63]) l3,gx 483 [l1,l4] [[.sl 1 [.a]],[.a]],gf 1 rN,gt 1 l6 l5] []) .skip)) (sq (r1 [gf 0 m6,gd l0,gl l1,aE l2 b8,gm l3,gmt 4 s6,gmt 4 s9,cH 4 (wY Av l6),cH 4 (.cvi .u64 l7),cH 4 (.bin .shr l5 l8),cH 4 (C3 l9 b8),cH 4 (cQ l10 b8),gy l4 jK] 15 12) (.cond uT (rt [gf 1 rN,gd l0,gf 0 m6,gd l2,ga 4 l3 bD,gf 0 l4,gd l5,av l6 (cs [47]),av l7 (cs [120]),gx 483 [l1,l8] [[.sl 1 [.a]],[.a]],gf 1 rN,gt 1 l10 l9] []) .skip))))) (r1 [gm s9,av l0 b8,gm l1] 9 2)))))) (sq (sq (r1 [gm s4,aV l0 kd,gm l1,gmt 2 s6,cH 2 (.bin .shr l3 (iu 7)),cH 2 (C3 l4 b8),cH 2 (cQ l5 b8),gy l2 l6,gm l7,gmt 8 s0,gmt 8 s1,gmt 8 s4,cH 8 (wY l10 jK),cH 8 (wY ll b8),cH 8 (.call 479 [l9,nn] [[.sl 1 [.a]],[.a]]),cH 8 (.call 478 [nX,kd] iK),cH 8 (eR pk bD),gy l8 rE] 16 17) (.cond AW (rt [gf 1 rN,gd l0,gm s4,av l2 b8,gn (.iaP 4 1 s8 l3),gd l4,gx 483 [l1,l5] [[.sl 1 [.a]],[.a]],gf 1 rN,gt 1 l7 l6] []) .skip)) (r1 [gm wM,gk 2 true rN,gn (.bsl 2 (.agg [.str [],.ar]) 1 [(0,l1)]),gn (.app 2 l0 l2),gm l3] 17 4))))))) (r1 [gm s4,av l0 b8,gm l1] 4 2)))))) (sq (r1 [gm wM,gm l0] 3 1) .ret)))))⟩
def w232 {Γ:Ctx}(hm:(Γ.at 0).bp)(h478:CP Γ)(h479:Fs Γ)(h483:Kx Γ)(l:List Int)(i:Int)(r:Rec)  (hp0:0≤i∧i≤2000000)(hp1:∀j:Nat,j<r.needs.length→r.needs[j]!.option.length≤100∧(r.needs[j]!.any.length=1→r.needs[j]!.any[0]!.name.length≤100)):ef Γ tP (.sl 2 ((e8 l i r).map bo.D)) [.sl 1 (l.map (D.int .i64)),.int .i64 i,Rec.D r]:=by
 show bz _ _ _ [⟨_,_⟩,⟨_,_⟩,⟨_,_⟩,_,_,_,_,_,_,_,_,_,_,_,_,_,_,_] _;refine ak ?_;refine ba ?_;refine eH (jc.map D.str) ?_;refine ax ?_;refine aF (.agg (jc.map D.str)) (he:=by exact rfl) ?_;refine aQ ?_;refine br hm (ι:=(Nat×List bo)) (fun p=>[⟨true,.sl 1 (l.map (D.int .i64))⟩,⟨true,.int .i64 i⟩,.un,.un,⟨true,.int .i64 (p.1:Nat)⟩,.un,.un,.un,⟨true,.ptr 4 4 0 0⟩,.un,⟨true,.ptr 0 9 0 0⟩,.un,.un,.un,.un,.un,.un,⟨true,.own 1 2 0 p.2.length⟩]) (fun p=>[(0,.buf 9 [Rec.D r]),(4,.buf 4 [.agg (jc.map D.str)]),(1,.buf 2 (p.2.map bo.D))]) 30 (fun p=>p.1≤4∧p.2=Dt l i r p.1) (fun p=>4-p.1) (0,[]) ⟨by dsimp only;omega,rfl⟩ (aL.to [(0,0),(4,4)] ae ae (by repeat(first|exact cV.nil|refine cV.un ?_|refine cV.eq ae ?_|refine cV.ni (Or.inr ⟨_,_,_,rfl⟩) ?_)) (by refine aC.cZ ae ae bR ?_;refine aC.cZ ae ae bR ?_;refine aC.mt ae ae ae ae ?_;exact aC.nil)) ?_;rintro⟨k,fs⟩ ⟨hk,hf⟩;dsimp only at hk hf⊢;have hfl:fs.length≤k:=by
  rw[hf];unfold Dt;exact Nat.le_trans (List.length_filterMap_le _ _) (by simp)
 refine aQ ?_;refine aq (fun hc0=>?_) (fun hc0=>?_)
 ·try simp only[hX]at hc0
  refine ba ?_;refine aj (hc:=h479 l (i+(k:Nat))) ?_;refine aQ ?_;refine aj (hc:=h478 _ 3 (by decide)) ?_;refine ay ?_;refine cI (fun hc1=>?_) fun hc1=>?_
  ·refine bY ?_;exact⟨(k+1,fs),⟨by dsimp only;omega,by dsimp only;rw[hf,IH hc1]⟩,by dsimp only;omega,(aL.to [(0,0),(4,4),(1,1)] ae ae kV (by refine aC.cZ ae ae bR ?_;refine aC.cZ ae ae bR ?_;refine aC.cZ ae ae bR ?_;exact aC.nil))⟩
  refine az ?_;refine wj k (hb:=fun _=>by omega) ?_;refine ch (v:=.str jc[k]!) (hv:=fun _=>zu jc (by show _<4;omega) rfl) (ho:=by omega) ?_;refine bn (.agg [.str jc[k]!,.ar]) ?_;refine ax ?_;refine aF (.agg [.str jc[k]!,.ar]) (he:=by exact rfl) ?_;refine ax ?_;refine kH [(0,.buf 9 [Rec.D r]),(4,.buf 4 [.agg (jc.map D.str)]),(1,.buf 2 (fs.map bo.D)),(45,.buf 2 [(.agg [.str jc[k]!,.sl 1 ((([]:List ah)).map D.str)])])] (.id ae (.id ae (.id ae (.bf ae (.cons (.ag (.cons (.refl _) (.cons (.nil 1) .nil))) .nil) .nil)))) ?_;refine aA ?_;refine br hm (ι:=(Nat×List ah)) (fun p=>[⟨true,.sl 1 (l.map (D.int .i64))⟩,⟨true,.int .i64 i⟩,.un,.un,⟨true,.int .i64 (k:Nat)⟩,.un,⟨true,.int .i64 (fH l (i+(k:Nat)))⟩,.un,⟨true,.ptr 4 4 0 0⟩,⟨true,.int .i64 (p.1:Nat)⟩,⟨true,.ptr 0 9 0 0⟩,.un,.un,.un,⟨true,.ptr 2 2 0 0⟩,.un,.un,⟨true,.own 1 2 0 fs.length⟩]) (fun p=>[(0,.buf 9 [Rec.D r]),(4,.buf 4 [.agg (jc.map D.str)]),(1,.buf 2 (fs.map bo.D)),(2,.buf 2 [.agg [.str jc[k]!,.sl 1 (p.2.map D.str)]])]) 60 (fun p=>p.1≤min r.needs.length 2∧p.2=lf r (fH l (i+(k:Nat))) p.1) (fun p=>2-p.1) (0,[]) ⟨by dsimp only;omega,rfl⟩ (aL.to [(0,0),(4,4),(1,1),(45,2)] ae ae kV (by refine aC.cZ ae ae bR ?_;refine aC.cZ ae ae bR ?_;refine aC.cZ ae ae bR ?_;refine aC.nl 45 ae ae rfl ae ?_;exact aC.nil)) ?_;rintro⟨j,of⟩ ⟨hj,ho⟩;dsimp only at hj ho⊢;have hol:of.length≤4:=by
   have:=vQ r (fH l (i+(k:Nat))) j;rw[ho];omega
  refine aA ?_;refine ch (v:=.sl 3 (r.needs.map bc.D)) ?_;refine ax ?_;intro u0;refine aT ?_;refine aq (fun hc2=>?_) (fun hc2=>?_)
  ·simp only[Bool.and_eq_true,decide_eq_true_eq]at hc2;obtain⟨hpo,hpn⟩:=hp1 j (by omega);refine aA ?_;refine ch (v:=.sl 3 (r.needs.map bc.D)) ?_;refine ax ?_;refine cE j (hb:=fun _=>by omega) ?_;refine ca (v:=bc.D r.needs[j]!) (hi:=fun _=>by omega) ?_;refine ax ?_;refine aF (bc.D r.needs[j]!) (he:=by exact rfl) ?_;refine jB ?_;refine qG (3+(j:Nat)) (hb:=fun _=>by rw[IntKind.wrap_u64];omega) ?_;refine AN _ (hb:=fun _=>rfl) ?_;refine wi (y6 (fH l (i+(k:Nat))) (3+(j:Nat))) (hb:=fun _=>rfl) ?_;refine az ?_;refine cI (fun hc3=>?_) fun hc3=>?_
   ·refine ay ?_;refine ch (v:=.sl 1 (of.map D.str)) ?_;refine ax ?_;refine ch (v:=.str r.needs[j]!.option) ?_;refine cS (hb:=fun _=>by simp only[List.length_cons,List.length_nil];omega) ?_;refine aj (hc:=h483 of ([63]++r.needs[j]!.option) (by omega)) ?_;refine ax ?_;refine aF (.agg [.str jc[k]!,.sl 1 ((dE of ([63]++r.needs[j]!.option)).map D.str)]) (he:=by exact rfl) ?_;refine aQ ?_;intro u1;refine aQ ?_;refine qG (5+(j:Nat)) (hb:=fun _=>by rw[IntKind.wrap_u64];omega) ?_;refine AN _ (hb:=fun _=>rfl) ?_;refine wi (y6 (fH l (i+(k:Nat))) (5+(j:Nat))) (hb:=fun _=>rfl) ?_;refine az ?_;refine fN (fun hc4=>?_) fun hc4=>?_
    ·refine ax ?_;have hpl:=ml of ([63]++r.needs[j]!.option);refine ax ?_;refine ch (v:=.sl 1 (((dE of ([63]++r.needs[j]!.option))).map D.str)) ?_;refine ax ?_;refine ch (v:=.sl 4 (r.needs[j]!.any.map bw.D)) ?_;refine cE 0 (hb:=fun _=>by omega) ?_;refine ax ?_;refine ca (v:=.str r.needs[j]!.any[0]!.name) (hi:=fun _=>by omega) ?_;refine cS (hb:=fun _=>by have:=hpn (by omega);simp only[List.length_cons,List.length_nil];omega) ?_;refine cS (hb:=fun _=>by have:=hpn (by omega);simp only[List.length_append,List.length_cons,List.length_nil];omega) ?_;refine aj (hc:=h483 (dE of ([63]++r.needs[j]!.option)) (r.needs[j]!.any[0]!.name++[47]++[120]) (by omega)) ?_;refine ax ?_;refine aF (.agg [.str jc[k]!,.sl 1 ((dE (dE of ([63]++r.needs[j]!.option)) (r.needs[j]!.any[0]!.name++[47]++[120])).map D.str)]) (he:=by exact rfl) ?_;refine bY ?_;have hA:Ds r (fH l (i+(k:Nat))) of j=dE of ([63]++r.needs[j]!.option):=if_pos hc3;have hB:Hw r (fH l (i+(k:Nat))) (dE of ([63]++r.needs[j]!.option)) j=dE (dE of ([63]++r.needs[j]!.option)) (r.needs[j]!.any[0]!.name++[47]++[120]):=if_pos ⟨by omega,hc4.2⟩;have hJ:lf r (fH l (i+(k:Nat))) (j+1)=(dE (dE of ([63]++r.needs[j]!.option)) (r.needs[j]!.any[0]!.name++[47]++[120])):=by rw[kl,Hx,←ho,hA,hB]
     exact⟨(j+1,(dE (dE of ([63]++r.needs[j]!.option)) (r.needs[j]!.any[0]!.name++[47]++[120]))),⟨by dsimp only;omega,hJ.symm⟩,by dsimp only;omega,(aL.to [(0,0),(4,4),(1,1),(2,2)] ae ae kV (by refine aC.cZ ae ae bR ?_;refine aC.cZ ae ae bR ?_;refine aC.cZ ae ae bR ?_;refine aC.cZ ae ae bR ?_;exact aC.nil))⟩
    refine bY ?_;have hA:Ds r (fH l (i+(k:Nat))) of j=dE of ([63]++r.needs[j]!.option):=if_pos hc3;have hB:Hw r (fH l (i+(k:Nat))) (dE of ([63]++r.needs[j]!.option)) j=(dE of ([63]++r.needs[j]!.option)):=if_neg (by rintro⟨h1,h2⟩;rcases hc4 with h|h;omega;exact h h2);have hJ:lf r (fH l (i+(k:Nat))) (j+1)=(dE of ([63]++r.needs[j]!.option)):=by rw[kl,Hx,←ho,hA,hB]
    exact⟨(j+1,(dE of ([63]++r.needs[j]!.option))),⟨by dsimp only;omega,hJ.symm⟩,by dsimp only;omega,(aL.to [(0,0),(4,4),(1,1),(2,2)] ae ae kV (by refine aC.cZ ae ae bR ?_;refine aC.cZ ae ae bR ?_;refine aC.cZ ae ae bR ?_;refine aC.cZ ae ae bR ?_;exact aC.nil))⟩
   refine aQ ?_;intro u1;refine aQ ?_;refine qG (5+(j:Nat)) (hb:=fun _=>by rw[IntKind.wrap_u64];omega) ?_;refine AN _ (hb:=fun _=>rfl) ?_;refine wi (y6 (fH l (i+(k:Nat))) (5+(j:Nat))) (hb:=fun _=>rfl) ?_;refine az ?_;refine fN (fun hc4=>?_) fun hc4=>?_
   ·refine ax ?_;have hpl:=ml of ([63]++r.needs[j]!.option);refine ax ?_;refine ch (v:=.sl 1 ((of).map D.str)) ?_;refine ax ?_;refine ch (v:=.sl 4 (r.needs[j]!.any.map bw.D)) ?_;refine cE 0 (hb:=fun _=>by omega) ?_;refine ax ?_;refine ca (v:=.str r.needs[j]!.any[0]!.name) (hi:=fun _=>by omega) ?_;refine cS (hb:=fun _=>by have:=hpn (by omega);simp only[List.length_cons,List.length_nil];omega) ?_;refine cS (hb:=fun _=>by have:=hpn (by omega);simp only[List.length_append,List.length_cons,List.length_nil];omega) ?_;refine aj (hc:=h483 of (r.needs[j]!.any[0]!.name++[47]++[120]) (by omega)) ?_;refine ax ?_;refine aF (.agg [.str jc[k]!,.sl 1 ((dE of (r.needs[j]!.any[0]!.name++[47]++[120])).map D.str)]) (he:=by exact rfl) ?_;refine bY ?_;have hA:Ds r (fH l (i+(k:Nat))) of j=of:=if_neg (by rintro⟨h1,h2⟩;rcases hc3 with h|h;exact h1 h;exact h h2);have hB:Hw r (fH l (i+(k:Nat))) of j=dE of (r.needs[j]!.any[0]!.name++[47]++[120]):=if_pos ⟨by omega,hc4.2⟩;have hJ:lf r (fH l (i+(k:Nat))) (j+1)=(dE of (r.needs[j]!.any[0]!.name++[47]++[120])):=by rw[kl,Hx,←ho,hA,hB]
    exact⟨(j+1,(dE of (r.needs[j]!.any[0]!.name++[47]++[120]))),⟨by dsimp only;omega,hJ.symm⟩,by dsimp only;omega,(aL.to [(0,0),(4,4),(1,1),(2,2)] ae ae kV (by refine aC.cZ ae ae bR ?_;refine aC.cZ ae ae bR ?_;refine aC.cZ ae ae bR ?_;refine aC.cZ ae ae bR ?_;exact aC.nil))⟩
   refine bY ?_;have hA:Ds r (fH l (i+(k:Nat))) of j=of:=if_neg (by rintro⟨h1,h2⟩;rcases hc3 with h|h;exact h1 h;exact h h2);have hB:Hw r (fH l (i+(k:Nat))) of j=of:=if_neg (by rintro⟨h1,h2⟩;rcases hc4 with h|h;omega;exact h h2);have hJ:lf r (fH l (i+(k:Nat))) (j+1)=of:=by rw[kl,Hx,←ho,hA,hB]
   exact⟨(j+1,of),⟨by dsimp only;omega,hJ.symm⟩,by dsimp only;omega,(aL.to [(0,0),(4,4),(1,1),(2,2)] ae ae kV (by refine aC.cZ ae ae bR ?_;refine aC.cZ ae ae bR ?_;refine aC.cZ ae ae bR ?_;refine aC.cZ ae ae bR ?_;exact aC.nil))⟩
  simp only[Bool.and_eq_false_iff,decide_eq_false_iff_not]at hc2;obtain rfl:j=min r.needs.length 2:=by omega
  subst ho;refine bY ?_;refine AN _ (hb:=fun _=>rfl) ?_;refine wi (y6 (fH l (i+(k:Nat))) 7) (hb:=fun _=>rfl) ?_;refine bY ?_;refine eI (hc:=fun hf=>h479 l (i+(k:Nat)+1)) ?_;refine eI (hc:=fun hf=>h478 _ 3 (by decide)) ?_;refine az ?_;refine cI (fun hc5=>?_) fun hc5=>?_
  ·refine ay ?_;refine ch (v:=.sl 1 ((lf r (fH l (i+(k:Nat))) (min r.needs.length 2)).map D.str)) ?_;refine ay ?_;refine wj (k+1) (hb:=fun _=>by omega) ?_;refine ch (v:=.str jc[k+1]!) (hv:=fun _=>zu jc (by show _<4;omega) rfl) (ho:=by omega) ?_;refine aj (hc:=h483 (lf r (fH l (i+(k:Nat))) (min r.needs.length 2)) jc[k+1]! (by omega)) ?_;refine ax ?_;refine aF (.agg [.str jc[k]!,.sl 1 ((dE (lf r (fH l (i+(k:Nat))) (min r.needs.length 2)) jc[k+1]!).map D.str)]) (he:=by exact rfl) ?_;refine az ?_;refine cA (d:=bo.D ⟨jc[k]!,dE (lf r (fH l (i+(k:Nat))) (min r.needs.length 2)) jc[k+1]!⟩) ?_;refine cg [bo.D ⟨jc[k]!,dE (lf r (fH l (i+(k:Nat))) (min r.needs.length 2)) jc[k+1]!⟩] ?_;refine gS (q:=bo.D) (xs:=fs) (e:=⟨jc[k]!,dE (lf r (fH l (i+(k:Nat))) (min r.needs.length 2)) jc[k+1]!⟩) ?_;refine dp ?_;have hC:F2 l i (fH l (i+(k:Nat))) k (lf r (fH l (i+(k:Nat))) (min r.needs.length 2))=dE (lf r (fH l (i+(k:Nat))) (min r.needs.length 2)) jc[k+1]! :=if_pos ⟨⟨by omega,hc5.1.2⟩,by rw[show i+(k:Nat)+1=i+(k:Int)+1 by omega];exact hc5.2⟩;exact⟨(k+1,fs++[⟨jc[k]!,dE (lf r (fH l (i+(k:Nat))) (min r.needs.length 2)) jc[k+1]!⟩]),⟨by dsimp only;omega,by dsimp only;rw[hf];exact(As hc1 hC).symm⟩,by dsimp only;omega,(aL.to [(0,0),(4,4),(99,1)] ae ae (by repeat(first|exact cV.nil|refine cV.un ?_|refine cV.eq ae ?_|refine cV.ni (Or.inr ⟨_,_,_,rfl⟩) ?_)) (by refine aC.cZ ae ae bR ?_;refine aC.cZ ae ae bR ?_;refine aC.nl 99 ae ae rfl (bm (fun _=>rfl) _) ?_;exact aC.nil))⟩
  refine az ?_;refine cA (d:=bo.D ⟨jc[k]!,(lf r (fH l (i+(k:Nat))) (min r.needs.length 2))⟩) ?_;refine cg [bo.D ⟨jc[k]!,(lf r (fH l (i+(k:Nat))) (min r.needs.length 2))⟩] ?_;refine gS (q:=bo.D) (xs:=fs) (e:=⟨jc[k]!,(lf r (fH l (i+(k:Nat))) (min r.needs.length 2))⟩) ?_;refine dp ?_;have hC:F2 l i (fH l (i+(k:Nat))) k (lf r (fH l (i+(k:Nat))) (min r.needs.length 2))=(lf r (fH l (i+(k:Nat))) (min r.needs.length 2)):=if_neg (by rintro⟨⟨h1,h2⟩,h3⟩;rcases hc5 with(h|h)|h;omega;exact h h2;exact h3 h);exact⟨(k+1,fs++[⟨jc[k]!,(lf r (fH l (i+(k:Nat))) (min r.needs.length 2))⟩]),⟨by dsimp only;omega,by dsimp only;rw[hf];exact(As hc1 hC).symm⟩,by dsimp only;omega,(aL.to [(0,0),(4,4),(90,1)] ae ae (by repeat(first|exact cV.nil|refine cV.un ?_|refine cV.eq ae ?_|refine cV.ni (Or.inr ⟨_,_,_,rfl⟩) ?_)) (by refine aC.cZ ae ae bR ?_;refine aC.cZ ae ae bR ?_;refine aC.nl 90 ae ae rfl (bm (fun _=>rfl) _) ?_;exact aC.nil))⟩
 simp only[decide_eq_false_iff_not]at hc0;obtain rfl:k=4:=by omega
 refine aT ?_;refine dT 1 ?_;refine ax ?_;refine b7 (?_);rw[hf];rfl
def Ka (Γ:Ctx):Prop:=∀(l:List Int)(i:Int)(r:Rec),(0≤i∧i≤2000000)→(∀j:Nat,j<r.needs.length→r.needs[j]!.option.length≤100∧(r.needs[j]!.any.length=1→r.needs[j]!.any[0]!.name.length≤100))→Γ.pre 232 [.sl 1 (l.map (D.int .i64)),.int .i64 i,Rec.D r]∧Γ.val 232 [.sl 1 (l.map (D.int .i64)),.int .i64 i,Rec.D r]=.sl 2 ((e8 l i r).map bo.D)
end Go.Abs
end
