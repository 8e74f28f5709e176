/- A part of the proofs of the statements: X14, RSpec16, X15, RSpec17, W1, W4, X16, RSpec18, Y1, RSpec19, LAsmS, LInj, Y2, Y3, RSpec20, Y4, RSpec21, LAsmT, RGen1, G1, G2, G3, G4, G5. -/
import Derived.Test.YtpdlhpamcaocgaaGreatDoorP07
set_option linter.all false
set_option maxRecDepth 4000
section
namespace Go.Abs
open Go
def fu:aB:=⟨1,12,[⟨1,some (3,true)⟩],[[.sl 4 [.a,.a,.sl 1 [.a],.a],.a,.a]],(sq (r1 [gb 3 (.c (.agg [.au,.str [],.str []]))] 1 0) (sq (r1 [gb 3 (.c (.agg [.au,.str [],.str []]))] 8 0) (sq (.block 0 (.loop (.block 1 (sq (rg [gm s0,gn (.callF 465 l0 [(cs [97,110,121]),AZ,tO] Mq),gm l1,ge l2 0,ge l2 1,gm l3,gm l4] [(4,5),(2,6)]) (sq (sq (r1 [gm s2,oy l0] 3 1) (.cond s3 (.exit 0) .skip)) (sq (sq (r1 [gm s4,ga 1 l0 j7,gd l1,cl l2 (cs [98,97,114,101]),gm l3,gmt 4 s4,cE 4 (.ia 1 l5 j7),px 4 l6,cE 4 (eJ l7 (cs [102,117,108,108])),gp l4 l8] 5 9) (.cond s5 (sq (rg [gm s0,gc l0,gf 1 l1,gd l2,eQ l3 b9,gc l0,gf 1 l5,gt 1 l6 l4] []) (.exit 0)) .skip)) (sq (r2 [gm s4,ga 1 l0 b9,gd l1,gm s4,ga 1 l3 tJ,gd l4,gm s4,ga 1 l6 j7,gd l7,aE l8 (cs [98,97,114,101]),gn (.build [.str [],.str [],.au,.bool false] [(0,1,l2),(1,1,l5),(3,1,l9)]),gb 4 (.c (.agg [.str [],.str [],.au,.bool false])),gt 4 jK l10] 7 11) (sq (sq (r1 [gm s4,ga 1 l0 kn,gd l1,cl l2 (cs [45])] 6 3) (.cond s6 (rg [gm s4,ga 1 l0 kn,gd l1,gx 124 [l2,(cs [44])] iz,gf 2 s7,gt 1 l4 l3] []) .skip)) (rg [gf 0 s8,gd l0,gk 4 true s7,gn (.bsl 4 (.agg [.str [],.str [],.au,.bool false]) 1 [(0,l2)]),gn (.app 4 l1 l3),gf 0 s8,gt 1 l5 l4] []))))))))) (sq (rg [gm s0,gn (.callF 468 l0 [] []),gf 1 s8,gt 1 l2 l1] []) (sq (sq (rg [gm s0,gn (.callF 465 l0 [(cs [111,112,116,105,111,110]),kn,dx] Mq),gm l1,ge l2 0,ge l2 1,gm l3,gm l4] [(11,5),(9,6)]) (sq (r1 [gm s9] 10 0) (.cond lx (rg [gm oz,ga 1 l0 b9,gd l1,gf 2 s8,gt 1 l3 l2] []) .skip))) (sq (rg [gk 3 true s8,gt 3 s1 l0] []) .ret))))))⟩
def wR {Γ:Ctx}(h:FW Γ){r:Ld}(hr:r.sm){p:List ah}(hp:p<:+r.ls):Γ.fp 468 (Ld.D (r.to p)) []∧Γ.fv 468 (Ld.D (r.to p)) []=.str (bj p).1∧Γ.fs 468 (Ld.D (r.to p)) []=Ld.D (r.to (bj p).2):=by
 have:=h (r.to p) (hr.to p);rw[Ld.rV hp]at this;exact this
def w467 {Γ:Ctx}(hm:(Γ.at 1).bm)(h124:Dh (Γ.at 1))(h465:FV (Γ.at 1))(h468:FW (Γ.at 1))(r:Ld)  (hp0:r.sm):bx (Γ.at 1) fu.body (BE fu 2 (bg.D (cY r.rest).1) (Ld.D (r.to (cY r.rest).2)):Ex→List aW→St→Prop) (eu fu (.ptr 0 2 0 0::[])) ⟨1,[(0,.buf 2 [(Ld.D r)])]⟩:=by
 show bx _ _ _ [⟨true,.ptr 0 2 0 0⟩,.un,.un,.un,.un,.un,.un,.un,.un,.un,.un,.un] ⟨1,[(0,.buf 2 [(Ld.D r)])]⟩;have hself:=Ld.wM hp0;have hq0:=r.tl;refine ak ?_;refine aR ?_;refine bq hm (ι:=(List bz×List ah)) (fun p=>[⟨true,.ptr 0 2 0 0⟩,⟨true,.ptr 1 3 0 0⟩,.un,.un,.un,.un,.un,.un,⟨true,.ptr 2 3 0 0⟩,.un,.un,.un]) (fun p=>[(0,.buf 2 [Ld.D (r.to p.2)]),(1,.buf 3 [.agg [.au,.str [],.str []]]),(2,.buf 3 [.agg [.own 3 4 0 (p.1).length,.str [],.str []]]),(3,.buf 4 (p.1.map bz.N))]) 10 (fun p=>p.2<:+r.ls∧p.1.length+p.2.length≤r.ls.length∧bV r.rest=(p.1++(bV p.2).1,(bV p.2).2)) (fun p=>p.2.length) ([],r.rest) ⟨hq0,by simpa using hq0.length_le,by simp⟩ (aL.to [(1,1),(2,2)] ae ae dM (by refine aC.nl 0 ae ae (by rw[hself]) ae ?_;refine aC.cZ ae ae ae ?_;refine aC.ni 2 ae ae (by exact⟨_,_,rfl,⟨_,rfl,⟨_,_,rfl,Or.inr ⟨_,_,_,rfl⟩,⟨_,_,rfl,⟨rfl,rfl⟩,⟨_,_,rfl,⟨rfl,rfl⟩,rfl⟩⟩⟩⟩,rfl⟩) ?_;refine aC.mt ae ae ae ae ?_;exact aC.nil)) ?_;rintro⟨A,p⟩ ⟨hq1,hlen,hw⟩;dsimp only at hq1 hlen hw⊢;have hll:=hp0.1.2;refine az ?_;refine iY (hc:=rN h465 hp0 (p:=p) hq1 (w:=jE) (n:=5) (op:=true) (by decide) (by decide)) ?_;refine ax ?_;refine fG _ ?_;refine dh ?_;refine aq (fun hc0=>?_) (fun hc0=>?_)
 ·simp only[Bool.not_eq_true']at hc0;have hq:=fT hc0;have hnr:cx jE 5 true p=p:=by simp only[cx,hq]
  rw[hnr];have hw2:bV r.rest=(A,p):=by rw[hw,wS hq,List.append_nil]
  refine aA ?_;have hq3:=(fI p).trans hq1;refine ax ?_;refine iY (hc:=wR h468 hp0 hq1) ?_;refine ax ?_;refine aF (.agg [.own 3 4 0 A.length,.str (bj p).1,.str []]) (he:=by exact rfl) ?_;refine aA ?_;refine iY (hc:=rN h465 hp0 (p:=(bj p).2) hq3 (w:=dH) (n:=2) (op:=false) (by decide) (by decide)) ?_;refine ax ?_;refine fG _ ?_;refine b6 ?_;refine cF (fun hc3=>?_) fun hc3=>?_
  ·refine ax ?_;obtain⟨⟨l,q2⟩,hq⟩:=fU hc3;have hnr:cx dH 2 false (bj p).2=q2:=by simp only[cx,hq]
   obtain⟨hl,hlm,hq2,hqp⟩:=jL hp0 hq3 hq;rw[hnr,hq];obtain hl:l.length=2:=by rcases hl with h|h;cases h;exact h
   refine ax ?_;refine cD 1 (hb:=fun _=>by omega) ?_;refine ca (v:=.str l[1]!) (hi:=fun _=>by omega) ?_;refine ax ?_;refine aF (.agg [.own 3 4 0 A.length,.str (bj p).1,.str l[1]!]) (he:=by exact rfl) ?_;refine ax ?_;have hnp:cY r.rest=(⟨A,(bj p).1,l[1]!⟩,q2):=by simp only[cY,hw2,p7,hq]
   rw[hnp];refine ee 3 (hn:=bn bz.kH _) (he:=by simp only[lj,gu,j6,mb,nZ,bK,Nat.reduceEqDiff,if_true,if_false,and_self,true_and,and_true,false_and,and_false,Nat.zero_add,List.length_map,Nat.le_refl,List.drop_zero,aH,reduceCtorEq,List.length_cons,List.length_nil,Nat.reduceAdd,Nat.reduceLeDiff,Ld.D];exact rfl) (hm:=by simp only[lj,gu,j6,mb,nZ,bK,Nat.reduceEqDiff,if_true,if_false,and_self,true_and,and_true,false_and,and_false,Nat.zero_add,List.length_map,Nat.le_refl,List.drop_zero,aH,reduceCtorEq,List.length_cons,List.length_nil,Nat.reduceAdd,Nat.reduceLeDiff,Ld.D];exact rfl) ?_;refine lA [(0,.buf 2 [Ld.D (r.to q2)]),(1,.buf 3 [.agg [.au,.str [],.str []]]),(2,.buf 3 [bg.D ⟨A,(bj p).1,l[1]!⟩])] (.id ae (.id ae (.bf ae (.cons (.ag (.cons (.ss (.map fun x _=>x.wk)) (.rf _))) .nil) .nil))) ?_;refine ax ?_;refine cy (d:=bg.D ⟨A,(bj p).1,l[1]!⟩) ?_;refine aF (bg.D ⟨A,(bj p).1,l[1]!⟩) (he:=by exact rfl) ?_;refine ay ?_;refine dV trivial rj (Eq.trans ae (?_)) ae ae ae;rfl
  refine ax ?_;have hq:=fT hc3;have hnr:cx dH 2 false (bj p).2=(bj p).2:=by simp only[cx,hq]
  rw[hnr];have hnp:cY r.rest=(⟨A,(bj p).1,[]⟩,(bj p).2):=by simp only[cY,hw2,p7,hq]
  rw[hnp];refine ee 3 (hn:=bn bz.kH _) (he:=by simp only[lj,gu,j6,mb,nZ,bK,Nat.reduceEqDiff,if_true,if_false,and_self,true_and,and_true,false_and,and_false,Nat.zero_add,List.length_map,Nat.le_refl,List.drop_zero,aH,reduceCtorEq,List.length_cons,List.length_nil,Nat.reduceAdd,Nat.reduceLeDiff,Ld.D];exact rfl) (hm:=by simp only[lj,gu,j6,mb,nZ,bK,Nat.reduceEqDiff,if_true,if_false,and_self,true_and,and_true,false_and,and_false,Nat.zero_add,List.length_map,Nat.le_refl,List.drop_zero,aH,reduceCtorEq,List.length_cons,List.length_nil,Nat.reduceAdd,Nat.reduceLeDiff,Ld.D];exact rfl) ?_;refine lA [(0,.buf 2 [Ld.D (r.to (bj p).2)]),(1,.buf 3 [.agg [.au,.str [],.str []]]),(2,.buf 3 [bg.D ⟨A,(bj p).1,[]⟩])] (.id ae (.id ae (.bf ae (.cons (.ag (.cons (.ss (.map fun x _=>x.wk)) (.rf _))) .nil) .nil))) ?_;refine ax ?_;refine cy (d:=bg.D ⟨A,(bj p).1,[]⟩) ?_;refine aF (bg.D ⟨A,(bj p).1,[]⟩) (he:=by exact rfl) ?_;refine ay ?_;refine dV trivial rj (Eq.trans ae (?_)) ae ae ae;rfl
 simp only[Bool.not_eq_false']at hc0;obtain⟨⟨l,q2⟩,hq⟩:=fU hc0;have hnr:cx jE 5 true p=q2:=by simp only[cx,hq]
 obtain⟨hl,hlm,hq2,hqp⟩:=jL hp0 hq1 hq;rw[hnr,hq];obtain hl:l.length=5:=by rcases hl with h|h;cases h;exact h
 refine aA ?_;refine cD 3 (hb:=fun _=>by omega) ?_;refine ca (v:=.str l[3]!) (hi:=fun _=>by omega) ?_;refine az ?_;refine cD 3 (hb:=fun _=>by omega) ?_;refine ca (v:=.str l[3]!) (hi:=fun _=>by omega) ?_;refine az ?_;refine aq (fun hc1=>?_) (fun hc1=>?_)
 ·simp only[Bool.and_eq_true,Bool.not_eq_true',decide_eq_false_iff_not]at hc1;have hho:qC l=false:=by unfold qC;rw[decide_eq_false (show ¬l[3]! =ir from hc1.1),decide_eq_false (show ¬l[3]! =mK from hc1.2)];rfl
  have hw2:bV r.rest=(A,p):=by rw[hw,Ay hq hho,List.append_nil]
  obtain⟨t,hpt,_⟩:=c9 hq;refine ay ?_;obtain⟨hab1,hab2⟩:=(hp0.to q2).1;refine az ?_;refine ch (v:=.int .i64 ((r.to q2).at':Nat)) ?_;refine az ?_;refine aF (Ld.D (r.to p)) (he:=by rw[hpt];exact Ld.back (hpt▸hq1)) ?_;refine aR ?_;have hq3:=(fI p).trans hq1;refine ax ?_;refine iY (hc:=wR h468 hp0 hq1) ?_;refine ax ?_;refine aF (.agg [.own 3 4 0 A.length,.str (bj p).1,.str []]) (he:=by exact rfl) ?_;refine aA ?_;refine iY (hc:=rN h465 hp0 (p:=(bj p).2) hq3 (w:=dH) (n:=2) (op:=false) (by decide) (by decide)) ?_;refine ax ?_;refine fG _ ?_;refine b6 ?_;refine cF (fun hc3=>?_) fun hc3=>?_
  ·refine ax ?_;obtain⟨⟨l,q2⟩,hq⟩:=fU hc3;have hnr:cx dH 2 false (bj p).2=q2:=by simp only[cx,hq]
   obtain⟨hl,hlm,hq2,hqp⟩:=jL hp0 hq3 hq;rw[hnr,hq];obtain hl:l.length=2:=by rcases hl with h|h;cases h;exact h
   refine ax ?_;refine cD 1 (hb:=fun _=>by omega) ?_;refine ca (v:=.str l[1]!) (hi:=fun _=>by omega) ?_;refine ax ?_;refine aF (.agg [.own 3 4 0 A.length,.str (bj p).1,.str l[1]!]) (he:=by exact rfl) ?_;refine ax ?_;have hnp:cY r.rest=(⟨A,(bj p).1,l[1]!⟩,q2):=by simp only[cY,hw2,p7,hq]
   rw[hnp];refine ee 3 (hn:=bn bz.kH _) (he:=by simp only[lj,gu,j6,mb,nZ,bK,Nat.reduceEqDiff,if_true,if_false,and_self,true_and,and_true,false_and,and_false,Nat.zero_add,List.length_map,Nat.le_refl,List.drop_zero,aH,reduceCtorEq,List.length_cons,List.length_nil,Nat.reduceAdd,Nat.reduceLeDiff,Ld.D];exact rfl) (hm:=by simp only[lj,gu,j6,mb,nZ,bK,Nat.reduceEqDiff,if_true,if_false,and_self,true_and,and_true,false_and,and_false,Nat.zero_add,List.length_map,Nat.le_refl,List.drop_zero,aH,reduceCtorEq,List.length_cons,List.length_nil,Nat.reduceAdd,Nat.reduceLeDiff,Ld.D];exact rfl) ?_;refine lA [(0,.buf 2 [Ld.D (r.to q2)]),(1,.buf 3 [.agg [.au,.str [],.str []]]),(2,.buf 3 [bg.D ⟨A,(bj p).1,l[1]!⟩])] (.id ae (.id ae (.bf ae (.cons (.ag (.cons (.ss (.map fun x _=>x.wk)) (.rf _))) .nil) .nil))) ?_;refine ax ?_;refine cy (d:=bg.D ⟨A,(bj p).1,l[1]!⟩) ?_;refine aF (bg.D ⟨A,(bj p).1,l[1]!⟩) (he:=by exact rfl) ?_;refine ay ?_;refine dV trivial rj (Eq.trans ae (?_)) ae ae ae;rfl
  refine ax ?_;have hq:=fT hc3;have hnr:cx dH 2 false (bj p).2=(bj p).2:=by simp only[cx,hq]
  rw[hnr];have hnp:cY r.rest=(⟨A,(bj p).1,[]⟩,(bj p).2):=by simp only[cY,hw2,p7,hq]
  rw[hnp];refine ee 3 (hn:=bn bz.kH _) (he:=by simp only[lj,gu,j6,mb,nZ,bK,Nat.reduceEqDiff,if_true,if_false,and_self,true_and,and_true,false_and,and_false,Nat.zero_add,List.length_map,Nat.le_refl,List.drop_zero,aH,reduceCtorEq,List.length_cons,List.length_nil,Nat.reduceAdd,Nat.reduceLeDiff,Ld.D];exact rfl) (hm:=by simp only[lj,gu,j6,mb,nZ,bK,Nat.reduceEqDiff,if_true,if_false,and_self,true_and,and_true,false_and,and_false,Nat.zero_add,List.length_map,Nat.le_refl,List.drop_zero,aH,reduceCtorEq,List.length_cons,List.length_nil,Nat.reduceAdd,Nat.reduceLeDiff,Ld.D];exact rfl) ?_;refine lA [(0,.buf 2 [Ld.D (r.to (bj p).2)]),(1,.buf 3 [.agg [.au,.str [],.str []]]),(2,.buf 3 [bg.D ⟨A,(bj p).1,[]⟩])] (.id ae (.id ae (.bf ae (.cons (.ag (.cons (.ss (.map fun x _=>x.wk)) (.rf _))) .nil) .nil))) ?_;refine ax ?_;refine cy (d:=bg.D ⟨A,(bj p).1,[]⟩) ?_;refine aF (bg.D ⟨A,(bj p).1,[]⟩) (he:=by exact rfl) ?_;refine ay ?_;refine dV trivial rj (Eq.trans ae (?_)) ae ae ae;rfl
 simp only[Bool.and_eq_false_iff,Bool.not_eq_false',decide_eq_true_eq]at hc1;have hho:qC l=true:=by
  unfold qC;rcases hc1 with h|h
  ·rw[decide_eq_true (show l[3]! =ir from h)];rfl
  ·rw[decide_eq_true (show l[3]! =mK from h),Bool.or_true]
 have hwy:=yQ hq hho;refine az ?_;refine cD 1 (hb:=fun _=>by omega) ?_;refine ca (v:=.str l[1]!) (hi:=fun _=>by omega) ?_;refine ax ?_;refine cD 4 (hb:=fun _=>by omega) ?_;refine ca (v:=.str l[4]!) (hi:=fun _=>by omega) ?_;refine ax ?_;refine cD 3 (hb:=fun _=>by omega) ?_;refine ca (v:=.str l[3]!) (hi:=fun _=>by omega) ?_;refine ax ?_;refine br (.agg [.str l[1]!,.str l[4]!,.au,.bool (decide (l[3]! =ir))]) ?_;refine ax ?_;refine aF (.agg [.str l[1]!,.str l[4]!,.au,.bool (decide (l[3]! =ir))]) (he:=by exact rfl) ?_;refine aA ?_;refine cD 2 (hb:=fun _=>by omega) ?_;refine ca (v:=.str l[2]!) (hi:=fun _=>by omega) ?_;refine ay ?_;refine cF (fun hc2=>?_) fun hc2=>?_
 ·refine ay ?_;refine cD 2 (hb:=fun _=>by omega) ?_;refine ca (v:=.str l[2]!) (hi:=fun _=>by omega) ?_;refine aj (hc:=h124 l[2]! 44 (hlm _ (bG (by omega)))) ?_;refine ax ?_;refine aF (bz.N (eR l)) (he:=by show _=D.agg [.str l[1]!,.str l[4]!,JC (if l[2]! =[45]then []else ai l[2]! 44),.bool (decide (l[3]! =ir))];rw[if_neg hc2,JD (m9 _ _)];exact rfl) ?_;refine az ?_;refine ch (v:=.own 3 4 0 A.length) ?_;refine cy (d:=bz.N (eR l)) ?_;refine ct [bz.N (eR l)] ?_;refine iH (q:=bz.N) (xs:=A) (e:=eR l) ?_;refine ax ?_;refine aF (.agg [.own 56 4 0 (A++[eR l]).length,.str [],.str []]) (he:=by exact rfl) ?_;refine az ?_;exact⟨(A++[eR l],q2),⟨hq2,by simp only[List.length_append,List.length_cons,List.length_nil];omega,by rw[hw,hwy];simp⟩,by dsimp only;omega,(aL.to [(1,1),(2,2),(56,3)] ae ae dM (by refine aC.cZ ae ae ae ?_;refine aC.cZ ae ae ae ?_;refine aC.eq 2 ae ae ae ?_;refine aC.nl 56 ae ae rfl (by exact bn bz.kH _) ?_;exact aC.nil))⟩
 refine ay ?_;rw[show(D.agg [.str l[1]!,.str l[4]!,.au,.bool (decide (l[3]! =ir))])=bz.N (eR l)by show _=D.agg [.str l[1]!,.str l[4]!,JC (if l[2]! =[45]then []else ai l[2]! 44),.bool (decide (l[3]! =ir))];rw[if_pos hc2];rfl];refine ax ?_;refine ch (v:=.own 3 4 0 A.length) ?_;refine cy (d:=bz.N (eR l)) ?_;refine ct [bz.N (eR l)] ?_;refine iH (q:=bz.N) (xs:=A) (e:=eR l) ?_;refine ax ?_;refine aF (.agg [.own 50 4 0 (A++[eR l]).length,.str [],.str []]) (he:=by exact rfl) ?_;refine az ?_;exact⟨(A++[eR l],q2),⟨hq2,by simp only[List.length_append,List.length_cons,List.length_nil];omega,by rw[hw,hwy];simp⟩,by dsimp only;omega,(aL.to [(1,1),(2,2),(50,3)] ae ae dM (by refine aC.cZ ae ae ae ?_;refine aC.cZ ae ae ae ?_;refine aC.eq 2 ae ae ae ?_;refine aC.nl 50 ae ae rfl (by exact bn bz.kH _) ?_;exact aC.nil))⟩
def IE (Γ:Ctx):Prop:=∀(r:Ld),(r.sm)→Γ.fp 467 (Ld.D r) []∧Γ.fv 467 (Ld.D r) []=bg.D (cY r.rest).1∧Γ.fs 467 (Ld.D r) []=Ld.D (r.to (cY r.rest).2)
end Go.Abs
end
namespace Go.Abs
def AE (Γ:Ctx):Prop:=∀(r:Ld)(w:ah)(n:Nat)(op:Bool)(l nx:Nat)(m:List (Nat×aV))(K:D→St→Prop),r.sm→n≤1000→(op=true→1≤n)→look m l=some (.buf 2 [Ld.D r])→
 K (.tup [uc (bo w n op r.rest),.bool (bo w n op r.rest).isSome]) ⟨nx,bO m l (.buf 2 [Ld.D (r.after (bo w n op r.rest))])⟩→Γ.tr 465 [.ptr l 2 0 0,.str w,.int .i64 (n:Nat),.bool op] ⟨nx,m⟩ K
def rO {Γ:Ctx}(h:AE Γ){r:Ld}(hr:r.sm){p:List ah}(hp:p<:+r.ls){w:ah}{n:Nat}{op:Bool}(hn:n≤1000)(ho:op=true→1≤n){nx:Nat}{m:List (Nat×aV)}{K:D→St→Prop}(hl:look m 0=some (.buf 2 [Ld.D (r.to p)]))
  (hK:K (.tup [uc (bo w n op p),.bool (bo w n op p).isSome]) ⟨nx,bO m 0 (.buf 2 [Ld.D (r.to (cx w n op p))])⟩):Γ.tr 465 [.ptr 0 2 0 0,.str w,.int .i64 (n:Nat),.bool op] ⟨nx,m⟩ K:=by
 refine h (r.to p) w n op 0 nx m K (hr.to p) hn ho hl ?_;rw[Ld.rV hp,Ld.xd hp];exact hK
def G4 {Γ:Ctx}(h:IE Γ){r:Ld}(hr:r.sm){p:List ah}(hp:p<:+r.ls):Γ.fp 467 (Ld.D (r.to p)) []∧Γ.fv 467 (Ld.D (r.to p)) []=bg.D (cY p).1∧Γ.fs 467 (Ld.D (r.to p)) []=Ld.D (r.to (cY p).2):=by
 have:=h (r.to p) (hr.to p);rw[Ld.rV hp]at this;exact this
def jS:∀p:List ah,(bV p).2<:+p
 |[]=>List.suffix_refl _
 |t::r=>by
  simp only[bV];split
  ·split
   ·exact(jS r).trans (List.suffix_cons _ _)
   ·exact List.suffix_refl _
  ·exact List.suffix_refl _
def mZ (p:List ah):(cY p).2<:+p:=(EI _).trans ((fI _).trans (jS p))
def xy {p:List ah}(h:bo cC 0 false p=none):dy p=([],p):=by
 match p,h with
 |[],_=>rfl
 |t::r,h=>
  simp only[bo]at h;split at h
  ·cases h
  ·rename_i hn;simp only[dy,hn]
def BV {p l q:List ah}(h:bo cC 0 false p=some (l,q))(ho:¬2≤l.length):dy p=([],p):=by
 obtain⟨t,rfl,ht⟩:=c9 h;simp only[dy,ht,ho,if_false]
def zA {p l q:List ah}(h:bo cC 0 false p=some (l,q))(ho:2≤l.length):dy p=(⟨l[1]!,l.drop 2⟩::(dy q).1,(dy q).2):=by
 obtain⟨t,rfl,ht⟩:=c9 h;simp only[dy,ht,ho,if_true]
def eo (ls:List ah):Rec×List ah:=match qf ls with
 |some p=>p
 |none=>(nw,ls)
def cU:D:=.agg [.str [],.int .i64 0,.int .i64 0,.int .i64 0,.str [],.str [],.au,.au,.au]
def pe:rr cU nw.D:=.ag (.cons (.refl _) (.cons (.refl _) (.cons (.refl _) (.cons (.refl _) (.cons (.refl _) (.cons (.refl _) (.cons (.nil 3) (.cons (.nil 3) (.cons (.nil 2) .nil)))))))))
def kr (nm:ah)(v:dq)(n b f:D):D:=.agg [.str nm,.int .i64 v.major,.int .i64 v.minor,.int .i64 v.patch,.str v.pre,.str v.build,n,b,f]
def Kn {s:ah}(h:tD s=0):∃v,lJ s=some v:=by
 unfold tD at h;split at h
 ·rename_i hs;exact fU hs
 ·cases h
def Km {s:ah}(h:¬tD s=0):lJ s=none:=by
 unfold tD at h;split at h
 ·exact absurd rfl h
 ·rename_i hs;exact fT (by simpa using hs)
def vE (n:Nat)(op:Bool)(t:ah):(cN n op t).length≤t.length+1:=by
 have h:=cM t 32;have hp:=fB 32 t [];unfold cN;split
 ·unfold nU;split
  ·exact h
  ·simp only[List.length_append,List.length_take,List.length_cons,List.length_nil];have:1≤(ai t 32).length:=hp;omega
 ·exact h
def Et {r:Ld}(hr:r.sm){p:List ah}(hp:p<:+r.ls){w:ah}{n:Nat}{op:Bool}{l q:List ah}(h:bo w n op p=some (l,q)):l.length≤1048577:=by
 obtain⟨t,rfl,ht⟩:=c9 h;obtain⟨_,_,h3⟩:=p0 ht;have:=vE n op t;have:=hr.2 t (hp.subset (.head _));rw[h3];omega
end Go.Abs
section
namespace Go.Abs
open Go
def eC:aB:=⟨1,20,[⟨1,some (9,true)⟩,⟨2,none⟩],[[.a,.a,.a,.a,.a,.a,.sl 3 [.sl 4 [.a,.a,.sl 1 [.a],.a],.a,.a],.sl 3 [.a,.a,.a],.sl 2 [.a,.sl 1 [.a]]],[.a]],(sq (rg [gb 9 (.c (.agg [.str [],.int .i64 0,.int .i64 0,.int .i64 0,.str [],.str [],.au,.au,.au])),gm dx] [(1,0),(2,1)]) (sq (r1 [gm s0,gn (.mkf 1000465 [l0]),gm l1] 3 2) (sq (rg [gm s3,gn (.callvM l0 [(cs [112,97,99,107,97,103,101]),j7,dx]),gm l1,ge l2 0,ge l2 1,gm l3,gm l4] [(6,5),(4,6)]) (sq (sq (r1 [gm s4,oy l0] 5 1) (.cond s5 (sq (r1 [gn (.build [.str [],.int .i64 0,.int .i64 0,.int .i64 0,.str [],.str [],.au,.au,.au] []),gt 9 s1 l0,gm dx] 2 2) .ret) .skip)) (sq (rg [gm s6,ga 1 l0 kn,gd l1,gx 466 [l2] cn,gm l3,ge l4 0,ge l4 1,gb 5 (.c (.agg [.int .i64 0,.int .i64 0,.int .i64 0,.str [],.str []])),gt 5 l7 l5,gm l6] [(9,7),(7,9)]) (sq (sq (r1 [gm s7,cl l0 bD] 8 1) (.cond s8 (sq (rg [gm s0,gc l0,gf 1 l1,gd l2,eQ l3 b9,gc l0,gf 1 l5,gt 1 l6 l4] []) (sq (r1 [gn (.build [.str [],.int .i64 0,.int .i64 0,.int .i64 0,.str [],.str [],.au,.au,.au] []),gt 9 s1 l0,gm dx] 2 2) .ret)) .skip)) (sq (r2 [gm s6,ga 1 l0 b9,gd l1,gk 5 true s9,gn (.build [.str [],.int .i64 0,.int .i64 0,.int .i64 0,.str [],.str [],.au,.au,.au] [(0,1,l2),(1,5,l3)]),gb 9 (.c (.agg [.str [],.int .i64 0,.int .i64 0,.int .i64 0,.str [],.str [],.au,.au,.au])),gt 9 l5 l4] 12 5) (sq (.block 0 (.loop (.block 1 (sq (sq (r1 [gm s3,gn (.callvM l0 [(cs [110,101,101,100]),b9,dx]),gm l1,ge l2 0,ge l2 1,gm l3,gm l4] 10 6) (sq (r1 [gm lx,oy l0] 11 1) (.cond oz (.exit 0) .skip))) (rt [gf 6 m8,gn (.ldU 1 false l0),gm s0,gn (.callF 467 l2 [] []),gn (.bsl 3 (.agg [.au,.str [],.str []]) 1 [(0,l3)]),gn (.app 3 l1 l4),gf 6 m8,gt 1 l6 l5] []))))) (sq (.block 2 (.loop (.block 3 (sq (rg [gm s3,gn (.callvM l0 [(cs [98,97,114]),j7,tO]),gm l1,ge l2 0,ge l2 1,gm l3,gm l4] [(15,5),(13,6)]) (sq (sq (r1 [gm tn,oy l0] 14 1) (.cond rS (.exit 2) .skip)) (rt [gf 7 m8,gn (.ldU 1 false l0),gm vc,ga 1 l2 b9,gn (.ldU 1 false l3),gm vc,ga 1 l5 kn,gn (.ldU 1 false l6),gm s0,gn (.callF 468 l8 [] []),gn (.build [.str [],.str [],.str []] [(0,1,l4),(1,1,l7),(2,1,l9)]),gn (.bsl 3 (.agg [.str [],.str [],.str []]) 1 [(0,l10)]),gn (.app 3 l1 jK),gf 7 m8,gt 1 nu lu] [])))))) (sq (.block 4 (.loop (.block 5 (sq (rg [gm s3,gn (.callvM l0 [(cs [102,101,97,116,117,114,101]),bD,dx]),gm l1,ge l2 0,ge l2 1,gm l3,gm l4] [(18,5),(16,6)]) (sq (sq (r1 [gm Bn,oy l0] 17 1) (.cond wY (.exit 4) .skip)) (sq (sq (r1 [gm CU,gl l0,aU l1 kn] 19 2) (.cond Kd (sq (rg [gm s0,gc l0,gf 1 l1,gd l2,eQ l3 b9,gc l0,gf 1 l5,gt 1 l6 l4] []) (.exit 4)) .skip)) (rt [gf 8 m8,gd l0,gm CU,ga 1 l2 b9,gd l3,gm CU,gn (.slA 1 l5 (some kn) none),gx 469 [l6] [[.sl 1 [.a]]],gn (.build [.str [],.au] [(0,1,l4),(1,1,l7)]),gn (.bsl 2 (.agg [.str [],.au]) 1 [(0,l8)]),gn (.app 2 l1 l9),gf 8 m8,gt 1 jK l10] []))))))) (sq (r1 [gk 9 true m8,gt 9 s1 l0,gm tO] 2 2) .ret)))))))))))⟩
def w222 {Γ:Ctx}(hm:(Γ.at 1).bm)(h466:K9 (Γ.at 1))(h467:IE (Γ.at 1))(h468:FW (Γ.at 1))(h469:La (Γ.at 1))(h9465:AE (Γ.at 1))(r:Ld)  (hp0:r.sm):bx (Γ.at 1) eC.body (BE eC 2 (.tup [Rec.D (eo r.rest).1,.bool (qf r.rest).isSome]) (Ld.D (r.to (eo r.rest).2)):Ex→List aW→St→Prop) (eu eC (.ptr 0 2 0 0::[])) ⟨1,[(0,.buf 2 [(Ld.D r)])]⟩:=by
 show bx _ _ _ [⟨true,.ptr 0 2 0 0⟩,.un,.un,.un,.un,.un,.un,.un,.un,.un,.un,.un,.un,.un,.un,.un,.un,.un,.un,.un] ⟨1,[(0,.buf 2 [(Ld.D r)])]⟩;have hself:=Ld.wM hp0;have hq1:=r.tl;have hll:=hp0.1.2;refine ak ?_;refine aR ?_;refine MK _ ?_;refine az ?_;rw[show Ld.D r=Ld.D (r.to r.rest)by rw[hself]];refine ax ?_;refine jf (n:=1000465) (UO:=[.ptr 0 2 0 0,.str de,.int .i64 ((3:Nat):Int),.bool false]) (ι:=Unit) (fun _=>True) (fun _=>.tup [uc (bo de 3 false r.rest),.bool (bo de 3 false r.rest).isSome]) 6 (fun _=>[(0,.buf 2 [Ld.D (r.to (cx de 3 false r.rest))]),(1,.buf 9 [cU])]) (fun _ _=>?_) (hc:=fun K' hK=>rO h9465 hp0 hq1 (w:=de) (n:=3) (op:=false) (by decide) (by decide) ae (hK () trivial)) (hn:=by decide);refine ax ?_;refine fG _ ?_;refine dh ?_;refine aq (fun hc0=>?_) (fun hc0=>?_)
 ·simp only[Bool.not_eq_true']at hc0;have hq:=fT hc0;have hnr:cx de 3 false r.rest=r.rest:=by simp only[cx,hq]
  rw[hnr];have hrp:qf r.rest=none:=by simp only[qf,hq]
  have hrv:eo r.rest=(nw,r.rest):=by simp only[eo,hrp]
  rw[hrv,hrp];refine ay ?_;refine br cU ?_;refine aF cU (he:=by exact rfl) ?_;refine ay ?_;refine lA [(0,.buf 2 [Ld.D (r.to r.rest)]),(1,.buf 9 [Rec.D nw])] (.id ae (.bf ae (.cons pe .nil) .nil)) ?_;refine ax ?_;refine dV trivial rj (Eq.trans ae (aO ?_ ?_)) ae ae ae;all_goals rfl
 simp only[Bool.not_eq_false']at hc0;obtain⟨⟨l,q0⟩,hq⟩:=fU hc0;have hnr:cx de 3 false r.rest=q0:=by simp only[cx,hq]
 obtain⟨hl,hlm,hq0,hqp⟩:=jL hp0 hq1 hq;rw[hnr,hq];obtain hl:l.length=3:=by rcases hl with h|h;cases h;exact h
 refine az ?_;refine cD 2 (hb:=fun _=>by omega) ?_;refine ca (v:=.str l[2]!) (hi:=fun _=>by omega) ?_;refine aj (hc:=h466 l[2]! (hlm _ (bG (by omega)))) ?_;refine ax ?_;refine fG (dq.D _) ?_;refine ay ?_;refine aF (dq.D ((lJ l[2]!).getD iK)) (he:=by exact rfl) ?_;refine ba ?_;refine aq (fun hc1=>?_) (fun hc1=>?_)
 ·simp only[Bool.not_eq_true',decide_eq_false_iff_not]at hc1;have hv:=Km hc1;have hrp:qf r.rest=none:=by simp only[qf,hq,hv]
  have hrv:eo r.rest=(nw,r.rest):=by simp only[eo,hrp]
  rw[hrv,hrp];obtain⟨t,hpt,_⟩:=c9 hq;refine ay ?_;obtain⟨hab1,hab2⟩:=(hp0.to q0).1;refine az ?_;refine ch (v:=.int .i64 ((r.to q0).at':Nat)) ?_;refine az ?_;refine aF (Ld.D (r.to r.rest)) (he:=by rw[hpt];exact Ld.back (hpt▸hq1)) ?_;refine az ?_;refine br cU ?_;refine aF cU (he:=by exact rfl) ?_;refine ay ?_;refine lA [(0,.buf 2 [Ld.D (r.to r.rest)]),(1,.buf 9 [Rec.D nw]),(22,.buf 5 [dq.D ((lJ l[2]!).getD iK)])] (.id ae (.bf ae (.cons pe .nil) (.id ae .nil))) ?_;refine ax ?_;refine dV trivial rj (Eq.trans ae (aO ?_ ?_)) ae ae ae;all_goals rfl
 simp only[Bool.not_eq_false',decide_eq_true_eq]at hc1;obtain⟨v,hv⟩:=Kn hc1;rw[hv];have hrp:qf r.rest=some (r8 l[1]! v q0):=by simp only[qf,hq,hv]
 have hrv:eo r.rest=r8 l[1]! v q0:=by simp only[eo,hrp]
 rw[hrv,hrp];generalize hnm:l[1]! =nm;have hq01:=hq0.length_le;refine ay ?_;rw[←hnm];refine ax ?_;refine cD 1 (hb:=fun _=>by omega) ?_;refine ca (v:=.str l[1]!) (hi:=fun _=>by omega) ?_;refine cy (d:=dq.D v) ?_;refine br (kr l[1]! v .au .au .au) ?_;refine ax ?_;refine aF (kr l[1]! v .au .au .au) (he:=by exact rfl) ?_;refine ax ?_;rw[hnm];refine bq hm (ι:=(List bg×List ah)) (fun z=>[⟨true,.ptr 0 2 0 0⟩,⟨true,.ptr 1 9 0 0⟩,⟨true,.bool false⟩,⟨true,.fn 1000465 [.ptr 0 2 0 0]⟩,.un,.un,.un,.un,.un,.un,.un,.un,⟨true,.ptr 2 9 0 0⟩,.un,.un,.un,.un,.un,.un,.un]) (fun z=>[(0,.buf 2 [Ld.D (r.to z.2)]),(1,.buf 9 [cU]),(2,.buf 9 [kr nm v (.own 3 3 0 (z.1).length) (.au) (.au)]),(3,.buf 3 (z.1.map bg.D))]) 10 (fun z=>z.2<:+r.ls∧z.1.length+z.2.length≤r.ls.length∧ey q0=(z.1++(ey z.2).1,(ey z.2).2)) (fun z=>z.2.length) ([],q0) ⟨hq0,by simpa using hq01,by simp⟩ (aL.to [(1,1),(32,2)] ae ae dM (by refine aC.cZ ae ae ae ?_;refine aC.cZ ae ae ae ?_;refine aC.ni 32 ae ae (by exact⟨_,_,rfl,⟨_,rfl,⟨_,_,rfl,⟨rfl,rfl⟩,⟨_,_,rfl,⟨rfl,rfl⟩,⟨_,_,rfl,⟨rfl,rfl⟩,⟨_,_,rfl,⟨rfl,rfl⟩,⟨_,_,rfl,⟨rfl,rfl⟩,⟨_,_,rfl,⟨rfl,rfl⟩,⟨_,_,rfl,Or.inr ⟨_,_,_,rfl⟩,⟨_,_,rfl,Or.inl rfl,⟨_,_,rfl,Or.inl rfl,rfl⟩⟩⟩⟩⟩⟩⟩⟩⟩⟩,rfl⟩) ?_;refine aC.mt ae ae ae ae ?_;exact aC.nil)) ?_;rintro⟨N,p⟩ ⟨hq1,hlen,hw⟩;dsimp only at hq1 hlen hw⊢;refine aA ?_;refine jf (n:=1000465) (UO:=[.ptr 0 2 0 0,.str gE,.int .i64 ((1:Nat):Int),.bool false]) (ι:=Unit) (fun _=>True) (fun _=>.tup [uc (bo gE 1 false p),.bool (bo gE 1 false p).isSome]) 10 (fun _=>[(0,.buf 2 [Ld.D (r.to (cx gE 1 false p))]),(1,.buf 9 [cU]),(2,.buf 9 [kr nm v (.own 3 3 0 (N).length) (.au) (.au)]),(3,.buf 3 (N.map bg.D))]) (fun _ _=>?_) (hc:=fun K' hK=>rO h9465 hp0 hq1 (w:=gE) (n:=1) (op:=false) (by decide) (by decide) ae (hK () trivial)) (hn:=by decide);refine ax ?_;refine fG _ ?_;refine dh ?_;refine aq (fun hc2=>?_) (fun hc2=>?_)
 ·simp only[Bool.not_eq_true']at hc2;have hq:=fT hc2;have hnr:cx gE 1 false p=p:=by simp only[cx,hq]
  rw[hnr];have hn2:ey q0=(N,p):=by rw[hw,x7 hq,List.append_nil]
  have hpl:=hq1.length_le;refine az ?_;refine ee 3 (hn:=bn (fun _=>rfl) _) (he:=by simp only[lj,gu,j6,mb,nZ,bK,Nat.reduceEqDiff,if_true,if_false,and_self,true_and,and_true,false_and,and_false,Nat.zero_add,List.length_map,Nat.le_refl,List.drop_zero,aH,reduceCtorEq,List.length_cons,List.length_nil,Nat.reduceAdd,Nat.reduceLeDiff,Ld.D,cU,kr];exact rfl) (hm:=by simp only[lj,gu,j6,mb,nZ,bK,Nat.reduceEqDiff,if_true,if_false,and_self,true_and,and_true,false_and,and_false,Nat.zero_add,List.length_map,Nat.le_refl,List.drop_zero,aH,reduceCtorEq,List.length_cons,List.length_nil,Nat.reduceAdd,Nat.reduceLeDiff,Ld.D,cU,kr];exact rfl) ?_;refine bq hm (ι:=(List iy×List ah)) (fun z=>[⟨true,.ptr 0 2 0 0⟩,⟨true,.ptr 1 9 0 0⟩,⟨true,.bool false⟩,⟨true,.fn 1000465 [.ptr 0 2 0 0]⟩,.un,.un,.un,.un,.un,.un,.un,.un,⟨true,.ptr 2 9 0 0⟩,.un,.un,.un,.un,.un,.un,.un]) (fun z=>[(0,.buf 2 [Ld.D (r.to z.2)]),(1,.buf 9 [cU]),(2,.buf 9 [kr nm v ((.sl 3 (N.map bg.D))) (.own 3 3 0 (z.1).length) (.au)]),(3,.buf 3 (z.1.map iy.D))]) 10 (fun z=>z.2<:+r.ls∧z.1.length+z.2.length≤r.ls.length∧jF p=(z.1++(jF z.2).1,(jF z.2).2)) (fun z=>z.2.length) ([],p) ⟨hq1,by simpa using hpl,by simp⟩ (aL.to [(1,1),(2,2)] ae ae dM (by refine aC.cZ ae ae ae ?_;refine aC.cZ ae ae ae ?_;refine aC.ni 2 ae ae (by exact⟨_,_,rfl,⟨_,rfl,⟨_,_,rfl,⟨rfl,rfl⟩,⟨_,_,rfl,⟨rfl,rfl⟩,⟨_,_,rfl,⟨rfl,rfl⟩,⟨_,_,rfl,⟨rfl,rfl⟩,⟨_,_,rfl,⟨rfl,rfl⟩,⟨_,_,rfl,⟨rfl,rfl⟩,⟨_,_,rfl,⟨rfl,rfl⟩,⟨_,_,rfl,Or.inr ⟨_,_,_,rfl⟩,⟨_,_,rfl,Or.inl rfl,rfl⟩⟩⟩⟩⟩⟩⟩⟩⟩⟩,rfl⟩) ?_;refine aC.mt ae ae ae ae ?_;exact aC.nil)) ?_;rintro⟨B,pb⟩ ⟨hq1,hlen,hw⟩;dsimp only at hq1 hlen hw⊢;refine az ?_;refine jf (n:=1000465) (UO:=[.ptr 0 2 0 0,.str iZ,.int .i64 ((3:Nat):Int),.bool true]) (ι:=Unit) (fun _=>True) (fun _=>.tup [uc (bo iZ 3 true pb),.bool (bo iZ 3 true pb).isSome]) 10 (fun _=>[(0,.buf 2 [Ld.D (r.to (cx iZ 3 true pb))]),(1,.buf 9 [cU]),(2,.buf 9 [kr nm v ((.sl 3 (N.map bg.D))) (.own 3 3 0 (B).length) (.au)]),(3,.buf 3 (B.map iy.D))]) (fun _ _=>?_) (hc:=fun K' hK=>rO h9465 hp0 hq1 (w:=iZ) (n:=3) (op:=true) (by decide) (by decide) ae (hK () trivial)) (hn:=by decide);refine ax ?_;refine fG _ ?_;refine dh ?_;refine aq (fun hc3=>?_) (fun hc3=>?_)
  ·simp only[Bool.not_eq_true']at hc3;have hq:=fT hc3;have hnr:cx iZ 3 true pb=pb:=by simp only[cx,hq]
   rw[hnr];have iz:jF p=(B,pb):=by rw[hw,zi hq,List.append_nil]
   have hpl2:=hq1.length_le;refine az ?_;refine ee 3 (hn:=bn (fun _=>rfl) _) (he:=by simp only[lj,gu,j6,mb,nZ,bK,Nat.reduceEqDiff,if_true,if_false,and_self,true_and,and_true,false_and,and_false,Nat.zero_add,List.length_map,Nat.le_refl,List.drop_zero,aH,reduceCtorEq,List.length_cons,List.length_nil,Nat.reduceAdd,Nat.reduceLeDiff,Ld.D,cU,kr];exact rfl) (hm:=by simp only[lj,gu,j6,mb,nZ,bK,Nat.reduceEqDiff,if_true,if_false,and_self,true_and,and_true,false_and,and_false,Nat.zero_add,List.length_map,Nat.le_refl,List.drop_zero,aH,reduceCtorEq,List.length_cons,List.length_nil,Nat.reduceAdd,Nat.reduceLeDiff,Ld.D,cU,kr];exact rfl) ?_;refine bq hm (ι:=(List bp×List ah)) (fun z=>[⟨true,.ptr 0 2 0 0⟩,⟨true,.ptr 1 9 0 0⟩,⟨true,.bool false⟩,⟨true,.fn 1000465 [.ptr 0 2 0 0]⟩,.un,.un,.un,.un,.un,.un,.un,.un,⟨true,.ptr 2 9 0 0⟩,.un,.un,.un,.un,.un,.un,.un]) (fun z=>[(0,.buf 2 [Ld.D (r.to z.2)]),(1,.buf 9 [cU]),(2,.buf 9 [kr nm v ((.sl 3 (N.map bg.D))) ((.sl 3 (B.map iy.D))) (.own 3 2 0 (z.1).length)]),(3,.buf 2 (z.1.map bp.D))]) 10 (fun z=>z.2<:+r.ls∧z.1.length+z.2.length≤r.ls.length∧dy pb=(z.1++(dy z.2).1,(dy z.2).2)) (fun z=>z.2.length) ([],pb) ⟨hq1,by simpa using hpl2,by simp⟩ (aL.to [(1,1),(2,2)] ae ae dM (by refine aC.cZ ae ae ae ?_;refine aC.cZ ae ae ae ?_;refine aC.ni 2 ae ae (by exact⟨_,_,rfl,⟨_,rfl,⟨_,_,rfl,⟨rfl,rfl⟩,⟨_,_,rfl,⟨rfl,rfl⟩,⟨_,_,rfl,⟨rfl,rfl⟩,⟨_,_,rfl,⟨rfl,rfl⟩,⟨_,_,rfl,⟨rfl,rfl⟩,⟨_,_,rfl,⟨rfl,rfl⟩,⟨_,_,rfl,⟨rfl,rfl⟩,⟨_,_,rfl,⟨rfl,rfl⟩,⟨_,_,rfl,Or.inr ⟨_,_,_,rfl⟩,rfl⟩⟩⟩⟩⟩⟩⟩⟩⟩⟩,rfl⟩) ?_;refine aC.mt ae ae ae ae ?_;exact aC.nil)) ?_;rintro⟨Z,pf⟩ ⟨hq1,hlen,hw⟩;dsimp only at hq1 hlen hw⊢;refine az ?_;refine jf (n:=1000465) (UO:=[.ptr 0 2 0 0,.str cC,.int .i64 ((0:Nat):Int),.bool false]) (ι:=Unit) (fun _=>True) (fun _=>.tup [uc (bo cC 0 false pf),.bool (bo cC 0 false pf).isSome]) 10 (fun _=>[(0,.buf 2 [Ld.D (r.to (cx cC 0 false pf))]),(1,.buf 9 [cU]),(2,.buf 9 [kr nm v ((.sl 3 (N.map bg.D))) ((.sl 3 (B.map iy.D))) (.own 3 2 0 (Z).length)]),(3,.buf 2 (Z.map bp.D))]) (fun _ _=>?_) (hc:=fun K' hK=>rO h9465 hp0 hq1 (w:=cC) (n:=0) (op:=false) (by decide) (by decide) ae (hK () trivial)) (hn:=by decide);refine ax ?_;refine fG _ ?_;refine dh ?_;refine aq (fun hc4=>?_) (fun hc4=>?_)
   ·simp only[Bool.not_eq_true']at hc4;have hq:=fT hc4;have hnr:cx cC 0 false pf=pf:=by simp only[cx,hq]
    rw[hnr];have hf2:dy pb=(Z,pf):=by rw[hw,xy hq,List.append_nil]
    refine az ?_;have hbd:r8 nm v q0=(⟨nm,v,N,B,Z⟩,pf):=by simp only[r8,hn2,iz,hf2]
    rw[hbd];refine ee 3 (hn:=bn (fun _=>rfl) _) (he:=by simp only[lj,gu,j6,mb,nZ,bK,Nat.reduceEqDiff,if_true,if_false,and_self,true_and,and_true,false_and,and_false,Nat.zero_add,List.length_map,Nat.le_refl,List.drop_zero,aH,reduceCtorEq,List.length_cons,List.length_nil,Nat.reduceAdd,Nat.reduceLeDiff,Ld.D,cU,kr];exact rfl) (hm:=by simp only[lj,gu,j6,mb,nZ,bK,Nat.reduceEqDiff,if_true,if_false,and_self,true_and,and_true,false_and,and_false,Nat.zero_add,List.length_map,Nat.le_refl,List.drop_zero,aH,reduceCtorEq,List.length_cons,List.length_nil,Nat.reduceAdd,Nat.reduceLeDiff,Ld.D,cU,kr];exact rfl) ?_;refine ax ?_;refine cy (d:=Rec.D ⟨nm,v,N,B,Z⟩) ?_;refine aF (Rec.D ⟨nm,v,N,B,Z⟩) (he:=by exact rfl) ?_;refine az ?_;refine dV trivial rj (Eq.trans ae (aO ?_ ?_)) ae ae ae;all_goals rfl
   simp only[Bool.not_eq_false']at hc4;obtain⟨⟨l,q2⟩,hq⟩:=fU hc4;have hnr:cx cC 0 false pf=q2:=by simp only[cx,hq]
   obtain⟨hl,hlm,hq2,hqp⟩:=jL hp0 hq1 hq;rw[hnr,hq];have hll2:=Et hp0 hq1 hq;refine aR ?_;intro u0;refine ay ?_;refine cF (fun hc5=>?_) fun hc5=>?_
   ·refine ay ?_;have hf2:dy pb=(Z,pf):=by rw[hw,BV hq (by omega),List.append_nil]
    obtain⟨t,hpt,_⟩:=c9 hq;obtain⟨hab1,hab2⟩:=(hp0.to q2).1;refine az ?_;refine ch (v:=.int .i64 ((r.to q2).at':Nat)) ?_;refine az ?_;refine aF (Ld.D (r.to pf)) (he:=by rw[hpt];exact Ld.back (hpt▸hq1)) ?_;refine aA ?_;have hbd:r8 nm v q0=(⟨nm,v,N,B,Z⟩,pf):=by simp only[r8,hn2,iz,hf2]
    rw[hbd];refine ee 3 (hn:=bn (fun _=>rfl) _) (he:=by simp only[lj,gu,j6,mb,nZ,bK,Nat.reduceEqDiff,if_true,if_false,and_self,true_and,and_true,false_and,and_false,Nat.zero_add,List.length_map,Nat.le_refl,List.drop_zero,aH,reduceCtorEq,List.length_cons,List.length_nil,Nat.reduceAdd,Nat.reduceLeDiff,Ld.D,cU,kr];exact rfl) (hm:=by simp only[lj,gu,j6,mb,nZ,bK,Nat.reduceEqDiff,if_true,if_false,and_self,true_and,and_true,false_and,and_false,Nat.zero_add,List.length_map,Nat.le_refl,List.drop_zero,aH,reduceCtorEq,List.length_cons,List.length_nil,Nat.reduceAdd,Nat.reduceLeDiff,Ld.D,cU,kr];exact rfl) ?_;refine ax ?_;refine cy (d:=Rec.D ⟨nm,v,N,B,Z⟩) ?_;refine aF (Rec.D ⟨nm,v,N,B,Z⟩) (he:=by exact rfl) ?_;refine az ?_;refine dV trivial rj (Eq.trans ae (aO ?_ ?_)) ae ae ae;all_goals rfl
   refine ay ?_;have h2l:2≤l.length:=by omega
   refine ax ?_;refine ch (v:=.own 3 2 0 Z.length) ?_;refine ax ?_;refine cD 1 (hb:=fun _=>by omega) ?_;refine ca (v:=.str l[1]!) (hi:=fun _=>by omega) ?_;refine ax ?_;refine te 2 (hb:=fun _=>by omega) ?_;refine aj (hc:=h469 (l.drop 2) (by rw[List.length_drop];omega)) ?_;refine br (bp.D ⟨l[1]!,l.drop 2⟩) ?_;refine ct [bp.D ⟨l[1]!,l.drop 2⟩] ?_;refine iH (q:=bp.D) (xs:=Z) (e:=⟨l[1]!,l.drop 2⟩) ?_;refine ax ?_;refine aF (kr nm v (.sl 3 (N.map bg.D)) (.sl 3 (B.map iy.D)) (.own 32 2 0 (Z++[(⟨l[1]!,l.drop 2⟩:bp)]).length)) (he:=by exact rfl) ?_;refine az ?_;have hsl:=Nat.le_refl 0;exact⟨(Z++[⟨l[1]!,l.drop 2⟩],q2),⟨hq2,by simp only[List.length_append,List.length_cons,List.length_nil];omega,by rw[hw,zA hq h2l];simp⟩,by dsimp only;omega,(aL.to [(1,1),(2,2),(32,3)] ae ae dM (by refine aC.cZ ae ae ae ?_;refine aC.cZ ae ae ae ?_;refine aC.eq 2 ae ae ae ?_;refine aC.nl 32 ae ae rfl (by exact bn (fun _=>rfl) _) ?_;exact aC.nil))⟩
  simp only[Bool.not_eq_false']at hc3;obtain⟨⟨l,q2⟩,hq⟩:=fU hc3;have hnr:cx iZ 3 true pb=q2:=by simp only[cx,hq]
  obtain⟨hl,hlm,hq2,hqp⟩:=jL hp0 hq1 hq;rw[hnr,hq];obtain hl:l.length=3:=by rcases hl with h|h;cases h;exact h
  refine az ?_;refine E7 (v:=.own 3 3 0 B.length) ?_;refine ax ?_;refine cD 1 (hb:=fun _=>by omega) ?_;refine E8 (v:=.str l[1]!) (hi:=fun _=>by omega) ?_;refine ax ?_;refine cD 2 (hb:=fun _=>by omega) ?_;refine E8 (v:=.str l[2]!) (hi:=fun _=>by omega) ?_;refine ax ?_;refine iY (hc:=wR h468 hp0 hq2) ?_;refine br (iy.D ⟨l[1]!,l[2]!,(bj q2).1⟩) ?_;refine ct [iy.D ⟨l[1]!,l[2]!,(bj q2).1⟩] ?_;refine iH (q:=iy.D) (xs:=B) (e:=⟨l[1]!,l[2]!,(bj q2).1⟩) ?_;refine ax ?_;refine aF (kr nm v (.sl 3 (N.map bg.D)) (.own 31 3 0 (B++[(⟨l[1]!,l[2]!,(bj q2).1⟩:iy)]).length) .au) (he:=by exact rfl) ?_;refine az ?_;have hsl:=(fI q2).length_le;exact⟨(B++[⟨l[1]!,l[2]!,(bj q2).1⟩],(bj q2).2),⟨(fI q2).trans hq2,by simp only[List.length_append,List.length_cons,List.length_nil];omega,by rw[hw,zj hq];simp⟩,by dsimp only;omega,(aL.to [(1,1),(2,2),(31,3)] ae ae dM (by refine aC.cZ ae ae ae ?_;refine aC.cZ ae ae ae ?_;refine aC.eq 2 ae ae ae ?_;refine aC.nl 31 ae ae rfl (by exact bn (fun _=>rfl) _) ?_;exact aC.nil))⟩
 simp only[Bool.not_eq_false']at hc2;obtain⟨⟨l,q2⟩,hq⟩:=fU hc2;have hnr:cx gE 1 false p=q2:=by simp only[cx,hq]
 obtain⟨hl,hlm,hq2,hqp⟩:=jL hp0 hq1 hq;rw[hnr,hq];refine az ?_;refine E7 (v:=.own 3 3 0 N.length) ?_;refine ax ?_;refine iY (hc:=G4 h467 hp0 hq2) ?_;refine ct [bg.D (cY q2).1] ?_;refine iH (q:=bg.D) (xs:=N) (e:=(cY q2).1) ?_;refine ax ?_;refine aF (kr nm v (.own 24 3 0 (N++[(cY q2).1]).length) .au .au) (he:=by exact rfl) ?_;refine az ?_;have hsl:=(mZ q2).length_le;exact⟨(N++[(cY q2).1],(cY q2).2),⟨(mZ q2).trans hq2,by simp only[List.length_append,List.length_cons,List.length_nil];omega,by rw[hw,x8 hq];simp⟩,by dsimp only;omega,(aL.to [(1,1),(2,2),(24,3)] ae ae dM (by refine aC.cZ ae ae ae ?_;refine aC.cZ ae ae ae ?_;refine aC.eq 2 ae ae ae ?_;refine aC.nl 24 ae ae rfl (by exact bn (fun _=>rfl) _) ?_;exact aC.nil))⟩
def KP (Γ:Ctx):Prop:=∀(r:Ld),(r.sm)→Γ.fp 222 (Ld.D r) []∧Γ.fv 222 (Ld.D r) []=.tup [Rec.D (eo r.rest).1,.bool (qf r.rest).isSome]∧Γ.fs 222 (Ld.D r) []=Ld.D (r.to (eo r.rest).2)
end Go.Abs
end
namespace Go.Abs
def vM (p:List ah):Prop:=∀t∈p,t.length≤1048576
def vM.get {l:List ah}(h:vM l)(i:Nat):l[i]!.length≤1048576:=by
 rcases Nat.lt_or_ge i l.length with hi|hi
 ·exact h _ (bG hi)
 ·simp[hi];exact Nat.zero_le _
def vM.next {p:List ah}(hp:vM p){w:ah}{n:Nat}{op:Bool}{l q:List ah}(h:bo w n op p=some (l,q)):vM l∧vM q∧l.length≤1048577:=by
 obtain⟨t,rfl,ht⟩:=c9 h;obtain⟨_,_,h3⟩:=p0 ht;have h0:=hp t (.head _);refine⟨fun u hu=>?_,fun u hu=>hp u (.tail _ hu), ?_⟩
 ·rw[h3]at hu;have:=yR hu;omega
 ·have:=vE n op t;rw[h3];omega
def vM.HB {p q:List ah}(hp:vM p)(h:q<:+p):vM q:=fun t ht=>hp t (h.subset ht)
def C5 {l:List ah}(h:vM l):(eR l).sm:=by
 refine⟨⟨h.get 1,h.get 4⟩,fun t ht=>?_⟩;unfold eR at ht;simp only at ht;split at ht
 ·cases ht
 ·have:=dd _ _ ht;have:=h.get 2;omega
def A9 {w:ah}{n:Nat}{op:Bool}{t:ah}{r l:List ah}(h:ju w n op t=some l):bo w n op (t::r)=some (l,r):=by simp only[bo,h]
def tF:∀p:List ah,vM p→∀x∈(bV p).1,x.sm
 |[],_,x,hx=>by simp[bV]at hx
 |t::r,hp,x,hx=>by
  have ih:=tF r (fun u hu=>hp u (.tail _ hu));simp only[bV]at hx;split at hx
  ·rename_i l hl;split at hx
   ·simp only[List.mem_cons]at hx;rcases hx with rfl|hx
    ·exact C5 (hp.next (A9 (r:=r) hl)).1
    ·exact ih x hx
   ·simp at hx
  ·simp at hx
def yP {p:List ah}(hp:vM p):(bj p).1.length≤1048576:=by
 unfold bj;split
 ·rename_i h;exact(hp.next h).1.get 1
 ·simp
def Hd {p:List ah}(hp:vM p):(p7 p).1.length≤1048576:=by
 unfold p7;split
 ·rename_i h;exact(hp.next h).1.get 1
 ·simp
def Er {p:List ah}(hp:vM p):(cY p).1.sm:=⟨tF p hp,yP (hp.HB (jS p)),Hd ((hp.HB (jS p)).HB (fI _))⟩
def uQ:∀(f:Nat)(p:List ah),vM p→(∀x∈(iG f p).1,x.sm)∧(iG f p).2<:+p
 |0,p,_=>⟨fun x hx=>by simp[iG]at hx,List.suffix_refl _⟩
 |f+1,p,hp=>by
  simp only[iG];split
  ·rename_i l r h;have hr:=(hp.next h).2.1;obtain⟨i1,i2⟩:=uQ f (cY r).2 (hr.HB (mZ r));refine⟨fun x hx=>?_,i2.trans ((mZ r).trans (kq h))⟩;simp only[List.mem_cons]at hx;rcases hx with rfl|hx
   ·exact Er hr
   ·exact i1 x hx
  ·exact⟨fun x hx=>by simp at hx,List.suffix_refl _⟩
def xl:∀(f:Nat)(p:List ah),vM p→(∀x∈(lf f p).1,x.sm)∧(lf f p).2<:+p
 |0,p,_=>⟨fun x hx=>by simp[lf]at hx,List.suffix_refl _⟩
 |f+1,p,hp=>by
  simp only[lf];split
  ·rename_i l r h;obtain⟨hl,hr,_⟩:=hp.next h;obtain⟨i1,i2⟩:=xl f (bj r).2 (hr.HB (fI r));refine⟨fun x hx=>?_,i2.trans ((fI r).trans (kq h))⟩;simp only[List.mem_cons]at hx;rcases hx with rfl|hx
   ·exact⟨hl.get 1,hl.get 2,yP hr⟩
   ·exact i1 x hx
  ·exact⟨fun x hx=>by simp at hx,List.suffix_refl _⟩
def uA:∀(p:List ah),vM p→(∀x∈(dy p).1,x.sm)∧(dy p).2<:+p
 |[],_=>⟨fun x hx=>by simp[dy]at hx,List.suffix_refl _⟩
 |t::r,hp=>by
  obtain⟨i1,i2⟩:=uA r (fun u hu=>hp u (.tail _ hu));simp only[dy];split
  ·rename_i l hl;obtain⟨hlm,_,hll⟩:=hp.next (A9 (r:=r) hl);split
   ·refine⟨fun x hx=>?_,i2.trans (List.suffix_cons _ _)⟩;simp only[List.mem_cons]at hx;rcases hx with rfl|hx
    ·refine⟨hlm.get 1, ?_,fun u hu=>hlm u (List.mem_of_mem_drop hu)⟩;simp only[List.length_drop];omega
    ·exact i1 x hx
   ·exact⟨fun x hx=>by simp at hx,List.suffix_refl _⟩
  ·exact⟨fun x hx=>by simp at hx,List.suffix_refl _⟩
def Bi:il nw:=⟨⟨by decide,by decide,by decide⟩,fun n hn=>(by cases hn),fun n hn=>(by cases hn),fun n hn=>(by cases hn)⟩
def Hr {p:List ah}(hp:vM p):il (eo p).1∧(eo p).2<:+p:=by
 unfold eo qf;cases h:bo de 3 false p with
 |none=>exact⟨Bi,List.suffix_refl _⟩
 |some lq=>
  obtain⟨l,r⟩:=lq;obtain⟨hl,hr,_⟩:=hp.next h;simp only;cases hv:lJ l[2]! with
  |none=>exact⟨Bi,List.suffix_refl _⟩
  |some v=>
   have hvs:=HH (hl.get 2);rw[hv]at hvs;obtain⟨n1,n2⟩:=uQ r.length r hr;obtain⟨b1,b2⟩:=xl (ey r).2.length (ey r).2 (hr.HB n2);obtain⟨f1,f2⟩:=uA (jF (ey r).2).2 ((hr.HB n2).HB b2);exact⟨⟨⟨hl.get 1,hvs⟩,n1,b1,f1⟩,f2.trans (b2.trans (n2.trans (kq h)))⟩
def fX (s:ah):Rec×Int×Int:=
 if 4096<s.length then(nw,3,0)
 else
  let ls:=(ai s 10).take ((ai s 10).length-1)
  if(qf ls).isSome=false∨(eo ls).2≠[]∨(ai s 10)[(ai s 10).length-1]! ≠[]then(nw,2,((ls.length-(eo ls).2.length:Nat):Int)+1)
  else if(cd (eo ls).1).1≠0 then(nw,(cd (eo ls).1).1,0)
  else((eo ls).1,0,0)
end Go.Abs
section
namespace Go.Abs
open Go
def yq:aB:=⟨3,8,[⟨3,none⟩],cn,(sq (rg [gb 9 s0,gm bD] [(5,0),(3,1)]) (sq (.block 0 (sq (r1 [gm s1,gx 208 [l0] cn,oy l1,gm l2] 4 3) (.cond s4 (sq (r1 [gm tJ] 3 0) .ret) (sq (r1 [gm s1,gf 0 s5,gd l1,aE l0 l2,gm l3] 6 4) (.cond s6 (sq (r1 [gm GK] 3 0) .ret) (sq (r1 [gm s2,gx 444 [l0] cn,oy l1,gm l2] 7 3) (.cond s7 (sq (r1 [gm zJ] 3 0) .ret) .skip))))))) (sq (r1 [gm bD] 3 0) .ret)))⟩
def w211 {Γ:Ctx}(hm:(Γ.at 0).bm)(h208:FR Γ)(h444:K0 Γ)(r:Rec)(name:ah)(rng:ah)  (hp0:rng.length≤1048576):dS Γ yq (.int .i64 (iw r name rng)) [Rec.D r,.str name,.str rng]:=by
 show bx _ _ _ [⟨_,_⟩,⟨_,_⟩,⟨_,_⟩,_,_,_,_,_] _;refine ak ?_;refine aT ?_;refine aj (hc:=h208 _) ?_;refine az ?_;refine fQ (fun hc0=>?_) fun hc0=>?_
 ·refine aR ?_;refine gU ?_;rw[iw,if_pos hc0]
 refine ba ?_;refine fQ (fun hc1=>?_) fun hc1=>?_
 ·refine aR ?_;refine gU ?_;rw[iw,if_neg (by simp[hc0]),if_pos hc1]
 refine ay ?_;refine aj (hc:=h444 rng hp0) ?_;refine az ?_;refine fQ (fun hc2=>?_) fun hc2=>?_
 ·refine aR ?_;refine gU ?_;rw[iw,if_neg (by simp[hc0]),if_neg hc1,if_pos hc2]
 refine aT ?_;refine gU ?_;rw[iw,if_neg (by simp[hc0]),if_neg hc1,if_neg (by simp[hc2])]
def Is (Γ:Ctx):Prop:=∀(r:Rec)(name:ah)(rng:ah),(rng.length≤1048576)→Γ.pre 211 [Rec.D r,.str name,.str rng]∧Γ.val 211 [Rec.D r,.str name,.str rng]=.int .i64 (iw r name rng)
def yr:aB:=⟨3,16,[⟨3,none⟩],cn,(sq (rg [gb 9 s0,gb 4 s1,gm bD] [(4,0),(5,1),(3,2)]) (sq (sq (r1 [gk 9 true s4,gf 0 s5,gd l1,gf 1 s5,gd l3,gx 211 [l0,l2,l4] [[.a,.a,.a,.a,.a,.a,.sl 3 [.sl 4 [.a,.a,.sl 1 [.a],.a],.a,.a],.sl 3 [.a,.a,.a],.sl 2 [.a,.sl 1 [.a]]],[.a],[.a]],gm l5] 6 6) (sq (r1 [gm s6,cl l0 bD] 7 1) (.cond s7 (sq (r1 [gm s6,gm l0] 3 1) .ret) .skip))) (sq (sq (r1 [gf 2 s5,gd l0,gl l1,dz l2 zJ,gm l3,kl 4 2 s5,lF 4 l5,cA 4 (.len l6),cA 4 (dj l7 bD),eW 4 l8,gmt 9 s2,cE 9 (.un .not l10),Dd 4 l9 jK,fM l4 lu] 8 13) (.cond s8 (sq (r1 [gm (i6 11)] 3 0) .ret) .skip)) (sq (sq (rg [gf 2 s5,gd l0,gl l1,gm bD] [(12,1),(10,2),(9,3)]) (.block 0 (.loop (sq (r1 [aU s9 lx] 11 0) (sq (iN oz 0) (sq (.block 1 (sq (rg [gm s9,ga 1 m8 s9,gd l1,gm l0,gm l2] [(14,3),(13,4)]) (sq (r1 [gm tn,gx 349 [l0] cn,oy l1,gm l2,eW 3 rS,cA 3 (dj l4 bD),eW 3 l5,rJ 6 2 s5,px 6 l7,gmt 6 rS,cE 6 (lO l9 b9),cE 6 (.ia 1 l8 l10),px 6 jK,gmt 6 tn,cE 6 (xj lu nu),Dd 3 l6 n7,fM l3 oY] 15 16) (.cond vc (sq (r1 [gm (i6 11)] 3 0) .ret) .skip)))) (r1 [av s9 b9,gm l0] 9 1))))))) (sq (r1 [gm bD] 3 0) .ret)))))⟩
def w443 {Γ:Ctx}(hm:(Γ.at 0).bm)(h211:Is Γ)(h349:y8 Γ)(r:Rec)(w:bz)(al:Bool)  (hp0:w.sm):dS Γ yr (.int .i64 (jA r w al)) [Rec.D r,bz.D w,.bool al]:=by
 show bx _ _ _ [⟨_,_⟩,⟨_,_⟩,⟨_,_⟩,_,_,_,_,_,_,_,_,_,_,_,_,_] _;refine ak ?_;refine fK ?_;refine aj (hc:=h211 r w.name w.range hp0.1.2) ?_;refine ba ?_;refine cF (fun hc0=>?_) fun hc0=>?_
 ·refine aT ?_;refine gU ?_;rw[jA,if_pos hc0]
 refine aT ?_;intro u0;refine aA ?_;refine ny ?_;refine ba ?_;refine aq (fun hc1=>?_) (fun hc1=>?_)
 ·have hq:(decide (w.feats.length≤6)&&(al ||decide (w.feats.length=0)))=false:=by rw[←Bool.not_eq_true',←FB];exact hc1
  refine aR ?_;refine gU ?_;rw[jA,if_neg (by simp[hc0]),if_pos (by unfold jR;rw[hq];rfl)]
 have hq:(decide (w.feats.length≤6)&&(al ||decide (w.feats.length=0)))=true:=by rw[←Bool.not_eq_false',←FB];exact hc1
 refine aT ?_;intro u1;refine ay ?_;refine bq hm (ι:=Nat) (fun i=>[.un,.un,⟨true,.bool al⟩,.un,⟨true,.ptr 0 9 0 0⟩,⟨true,.ptr 1 4 0 0⟩,.un,.un,.un,⟨true,.int .i64 (i:Nat)⟩,⟨true,.int .i64 (w.feats.length:Nat)⟩,.un,⟨true,.sl 1 (w.feats.map D.str)⟩,.un,.un,.un]) (fun i=>[(0,.buf 9 [Rec.D r]),(1,.buf 4 [bz.D w])]) 30 (fun i=>i≤w.feats.length∧jR w.feats al=cj (Kq w.feats) i w.feats.length) (fun i=>w.feats.length-i) 0 ⟨by omega,by unfold jR;rw[hq,Bool.true_and]⟩ (ef [(0,0),(1,1)]) ?_;rintro i ⟨hi,hr⟩;refine az ?_;refine cF (fun hc2=>?_) fun hc2=>?_
 ·refine fK ?_;refine aj (hc:=h349 _) ?_;refine dh ?_;refine cD (i-1) ?_;refine aT ?_;refine wp_cond (fun hc3=>?_) (fun hc3=>?_)
  ·have hz:Kq w.feats i=false:=by rw[←Bool.not_eq_true',←M1];exact hc3
   refine aT ?_;refine gU ?_;rw[jA,if_neg (by simp[hc0]),if_pos (by rw[hr,aK (by omega),hz];rfl)]
  have hz:Kq w.feats i=true:=by rw[←Bool.not_eq_false',←M1];exact hc3
  refine ba ?_;exact⟨i+1,⟨by omega,by rw[hr,aK (by omega),hz];rfl⟩,by omega,(ef [(0,0),(1,1)])⟩
 refine aT ?_;refine gU ?_;rw[jA,if_neg (by simp[hc0]),if_neg (by rw[hr,bY (by omega)];simp)]
def KZ (Γ:Ctx):Prop:=∀(r:Rec)(w:bz)(al:Bool),(w.sm)→Γ.pre 443 [Rec.D r,bz.D w,.bool al]∧Γ.val 443 [Rec.D r,bz.D w,.bool al]=.int .i64 (jA r w al)
def yo:aB:=⟨2,16,[⟨2,none⟩],cn,(sq (rg [gb 9 s0,gb 3 s1,gm bD] [(10,0),(3,1),(2,2)]) (sq (sq (r1 [gf 0 s3,gd l0,gl l1,aE l2 bD] 4 3) (.cond s4 (sq (r1 [gm A0] 2 0) .ret) .skip)) (sq (sq (r1 [gf 0 s3,gd l0,gl l1,dz l2 j7] 5 3) (.cond s5 (sq (r1 [gm j7] 2 0) .ret) .skip)) (sq (sq (rg [gf 0 s3,gd l0,gl l1,gm bD] [(9,1),(7,2),(6,3)]) (.block 0 (.loop (sq (r1 [aU s6 s7] 8 0) (sq (iN s8 0) (sq (.block 1 (sq (r1 [ga 4 s9 s6,gk 4 true l0,gb 4 (.c (.agg [.str [],.str [],.au,.bool false])),gt 4 l2 l1] 11 2) (sq (r1 [gk 9 true lx,gk 4 true oz,gf 0 s3,gd l2,gl l3,aE l4 b9,gx 443 [l0,l1,l5] [[.a,.a,.a,.a,.a,.a,.sl 3 [.sl 4 [.a,.a,.sl 1 [.a],.a],.a,.a],.sl 3 [.a,.a,.a],.sl 2 [.a,.sl 1 [.a]]],[.a,.a,.sl 1 [.a],.a],[.a]],gm l6] 12 7) (sq (r1 [gm m8,cl l0 bD] 13 1) (.cond tn (sq (r1 [gm m8,gm l0] 2 1) .ret) .skip))))) (r1 [av s6 b9,gm l0] 6 1))))))) (sq (sq (r1 [gf 1 s3,gd l0,gx 212 [l1] cn,oy l2] 14 3) (.cond rS (sq (r1 [gm Jr] 2 0) .ret) .skip)) (sq (sq (r1 [gf 2 s3,gd l0,cl l1 cse,gm l2,rJ 3 2 s3,px 3 l4,cE 3 (.call 349 [l5] cn),cE 3 (.un .not l6),gp l3 l7] 15 8) (.cond vc (sq (r1 [gm (i6 14)] 2 0) .ret) .skip)) (sq (r1 [gm bD] 2 0) .ret)))))))⟩
def w210 {Γ:Ctx}(hm:(Γ.at 0).bm)(h212:It Γ)(h349:y8 Γ)(h443:KZ Γ)(r:Rec)(n:bg)  (hp0:n.sm):dS Γ yo (.int .i64 (iP r n)) [Rec.D r,bg.D n]:=by
 show bx _ _ _ [⟨_,_⟩,⟨_,_⟩,_,_,_,_,_,_,_,_,_,_,_,_,_,_] _;refine ak ?_;refine dh ?_;intro u0;refine ay ?_;refine cF (fun hc0=>?_) fun hc0=>?_
 ·refine aR ?_;refine gU ?_;rw[iP,if_pos (by omega)]
 refine aT ?_;intro u1;refine ay ?_;refine cF (fun hc1=>?_) fun hc1=>?_
 ·refine aR ?_;refine gU ?_;rw[iP,if_neg (by omega),if_pos (by omega)]
 refine aT ?_;intro u2;refine ay ?_;refine bq hm (ι:=Nat) (fun i=>[.un,.un,.un,⟨true,.ptr 1 3 0 0⟩,.un,.un,⟨true,.int .i64 (i:Nat)⟩,⟨true,.int .i64 (n.any.length:Nat)⟩,.un,⟨true,.sl 4 (n.any.map bz.D)⟩,⟨true,.ptr 0 9 0 0⟩,.un,.un,.un,.un,.un]) (fun i=>[(0,.buf 9 [Rec.D r]),(1,.buf 3 [bg.D n])]) 15 (fun i=>i≤n.any.length∧k8 r n.any=fR (fun i=>jA r n.any[i]! (decide ((n.any.length:Int)=1))) i n.any.length) (fun i=>n.any.length-i) 0 ⟨by omega,rfl⟩ (ef [(0,0),(1,1)]) ?_;rintro i ⟨hi,hr⟩;refine az ?_;refine cF (fun hc2=>?_) fun hc2=>?_
 ·refine aA ?_;first|refine ca (v:=(bz.D _)) ?_|refine gB (v:=(bz.D _)) ?_
  refine ax ?_;refine aF (bz.D n.any[i]!) (he:=by exact rfl) ?_;refine ba ?_;intro u3;refine ax ?_;refine aj (hc:=h443 r n.any[i]! _ (hp0.1 _ (bG (by omega)))) ?_;refine aT ?_;refine fQ (fun hc3=>?_) fun hc3=>?_
  ·refine ba ?_;refine gU ?_;have hw:k8 r n.any=jA r n.any[i]! (decide ((n.any.length:Int)=1)):=by rw[hr,sj (by omega) hc3]
   rw[iP,if_neg (by omega),if_neg (by omega),if_pos (by rw[hw];exact hc3),hw]
  refine ba ?_;exact⟨i+1,⟨by omega,by rw[hr,pP (by omega) hc3]⟩,by omega,(ef [(0,0),(1,1)])⟩
 refine aA ?_;have hw0:k8 r n.any=0:=by rw[hr,pO (by omega)]
 refine ay ?_;refine aj (hc:=h212 _) ?_;refine ay ?_;refine aq (fun hc4=>?_) (fun hc4=>?_)
 ·try simp only[hO]at hc4
  refine aR ?_;refine gU ?_;rw[iP,if_neg (by omega),if_neg (by omega),if_neg (by simp[hw0]),if_pos hc4]
 simp only[Bool.not_eq_false']at hc4;refine dh ?_;refine aj (hc:=h349 _) ?_;refine az ?_;refine aq (fun hc5=>?_) (fun hc5=>?_)
 ·try simp only[hO]at hc5
  refine aR ?_;refine gU ?_;rw[iP,if_neg (by omega),if_neg (by omega),if_neg (by simp[hw0]),if_neg (by simp[hc4]),if_pos hc5]
 simp only[Bool.and_eq_false_iff,Bool.not_eq_false',decide_eq_true_eq]at hc5;refine aR ?_;refine gU ?_;rw[iP,if_neg (by omega),if_neg (by omega),if_neg (by simp[hw0]),if_neg (by simp[hc4]),if_neg (by rintro⟨g1,g2⟩;rcases hc5 with h|h;exact g1 h;rw[g2]at h;cases h)]
def KL (Γ:Ctx):Prop:=∀(r:Rec)(n:bg),(n.sm)→Γ.pre 210 [Rec.D r,bg.D n]∧Γ.val 210 [Rec.D r,bg.D n]=.int .i64 (iP r n)
def yn:aB:=⟨2,15,[⟨2,none⟩],cn,(sq (rg [gb 9 s0,gm bD] [(3,0),(2,1)]) (sq (rg [gm s1,gx 448 [l0] cn,gm l1,ge l2 0,ge l2 1,ge l2 2,gm l3,gm l4,gm l5] [(8,6),(10,7)]) (sq (sq (rg [gf 6 s3,gd l0,gl l1,gm bD] [(7,1),(5,2),(4,3)]) (.block 0 (.loop (sq (r1 [aU s4 s5] 6 0) (sq (iN s6 0) (sq (.block 1 (sq (r1 [ga 3 s7 s4,gk 3 true l0,gb 3 (.c (.agg [.au,.str [],.str []])),gt 3 l2 l1] 9 2) (sq (r1 [gm s8,aE l0 kn,gm l1,rJ 2 2 s9,px 2 l3,gmt 2 lx,cE 2 (cP l4 l5),gp l2 l6,gm l7,eW 8 s8,cA 8 (cP l9 j7),eW 8 l10,rJ 11 0 s9,px 11 lu,cE 11 (.len nu),cE 11 (cP n7 b9),Dd 8 jK oY,eW 8 q9,rJ 17 0 s9,px 17 wX,cE 17 (.ia 4 y5 bD),rJ 17 0 A3,px 17 Ch,gmt 17 lx,cE 17 (cP Ee Ia),Dd 8 wo Ib,fM l8 Jv] 11 26) (.cond oz (sq (r1 [gm bD] 2 0) .ret) .skip)))) (r1 [av s4 b9,gm l0] 4 1))))))) (sq (sq (r1 [gm s8] 12 0) (.block 2 (sq (r1 [aE m8 kn,gm l0] 13 1) (.cond tn (sq (r1 [gm (i6 14)] 2 0) .ret) (sq (r1 [aE m8 j7,gm l0] 14 1) (.cond rS (sq (r1 [gm (i6 16)] 2 0) .ret) .skip)))))) (sq (r1 [gm bD] 2 0) .ret)))))⟩
def w214 {Γ:Ctx}(hm:(Γ.at 0).bm)(h448:IA Γ)(r:Rec)(s:ah)  (hp0:s.length≤1048576):dS Γ yn (.int .i64 (iO r s)) [Rec.D r,.str s]:=by
 show bx _ _ _ [⟨_,_⟩,⟨_,_⟩,_,_,_,_,_,_,_,_,_,_,_,_,_] _;refine ak ?_;refine aR ?_;refine aj (hc:=h448 s hp0) ?_;refine lB ?_;intro u0;refine ay ?_;refine bq hm (ι:=Nat) (fun i=>[.un,.un,.un,⟨true,.ptr 0 9 0 0⟩,⟨true,.int .i64 (i:Nat)⟩,⟨true,.int .i64 (r.needs.length:Nat)⟩,.un,⟨true,.sl 3 (r.needs.map bg.D)⟩,⟨true,.int .i64 (b7 s).1⟩,.un,⟨true,.str (b7 s).2.1⟩,.un,.un,.un,.un]) (fun i=>[(0,.buf 9 [Rec.D r])]) 15 (fun i=>i≤r.needs.length∧iO r s=(if(r.needs.drop i).any (FM (b7 s).1 (b7 s).2.1)=true then 0 else Ju (b7 s).1)) (fun i=>r.needs.length-i) 0 ⟨by omega,Ec r s⟩ (ef [(0,0)]) ?_;rintro i ⟨hi,hr⟩;refine az ?_;refine cF (fun hc0=>?_) fun hc0=>?_
 ·refine aA ?_;first|refine ca (v:=(bg.D _)) ?_|refine gB (v:=(bg.D _)) ?_
  refine ax ?_;refine aF (bg.D r.needs[i]!) (he:=by exact rfl) ?_;refine tH ?_;refine ny ?_;refine aR ?_;refine cD 0 (hb:=fun h=>by simp only[Bool.true_and,beq_iff_eq,Bool.and_eq_true,decide_eq_true_eq]at h;omega) ?_;refine ax ?_;refine ca (q:=bz.D) (xs:=r.needs[i]!.any) (i:=0) (hi:=fun h=>by simp only[Bool.true_and,beq_iff_eq,Bool.and_eq_true,decide_eq_true_eq]at h;omega) (v:=(.str r.needs[i]!.any[0]!.name)) ?_;refine aR ?_;refine wp_cond (fun hc1=>?_) (fun hc1=>?_)
  ·have hz:FM (b7 s).1 (b7 s).2.1 r.needs[i]! =true:=hc1;refine aT ?_;refine gU ?_;rw[hr,F9 (by omega) hz];rfl
  have hz:FM (b7 s).1 (b7 s).2.1 r.needs[i]! =false:=hc1;refine ba ?_;exact⟨i+1,⟨by omega,by rw[hr,I8 (by omega) hz]⟩,by omega,(ef [(0,0)])⟩
 refine aA ?_;have he:iO r s=Ju (b7 s).1:=by rw[hr,F8 (by omega)];rfl
 refine ba ?_;refine fQ (fun hc2=>?_) fun hc2=>?_
 ·refine aR ?_;refine gU ?_;rw[he,Ju,if_pos hc2]
 refine aA ?_;refine fQ (fun hc3=>?_) fun hc3=>?_
 ·refine aR ?_;refine gU ?_;rw[he,Ju,if_neg hc2,if_pos hc3]
 refine aT ?_;refine gU ?_;rw[he,Ju,if_neg hc2,if_neg hc3]
def KN (Γ:Ctx):Prop:=∀(r:Rec)(s:ah),(s.length≤1048576)→Γ.pre 214 [Rec.D r,.str s]∧Γ.val 214 [Rec.D r,.str s]=.int .i64 (iO r s)
end Go.Abs
end
section
namespace Go.Abs
open Go
def wG:aB:=⟨1,39,[⟨1,none⟩,⟨2,none⟩],iz,(sq (rg [gb 9 s0,gm bD,gm bD] [(3,0),(1,1),(2,2)]) (sq (.block 0 (sq (r1 [gf 0 s3,gd l0,gx 208 [l1] cn,oy l2,gm l3] 4 4) (.cond s4 (sq (rg [gm tJ,gm bD] [(1,0),(2,1)]) .ret) (sq (r1 [gf 1 s3,gk 5 true l0,gx 209 [l1] Jo,oy l2,gm l3] 5 4) (.cond s5 (sq (rg [gm AZ,gm bD] [(1,0),(2,1)]) .ret) (sq (r1 [gf 6 s3,gd l0,gl l1,dz l2 GK,gm l3,kl 4 7 s3,lF 4 l5,cA 4 (.len l6),cA 4 (dj l7 GK),fM l4 l8,gm l9] 6 10) (.cond s6 (sq (rg [gm j7,gm bD] [(1,0),(2,1)]) .ret) .skip))))))) (sq (sq (rg [gf 6 s3,gd l0,gl l1,gm bD] [(10,1),(8,2),(7,3)]) (.block 1 (.loop (sq (r1 [aU s7 s8] 9 0) (sq (iN s9 1) (sq (.block 2 (sq (rg [gm s7,ga 3 lx s7,gk 3 true l1,gb 3 (.c (.agg [.au,.str [],.str []])),gm l0,gt 3 l3 l2] [(11,3),(14,4)]) (sq (r1 [gk 9 true s3,gk 3 true oz,gx 210 [l0,l1] [[.a,.a,.a,.a,.a,.a,.sl 3 [.sl 4 [.a,.a,.sl 1 [.a],.a],.a,.a],.sl 3 [.a,.a,.a],.sl 2 [.a,.sl 1 [.a]]],[.sl 4 [.a,.a,.sl 1 [.a],.a],.a,.a]],gm l2] 12 3) (sq (r1 [gm m8,cl l0 bD] 13 1) (.cond tn (sq (rg [gm m8,gm rS,gm l0,gm l1] [(1,2),(2,3)]) .ret) .skip))))) (r1 [av s7 b9,gm l0] 7 1))))))) (sq (sq (rg [gf 7 s3,gd l0,gl l1,gm bD] [(18,1),(16,2),(15,3)]) (.block 3 (.loop (sq (r1 [aU vc Bn] 17 0) (sq (iN wY 3) (sq (.block 4 (sq (rg [gm vc,ga 3 CU vc,gk 3 true l1,gb 3 (.c (.agg [.str [],.str [],.str []])),gm l0,gt 3 l3 l2] [(19,3),(22,4)]) (sq (sq (r1 [gk 9 true s3,gf 0 Kd,gd l1,gf 1 Kd,gd l3,gx 211 [l0,l2,l4] [[.a,.a,.a,.a,.a,.a,.sl 3 [.sl 4 [.a,.a,.sl 1 [.a],.a],.a,.a],.sl 3 [.a,.a,.a],.sl 2 [.a,.sl 1 [.a]]],[.a],[.a]],gm l5] 20 6) (sq (r1 [gm FN,cl l0 bD] 21 1) (.cond s21 (sq (rg [gm FN,gm s22,gm l0,gm l1] [(1,2),(2,3)]) .ret) .skip))) (sq (r1 [gf 2 Kd,gd l0,gx 212 [l1] cn,oy l2] 23 3) (.cond s23 (sq (rg [gm s22,gm Jr,gm l0] [(1,1),(2,2)]) .ret) .skip))))) (r1 [av vc b9,gm l0] 15 1))))))) (sq (sq (r1 [gf 8 s3,gd l0,gx 213 [l1] [[.sl 2 [.a,.sl 1 [.a]]]],oy l2] 24 3) (.cond KD (sq (rg [gm (i6 11),gm bD] [(1,0),(2,1)]) .ret) .skip)) (sq (sq (rg [gf 8 s3,gd l0,gl l1,gm bD] [(28,1),(26,2),(25,3)]) (.block 5 (.loop (sq (r1 [aU KE MR] 27 0) (sq (iN s27 5) (sq (.block 6 (sq (rg [gm KE,ga 2 s28 KE,gk 2 true l1,gb 2 (.c (.agg [.str [],.au])),gm l0,gt 2 l3 l2] [(29,3),(37,4)]) (sq (rg [gf 1 s29,gd l0,gl l1,gm bD] [(33,1),(31,2),(30,3)]) (.block 7 (.loop (sq (r1 [aU Ii s31] 32 0) (sq (iN s32 7) (sq (.block 8 (sq (r1 [ga 1 s33 Ii,gd l0,gm l1] 34 2) (sq (r1 [gk 9 true s3,gm s34,gx 214 [l0,l1] [[.a,.a,.a,.a,.a,.a,.sl 3 [.sl 4 [.a,.a,.sl 1 [.a],.a],.a,.a],.sl 3 [.a,.a,.a],.sl 2 [.a,.sl 1 [.a]]],[.a]],gm l2] 35 3) (sq (r1 [gm s35,cl l0 bD] 36 1) (.cond s36 (sq (rg [gm s35,gm s37,gm l0,gm l1] [(1,2),(2,3)]) .ret) .skip))))) (r1 [av Ii b9,gm l0] 30 1))))))))) (r1 [av KE b9,gm l0] 25 1))))))) (sq (sq (r1 [gk 9 true s3,gx 215 [l0] [[.a,.a,.a,.a,.a,.a,.sl 3 [.sl 4 [.a,.a,.sl 1 [.a],.a],.a,.a],.sl 3 [.a,.a,.a],.sl 2 [.a,.sl 1 [.a]]]],wW l1,dz l2 (i6 4096)] 38 3) (.cond s38 (sq (rg [gm j7,gm bD] [(1,0),(2,1)]) .ret) .skip)) (sq (rg [gm bD,gm bD] [(1,0),(2,1)]) .ret))))))))⟩
def w70 {Γ:Ctx}(hm:(Γ.at 0).bm)(h208:FR Γ)(h209:Di Γ)(h210:KL Γ)(h211:Is Γ)(h212:It Γ)(h213:KM Γ)(h214:KN Γ)(h215:Iu Γ)(r:Rec)  (hp0:il r):dS Γ wG (.tup [.int .i64 (cd r).1,.int .i64 (cd r).2]) [Rec.D r]:=by
 show bx _ _ _ (⟨true,Rec.D r⟩::.un::.un::.un::.un::.un::.un::.un::.un::.un::.un::.un::.un::.un::.un::.un::.un::.un::.un::.un::.un::.un::.un::.un::.un::.un::.un::.un::.un::.un::.un::.un::.un::.un::.un::.un::.un::.un::.un::[]) ⟨0,[]⟩;refine ak ?_;refine b6 ?_;refine aj (hc:=h208 _) ?_;refine az ?_;refine wp_cond (fun hc0=>?_) (fun hc0=>?_)
 ·try simp only[hO]at hc0
  refine aT ?_;refine bX (aO (congrArg (D.int .i64) ?_) (congrArg (D.int .i64) ?_));all_goals (have hq:cd r=(4,0):=(by rw[cd,if_pos hc0]);rw[hq];first|done|rfl)
 simp only[Bool.not_eq_false']at hc0;refine ay ?_;refine ch (v:=dq.D r.v) ?_;refine aj (hc:=h209 r.v hp0.1.2) ?_;refine az ?_;refine wp_cond (fun hc1=>?_) (fun hc1=>?_)
 ·try simp only[hO]at hc1
  refine aT ?_;refine bX (aO (congrArg (D.int .i64) ?_) (congrArg (D.int .i64) ?_));all_goals (have hq:cd r=(5,0):=(by rw[cd,if_neg (by simp[hc0]),if_pos hc1]);rw[hq];first|done|rfl)
 simp only[Bool.not_eq_false']at hc1;refine aA ?_;intro u0;refine aA ?_;refine ny ?_;refine aA ?_;refine fQ (fun hc2=>?_) fun hc2=>?_
 ·refine aT ?_;refine bX (aO (congrArg (D.int .i64) ?_) (congrArg (D.int .i64) ?_));all_goals (have hq:cd r=(3,0):=(by rw[cd,if_neg (by simp[hc0]),if_neg (by simp[hc1]),if_pos (by omega)]);rw[hq];first|done|rfl)
 refine ba ?_;intro u1;refine ay ?_;refine bq hm (ι:=Nat) (fun i=>(.un::.un::.un::⟨true,.ptr 0 9 0 0⟩::.un::.un::.un::⟨true,.int .i64 (i:Nat)⟩::⟨true,.int .i64 (r.needs.length:Nat)⟩::.un::⟨true,.sl 3 (r.needs.map bg.D)⟩::.un::.un::.un::.un::.un::.un::.un::.un::.un::.un::.un::.un::.un::.un::.un::.un::.un::.un::.un::.un::.un::.un::.un::.un::.un::.un::.un::.un::[])) (fun i=>[(0,.buf 9 [Rec.D r])]) 28 (fun i=>i≤r.needs.length∧jt r=eO (fun i=>iP r r.needs[i]!) i r.needs.length) (fun i=>r.needs.length-i) 0 ⟨by omega,rfl⟩ (ef [(0,0)]) ?_;rintro i ⟨hi,hr⟩;refine az ?_;refine cF (fun hc3=>?_) fun hc3=>?_
 ·refine aR ?_;first|refine ca (v:=(bg.D _)) ?_|refine gB (v:=(bg.D _)) ?_
  refine ay ?_;refine aF (bg.D r.needs[i]!) (he:=by exact rfl) ?_;refine aA ?_;refine aj (hc:=h210 r r.needs[i]! (hp0.2.1 _ (bG (by omega)))) ?_;refine aT ?_;refine fQ (fun hc4=>?_) fun hc4=>?_
  ·refine dh ?_;refine bX (aO (congrArg (D.int .i64) ?_) (congrArg (D.int .i64) ?_));all_goals
    have hq:cd r=(iP r r.needs[i]!,((i:Nat):Int)):=by
     exact lS hc0 hc1 (by omega) (by omega) (EP (by rw[hr,kN (by omega) hc4]) hc4) hc4
    rw[hq];first|done|rfl
  refine ba ?_;exact⟨i+1,⟨by omega,by rw[hr,mW (by omega) hc4]⟩,by omega,(ef [(0,0)])⟩
 refine aA ?_;have hn0:jt r=(0,0):=by rw[hr,mV (by omega)]
 refine az ?_;intro u2;refine ay ?_;refine bq hm (ι:=Nat) (fun i=>(.un::.un::.un::⟨true,.ptr 0 9 0 0⟩::.un::.un::.un::.un::.un::.un::.un::.un::.un::.un::.un::⟨true,.int .i64 (i:Nat)⟩::⟨true,.int .i64 (r.bars.length:Nat)⟩::.un::⟨true,.sl 3 (r.bars.map iy.D)⟩::.un::.un::.un::.un::.un::.un::.un::.un::.un::.un::.un::.un::.un::.un::.un::.un::.un::.un::.un::.un::[])) (fun i=>[(0,.buf 9 [Rec.D r])]) 33 (fun i=>i≤r.bars.length∧qu r=eO (fun i=>r6 r r.bars[i]!) i r.bars.length) (fun i=>r.bars.length-i) 0 ⟨by omega,rfl⟩ (ef [(0,0)]) ?_;rintro i ⟨hi,hr⟩;refine az ?_;refine cF (fun hc5=>?_) fun hc5=>?_
 ·refine aR ?_;first|refine ca (v:=(iy.D _)) ?_|refine gB (v:=(iy.D _)) ?_
  refine ay ?_;refine aF (iy.D r.bars[i]!) (he:=by exact rfl) ?_;refine b6 ?_;refine aj (hc:=h211 r r.bars[i]!.name r.bars[i]!.range (hp0.2.2.1 _ (bG (by omega))).2.1) ?_;refine ba ?_;refine aq (fun hc6=>?_) (fun hc6=>?_)
  ·simp only[Bool.not_eq_true',decide_eq_false_iff_not]at hc6;have hbe:r6 r r.bars[i]! =iw r r.bars[i]!.name r.bars[i]!.range:=by rw[r6,if_pos hc6]
   refine iT ?_;refine bX (aO (congrArg (D.int .i64) ?_) (congrArg (D.int .i64) ?_));all_goals
    have hq:cd r=(iw r r.bars[i]!.name r.bars[i]!.range,((i:Nat):Int)):=by
     exact lS hc0 hc1 (by omega) (by omega) (yg hn0 (by rw[hr,kN (by omega) (by rw[hbe];exact hc6),hbe]) hc6) hc6
    rw[hq];first|done|rfl
  try simp only[hO]at hc6
  refine aA ?_;refine aj (hc:=h212 _) ?_;refine ay ?_;refine wp_cond (fun hc7=>?_) (fun hc7=>?_)
  ·simp only[Bool.not_eq_true']at hc7;have hbe:r6 r r.bars[i]! =7:=by rw[r6,if_neg (fun h=>h hc6),if_pos hc7]
   refine b6 ?_;refine bX (aO (congrArg (D.int .i64) ?_) (congrArg (D.int .i64) ?_));all_goals
    have hq:cd r=((7:Int),((i:Nat):Int)):=by
     exact lS hc0 hc1 (by omega) (by omega) (yg hn0 (by rw[hr,kN (by omega) (by rw[hbe];decide),hbe]) (show(7:Int)≠0 by decide)) (show(7:Int)≠0 by decide)
    rw[hq];first|done|rfl
  simp only[Bool.not_eq_false']at hc7;have hbz:r6 r r.bars[i]! =0:=by rw[r6,if_neg (fun h=>h hc6),if_neg (by rw[hc7];simp)]
  refine ba ?_;exact⟨i+1,⟨by omega,by rw[hr,mW (by omega) hbz]⟩,by omega,(ef [(0,0)])⟩
 refine aA ?_;have hb0:qu r=(0,0):=by rw[hr,mV (by omega)]
 refine ay ?_;refine aj (hc:=h213 r.feats hp0.2.2.2) ?_;refine ay ?_;refine aq (fun hc8=>?_) (fun hc8=>?_)
 ·try simp only[hO]at hc8
  refine aT ?_;refine bX (aO (congrArg (D.int .i64) ?_) (congrArg (D.int .i64) ?_));all_goals
   have hq:cd r=(11,0):=by
    exact lS hc0 hc1 (by omega) (by omega) (ER hn0 hb0 hc8) (by decide)
   rw[hq];first|done|rfl
 simp only[Bool.not_eq_false']at hc8;refine aT ?_;intro u3;refine ay ?_;refine bq hm (ι:=Nat) (fun i=>(.un::.un::.un::⟨true,.ptr 0 9 0 0⟩::.un::.un::.un::.un::.un::.un::.un::.un::.un::.un::.un::.un::.un::.un::.un::.un::.un::.un::.un::.un::.un::⟨true,.int .i64 (i:Nat)⟩::⟨true,.int .i64 (r.feats.length:Nat)⟩::.un::⟨true,.sl 2 (r.feats.map bp.D)⟩::.un::.un::.un::.un::.un::.un::.un::.un::.un::.un::[])) (fun i=>[(0,.buf 9 [Rec.D r])]) 42 (fun i=>i≤r.feats.length∧pN r=eO (fun i=>n4 r r.feats[i]!.of) i r.feats.length) (fun i=>r.feats.length-i) 0 ⟨by omega,rfl⟩ (ef [(0,0)]) ?_;rintro i ⟨hi,hr⟩;refine az ?_;refine cF (fun hc9=>?_) fun hc9=>?_
 ·refine aR ?_;first|refine ca (v:=(bp.D _)) ?_|refine gB (v:=(bp.D _)) ?_
  refine ay ?_;refine aF (bp.D r.feats[i]!) (he:=by exact rfl) ?_;refine aR ?_;intro u4;refine ay ?_;refine pw hm (ι:=Nat) (fun j=>(.un::.un::.un::⟨true,.ptr 0 9 0 0⟩::.un::.un::.un::.un::.un::.un::.un::.un::.un::.un::.un::.un::.un::.un::.un::.un::.un::.un::.un::.un::.un::⟨true,.int .i64 (i:Nat)⟩::⟨true,.int .i64 (r.feats.length:Nat)⟩::.un::⟨true,.sl 2 (r.feats.map bp.D)⟩::.un::⟨true,.int .i64 (j:Nat)⟩::⟨true,.int .i64 (r.feats[i]!.of.length:Nat)⟩::.un::⟨true,.sl 1 (r.feats[i]!.of.map D.str)⟩::.un::.un::.un::⟨true,.int .i64 (i:Nat)⟩::.un::[])) (fun j=>[(0,.buf 9 [Rec.D r])]) 53 (fun j=>j≤r.feats[i]!.of.length∧n4 r r.feats[i]!.of=fR (fun j=>iO r r.feats[i]!.of[j]!) j r.feats[i]!.of.length) (fun j=>r.feats[i]!.of.length-j) 0 ⟨by omega,rfl⟩ (ef [(0,0)]) ?_;rintro j ⟨hj,hjr⟩;refine az ?_;refine cF (fun hc10=>?_) fun hc10=>?_
  ·refine iT ?_;refine aj (hc:=h214 r r.feats[i]!.of[j]! ((hp0.2.2.2 _ (bG (by omega))).2.2 _ (bG (by omega)))) ?_;refine aT ?_;refine fQ (fun hc11=>?_) fun hc11=>?_
   ·refine fK ?_;refine bX (aO (congrArg (D.int .i64) ?_) (congrArg (D.int .i64) ?_));all_goals
     have hq:cd r=(iO r r.feats[i]!.of[j]!,((i:Nat):Int)):=by
      have hie:n4 r r.feats[i]!.of=iO r r.feats[i]!.of[j]! :=by rw[hjr,sj (by omega) hc11]
      exact lS hc0 hc1 (by omega) (by omega) (sU hn0 hb0 hc8 (by rw[hr,kN (f:=(fun i=>n4 r r.feats[i]!.of)) (by omega) (by rw[hie];exact hc11),hie])) hc11
     rw[hq];first|done|rfl
   refine ba ?_;exact⟨j+1,⟨by omega,by rw[hjr,pP (by omega) hc11]⟩,by omega,(ef [(0,0)])⟩
  refine b6 ?_;exact⟨i+1,⟨by omega,by rw[hr,mW (f:=(fun i=>n4 r r.feats[i]!.of)) (by omega) (by rw[hjr,pO (by omega)])]⟩,by omega,(ef [(0,0)])⟩
 refine aA ?_;have hpz:eg r=(0,0):=sU hn0 hb0 hc8 (by rw[hr,mV (by omega)]);have hgd:sB r:=⟨⟨hc0,hc1⟩,⟨by omega,by omega⟩,hpz⟩;refine ax ?_;refine aj (hc:=h215 r ⟨hgd,hp0⟩) ?_;refine ax ?_;intro u5;refine ay ?_;refine cF (fun hc12=>?_) fun hc12=>?_
 ·refine aT ?_;refine bX (aO (congrArg (D.int .i64) ?_) (congrArg (D.int .i64) ?_));all_goals
   have hq:cd r=(3,0):=by
    rw[sc hc0 hc1 (by omega) (by omega) hpz,if_pos (by omega)]
   rw[hq];first|done|rfl
 refine aT ?_;refine bX (aO (congrArg (D.int .i64) ?_) (congrArg (D.int .i64) ?_));all_goals
  have hq:cd r=(0,0):=by
   rw[sc hc0 hc1 (by omega) (by omega) hpz,if_neg (by omega)]
  rw[hq];first|done|rfl
def C70 (Γ:Ctx):Prop:=∀(r:Rec),(il r)→Γ.pre 70 [Rec.D r]∧Γ.val 70 [Rec.D r]=.tup [.int .i64 (cd r).1,.int .i64 (cd r).2]
end Go.Abs
end
section
namespace Go.Abs
open Go
def wH:aB:=⟨1,12,[⟨1,some (9,true)⟩,⟨2,none⟩,⟨3,none⟩],[[.a,.a,.a,.a,.a,.a,.sl 3 [.sl 4 [.a,.a,.sl 1 [.a],.a],.a,.a],.sl 3 [.a,.a,.a],.sl 2 [.a,.sl 1 [.a]]],[.a],[.a]],(sq (rg [gb 9 (.c (.agg [.str [],.int .i64 0,.int .i64 0,.int .i64 0,.str [],.str [],.au,.au,.au])),gm bD,gm bD] [(1,0),(2,1),(3,2)]) (sq (sq (r1 [gm s0,wW l0,dz l1 (i6 4096)] 4 2) (.cond s4 (sq (rg [gn (.build [.str [],.int .i64 0,.int .i64 0,.int .i64 0,.str [],.str [],.au,.au,.au] []),gt 9 s1 l0,gm j7,gm bD] [(2,2),(3,3)]) .ret) .skip)) (sq (r1 [gm s0,gx 124 [l0,(cs [10])] iz,gm l1] 5 2) (sq (r1 [gm s5,gm s5,gl l1,eQ l2 b9,gn (.slA 1 l0 none (some l3)),gn (.build [.au,.int .i64 0] [(0,1,l4)]),gb 2 l5,gm l6] 6 7) (sq (rg [gm s6,gn (.callF 222 l0 [] []),gm l1,ge l2 0,ge l2 1,gb 9 (.c (.agg [.str [],.int .i64 0,.int .i64 0,.int .i64 0,.str [],.str [],.au,.au,.au])),gt 9 l5 l3,gm l4] [(9,5),(7,7)]) (sq (sq (r2 [gm s7,oy l0,gm l1,eW 2 s6,cA 2 (.nilck l3),kl 2 1 l4,lF 2 l5,eW 2 s6,cA 2 (.nilck l7),kl 2 0 l8,lF 2 l9,cA 2 (.len l10),cA 2 (oD l6 jK),fM l2 lu,gm nu,eW 14 s5,eW 14 s5,cA 14 (.len q9),cA 14 (lO wo b9),cA 14 (.ia 1 oY wX),lF 14 y5,cA 14 (eJ A3 cse),fM n7 Ch] 8 22) (.cond s8 (sq (rt [gn (.build [.str [],.int .i64 0,.int .i64 0,.int .i64 0,.str [],.str [],.au,.au,.au] []),gm s6,gc l1,gf 1 l2,gn (.ldI 1 false l3),av l4 b9,gt 9 s1 l0,gm kn,gm l5] [(2,7),(3,8)]) .ret) .skip)) (sq (sq (r1 [gk 9 true s9,gx 70 [l0] [[.a,.a,.a,.a,.a,.a,.sl 3 [.sl 4 [.a,.a,.sl 1 [.a],.a],.a,.a],.sl 3 [.a,.a,.a],.sl 2 [.a,.sl 1 [.a]]]],gm l1,ge l2 0,ge l2 1,gm l3,gm l4] 10 5) (sq (r1 [gm lx,cl l0 bD] 11 1) (.cond oz (sq (rg [gn (.build [.str [],.int .i64 0,.int .i64 0,.int .i64 0,.str [],.str [],.au,.au,.au] []),gm lx,gt 9 s1 l0,gm l1,gm bD] [(2,3),(3,4)]) .ret) .skip))) (sq (rg [gk 9 true s9,gt 9 s1 l0,gm bD,gm bD] [(2,2),(3,3)]) .ret))))))))⟩
def w76 {Γ:Ctx}(hm:(Γ.at 0).bm)(h70:C70 Γ)(h124:Dh Γ)(h222:KP Γ)(s:ah)   :dS Γ wH (.tup [Rec.D (fX s).1,.int .i64 (fX s).2.1,.int .i64 (fX s).2.2]) [.str s]:=by
 show bx _ _ _ [⟨_,_⟩,_,_,_,_,_,_,_,_,_,_,_] _;refine ak ?_;refine b6 ?_;intro u0;refine ay ?_;refine aq (fun hc0=>?_) (fun hc0=>?_)
 ·simp only[decide_eq_true_eq]at hc0;have hrr:fX s=(nw,3,0):=by unfold fX;rw[if_pos (by omega)]
  rw[hrr];refine ay ?_;refine br cU ?_;refine aF cU (he:=by exact rfl) ?_;refine az ?_;refine lA [(0,.buf 9 [Rec.D nw])] (.bf ae (.cons pe .nil) .nil) ?_;refine ax ?_;refine bX (jP ?_ (congrArg (D.int .i64) ?_) (congrArg (D.int .i64) ?_));all_goals rfl
 simp only[decide_eq_false_iff_not]at hc0;have hsp:=fB 10 s [];have hsp:1≤(ai s 10).length:=hsp;have hsl:=cM s 10;refine az ?_;refine aj (v:=.sl 1 ((ai s 10).map D.str)) (hc:=h124 s 10 (by omega)) ?_;refine aT ?_;intro u1;refine ax ?_;refine td ((ai s 10).length-1) (hj:=fun _=>by omega) (hb:=fun _=>by omega) ?_;refine br (Ld.D ⟨((ai s 10).take ((ai s 10).length-1)),0⟩) ?_;refine aA ?_;generalize hLS:((ai s 10).take ((ai s 10).length-1))=LS;have hLl:LS.length=(ai s 10).length-1:=by rw[←hLS,List.length_take];omega
 have hLm:vM LS:=fun t ht=>by
  rw[←hLS]at ht;have:=dd s 10 (List.mem_of_mem_take ht);omega
 have hsm0:(⟨LS,0⟩:Ld).sm:=⟨⟨Nat.zero_le _,by simp only;omega⟩,hLm⟩;obtain⟨hrs,hsf⟩:=Hr hLm;have hsfl:=hsf.length_le;refine ax ?_;refine iY (v:=.tup [Rec.D (eo LS).1,.bool (qf LS).isSome]) (e:=Ld.D ((⟨LS,0⟩:Ld).to (eo LS).2)) (hc:=h222 ⟨LS,0⟩ hsm0) ?_;refine ax ?_;refine fG (Rec.D _) ?_;refine ay ?_;refine aF (Rec.D (eo LS).1) (he:=by exact rfl) ?_;refine iT ?_;refine ch (v:=.int .i64 ((LS.length-(eo LS).2.length:Nat):Int)) ?_;refine az ?_;refine ch (v:=.sl 1 (LS.map D.str)) ?_;refine ny ?_;refine aR ?_;refine ny ?_;refine ax ?_;refine cD ((ai s 10).length-1) (hj:=fun _=>by omega) (hb:=fun _=>by omega) ?_;refine ca (v:=.str (ai s 10)[(ai s 10).length-1]!) (hi:=fun _=>by omega) ?_;refine az ?_;refine aq (fun hc1=>?_) (fun hc1=>?_)
 ·simp only[Bool.or_eq_true,Bool.not_eq_true',decide_eq_true_eq,decide_eq_false_iff_not]at hc1;have hrr:fX s=(nw,2,((LS.length-(eo LS).2.length:Nat):Int)+1):=by
   unfold fX;rw[if_neg (by omega)];simp only[hLS];rw[if_pos];rcases hc1 with(h|h)|h
   ·exact .inl h
   ·refine .inr (.inl fun e=>?_);rw[e]at h;simp only[List.length_nil]at h;omega
   ·exact .inr (.inr h)
  rw[hrr];refine ax ?_;refine ee 15 (he:=by simp only[lj,gu,j6,mb,nZ,bK,Nat.reduceEqDiff,if_true,if_false,and_self,true_and,and_true,false_and,and_false,Nat.zero_add,List.length_map,Nat.le_refl,List.drop_zero,aH,reduceCtorEq,List.length_cons,List.length_nil,Nat.reduceAdd,Nat.reduceLeDiff,Ld.D,cU,kr];exact rfl) (hm:=by simp only[lj,gu,j6,mb,nZ,bK,Nat.reduceEqDiff,if_true,if_false,and_self,true_and,and_true,false_and,and_false,Nat.zero_add,List.length_map,Nat.le_refl,List.drop_zero,aH,reduceCtorEq,List.length_cons,List.length_nil,Nat.reduceAdd,Nat.reduceLeDiff,Ld.D,cU,Rec.D];exact rfl) ?_;refine ax ?_;refine br cU ?_;refine az ?_;refine Ae (v:=.int .i64 ((LS.length-(eo LS).2.length:Nat):Int)) ?_;refine ax ?_;refine aF cU (he:=by exact rfl) ?_;refine az ?_;refine lA [(0,.buf 9 [Rec.D nw]),(22,.buf 9 [Rec.D (eo LS).1])] (.bf ae (.cons pe .nil) (.id ae .nil)) ?_;refine ax ?_;refine bX (jP ?_ (congrArg (D.int .i64) ?_) (congrArg (D.int .i64) ?_));all_goals rfl
 simp only[Bool.or_eq_false_iff,Bool.not_eq_false',decide_eq_true_eq,decide_eq_false_iff_not]at hc1;have hrr:fX s=if(cd (eo LS).1).1≠0 then(nw,(cd (eo LS).1).1,0)else((eo LS).1,0,0):=by
  unfold fX;rw[if_neg (by omega)];simp only[hLS];rw[if_neg];rintro(h|h|h)
  ·rw[hc1.1.1]at h;cases h
  ·exact h (List.eq_nil_of_length_eq_zero (by have:=hc1.1.2;omega))
  ·exact h hc1.2
 rw[hrr];refine az ?_;refine cy (d:=Rec.D (eo LS).1) ?_;refine aj (hc:=h70 (eo LS).1 hrs) ?_;refine fK ?_;refine aq (fun hc2=>?_) (fun hc2=>?_)
 ·simp only[Bool.not_eq_true',decide_eq_false_iff_not]at hc2;rw[if_pos hc2];refine ay ?_;refine br cU ?_;refine ax ?_;refine aF cU (he:=by exact rfl) ?_;refine az ?_;refine lA [(0,.buf 9 [Rec.D nw]),(15,.buf 2 [Ld.D ((⟨LS,0⟩:Ld).to (eo LS).2)]),(22,.buf 9 [Rec.D (eo LS).1])] (.bf ae (.cons pe .nil) (.id ae (.id ae .nil))) ?_;refine ax ?_;refine bX (jP ?_ (congrArg (D.int .i64) ?_) (congrArg (D.int .i64) ?_));all_goals rfl
 simp only[Bool.not_eq_false',decide_eq_true_eq]at hc2;rw[if_neg (by rw[hc2];simp)];refine ay ?_;refine cy (d:=Rec.D (eo LS).1) ?_;refine aF (Rec.D (eo LS).1) (he:=by exact rfl) ?_;refine aA ?_;refine bX (jP ?_ (congrArg (D.int .i64) ?_) (congrArg (D.int .i64) ?_));all_goals rfl
def C76 (Γ:Ctx):Prop:=∀(s:ah),Γ.pre 76 [.str s]∧Γ.val 76 [.str s]=.tup [Rec.D (fX s).1,.int .i64 (fX s).2.1,.int .i64 (fX s).2.2]
end Go.Abs
end
namespace Go.Abs
end Go.Abs
section
namespace Go.Abs
open Go
end Go.Abs
end
section
namespace Go.Abs
def RdS.ok (x:RdS):Prop:=(x.st=0→x.r.needs=[]∧x.r.bars=[]∧x.r.feats=[])∧((x.st=2∨x.st=3)→x.r.needs≠[])∧(x.st=5→x.r.bars≠[])
end Go.Abs
namespace Go.Abs
end Go.Abs
end
section
namespace Go.Abs
def F7 (ob:zb):Prop:=∀(σ:List (Nat×Nat))(l l':Nat)(w:List ah)(n:Nat)(b:Bool),j3 0 σ l=some l'→qK 0 σ (ob w (.own l 5 0 n) b)=some (ob w (.own l' 5 0 n) b)
def mr:F7 dY:=fun σ l l' w n b h=>by simp only[dY,qK,ph,Df,h]
def Kb:D→Nat
 | .agg [.sl _ ws,_,_]=>ws.length
 | .agg [.sl _ ws,.int _ i,_,_]=>ws.length-i.toNat
 |_=>0
def En (c:List D→Nat)(ds:List D)(st:St):Nat:=match ds with
 | .ptr l _ _ _::UO=>(match look st.m l with
  |some (.buf _ [o])=>6*Kb o+c UO
  |_=>0)
 |_=>0
def Hu (w:List ah)(X:D)(b:Bool):Kb (dY w X b)=w.length:=by simp[Kb,dY]
def js {c:List D→Nat}{l k nx:Nat}{UO:List D}{m:List (Nat×aV)}{w:List ah}{X:D}{b:Bool}(h:look m l=some (.buf k [dY w X b])):En c (.ptr l k 0 0::UO) ⟨nx,m⟩=6*w.length+c UO:=by
 simp only[En,h,Hu]
def zW (nd:List Nd):aG (nd.map Nd.D)=true:=bn (fun _=>rfl) _
section
variable [bS] {P:Program} {ν:List (Nat×Nat)} {bA:List Nat} {t:List (Nat×nn)} {fid n key u k:Nat} {af:aB} {ob:zb} {UO:List D} {w:List ah} {nd:List Nd} {b:Bool} {lp ln nx:Nat} {m:List (Nat×aV)} {K:D→St→Prop} {Pp:PO→Prop} {V:PO→D}
def EV (hob:F7 ob)(hk5:k≠5)(has:aG UO=true)(h1:look m lp=some (.buf k [ob w (.own ln 5 0 nd.length) b]))(h2:look m ln=some (.buf 5 (nd.map Nd.D))):
  lp≠ln∧(∀i,i<(D.ptr lp k 0 0::UO).length→FL 0 [(lp,0),(ln,1)] ((D.ptr lp k 0 0::UO).getD i .any) ((D.ptr 0 k 0 0::UO).getD i .any))∧eD 0 2 [(lp,0),(ln,1)]=true∧(∀l i,(l,i)∈[(lp,0),(ln,1)]→look m l≠none)∧
   ∀i bb,look [(0,.buf k [ob w (.own 1 5 0 nd.length) b]),(1,.buf 5 (nd.map Nd.D))] i=some bb→∃l b',(l,i)∈[(lp,0),(ln,1)]∧look m l=some b'∧nB 0 [(lp,0),(ln,1)] b' bb:=by
 have hne:lp≠ln:=by
  rintro rfl;rw[h1]at h2;exact hk5 (aV.buf.inj (Option.some.inj h2)).1
 have hb:Nat.beq lp ln=false:=by cases h:Nat.beq lp ln with
  |false=>rfl
  |true=>exact absurd (Nat.eq_of_beq_eq_true h) hne
 have hb':Nat.beq ln lp=false:=by cases h:Nat.beq ln lp with
  |false=>rfl
  |true=>exact absurd (Nat.eq_of_beq_eq_true h).symm hne
 refine⟨hne,fun i hi=>?_, ?_,fun l i h=>?_,fun i bb h=>?_⟩
 ·match i with
  |0=>exact .inr (.inl (by simp[qK,Df,j3]))
  |i+1=>exact .inl ⟨rfl,bQ has i⟩
 ·simp[eD,hb,hb'];rfl
 ·rcases List.mem_cons.1 h with h|h
  ·obtain⟨rfl,rfl⟩:=Prod.mk.inj h;rw[h1];simp
  ·obtain⟨rfl,rfl⟩:=Prod.mk.inj (List.mem_singleton.1 h);rw[h2];simp
 ·simp only[look]at h;split at h
  ·rename_i e;subst e;obtain rfl:=Option.some.inj h;exact⟨lp,_,.head _,h1,rfl,.inr (.inl (by simp only[ph,hob _ ln 1 w nd.length b (show j3 0 [(lp,0),(ln,1)] ln=some 1 by simp[j3,hb])]))⟩
  ·split at h
   ·rename_i e;subst e;obtain rfl:=Option.some.inj h;exact⟨ln,_,.tail _ (.head _),h2,rfl,.inl ⟨rfl,zW nd⟩⟩
   ·cases h
def gP (hob:F7 ob)(hk5:k≠5)(has:aG UO=true)(hV:∀o,(V o).aI=true)(hmix:P.follows .mixedOrders=true)(hC:Dp P ν bA fid af)(hnp:UO.length+1=af.np)
  (h1:look m lp=some (.buf k [ob w (.own ln 5 0 nd.length) b])) (h2:look m ln=some (.buf 5 (nd.map Nd.D))) (h3:lp<nx) (h4:ln<nx)
  (hK:∀o,Pp o→K (V o) ⟨nx+1,(nx,.buf 5 (o.nd.map Nd.D))::bO (bK m ln) lp (.buf k [ob o.w (.own nx 5 0 o.nd.length) o.bad])⟩)
  (hw:bx ((under t key u).at 2) af.body (nM af (zc k ob Pp V)) (eu af (.ptr 0 k 0 0::UO)) ⟨2,[(0,.buf k [ob w (.own 1 5 0 nd.length) b]),(1,.buf 5 (nd.map Nd.D))]⟩):lL P ν bA (under t key u) fid (.ptr lp k 0 0::UO) ⟨nx,m⟩ K:=by
 obtain⟨hne,g2,g3,g4,g5⟩:=EV hob hk5 has h1 h2;refine xO (σi:=[(lp,0),(ln,1)]) (cs:=.ptr 0 k 0 0::UO) (fun q=>aN t key u q) hmix hC (by simp) g2 (by simpa using hnp) g3 g4 g5 hw ?_;rintro d m1 ⟨o,j,hj,hP,rfl,e0,ej⟩;have hb0:Nat.beq 0 j=false:=by cases j<;>first|omega|rfl
 have hbj:Nat.beq j 0=false:=by cases j<;>first|omega|rfl
 have hbl:Nat.beq lp nx=false:=by cases h:Nat.beq lp nx with
  |false=>rfl
  |true=>have:=Nat.eq_of_beq_eq_true h;omega
 have hbl':Nat.beq nx lp=false:=by cases h:Nat.beq nx lp with
  |false=>rfl
  |true=>have:=Nat.eq_of_beq_eq_true h;omega
 refine⟨[(0,lp),(j,nx)],j+1,_,V o,⟨g3, ?_,Nat.le_succ _,g4, ?_,g5, ?_⟩,.inl ⟨rfl,hV o⟩,hK o hP⟩
 ·simp[eD,hbj,hb0,hbl,hbl'];omega
 ·intro i l h;rcases List.mem_cons.1 h with h|h
  ·obtain⟨rfl,rfl⟩:=Prod.mk.inj h;exact .inl (.head _)
  ·obtain⟨rfl,rfl⟩:=Prod.mk.inj (List.mem_singleton.1 h);exact .inr (Nat.le_refl _)
 ·intro l bb h;simp only[look]at h;split at h
  ·rename_i e;subst e;obtain rfl:=Option.some.inj h;exact .inl ⟨j,_,.tail _ (.head _),ej,rfl,.inl ⟨rfl,zW _⟩⟩
  ·rename_i hln;rw[bh]at h;split at h
   ·rename_i e;subst e;obtain rfl:=Option.some.inj h;exact .inl ⟨0,_,.head _,e0,rfl,.inr (.inl (by simp only[ph,hob _ j nx o.w o.nd.length o.bad (show j3 0 [(0,l),(j,nx)] j=some nx by simp[j3,hb0])]))⟩
   ·rename_i hlp;rw[dK]at h;split at h
    ·cases h
    ·rename_i hl2;refine .inr ⟨by simp only[jo,if_neg (fun e=>hlp (Eq.symm e)),if_neg hln],fun i hi=>?_,h⟩;rcases List.mem_cons.1 hi with hi|hi
     ·exact hlp (Prod.mk.inj hi).1
     ·exact hl2 (Prod.mk.inj (List.mem_singleton.1 hi)).1
def CL (hob:F7 ob)(hk5:k≠5)(has:aG UO=true)(hV:∀o,(V o).aI=true)(hmix:P.follows .mixedOrders=true)(hC:Dp P ν bA fid af)(hnp:UO.length+1=af.np)
  (h1:look m lp=some (.buf k [ob w (.own ln 5 0 nd.length) b])) (h2:look m ln=some (.buf 5 (nd.map Nd.D))) (h3:lp<nx) (h4:ln<nx)
  (hK:∀o,Pp o→K (V o) ⟨nx,bO m lp (.buf k [ob o.w (.own ln 5 0 nd.length) o.bad])⟩)
  (hw:bx ((under t key u).at 2) af.body (nM af (HT k ob nd Pp V)) (eu af (.ptr 0 k 0 0::UO)) ⟨2,[(0,.buf k [ob w (.own 1 5 0 nd.length) b]),(1,.buf 5 (nd.map Nd.D))]⟩):lL P ν bA (under t key u) fid (.ptr lp k 0 0::UO) ⟨nx,m⟩ K:=by
 obtain⟨hne,g2,g3,g4,g5⟩:=EV hob hk5 has h1 h2;refine xO (σi:=[(lp,0),(ln,1)]) (cs:=.ptr 0 k 0 0::UO) (fun q=>aN t key u q) hmix hC (by simp) g2 (by simpa using hnp) g3 g4 g5 hw ?_;rintro d m1 ⟨o,hP,rfl,e0,ej⟩;have hbl:Nat.beq lp ln=false:=by cases h:Nat.beq lp ln with
  |false=>rfl
  |true=>exact absurd (Nat.eq_of_beq_eq_true h) hne
 have hbl':Nat.beq ln lp=false:=by cases h:Nat.beq ln lp with
  |false=>rfl
  |true=>exact absurd (Nat.eq_of_beq_eq_true h).symm hne
 refine⟨[(0,lp),(1,ln)],2,⟨nx,bO m lp (.buf k [ob o.w (.own ln 5 0 nd.length) o.bad])⟩,V o,⟨g3, ?_,Nat.le_refl _,g4, ?_,g5, ?_⟩,.inl ⟨rfl,hV o⟩,hK o hP⟩
 ·simp[eD,hbl,hbl'];exact⟨h3,rfl,h4⟩
 ·intro i l h;rcases List.mem_cons.1 h with h|h
  ·obtain⟨rfl,rfl⟩:=Prod.mk.inj h;exact .inl (.head _)
  ·obtain⟨rfl,rfl⟩:=Prod.mk.inj (List.mem_singleton.1 h);exact .inl (.tail _ (.head _))
 ·intro l bb h;simp only at h;rw[bh]at h;split at h
  ·rename_i e;subst e;obtain rfl:=Option.some.inj h;exact .inl ⟨0,_,.head _,e0,rfl,.inr (.inl (by simp only[ph,hob _ 1 ln o.w nd.length o.bad (show j3 0 [(0,l),(1,ln)] 1=some ln from rfl)]))⟩
  ·rename_i hlp;by_cases hl2:l=ln
   ·subst hl2;rw[h2]at h;obtain rfl:=Option.some.inj h;exact .inl ⟨1,_,.tail _ (.head _),ej,rfl,.inl ⟨rfl,zW _⟩⟩
   ·refine .inr ⟨by simp only[jo,if_neg (fun e=>hlp (Eq.symm e)),if_neg (fun e=>hl2 (Eq.symm e))],fun i hi=>?_,h⟩;rcases List.mem_cons.1 hi with hi|hi
    ·exact hlp (Prod.mk.inj hi).1
    ·exact hl2 (Prod.mk.inj (List.mem_singleton.1 hi)).1
def lP {a b:Nat}(h:a≠b):Nat.beq a b=false:=by
 cases h2:Nat.beq a b with
 |false=>rfl
 |true=>exact absurd (Nat.eq_of_beq_eq_true h2) h
def tm {m:List (Nat×aV)}{l lw:Nat}(h:l≠lw):dp (bK m lw) l=match look m l with
 |some (.bld (some l2) _ _)=>bK (bK m lw) l2
 |_=>bK m lw:=by
 haveI:bS:={gd:=fun _=>True,le:=fun _ _ _ _ _=>trivial}
 unfold dp;rw[dK,if_neg h];cases look m l with
 |none=>rfl
 |some b=>cases b with
  |bld o n u=>cases o<;>rfl
  |_=>rfl
def Co {ws:List ah}{s:ah}{l lw:Nat}(hmix:P.follows .mixedOrders=true)(hC:Dp P ν bA fid af)(hnp:2=af.np)
  (h1:nA m l s) (h2:look m lw=some (.buf 1 (ws.map D.str))) (h3:l<nx) (h4:lw<nx) (hK:K (.tup []) ⟨nx+1,lQ (bK m lw) l nx (s++bt ws)⟩)
  (hw:∀m0,nA m0 0 s→look m0 1=some (.buf 1 (ws.map D.str))→bx ((under t key u).at 3) af.body (nM af (fun d m=>d=.tup []∧look m 0=some (.bld (some 9) (s++bt ws).length true)∧look m 9=some (.row (s++bt ws)))) (eu af [.ptr 0 2 0 0,.own 1 1 0 ws.length]) ⟨3,m0⟩):
  lL P ν bA (under t key u) fid [.ptr l 2 0 0,.own lw 1 0 ws.length] ⟨nx,m⟩ K:=by
 have hlw:l≠lw:=by
  rintro rfl;rcases h1 with⟨u,h,_⟩|⟨l2,u,h,_⟩<;>rw[h2]at h<;>cases h
 have hnl:aG (ws.map D.str)=true:=bn (fun _=>rfl) _;have b1:=lP hlw;have b2:=lP (Ne.symm hlw);have b3:=lP (show l≠nx by omega);have b4:=lP (show nx≠l by omega)

 have fin:∀(σi:List (Nat×Nat)) (m0:List (Nat×aV)),eD 0 3 σi=true→(l,0)∈σi→(∀l i,(l,i)∈σi→look m l≠none)→(∀i b,look m0 i=some b→∃l b',(l,i)∈σi∧look m l=some b'∧nB 0 σi b' b)→
   (∀l' b,look (dp (bK m lw) l) l'=some b→l'≠l→look m l'=some b∧∀i,(l',i)∉σi)→∀d m1,(d=.tup []∧look m1 0=some (.bld (some 9) (s++bt ws).length true)∧look m1 9=some (.row (s++bt ws)))→
   ∃(σo:List (Nat×Nat)) (q1:Nat) (st':St) (vd':D),Fr σi σo 3 q1 m0 m1 ⟨nx,m⟩ st'∧FL 0 σo d vd'∧K vd' st':=by
  rintro σi m0 oki hm hlt hm0 hoff d m1 ⟨rfl,e0,e9⟩;refine⟨[(0,l),(9,nx)],10,⟨nx+1,lQ (bK m lw) l nx (s++bt ws)⟩,.tup [],⟨oki, ?_,Nat.le_succ _,hlt, ?_,hm0, ?_⟩,.inl ⟨rfl,rfl⟩,hK⟩
  ·simp[eD,b3,b4];exact⟨by omega,rfl⟩
  ·intro i l' h;rcases List.mem_cons.1 h with h|h
   ·obtain⟨rfl,rfl⟩:=Prod.mk.inj h;exact .inl hm
   ·obtain⟨rfl,rfl⟩:=Prod.mk.inj (List.mem_singleton.1 h);exact .inr (Nat.le_refl _)
  ·intro l' bb h;simp only[lQ,look]at h;split at h
   ·rename_i e;subst e;obtain rfl:=Option.some.inj h;exact .inl ⟨9,_,.tail _ (.head _),e9,rfl⟩
   ·rename_i hln;rw[bh]at h;split at h
    ·rename_i e;subst e;obtain rfl:=Option.some.inj h;exact .inl ⟨0,_,.head _,e0,⟨nx,rfl,rfl⟩,rfl,rfl⟩
    ·rename_i hl;obtain⟨g1,g2⟩:=hoff l' bb h hl;exact .inr ⟨by simp only[jo,if_neg (fun e=>hl (Eq.symm e)),if_neg hln],g2,g1⟩
 rcases h1 with⟨u,h1,rfl⟩|⟨l2,u,h1,h5⟩
 ·have g4:∀l' i,(l',i)∈[(l,0),(lw,1)]→look m l'≠none:=by
   intro l' i h;rcases List.mem_cons.1 h with h|h
   ·obtain⟨rfl,rfl⟩:=Prod.mk.inj h;rw[h1];simp
   ·obtain⟨rfl,rfl⟩:=Prod.mk.inj (List.mem_singleton.1 h);rw[h2];simp
  have g3:eD 0 3 [(l,0),(lw,1)]=true:=by simp[eD,b1,b2];rfl
  have g5:∀i b,look [(0,aV.bld none 0 u),(1,.buf 1 (ws.map D.str))] i=some b→∃l' b',(l',i)∈[(l,0),(lw,1)]∧look m l'=some b'∧nB 0 [(l,0),(lw,1)] b' b:=by
   intro i b h;simp only[look]at h;split at h
   ·rename_i e;subst e;obtain rfl:=Option.some.inj h;exact⟨l,_,.head _,h1,rfl,rfl,rfl⟩
   ·split at h
    ·rename_i e;subst e;obtain rfl:=Option.some.inj h;exact⟨lw,_,.tail _ (.head _),h2,rfl,.inl ⟨rfl,hnl⟩⟩
    ·cases h
  refine xO (σi:=[(l,0),(lw,1)]) (cs:=[.ptr 0 2 0 0,.own 1 1 0 ws.length]) (fun q=>aN t key _ q) hmix hC rfl ?_ hnp g3 g4 g5 (hw _ (.inl ⟨u,rfl,rfl⟩) rfl) (fin _ _ g3 (.head _) g4 g5 ?_)
  ·intro i hi
   match i,hi with
   |0,_=>exact .inr (.inl (by simp[qK,Df,j3]))
   |1,_=>exact .inr (.inl (by simp[qK,Df,j3,b1]))
  ·intro l' b h hl;rw[tm hlw]at h;simp only[h1]at h;rw[dK]at h;split at h
   ·cases h
   ·rename_i hw';refine⟨h,fun i hi=>?_⟩;rcases List.mem_cons.1 hi with hi|hi
    ·exact hl (Prod.mk.inj hi).1
    ·exact hw' (Prod.mk.inj (List.mem_singleton.1 hi)).1
 ·have c1:l2≠l:=by rintro rfl;rw[h1]at h5;cases h5
  have c2:l2≠lw:=by rintro rfl;rw[h2]at h5;cases h5
  have d1:=lP c1;have d2:=lP c2;have d3:=lP (Ne.symm c1);have d4:=lP (Ne.symm c2);have g4:∀l' i,(l',i)∈[(l,0),(lw,1),(l2,2)]→look m l'≠none:=by
   intro l' i h;rcases List.mem_cons.1 h with h|h
   ·obtain⟨rfl,rfl⟩:=Prod.mk.inj h;rw[h1];simp
   ·rcases List.mem_cons.1 h with h|h
    ·obtain⟨rfl,rfl⟩:=Prod.mk.inj h;rw[h2];simp
    ·obtain⟨rfl,rfl⟩:=Prod.mk.inj (List.mem_singleton.1 h);rw[h5];simp
  have g3:eD 0 3 [(l,0),(lw,1),(l2,2)]=true:=by simp[eD,b1,b2,d1,d2,d3,d4];exact⟨⟨rfl,rfl⟩,rfl⟩
  have g5:∀i b,look [(0,aV.bld (some 2) s.length u),(1,.buf 1 (ws.map D.str)),(2,.row s)] i=some b→∃l' b',(l',i)∈[(l,0),(lw,1),(l2,2)]∧look m l'=some b'∧nB 0 [(l,0),(lw,1),(l2,2)] b' b:=by
   intro i b h;simp only[look]at h;split at h
   ·rename_i e;subst e;obtain rfl:=Option.some.inj h;exact⟨l,_,.head _,h1,⟨2,by simp[j3,d3,d4],rfl⟩,rfl,rfl⟩
   ·split at h
    ·rename_i e;subst e;obtain rfl:=Option.some.inj h;exact⟨lw,_,.tail _ (.head _),h2,rfl,.inl ⟨rfl,hnl⟩⟩
    ·split at h
     ·rename_i e;subst e;obtain rfl:=Option.some.inj h;exact⟨l2,_,.tail _ (.tail _ (.head _)),h5,rfl⟩
     ·cases h
  refine xO (σi:=[(l,0),(lw,1),(l2,2)]) (cs:=[.ptr 0 2 0 0,.own 1 1 0 ws.length]) (fun q=>aN t key _ q) hmix hC rfl ?_ hnp g3 g4 g5 (hw _ (.inr ⟨2,u,rfl,rfl⟩) rfl) (fin _ _ g3 (.head _) g4 g5 ?_)
  ·intro i hi
   match i,hi with
   |0,_=>exact .inr (.inl (by simp[qK,Df,j3]))
   |1,_=>exact .inr (.inl (by simp[qK,Df,j3,b1]))
  ·intro l' b h hl;rw[tm hlw]at h;simp only[h1]at h;rw[dK]at h;split at h
   ·cases h
   ·rename_i hw2;rw[dK]at h;split at h
    ·cases h
    ·rename_i hw';refine⟨h,fun i hi=>?_⟩;rcases List.mem_cons.1 hi with hi|hi
     ·exact hl (Prod.mk.inj hi).1
     ·rcases List.mem_cons.1 hi with hi|hi
      ·exact hw' (Prod.mk.inj hi).1
      ·exact hw2 (Prod.mk.inj (List.mem_singleton.1 hi)).1
end
end Go.Abs
end
namespace Go.Abs
def ra {α:Type}{f:α→D}(hf:∀x y,f x=f y↔x=y):∀a b:List α,a.map f=b.map f↔a=b
 |[],[]=>by simp
 |[],_::_=>by simp
 |_::_,[]=>by simp
 |x::a,y::b=>by simp only[List.map_cons,List.cons.injEq,hf,ra hf a b]
def GJ (a b:Nat):((a:Nat):Int)=(b:Nat)↔a=b:=by omega
def iU8 (x y:UInt8):((x.toNat:Nat):Int)=(y.toNat:Nat)↔x=y:=(GJ _ _).trans UInt8.toNat_inj
def Cc (a b:List ah):a.map D.str=b.map D.str↔a=b:=ra (fun _ _=>by simp) a b
def iInt (a b:List Int):a.map (D.int .i64)=b.map (D.int .i64)↔a=b:=ra (fun _ _=>by simp) a b
def iByt (a b:ah):(a.map fun c=>D.int .u8 c.toNat)=(b.map fun c=>D.int .u8 c.toNat)↔a=b:=ra (fun x y=>by rw[D.int.injEq,iU8];simp) a b
def iVer (a b:dq):dq.D a=dq.D b↔a=b:=by cases a;cases b;simp[dq.D]
def H8 (a b:bz):bz.D a=bz.D b↔a=b:=by cases a;cases b;simp[bz.D,Cc]
def D7 (a b:List bz):a.map bz.D=b.map bz.D↔a=b:=ra H8 a b
def H7 (a b:bg):bg.D a=bg.D b↔a=b:=by cases a;cases b;simp[bg.D,D7]
def D6 (a b:List bg):a.map bg.D=b.map bg.D↔a=b:=ra H7 a b
def Ms (a b:iy):iy.D a=iy.D b↔a=b:=by cases a;cases b;simp[iy.D]
def H4 (a b:List iy):a.map iy.D=b.map iy.D↔a=b:=ra Ms a b
def H6 (a b:bp):bp.D a=bp.D b↔a=b:=by cases a;cases b;simp[bp.D,Cc]
def D5 (a b:List bp):a.map bp.D=b.map bp.D↔a=b:=ra H6 a b
def iRec (a b:Rec):Rec.D a=Rec.D b↔a=b:=by
 obtain⟨n,⟨v1,v2,v3,v4,v5⟩,x,y,z⟩:=a;obtain⟨n',⟨w1,w2,w3,w4,w5⟩,x',y',z'⟩:=b;simp[Rec.D,D6,H4,D5,and_assoc]
def Mt (a b:bW):bW.D a=bW.D b↔a=b:=by
 obtain⟨n,p,v1,v2,v3,v4,v5⟩:=a;obtain⟨n',p',w1,w2,w3,w4,w5⟩:=b;simp[bW.D]
def H5 (a b:List bW):a.map bW.D=b.map bW.D↔a=b:=ra Mt a b
def iNd (a b:Nd):Nd.D a=Nd.D b↔a=b:=by cases a;cases b;simp[Nd.D]
def Mu (a b:List Nd):a.map Nd.D=b.map Nd.D↔a=b:=ra iNd a b
def Jq (a b:Alt):oC a=oC b↔a=b:=by simp[oC,H5]
def iRng (a b:vO):gT a=gT b↔a=b:=by simp[gT,ra Jq]
def Mr (a b:List Alt):a.map oC=b.map oC↔a=b:=ra Jq a b
def iMrk (a b:HS):jC a=jC b↔a=b:=by simp[jC,Mu]
def iLd (a b:Ld):Ld.D a=Ld.D b↔a=b:=by cases a;cases b;simp[Ld.D,Cc,GJ]
def iPr (w w':List ah)(x x':D)(b b':Bool):dY w x b=dY w' x' b'↔w=w'∧x=x'∧b=b':=by simp[dY,Cc]
def bC {A:RT→Prop}(h:A (fun ds d=>A fun ds' d'=>ds'=ds→d=d'):=by
 (repeat' first|apply And.intro|intro _)
 all_goals rename_i e
 all_goals (try simp only[List.cons.injEq,D.str.injEq,D.int.injEq,D.bool.injEq,D.sl.injEq,D.ref.injEq,D.agg.injEq,Cc,iInt,iByt,iVer,H8,D7,H7,D6,Ms,H4,H6,D5,iRec,Mt,H5,iNd,Mu,Jq,iRng,Mr,iMrk,iPr,iU8,UInt8.toNat_inj,GJ,and_true,true_and,reduceCtorEq,and_false,false_and]at e)
 all_goals first|rfl|(simp only[e];done)|simp_all):LK (wu A):=Jg h
def Gk {A:FT→Prop}(h:A (fun d ds v s=>A fun d' ds' v' s'=>d'=d→ds'=ds→v=v'∧s=s'):=by
 (repeat' first|apply And.intro|intro _)
 all_goals rename_i e' e
 all_goals (try simp only[List.cons.injEq,D.str.injEq,D.int.injEq,D.bool.injEq,D.sl.injEq,iLd,Cc,iU8,UInt8.toNat_inj,GJ,and_true,true_and]at e e')
 all_goals first|rfl|(simp only[e,e'];done)|simp_all):rZ (jY A):=Gl h
end Go.Abs
section
namespace Go.Abs
open Go
end Go.Abs
end
section
namespace Go.Abs
open Go
end Go.Abs
end
namespace Go.Abs
end Go.Abs
section
namespace Go.Abs
open Go
end Go.Abs
end
namespace Go.Abs
end Go.Abs
section
namespace Go.Abs
section
variable [bS] {P:Program} {ν:List (Nat×Nat)} {bA:List Nat} {t:List (Nat×nn)} {fid n key u k:Nat} {af:aB} {UO:List D} {nx:Nat} {m:List (Nat×aV)} {K:D→St→Prop}
def C1 {a:D}{k q i:Nat}{es:List D}{m1:List (Nat×aV)}(ha:a.aI=true)(hes:aG es=true)(hmix:P.follows .mixedOrders=true)(hC:Dp P ν bA fid af)(hnp:1=af.np)
  (hl:look m1 q=some (.buf k es)) (hK:K (.own nx k 0 i) ⟨nx+1,(nx,.buf k es)::m⟩) (hw:bx ((under t key u).at 0) af.body (nM af (One (.own q k 0 i) m1)) (eu af [a]) ⟨0,[]⟩):lL P ν bA (under t key u) fid [a] ⟨nx,m⟩ K:=by
 refine xO (σi:=[]) (m0:=[]) (cs:=[a]) (fun q=>aN t key u q) hmix hC rfl ?_ hnp rfl (fun _ _ h=>by cases h) (fun _ _ h=>by cases h) hw ?_
 ·intro i hi
  match i,hi with
  |0,_=>exact .inl ⟨rfl,ha⟩
 ·rintro d m2 ⟨rfl,rfl⟩;refine⟨[(q,nx)],q+1,_,.own nx k 0 i,⟨rfl, ?_,Nat.le_succ _,(fun _ _ h=>by cases h), ?_,(fun _ _ h=>by cases h), ?_⟩,.inr (.inl (by simp[qK,Df,j3])),hK⟩
  ·simp[eD]
  ·intro i l h;obtain⟨rfl,rfl⟩:=Prod.mk.inj (List.mem_singleton.1 h);exact .inr (Nat.le_refl _)
  ·intro l bb h;simp only[look]at h;split at h
   ·rename_i e;subst e;obtain rfl:=Option.some.inj h;exact .inl ⟨q,_,.head _,hl,rfl,.inl ⟨rfl,hes⟩⟩
   ·rename_i hn;exact .inr ⟨by simp only[jo,if_neg hn],(fun _ h=>by cases h),h⟩
end
end Go.Abs
end
namespace Go.Abs
def fL (l:List Int)(i:Int):Int:=if i<0∨(l.length:Int)≤i then 0 else l[i.toNat]!
def Hi {v n:Int}(h:0<n)(h2:¬v.tmod n<0):v.tmod n=v%n:=by
 rw[Int.tmod_eq_emod];rw[Int.tmod_eq_emod]at h2;have h3:=Int.emod_nonneg v (show n≠0 by omega);have h4:=Int.emod_lt_of_pos v h;split at h2<;>split<;>first|omega|contradiction
def Hh {v n:Int}(h:0<n)(h2:v.tmod n<0):v.tmod n+n=v%n:=by
 rw[Int.tmod_eq_emod]at h2⊢;have h3:=Int.emod_nonneg v (show n≠0 by omega);have h4:=Int.emod_lt_of_pos v h;have h5:(n.natAbs:Int)=n:=by omega
 split at h2<;>split<;>first|omega|contradiction
def cJ (l:List Int)(i n:Int):Int:=fL l i%n
def bN (l:List Int)(i n:Int)(h:0<n):0≤cJ l i n∧cJ l i n<n:=⟨Int.emod_nonneg _ (by omega),Int.emod_lt_of_pos _ h⟩
def jd (v n:Int)(h:0<n):0≤v%n∧v%n<n:=⟨Int.emod_nonneg _ (by omega),Int.emod_lt_of_pos _ h⟩
def oL {α:Type} [Inhabited α]{q:α→D}(xs:List α){j:Nat}(h:j<xs.length):cut (xs.map q) (j*1) 1 false=q xs[j]! :=by
 show(xs.map q).getD (j*1) .any=_;rw[Nat.mul_one];exact getD_map h
def zP {α:Type} [Inhabited α]{q:α→D}(xs:List α){j n:Nat}(h:j<xs.length)(hn:(1==n)=false):kp (.agg (xs.map q)) n 1 (0+j*1) false=q xs[j]! :=by
 have hc:(D.agg (xs.map q)).cells=xs.map q:=by
  rfl
 unfold kp;rw[hn,hc,Nat.zero_add];exact oL xs h
def Eu:List ah:=[[97,112,112],[98],[99],[100],[101,45,50]]
def cG (n:Int):ah:=Eu[(n%5).toNat]!
def HI:List ah:=[[120],[121],[122],[119,95,49]]
def ib (n:Int):ah:=HI[(n%4).toNat]!
def Aa:List Int:=[9,7,6,3,1,2]
def qW (l:List Int)(i:Int):bW:=⟨Aa[(cJ l i 6).toNat]!,3,⟨cJ l (i+1) 3,cJ l (i+2) 2,0,[],[]⟩⟩
def mc (l:List Int)(i:Int):ah:=if(qW l i).op=9 then [42]else cR (qW l i)
def uJ:List ah:=[[111,115],[97,114,99,104],[97,98,105]]
def BP:List ah:=[[32,61,32],[32,33,61,32]]
def gz (l:List Int)(i:Int):ah:=if 2<cJ l i 6 then []else uJ[(cJ l i 6).toNat]! ++BP[(cJ l (i+1) 2).toNat]! ++ib (1+cJ l (i+1) 3)
def vJ:List ah:=[[120],[121]]
def jW (l:List Int)(i:Int)(alone:Bool):List ah:=if alone=true∧2<cJ l (i+5) 5 then vJ.take (cJ l (i+5) 5-2).toNat else []
def hZ (l:List Int)(i own:Int)(alone:Bool):bz:=⟨cG (own+1+cJ l i 4),mc l (i+1),jW l i alone,decide (cJ l (i+4) 3=0)⟩
def dm (l:List Int)(i:Int):Nat:=if cJ l i 5=1 then 2 else 1
def oU (l:List Int)(i own:Int)(k:Nat):List bz:=(List.range k).map fun(k:Nat)=>hZ l (i+1+6*(k:Nat)) own (decide ((dm l i:Int)=1))
def dR (l:List Int)(i own:Int):bg:=⟨oU l i own (dm l i),gz l (i+14),if cJ l (i+16) 4=1 then ib (fL l (i+17))else []⟩
def B2 (l:List Int)(i own:Int)(k:Nat):oU l i own (k+1)=oU l i own k++[hZ l (i+1+6*(k:Nat)) own (decide ((dm l i:Int)=1))]:=by
 unfold oU;rw[List.range_succ,List.map_append];rfl
def sx (l:List Int)(i:Int):dm l i≤2:=by
 unfold dm;split<;>omega
def gQ (s:ah):List ah→Nat
 |[]=>0
 |a::r=>if Op.bytesLess a s=true then gQ s r+1 else 0
def dD (l:List ah)(s:ah):List ah:=if gQ s l<l.length∧l[gQ s l]! =s then l else l.take (gQ s l)++[s]++l.drop (gQ s l)
def wB (s:ah):∀l:List ah,gQ s l≤l.length
 |[]=>Nat.le_refl _
 |a::r=>by
  have:=wB s r;simp only[gQ,List.length_cons];split<;>omega
def wC (s:ah):∀(l:List ah)(i:Nat),i<gQ s l→Op.bytesLess l[i]! s=true
 |[],i,h=>by simp[gQ]at h
 |a::r,i,h=>by
  simp only[gQ]at h;split at h
  ·rename_i ha;cases i with
   |zero=>simpa using ha
   |succ i=>simpa using wC s r i (by omega)
  ·omega
def qc (s:ah):∀l:List ah,gQ s l<l.length→Op.bytesLess l[gQ s l]! s=false
 |[],h=>by simp at h
 |a::r,h=>by
  simp only[gQ]at h⊢;split
  ·rename_i ha;rw[if_pos ha]at h;simpa using qc s r (by simpa using h)
  ·rename_i ha;simpa using ha
def zn (n b:Int):Int:=IntKind.wrap .i64 (((BitVec.ofInt 64 (n.fdiv (2^(min b.toNat 64))))&&&(BitVec.ofInt 64 1)).toNat)
def je:List ah:=[HY,[120],[121],[122]]
def DW (r:Rec)(n:Int)(of:List ah)(j:Nat):List ah:=if ¬r.needs[j]!.option=[]∧zn n (3+(j:Nat))=1 then dD of ([63]++r.needs[j]!.option)else of
def H0 (r:Rec)(n:Int)(of:List ah)(j:Nat):List ah:=if r.needs[j]!.any.length=1∧zn n (5+(j:Nat))=1 then dD of (r.needs[j]!.any[0]!.name++[47]++[120])else of
def H2 (r:Rec)(n:Int)(of:List ah)(j:Nat):List ah:=H0 r n (DW r n of j) j
def lh (r:Rec)(n:Int)(j:Nat):List ah:=(List.range j).foldl (H2 r n) []
def Gy (l:List Int)(i:Int)(n:Int)(k:Nat)(of:List ah):List ah:=if(k<3∧zn n 7=1)∧¬fL l (i+(k:Nat)+1)%3=0 then dD of je[k+1]! else of
def Jl (l:List Int)(i:Int)(r:Rec)(k:Nat):Option bp:=if fL l (i+(k:Nat))%3=0 then none else some ⟨je[k]!,Gy l i (fL l (i+(k:Nat))) k (lh r (fL l (i+(k:Nat))) (min r.needs.length 2))⟩
def DX (l:List Int)(i:Int)(r:Rec)(k:Nat):List bp:=(List.range k).filterMap (Jl l i r)
def fj (l:List Int)(i:Int)(r:Rec):List bp:=DX l i r 4
def kg (r:Rec)(n:Int)(j:Nat):lh r n (j+1)=H2 r n (lh r n j) j:=by
 unfold lh;rw[List.range_succ,List.foldl_append];rfl
def Jm {l:List Int}{i:Int}{r:Rec}{k:Nat}(h:fL l (i+(k:Nat))%3=0):DX l i r (k+1)=DX l i r k:=by
 unfold DX;rw[List.range_succ,List.filterMap_append];simp[Jl,h]
def AV {l:List Int}{i:Int}{r:Rec}{k:Nat}{of:List ah}(h:¬fL l (i+(k:Nat))%3=0)(ho:Gy l i (fL l (i+(k:Nat))) k (lh r (fL l (i+(k:Nat))) (min r.needs.length 2))=of):DX l i r (k+1)=DX l i r k++[⟨je[k]!,of⟩]:=by
 unfold DX;rw[List.range_succ,List.filterMap_append];simp[Jl,h,ho]
def mw (l:List ah)(s:ah):(dD l s).length≤l.length+1:=by
 unfold dD;split
 ·omega
 ·simp only[List.length_append,List.length_take,List.length_drop,List.length_cons,List.length_nil];omega
def Gw (r:Rec)(n:Int)(of:List ah)(j:Nat):(DW r n of j).length≤of.length+1:=by
 unfold DW;split
 ·exact mw _ _
 ·omega
def Gx (r:Rec)(n:Int)(of:List ah)(j:Nat):(H0 r n of j).length≤of.length+1:=by
 unfold H0;split
 ·exact mw _ _
 ·omega
def wc (r:Rec)(n:Int):∀j,(lh r n j).length≤2*j
 |0=>by simp[lh]
 |j+1=>by
  have h1:=wc r n j;have h2:=Gw r n (lh r n j) j;have h3:=Gx r n (DW r n (lh r n j) j) j;rw[kg,H2];omega
def ja (n:Int):(cG n).length≤3:=by
 obtain⟨h1,h2⟩:=jd n 5 (by decide);unfold cG;have:(n%5).toNat<5:=by omega
 revert this;generalize (n%5).toNat=k;revert k;decide
def pT (n:Int):(ib n).length≤3:=by
 obtain⟨h1,h2⟩:=jd n 4 (by decide);unfold ib;have:(n%4).toNat<4:=by omega
 revert this;generalize (n%4).toNat=k;revert k;decide
def Cg (k:Nat)(h:k<3):(uJ[k]!).length≤4:=by
 revert k;decide
def DN (k:Nat)(h:k<2):(BP[k]!).length≤4:=by
 revert k;decide
def Gn (l:List Int)(i:Int):(qW l i).v.sm:=⟨by simp[qW],by simp[qW]⟩
end Go.Abs
section
namespace Go.Abs
open Go
def zN:aB:=⟨2,5,[⟨2,none⟩],cn,(sq (r1 [gm bD] 2 0) (sq (r1 [gm s0,gm s1,gn (.bin .rem l0 l1),gm l2] 3 3) (sq (sq (r1 [gm s3,aU l0 bD] 4 1) (.cond s4 (r1 [gm s3,gm s1,av l0 l1,gm l2] 3 3) .skip)) (sq (r1 [gm s3,gm l0] 2 1) .ret))))⟩
def w478 {Γ:Ctx}(hm:(Γ.at 0).bm)  (v:Int)(n:Int)  (hp0:0<n∧n≤9223372036854775807):dS Γ zN (.int .i64 (v%n)) [.int .i64 v,.int .i64 n]:=by
 show bx _ _ _ [⟨_,_⟩,⟨_,_⟩,_,_,_] _;refine ak ?_;refine aR ?_;refine yj (v.tmod n) (hn:=by intro _;omega) (hb:=fun _=>rfl) ?_;have ht:=Av v n (by omega);refine ba ?_;refine cF (fun hc0=>?_) fun hc0=>?_
 ·refine fK ?_;refine gU ?_;exact Hh hp0.1 hc0
 refine aT ?_;refine gU ?_;exact Hi hp0.1 hc0
def Dj (Γ:Ctx):Prop:=∀(v:Int)(n:Int),(0<n∧n≤9223372036854775807)→Γ.pre 478 [.int .i64 v,.int .i64 n]∧Γ.val 478 [.int .i64 v,.int .i64 n]=.int .i64 (v%n)
def GW:aB:=⟨2,4,[⟨2,none⟩],cn,(sq (r1 [gm bD] 2 0) (sq (sq (r1 [gm s1,aU l0 bD,gm l1,eW 2 s1,eW 2 s0,cA 2 (.len l4),cA 2 (xj l3 l5),fM l2 l6] 3 7) (.cond s3 (sq (r1 [gm bD] 2 0) .ret) .skip)) (sq (r1 [gm s0,gm s1,ga 1 l0 l1,gd l2,gm l3] 2 4) .ret)))⟩
def w479 {Γ:Ctx}(hm:(Γ.at 0).bm)  (l:List Int)(i:Int)   :dS Γ GW (.int .i64 (fL l i)) [.sl 1 (l.map (D.int .i64)),.int .i64 i]:=by
 show bx _ _ _ [⟨_,_⟩,⟨_,_⟩,_,_] _;refine ak ?_;refine dh ?_;refine ny ?_;refine az ?_;refine cF (fun hc0=>?_) fun hc0=>?_
 ·refine aR ?_;refine gU ?_;simp only[fL];rw[if_pos hc0]
 refine aA ?_;refine E6 ?_;refine aA ?_;refine gU ?_;simp only[fL];rw[if_neg (by omega)]
def FX (Γ:Ctx):Prop:=∀(l:List Int)(i:Int),Γ.pre 479 [.sl 1 (l.map (D.int .i64)),.int .i64 i]∧Γ.val 479 [.sl 1 (l.map (D.int .i64)),.int .i64 i]=.int .i64 (fL l i)
def Ci:aB:=⟨3,4,[⟨3,none⟩],cn,(sq (r1 [gm bD] 3 0) (sq (r1 [gm s0,gm s1,gx 479 [l0,l1] [[.sl 1 [.a]],[.a]],gm s2,gx 478 [l2,l3] iz,gm l4] 3 5) .ret))⟩
def w228 {Γ:Ctx}(hm:(Γ.at 0).bm)(h478:Dj Γ)(h479:FX Γ)(l:List Int)(i:Int)(n:Int)  (hp0:0<n∧n≤9223372036854775807):dS Γ Ci (.int .i64 (cJ l i n)) [.sl 1 (l.map (D.int .i64)),.int .i64 i,.int .i64 n]:=by
 show bx _ _ _ [⟨_,_⟩,⟨_,_⟩,⟨_,_⟩,_] _;refine ak ?_;refine aR ?_;refine aj (hc:=h479 l i) ?_;refine ax ?_;refine aj (hc:=h478 _ n hp0) ?_;refine az ?_;exact gU rfl
def BA (Γ:Ctx):Prop:=∀(l:List Int)(i:Int)(n:Int),(0<n∧n≤9223372036854775807)→Γ.pre 228 [.sl 1 (l.map (D.int .i64)),.int .i64 i,.int .i64 n]∧Γ.val 228 [.sl 1 (l.map (D.int .i64)),.int .i64 i,.int .i64 n]=.int .i64 (cJ l i n)
def Cj:aB:=⟨1,2,jN,cn,(sq (r1 [gm cse] 1 0) (sq (r1 [gn (.build [.str [],.str [],.str [],.str [],.str []] [(0,1,(cs [97,112,112])),(1,1,(cs [98])),(2,1,(cs [99])),(3,1,(cs [100])),(4,1,(cs [101,45,50]))]),gm s0,gx 478 [l1,AZ] iz,gn (.ixA 5 1 false l0 l2),gm l3] 1 4) .ret))⟩
def w227 {Γ:Ctx}(hm:(Γ.at 0).bm)(h478:Dj Γ)(n:Int)   :dS Γ Cj (.str (cG n)) [.int .i64 n]:=by
 show bx _ _ _ [⟨_,_⟩,_] _;refine ak ?_;refine az ?_;have hr:=jd n 5 (by decide);refine eI (Eu.map D.str) ?_;refine ax ?_;refine aj (hc:=h478 n 5 (by decide)) ?_;refine Be (n%5).toNat (.str Eu[(n%5).toNat]!) (hj:=fun _=>by omega) (hb:=fun _=>by omega) (hv:=fun _=>oL Eu (by show _<5;omega)) ?_;refine az ?_;exact cu rfl
def Iw (Γ:Ctx):Prop:=∀(n:Int),Γ.pre 227 [.int .i64 n]∧Γ.val 227 [.int .i64 n]=.str (cG n)
def Cn:aB:=⟨1,2,jN,cn,(sq (r1 [gm cse] 1 0) (sq (r1 [gn (.build [.str [],.str [],.str [],.str []] [(0,1,(cs [120])),(1,1,(cs [121])),(2,1,(cs [122])),(3,1,(cs [119,95,49]))]),gm s0,gx 478 [l1,tJ] iz,gn (.ixA 4 1 false l0 l2),gm l3] 1 4) .ret))⟩
def w481 {Γ:Ctx}(hm:(Γ.at 0).bm)(h478:Dj Γ)(n:Int)   :dS Γ Cn (.str (ib n)) [.int .i64 n]:=by
 show bx _ _ _ [⟨_,_⟩,_] _;refine ak ?_;refine az ?_;have hr:=jd n 4 (by decide);refine eI (HI.map D.str) ?_;refine ax ?_;refine aj (hc:=h478 n 4 (by decide)) ?_;refine Be (n%4).toNat (.str HI[(n%4).toNat]!) (hj:=fun _=>by omega) (hb:=fun _=>by omega) (hv:=fun _=>oL HI (by show _<4;omega)) ?_;refine az ?_;exact cu rfl
def IF (Γ:Ctx):Prop:=∀(n:Int),Γ.pre 481 [.int .i64 n]∧Γ.val 481 [.int .i64 n]=.str (ib n)
def Eh:aB:=⟨2,6,[⟨2,none⟩],cn,(sq (r1 [gm cse] 2 0) (sq (r1 [gn (.build [.int .i64 0,.int .i64 0,.int .i64 0,.int .i64 0,.int .i64 0,.int .i64 0] [(0,1,A0),(1,1,Jr),(2,1,zJ),(3,1,j7),(4,1,b9),(5,1,kn)]),gb 6 (.c (.agg [.int .i64 0,.int .i64 0,.int .i64 0,.int .i64 0,.int .i64 0,.int .i64 0])),gt 6 l1 l0] 3 1) (sq (r2 [gm s0,gm s1,gx 228 [l0,l1,zJ] [[.sl 1 [.a]],[.a],[.a]],gn (.iaP 6 1 s3 l2),gd l3,gm s0,gm s1,av l6 b9,gx 228 [l5,l7,j7] [[.sl 1 [.a]],[.a],[.a]],gm s0,gm s1,av l10 kn,gx 228 [l9,jK,kn] [[.sl 1 [.a]],[.a],[.a]],gn (.build [.int .i64 0,.int .i64 0,.int .i64 0,.str [],.str []] [(0,1,l8),(1,1,lu)]),gn (.build [.int .i64 0,.int .i64 0,.int .i64 0,.int .i64 0,.int .i64 0,.str [],.str []] [(0,1,l4),(1,1,j7),(2,5,nu)]),gb 7 (.c (.agg [.int .i64 0,.int .i64 0,.int .i64 0,.int .i64 0,.int .i64 0,.str [],.str []])),gt 7 oY n7] 4 15) (sq (sq (r1 [gf 0 s4,gd l0,aE l1 A0] 5 2) (.cond s5 (sq (r1 [gm (cs [42])] 2 0) .ret) .skip)) (sq (r1 [gk 7 true s4,gx 482 [l0] Jp,gm l1] 2 2) .ret)))))⟩
def w230 {Γ:Ctx}(hm:(Γ.at 0).bm)(h228:BA Γ)(h482:Lg Γ)(l:List Int)(i:Int)  (hp0:0≤i∧i≤4000000):dS Γ Eh (.str (mc l i)) [.sl 1 (l.map (D.int .i64)),.int .i64 i]:=by
 show bx _ _ _ [⟨_,_⟩,⟨_,_⟩,_,_,_,_] _;refine ak ?_;refine az ?_;refine eI (Aa.map (D.int .i64)) ?_;refine ax ?_;refine aF (.agg (Aa.map (D.int .i64))) (he:=by exact rfl) ?_;refine ay ?_;have hr:=bN l i 6 (by decide);refine ay ?_;refine aj (hc:=h228 l (i) 6 (by decide)) ?_;refine wD (cJ l i 6).toNat (hj:=fun _=>by omega) (hb:=fun _=>by omega) ?_;refine ch (v:=.int .i64 Aa[(cJ l i 6).toNat]!) (hv:=fun _=>zP Aa (by show _<6;omega) rfl) (ho:=by omega) ?_;refine az ?_;refine aj (hc:=h228 l (i+1) 3 (by decide)) ?_;refine az ?_;refine aj (hc:=h228 l (i+2) 2 (by decide)) ?_;refine br (dq.D (qW l i).v) ?_;refine br (bW.D (qW l i)) ?_;refine ax ?_;refine aF (bW.D (qW l i)) (he:=by exact rfl) ?_;refine aA ?_;refine ch (v:=.int .i64 (qW l i).op) ?_;refine ay ?_;refine cF (fun hc0=>?_) fun hc0=>?_
 ·refine aR ?_;refine cu ?_;unfold mc;rw[if_pos hc0]
 refine ay ?_;refine cy (d:=bW.D (qW l i)) ?_;refine aj (hc:=h482 (qW l i) (Gn l i)) ?_;refine az ?_;refine cu ?_;unfold mc;rw[if_neg hc0]
def Ix (Γ:Ctx):Prop:=∀(l:List Int)(i:Int),(0≤i∧i≤4000000)→Γ.pre 230 [.sl 1 (l.map (D.int .i64)),.int .i64 i]∧Γ.val 230 [.sl 1 (l.map (D.int .i64)),.int .i64 i]=.str (mc l i)
def Cl:aB:=⟨2,5,[⟨2,none⟩],cn,(sq (r1 [gm cse] 2 0) (sq (r1 [gm s0,gm s1,gx 228 [l0,l1,zJ] [[.sl 1 [.a]],[.a],[.a]],gm l2] 3 3) (sq (sq (r1 [gm s3,dz l0 kn] 4 1) (.cond s4 (sq (r1 [gm cse] 2 0) .ret) .skip)) (sq (r2 [gn (.build [.str [],.str [],.str []] [(0,1,(cs [111,115])),(1,1,(cs [97,114,99,104])),(2,1,(cs [97,98,105]))]),gm s3,gn (.ixA 3 1 false l0 l1),gn (.build [.str [],.str []] [(0,1,(cs [32,61,32])),(1,1,(cs [32,33,61,32]))]),gm s0,gm s1,av l5 b9,gx 228 [l4,l6,kn] [[.sl 1 [.a]],[.a],[.a]],gn (.ixA 2 1 false l3 l7),av l2 l8,gm s0,gm s1,av jK b9,gx 228 [l10,lu,j7] [[.sl 1 [.a]],[.a],[.a]],av b9 nu,gx 481 [n7] cn,av l9 oY,gm q9] 2 17) .ret))))⟩
def w231 {Γ:Ctx}(hm:(Γ.at 0).bm)(h228:BA Γ)(h481:IF Γ)(l:List Int)(i:Int)  (hp0:0≤i∧i≤4000000):dS Γ Cl (.str (gz l i)) [.sl 1 (l.map (D.int .i64)),.int .i64 i]:=by
 show bx _ _ _ [⟨_,_⟩,⟨_,_⟩,_,_,_] _;refine ak ?_;refine aR ?_;refine aj (hc:=h228 l (i) 6 (by decide)) ?_;refine ba ?_;refine aq (fun hc0=>?_) (fun hc0=>?_)
 ·try simp only[hO]at hc0
  refine aR ?_;refine cu ?_;unfold gz;rw[if_pos hc0]
 simp only[decide_eq_false_iff_not]at hc0;have hr:=bN l i 6 (by decide);have hr2:=bN l (i+1) 2 (by decide);have hr3:=bN l (i+1) 3 (by decide);have hw:=pT (1+cJ l (i+1) 3);have hk:=Cg (cJ l i 6).toNat (by omega);have he:=DN (cJ l (i+1) 2).toNat (by omega);refine ay ?_;refine eI (uJ.map D.str) ?_;refine ax ?_;refine Be (cJ l i 6).toNat (.str uJ[(cJ l i 6).toNat]!) (hj:=fun _=>by omega) (hb:=fun _=>by omega) (hv:=fun _=>oL uJ (by show _<3;omega)) ?_;refine eI (BP.map D.str) ?_;refine az ?_;refine aj (hc:=h228 l (i+1) 2 (by decide)) ?_;refine Be (cJ l (i+1) 2).toNat (.str BP[(cJ l (i+1) 2).toNat]!) (hj:=fun _=>by omega) (hb:=fun _=>by omega) (hv:=fun _=>oL BP (by show _<2;omega)) ?_;refine cX (hb:=fun _=>by omega) ?_;refine az ?_;refine aj (hc:=h228 l (i+1) 3 (by decide)) ?_;refine ax ?_;refine aj (hc:=h481 _) ?_;refine cX (hb:=fun _=>by simp only[List.length_append];omega) ?_;refine az ?_;refine cu ?_;unfold gz;rw[if_neg hc0]
def Iy (Γ:Ctx):Prop:=∀(l:List Int)(i:Int),(0≤i∧i≤4000000)→Γ.pre 231 [.sl 1 (l.map (D.int .i64)),.int .i64 i]∧Γ.val 231 [.sl 1 (l.map (D.int .i64)),.int .i64 i]=.str (gz l i)
end Go.Abs
end
section
namespace Go.Abs
open Go
def Cm:aB:=⟨4,8,[⟨4,some (4,true)⟩],[[.a,.a,.sl 1 [.a],.a]],(sq (r1 [gb 4 (.c (.agg [.str [],.str [],.au,.bool false]))] 4 0) (sq (r1 [gm s2,av l0 b9,gm s0,gm s1,gx 228 [l2,l3,tJ] [[.sl 1 [.a]],[.a],[.a]],av l1 l4,gx 227 [l5] cn,gm s0,gm s1,av l8 b9,gx 230 [l7,l9] [[.sl 1 [.a]],[.a]],gm s0,gm s1,av lu tJ,gx 228 [jK,nu,j7] [[.sl 1 [.a]],[.a],[.a]],aE n7 bD,gn (.build [.str [],.str [],.au,.bool false] [(0,1,l6),(1,1,l10),(3,1,oY)]),gb 4 (.c (.agg [.str [],.str [],.au,.bool false])),gt 4 wo q9] 7 17) (sq (sq (r1 [gm s0,gm s1,av l1 AZ,gx 228 [l0,l2,AZ] [[.sl 1 [.a]],[.a],[.a]],gm l3] 5 4) (sq (r1 [gm s3,gm l0,gmt 1 s5,cE 1 (dj l2 kn),gp l1 l3] 6 4) (.cond s6 (rg [gn (.bsl 1 (.str []) 2 [(0,(cs [120])),(1,(cs [121]))]),gm s5,eQ l1 kn,gn (.slA 1 l0 none (some l2)),gf 2 s7,gt 1 l4 l3] []) .skip))) (sq (rg [gk 4 true s7,gt 4 s4 l0] []) .ret))))⟩
def w480 {Γ:Ctx}(hm:(Γ.at 0).bm)(h227:Iw Γ)(h228:BA Γ)(h230:Ix Γ)(l:List Int)(i:Int)(own:Int)(alone:Bool)  (hp0:0≤i∧i≤3000000)(hp1:0≤own∧own≤1000000):dS Γ Cm (bz.D (hZ l i own alone)) [.sl 1 (l.map (D.int .i64)),.int .i64 i,.int .i64 own,.bool alone]:=by
 show bx _ _ _ [⟨_,_⟩,⟨_,_⟩,⟨_,_⟩,⟨_,_⟩,_,_,_,_] _;refine ak ?_;refine az ?_;have hr:=bN l i 4 (by decide);refine aA ?_;refine aj (hc:=h228 l (i) 4 (by decide)) ?_;refine ax ?_;refine aj (hc:=h227 (own+1+cJ l i 4)) ?_;refine az ?_;refine aj (hc:=h230 l (i+1) (by omega)) ?_;refine az ?_;refine aj (hc:=h228 l (i+4) 3 (by decide)) ?_;refine ax ?_;refine br (.agg [.str (cG (own+1+cJ l i 4)),.str (mc l (i+1)),.au,.bool (decide (cJ l (i+4) 3=0))]) ?_;refine ax ?_;refine aF (.agg [.str (cG (own+1+cJ l i 4)),.str (mc l (i+1)),.au,.bool (decide (cJ l (i+4) 3=0))]) (he:=by exact rfl) ?_;refine aT ?_;refine aj (hc:=h228 l (i+5) 5 (by decide)) ?_;refine aA ?_;have hr5:=bN l (i+5) 5 (by decide);refine aT ?_;refine cF (fun hc0=>?_) fun hc0=>?_
 ·refine ax ?_;refine ct (vJ.map D.str) ?_;refine ay ?_;refine yk (cJ l (i+5) 5-2).toNat (hj:=fun _=>by omega) (hb:=fun _=>by omega) ?_;refine ax ?_;refine aF (.agg [.str (cG (own+1+cJ l i 4)),.str (mc l (i+1)),(.own 30 1 0 (cJ l (i+5) 5-2).toNat),.bool (decide (cJ l (i+4) 3=0))]) (he:=by exact rfl) ?_;refine ax ?_;have hk:(cJ l (i+5) 5-2).toNat≤vJ.length:=by show _≤2;omega
  refine ee 30 ?_ (he:=by simp only[lj,gu,j6,mb,nZ,bK,Nat.reduceEqDiff,if_true,if_false,and_self,true_and,and_true,false_and,and_false,Nat.zero_add,List.length_map,Nat.le_refl,List.drop_zero,aH,reduceCtorEq,List.length_cons,List.length_nil,Nat.reduceAdd,Nat.reduceLeDiff,hk,←List.map_take];exact rfl) (hm:=by simp only[lj,gu,j6,mb,nZ,bK,Nat.reduceEqDiff,if_true,if_false,and_self,true_and,and_true,false_and,and_false,Nat.zero_add,List.length_map,Nat.le_refl,List.drop_zero,aH,reduceCtorEq,List.length_cons,List.length_nil,Nat.reduceAdd,Nat.reduceLeDiff,hk,←List.map_take];exact rfl);refine ax ?_;refine cy (d:=(.agg [.str (cG (own+1+cJ l i 4)),.str (mc l (i+1)),(.sl 1 ((vJ.take (cJ l (i+5) 5-2).toNat).map D.str)),.bool (decide (cJ l (i+4) 3=0))])) ?_;refine aF (.agg [.str (cG (own+1+cJ l i 4)),.str (mc l (i+1)),(.sl 1 ((vJ.take (cJ l (i+5) 5-2).toNat).map D.str)),.bool (decide (cJ l (i+4) 3=0))]) (he:=by exact rfl) ?_;refine ay ?_;refine bX (?_);simp only[bz.D,hZ,jW];rw[if_pos hc0];rfl
 refine ax ?_;have hf:jW l i alone=[]:=if_neg (by rintro⟨h1,h2⟩;rcases hc0 with h|h;rw[h]at h1;cases h1;exact h h2);refine lA [(0,.buf 4 [.agg [.str [],.str [],.au,.bool false]]),(18,.buf 4 [bz.D (hZ l i own alone)])] (.id ae (.bf ae (.cons (by simp only[bz.D,hZ,hf];exact .ag (.cons (.refl _) (.cons (.refl _) (.cons (.nil 1) (.cons (.refl _) .nil))))) .nil) .nil)) ?_;refine ax ?_;refine cy (d:=(bz.D (hZ l i own alone))) ?_;refine aF (bz.D (hZ l i own alone)) (he:=by exact rfl) ?_;refine ay ?_;refine bX (?_);rfl
def Lc (Γ:Ctx):Prop:=∀(l:List Int)(i:Int)(own:Int)(alone:Bool),(0≤i∧i≤3000000)→(0≤own∧own≤1000000)→Γ.pre 480 [.sl 1 (l.map (D.int .i64)),.int .i64 i,.int .i64 own,.bool alone]∧Γ.val 480 [.sl 1 (l.map (D.int .i64)),.int .i64 i,.int .i64 own,.bool alone]=bz.D (hZ l i own alone)
end Go.Abs
end
section
namespace Go.Abs
open Go
def Ck:aB:=⟨3,10,[⟨3,some (3,true)⟩],[[.sl 4 [.a,.a,.sl 1 [.a],.a],.a,.a]],(sq (r1 [gb 3 (.c (.agg [.au,.str [],.str []]))] 3 0) (sq (r1 [gb 3 (.c (.agg [.au,.str [],.str []]))] 8 0) (sq (r1 [gm b9] 6 0) (sq (sq (r1 [gm s0,gm s1,gx 228 [l0,l1,AZ] [[.sl 1 [.a]],[.a],[.a]],aE l2 b9] 4 3) (.cond s4 (r1 [gm kn] 6 0) .skip)) (sq (sq (r1 [gm bD] 5 0) (.block 0 (.loop (sq (sq (r1 [gm s5,gm s6,aU l0 l1] 7 2) (iN s7 0)) (sq (.block 1 (rt [gf 0 s8,gd l0,gm s0,gm s1,av l3 b9,gm s5,gn (.bin .mul zJ l5),av l4 l6,gm s2,gm s6,aE l9 b9,gx 480 [l2,l7,l8,l10] [[.sl 1 [.a]],[.a],[.a],[.a]],gn (.bsl 4 (.agg [.str [],.str [],.au,.bool false]) 1 [(0,jK)]),gn (.app 4 l1 lu),gf 0 s8,gt 1 n7 nu] [])) (r1 [gm s5,av l0 b9,gm l1] 5 2)))))) (sq (rg [gm s0,gm s1,av l1 (i6 14),gx 231 [l0,l2] [[.sl 1 [.a]],[.a]],gf 1 s8,gt 1 l4 l3] []) (sq (sq (r1 [gm s0,gm s1,av l1 (i6 16),gx 228 [l0,l2,tJ] [[.sl 1 [.a]],[.a],[.a]],aE l3 b9] 9 4) (.cond s9 (rg [gm s0,gm s1,av l1 (i6 17),gx 479 [l0,l2] [[.sl 1 [.a]],[.a]],gx 481 [l3] cn,gf 2 s8,gt 1 l5 l4] []) .skip)) (sq (rg [gk 3 true s8,gt 3 s3 l0] []) .ret))))))))⟩
def w229 {Γ:Ctx}(hm:(Γ.at 0).bm)(h228:BA Γ)(h231:Iy Γ)(h479:FX Γ)(h480:Lc Γ)(h481:IF Γ)(l:List Int)(i:Int)(own:Int)  (hp0:0≤i∧i≤2000000)(hp1:0≤own∧own≤1000000):dS Γ Ck (bg.D (dR l i own)) [.sl 1 (l.map (D.int .i64)),.int .i64 i,.int .i64 own]:=by
 show bx _ _ _ [⟨_,_⟩,⟨_,_⟩,⟨_,_⟩,_,_,_,_,_,_,_] _;refine ak ?_;refine ix ?_;refine aj (hc:=h228 l (i) 5 (by decide)) ?_;refine ay ?_;refine ow hm (ι:=Unit) (fun _=>[⟨true,.sl 1 (l.map (D.int .i64))⟩,⟨true,.int .i64 i⟩,⟨true,.int .i64 own⟩,⟨true,.ptr 0 3 0 0⟩,.un,.un,⟨true,.int .i64 (dm l i:Nat)⟩,.un,⟨true,.ptr 1 3 0 0⟩,.un]) (fun _=>[(0,.buf 3 [.agg [.au,.str [],.str []]]),(1,.buf 3 [.agg [.au,.str [],.str []]])]) 20 (fun _=>True) ?_ ?_
 ·refine fQ (fun hc0=>?_) fun hc0=>?_
  ·refine aA ?_;have hmn:((dm l i:Nat):Int)=2:=by simp[dm,hc0]
   exact⟨(),trivial,(aL.to [(0,0),(1,1)] ae ae (by repeat(first|exact cV.nil|refine cV.un ?_|refine cV.eq ae ?_|refine cV.nl (congrArg (D.int .i64) hmn) ae ?_)) yi)⟩
  refine ay ?_;have hmn:((dm l i:Nat):Int)=1:=by simp[dm,hc0]
  exact⟨(),trivial,(aL.to [(0,0),(1,1)] ae ae (by repeat(first|exact cV.nil|refine cV.un ?_|refine cV.eq ae ?_|refine cV.nl (congrArg (D.int .i64) hmn) ae ?_)) yi)⟩
 ·rintro _-
  have hml:=sx l i;refine aA ?_;refine bq hm (ι:=(Nat×List bz)) (fun p=>[⟨true,.sl 1 (l.map (D.int .i64))⟩,⟨true,.int .i64 i⟩,⟨true,.int .i64 own⟩,⟨true,.ptr 0 3 0 0⟩,.un,⟨true,.int .i64 (p.1:Nat)⟩,⟨true,.int .i64 (dm l i:Nat)⟩,.un,⟨true,.ptr 1 3 0 0⟩,.un]) (fun p=>[(0,.buf 3 [.agg [.au,.str [],.str []]]),(1,.buf 3 [(.agg [.own 2 4 0 p.2.length,.str [],.str []])]),(2,.buf 4 (p.2.map bz.D))]) 40 (fun p=>p.1≤dm l i∧p.2=oU l i own p.1) (fun p=>dm l i-p.1) (0,[]) ⟨by dsimp only;omega,rfl⟩ (aL.to [(0,0),(1,1)] ae ae kV (by(first|refine aC.cZ ae ae bT ?_|refine aC.lK ae ae ae ?_|refine aC.py ae ae ae ae ?_);refine aC.ni 1 ae ae (by exact⟨_,_,rfl,⟨_,rfl,⟨_,_,rfl,Or.inr ⟨_,_,_,rfl⟩,⟨_,_,rfl,⟨rfl,rfl⟩,⟨_,_,rfl,⟨rfl,rfl⟩,rfl⟩⟩⟩⟩,rfl⟩) ?_;refine aC.mt ae ae ae ae ?_;exact aC.nil)) ?_;rintro⟨k,ws⟩ ⟨hk,hw⟩;dsimp only at hk hw⊢;have hwl:ws.length=k:=by rw[hw];simp[oU]
  refine aT ?_;refine aq (fun hc1=>?_) (fun hc1=>?_)
  ·try simp only[hO]at hc1
   refine dh ?_;refine rR ?_;refine aA ?_;refine aj (hc:=h480 l (i+1+6*(k:Nat)) own (decide ((dm l i:Int)=1)) (by omega) hp1) ?_;refine ct [bz.D (hZ l (i+1+6*(k:Nat)) own (decide ((dm l i:Int)=1)))] ?_;refine iH (q:=bz.D) (xs:=ws) (e:=hZ l (i+1+6*(k:Nat)) own (decide ((dm l i:Int)=1))) ?_;refine ax ?_;refine aF (.agg [.own 56 4 0 (ws++[hZ l (i+1+6*(k:Nat)) own (decide ((dm l i:Int)=1))]).length,.str [],.str []]) (he:=by exact rfl) ?_;refine b6 ?_;exact⟨(k+1,ws++[hZ l (i+1+6*(k:Nat)) own (decide ((dm l i:Int)=1))]),⟨by dsimp only;omega,by dsimp only;rw[B2,hw]⟩,by dsimp only;omega,(aL.to [(0,0),(1,1),(56,2)] ae ae kV (by(first|refine aC.cZ ae ae bT ?_|refine aC.lK ae ae ae ?_|refine aC.py ae ae ae ae ?_);refine aC.lK ae ae ae ?_;refine aC.nl 56 ae ae rfl (bn (fun _=>rfl) _) ?_;exact aC.nil))⟩
  simp only[decide_eq_false_iff_not]at hc1;obtain rfl:k=dm l i:=by omega
  refine aT ?_;refine aj (hc:=h231 l (i+14) (by omega)) ?_;refine ax ?_;refine aF (.agg [.own 2 4 0 ws.length,.str (gz l (i+14)),.str []]) (he:=by exact rfl) ?_;refine aT ?_;refine aj (hc:=h228 l (i+16) 4 (by decide)) ?_;refine ay ?_;refine cF (fun hc2=>?_) fun hc2=>?_
  ·refine aA ?_;refine aj (hc:=h479 l (i+17)) ?_;refine aj (hc:=h481 _) ?_;refine ax ?_;refine aF (.agg [.own 2 4 0 ws.length,.str (gz l (i+14)),.str (ib (fL l (i+17)))]) (he:=by exact rfl) ?_;refine ax ?_;refine ee 2 ?_;refine ax ?_;refine cy (d:=(.agg [.sl 4 (ws.map bz.D),.str (gz l (i+14)),.str (ib (fL l (i+17)))])) ?_;refine aF (.agg [.sl 4 (ws.map bz.D),.str (gz l (i+14)),.str (ib (fL l (i+17)))]) (he:=by exact rfl) ?_;refine ay ?_;refine bX (?_);simp only[bg.D,dR];rw[if_pos hc2,←hw];rfl
  refine ax ?_;refine ee 2 ?_;refine ax ?_;refine cy (d:=(.agg [.sl 4 (ws.map bz.D),.str (gz l (i+14)),.str []])) ?_;refine aF (.agg [.sl 4 (ws.map bz.D),.str (gz l (i+14)),.str []]) (he:=by exact rfl) ?_;refine ay ?_;refine bX (?_);simp only[bg.D,dR];rw[if_neg hc2,←hw];rfl
def KQ (Γ:Ctx):Prop:=∀(l:List Int)(i:Int)(own:Int),(0≤i∧i≤2000000)→(0≤own∧own≤1000000)→Γ.pre 229 [.sl 1 (l.map (D.int .i64)),.int .i64 i,.int .i64 own]∧Γ.val 229 [.sl 1 (l.map (D.int .i64)),.int .i64 i,.int .i64 own]=bg.D (dR l i own)
end Go.Abs
end
section
namespace Go.Abs
open Go
def Ei:aB:=⟨2,6,[⟨2,none⟩],[[.sl 1 [.a]]],(sq (r1 [gm (.c (.au))] 2 0) (sq (r1 [gm bD] 3 0) (sq (.block 0 (.loop (sq (sq (r1 [gm s3,gm s0,gl l1,aU l0 l2,gm l3,gmt 4 s0,gmt 4 s3,cE 4 (.ia 1 l5 l6),px 4 l7,gmt 4 s1,cE 4 (oD l8 l9),gp l4 l10] 4 11) (iN s4 0)) (.block 1 (r1 [gm s3,av l0 b9,gm l1] 3 2))))) (sq (sq (r1 [gm s3,gm s0,gl l1,aU l0 l2,gm l3,gmt 4 s0,gmt 4 s3,cE 4 (.ia 1 l5 l6),px 4 l7,gmt 4 s1,cE 4 (cP l8 l9),gp l4 l10] 5 11) (.cond s5 (sq (r1 [gm s0,gm l0] 2 1) .ret) .skip)) (sq (r2 [gm s0,gm s3,gn (.slA 1 l0 none (some l1)),gn (.appN 1 l2),gm s1,gn (.bsl 1 (.str []) 1 [(0,l4)]),gn (.app 1 l3 l5),gm s0,gm s3,gn (.slA 1 l7 (some l8) none),gn (.app 1 l6 l9),gm l10] 2 11) .ret)))))⟩
def w483 {Γ:Ctx}(hm:(Γ.at 0).bm)  (l:List ah)(s:ah)  (hp0:l.length≤1000):dS Γ Ei (.sl 1 ((dD l s).map D.str)) [.sl 1 (l.map D.str),.str s]:=by
 show bx _ _ _ [⟨_,_⟩,⟨_,_⟩,_,_,_,_] _;refine ak ?_;refine aR ?_;refine bq hm (ι:=Nat) (fun i=>[⟨true,.sl 1 (l.map D.str)⟩,⟨true,.str s⟩,.un,⟨true,.int .i64 (i:Nat)⟩,.un,.un]) (fun i=>[]) 2 (fun i=>i≤gQ s l) (fun i=>l.length-i) 0 (Nat.zero_le _) (ef []) ?_;rintro i hi;have hpl:=wB s l;refine aR ?_;intro u0;refine aA ?_;refine cD i ?_;refine ca (v:=.str l[i]!) ?_;refine aA ?_;refine aq (fun hc0=>?_) (fun hc0=>?_)
 ·simp only[Bool.and_eq_true,decide_eq_true_eq]at hc0;have hip:i+1≤gQ s l:=by
   by_cases he:i=gQ s l
   ·have h1:=qc s l (by omega);rw[←he,hc0.2]at h1;cases h1
   ·omega
  refine dh ?_;exact⟨i+1,(by omega),by omega,(ef [])⟩
 simp only[Bool.and_eq_false_iff,decide_eq_false_iff_not]at hc0;obtain rfl:i=gQ s l:=by
  by_cases he:i<gQ s l
  ·have h1:=wC s l i he;rcases hc0 with h|h
   ·omega
   ·rw[h1]at h;cases h
  ·omega
 refine ba ?_;intro u1;refine aA ?_;refine cD (gQ s l) ?_;refine ca (v:=.str l[gQ s l]!) ?_;refine aA ?_;refine cF (fun hc1=>?_) fun hc1=>?_
 ·refine aT ?_;refine bX (?_);rw[dD,if_pos ⟨by omega,hc1.2⟩];rfl
 refine aA ?_;refine td (gQ s l) ?_;refine Hn (he:=qR.sl) (n:=(l.take (gQ s l)).length) (hn:=by simp) (hb:=by simp only[List.length_take];omega) ?_;refine ax ?_;refine ct [.str s] ?_;refine iH (q:=D.str) (xs:=l.take (gQ s l)) (e:=s) (hb:=by simp only[List.length_take];omega) ?_;refine ay ?_;refine te (gQ s l) ?_;refine JT (xs:=l.take (gQ s l)++[s]) (ys:=l.drop (gQ s l)) (he:=qR.sl) (hb:=by simp only[List.length_append,List.length_take,List.length_drop,List.length_cons,List.length_nil];omega) ?_;refine ay ?_;refine ee 36 ?_;refine ax ?_;refine bX (?_);rw[dD,if_neg (by rintro⟨h1,h2⟩;rcases hc1 with h|h;omega;exact h h2)];rfl
def Lh (Γ:Ctx):Prop:=∀(l:List ah)(s:ah),(l.length≤1000)→Γ.pre 483 [.sl 1 (l.map D.str),.str s]∧Γ.val 483 [.sl 1 (l.map D.str),.str s]=.sl 1 ((dD l s).map D.str)
end Go.Abs
end
section
namespace Go.Abs
open Go
def tY:aB:=⟨3,18,[⟨3,none⟩],[[.sl 2 [.a,.sl 1 [.a]]]],(sq (rg [gb 9 s2,gm (.c (.au))] [(10,0),(3,1)]) (sq (r1 [gm (.c (.au))] 17 0) (sq (r1 [gn (.build [.str [],.str [],.str [],.str []] [(0,1,(cs [100,101,102,97,117,108,116])),(1,1,(cs [120])),(2,1,(cs [121])),(3,1,(cs [122]))]),gb 4 (.c (.agg [.str [],.str [],.str [],.str []])),gt 4 l1 l0] 8 1) (sq (sq (r1 [gm bD] 4 0) (.block 0 (.loop (sq (sq (r1 [gm s4,aU l0 tJ] 5 1) (iN s5 0)) (sq (.block 1 (sq (r1 [gm s0,gm s1,gm s4,av l1 l2,gx 479 [l0,l3] [[.sl 1 [.a]],[.a]],gm l4] 6 5) (sq (sq (r1 [gm s6,gx 478 [l0,j7] iz,aE l1 bD] 7 2) (.cond s7 (.exit 1) .skip)) (sq (r1 [gm s4,gn (.iaP 4 1 s8 l0),gd l1,gn (.build [.str [],.au] [(0,1,l2)]),gb 2 (.c (.agg [.str [],.au])),gt 2 l4 l3] 14 4) (sq (sq (r1 [gm bD] 9 0) (.block 2 (.loop (sq (sq (r1 [gm s9,gf 6 lx,gd l1,gl l2,aU l0 l3,gm l4,gmt 5 s9,cE 5 (oD l6 kn),gp l5 l7] 11 8) (iN oz 2)) (sq (.block 3 (sq (r1 [gf 6 lx,gd l0,gm s9,ga 3 l1 l2,gk 3 true l3,gb 3 (.c (.agg [.au,.str [],.str []])),gt 3 l5 l4] 12 5) (sq (sq (r1 [gf 2 m8,gd l0,cl l1 cse,gm l2,gmt 3 s6,gmt 3 s9,cE 3 (AJ j7 l5),cE 3 (.cvi .u64 l6),cE 3 (.bin .shr l4 l7),cE 3 (Dw l8 b9),cE 3 (cP l9 b9),gp l3 l10] 13 11) (.cond tn (rg [gf 1 rS,gd l0,gf 2 m8,gd l2,av (cs [63]) l3,gx 483 [l1,l4] [[.sl 1 [.a]],[.a]],gf 1 rS,gt 1 l6 l5] []) .skip)) (sq (r1 [gf 0 m8,gd l0,gl l1,aE l2 b9,gm l3,gmt 4 s6,gmt 4 s9,cE 4 (AJ AZ l6),cE 4 (.cvi .u64 l7),cE 4 (.bin .shr l5 l8),cE 4 (Dw l9 b9),cE 4 (cP l10 b9),gp l4 jK] 15 12) (.cond vc (rt [gf 1 rS,gd l0,gf 0 m8,gd l2,ga 4 l3 bD,gf 0 l4,gd l5,av l6 (cs [47]),av l7 (cs [120]),gx 483 [l1,l8] [[.sl 1 [.a]],[.a]],gf 1 rS,gt 1 l10 l9] []) .skip))))) (r1 [gm s9,av l0 b9,gm l1] 9 2)))))) (sq (sq (r1 [gm s4,aU l0 j7,gm l1,gmt 2 s6,cE 2 (.bin .shr l3 (iu 7)),cE 2 (Dw l4 b9),cE 2 (cP l5 b9),gp l2 l6,gm l7,gmt 8 s0,gmt 8 s1,gmt 8 s4,cE 8 (AJ l10 jK),cE 8 (AJ lu b9),cE 8 (.call 479 [l9,nu] [[.sl 1 [.a]],[.a]]),cE 8 (.call 478 [n7,j7] iz),cE 8 (eJ oY bD),gp l8 q9] 16 17) (.cond Bn (rt [gf 1 rS,gd l0,gm s4,av l2 b9,gn (.iaP 4 1 s8 l3),gd l4,gx 483 [l1,l5] [[.sl 1 [.a]],[.a]],gf 1 rS,gt 1 l7 l6] []) .skip)) (r1 [gm wY,gk 2 true rS,gn (.bsl 2 (.agg [.str [],.au]) 1 [(0,l1)]),gn (.app 2 l0 l2),gm l3] 17 4))))))) (r1 [gm s4,av l0 b9,gm l1] 4 2)))))) (sq (r1 [gm wY,gm l0] 3 1) .ret)))))⟩
def w232 {Γ:Ctx}(hm:(Γ.at 0).bm)(h478:Dj Γ)(h479:FX Γ)(h483:Lh Γ)(l:List Int)(i:Int)(r:Rec)  (hp0:0≤i∧i≤2000000)(hp1:∀j:Nat,j<r.needs.length→r.needs[j]!.option.length≤100∧(r.needs[j]!.any.length=1→r.needs[j]!.any[0]!.name.length≤100)):dS Γ tY (.sl 2 ((fj l i r).map bp.D)) [.sl 1 (l.map (D.int .i64)),.int .i64 i,Rec.D r]:=by
 show bx _ _ _ [⟨_,_⟩,⟨_,_⟩,⟨_,_⟩,_,_,_,_,_,_,_,_,_,_,_,_,_,_,_] _;refine ak ?_;refine ba ?_;refine eI (je.map D.str) ?_;refine ax ?_;refine aF (.agg (je.map D.str)) (he:=by exact rfl) ?_;refine aR ?_;refine bq hm (ι:=(Nat×List bp)) (fun p=>[⟨true,.sl 1 (l.map (D.int .i64))⟩,⟨true,.int .i64 i⟩,.un,.un,⟨true,.int .i64 (p.1:Nat)⟩,.un,.un,.un,⟨true,.ptr 4 4 0 0⟩,.un,⟨true,.ptr 0 9 0 0⟩,.un,.un,.un,.un,.un,.un,⟨true,.own 1 2 0 p.2.length⟩]) (fun p=>[(0,.buf 9 [Rec.D r]),(4,.buf 4 [.agg (je.map D.str)]),(1,.buf 2 (p.2.map bp.D))]) 30 (fun p=>p.1≤4∧p.2=DX l i r p.1) (fun p=>4-p.1) (0,[]) ⟨by dsimp only;omega,rfl⟩ (aL.to [(0,0),(4,4)] ae ae (by repeat(first|exact cV.nil|refine cV.un ?_|refine cV.eq ae ?_|refine cV.ni (Or.inr ⟨_,_,_,rfl⟩) ?_)) (by refine aC.cZ ae ae bT ?_;refine aC.cZ ae ae bT ?_;refine aC.mt ae ae ae ae ?_;exact aC.nil)) ?_;rintro⟨k,fs⟩ ⟨hk,hf⟩;dsimp only at hk hf⊢;have hfl:fs.length≤k:=by
  rw[hf];unfold DX;exact Nat.le_trans (List.length_filterMap_le _ _) (by simp)
 refine aR ?_;refine aq (fun hc0=>?_) (fun hc0=>?_)
 ·try simp only[hO]at hc0
  refine ba ?_;refine aj (hc:=h479 l (i+(k:Nat))) ?_;refine aR ?_;refine aj (hc:=h478 _ 3 (by decide)) ?_;refine ay ?_;refine cF (fun hc1=>?_) fun hc1=>?_
  ·refine b6 ?_;exact⟨(k+1,fs),⟨by dsimp only;omega,by dsimp only;rw[hf,Jm hc1]⟩,by dsimp only;omega,(aL.to [(0,0),(4,4),(1,1)] ae ae kV (by refine aC.cZ ae ae bT ?_;refine aC.cZ ae ae bT ?_;refine aC.cZ ae ae bT ?_;exact aC.nil))⟩
  refine az ?_;refine wD k (hb:=fun _=>by omega) ?_;refine ch (v:=.str je[k]!) (hv:=fun _=>zP je (by show _<4;omega) rfl) (ho:=by omega) ?_;refine br (.agg [.str je[k]!,.au]) ?_;refine ax ?_;refine aF (.agg [.str je[k]!,.au]) (he:=by exact rfl) ?_;refine ax ?_;refine lA [(0,.buf 9 [Rec.D r]),(4,.buf 4 [.agg (je.map D.str)]),(1,.buf 2 (fs.map bp.D)),(45,.buf 2 [(.agg [.str je[k]!,.sl 1 ((([]:List ah)).map D.str)])])] (.id ae (.id ae (.id ae (.bf ae (.cons (.ag (.cons (.refl _) (.cons (.nil 1) .nil))) .nil) .nil)))) ?_;refine aA ?_;refine bq hm (ι:=(Nat×List ah)) (fun p=>[⟨true,.sl 1 (l.map (D.int .i64))⟩,⟨true,.int .i64 i⟩,.un,.un,⟨true,.int .i64 (k:Nat)⟩,.un,⟨true,.int .i64 (fL l (i+(k:Nat)))⟩,.un,⟨true,.ptr 4 4 0 0⟩,⟨true,.int .i64 (p.1:Nat)⟩,⟨true,.ptr 0 9 0 0⟩,.un,.un,.un,⟨true,.ptr 2 2 0 0⟩,.un,.un,⟨true,.own 1 2 0 fs.length⟩]) (fun p=>[(0,.buf 9 [Rec.D r]),(4,.buf 4 [.agg (je.map D.str)]),(1,.buf 2 (fs.map bp.D)),(2,.buf 2 [.agg [.str je[k]!,.sl 1 (p.2.map D.str)]])]) 60 (fun p=>p.1≤min r.needs.length 2∧p.2=lh r (fL l (i+(k:Nat))) p.1) (fun p=>2-p.1) (0,[]) ⟨by dsimp only;omega,rfl⟩ (aL.to [(0,0),(4,4),(1,1),(45,2)] ae ae kV (by refine aC.cZ ae ae bT ?_;refine aC.cZ ae ae bT ?_;refine aC.cZ ae ae bT ?_;refine aC.nl 45 ae ae rfl ae ?_;exact aC.nil)) ?_;rintro⟨j,of⟩ ⟨hj,ho⟩;dsimp only at hj ho⊢;have hol:of.length≤4:=by
   have:=wc r (fL l (i+(k:Nat))) j;rw[ho];omega
  refine aA ?_;refine ch (v:=.sl 3 (r.needs.map bg.D)) ?_;refine ax ?_;intro u0;refine aT ?_;refine aq (fun hc2=>?_) (fun hc2=>?_)
  ·simp only[Bool.and_eq_true,decide_eq_true_eq]at hc2;obtain⟨hpo,hpn⟩:=hp1 j (by omega);refine aA ?_;refine ch (v:=.sl 3 (r.needs.map bg.D)) ?_;refine ax ?_;refine cD j (hb:=fun _=>by omega) ?_;refine ca (v:=bg.D r.needs[j]!) (hi:=fun _=>by omega) ?_;refine ax ?_;refine aF (bg.D r.needs[j]!) (he:=by exact rfl) ?_;refine iT ?_;refine nI (3+(j:Nat)) (hb:=fun _=>by rw[IntKind.wrap_u64];omega) ?_;refine uW _ (hb:=fun _=>rfl) ?_;refine tc (zn (fL l (i+(k:Nat))) (3+(j:Nat))) (hb:=fun _=>rfl) ?_;refine az ?_;refine cF (fun hc3=>?_) fun hc3=>?_
   ·refine ay ?_;refine ch (v:=.sl 1 (of.map D.str)) ?_;refine ax ?_;refine ch (v:=.str r.needs[j]!.option) ?_;refine cX (hb:=fun _=>by simp only[List.length_cons,List.length_nil];omega) ?_;refine aj (hc:=h483 of ([63]++r.needs[j]!.option) (by omega)) ?_;refine ax ?_;refine aF (.agg [.str je[k]!,.sl 1 ((dD of ([63]++r.needs[j]!.option)).map D.str)]) (he:=by exact rfl) ?_;refine aR ?_;intro u1;refine aR ?_;refine nI (5+(j:Nat)) (hb:=fun _=>by rw[IntKind.wrap_u64];omega) ?_;refine uW _ (hb:=fun _=>rfl) ?_;refine tc (zn (fL l (i+(k:Nat))) (5+(j:Nat))) (hb:=fun _=>rfl) ?_;refine az ?_;refine fQ (fun hc4=>?_) fun hc4=>?_
    ·refine ax ?_;have hpl:=mw of ([63]++r.needs[j]!.option);refine ax ?_;refine ch (v:=.sl 1 (((dD of ([63]++r.needs[j]!.option))).map D.str)) ?_;refine ax ?_;refine ch (v:=.sl 4 (r.needs[j]!.any.map bz.D)) ?_;refine cD 0 (hb:=fun _=>by omega) ?_;refine ax ?_;refine ca (v:=.str r.needs[j]!.any[0]!.name) (hi:=fun _=>by omega) ?_;refine cX (hb:=fun _=>by have:=hpn (by omega);simp only[List.length_cons,List.length_nil];omega) ?_;refine cX (hb:=fun _=>by have:=hpn (by omega);simp only[List.length_append,List.length_cons,List.length_nil];omega) ?_;refine aj (hc:=h483 (dD of ([63]++r.needs[j]!.option)) (r.needs[j]!.any[0]!.name++[47]++[120]) (by omega)) ?_;refine ax ?_;refine aF (.agg [.str je[k]!,.sl 1 ((dD (dD of ([63]++r.needs[j]!.option)) (r.needs[j]!.any[0]!.name++[47]++[120])).map D.str)]) (he:=by exact rfl) ?_;refine b6 ?_;have hA:DW r (fL l (i+(k:Nat))) of j=dD of ([63]++r.needs[j]!.option):=if_pos hc3;have hB:H0 r (fL l (i+(k:Nat))) (dD of ([63]++r.needs[j]!.option)) j=dD (dD of ([63]++r.needs[j]!.option)) (r.needs[j]!.any[0]!.name++[47]++[120]):=if_pos ⟨by omega,hc4.2⟩;have hJ:lh r (fL l (i+(k:Nat))) (j+1)=(dD (dD of ([63]++r.needs[j]!.option)) (r.needs[j]!.any[0]!.name++[47]++[120])):=by rw[kg,H2,←ho,hA,hB]
     exact⟨(j+1,(dD (dD of ([63]++r.needs[j]!.option)) (r.needs[j]!.any[0]!.name++[47]++[120]))),⟨by dsimp only;omega,hJ.symm⟩,by dsimp only;omega,(aL.to [(0,0),(4,4),(1,1),(2,2)] ae ae kV (by refine aC.cZ ae ae bT ?_;refine aC.cZ ae ae bT ?_;refine aC.cZ ae ae bT ?_;refine aC.cZ ae ae bT ?_;exact aC.nil))⟩
    refine b6 ?_;have hA:DW r (fL l (i+(k:Nat))) of j=dD of ([63]++r.needs[j]!.option):=if_pos hc3;have hB:H0 r (fL l (i+(k:Nat))) (dD of ([63]++r.needs[j]!.option)) j=(dD of ([63]++r.needs[j]!.option)):=if_neg (by rintro⟨h1,h2⟩;rcases hc4 with h|h;omega;exact h h2);have hJ:lh r (fL l (i+(k:Nat))) (j+1)=(dD of ([63]++r.needs[j]!.option)):=by rw[kg,H2,←ho,hA,hB]
    exact⟨(j+1,(dD of ([63]++r.needs[j]!.option))),⟨by dsimp only;omega,hJ.symm⟩,by dsimp only;omega,(aL.to [(0,0),(4,4),(1,1),(2,2)] ae ae kV (by refine aC.cZ ae ae bT ?_;refine aC.cZ ae ae bT ?_;refine aC.cZ ae ae bT ?_;refine aC.cZ ae ae bT ?_;exact aC.nil))⟩
   refine aR ?_;intro u1;refine aR ?_;refine nI (5+(j:Nat)) (hb:=fun _=>by rw[IntKind.wrap_u64];omega) ?_;refine uW _ (hb:=fun _=>rfl) ?_;refine tc (zn (fL l (i+(k:Nat))) (5+(j:Nat))) (hb:=fun _=>rfl) ?_;refine az ?_;refine fQ (fun hc4=>?_) fun hc4=>?_
   ·refine ax ?_;have hpl:=mw of ([63]++r.needs[j]!.option);refine ax ?_;refine ch (v:=.sl 1 ((of).map D.str)) ?_;refine ax ?_;refine ch (v:=.sl 4 (r.needs[j]!.any.map bz.D)) ?_;refine cD 0 (hb:=fun _=>by omega) ?_;refine ax ?_;refine ca (v:=.str r.needs[j]!.any[0]!.name) (hi:=fun _=>by omega) ?_;refine cX (hb:=fun _=>by have:=hpn (by omega);simp only[List.length_cons,List.length_nil];omega) ?_;refine cX (hb:=fun _=>by have:=hpn (by omega);simp only[List.length_append,List.length_cons,List.length_nil];omega) ?_;refine aj (hc:=h483 of (r.needs[j]!.any[0]!.name++[47]++[120]) (by omega)) ?_;refine ax ?_;refine aF (.agg [.str je[k]!,.sl 1 ((dD of (r.needs[j]!.any[0]!.name++[47]++[120])).map D.str)]) (he:=by exact rfl) ?_;refine b6 ?_;have hA:DW r (fL l (i+(k:Nat))) of j=of:=if_neg (by rintro⟨h1,h2⟩;rcases hc3 with h|h;exact h1 h;exact h h2);have hB:H0 r (fL l (i+(k:Nat))) of j=dD of (r.needs[j]!.any[0]!.name++[47]++[120]):=if_pos ⟨by omega,hc4.2⟩;have hJ:lh r (fL l (i+(k:Nat))) (j+1)=(dD of (r.needs[j]!.any[0]!.name++[47]++[120])):=by rw[kg,H2,←ho,hA,hB]
    exact⟨(j+1,(dD of (r.needs[j]!.any[0]!.name++[47]++[120]))),⟨by dsimp only;omega,hJ.symm⟩,by dsimp only;omega,(aL.to [(0,0),(4,4),(1,1),(2,2)] ae ae kV (by refine aC.cZ ae ae bT ?_;refine aC.cZ ae ae bT ?_;refine aC.cZ ae ae bT ?_;refine aC.cZ ae ae bT ?_;exact aC.nil))⟩
   refine b6 ?_;have hA:DW r (fL l (i+(k:Nat))) of j=of:=if_neg (by rintro⟨h1,h2⟩;rcases hc3 with h|h;exact h1 h;exact h h2);have hB:H0 r (fL l (i+(k:Nat))) of j=of:=if_neg (by rintro⟨h1,h2⟩;rcases hc4 with h|h;omega;exact h h2);have hJ:lh r (fL l (i+(k:Nat))) (j+1)=of:=by rw[kg,H2,←ho,hA,hB]
   exact⟨(j+1,of),⟨by dsimp only;omega,hJ.symm⟩,by dsimp only;omega,(aL.to [(0,0),(4,4),(1,1),(2,2)] ae ae kV (by refine aC.cZ ae ae bT ?_;refine aC.cZ ae ae bT ?_;refine aC.cZ ae ae bT ?_;refine aC.cZ ae ae bT ?_;exact aC.nil))⟩
  simp only[Bool.and_eq_false_iff,decide_eq_false_iff_not]at hc2;obtain rfl:j=min r.needs.length 2:=by omega
  subst ho;refine b6 ?_;refine uW _ (hb:=fun _=>rfl) ?_;refine tc (zn (fL l (i+(k:Nat))) 7) (hb:=fun _=>rfl) ?_;refine b6 ?_;refine en (hc:=fun hf=>h479 l (i+(k:Nat)+1)) ?_;refine en (hc:=fun hf=>h478 _ 3 (by decide)) ?_;refine az ?_;refine cF (fun hc5=>?_) fun hc5=>?_
  ·refine ay ?_;refine ch (v:=.sl 1 ((lh r (fL l (i+(k:Nat))) (min r.needs.length 2)).map D.str)) ?_;refine ay ?_;refine wD (k+1) (hb:=fun _=>by omega) ?_;refine ch (v:=.str je[k+1]!) (hv:=fun _=>zP je (by show _<4;omega) rfl) (ho:=by omega) ?_;refine aj (hc:=h483 (lh r (fL l (i+(k:Nat))) (min r.needs.length 2)) je[k+1]! (by omega)) ?_;refine ax ?_;refine aF (.agg [.str je[k]!,.sl 1 ((dD (lh r (fL l (i+(k:Nat))) (min r.needs.length 2)) je[k+1]!).map D.str)]) (he:=by exact rfl) ?_;refine az ?_;refine cy (d:=bp.D ⟨je[k]!,dD (lh r (fL l (i+(k:Nat))) (min r.needs.length 2)) je[k+1]!⟩) ?_;refine ct [bp.D ⟨je[k]!,dD (lh r (fL l (i+(k:Nat))) (min r.needs.length 2)) je[k+1]!⟩] ?_;refine iH (q:=bp.D) (xs:=fs) (e:=⟨je[k]!,dD (lh r (fL l (i+(k:Nat))) (min r.needs.length 2)) je[k+1]!⟩) ?_;refine dh ?_;have hC:Gy l i (fL l (i+(k:Nat))) k (lh r (fL l (i+(k:Nat))) (min r.needs.length 2))=dD (lh r (fL l (i+(k:Nat))) (min r.needs.length 2)) je[k+1]! :=if_pos ⟨⟨by omega,hc5.1.2⟩,by rw[show i+(k:Nat)+1=i+(k:Int)+1 by omega];exact hc5.2⟩;exact⟨(k+1,fs++[⟨je[k]!,dD (lh r (fL l (i+(k:Nat))) (min r.needs.length 2)) je[k+1]!⟩]),⟨by dsimp only;omega,by dsimp only;rw[hf];exact(AV hc1 hC).symm⟩,by dsimp only;omega,(aL.to [(0,0),(4,4),(99,1)] ae ae (by repeat(first|exact cV.nil|refine cV.un ?_|refine cV.eq ae ?_|refine cV.ni (Or.inr ⟨_,_,_,rfl⟩) ?_)) (by refine aC.cZ ae ae bT ?_;refine aC.cZ ae ae bT ?_;refine aC.nl 99 ae ae rfl (bn (fun _=>rfl) _) ?_;exact aC.nil))⟩
  refine az ?_;refine cy (d:=bp.D ⟨je[k]!,(lh r (fL l (i+(k:Nat))) (min r.needs.length 2))⟩) ?_;refine ct [bp.D ⟨je[k]!,(lh r (fL l (i+(k:Nat))) (min r.needs.length 2))⟩] ?_;refine iH (q:=bp.D) (xs:=fs) (e:=⟨je[k]!,(lh r (fL l (i+(k:Nat))) (min r.needs.length 2))⟩) ?_;refine dh ?_;have hC:Gy l i (fL l (i+(k:Nat))) k (lh r (fL l (i+(k:Nat))) (min r.needs.length 2))=(lh r (fL l (i+(k:Nat))) (min r.needs.length 2)):=if_neg (by rintro⟨⟨h1,h2⟩,h3⟩;rcases hc5 with(h|h)|h;omega;exact h h2;exact h3 h);exact⟨(k+1,fs++[⟨je[k]!,(lh r (fL l (i+(k:Nat))) (min r.needs.length 2))⟩]),⟨by dsimp only;omega,by dsimp only;rw[hf];exact(AV hc1 hC).symm⟩,by dsimp only;omega,(aL.to [(0,0),(4,4),(90,1)] ae ae (by repeat(first|exact cV.nil|refine cV.un ?_|refine cV.eq ae ?_|refine cV.ni (Or.inr ⟨_,_,_,rfl⟩) ?_)) (by refine aC.cZ ae ae bT ?_;refine aC.cZ ae ae bT ?_;refine aC.nl 90 ae ae rfl (bn (fun _=>rfl) _) ?_;exact aC.nil))⟩
 simp only[decide_eq_false_iff_not]at hc0;obtain rfl:k=4:=by omega
 refine aT ?_;refine ee 1 ?_;refine ax ?_;refine bX (?_);rw[hf];rfl
def KR (Γ:Ctx):Prop:=∀(l:List Int)(i:Int)(r:Rec),(0≤i∧i≤2000000)→(∀j:Nat,j<r.needs.length→r.needs[j]!.option.length≤100∧(r.needs[j]!.any.length=1→r.needs[j]!.any[0]!.name.length≤100))→Γ.pre 232 [.sl 1 (l.map (D.int .i64)),.int .i64 i,Rec.D r]∧Γ.val 232 [.sl 1 (l.map (D.int .i64)),.int .i64 i,Rec.D r]=.sl 2 ((fj l i r).map bp.D)
end Go.Abs
end
