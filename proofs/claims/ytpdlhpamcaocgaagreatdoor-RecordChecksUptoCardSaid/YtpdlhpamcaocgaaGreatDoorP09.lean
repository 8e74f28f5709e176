/- A part of the proofs of the statements: X14, RSpec16, X15, RSpec17, W1, W4, X16, RSpec18, Y1, RSpec19, LAsmS, LInj, Y2, Y3, RSpec20, Y4, RSpec21, LAsmT, W2, W3, X3, X4, X5, X6, Y5. -/
import Derived.Test.YtpdlhpamcaocgaaGreatDoorP08
set_option linter.all false
set_option maxRecDepth 4000
section
namespace Go.Abs
open Go
def gN:az:=⟨1,12,[⟨1,some (3,true)⟩],[[.sl 4 [.a,.a,.sl 1 [.a],.a],.a,.a]],(sq (r1 [gb 3 (.c (.agg [.aF,.str [],.str []]))] 1 0) (sq (r1 [gb 3 (.c (.agg [.aF,.str [],.str []]))] 8 0) (sq (.block 0 (.loop (.block 1 (sq (rg [gm s0,gn (.callF 465 l0 [(cs [97,110,121]),GA,mX] Hs),gm l1,ge l2 0,ge l2 1,gm l3,gm l4] [(4,5),(2,6)]) (sq (sq (r1 [gm s2,iR l0] 3 1) (.cond s3 (.exit 0) .skip)) (sq (sq (r1 [gm s4,ga 1 l0 kr,gd l1,bZ l2 (cs [98,97,114,101]),gm l3,gmt 4 s4,bR 4 (.ia 1 l5 kr),jC 4 l6,bR 4 (eF l7 (cs [102,117,108,108])),dG l4 l8] 5 9) (.cond s5 (sq (rg [gm s0,gc l0,gf 1 l1,gd l2,dN l3 bV,gc l0,gf 1 l5,gt 1 l6 l4] []) (.exit 0)) .skip)) (sq (r2 [gm s4,ga 1 l0 bV,gd l1,gm s4,ga 1 l3 tl,gd l4,gm s4,ga 1 l6 kr,gd l7,aH l8 (cs [98,97,114,101]),gn (.build [.str [],.str [],.aF,.bool false] [(0,1,l2),(1,1,l5),(3,1,l9)]),gb 4 (.c (.agg [.str [],.str [],.aF,.bool false])),gt 4 gh l10] 7 11) (sq (sq (r1 [gm s4,ga 1 l0 lM,gd l1,bZ l2 (cs [45])] 6 3) (.cond s6 (rg [gm s4,ga 1 l0 lM,gd l1,gx 124 [l2,(cs [44])] gL,gf 2 s7,gt 1 l4 l3] []) .skip)) (rg [gf 0 s8,gd l0,gk 4 true s7,gn (.bsl 4 (.agg [.str [],.str [],.aF,.bool false]) 1 [(0,l2)]),gn (.app 4 l1 l3),gf 0 s8,gt 1 l5 l4] []))))))))) (sq (rg [gm s0,gn (.callF 468 l0 [] []),gf 1 s8,gt 1 l2 l1] []) (sq (sq (rg [gm s0,gn (.callF 465 l0 [(cs [111,112,116,105,111,110]),lM,cH] Hs),gm l1,ge l2 0,ge l2 1,gm l3,gm l4] [(11,5),(9,6)]) (sq (r1 [gm s9] 10 0) (.cond jR (rg [gm lf,ga 1 l0 bV,gd l1,gf 2 s8,gt 1 l3 l2] []) .skip))) (sq (rg [gk 3 true s8,gt 3 s1 l0] []) .ret))))))⟩
def xU {Γ:Ctx}(h:GS Γ){r:Ld}(hr:r.sm){p:List ah}(hp:p<:+r.ls):Γ.fp 468 (Ld.D (r.to p)) []∧Γ.fv 468 (Ld.D (r.to p)) []=.str (bH p).1∧Γ.fs 468 (Ld.D (r.to p)) []=Ld.D (r.to (bH p).2):=by
 have:=h (r.to p) (hr.to p);rw[Ld.sI hp]at this;exact this
def w467 {Γ:Ctx}(hm:(Γ.at 1).aY)(h124:Eh (Γ.at 1))(h465:GR (Γ.at 1))(h468:GS (Γ.at 1))(r:Ld)  (hp0:r.sm):bq (Γ.at 1) gN.body (CH gN 2 (bF.D (dw r.rest).1) (Ld.D (r.to (dw r.rest).2)):Ex→List bm→St→Prop) (ei gN (.ptr 0 2 0 0::[])) ⟨1,[(0,.buf 2 [(Ld.D r)])]⟩:=by
 show bq _ _ _ [⟨true,.ptr 0 2 0 0⟩,.un,.un,.un,.un,.un,.un,.un,.un,.un,.un,.un] ⟨1,[(0,.buf 2 [(Ld.D r)])]⟩;have hself:=Ld.xN hp0;have hq0:=r.ue;refine ai ?_;refine aI ?_;refine aV hm (ι:=(List bN×List ah)) (fun p=>[⟨true,.ptr 0 2 0 0⟩,⟨true,.ptr 1 3 0 0⟩,.un,.un,.un,.un,.un,.un,⟨true,.ptr 2 3 0 0⟩,.un,.un,.un]) (fun p=>[(0,.buf 2 [Ld.D (r.to p.2)]),(1,.buf 3 [.agg [.aF,.str [],.str []]]),(2,.buf 3 [.agg [.own 3 4 0 (p.1).length,.str [],.str []]]),(3,.buf 4 (p.1.map bN.N))]) 10 (fun p=>p.2<:+r.ls∧p.1.length+p.2.length≤r.ls.length∧cv r.rest=(p.1++(cv p.2).1,(cv p.2).2)) (fun p=>p.2.length) ([],r.rest) ⟨hq0,by simpa using hq0.length_le,by simp⟩ (aT.to [(1,1),(2,2)] ae ae c8 (by refine aL.nl 0 ae ae (by rw[hself]) ae ?_;refine aL.eG ae ae ae ?_;refine aL.ni 2 ae ae (by exact⟨_,_,rfl,⟨_,rfl,⟨_,_,rfl,Or.inr ⟨_,_,_,rfl⟩,⟨_,_,rfl,⟨rfl,rfl⟩,⟨_,_,rfl,⟨rfl,rfl⟩,rfl⟩⟩⟩⟩,rfl⟩) ?_;refine aL.mt ae ae ae ae ?_;exact aL.nil)) ?_;rintro⟨A,p⟩ ⟨hq1,hlen,hw⟩;dsimp only at hq1 hlen hw⊢;have hll:=hp0.1.2;refine av ?_;refine j3 (hc:=sC h465 hp0 (p:=p) hq1 (w:=jz) (n:=5) (op:=true) (by decide) (by decide)) ?_;refine aC ?_;refine eS _ ?_;refine cB ?_;refine aq (fun hc0=>?_) (fun hc0=>?_)
 ·simp only[Bool.not_eq_true']at hc0;have hq:=ik hc0;have hnr:cW jz 5 true p=p:=by simp only[cW,hq]
  rw[hnr];have hw2:cv r.rest=(A,p):=by rw[hw,xW hq,List.append_nil]
  refine ax ?_;have hq3:=(gX p).trans hq1;refine aC ?_;refine j3 (hc:=xU h468 hp0 hq1) ?_;refine aC ?_;refine aR (.agg [.own 3 4 0 A.length,.str (bH p).1,.str []]) (he:=by exact rfl) ?_;refine ax ?_;refine j3 (hc:=sC h465 hp0 (p:=(bH p).2) hq3 (w:=dW) (n:=2) (op:=false) (by decide) (by decide)) ?_;refine aC ?_;refine eS _ ?_;refine bt ?_;refine ca (fun hc3=>?_) fun hc3=>?_
  ·refine aC ?_;obtain⟨⟨l,q2⟩,hq⟩:=il hc3;have hnr:cW dW 2 false (bH p).2=q2:=by simp only[cW,hq]
   obtain⟨hl,hlm,hq2,hqp⟩:=k9 hp0 hq3 hq;rw[hnr,hq];obtain hl:l.length=2:=by rcases hl with h|h;cases h;exact h
   refine aC ?_;refine bO 1 (hb:=fun _=>by omega) ?_;refine bQ (v:=.str l[1]!) (hi:=fun _=>by omega) ?_;refine aC ?_;refine aR (.agg [.own 3 4 0 A.length,.str (bH p).1,.str l[1]!]) (he:=by exact rfl) ?_;refine aC ?_;have hnp:dw r.rest=(⟨A,(bH p).1,l[1]!⟩,q2):=by simp only[dw,hw2,qK,hq]
   rw[hnp];refine fM 3 (hn:=bX bN.mc _) (he:=by simp only[lF,gZ,kO,mn,ny,cd,Nat.reduceEqDiff,if_true,if_false,and_self,true_and,and_true,false_and,and_false,Nat.zero_add,List.length_map,Nat.le_refl,List.drop_zero,aP,reduceCtorEq,List.length_cons,List.length_nil,Nat.reduceAdd,Nat.reduceLeDiff,Ld.D];exact rfl) (hm:=by simp only[lF,gZ,kO,mn,ny,cd,Nat.reduceEqDiff,if_true,if_false,and_self,true_and,and_true,false_and,and_false,Nat.zero_add,List.length_map,Nat.le_refl,List.drop_zero,aP,reduceCtorEq,List.length_cons,List.length_nil,Nat.reduceAdd,Nat.reduceLeDiff,Ld.D];exact rfl) ?_;refine qi [(0,.buf 2 [Ld.D (r.to q2)]),(1,.buf 3 [.agg [.aF,.str [],.str []]]),(2,.buf 3 [bF.D ⟨A,(bH p).1,l[1]!⟩])] (.id ae (.id ae (.bf ae (.cons (.ag (.cons (.ss (.map fun x _=>x.wk)) (.rf _))) .nil) .nil))) ?_;refine aC ?_;refine cM (d:=bF.D ⟨A,(bH p).1,l[1]!⟩) ?_;refine aR (bF.D ⟨A,(bH p).1,l[1]!⟩) (he:=by exact rfl) ?_;refine au ?_;refine eL trivial sg (Eq.trans ae (?_)) ae ae ae;rfl
  refine aC ?_;have hq:=ik hc3;have hnr:cW dW 2 false (bH p).2=(bH p).2:=by simp only[cW,hq]
  rw[hnr];have hnp:dw r.rest=(⟨A,(bH p).1,[]⟩,(bH p).2):=by simp only[dw,hw2,qK,hq]
  rw[hnp];refine fM 3 (hn:=bX bN.mc _) (he:=by simp only[lF,gZ,kO,mn,ny,cd,Nat.reduceEqDiff,if_true,if_false,and_self,true_and,and_true,false_and,and_false,Nat.zero_add,List.length_map,Nat.le_refl,List.drop_zero,aP,reduceCtorEq,List.length_cons,List.length_nil,Nat.reduceAdd,Nat.reduceLeDiff,Ld.D];exact rfl) (hm:=by simp only[lF,gZ,kO,mn,ny,cd,Nat.reduceEqDiff,if_true,if_false,and_self,true_and,and_true,false_and,and_false,Nat.zero_add,List.length_map,Nat.le_refl,List.drop_zero,aP,reduceCtorEq,List.length_cons,List.length_nil,Nat.reduceAdd,Nat.reduceLeDiff,Ld.D];exact rfl) ?_;refine qi [(0,.buf 2 [Ld.D (r.to (bH p).2)]),(1,.buf 3 [.agg [.aF,.str [],.str []]]),(2,.buf 3 [bF.D ⟨A,(bH p).1,[]⟩])] (.id ae (.id ae (.bf ae (.cons (.ag (.cons (.ss (.map fun x _=>x.wk)) (.rf _))) .nil) .nil))) ?_;refine aC ?_;refine cM (d:=bF.D ⟨A,(bH p).1,[]⟩) ?_;refine aR (bF.D ⟨A,(bH p).1,[]⟩) (he:=by exact rfl) ?_;refine au ?_;refine eL trivial sg (Eq.trans ae (?_)) ae ae ae;rfl
 simp only[Bool.not_eq_false']at hc0;obtain⟨⟨l,q2⟩,hq⟩:=il hc0;have hnr:cW jz 5 true p=q2:=by simp only[cW,hq]
 obtain⟨hl,hlm,hq2,hqp⟩:=k9 hp0 hq1 hq;rw[hnr,hq];obtain hl:l.length=5:=by rcases hl with h|h;cases h;exact h
 refine ax ?_;refine bO 3 (hb:=fun _=>by omega) ?_;refine bQ (v:=.str l[3]!) (hi:=fun _=>by omega) ?_;refine av ?_;refine bO 3 (hb:=fun _=>by omega) ?_;refine bQ (v:=.str l[3]!) (hi:=fun _=>by omega) ?_;refine av ?_;refine aq (fun hc1=>?_) (fun hc1=>?_)
 ·simp only[Bool.and_eq_true,Bool.not_eq_true',decide_eq_false_iff_not]at hc1;have hho:ry l=false:=by unfold ry;rw[decide_eq_false (show ¬l[3]! =gB from hc1.1),decide_eq_false (show ¬l[3]! =kK from hc1.2)];rfl
  have hw2:cv r.rest=(A,p):=by rw[hw,Bp hq hho,List.append_nil]
  obtain⟨t,hpt,_⟩:=dC hq;refine au ?_;obtain⟨hab1,hab2⟩:=(hp0.to q2).1;refine av ?_;refine cX (v:=.int .i64 ((r.to q2).at':Nat)) ?_;refine av ?_;refine aR (Ld.D (r.to p)) (he:=by rw[hpt];exact Ld.back (hpt▸hq1)) ?_;refine aI ?_;have hq3:=(gX p).trans hq1;refine aC ?_;refine j3 (hc:=xU h468 hp0 hq1) ?_;refine aC ?_;refine aR (.agg [.own 3 4 0 A.length,.str (bH p).1,.str []]) (he:=by exact rfl) ?_;refine ax ?_;refine j3 (hc:=sC h465 hp0 (p:=(bH p).2) hq3 (w:=dW) (n:=2) (op:=false) (by decide) (by decide)) ?_;refine aC ?_;refine eS _ ?_;refine bt ?_;refine ca (fun hc3=>?_) fun hc3=>?_
  ·refine aC ?_;obtain⟨⟨l,q2⟩,hq⟩:=il hc3;have hnr:cW dW 2 false (bH p).2=q2:=by simp only[cW,hq]
   obtain⟨hl,hlm,hq2,hqp⟩:=k9 hp0 hq3 hq;rw[hnr,hq];obtain hl:l.length=2:=by rcases hl with h|h;cases h;exact h
   refine aC ?_;refine bO 1 (hb:=fun _=>by omega) ?_;refine bQ (v:=.str l[1]!) (hi:=fun _=>by omega) ?_;refine aC ?_;refine aR (.agg [.own 3 4 0 A.length,.str (bH p).1,.str l[1]!]) (he:=by exact rfl) ?_;refine aC ?_;have hnp:dw r.rest=(⟨A,(bH p).1,l[1]!⟩,q2):=by simp only[dw,hw2,qK,hq]
   rw[hnp];refine fM 3 (hn:=bX bN.mc _) (he:=by simp only[lF,gZ,kO,mn,ny,cd,Nat.reduceEqDiff,if_true,if_false,and_self,true_and,and_true,false_and,and_false,Nat.zero_add,List.length_map,Nat.le_refl,List.drop_zero,aP,reduceCtorEq,List.length_cons,List.length_nil,Nat.reduceAdd,Nat.reduceLeDiff,Ld.D];exact rfl) (hm:=by simp only[lF,gZ,kO,mn,ny,cd,Nat.reduceEqDiff,if_true,if_false,and_self,true_and,and_true,false_and,and_false,Nat.zero_add,List.length_map,Nat.le_refl,List.drop_zero,aP,reduceCtorEq,List.length_cons,List.length_nil,Nat.reduceAdd,Nat.reduceLeDiff,Ld.D];exact rfl) ?_;refine qi [(0,.buf 2 [Ld.D (r.to q2)]),(1,.buf 3 [.agg [.aF,.str [],.str []]]),(2,.buf 3 [bF.D ⟨A,(bH p).1,l[1]!⟩])] (.id ae (.id ae (.bf ae (.cons (.ag (.cons (.ss (.map fun x _=>x.wk)) (.rf _))) .nil) .nil))) ?_;refine aC ?_;refine cM (d:=bF.D ⟨A,(bH p).1,l[1]!⟩) ?_;refine aR (bF.D ⟨A,(bH p).1,l[1]!⟩) (he:=by exact rfl) ?_;refine au ?_;refine eL trivial sg (Eq.trans ae (?_)) ae ae ae;rfl
  refine aC ?_;have hq:=ik hc3;have hnr:cW dW 2 false (bH p).2=(bH p).2:=by simp only[cW,hq]
  rw[hnr];have hnp:dw r.rest=(⟨A,(bH p).1,[]⟩,(bH p).2):=by simp only[dw,hw2,qK,hq]
  rw[hnp];refine fM 3 (hn:=bX bN.mc _) (he:=by simp only[lF,gZ,kO,mn,ny,cd,Nat.reduceEqDiff,if_true,if_false,and_self,true_and,and_true,false_and,and_false,Nat.zero_add,List.length_map,Nat.le_refl,List.drop_zero,aP,reduceCtorEq,List.length_cons,List.length_nil,Nat.reduceAdd,Nat.reduceLeDiff,Ld.D];exact rfl) (hm:=by simp only[lF,gZ,kO,mn,ny,cd,Nat.reduceEqDiff,if_true,if_false,and_self,true_and,and_true,false_and,and_false,Nat.zero_add,List.length_map,Nat.le_refl,List.drop_zero,aP,reduceCtorEq,List.length_cons,List.length_nil,Nat.reduceAdd,Nat.reduceLeDiff,Ld.D];exact rfl) ?_;refine qi [(0,.buf 2 [Ld.D (r.to (bH p).2)]),(1,.buf 3 [.agg [.aF,.str [],.str []]]),(2,.buf 3 [bF.D ⟨A,(bH p).1,[]⟩])] (.id ae (.id ae (.bf ae (.cons (.ag (.cons (.ss (.map fun x _=>x.wk)) (.rf _))) .nil) .nil))) ?_;refine aC ?_;refine cM (d:=bF.D ⟨A,(bH p).1,[]⟩) ?_;refine aR (bF.D ⟨A,(bH p).1,[]⟩) (he:=by exact rfl) ?_;refine au ?_;refine eL trivial sg (Eq.trans ae (?_)) ae ae ae;rfl
 simp only[Bool.and_eq_false_iff,Bool.not_eq_false',decide_eq_true_eq]at hc1;have hho:ry l=true:=by
  unfold ry;rcases hc1 with h|h
  ·rw[decide_eq_true (show l[3]! =gB from h)];rfl
  ·rw[decide_eq_true (show l[3]! =kK from h),Bool.or_true]
 have hwy:=zQ hq hho;refine av ?_;refine bO 1 (hb:=fun _=>by omega) ?_;refine bQ (v:=.str l[1]!) (hi:=fun _=>by omega) ?_;refine aC ?_;refine bO 4 (hb:=fun _=>by omega) ?_;refine bQ (v:=.str l[4]!) (hi:=fun _=>by omega) ?_;refine aC ?_;refine bO 3 (hb:=fun _=>by omega) ?_;refine bQ (v:=.str l[3]!) (hi:=fun _=>by omega) ?_;refine aC ?_;refine bo (.agg [.str l[1]!,.str l[4]!,.aF,.bool (decide (l[3]! =gB))]) ?_;refine aC ?_;refine aR (.agg [.str l[1]!,.str l[4]!,.aF,.bool (decide (l[3]! =gB))]) (he:=by exact rfl) ?_;refine ax ?_;refine bO 2 (hb:=fun _=>by omega) ?_;refine bQ (v:=.str l[2]!) (hi:=fun _=>by omega) ?_;refine au ?_;refine ca (fun hc2=>?_) fun hc2=>?_
 ·refine au ?_;refine bO 2 (hb:=fun _=>by omega) ?_;refine bQ (v:=.str l[2]!) (hi:=fun _=>by omega) ?_;refine ak (hc:=h124 l[2]! 44 (hlm _ (bw (by omega)))) ?_;refine aC ?_;refine aR (bN.N (gr l)) (he:=by show _=D.agg [.str l[1]!,.str l[4]!,Kd (if l[2]! =[45]then []else aj l[2]! 44),.bool (decide (l[3]! =gB))];rw[if_neg hc2,Ke (ou _ _)];exact rfl) ?_;refine av ?_;refine cX (v:=.own 3 4 0 A.length) ?_;refine cM (d:=bN.N (gr l)) ?_;refine cF [bN.N (gr l)] ?_;refine nI (q:=bN.N) (xs:=A) (e:=gr l) ?_;refine aC ?_;refine aR (.agg [.own 56 4 0 (A++[gr l]).length,.str [],.str []]) (he:=by exact rfl) ?_;refine av ?_;exact⟨(A++[gr l],q2),⟨hq2,by simp only[List.length_append,List.length_cons,List.length_nil];omega,by rw[hw,hwy];simp⟩,by dsimp only;omega,(aT.to [(1,1),(2,2),(56,3)] ae ae c8 (by refine aL.eG ae ae ae ?_;refine aL.eG ae ae ae ?_;refine aL.eq 2 ae ae ae ?_;refine aL.nl 56 ae ae rfl (by exact bX bN.mc _) ?_;exact aL.nil))⟩
 refine au ?_;rw[show(D.agg [.str l[1]!,.str l[4]!,.aF,.bool (decide (l[3]! =gB))])=bN.N (gr l)by show _=D.agg [.str l[1]!,.str l[4]!,Kd (if l[2]! =[45]then []else aj l[2]! 44),.bool (decide (l[3]! =gB))];rw[if_pos hc2];rfl];refine aC ?_;refine cX (v:=.own 3 4 0 A.length) ?_;refine cM (d:=bN.N (gr l)) ?_;refine cF [bN.N (gr l)] ?_;refine nI (q:=bN.N) (xs:=A) (e:=gr l) ?_;refine aC ?_;refine aR (.agg [.own 50 4 0 (A++[gr l]).length,.str [],.str []]) (he:=by exact rfl) ?_;refine av ?_;exact⟨(A++[gr l],q2),⟨hq2,by simp only[List.length_append,List.length_cons,List.length_nil];omega,by rw[hw,hwy];simp⟩,by dsimp only;omega,(aT.to [(1,1),(2,2),(50,3)] ae ae c8 (by refine aL.eG ae ae ae ?_;refine aL.eG ae ae ae ?_;refine aL.eq 2 ae ae ae ?_;refine aL.nl 50 ae ae rfl (by exact bX bN.mc _) ?_;exact aL.nil))⟩
def Ja (Γ:Ctx):Prop:=∀(r:Ld),(r.sm)→Γ.fp 467 (Ld.D r) []∧Γ.fv 467 (Ld.D r) []=bF.D (dw r.rest).1∧Γ.fs 467 (Ld.D r) []=Ld.D (r.to (dw r.rest).2)
end Go.Abs
end
namespace Go.Abs
def Bu (Γ:Ctx):Prop:=∀(r:Ld)(w:ah)(n:Nat)(op:Bool)(l nx:Nat)(m:List (Nat×bj))(K:D→St→Prop),r.sm→n≤1000→(op=true→1≤n)→look m l=some (.buf 2 [Ld.D r])→
 K (.tup [uX (bM w n op r.rest),.bool (bM w n op r.rest).isSome]) ⟨nx,cw m l (.buf 2 [Ld.D (r.after (bM w n op r.rest))])⟩→Γ.tr 465 [.ptr l 2 0 0,.str w,.int .i64 (n:Nat),.bool op] ⟨nx,m⟩ K
def sD {Γ:Ctx}(h:Bu Γ){r:Ld}(hr:r.sm){p:List ah}(hp:p<:+r.ls){w:ah}{n:Nat}{op:Bool}(hn:n≤1000)(ho:op=true→1≤n){nx:Nat}{m:List (Nat×bj)}{K:D→St→Prop}(hl:look m 0=some (.buf 2 [Ld.D (r.to p)]))
  (hK:K (.tup [uX (bM w n op p),.bool (bM w n op p).isSome]) ⟨nx,cw m 0 (.buf 2 [Ld.D (r.to (cW w n op p))])⟩):Γ.tr 465 [.ptr 0 2 0 0,.str w,.int .i64 (n:Nat),.bool op] ⟨nx,m⟩ K:=by
 refine h (r.to p) w n op 0 nx m K (hr.to p) hn ho hl ?_;rw[Ld.sI hp,Ld.yh hp];exact hK
def HI {Γ:Ctx}(h:Ja Γ){r:Ld}(hr:r.sm){p:List ah}(hp:p<:+r.ls):Γ.fp 467 (Ld.D (r.to p)) []∧Γ.fv 467 (Ld.D (r.to p)) []=bF.D (dw p).1∧Γ.fs 467 (Ld.D (r.to p)) []=Ld.D (r.to (dw p).2):=by
 have:=h (r.to p) (hr.to p);rw[Ld.sI hp]at this;exact this
def lj:∀p:List ah,(cv p).2<:+p
 |[]=>List.suffix_refl _
 |t::r=>by
  simp only[cv];split
  ·split
   ·exact(lj r).trans (List.suffix_cons _ _)
   ·exact List.suffix_refl _
  ·exact List.suffix_refl _
def oe (p:List ah):(dw p).2<:+p:=(Fv _).trans ((gX _).trans (lj p))
def yw {p:List ah}(h:bM cN 0 false p=none):dZ p=([],p):=by
 match p,h with
 |[],_=>rfl
 |t::r,h=>
  simp only[bM]at h;split at h
  ·cases h
  ·rename_i hn;simp only[dZ,hn]
def C4 {p l q:List ah}(h:bM cN 0 false p=some (l,q))(ho:¬2≤l.length):dZ p=([],p):=by
 obtain⟨t,rfl,ht⟩:=dC h;simp only[dZ,ht,ho,if_false]
def Av {p l q:List ah}(h:bM cN 0 false p=some (l,q))(ho:2≤l.length):dZ p=(⟨l[1]!,l.drop 2⟩::(dZ q).1,(dZ q).2):=by
 obtain⟨t,rfl,ht⟩:=dC h;simp only[dZ,ht,ho,if_true]
def fm (ls:List ah):Rec×List ah:=match qR ls with
 |some p=>p
 |none=>(oF,ls)
def eh:D:=.agg [.str [],.int .i64 0,.int .i64 0,.int .i64 0,.str [],.str [],.aF,.aF,.aF]
def qe:sr eh oF.D:=.ag (.cons (.refl _) (.cons (.refl _) (.cons (.refl _) (.cons (.refl _) (.cons (.refl _) (.cons (.refl _) (.cons (.nil 3) (.cons (.nil 3) (.cons (.nil 2) .nil)))))))))
def lT (nm:ah)(v:dc)(n b f:D):D:=.agg [.str nm,.int .i64 v.major,.int .i64 v.minor,.int .i64 v.patch,.str v.pre,.str v.build,n,b,f]
def KT {s:ah}(h:uy s=0):∃v,mV s=some v:=by
 unfold uy at h;split at h
 ·rename_i hs;exact il hs
 ·cases h
def KS {s:ah}(h:¬uy s=0):mV s=none:=by
 unfold uy at h;split at h
 ·exact absurd rfl h
 ·rename_i hs;exact ik (by simpa using hs)
def wD (n:Nat)(op:Bool)(t:ah):(dj n op t).length≤t.length+1:=by
 have h:=cG t 32;have hp:=eM 32 t [];unfold dj;split
 ·unfold oW;split
  ·exact h
  ·simp only[List.length_append,List.length_take,List.length_cons,List.length_nil];have:1≤(aj t 32).length:=hp;omega
 ·exact h
def Fi {r:Ld}(hr:r.sm){p:List ah}(hp:p<:+r.ls){w:ah}{n:Nat}{op:Bool}{l q:List ah}(h:bM w n op p=some (l,q)):l.length≤1048577:=by
 obtain⟨t,rfl,ht⟩:=dC h;obtain⟨_,_,h3⟩:=qJ ht;have:=wD n op t;have:=hr.2 t (hp.subset (.head _));rw[h3];omega
end Go.Abs
section
namespace Go.Abs
open Go
def fJ:az:=⟨1,20,[⟨1,some (9,true)⟩,⟨2,none⟩],[[.a,.a,.a,.a,.a,.a,.sl 3 [.sl 4 [.a,.a,.sl 1 [.a],.a],.a,.a],.sl 3 [.a,.a,.a],.sl 2 [.a,.sl 1 [.a]]],[.a]],(sq (rg [gb 9 (.c (.agg [.str [],.int .i64 0,.int .i64 0,.int .i64 0,.str [],.str [],.aF,.aF,.aF])),gm cH] [(1,0),(2,1)]) (sq (r1 [gm s0,gn (.mkf 1000465 [l0]),gm l1] 3 2) (sq (rg [gm s3,gn (.callvM l0 [(cs [112,97,99,107,97,103,101]),kr,cH]),gm l1,ge l2 0,ge l2 1,gm l3,gm l4] [(6,5),(4,6)]) (sq (sq (r1 [gm s4,iR l0] 5 1) (.cond s5 (sq (r1 [gn (.build [.str [],.int .i64 0,.int .i64 0,.int .i64 0,.str [],.str [],.aF,.aF,.aF] []),gt 9 s1 l0,gm cH] 2 2) .ret) .skip)) (sq (rg [gm s6,ga 1 l0 lM,gd l1,gx 466 [l2] bL,gm l3,ge l4 0,ge l4 1,gb 5 (.c (.agg [.int .i64 0,.int .i64 0,.int .i64 0,.str [],.str []])),gt 5 l7 l5,gm l6] [(9,7),(7,9)]) (sq (sq (r1 [gm s7,bZ l0 bc] 8 1) (.cond s8 (sq (rg [gm s0,gc l0,gf 1 l1,gd l2,dN l3 bV,gc l0,gf 1 l5,gt 1 l6 l4] []) (sq (r1 [gn (.build [.str [],.int .i64 0,.int .i64 0,.int .i64 0,.str [],.str [],.aF,.aF,.aF] []),gt 9 s1 l0,gm cH] 2 2) .ret)) .skip)) (sq (r2 [gm s6,ga 1 l0 bV,gd l1,gk 5 true s9,gn (.build [.str [],.int .i64 0,.int .i64 0,.int .i64 0,.str [],.str [],.aF,.aF,.aF] [(0,1,l2),(1,5,l3)]),gb 9 (.c (.agg [.str [],.int .i64 0,.int .i64 0,.int .i64 0,.str [],.str [],.aF,.aF,.aF])),gt 9 l5 l4] 12 5) (sq (.block 0 (.loop (.block 1 (sq (sq (r1 [gm s3,gn (.callvM l0 [(cs [110,101,101,100]),bV,cH]),gm l1,ge l2 0,ge l2 1,gm l3,gm l4] 10 6) (sq (r1 [gm jR,iR l0] 11 1) (.cond lf (.exit 0) .skip))) (rt [gf 6 lE,gn (.ldU 1 false l0),gm s0,gn (.callF 467 l2 [] []),gn (.bsl 3 (.agg [.aF,.str [],.str []]) 1 [(0,l3)]),gn (.app 3 l1 l4),gf 6 lE,gt 1 l6 l5] []))))) (sq (.block 2 (.loop (.block 3 (sq (rg [gm s3,gn (.callvM l0 [(cs [98,97,114]),kr,mX]),gm l1,ge l2 0,ge l2 1,gm l3,gm l4] [(15,5),(13,6)]) (sq (sq (r1 [gm oO,iR l0] 14 1) (.cond rL (.exit 2) .skip)) (rt [gf 7 lE,gn (.ldU 1 false l0),gm qU,ga 1 l2 bV,gn (.ldU 1 false l3),gm qU,ga 1 l5 lM,gn (.ldU 1 false l6),gm s0,gn (.callF 468 l8 [] []),gn (.build [.str [],.str [],.str []] [(0,1,l4),(1,1,l7),(2,1,l9)]),gn (.bsl 3 (.agg [.str [],.str [],.str []]) 1 [(0,l10)]),gn (.app 3 l1 gh),gf 7 lE,gt 1 jD iq] [])))))) (sq (.block 4 (.loop (.block 5 (sq (rg [gm s3,gn (.callvM l0 [(cs [102,101,97,116,117,114,101]),bc,cH]),gm l1,ge l2 0,ge l2 1,gm l3,gm l4] [(18,5),(16,6)]) (sq (sq (r1 [gm z6,iR l0] 17 1) (.cond zy (.exit 4) .skip)) (sq (sq (r1 [gm DP,gl l0,aJ l1 lM] 19 2) (.cond KL (sq (rg [gm s0,gc l0,gf 1 l1,gd l2,dN l3 bV,gc l0,gf 1 l5,gt 1 l6 l4] []) (.exit 4)) .skip)) (rt [gf 8 lE,gd l0,gm DP,ga 1 l2 bV,gd l3,gm DP,gn (.slA 1 l5 (some lM) none),gx 469 [l6] [[.sl 1 [.a]]],gn (.build [.str [],.aF] [(0,1,l4),(1,1,l7)]),gn (.bsl 2 (.agg [.str [],.aF]) 1 [(0,l8)]),gn (.app 2 l1 l9),gf 8 lE,gt 1 gh l10] []))))))) (sq (r1 [gk 9 true lE,gt 9 s1 l0,gm mX] 2 2) .ret)))))))))))⟩
def w222 {Γ:Ctx}(hm:(Γ.at 1).aY)(h466:LW (Γ.at 1))(h467:Ja (Γ.at 1))(h468:GS (Γ.at 1))(h469:LX (Γ.at 1))(h9465:Bu (Γ.at 1))(r:Ld)  (hp0:r.sm):bq (Γ.at 1) fJ.body (CH fJ 2 (.tup [Rec.D (fm r.rest).1,.bool (qR r.rest).isSome]) (Ld.D (r.to (fm r.rest).2)):Ex→List bm→St→Prop) (ei fJ (.ptr 0 2 0 0::[])) ⟨1,[(0,.buf 2 [(Ld.D r)])]⟩:=by
 show bq _ _ _ [⟨true,.ptr 0 2 0 0⟩,.un,.un,.un,.un,.un,.un,.un,.un,.un,.un,.un,.un,.un,.un,.un,.un,.un,.un,.un] ⟨1,[(0,.buf 2 [(Ld.D r)])]⟩;have hself:=Ld.xN hp0;have hq1:=r.ue;have hll:=hp0.1.2;refine ai ?_;refine aI ?_;refine N7 _ ?_;refine av ?_;rw[show Ld.D r=Ld.D (r.to r.rest)by rw[hself]];refine aC ?_;refine j9 (n:=1000465) (Yk:=[.ptr 0 2 0 0,.str dF,.int .i64 ((3:Nat):Int),.bool false]) (ι:=Unit) (fun _=>True) (fun _=>.tup [uX (bM dF 3 false r.rest),.bool (bM dF 3 false r.rest).isSome]) 6 (fun _=>[(0,.buf 2 [Ld.D (r.to (cW dF 3 false r.rest))]),(1,.buf 9 [eh])]) (fun _ _=>?_) (hc:=fun K' hK=>sD h9465 hp0 hq1 (w:=dF) (n:=3) (op:=false) (by decide) (by decide) ae (hK () trivial)) (hn:=by decide);refine aC ?_;refine eS _ ?_;refine cB ?_;refine aq (fun hc0=>?_) (fun hc0=>?_)
 ·simp only[Bool.not_eq_true']at hc0;have hq:=ik hc0;have hnr:cW dF 3 false r.rest=r.rest:=by simp only[cW,hq]
  rw[hnr];have hrp:qR r.rest=none:=by simp only[qR,hq]
  have hrv:fm r.rest=(oF,r.rest):=by simp only[fm,hrp]
  rw[hrv,hrp];refine au ?_;refine bo eh ?_;refine aR eh (he:=by exact rfl) ?_;refine au ?_;refine qi [(0,.buf 2 [Ld.D (r.to r.rest)]),(1,.buf 9 [Rec.D oF])] (.id ae (.bf ae (.cons qe .nil) .nil)) ?_;refine aC ?_;refine eL trivial sg (Eq.trans ae (aE ?_ ?_)) ae ae ae;all_goals rfl
 simp only[Bool.not_eq_false']at hc0;obtain⟨⟨l,q0⟩,hq⟩:=il hc0;have hnr:cW dF 3 false r.rest=q0:=by simp only[cW,hq]
 obtain⟨hl,hlm,hq0,hqp⟩:=k9 hp0 hq1 hq;rw[hnr,hq];obtain hl:l.length=3:=by rcases hl with h|h;cases h;exact h
 refine av ?_;refine bO 2 (hb:=fun _=>by omega) ?_;refine bQ (v:=.str l[2]!) (hi:=fun _=>by omega) ?_;refine ak (hc:=h466 l[2]! (hlm _ (bw (by omega)))) ?_;refine aC ?_;refine eS (dc.D _) ?_;refine au ?_;refine aR (dc.D ((mV l[2]!).getD iE)) (he:=by exact rfl) ?_;refine aQ ?_;refine aq (fun hc1=>?_) (fun hc1=>?_)
 ·simp only[Bool.not_eq_true',decide_eq_false_iff_not]at hc1;have hv:=KS hc1;have hrp:qR r.rest=none:=by simp only[qR,hq,hv]
  have hrv:fm r.rest=(oF,r.rest):=by simp only[fm,hrp]
  rw[hrv,hrp];obtain⟨t,hpt,_⟩:=dC hq;refine au ?_;obtain⟨hab1,hab2⟩:=(hp0.to q0).1;refine av ?_;refine cX (v:=.int .i64 ((r.to q0).at':Nat)) ?_;refine av ?_;refine aR (Ld.D (r.to r.rest)) (he:=by rw[hpt];exact Ld.back (hpt▸hq1)) ?_;refine av ?_;refine bo eh ?_;refine aR eh (he:=by exact rfl) ?_;refine au ?_;refine qi [(0,.buf 2 [Ld.D (r.to r.rest)]),(1,.buf 9 [Rec.D oF]),(22,.buf 5 [dc.D ((mV l[2]!).getD iE)])] (.id ae (.bf ae (.cons qe .nil) (.id ae .nil))) ?_;refine aC ?_;refine eL trivial sg (Eq.trans ae (aE ?_ ?_)) ae ae ae;all_goals rfl
 simp only[Bool.not_eq_false',decide_eq_true_eq]at hc1;obtain⟨v,hv⟩:=KT hc1;rw[hv];have hrp:qR r.rest=some (sS l[1]! v q0):=by simp only[qR,hq,hv]
 have hrv:fm r.rest=sS l[1]! v q0:=by simp only[fm,hrp]
 rw[hrv,hrp];generalize hnm:l[1]! =nm;have hq01:=hq0.length_le;refine au ?_;rw[←hnm];refine aC ?_;refine bO 1 (hb:=fun _=>by omega) ?_;refine bQ (v:=.str l[1]!) (hi:=fun _=>by omega) ?_;refine cM (d:=dc.D v) ?_;refine bo (lT l[1]! v .aF .aF .aF) ?_;refine aC ?_;refine aR (lT l[1]! v .aF .aF .aF) (he:=by exact rfl) ?_;refine aC ?_;rw[hnm];refine aV hm (ι:=(List bF×List ah)) (fun z=>[⟨true,.ptr 0 2 0 0⟩,⟨true,.ptr 1 9 0 0⟩,⟨true,.bool false⟩,⟨true,.fn 1000465 [.ptr 0 2 0 0]⟩,.un,.un,.un,.un,.un,.un,.un,.un,⟨true,.ptr 2 9 0 0⟩,.un,.un,.un,.un,.un,.un,.un]) (fun z=>[(0,.buf 2 [Ld.D (r.to z.2)]),(1,.buf 9 [eh]),(2,.buf 9 [lT nm v (.own 3 3 0 (z.1).length) (.aF) (.aF)]),(3,.buf 3 (z.1.map bF.D))]) 10 (fun z=>z.2<:+r.ls∧z.1.length+z.2.length≤r.ls.length∧fE q0=(z.1++(fE z.2).1,(fE z.2).2)) (fun z=>z.2.length) ([],q0) ⟨hq0,by simpa using hq01,by simp⟩ (aT.to [(1,1),(32,2)] ae ae c8 (by refine aL.eG ae ae ae ?_;refine aL.eG ae ae ae ?_;refine aL.ni 32 ae ae (by exact⟨_,_,rfl,⟨_,rfl,⟨_,_,rfl,⟨rfl,rfl⟩,⟨_,_,rfl,⟨rfl,rfl⟩,⟨_,_,rfl,⟨rfl,rfl⟩,⟨_,_,rfl,⟨rfl,rfl⟩,⟨_,_,rfl,⟨rfl,rfl⟩,⟨_,_,rfl,⟨rfl,rfl⟩,⟨_,_,rfl,Or.inr ⟨_,_,_,rfl⟩,⟨_,_,rfl,Or.inl rfl,⟨_,_,rfl,Or.inl rfl,rfl⟩⟩⟩⟩⟩⟩⟩⟩⟩⟩,rfl⟩) ?_;refine aL.mt ae ae ae ae ?_;exact aL.nil)) ?_;rintro⟨N,p⟩ ⟨hq1,hlen,hw⟩;dsimp only at hq1 hlen hw⊢;refine ax ?_;refine j9 (n:=1000465) (Yk:=[.ptr 0 2 0 0,.str jA,.int .i64 ((1:Nat):Int),.bool false]) (ι:=Unit) (fun _=>True) (fun _=>.tup [uX (bM jA 1 false p),.bool (bM jA 1 false p).isSome]) 10 (fun _=>[(0,.buf 2 [Ld.D (r.to (cW jA 1 false p))]),(1,.buf 9 [eh]),(2,.buf 9 [lT nm v (.own 3 3 0 (N).length) (.aF) (.aF)]),(3,.buf 3 (N.map bF.D))]) (fun _ _=>?_) (hc:=fun K' hK=>sD h9465 hp0 hq1 (w:=jA) (n:=1) (op:=false) (by decide) (by decide) ae (hK () trivial)) (hn:=by decide);refine aC ?_;refine eS _ ?_;refine cB ?_;refine aq (fun hc2=>?_) (fun hc2=>?_)
 ·simp only[Bool.not_eq_true']at hc2;have hq:=ik hc2;have hnr:cW jA 1 false p=p:=by simp only[cW,hq]
  rw[hnr];have hn2:fE q0=(N,p):=by rw[hw,yS hq,List.append_nil]
  have hpl:=hq1.length_le;refine av ?_;refine fM 3 (hn:=bX (fun _=>rfl) _) (he:=by simp only[lF,gZ,kO,mn,ny,cd,Nat.reduceEqDiff,if_true,if_false,and_self,true_and,and_true,false_and,and_false,Nat.zero_add,List.length_map,Nat.le_refl,List.drop_zero,aP,reduceCtorEq,List.length_cons,List.length_nil,Nat.reduceAdd,Nat.reduceLeDiff,Ld.D,eh,lT];exact rfl) (hm:=by simp only[lF,gZ,kO,mn,ny,cd,Nat.reduceEqDiff,if_true,if_false,and_self,true_and,and_true,false_and,and_false,Nat.zero_add,List.length_map,Nat.le_refl,List.drop_zero,aP,reduceCtorEq,List.length_cons,List.length_nil,Nat.reduceAdd,Nat.reduceLeDiff,Ld.D,eh,lT];exact rfl) ?_;refine aV hm (ι:=(List iJ×List ah)) (fun z=>[⟨true,.ptr 0 2 0 0⟩,⟨true,.ptr 1 9 0 0⟩,⟨true,.bool false⟩,⟨true,.fn 1000465 [.ptr 0 2 0 0]⟩,.un,.un,.un,.un,.un,.un,.un,.un,⟨true,.ptr 2 9 0 0⟩,.un,.un,.un,.un,.un,.un,.un]) (fun z=>[(0,.buf 2 [Ld.D (r.to z.2)]),(1,.buf 9 [eh]),(2,.buf 9 [lT nm v ((.sl 3 (N.map bF.D))) (.own 3 3 0 (z.1).length) (.aF)]),(3,.buf 3 (z.1.map iJ.D))]) 10 (fun z=>z.2<:+r.ls∧z.1.length+z.2.length≤r.ls.length∧kT p=(z.1++(kT z.2).1,(kT z.2).2)) (fun z=>z.2.length) ([],p) ⟨hq1,by simpa using hpl,by simp⟩ (aT.to [(1,1),(2,2)] ae ae c8 (by refine aL.eG ae ae ae ?_;refine aL.eG ae ae ae ?_;refine aL.ni 2 ae ae (by exact⟨_,_,rfl,⟨_,rfl,⟨_,_,rfl,⟨rfl,rfl⟩,⟨_,_,rfl,⟨rfl,rfl⟩,⟨_,_,rfl,⟨rfl,rfl⟩,⟨_,_,rfl,⟨rfl,rfl⟩,⟨_,_,rfl,⟨rfl,rfl⟩,⟨_,_,rfl,⟨rfl,rfl⟩,⟨_,_,rfl,⟨rfl,rfl⟩,⟨_,_,rfl,Or.inr ⟨_,_,_,rfl⟩,⟨_,_,rfl,Or.inl rfl,rfl⟩⟩⟩⟩⟩⟩⟩⟩⟩⟩,rfl⟩) ?_;refine aL.mt ae ae ae ae ?_;exact aL.nil)) ?_;rintro⟨B,pb⟩ ⟨hq1,hlen,hw⟩;dsimp only at hq1 hlen hw⊢;refine av ?_;refine j9 (n:=1000465) (Yk:=[.ptr 0 2 0 0,.str j4,.int .i64 ((3:Nat):Int),.bool true]) (ι:=Unit) (fun _=>True) (fun _=>.tup [uX (bM j4 3 true pb),.bool (bM j4 3 true pb).isSome]) 10 (fun _=>[(0,.buf 2 [Ld.D (r.to (cW j4 3 true pb))]),(1,.buf 9 [eh]),(2,.buf 9 [lT nm v ((.sl 3 (N.map bF.D))) (.own 3 3 0 (B).length) (.aF)]),(3,.buf 3 (B.map iJ.D))]) (fun _ _=>?_) (hc:=fun K' hK=>sD h9465 hp0 hq1 (w:=j4) (n:=3) (op:=true) (by decide) (by decide) ae (hK () trivial)) (hn:=by decide);refine aC ?_;refine eS _ ?_;refine cB ?_;refine aq (fun hc3=>?_) (fun hc3=>?_)
  ·simp only[Bool.not_eq_true']at hc3;have hq:=ik hc3;have hnr:cW j4 3 true pb=pb:=by simp only[cW,hq]
   rw[hnr];have gL:kT p=(B,pb):=by rw[hw,Aj hq,List.append_nil]
   have hpl2:=hq1.length_le;refine av ?_;refine fM 3 (hn:=bX (fun _=>rfl) _) (he:=by simp only[lF,gZ,kO,mn,ny,cd,Nat.reduceEqDiff,if_true,if_false,and_self,true_and,and_true,false_and,and_false,Nat.zero_add,List.length_map,Nat.le_refl,List.drop_zero,aP,reduceCtorEq,List.length_cons,List.length_nil,Nat.reduceAdd,Nat.reduceLeDiff,Ld.D,eh,lT];exact rfl) (hm:=by simp only[lF,gZ,kO,mn,ny,cd,Nat.reduceEqDiff,if_true,if_false,and_self,true_and,and_true,false_and,and_false,Nat.zero_add,List.length_map,Nat.le_refl,List.drop_zero,aP,reduceCtorEq,List.length_cons,List.length_nil,Nat.reduceAdd,Nat.reduceLeDiff,Ld.D,eh,lT];exact rfl) ?_;refine aV hm (ι:=(List bz×List ah)) (fun z=>[⟨true,.ptr 0 2 0 0⟩,⟨true,.ptr 1 9 0 0⟩,⟨true,.bool false⟩,⟨true,.fn 1000465 [.ptr 0 2 0 0]⟩,.un,.un,.un,.un,.un,.un,.un,.un,⟨true,.ptr 2 9 0 0⟩,.un,.un,.un,.un,.un,.un,.un]) (fun z=>[(0,.buf 2 [Ld.D (r.to z.2)]),(1,.buf 9 [eh]),(2,.buf 9 [lT nm v ((.sl 3 (N.map bF.D))) ((.sl 3 (B.map iJ.D))) (.own 3 2 0 (z.1).length)]),(3,.buf 2 (z.1.map bz.D))]) 10 (fun z=>z.2<:+r.ls∧z.1.length+z.2.length≤r.ls.length∧dZ pb=(z.1++(dZ z.2).1,(dZ z.2).2)) (fun z=>z.2.length) ([],pb) ⟨hq1,by simpa using hpl2,by simp⟩ (aT.to [(1,1),(2,2)] ae ae c8 (by refine aL.eG ae ae ae ?_;refine aL.eG ae ae ae ?_;refine aL.ni 2 ae ae (by exact⟨_,_,rfl,⟨_,rfl,⟨_,_,rfl,⟨rfl,rfl⟩,⟨_,_,rfl,⟨rfl,rfl⟩,⟨_,_,rfl,⟨rfl,rfl⟩,⟨_,_,rfl,⟨rfl,rfl⟩,⟨_,_,rfl,⟨rfl,rfl⟩,⟨_,_,rfl,⟨rfl,rfl⟩,⟨_,_,rfl,⟨rfl,rfl⟩,⟨_,_,rfl,⟨rfl,rfl⟩,⟨_,_,rfl,Or.inr ⟨_,_,_,rfl⟩,rfl⟩⟩⟩⟩⟩⟩⟩⟩⟩⟩,rfl⟩) ?_;refine aL.mt ae ae ae ae ?_;exact aL.nil)) ?_;rintro⟨Z,pf⟩ ⟨hq1,hlen,hw⟩;dsimp only at hq1 hlen hw⊢;refine av ?_;refine j9 (n:=1000465) (Yk:=[.ptr 0 2 0 0,.str cN,.int .i64 ((0:Nat):Int),.bool false]) (ι:=Unit) (fun _=>True) (fun _=>.tup [uX (bM cN 0 false pf),.bool (bM cN 0 false pf).isSome]) 10 (fun _=>[(0,.buf 2 [Ld.D (r.to (cW cN 0 false pf))]),(1,.buf 9 [eh]),(2,.buf 9 [lT nm v ((.sl 3 (N.map bF.D))) ((.sl 3 (B.map iJ.D))) (.own 3 2 0 (Z).length)]),(3,.buf 2 (Z.map bz.D))]) (fun _ _=>?_) (hc:=fun K' hK=>sD h9465 hp0 hq1 (w:=cN) (n:=0) (op:=false) (by decide) (by decide) ae (hK () trivial)) (hn:=by decide);refine aC ?_;refine eS _ ?_;refine cB ?_;refine aq (fun hc4=>?_) (fun hc4=>?_)
   ·simp only[Bool.not_eq_true']at hc4;have hq:=ik hc4;have hnr:cW cN 0 false pf=pf:=by simp only[cW,hq]
    rw[hnr];have hf2:dZ pb=(Z,pf):=by rw[hw,yw hq,List.append_nil]
    refine av ?_;have hbd:sS nm v q0=(⟨nm,v,N,B,Z⟩,pf):=by simp only[sS,hn2,gL,hf2]
    rw[hbd];refine fM 3 (hn:=bX (fun _=>rfl) _) (he:=by simp only[lF,gZ,kO,mn,ny,cd,Nat.reduceEqDiff,if_true,if_false,and_self,true_and,and_true,false_and,and_false,Nat.zero_add,List.length_map,Nat.le_refl,List.drop_zero,aP,reduceCtorEq,List.length_cons,List.length_nil,Nat.reduceAdd,Nat.reduceLeDiff,Ld.D,eh,lT];exact rfl) (hm:=by simp only[lF,gZ,kO,mn,ny,cd,Nat.reduceEqDiff,if_true,if_false,and_self,true_and,and_true,false_and,and_false,Nat.zero_add,List.length_map,Nat.le_refl,List.drop_zero,aP,reduceCtorEq,List.length_cons,List.length_nil,Nat.reduceAdd,Nat.reduceLeDiff,Ld.D,eh,lT];exact rfl) ?_;refine aC ?_;refine cM (d:=Rec.D ⟨nm,v,N,B,Z⟩) ?_;refine aR (Rec.D ⟨nm,v,N,B,Z⟩) (he:=by exact rfl) ?_;refine av ?_;refine eL trivial sg (Eq.trans ae (aE ?_ ?_)) ae ae ae;all_goals rfl
   simp only[Bool.not_eq_false']at hc4;obtain⟨⟨l,q2⟩,hq⟩:=il hc4;have hnr:cW cN 0 false pf=q2:=by simp only[cW,hq]
   obtain⟨hl,hlm,hq2,hqp⟩:=k9 hp0 hq1 hq;rw[hnr,hq];have hll2:=Fi hp0 hq1 hq;refine aI ?_;intro u0;refine au ?_;refine ca (fun hc5=>?_) fun hc5=>?_
   ·refine au ?_;have hf2:dZ pb=(Z,pf):=by rw[hw,C4 hq (by omega),List.append_nil]
    obtain⟨t,hpt,_⟩:=dC hq;obtain⟨hab1,hab2⟩:=(hp0.to q2).1;refine av ?_;refine cX (v:=.int .i64 ((r.to q2).at':Nat)) ?_;refine av ?_;refine aR (Ld.D (r.to pf)) (he:=by rw[hpt];exact Ld.back (hpt▸hq1)) ?_;refine ax ?_;have hbd:sS nm v q0=(⟨nm,v,N,B,Z⟩,pf):=by simp only[sS,hn2,gL,hf2]
    rw[hbd];refine fM 3 (hn:=bX (fun _=>rfl) _) (he:=by simp only[lF,gZ,kO,mn,ny,cd,Nat.reduceEqDiff,if_true,if_false,and_self,true_and,and_true,false_and,and_false,Nat.zero_add,List.length_map,Nat.le_refl,List.drop_zero,aP,reduceCtorEq,List.length_cons,List.length_nil,Nat.reduceAdd,Nat.reduceLeDiff,Ld.D,eh,lT];exact rfl) (hm:=by simp only[lF,gZ,kO,mn,ny,cd,Nat.reduceEqDiff,if_true,if_false,and_self,true_and,and_true,false_and,and_false,Nat.zero_add,List.length_map,Nat.le_refl,List.drop_zero,aP,reduceCtorEq,List.length_cons,List.length_nil,Nat.reduceAdd,Nat.reduceLeDiff,Ld.D,eh,lT];exact rfl) ?_;refine aC ?_;refine cM (d:=Rec.D ⟨nm,v,N,B,Z⟩) ?_;refine aR (Rec.D ⟨nm,v,N,B,Z⟩) (he:=by exact rfl) ?_;refine av ?_;refine eL trivial sg (Eq.trans ae (aE ?_ ?_)) ae ae ae;all_goals rfl
   refine au ?_;have h2l:2≤l.length:=by omega
   refine aC ?_;refine cX (v:=.own 3 2 0 Z.length) ?_;refine aC ?_;refine bO 1 (hb:=fun _=>by omega) ?_;refine bQ (v:=.str l[1]!) (hi:=fun _=>by omega) ?_;refine aC ?_;refine y8 2 (hb:=fun _=>by omega) ?_;refine ak (hc:=h469 (l.drop 2) (by rw[List.length_drop];omega)) ?_;refine bo (bz.D ⟨l[1]!,l.drop 2⟩) ?_;refine cF [bz.D ⟨l[1]!,l.drop 2⟩] ?_;refine nI (q:=bz.D) (xs:=Z) (e:=⟨l[1]!,l.drop 2⟩) ?_;refine aC ?_;refine aR (lT nm v (.sl 3 (N.map bF.D)) (.sl 3 (B.map iJ.D)) (.own 32 2 0 (Z++[(⟨l[1]!,l.drop 2⟩:bz)]).length)) (he:=by exact rfl) ?_;refine av ?_;have hsl:=Nat.le_refl 0;exact⟨(Z++[⟨l[1]!,l.drop 2⟩],q2),⟨hq2,by simp only[List.length_append,List.length_cons,List.length_nil];omega,by rw[hw,Av hq h2l];simp⟩,by dsimp only;omega,(aT.to [(1,1),(2,2),(32,3)] ae ae c8 (by refine aL.eG ae ae ae ?_;refine aL.eG ae ae ae ?_;refine aL.eq 2 ae ae ae ?_;refine aL.nl 32 ae ae rfl (by exact bX (fun _=>rfl) _) ?_;exact aL.nil))⟩
  simp only[Bool.not_eq_false']at hc3;obtain⟨⟨l,q2⟩,hq⟩:=il hc3;have hnr:cW j4 3 true pb=q2:=by simp only[cW,hq]
  obtain⟨hl,hlm,hq2,hqp⟩:=k9 hp0 hq1 hq;rw[hnr,hq];obtain hl:l.length=3:=by rcases hl with h|h;cases h;exact h
  refine av ?_;refine FO (v:=.own 3 3 0 B.length) ?_;refine aC ?_;refine bO 1 (hb:=fun _=>by omega) ?_;refine FP (v:=.str l[1]!) (hi:=fun _=>by omega) ?_;refine aC ?_;refine bO 2 (hb:=fun _=>by omega) ?_;refine FP (v:=.str l[2]!) (hi:=fun _=>by omega) ?_;refine aC ?_;refine j3 (hc:=xU h468 hp0 hq2) ?_;refine bo (iJ.D ⟨l[1]!,l[2]!,(bH q2).1⟩) ?_;refine cF [iJ.D ⟨l[1]!,l[2]!,(bH q2).1⟩] ?_;refine nI (q:=iJ.D) (xs:=B) (e:=⟨l[1]!,l[2]!,(bH q2).1⟩) ?_;refine aC ?_;refine aR (lT nm v (.sl 3 (N.map bF.D)) (.own 31 3 0 (B++[(⟨l[1]!,l[2]!,(bH q2).1⟩:iJ)]).length) .aF) (he:=by exact rfl) ?_;refine av ?_;have hsl:=(gX q2).length_le;exact⟨(B++[⟨l[1]!,l[2]!,(bH q2).1⟩],(bH q2).2),⟨(gX q2).trans hq2,by simp only[List.length_append,List.length_cons,List.length_nil];omega,by rw[hw,Ak hq];simp⟩,by dsimp only;omega,(aT.to [(1,1),(2,2),(31,3)] ae ae c8 (by refine aL.eG ae ae ae ?_;refine aL.eG ae ae ae ?_;refine aL.eq 2 ae ae ae ?_;refine aL.nl 31 ae ae rfl (by exact bX (fun _=>rfl) _) ?_;exact aL.nil))⟩
 simp only[Bool.not_eq_false']at hc2;obtain⟨⟨l,q2⟩,hq⟩:=il hc2;have hnr:cW jA 1 false p=q2:=by simp only[cW,hq]
 obtain⟨hl,hlm,hq2,hqp⟩:=k9 hp0 hq1 hq;rw[hnr,hq];refine av ?_;refine FO (v:=.own 3 3 0 N.length) ?_;refine aC ?_;refine j3 (hc:=HI h467 hp0 hq2) ?_;refine cF [bF.D (dw q2).1] ?_;refine nI (q:=bF.D) (xs:=N) (e:=(dw q2).1) ?_;refine aC ?_;refine aR (lT nm v (.own 24 3 0 (N++[(dw q2).1]).length) .aF .aF) (he:=by exact rfl) ?_;refine av ?_;have hsl:=(oe q2).length_le;exact⟨(N++[(dw q2).1],(dw q2).2),⟨(oe q2).trans hq2,by simp only[List.length_append,List.length_cons,List.length_nil];omega,by rw[hw,yT hq];simp⟩,by dsimp only;omega,(aT.to [(1,1),(2,2),(24,3)] ae ae c8 (by refine aL.eG ae ae ae ?_;refine aL.eG ae ae ae ?_;refine aL.eq 2 ae ae ae ?_;refine aL.nl 24 ae ae rfl (by exact bX (fun _=>rfl) _) ?_;exact aL.nil))⟩
def Lu (Γ:Ctx):Prop:=∀(r:Ld),(r.sm)→Γ.fp 222 (Ld.D r) []∧Γ.fv 222 (Ld.D r) []=.tup [Rec.D (fm r.rest).1,.bool (qR r.rest).isSome]∧Γ.fs 222 (Ld.D r) []=Ld.D (r.to (fm r.rest).2)
end Go.Abs
end
namespace Go.Abs
def wI (p:List ah):Prop:=∀t∈p,t.length≤1048576
def wI.get {l:List ah}(h:wI l)(i:Nat):l[i]!.length≤1048576:=by
 rcases Nat.lt_or_ge i l.length with hi|hi
 ·exact h _ (bw hi)
 ·simp[hi];exact Nat.zero_le _
def wI.next {p:List ah}(hp:wI p){w:ah}{n:Nat}{op:Bool}{l q:List ah}(h:bM w n op p=some (l,q)):wI l∧wI q∧l.length≤1048577:=by
 obtain⟨t,rfl,ht⟩:=dC h;obtain⟨_,_,h3⟩:=qJ ht;have h0:=hp t (.head _);refine⟨fun u hu=>?_,fun u hu=>hp u (.tail _ hu), ?_⟩
 ·rw[h3]at hu;have:=zR hu;omega
 ·have:=wD n op t;rw[h3];omega
def wI.Ea {p q:List ah}(hp:wI p)(h:q<:+p):wI q:=fun t ht=>hp t (h.subset ht)
def DZ {l:List ah}(h:wI l):(gr l).sm:=by
 refine⟨⟨h.get 1,h.get 4⟩,fun t ht=>?_⟩;unfold gr at ht;simp only at ht;split at ht
 ·cases ht
 ·have:=dE _ _ ht;have:=h.get 2;omega
def B6 {w:ah}{n:Nat}{op:Bool}{t:ah}{r l:List ah}(h:kE w n op t=some l):bM w n op (t::r)=some (l,r):=by simp only[bM,h]
def uD:∀p:List ah,wI p→∀x∈(cv p).1,x.sm
 |[],_,x,hx=>by simp[cv]at hx
 |t::r,hp,x,hx=>by
  have ih:=uD r (fun u hu=>hp u (.tail _ hu));simp only[cv]at hx;split at hx
  ·rename_i l hl;split at hx
   ·simp only[List.mem_cons]at hx;rcases hx with rfl|hx
    ·exact DZ (hp.next (B6 (r:=r) hl)).1
    ·exact ih x hx
   ·simp at hx
  ·simp at hx
def zP {p:List ah}(hp:wI p):(bH p).1.length≤1048576:=by
 unfold bH;split
 ·rename_i h;exact(hp.next h).1.get 1
 ·simp
def HM {p:List ah}(hp:wI p):(qK p).1.length≤1048576:=by
 unfold qK;split
 ·rename_i h;exact(hp.next h).1.get 1
 ·simp
def Ff {p:List ah}(hp:wI p):(dw p).1.sm:=⟨uD p hp,zP (hp.Ea (lj p)),HM ((hp.Ea (lj p)).Ea (gX _))⟩
def vQ:∀(f:Nat)(p:List ah),wI p→(∀x∈(jK f p).1,x.sm)∧(jK f p).2<:+p
 |0,p,_=>⟨fun x hx=>by simp[jK]at hx,List.suffix_refl _⟩
 |f+1,p,hp=>by
  simp only[jK];split
  ·rename_i l r h;have hr:=(hp.next h).2.1;obtain⟨i1,i2⟩:=vQ f (dw r).2 (hr.Ea (oe r));refine⟨fun x hx=>?_,i2.trans ((oe r).trans (lR h))⟩;simp only[List.mem_cons]at hx;rcases hx with rfl|hx
   ·exact Ff hr
   ·exact i1 x hx
  ·exact⟨fun x hx=>by simp at hx,List.suffix_refl _⟩
def yn:∀(f:Nat)(p:List ah),wI p→(∀x∈(mG f p).1,x.sm)∧(mG f p).2<:+p
 |0,p,_=>⟨fun x hx=>by simp[mG]at hx,List.suffix_refl _⟩
 |f+1,p,hp=>by
  simp only[mG];split
  ·rename_i l r h;obtain⟨hl,hr,_⟩:=hp.next h;obtain⟨i1,i2⟩:=yn f (bH r).2 (hr.Ea (gX r));refine⟨fun x hx=>?_,i2.trans ((gX r).trans (lR h))⟩;simp only[List.mem_cons]at hx;rcases hx with rfl|hx
   ·exact⟨hl.get 1,hl.get 2,zP hr⟩
   ·exact i1 x hx
  ·exact⟨fun x hx=>by simp at hx,List.suffix_refl _⟩
def vB:∀(p:List ah),wI p→(∀x∈(dZ p).1,x.sm)∧(dZ p).2<:+p
 |[],_=>⟨fun x hx=>by simp[dZ]at hx,List.suffix_refl _⟩
 |t::r,hp=>by
  obtain⟨i1,i2⟩:=vB r (fun u hu=>hp u (.tail _ hu));simp only[dZ];split
  ·rename_i l hl;obtain⟨hlm,_,hll⟩:=hp.next (B6 (r:=r) hl);split
   ·refine⟨fun x hx=>?_,i2.trans (List.suffix_cons _ _)⟩;simp only[List.mem_cons]at hx;rcases hx with rfl|hx
    ·refine⟨hlm.get 1, ?_,fun u hu=>hlm u (List.mem_of_mem_drop hu)⟩;simp only[List.length_drop];omega
    ·exact i1 x hx
   ·exact⟨fun x hx=>by simp at hx,List.suffix_refl _⟩
  ·exact⟨fun x hx=>by simp at hx,List.suffix_refl _⟩
def Cl:dx oF:=⟨⟨by decide,by decide,by decide⟩,fun n hn=>(by cases hn),fun n hn=>(by cases hn),fun n hn=>(by cases hn)⟩
def HW {p:List ah}(hp:wI p):dx (fm p).1∧(fm p).2<:+p:=by
 unfold fm qR;cases h:bM dF 3 false p with
 |none=>exact⟨Cl,List.suffix_refl _⟩
 |some lq=>
  obtain⟨l,r⟩:=lq;obtain⟨hl,hr,_⟩:=hp.next h;simp only;cases hv:mV l[2]! with
  |none=>exact⟨Cl,List.suffix_refl _⟩
  |some v=>
   have hvs:=Ia (hl.get 2);rw[hv]at hvs;obtain⟨n1,n2⟩:=vQ r.length r hr;obtain⟨b1,b2⟩:=yn (fE r).2.length (fE r).2 (hr.Ea n2);obtain⟨f1,f2⟩:=vB (kT (fE r).2).2 ((hr.Ea n2).Ea b2);exact⟨⟨⟨hl.get 1,hvs⟩,n1,b1,f1⟩,f2.trans (b2.trans (n2.trans (lR h)))⟩
def iw (s:ah):Rec×Int×Int:=
 if 4096<s.length then(oF,3,0)
 else
  let ls:=(aj s 10).take ((aj s 10).length-1)
  if(qR ls).isSome=false∨(fm ls).2≠[]∨(aj s 10)[(aj s 10).length-1]! ≠[]then(oF,2,((ls.length-(fm ls).2.length:Nat):Int)+1)
  else if(bS (fm ls).1).1≠0 then(oF,(bS (fm ls).1).1,0)
  else((fm ls).1,0,0)
end Go.Abs
section
namespace Go.Abs
open Go
def zd:az:=⟨3,8,[⟨3,none⟩],bL,(sq (rg [gb 9 s0,gm bc] [(5,0),(3,1)]) (sq (.block 0 (sq (r1 [gm s1,gx 208 [l0] bL,iR l1,gm l2] 4 3) (.cond s4 (sq (r1 [gm tl] 3 0) .ret) (sq (r1 [gm s1,gf 0 s5,gd l1,aH l0 l2,gm l3] 6 4) (.cond s6 (sq (r1 [gm AB] 3 0) .ret) (sq (r1 [gm s2,gx 444 [l0] bL,iR l1,gm l2] 7 3) (.cond s7 (sq (r1 [gm tm] 3 0) .ret) .skip))))))) (sq (r1 [gm bc] 3 0) .ret)))⟩
def w211 {Γ:Ctx}(hm:(Γ.at 0).aY)(h208:GM Γ)(h444:LD Γ)(r:Rec)(name:ah)(rng:ah)  (hp0:rng.length≤1048576):c7 Γ zd (.int .i64 (dX r name rng)) [Rec.D r,.str name,.str rng]:=by
 show bq _ _ _ [⟨_,_⟩,⟨_,_⟩,⟨_,_⟩,_,_,_,_,_] _;refine ai ?_;refine aA ?_;refine ak (hc:=h208 _) ?_;refine av ?_;refine eW (fun hc0=>?_) fun hc0=>?_
 ·refine aI ?_;refine ed ?_;rw[dX,if_pos hc0]
 refine aQ ?_;refine eW (fun hc1=>?_) fun hc1=>?_
 ·refine aI ?_;refine ed ?_;rw[dX,if_neg (by simp[hc0]),if_pos hc1]
 refine au ?_;refine ak (hc:=h444 rng hp0) ?_;refine av ?_;refine eW (fun hc2=>?_) fun hc2=>?_
 ·refine aI ?_;refine ed ?_;rw[dX,if_neg (by simp[hc0]),if_neg hc1,if_pos hc2]
 refine aA ?_;refine ed ?_;rw[dX,if_neg (by simp[hc0]),if_neg hc1,if_neg (by simp[hc2])]
def I0 (Γ:Ctx):Prop:=∀(r:Rec)(name:ah)(rng:ah),(rng.length≤1048576)→Γ.pre 211 [Rec.D r,.str name,.str rng]∧Γ.val 211 [Rec.D r,.str name,.str rng]=.int .i64 (dX r name rng)
def ze:az:=⟨3,16,[⟨3,none⟩],bL,(sq (rg [gb 9 s0,gb 4 s1,gm bc] [(4,0),(5,1),(3,2)]) (sq (sq (r1 [gk 9 true s4,gf 0 s5,gd l1,gf 1 s5,gd l3,gx 211 [l0,l2,l4] [[.a,.a,.a,.a,.a,.a,.sl 3 [.sl 4 [.a,.a,.sl 1 [.a],.a],.a,.a],.sl 3 [.a,.a,.a],.sl 2 [.a,.sl 1 [.a]]],[.a],[.a]],gm l5] 6 6) (sq (r1 [gm s6,bZ l0 bc] 7 1) (.cond s7 (sq (r1 [gm s6,gm l0] 3 1) .ret) .skip))) (sq (sq (r1 [gf 2 s5,gd l0,gl l1,cg l2 tm,gm l3,gT 4 2 s5,hJ 4 l5,bP 4 (.len l6),bP 4 (cC l7 bc),dt 4 l8,gmt 9 s2,bR 9 (.un .not l10),yD 4 l9 gh,dL l4 iq] 8 13) (.cond s8 (sq (r1 [gm (i6 11)] 3 0) .ret) .skip)) (sq (sq (rg [gf 2 s5,gd l0,gl l1,gm bc] [(12,1),(10,2),(9,3)]) (.block 0 (.loop (sq (r1 [aJ s9 jR] 11 0) (sq (ek lf 0) (sq (.block 1 (sq (rg [gm s9,ga 1 lE s9,gd l1,gm l0,gm l2] [(14,3),(13,4)]) (sq (r1 [gm oO,gx 349 [l0] bL,iR l1,gm l2,dt 3 rL,bP 3 (cC l4 bc),dt 3 l5,kX 6 2 s5,jC 6 l7,gmt 6 rL,bR 6 (hZ l9 bV),bR 6 (.ia 1 l8 l10),jC 6 gh,gmt 6 oO,bR 6 (rk iq jD),yD 3 l6 jZ,dL l3 lz] 15 16) (.cond qU (sq (r1 [gm (i6 11)] 3 0) .ret) .skip)))) (r1 [ar s9 bV,gm l0] 9 1))))))) (sq (r1 [gm bc] 3 0) .ret)))))⟩
def w443 {Γ:Ctx}(hm:(Γ.at 0).aY)(h211:I0 Γ)(h349:Aa Γ)(r:Rec)(w:bN)(al:Bool)  (hp0:w.sm):c7 Γ ze (.int .i64 (fW r w al)) [Rec.D r,bN.D w,.bool al]:=by
 show bq _ _ _ [⟨_,_⟩,⟨_,_⟩,⟨_,_⟩,_,_,_,_,_,_,_,_,_,_,_,_,_] _;refine ai ?_;refine eB ?_;refine ak (hc:=h211 r w.name w.range hp0.1.2) ?_;refine aQ ?_;refine ca (fun hc0=>?_) fun hc0=>?_
 ·refine aA ?_;refine ed ?_;rw[fW,if_pos hc0]
 refine aA ?_;intro u0;refine ax ?_;refine hX ?_;refine aQ ?_;refine aq (fun hc1=>?_) (fun hc1=>?_)
 ·have hq:(decide (w.feats.length≤6)&&(al ||decide (w.feats.length=0)))=false:=by rw[←Bool.not_eq_true',←Gr];exact hc1
  refine aI ?_;refine ed ?_;rw[fW,if_neg (by simp[hc0]),if_pos (by unfold iG;rw[hq];rfl)]
 have hq:(decide (w.feats.length≤6)&&(al ||decide (w.feats.length=0)))=true:=by rw[←Bool.not_eq_false',←Gr];exact hc1
 refine aA ?_;intro u1;refine au ?_;refine aV hm (ι:=Nat) (fun i=>[.un,.un,⟨true,.bool al⟩,.un,⟨true,.ptr 0 9 0 0⟩,⟨true,.ptr 1 4 0 0⟩,.un,.un,.un,⟨true,.int .i64 (i:Nat)⟩,⟨true,.int .i64 (w.feats.length:Nat)⟩,.un,⟨true,.sl 1 (w.feats.map D.str)⟩,.un,.un,.un]) (fun i=>[(0,.buf 9 [Rec.D r]),(1,.buf 4 [bN.D w])]) 30 (fun i=>i≤w.feats.length∧iG w.feats al=bJ (Ib w.feats) i w.feats.length) (fun i=>w.feats.length-i) 0 ⟨by omega,by unfold iG;rw[hq,Bool.true_and]⟩ (cI [(0,0),(1,1)]) ?_;rintro i ⟨hi,hr⟩;refine av ?_;refine ca (fun hc2=>?_) fun hc2=>?_
 ·refine eB ?_;refine ak (hc:=h349 _) ?_;refine cB ?_;refine bO (i-1) ?_;refine aA ?_;refine wp_cond (fun hc3=>?_) (fun hc3=>?_)
  ·have hz:Ib w.feats i=false:=by rw[←Bool.not_eq_true',←OK];exact hc3
   refine aA ?_;refine ed ?_;rw[fW,if_neg (by simp[hc0]),if_pos (by rw[hr,aD (by omega),hz];rfl)]
  have hz:Ib w.feats i=true:=by rw[←Bool.not_eq_false',←OK];exact hc3
  refine aQ ?_;exact⟨i+1,⟨by omega,by rw[hr,aD (by omega),hz];rfl⟩,by omega,(cI [(0,0),(1,1)])⟩
 refine aA ?_;refine ed ?_;rw[fW,if_neg (by simp[hc0]),if_neg (by rw[hr,bA (by omega)];simp)]
def LC (Γ:Ctx):Prop:=∀(r:Rec)(w:bN)(al:Bool),(w.sm)→Γ.pre 443 [Rec.D r,bN.D w,.bool al]∧Γ.val 443 [Rec.D r,bN.D w,.bool al]=.int .i64 (fW r w al)
def zb:az:=⟨2,16,[⟨2,none⟩],bL,(sq (rg [gb 9 s0,gb 3 s1,gm bc] [(10,0),(3,1),(2,2)]) (sq (sq (r1 [gf 0 s3,gd l0,gl l1,aH l2 bc] 4 3) (.cond s4 (sq (r1 [gm Db] 2 0) .ret) .skip)) (sq (sq (r1 [gf 0 s3,gd l0,gl l1,cg l2 kr] 5 3) (.cond s5 (sq (r1 [gm kr] 2 0) .ret) .skip)) (sq (sq (rg [gf 0 s3,gd l0,gl l1,gm bc] [(9,1),(7,2),(6,3)]) (.block 0 (.loop (sq (r1 [aJ s6 s7] 8 0) (sq (ek s8 0) (sq (.block 1 (sq (r1 [ga 4 s9 s6,gk 4 true l0,gb 4 (.c (.agg [.str [],.str [],.aF,.bool false])),gt 4 l2 l1] 11 2) (sq (r1 [gk 9 true jR,gk 4 true lf,gf 0 s3,gd l2,gl l3,aH l4 bV,gx 443 [l0,l1,l5] [[.a,.a,.a,.a,.a,.a,.sl 3 [.sl 4 [.a,.a,.sl 1 [.a],.a],.a,.a],.sl 3 [.a,.a,.a],.sl 2 [.a,.sl 1 [.a]]],[.a,.a,.sl 1 [.a],.a],[.a]],gm l6] 12 7) (sq (r1 [gm lE,bZ l0 bc] 13 1) (.cond oO (sq (r1 [gm lE,gm l0] 2 1) .ret) .skip))))) (r1 [ar s6 bV,gm l0] 6 1))))))) (sq (sq (r1 [gf 1 s3,gd l0,gx 212 [l1] bL,iR l2] 14 3) (.cond rL (sq (r1 [gm E1] 2 0) .ret) .skip)) (sq (sq (r1 [gf 2 s3,gd l0,bZ l1 cse,gm l2,kX 3 2 s3,jC 3 l4,bR 3 (.call 349 [l5] bL),bR 3 (.un .not l6),dG l3 l7] 15 8) (.cond qU (sq (r1 [gm (i6 14)] 2 0) .ret) .skip)) (sq (r1 [gm bc] 2 0) .ret)))))))⟩
def w210 {Γ:Ctx}(hm:(Γ.at 0).aY)(h212:I1 Γ)(h349:Aa Γ)(h443:LC Γ)(r:Rec)(n:bF)  (hp0:n.sm):c7 Γ zb (.int .i64 (eR r n)) [Rec.D r,bF.D n]:=by
 show bq _ _ _ [⟨_,_⟩,⟨_,_⟩,_,_,_,_,_,_,_,_,_,_,_,_,_,_] _;refine ai ?_;refine cB ?_;intro u0;refine au ?_;refine ca (fun hc0=>?_) fun hc0=>?_
 ·refine aI ?_;refine ed ?_;rw[eR,if_pos (by omega)]
 refine aA ?_;intro u1;refine au ?_;refine ca (fun hc1=>?_) fun hc1=>?_
 ·refine aI ?_;refine ed ?_;rw[eR,if_neg (by omega),if_pos (by omega)]
 refine aA ?_;intro u2;refine au ?_;refine aV hm (ι:=Nat) (fun i=>[.un,.un,.un,⟨true,.ptr 1 3 0 0⟩,.un,.un,⟨true,.int .i64 (i:Nat)⟩,⟨true,.int .i64 (n.any.length:Nat)⟩,.un,⟨true,.sl 4 (n.any.map bN.D)⟩,⟨true,.ptr 0 9 0 0⟩,.un,.un,.un,.un,.un]) (fun i=>[(0,.buf 9 [Rec.D r]),(1,.buf 3 [bF.D n])]) 15 (fun i=>i≤n.any.length∧lh r n.any=ig (fun i=>fW r n.any[i]! (decide ((n.any.length:Int)=1))) i n.any.length) (fun i=>n.any.length-i) 0 ⟨by omega,rfl⟩ (cI [(0,0),(1,1)]) ?_;rintro i ⟨hi,hr⟩;refine av ?_;refine ca (fun hc2=>?_) fun hc2=>?_
 ·refine ax ?_;first|refine bQ (v:=(bN.D _)) ?_|refine ef (v:=(bN.D _)) ?_
  refine aC ?_;refine aR (bN.D n.any[i]!) (he:=by exact rfl) ?_;refine aQ ?_;intro u3;refine aC ?_;refine ak (hc:=h443 r n.any[i]! _ (hp0.1 _ (bw (by omega)))) ?_;refine aA ?_;refine eW (fun hc3=>?_) fun hc3=>?_
  ·refine aQ ?_;refine ed ?_;have hw:lh r n.any=fW r n.any[i]! (decide ((n.any.length:Int)=1)):=by rw[hr,kn (by omega) hc3]
   rw[eR,if_neg (by omega),if_neg (by omega),if_pos (by rw[hw];exact hc3),hw]
  refine aQ ?_;exact⟨i+1,⟨by omega,by rw[hr,n8 (by omega) hc3]⟩,by omega,(cI [(0,0),(1,1)])⟩
 refine ax ?_;have hw0:lh r n.any=0:=by rw[hr,n7 (by omega)]
 refine au ?_;refine ak (hc:=h212 _) ?_;refine au ?_;refine aq (fun hc4=>?_) (fun hc4=>?_)
 ·try simp only[fo]at hc4
  refine aI ?_;refine ed ?_;rw[eR,if_neg (by omega),if_neg (by omega),if_neg (by simp[hw0]),if_pos hc4]
 simp only[Bool.not_eq_false']at hc4;refine cB ?_;refine ak (hc:=h349 _) ?_;refine av ?_;refine aq (fun hc5=>?_) (fun hc5=>?_)
 ·try simp only[fo]at hc5
  refine aI ?_;refine ed ?_;rw[eR,if_neg (by omega),if_neg (by omega),if_neg (by simp[hw0]),if_neg (by simp[hc4]),if_pos hc5]
 simp only[Bool.and_eq_false_iff,Bool.not_eq_false',decide_eq_true_eq]at hc5;refine aI ?_;refine ed ?_;rw[eR,if_neg (by omega),if_neg (by omega),if_neg (by simp[hw0]),if_neg (by simp[hc4]),if_neg (by rintro⟨g1,g2⟩;rcases hc5 with h|h;exact g1 h;rw[g2]at h;cases h)]
def Lo (Γ:Ctx):Prop:=∀(r:Rec)(n:bF),(n.sm)→Γ.pre 210 [Rec.D r,bF.D n]∧Γ.val 210 [Rec.D r,bF.D n]=.int .i64 (eR r n)
def za:az:=⟨2,15,[⟨2,none⟩],bL,(sq (rg [gb 9 s0,gm bc] [(3,0),(2,1)]) (sq (rg [gm s1,gx 448 [l0] bL,gm l1,ge l2 0,ge l2 1,ge l2 2,gm l3,gm l4,gm l5] [(8,6),(10,7)]) (sq (sq (rg [gf 6 s3,gd l0,gl l1,gm bc] [(7,1),(5,2),(4,3)]) (.block 0 (.loop (sq (r1 [aJ s4 s5] 6 0) (sq (ek s6 0) (sq (.block 1 (sq (r1 [ga 3 s7 s4,gk 3 true l0,gb 3 (.c (.agg [.aF,.str [],.str []])),gt 3 l2 l1] 9 2) (sq (r1 [gm s8,aH l0 lM,gm l1,kX 2 2 s9,jC 2 l3,gmt 2 jR,bR 2 (bY l4 l5),dG l2 l6,gm l7,dt 8 s8,bP 8 (bY l9 kr),dt 8 l10,kX 11 0 s9,jC 11 iq,bR 11 (.len jD),bR 11 (bY jZ bV),yD 8 gh lz,dt 8 mw,kX 17 0 s9,jC 17 pd,bR 17 (.ia 4 qk bc),kX 17 0 tt,jC 17 uU,gmt 17 jR,bR 17 (bY vJ zY),yD 8 oC zZ,dL l8 BW] 11 26) (.cond lf (sq (r1 [gm bc] 2 0) .ret) .skip)))) (r1 [ar s4 bV,gm l0] 4 1))))))) (sq (sq (r1 [gm s8] 12 0) (.block 2 (sq (r1 [aH lE lM,gm l0] 13 1) (.cond oO (sq (r1 [gm (i6 14)] 2 0) .ret) (sq (r1 [aH lE kr,gm l0] 14 1) (.cond rL (sq (r1 [gm (i6 16)] 2 0) .ret) .skip)))))) (sq (r1 [gm bc] 2 0) .ret)))))⟩
def w214 {Γ:Ctx}(hm:(Γ.at 0).aY)(h448:I5 Γ)(r:Rec)(s:ah)  (hp0:s.length≤1048576):c7 Γ za (.int .i64 (jq r s)) [Rec.D r,.str s]:=by
 show bq _ _ _ [⟨_,_⟩,⟨_,_⟩,_,_,_,_,_,_,_,_,_,_,_,_,_] _;refine ai ?_;refine aI ?_;refine ak (hc:=h448 s hp0) ?_;refine kN ?_;intro u0;refine au ?_;refine aV hm (ι:=Nat) (fun i=>[.un,.un,.un,⟨true,.ptr 0 9 0 0⟩,⟨true,.int .i64 (i:Nat)⟩,⟨true,.int .i64 (r.needs.length:Nat)⟩,.un,⟨true,.sl 3 (r.needs.map bF.D)⟩,⟨true,.int .i64 (b6 s).1⟩,.un,⟨true,.str (b6 s).2.1⟩,.un,.un,.un,.un]) (fun i=>[(0,.buf 9 [Rec.D r])]) 15 (fun i=>i≤r.needs.length∧jq r s=(if(r.needs.drop i).any (GB (b6 s).1 (b6 s).2.1)=true then 0 else J5 (b6 s).1)) (fun i=>r.needs.length-i) 0 ⟨by omega,E5 r s⟩ (cI [(0,0)]) ?_;rintro i ⟨hi,hr⟩;refine av ?_;refine ca (fun hc0=>?_) fun hc0=>?_
 ·refine ax ?_;first|refine bQ (v:=(bF.D _)) ?_|refine ef (v:=(bF.D _)) ?_
  refine aC ?_;refine aR (bF.D r.needs[i]!) (he:=by exact rfl) ?_;refine uK ?_;refine hX ?_;refine aI ?_;refine bO 0 (hb:=fun h=>by simp only[Bool.true_and,beq_iff_eq,Bool.and_eq_true,decide_eq_true_eq]at h;omega) ?_;refine aC ?_;refine bQ (q:=bN.D) (xs:=r.needs[i]!.any) (i:=0) (hi:=fun h=>by simp only[Bool.true_and,beq_iff_eq,Bool.and_eq_true,decide_eq_true_eq]at h;omega) (v:=(.str r.needs[i]!.any[0]!.name)) ?_;refine aI ?_;refine wp_cond (fun hc1=>?_) (fun hc1=>?_)
  ·have hz:GB (b6 s).1 (b6 s).2.1 r.needs[i]! =true:=hc1;refine aA ?_;refine ed ?_;rw[hr,wL (by omega) hz];rfl
  have hz:GB (b6 s).1 (b6 s).2.1 r.needs[i]! =false:=hc1;refine aQ ?_;exact⟨i+1,⟨by omega,by rw[hr,Af (by omega) hz]⟩,by omega,(cI [(0,0)])⟩
 refine ax ?_;have he:jq r s=J5 (b6 s).1:=by rw[hr,wK (by omega)];rfl
 refine aQ ?_;refine eW (fun hc2=>?_) fun hc2=>?_
 ·refine aI ?_;refine ed ?_;rw[he,J5,if_pos hc2]
 refine ax ?_;refine eW (fun hc3=>?_) fun hc3=>?_
 ·refine aI ?_;refine ed ?_;rw[he,J5,if_neg hc2,if_pos hc3]
 refine aA ?_;refine ed ?_;rw[he,J5,if_neg hc2,if_neg hc3]
def Lq (Γ:Ctx):Prop:=∀(r:Rec)(s:ah),(s.length≤1048576)→Γ.pre 214 [Rec.D r,.str s]∧Γ.val 214 [Rec.D r,.str s]=.int .i64 (jq r s)
end Go.Abs
end
section
namespace Go.Abs
open Go
def xx:az:=⟨1,39,[⟨1,none⟩,⟨2,none⟩],gL,(sq (rg [gb 9 s0,gm bc,gm bc] [(3,0),(1,1),(2,2)]) (sq (.block 0 (sq (r1 [gf 0 s3,gd l0,gx 208 [l1] bL,iR l2,gm l3] 4 4) (.cond s4 (sq (rg [gm tl,gm bc] [(1,0),(2,1)]) .ret) (sq (r1 [gf 1 s3,gk 5 true l0,gx 209 [l1] D7,iR l2,gm l3] 5 4) (.cond s5 (sq (rg [gm GA,gm bc] [(1,0),(2,1)]) .ret) (sq (r1 [gf 6 s3,gd l0,gl l1,cg l2 AB,gm l3,gT 4 7 s3,hJ 4 l5,bP 4 (.len l6),bP 4 (cC l7 AB),dL l4 l8,gm l9] 6 10) (.cond s6 (sq (rg [gm kr,gm bc] [(1,0),(2,1)]) .ret) .skip))))))) (sq (sq (rg [gf 6 s3,gd l0,gl l1,gm bc] [(10,1),(8,2),(7,3)]) (.block 1 (.loop (sq (r1 [aJ s7 s8] 9 0) (sq (ek s9 1) (sq (.block 2 (sq (rg [gm s7,ga 3 jR s7,gk 3 true l1,gb 3 (.c (.agg [.aF,.str [],.str []])),gm l0,gt 3 l3 l2] [(11,3),(14,4)]) (sq (r1 [gk 9 true s3,gk 3 true lf,gx 210 [l0,l1] [[.a,.a,.a,.a,.a,.a,.sl 3 [.sl 4 [.a,.a,.sl 1 [.a],.a],.a,.a],.sl 3 [.a,.a,.a],.sl 2 [.a,.sl 1 [.a]]],[.sl 4 [.a,.a,.sl 1 [.a],.a],.a,.a]],gm l2] 12 3) (sq (r1 [gm lE,bZ l0 bc] 13 1) (.cond oO (sq (rg [gm lE,gm rL,gm l0,gm l1] [(1,2),(2,3)]) .ret) .skip))))) (r1 [ar s7 bV,gm l0] 7 1))))))) (sq (sq (rg [gf 7 s3,gd l0,gl l1,gm bc] [(18,1),(16,2),(15,3)]) (.block 3 (.loop (sq (r1 [aJ qU z6] 17 0) (sq (ek zy 3) (sq (.block 4 (sq (rg [gm qU,ga 3 DP qU,gk 3 true l1,gb 3 (.c (.agg [.str [],.str [],.str []])),gm l0,gt 3 l3 l2] [(19,3),(22,4)]) (sq (sq (r1 [gk 9 true s3,gf 0 KL,gd l1,gf 1 KL,gd l3,gx 211 [l0,l2,l4] [[.a,.a,.a,.a,.a,.a,.sl 3 [.sl 4 [.a,.a,.sl 1 [.a],.a],.a,.a],.sl 3 [.a,.a,.a],.sl 2 [.a,.sl 1 [.a]]],[.a],[.a]],gm l5] 20 6) (sq (r1 [gm GD,bZ l0 bc] 21 1) (.cond s21 (sq (rg [gm GD,gm s22,gm l0,gm l1] [(1,2),(2,3)]) .ret) .skip))) (sq (r1 [gf 2 KL,gd l0,gx 212 [l1] bL,iR l2] 23 3) (.cond s23 (sq (rg [gm s22,gm E1,gm l0] [(1,1),(2,2)]) .ret) .skip))))) (r1 [ar qU bV,gm l0] 15 1))))))) (sq (sq (r1 [gf 8 s3,gd l0,gx 213 [l1] [[.sl 2 [.a,.sl 1 [.a]]]],iR l2] 24 3) (.cond K1 (sq (rg [gm (i6 11),gm bc] [(1,0),(2,1)]) .ret) .skip)) (sq (sq (rg [gf 8 s3,gd l0,gl l1,gm bc] [(28,1),(26,2),(25,3)]) (.block 5 (.loop (sq (r1 [aJ K2 Od] 27 0) (sq (ek s27 5) (sq (.block 6 (sq (rg [gm K2,ga 2 s28 K2,gk 2 true l1,gb 2 (.c (.agg [.str [],.aF])),gm l0,gt 2 l3 l2] [(29,3),(37,4)]) (sq (rg [gf 1 s29,gd l0,gl l1,gm bc] [(33,1),(31,2),(30,3)]) (.block 7 (.loop (sq (r1 [aJ IQ s31] 32 0) (sq (ek s32 7) (sq (.block 8 (sq (r1 [ga 1 s33 IQ,gd l0,gm l1] 34 2) (sq (r1 [gk 9 true s3,gm s34,gx 214 [l0,l1] [[.a,.a,.a,.a,.a,.a,.sl 3 [.sl 4 [.a,.a,.sl 1 [.a],.a],.a,.a],.sl 3 [.a,.a,.a],.sl 2 [.a,.sl 1 [.a]]],[.a]],gm l2] 35 3) (sq (r1 [gm s35,bZ l0 bc] 36 1) (.cond s36 (sq (rg [gm s35,gm s37,gm l0,gm l1] [(1,2),(2,3)]) .ret) .skip))))) (r1 [ar IQ bV,gm l0] 30 1))))))))) (r1 [ar K2 bV,gm l0] 25 1))))))) (sq (sq (r1 [gk 9 true s3,gx 215 [l0] [[.a,.a,.a,.a,.a,.a,.sl 3 [.sl 4 [.a,.a,.sl 1 [.a],.a],.a,.a],.sl 3 [.a,.a,.a],.sl 2 [.a,.sl 1 [.a]]]],lG l1,cg l2 (i6 4096)] 38 3) (.cond s38 (sq (rg [gm kr,gm bc] [(1,0),(2,1)]) .ret) .skip)) (sq (rg [gm bc,gm bc] [(1,0),(2,1)]) .ret))))))))⟩
def w70 {Γ:Ctx}(hm:(Γ.at 0).aY)(h208:GM Γ)(h209:Ei Γ)(h210:Lo Γ)(h211:I0 Γ)(h212:I1 Γ)(h213:Lp Γ)(h214:Lq Γ)(h215:I2 Γ)(r:Rec)  (hp0:dx r):c7 Γ xx (.tup [.int .i64 (bS r).1,.int .i64 (bS r).2]) [Rec.D r]:=by
 show bq _ _ _ (⟨true,Rec.D r⟩::.un::.un::.un::.un::.un::.un::.un::.un::.un::.un::.un::.un::.un::.un::.un::.un::.un::.un::.un::.un::.un::.un::.un::.un::.un::.un::.un::.un::.un::.un::.un::.un::.un::.un::.un::.un::.un::.un::[]) ⟨0,[]⟩;refine ai ?_;refine bt ?_;refine ak (hc:=h208 _) ?_;refine av ?_;refine wp_cond (fun hc0=>?_) (fun hc0=>?_)
 ·try simp only[fo]at hc0
  refine aA ?_;refine bC (aE (congrArg (D.int .i64) ?_) (congrArg (D.int .i64) ?_));all_goals (have hq:bS r=(4,0):=(by rw[bS,if_pos hc0]);rw[hq];first|done|rfl)
 simp only[Bool.not_eq_false']at hc0;refine au ?_;refine cX (v:=dc.D r.v) ?_;refine ak (hc:=h209 r.v hp0.1.2) ?_;refine av ?_;refine wp_cond (fun hc1=>?_) (fun hc1=>?_)
 ·try simp only[fo]at hc1
  refine aA ?_;refine bC (aE (congrArg (D.int .i64) ?_) (congrArg (D.int .i64) ?_));all_goals (have hq:bS r=(5,0):=(by rw[bS,if_neg (by simp[hc0]),if_pos hc1]);rw[hq];first|done|rfl)
 simp only[Bool.not_eq_false']at hc1;refine ax ?_;intro u0;refine ax ?_;refine hX ?_;refine ax ?_;refine eW (fun hc2=>?_) fun hc2=>?_
 ·refine aA ?_;refine bC (aE (congrArg (D.int .i64) ?_) (congrArg (D.int .i64) ?_));all_goals (have hq:bS r=(3,0):=(by rw[bS,if_neg (by simp[hc0]),if_neg (by simp[hc1]),if_pos (by omega)]);rw[hq];first|done|rfl)
 refine aQ ?_;intro u1;refine au ?_;refine aV hm (ι:=Nat) (fun i=>(.un::.un::.un::⟨true,.ptr 0 9 0 0⟩::.un::.un::.un::⟨true,.int .i64 (i:Nat)⟩::⟨true,.int .i64 (r.needs.length:Nat)⟩::.un::⟨true,.sl 3 (r.needs.map bF.D)⟩::.un::.un::.un::.un::.un::.un::.un::.un::.un::.un::.un::.un::.un::.un::.un::.un::.un::.un::.un::.un::.un::.un::.un::.un::.un::.un::.un::.un::[])) (fun i=>[(0,.buf 9 [Rec.D r])]) 28 (fun i=>i≤r.needs.length∧kD r=fA (fun i=>eR r r.needs[i]!) i r.needs.length) (fun i=>r.needs.length-i) 0 ⟨by omega,rfl⟩ (cI [(0,0)]) ?_;rintro i ⟨hi,hr⟩;refine av ?_;refine ca (fun hc3=>?_) fun hc3=>?_
 ·refine aI ?_;first|refine bQ (v:=(bF.D _)) ?_|refine ef (v:=(bF.D _)) ?_
  refine au ?_;refine aR (bF.D r.needs[i]!) (he:=by exact rfl) ?_;refine ax ?_;refine ak (hc:=h210 r r.needs[i]! (hp0.2.1 _ (bw (by omega)))) ?_;refine aA ?_;refine eW (fun hc4=>?_) fun hc4=>?_
  ·refine cB ?_;refine bC (aE (congrArg (D.int .i64) ?_) (congrArg (D.int .i64) ?_));all_goals
    have hq:bS r=(eR r r.needs[i]!,((i:Nat):Int)):=by
     exact lK hc0 hc1 (by omega) (by omega) (y0 (by rw[hr,gK (by omega) hc4]) hc4) hc4
    rw[hq];first|done|rfl
  refine aQ ?_;exact⟨i+1,⟨by omega,by rw[hr,j6 (by omega) hc4]⟩,by omega,(cI [(0,0)])⟩
 refine ax ?_;have hn0:kD r=(0,0):=by rw[hr,j5 (by omega)]
 refine av ?_;intro u2;refine au ?_;refine aV hm (ι:=Nat) (fun i=>(.un::.un::.un::⟨true,.ptr 0 9 0 0⟩::.un::.un::.un::.un::.un::.un::.un::.un::.un::.un::.un::⟨true,.int .i64 (i:Nat)⟩::⟨true,.int .i64 (r.bars.length:Nat)⟩::.un::⟨true,.sl 3 (r.bars.map iJ.D)⟩::.un::.un::.un::.un::.un::.un::.un::.un::.un::.un::.un::.un::.un::.un::.un::.un::.un::.un::.un::.un::[])) (fun i=>[(0,.buf 9 [Rec.D r])]) 33 (fun i=>i≤r.bars.length∧pL r=fA (fun i=>mL r r.bars[i]!) i r.bars.length) (fun i=>r.bars.length-i) 0 ⟨by omega,rfl⟩ (cI [(0,0)]) ?_;rintro i ⟨hi,hr⟩;refine av ?_;refine ca (fun hc5=>?_) fun hc5=>?_
 ·refine aI ?_;first|refine bQ (v:=(iJ.D _)) ?_|refine ef (v:=(iJ.D _)) ?_
  refine au ?_;refine aR (iJ.D r.bars[i]!) (he:=by exact rfl) ?_;refine bt ?_;refine ak (hc:=h211 r r.bars[i]!.name r.bars[i]!.range (hp0.2.2.1 _ (bw (by omega))).2.1) ?_;refine aQ ?_;refine aq (fun hc6=>?_) (fun hc6=>?_)
  ·simp only[Bool.not_eq_true',decide_eq_false_iff_not]at hc6;have hbe:mL r r.bars[i]! =dX r r.bars[i]!.name r.bars[i]!.range:=by rw[mL,if_pos hc6]
   refine gC ?_;refine bC (aE (congrArg (D.int .i64) ?_) (congrArg (D.int .i64) ?_));all_goals
    have hq:bS r=(dX r r.bars[i]!.name r.bars[i]!.range,((i:Nat):Int)):=by
     exact lK hc0 hc1 (by omega) (by omega) (tM hn0 (by rw[hr,gK (by omega) (by rw[hbe];exact hc6),hbe]) hc6) hc6
    rw[hq];first|done|rfl
  try simp only[fo]at hc6
  refine ax ?_;refine ak (hc:=h212 _) ?_;refine au ?_;refine wp_cond (fun hc7=>?_) (fun hc7=>?_)
  ·simp only[Bool.not_eq_true']at hc7;have hbe:mL r r.bars[i]! =7:=by rw[mL,if_neg (fun h=>h hc6),if_pos hc7]
   refine bt ?_;refine bC (aE (congrArg (D.int .i64) ?_) (congrArg (D.int .i64) ?_));all_goals
    have hq:bS r=((7:Int),((i:Nat):Int)):=by
     exact lK hc0 hc1 (by omega) (by omega) (tM hn0 (by rw[hr,gK (by omega) (by rw[hbe];decide),hbe]) (show(7:Int)≠0 by decide)) (show(7:Int)≠0 by decide)
    rw[hq];first|done|rfl
  simp only[Bool.not_eq_false']at hc7;have hbz:mL r r.bars[i]! =0:=by rw[mL,if_neg (fun h=>h hc6),if_neg (by rw[hc7];simp)]
  refine aQ ?_;exact⟨i+1,⟨by omega,by rw[hr,j6 (by omega) hbz]⟩,by omega,(cI [(0,0)])⟩
 refine ax ?_;have hb0:pL r=(0,0):=by rw[hr,j5 (by omega)]
 refine au ?_;refine ak (hc:=h213 r.feats hp0.2.2.2) ?_;refine au ?_;refine aq (fun hc8=>?_) (fun hc8=>?_)
 ·try simp only[fo]at hc8
  refine aA ?_;refine bC (aE (congrArg (D.int .i64) ?_) (congrArg (D.int .i64) ?_));all_goals
   have hq:bS r=(11,0):=by
    exact lK hc0 hc1 (by omega) (by omega) (y5 hn0 hb0 hc8) (by decide)
   rw[hq];first|done|rfl
 simp only[Bool.not_eq_false']at hc8;refine aA ?_;intro u3;refine au ?_;refine aV hm (ι:=Nat) (fun i=>(.un::.un::.un::⟨true,.ptr 0 9 0 0⟩::.un::.un::.un::.un::.un::.un::.un::.un::.un::.un::.un::.un::.un::.un::.un::.un::.un::.un::.un::.un::.un::⟨true,.int .i64 (i:Nat)⟩::⟨true,.int .i64 (r.feats.length:Nat)⟩::.un::⟨true,.sl 2 (r.feats.map bz.D)⟩::.un::.un::.un::.un::.un::.un::.un::.un::.un::.un::[])) (fun i=>[(0,.buf 9 [Rec.D r])]) 42 (fun i=>i≤r.feats.length∧wZ r=fA (fun i=>im r r.feats[i]!.of) i r.feats.length) (fun i=>r.feats.length-i) 0 ⟨by omega,rfl⟩ (cI [(0,0)]) ?_;rintro i ⟨hi,hr⟩;refine av ?_;refine ca (fun hc9=>?_) fun hc9=>?_
 ·refine aI ?_;first|refine bQ (v:=(bz.D _)) ?_|refine ef (v:=(bz.D _)) ?_
  refine au ?_;refine aR (bz.D r.feats[i]!) (he:=by exact rfl) ?_;refine aI ?_;intro u4;refine au ?_;refine ll hm (ι:=Nat) (fun j=>(.un::.un::.un::⟨true,.ptr 0 9 0 0⟩::.un::.un::.un::.un::.un::.un::.un::.un::.un::.un::.un::.un::.un::.un::.un::.un::.un::.un::.un::.un::.un::⟨true,.int .i64 (i:Nat)⟩::⟨true,.int .i64 (r.feats.length:Nat)⟩::.un::⟨true,.sl 2 (r.feats.map bz.D)⟩::.un::⟨true,.int .i64 (j:Nat)⟩::⟨true,.int .i64 (r.feats[i]!.of.length:Nat)⟩::.un::⟨true,.sl 1 (r.feats[i]!.of.map D.str)⟩::.un::.un::.un::⟨true,.int .i64 (i:Nat)⟩::.un::[])) (fun j=>[(0,.buf 9 [Rec.D r])]) 53 (fun j=>j≤r.feats[i]!.of.length∧im r r.feats[i]!.of=ig (fun j=>jq r r.feats[i]!.of[j]!) j r.feats[i]!.of.length) (fun j=>r.feats[i]!.of.length-j) 0 ⟨by omega,rfl⟩ (cI [(0,0)]) ?_;rintro j ⟨hj,hjr⟩;refine av ?_;refine ca (fun hc10=>?_) fun hc10=>?_
  ·refine gC ?_;refine ak (hc:=h214 r r.feats[i]!.of[j]! ((hp0.2.2.2 _ (bw (by omega))).2.2 _ (bw (by omega)))) ?_;refine aA ?_;refine eW (fun hc11=>?_) fun hc11=>?_
   ·refine eB ?_;refine bC (aE (congrArg (D.int .i64) ?_) (congrArg (D.int .i64) ?_));all_goals
     have hq:bS r=(jq r r.feats[i]!.of[j]!,((i:Nat):Int)):=by
      have hie:im r r.feats[i]!.of=jq r r.feats[i]!.of[j]! :=by rw[hjr,kn (by omega) hc11]
      exact lK hc0 hc1 (by omega) (by omega) (qd hn0 hb0 hc8 (by rw[hr,gK (f:=(fun i=>im r r.feats[i]!.of)) (by omega) (by rw[hie];exact hc11),hie])) hc11
     rw[hq];first|done|rfl
   refine aQ ?_;exact⟨j+1,⟨by omega,by rw[hjr,n8 (by omega) hc11]⟩,by omega,(cI [(0,0)])⟩
  refine bt ?_;exact⟨i+1,⟨by omega,by rw[hr,j6 (f:=(fun i=>im r r.feats[i]!.of)) (by omega) (by rw[hjr,n7 (by omega)])]⟩,by omega,(cI [(0,0)])⟩
 refine ax ?_;have hpz:cT r=(0,0):=qd hn0 hb0 hc8 (by rw[hr,j5 (by omega)]);have hgd:oM r:=⟨⟨hc0,hc1⟩,⟨by omega,by omega⟩,hpz⟩;refine aC ?_;refine ak (hc:=h215 r ⟨hgd,hp0⟩) ?_;refine aC ?_;intro u5;refine au ?_;refine ca (fun hc12=>?_) fun hc12=>?_
 ·refine aA ?_;refine bC (aE (congrArg (D.int .i64) ?_) (congrArg (D.int .i64) ?_));all_goals
   have hq:bS r=(3,0):=by
    rw[pQ hc0 hc1 (by omega) (by omega) hpz,if_pos (by omega)]
   rw[hq];first|done|rfl
 refine aA ?_;refine bC (aE (congrArg (D.int .i64) ?_) (congrArg (D.int .i64) ?_));all_goals
  have hq:bS r=(0,0):=by
   rw[pQ hc0 hc1 (by omega) (by omega) hpz,if_neg (by omega)]
  rw[hq];first|done|rfl
def C70 (Γ:Ctx):Prop:=∀(r:Rec),(dx r)→Γ.pre 70 [Rec.D r]∧Γ.val 70 [Rec.D r]=.tup [.int .i64 (bS r).1,.int .i64 (bS r).2]
end Go.Abs
end
section
namespace Go.Abs
open Go
def xy:az:=⟨1,12,[⟨1,some (9,true)⟩,⟨2,none⟩,⟨3,none⟩],[[.a,.a,.a,.a,.a,.a,.sl 3 [.sl 4 [.a,.a,.sl 1 [.a],.a],.a,.a],.sl 3 [.a,.a,.a],.sl 2 [.a,.sl 1 [.a]]],[.a],[.a]],(sq (rg [gb 9 (.c (.agg [.str [],.int .i64 0,.int .i64 0,.int .i64 0,.str [],.str [],.aF,.aF,.aF])),gm bc,gm bc] [(1,0),(2,1),(3,2)]) (sq (sq (r1 [gm s0,lG l0,cg l1 (i6 4096)] 4 2) (.cond s4 (sq (rg [gn (.build [.str [],.int .i64 0,.int .i64 0,.int .i64 0,.str [],.str [],.aF,.aF,.aF] []),gt 9 s1 l0,gm kr,gm bc] [(2,2),(3,3)]) .ret) .skip)) (sq (r1 [gm s0,gx 124 [l0,(cs [10])] gL,gm l1] 5 2) (sq (r1 [gm s5,gm s5,gl l1,dN l2 bV,gn (.slA 1 l0 none (some l3)),gn (.build [.aF,.int .i64 0] [(0,1,l4)]),gb 2 l5,gm l6] 6 7) (sq (rg [gm s6,gn (.callF 222 l0 [] []),gm l1,ge l2 0,ge l2 1,gb 9 (.c (.agg [.str [],.int .i64 0,.int .i64 0,.int .i64 0,.str [],.str [],.aF,.aF,.aF])),gt 9 l5 l3,gm l4] [(9,5),(7,7)]) (sq (sq (r2 [gm s7,iR l0,gm l1,dt 2 s6,bP 2 (.nilck l3),gT 2 1 l4,hJ 2 l5,dt 2 s6,bP 2 (.nilck l7),gT 2 0 l8,hJ 2 l9,bP 2 (.len l10),bP 2 (pK l6 gh),dL l2 iq,gm jD,dt 14 s5,dt 14 s5,bP 14 (.len mw),bP 14 (hZ oC bV),bP 14 (.ia 1 lz pd),hJ 14 qk,bP 14 (eF tt cse),dL jZ uU] 8 22) (.cond s8 (sq (rt [gn (.build [.str [],.int .i64 0,.int .i64 0,.int .i64 0,.str [],.str [],.aF,.aF,.aF] []),gm s6,gc l1,gf 1 l2,gn (.ldI 1 false l3),ar l4 bV,gt 9 s1 l0,gm lM,gm l5] [(2,7),(3,8)]) .ret) .skip)) (sq (sq (r1 [gk 9 true s9,gx 70 [l0] [[.a,.a,.a,.a,.a,.a,.sl 3 [.sl 4 [.a,.a,.sl 1 [.a],.a],.a,.a],.sl 3 [.a,.a,.a],.sl 2 [.a,.sl 1 [.a]]]],gm l1,ge l2 0,ge l2 1,gm l3,gm l4] 10 5) (sq (r1 [gm jR,bZ l0 bc] 11 1) (.cond lf (sq (rg [gn (.build [.str [],.int .i64 0,.int .i64 0,.int .i64 0,.str [],.str [],.aF,.aF,.aF] []),gm jR,gt 9 s1 l0,gm l1,gm bc] [(2,3),(3,4)]) .ret) .skip))) (sq (rg [gk 9 true s9,gt 9 s1 l0,gm bc,gm bc] [(2,2),(3,3)]) .ret))))))))⟩
def w76 {Γ:Ctx}(hm:(Γ.at 0).aY)(h70:C70 Γ)(h124:Eh Γ)(h222:Lu Γ)(s:ah)   :c7 Γ xy (.tup [Rec.D (iw s).1,.int .i64 (iw s).2.1,.int .i64 (iw s).2.2]) [.str s]:=by
 show bq _ _ _ [⟨_,_⟩,_,_,_,_,_,_,_,_,_,_,_] _;refine ai ?_;refine bt ?_;intro u0;refine au ?_;refine aq (fun hc0=>?_) (fun hc0=>?_)
 ·simp only[decide_eq_true_eq]at hc0;have hrr:iw s=(oF,3,0):=by unfold iw;rw[if_pos (by omega)]
  rw[hrr];refine au ?_;refine bo eh ?_;refine aR eh (he:=by exact rfl) ?_;refine av ?_;refine qi [(0,.buf 9 [Rec.D oF])] (.bf ae (.cons qe .nil) .nil) ?_;refine aC ?_;refine bC (gF ?_ (congrArg (D.int .i64) ?_) (congrArg (D.int .i64) ?_));all_goals rfl
 simp only[decide_eq_false_iff_not]at hc0;have hsp:=eM 10 s [];have hsp:1≤(aj s 10).length:=hsp;have hsl:=cG s 10;refine av ?_;refine ak (v:=.sl 1 ((aj s 10).map D.str)) (hc:=h124 s 10 (by omega)) ?_;refine aA ?_;intro u1;refine aC ?_;refine tX ((aj s 10).length-1) (hj:=fun _=>by omega) (hb:=fun _=>by omega) ?_;refine bo (Ld.D ⟨((aj s 10).take ((aj s 10).length-1)),0⟩) ?_;refine ax ?_;generalize hLS:((aj s 10).take ((aj s 10).length-1))=LS;have hLl:LS.length=(aj s 10).length-1:=by rw[←hLS,List.length_take];omega
 have hLm:wI LS:=fun t ht=>by
  rw[←hLS]at ht;have:=dE s 10 (List.mem_of_mem_take ht);omega
 have hsm0:(⟨LS,0⟩:Ld).sm:=⟨⟨Nat.zero_le _,by simp only;omega⟩,hLm⟩;obtain⟨hrs,hsf⟩:=HW hLm;have hsfl:=hsf.length_le;refine aC ?_;refine j3 (v:=.tup [Rec.D (fm LS).1,.bool (qR LS).isSome]) (e:=Ld.D ((⟨LS,0⟩:Ld).to (fm LS).2)) (hc:=h222 ⟨LS,0⟩ hsm0) ?_;refine aC ?_;refine eS (Rec.D _) ?_;refine au ?_;refine aR (Rec.D (fm LS).1) (he:=by exact rfl) ?_;refine gC ?_;refine cX (v:=.int .i64 ((LS.length-(fm LS).2.length:Nat):Int)) ?_;refine av ?_;refine cX (v:=.sl 1 (LS.map D.str)) ?_;refine hX ?_;refine aI ?_;refine hX ?_;refine aC ?_;refine bO ((aj s 10).length-1) (hj:=fun _=>by omega) (hb:=fun _=>by omega) ?_;refine bQ (v:=.str (aj s 10)[(aj s 10).length-1]!) (hi:=fun _=>by omega) ?_;refine av ?_;refine aq (fun hc1=>?_) (fun hc1=>?_)
 ·simp only[Bool.or_eq_true,Bool.not_eq_true',decide_eq_true_eq,decide_eq_false_iff_not]at hc1;have hrr:iw s=(oF,2,((LS.length-(fm LS).2.length:Nat):Int)+1):=by
   unfold iw;rw[if_neg (by omega)];simp only[hLS];rw[if_pos];rcases hc1 with(h|h)|h
   ·exact .inl h
   ·refine .inr (.inl fun e=>?_);rw[e]at h;simp only[List.length_nil]at h;omega
   ·exact .inr (.inr h)
  rw[hrr];refine aC ?_;refine fM 15 (he:=by simp only[lF,gZ,kO,mn,ny,cd,Nat.reduceEqDiff,if_true,if_false,and_self,true_and,and_true,false_and,and_false,Nat.zero_add,List.length_map,Nat.le_refl,List.drop_zero,aP,reduceCtorEq,List.length_cons,List.length_nil,Nat.reduceAdd,Nat.reduceLeDiff,Ld.D,eh,lT];exact rfl) (hm:=by simp only[lF,gZ,kO,mn,ny,cd,Nat.reduceEqDiff,if_true,if_false,and_self,true_and,and_true,false_and,and_false,Nat.zero_add,List.length_map,Nat.le_refl,List.drop_zero,aP,reduceCtorEq,List.length_cons,List.length_nil,Nat.reduceAdd,Nat.reduceLeDiff,Ld.D,eh,Rec.D];exact rfl) ?_;refine aC ?_;refine bo eh ?_;refine av ?_;refine AW (v:=.int .i64 ((LS.length-(fm LS).2.length:Nat):Int)) ?_;refine aC ?_;refine aR eh (he:=by exact rfl) ?_;refine av ?_;refine qi [(0,.buf 9 [Rec.D oF]),(22,.buf 9 [Rec.D (fm LS).1])] (.bf ae (.cons qe .nil) (.id ae .nil)) ?_;refine aC ?_;refine bC (gF ?_ (congrArg (D.int .i64) ?_) (congrArg (D.int .i64) ?_));all_goals rfl
 simp only[Bool.or_eq_false_iff,Bool.not_eq_false',decide_eq_true_eq,decide_eq_false_iff_not]at hc1;have hrr:iw s=if(bS (fm LS).1).1≠0 then(oF,(bS (fm LS).1).1,0)else((fm LS).1,0,0):=by
  unfold iw;rw[if_neg (by omega)];simp only[hLS];rw[if_neg];rintro(h|h|h)
  ·rw[hc1.1.1]at h;cases h
  ·exact h (List.eq_nil_of_length_eq_zero (by have:=hc1.1.2;omega))
  ·exact h hc1.2
 rw[hrr];refine av ?_;refine cM (d:=Rec.D (fm LS).1) ?_;refine ak (hc:=h70 (fm LS).1 hrs) ?_;refine eB ?_;refine aq (fun hc2=>?_) (fun hc2=>?_)
 ·simp only[Bool.not_eq_true',decide_eq_false_iff_not]at hc2;rw[if_pos hc2];refine au ?_;refine bo eh ?_;refine aC ?_;refine aR eh (he:=by exact rfl) ?_;refine av ?_;refine qi [(0,.buf 9 [Rec.D oF]),(15,.buf 2 [Ld.D ((⟨LS,0⟩:Ld).to (fm LS).2)]),(22,.buf 9 [Rec.D (fm LS).1])] (.bf ae (.cons qe .nil) (.id ae (.id ae .nil))) ?_;refine aC ?_;refine bC (gF ?_ (congrArg (D.int .i64) ?_) (congrArg (D.int .i64) ?_));all_goals rfl
 simp only[Bool.not_eq_false',decide_eq_true_eq]at hc2;rw[if_neg (by rw[hc2];simp)];refine au ?_;refine cM (d:=Rec.D (fm LS).1) ?_;refine aR (Rec.D (fm LS).1) (he:=by exact rfl) ?_;refine ax ?_;refine bC (gF ?_ (congrArg (D.int .i64) ?_) (congrArg (D.int .i64) ?_));all_goals rfl
def C76 (Γ:Ctx):Prop:=∀(s:ah),Γ.pre 76 [.str s]∧Γ.val 76 [.str s]=.tup [Rec.D (iw s).1,.int .i64 (iw s).2.1,.int .i64 (iw s).2.2]
end Go.Abs
end
namespace Go.Abs
end Go.Abs
section
namespace Go.Abs
open Go
end Go.Abs
end
section
namespace Go.Abs
def RdS.ok (x:RdS):Prop:=(x.st=0→x.r.needs=[]∧x.r.bars=[]∧x.r.feats=[])∧((x.st=2∨x.st=3)→x.r.needs≠[])∧(x.st=5→x.r.bars≠[])
end Go.Abs
namespace Go.Abs
end Go.Abs
end
section
namespace Go.Abs
def Eu (ob:yc):Prop:=∀(σ:List (Nat×Nat))(l l':Nat)(w:List ah)(n:Nat)(b:Bool),lD 0 σ l=some l'→qT 0 σ (ob w (.own l 5 0 n) b)=some (ob w (.own l' 5 0 n) b)
def nH:Eu eO:=fun σ l l' w n b h=>by simp only[eO,qT,pB,DO,h]
def pz (W:List ah):Eu (fk W):=fun σ l l' w n b h=>by simp only[fk,qT,pB,DO,h]
def F7:D→Nat
 | .agg [.sl _ ws,_,_]=>ws.length
 | .agg [.sl _ ws,.int _ i,_,_]=>ws.length-i.toNat
 |_=>0
def xi (c:List D→Nat)(ds:List D)(st:St):Nat:=match ds with
 | .ptr l _ _ _::Yk=>(match look st.m l with
  |some (.buf _ [o])=>6*F7 o+c Yk
  |_=>0)
 |_=>0
def H0 (w:List ah)(X:D)(b:Bool):F7 (eO w X b)=w.length:=by simp[F7,eO]
def H2 {W w:List ah}(h:w<:+W)(X:D)(b:Bool):F7 (fk W w X b)=w.length:=by
 have:=h.length_le;simp only[F7,fk,List.length_map,Int.toNat_natCast];omega
def kB {c:List D→Nat}{l k nx:Nat}{Yk:List D}{m:List (Nat×bj)}{w:List ah}{X:D}{b:Bool}(h:look m l=some (.buf k [eO w X b])):xi c (.ptr l k 0 0::Yk) ⟨nx,m⟩=6*w.length+c Yk:=by
 simp only[xi,h,H0]
def ph {c:List D→Nat}{l k nx:Nat}{Yk:List D}{m:List (Nat×bj)}{W w:List ah}{X:D}{b:Bool}(hw:w<:+W)(h:look m l=some (.buf k [fk W w X b])):xi c (.ptr l k 0 0::Yk) ⟨nx,m⟩=6*w.length+c Yk:=by
 simp only[xi,h,H2 hw]
def AN (nd:List Nd):aU (nd.map Nd.D)=true:=bX (fun _=>rfl) _
section
variable [ct] {P:Program} {ν:List (Nat×Nat)} {bT:List Nat} {t:List (Nat×ox)} {fid n key u k:Nat} {af:az} {ob:yc} {Yk:List D} {w:List ah} {nd:List Nd} {b:Bool} {lp ln nx:Nat} {m:List (Nat×bj)} {K:D→St→Prop} {Pp:PO→Prop} {V:PO→D}
def FE (hob:Eu ob)(hk5:k≠5)(has:aU Yk=true)(h1:look m lp=some (.buf k [ob w (.own ln 5 0 nd.length) b]))(h2:look m ln=some (.buf 5 (nd.map Nd.D))):
  lp≠ln∧(∀i,i<(D.ptr lp k 0 0::Yk).length→Gz 0 [(lp,0),(ln,1)] ((D.ptr lp k 0 0::Yk).getD i .any) ((D.ptr 0 k 0 0::Yk).getD i .any))∧fN 0 2 [(lp,0),(ln,1)]=true∧(∀l i,(l,i)∈[(lp,0),(ln,1)]→look m l≠none)∧
   ∀i bb,look [(0,.buf k [ob w (.own 1 5 0 nd.length) b]),(1,.buf 5 (nd.map Nd.D))] i=some bb→∃l b',(l,i)∈[(lp,0),(ln,1)]∧look m l=some b'∧oI 0 [(lp,0),(ln,1)] b' bb:=by
 have hne:lp≠ln:=by
  rintro rfl;rw[h1]at h2;exact hk5 (bj.buf.inj (Option.some.inj h2)).1
 have hb:Nat.beq lp ln=false:=by cases h:Nat.beq lp ln with
  |false=>rfl
  |true=>exact absurd (Nat.eq_of_beq_eq_true h) hne
 have hb':Nat.beq ln lp=false:=by cases h:Nat.beq ln lp with
  |false=>rfl
  |true=>exact absurd (Nat.eq_of_beq_eq_true h).symm hne
 refine⟨hne,fun i hi=>?_, ?_,fun l i h=>?_,fun i bb h=>?_⟩
 ·match i with
  |0=>exact .inr (.inl (by simp[qT,DO,lD]))
  |i+1=>exact .inl ⟨rfl,cq has i⟩
 ·simp[fN,hb,hb'];rfl
 ·rcases List.mem_cons.1 h with h|h
  ·obtain⟨rfl,rfl⟩:=Prod.mk.inj h;rw[h1];simp
  ·obtain⟨rfl,rfl⟩:=Prod.mk.inj (List.mem_singleton.1 h);rw[h2];simp
 ·simp only[look]at h;split at h
  ·rename_i e;subst e;obtain rfl:=Option.some.inj h;exact⟨lp,_,.head _,h1,rfl,.inr (.inl (by simp only[pB,hob _ ln 1 w nd.length b (show lD 0 [(lp,0),(ln,1)] ln=some 1 by simp[lD,hb])]))⟩
  ·split at h
   ·rename_i e;subst e;obtain rfl:=Option.some.inj h;exact⟨ln,_,.tail _ (.head _),h2,rfl,.inl ⟨rfl,AN nd⟩⟩
   ·cases h
def dR (hob:Eu ob)(hk5:k≠5)(has:aU Yk=true)(hV:∀o,(V o).aW=true)(hmix:P.follows .mixedOrders=true)(hC:Eo P ν bT fid af)(hnp:Yk.length+1=af.np)
  (h1:look m lp=some (.buf k [ob w (.own ln 5 0 nd.length) b])) (h2:look m ln=some (.buf 5 (nd.map Nd.D))) (h3:lp<nx) (h4:ln<nx)
  (hK:∀o,Pp o→K (V o) ⟨nx+1,(nx,.buf 5 (o.nd.map Nd.D))::cw (cd m ln) lp (.buf k [ob o.w (.own nx 5 0 o.nd.length) o.bad])⟩)
  (hw:bq ((under t key u).at 2) af.body (kQ af (rR k ob Pp V)) (ei af (.ptr 0 k 0 0::Yk)) ⟨2,[(0,.buf k [ob w (.own 1 5 0 nd.length) b]),(1,.buf 5 (nd.map Nd.D))]⟩):mY P ν bT (under t key u) fid (.ptr lp k 0 0::Yk) ⟨nx,m⟩ K:=by
 obtain⟨hne,g2,g3,g4,g5⟩:=FE hob hk5 has h1 h2;refine yF (σi:=[(lp,0),(ln,1)]) (cs:=.ptr 0 k 0 0::Yk) (fun q=>aG t key u q) hmix hC (by simp) g2 (by simpa using hnp) g3 g4 g5 hw ?_;rintro d m1 ⟨o,j,hj,hP,rfl,e0,ej⟩;have hb0:Nat.beq 0 j=false:=by cases j<;>first|omega|rfl
 have hbj:Nat.beq j 0=false:=by cases j<;>first|omega|rfl
 have hbl:Nat.beq lp nx=false:=by cases h:Nat.beq lp nx with
  |false=>rfl
  |true=>have:=Nat.eq_of_beq_eq_true h;omega
 have hbl':Nat.beq nx lp=false:=by cases h:Nat.beq nx lp with
  |false=>rfl
  |true=>have:=Nat.eq_of_beq_eq_true h;omega
 refine⟨[(0,lp),(j,nx)],j+1,_,V o,⟨g3, ?_,Nat.le_succ _,g4, ?_,g5, ?_⟩,.inl ⟨rfl,hV o⟩,hK o hP⟩
 ·simp[fN,hbj,hb0,hbl,hbl'];omega
 ·intro i l h;rcases List.mem_cons.1 h with h|h
  ·obtain⟨rfl,rfl⟩:=Prod.mk.inj h;exact .inl (.head _)
  ·obtain⟨rfl,rfl⟩:=Prod.mk.inj (List.mem_singleton.1 h);exact .inr (Nat.le_refl _)
 ·intro l bb h;simp only[look]at h;split at h
  ·rename_i e;subst e;obtain rfl:=Option.some.inj h;exact .inl ⟨j,_,.tail _ (.head _),ej,rfl,.inl ⟨rfl,AN _⟩⟩
  ·rename_i hln;rw[bG]at h;split at h
   ·rename_i e;subst e;obtain rfl:=Option.some.inj h;exact .inl ⟨0,_,.head _,e0,rfl,.inr (.inl (by simp only[pB,hob _ j nx o.w o.nd.length o.bad (show lD 0 [(0,l),(j,nx)] j=some nx by simp[lD,hb0])]))⟩
   ·rename_i hlp;rw[eu]at h;split at h
    ·cases h
    ·rename_i hl2;refine .inr ⟨by simp only[kt,if_neg (fun e=>hlp (Eq.symm e)),if_neg hln],fun i hi=>?_,h⟩;rcases List.mem_cons.1 hi with hi|hi
     ·exact hlp (Prod.mk.inj hi).1
     ·exact hl2 (Prod.mk.inj (List.mem_singleton.1 hi)).1
def qO (hob:Eu ob)(hk5:k≠5)(has:aU Yk=true)(hV:∀o,(V o).aW=true)(hmix:P.follows .mixedOrders=true)(hC:Eo P ν bT fid af)(hnp:Yk.length+1=af.np)
  (h1:look m lp=some (.buf k [ob w (.own ln 5 0 nd.length) b])) (h2:look m ln=some (.buf 5 (nd.map Nd.D))) (h3:lp<nx) (h4:ln<nx)
  (hK:∀o,Pp o→K (V o) ⟨nx,cw m lp (.buf k [ob o.w (.own ln 5 0 nd.length) o.bad])⟩)
  (hw:bq ((under t key u).at 2) af.body (kQ af (By k ob nd Pp V)) (ei af (.ptr 0 k 0 0::Yk)) ⟨2,[(0,.buf k [ob w (.own 1 5 0 nd.length) b]),(1,.buf 5 (nd.map Nd.D))]⟩):mY P ν bT (under t key u) fid (.ptr lp k 0 0::Yk) ⟨nx,m⟩ K:=by
 obtain⟨hne,g2,g3,g4,g5⟩:=FE hob hk5 has h1 h2;refine yF (σi:=[(lp,0),(ln,1)]) (cs:=.ptr 0 k 0 0::Yk) (fun q=>aG t key u q) hmix hC (by simp) g2 (by simpa using hnp) g3 g4 g5 hw ?_;rintro d m1 ⟨o,hP,rfl,e0,ej⟩;have hbl:Nat.beq lp ln=false:=by cases h:Nat.beq lp ln with
  |false=>rfl
  |true=>exact absurd (Nat.eq_of_beq_eq_true h) hne
 have hbl':Nat.beq ln lp=false:=by cases h:Nat.beq ln lp with
  |false=>rfl
  |true=>exact absurd (Nat.eq_of_beq_eq_true h).symm hne
 refine⟨[(0,lp),(1,ln)],2,⟨nx,cw m lp (.buf k [ob o.w (.own ln 5 0 nd.length) o.bad])⟩,V o,⟨g3, ?_,Nat.le_refl _,g4, ?_,g5, ?_⟩,.inl ⟨rfl,hV o⟩,hK o hP⟩
 ·simp[fN,hbl,hbl'];exact⟨h3,rfl,h4⟩
 ·intro i l h;rcases List.mem_cons.1 h with h|h
  ·obtain⟨rfl,rfl⟩:=Prod.mk.inj h;exact .inl (.head _)
  ·obtain⟨rfl,rfl⟩:=Prod.mk.inj (List.mem_singleton.1 h);exact .inl (.tail _ (.head _))
 ·intro l bb h;simp only at h;rw[bG]at h;split at h
  ·rename_i e;subst e;obtain rfl:=Option.some.inj h;exact .inl ⟨0,_,.head _,e0,rfl,.inr (.inl (by simp only[pB,hob _ 1 ln o.w nd.length o.bad (show lD 0 [(0,l),(1,ln)] 1=some ln from rfl)]))⟩
  ·rename_i hlp;by_cases hl2:l=ln
   ·subst hl2;rw[h2]at h;obtain rfl:=Option.some.inj h;exact .inl ⟨1,_,.tail _ (.head _),ej,rfl,.inl ⟨rfl,AN _⟩⟩
   ·refine .inr ⟨by simp only[kt,if_neg (fun e=>hlp (Eq.symm e)),if_neg (fun e=>hl2 (Eq.symm e))],fun i hi=>?_,h⟩;rcases List.mem_cons.1 hi with hi|hi
    ·exact hlp (Prod.mk.inj hi).1
    ·exact hl2 (Prod.mk.inj (List.mem_singleton.1 hi)).1
def ng {a b:Nat}(h:a≠b):Nat.beq a b=false:=by
 cases h2:Nat.beq a b with
 |false=>rfl
 |true=>exact absurd (Nat.eq_of_beq_eq_true h2) h
def uh {m:List (Nat×bj)}{l lw:Nat}(h:l≠lw):dP (cd m lw) l=match look m l with
 |some (.bld (some l2) _ _)=>cd (cd m lw) l2
 |_=>cd m lw:=by
 haveI:ct:={gd:=fun _=>True,le:=fun _ _ _ _ _=>trivial}
 unfold dP;rw[eu,if_neg h];cases look m l with
 |none=>rfl
 |some b=>cases b with
  |bld o n u=>cases o<;>rfl
  |_=>rfl
def De {ws:List ah}{s:ah}{l lw:Nat}(hmix:P.follows .mixedOrders=true)(hC:Eo P ν bT fid af)(hnp:2=af.np)
  (h1:oH m l s) (h2:look m lw=some (.buf 1 (ws.map D.str))) (h3:l<nx) (h4:lw<nx) (hK:K (.tup []) ⟨nx+1,nj (cd m lw) l nx (s++bK ws)⟩)
  (hw:∀m0,oH m0 0 s→look m0 1=some (.buf 1 (ws.map D.str))→bq ((under t key u).at 3) af.body (kQ af (fun d m=>d=.tup []∧look m 0=some (.bld (some 9) (s++bK ws).length true)∧look m 9=some (.row (s++bK ws)))) (ei af [.ptr 0 2 0 0,.own 1 1 0 ws.length]) ⟨3,m0⟩):
  mY P ν bT (under t key u) fid [.ptr l 2 0 0,.own lw 1 0 ws.length] ⟨nx,m⟩ K:=by
 have hlw:l≠lw:=by
  rintro rfl;rcases h1 with⟨u,h,_⟩|⟨l2,u,h,_⟩<;>rw[h2]at h<;>cases h
 have hnl:aU (ws.map D.str)=true:=bX (fun _=>rfl) _;have b1:=ng hlw;have b2:=ng (Ne.symm hlw);have b3:=ng (show l≠nx by omega);have b4:=ng (show nx≠l by omega)

 have fin:∀(σi:List (Nat×Nat)) (m0:List (Nat×bj)),fN 0 3 σi=true→(l,0)∈σi→(∀l i,(l,i)∈σi→look m l≠none)→(∀i b,look m0 i=some b→∃l b',(l,i)∈σi∧look m l=some b'∧oI 0 σi b' b)→
   (∀l' b,look (dP (cd m lw) l) l'=some b→l'≠l→look m l'=some b∧∀i,(l',i)∉σi)→∀d m1,(d=.tup []∧look m1 0=some (.bld (some 9) (s++bK ws).length true)∧look m1 9=some (.row (s++bK ws)))→
   ∃(σo:List (Nat×Nat)) (q1:Nat) (st':St) (vd':D),Fr σi σo 3 q1 m0 m1 ⟨nx,m⟩ st'∧Gz 0 σo d vd'∧K vd' st':=by
  rintro σi m0 oki hm hlt hm0 hoff d m1 ⟨rfl,e0,e9⟩;refine⟨[(0,l),(9,nx)],10,⟨nx+1,nj (cd m lw) l nx (s++bK ws)⟩,.tup [],⟨oki, ?_,Nat.le_succ _,hlt, ?_,hm0, ?_⟩,.inl ⟨rfl,rfl⟩,hK⟩
  ·simp[fN,b3,b4];exact⟨by omega,rfl⟩
  ·intro i l' h;rcases List.mem_cons.1 h with h|h
   ·obtain⟨rfl,rfl⟩:=Prod.mk.inj h;exact .inl hm
   ·obtain⟨rfl,rfl⟩:=Prod.mk.inj (List.mem_singleton.1 h);exact .inr (Nat.le_refl _)
  ·intro l' bb h;simp only[nj,look]at h;split at h
   ·rename_i e;subst e;obtain rfl:=Option.some.inj h;exact .inl ⟨9,_,.tail _ (.head _),e9,rfl⟩
   ·rename_i hln;rw[bG]at h;split at h
    ·rename_i e;subst e;obtain rfl:=Option.some.inj h;exact .inl ⟨0,_,.head _,e0,⟨nx,rfl,rfl⟩,rfl,rfl⟩
    ·rename_i hl;obtain⟨g1,g2⟩:=hoff l' bb h hl;exact .inr ⟨by simp only[kt,if_neg (fun e=>hl (Eq.symm e)),if_neg hln],g2,g1⟩
 rcases h1 with⟨u,h1,rfl⟩|⟨l2,u,h1,h5⟩
 ·have g4:∀l' i,(l',i)∈[(l,0),(lw,1)]→look m l'≠none:=by
   intro l' i h;rcases List.mem_cons.1 h with h|h
   ·obtain⟨rfl,rfl⟩:=Prod.mk.inj h;rw[h1];simp
   ·obtain⟨rfl,rfl⟩:=Prod.mk.inj (List.mem_singleton.1 h);rw[h2];simp
  have g3:fN 0 3 [(l,0),(lw,1)]=true:=by simp[fN,b1,b2];rfl
  have g5:∀i b,look [(0,bj.bld none 0 u),(1,.buf 1 (ws.map D.str))] i=some b→∃l' b',(l',i)∈[(l,0),(lw,1)]∧look m l'=some b'∧oI 0 [(l,0),(lw,1)] b' b:=by
   intro i b h;simp only[look]at h;split at h
   ·rename_i e;subst e;obtain rfl:=Option.some.inj h;exact⟨l,_,.head _,h1,rfl,rfl,rfl⟩
   ·split at h
    ·rename_i e;subst e;obtain rfl:=Option.some.inj h;exact⟨lw,_,.tail _ (.head _),h2,rfl,.inl ⟨rfl,hnl⟩⟩
    ·cases h
  refine yF (σi:=[(l,0),(lw,1)]) (cs:=[.ptr 0 2 0 0,.own 1 1 0 ws.length]) (fun q=>aG t key _ q) hmix hC rfl ?_ hnp g3 g4 g5 (hw _ (.inl ⟨u,rfl,rfl⟩) rfl) (fin _ _ g3 (.head _) g4 g5 ?_)
  ·intro i hi
   match i,hi with
   |0,_=>exact .inr (.inl (by simp[qT,DO,lD]))
   |1,_=>exact .inr (.inl (by simp[qT,DO,lD,b1]))
  ·intro l' b h hl;rw[uh hlw]at h;simp only[h1]at h;rw[eu]at h;split at h
   ·cases h
   ·rename_i hw';refine⟨h,fun i hi=>?_⟩;rcases List.mem_cons.1 hi with hi|hi
    ·exact hl (Prod.mk.inj hi).1
    ·exact hw' (Prod.mk.inj (List.mem_singleton.1 hi)).1
 ·have c1:l2≠l:=by rintro rfl;rw[h1]at h5;cases h5
  have c2:l2≠lw:=by rintro rfl;rw[h2]at h5;cases h5
  have d1:=ng c1;have d2:=ng c2;have d3:=ng (Ne.symm c1);have d4:=ng (Ne.symm c2);have g4:∀l' i,(l',i)∈[(l,0),(lw,1),(l2,2)]→look m l'≠none:=by
   intro l' i h;rcases List.mem_cons.1 h with h|h
   ·obtain⟨rfl,rfl⟩:=Prod.mk.inj h;rw[h1];simp
   ·rcases List.mem_cons.1 h with h|h
    ·obtain⟨rfl,rfl⟩:=Prod.mk.inj h;rw[h2];simp
    ·obtain⟨rfl,rfl⟩:=Prod.mk.inj (List.mem_singleton.1 h);rw[h5];simp
  have g3:fN 0 3 [(l,0),(lw,1),(l2,2)]=true:=by simp[fN,b1,b2,d1,d2,d3,d4];exact⟨⟨rfl,rfl⟩,rfl⟩
  have g5:∀i b,look [(0,bj.bld (some 2) s.length u),(1,.buf 1 (ws.map D.str)),(2,.row s)] i=some b→∃l' b',(l',i)∈[(l,0),(lw,1),(l2,2)]∧look m l'=some b'∧oI 0 [(l,0),(lw,1),(l2,2)] b' b:=by
   intro i b h;simp only[look]at h;split at h
   ·rename_i e;subst e;obtain rfl:=Option.some.inj h;exact⟨l,_,.head _,h1,⟨2,by simp[lD,d3,d4],rfl⟩,rfl,rfl⟩
   ·split at h
    ·rename_i e;subst e;obtain rfl:=Option.some.inj h;exact⟨lw,_,.tail _ (.head _),h2,rfl,.inl ⟨rfl,hnl⟩⟩
    ·split at h
     ·rename_i e;subst e;obtain rfl:=Option.some.inj h;exact⟨l2,_,.tail _ (.tail _ (.head _)),h5,rfl⟩
     ·cases h
  refine yF (σi:=[(l,0),(lw,1),(l2,2)]) (cs:=[.ptr 0 2 0 0,.own 1 1 0 ws.length]) (fun q=>aG t key _ q) hmix hC rfl ?_ hnp g3 g4 g5 (hw _ (.inr ⟨2,u,rfl,rfl⟩) rfl) (fin _ _ g3 (.head _) g4 g5 ?_)
  ·intro i hi
   match i,hi with
   |0,_=>exact .inr (.inl (by simp[qT,DO,lD]))
   |1,_=>exact .inr (.inl (by simp[qT,DO,lD,b1]))
  ·intro l' b h hl;rw[uh hlw]at h;simp only[h1]at h;rw[eu]at h;split at h
   ·cases h
   ·rename_i hw2;rw[eu]at h;split at h
    ·cases h
    ·rename_i hw';refine⟨h,fun i hi=>?_⟩;rcases List.mem_cons.1 hi with hi|hi
     ·exact hl (Prod.mk.inj hi).1
     ·rcases List.mem_cons.1 hi with hi|hi
      ·exact hw' (Prod.mk.inj hi).1
      ·exact hw2 (Prod.mk.inj (List.mem_singleton.1 hi)).1
end
end Go.Abs
end
namespace Go.Abs
def sb {α:Type}{f:α→D}(hf:∀x y,f x=f y↔x=y):∀a b:List α,a.map f=b.map f↔a=b
 |[],[]=>by simp
 |[],_::_=>by simp
 |_::_,[]=>by simp
 |x::a,y::b=>by simp only[List.map_cons,List.cons.injEq,hf,sb hf a b]
def Hu (a b:Nat):((a:Nat):Int)=(b:Nat)↔a=b:=by omega
def iU8 (x y:UInt8):((x.toNat:Nat):Int)=(y.toNat:Nat)↔x=y:=(Hu _ _).trans UInt8.toNat_inj
def Da (a b:List ah):a.map D.str=b.map D.str↔a=b:=sb (fun _ _=>by simp) a b
def iInt (a b:List Int):a.map (D.int .i64)=b.map (D.int .i64)↔a=b:=sb (fun _ _=>by simp) a b
def iByt (a b:ah):(a.map fun c=>D.int .u8 c.toNat)=(b.map fun c=>D.int .u8 c.toNat)↔a=b:=sb (fun x y=>by rw[D.int.injEq,iU8];simp) a b
def iVer (a b:dc):dc.D a=dc.D b↔a=b:=by cases a;cases b;simp[dc.D]
def IG (a b:bN):bN.D a=bN.D b↔a=b:=by cases a;cases b;simp[bN.D,Da]
def E0 (a b:List bN):a.map bN.D=b.map bN.D↔a=b:=sb IG a b
def IF (a b:bF):bF.D a=bF.D b↔a=b:=by cases a;cases b;simp[bF.D,E0]
def EZ (a b:List bF):a.map bF.D=b.map bF.D↔a=b:=sb IF a b
def NP (a b:iJ):iJ.D a=iJ.D b↔a=b:=by cases a;cases b;simp[iJ.D]
def IC (a b:List iJ):a.map iJ.D=b.map iJ.D↔a=b:=sb NP a b
def IE (a b:bz):bz.D a=bz.D b↔a=b:=by cases a;cases b;simp[bz.D,Da]
def EY (a b:List bz):a.map bz.D=b.map bz.D↔a=b:=sb IE a b
def iRec (a b:Rec):Rec.D a=Rec.D b↔a=b:=by
 obtain⟨n,⟨v1,v2,v3,v4,v5⟩,x,y,z⟩:=a;obtain⟨n',⟨w1,w2,w3,w4,w5⟩,x',y',z'⟩:=b;simp[Rec.D,EZ,IC,EY,and_assoc]
def NQ (a b:b9):b9.D a=b9.D b↔a=b:=by
 obtain⟨n,p,v1,v2,v3,v4,v5⟩:=a;obtain⟨n',p',w1,w2,w3,w4,w5⟩:=b;simp[b9.D]
def ID (a b:List b9):a.map b9.D=b.map b9.D↔a=b:=sb NQ a b
def iNd (a b:Nd):Nd.D a=Nd.D b↔a=b:=by cases a;cases b;simp[Nd.D]
def NR (a b:List Nd):a.map Nd.D=b.map Nd.D↔a=b:=sb iNd a b
def J1 (a b:Alt):na a=na b↔a=b:=by simp[na,ID]
def iRng (a b:oJ):c9 a=c9 b↔a=b:=by simp[c9,sb J1]
def NO (a b:List Alt):a.map na=b.map na↔a=b:=sb J1 a b
def iMrk (a b:Bx):ew a=ew b↔a=b:=by simp[ew,NR]
def iLd (a b:Ld):Ld.D a=Ld.D b↔a=b:=by cases a;cases b;simp[Ld.D,Da,Hu]
def iPr (w w':List ah)(x x':D)(b b':Bool):eO w x b=eO w' x' b'↔w=w'∧x=x'∧b=b':=by simp[eO,Da]
def bg {A:RT→Prop}(h:A (fun ds d=>A fun ds' d'=>ds'=ds→d=d'):=by
 (repeat' first|apply And.intro|intro _)
 all_goals rename_i e
 all_goals (try simp only[List.cons.injEq,D.str.injEq,D.int.injEq,D.bool.injEq,D.sl.injEq,D.ref.injEq,D.agg.injEq,Da,iInt,iByt,iVer,IG,E0,IF,EZ,NP,IC,IE,EY,iRec,NQ,ID,iNd,NR,J1,iRng,NO,iMrk,iPr,iU8,UInt8.toNat_inj,Hu,and_true,true_and,reduceCtorEq,and_false,false_and]at e)
 all_goals first|rfl|(simp only[e];done)|simp_all):MA (xg A):=JW h
def Hf {A:FT→Prop}(h:A (fun d ds v s=>A fun d' ds' v' s'=>d'=d→ds'=ds→v=v'∧s=s'):=by
 (repeat' first|apply And.intro|intro _)
 all_goals rename_i e' e
 all_goals (try simp only[List.cons.injEq,D.str.injEq,D.int.injEq,D.bool.injEq,D.sl.injEq,iLd,Da,iU8,UInt8.toNat_inj,Hu,and_true,true_and]at e e')
 all_goals first|rfl|(simp only[e,e'];done)|simp_all):sL (lA A):=Hg h
end Go.Abs
section
namespace Go.Abs
open Go
end Go.Abs
end
section
namespace Go.Abs
open Go
end Go.Abs
end
namespace Go.Abs
end Go.Abs
section
namespace Go.Abs
open Go
end Go.Abs
end
namespace Go.Abs
end Go.Abs
section
namespace Go.Abs
section
variable [ct] {P:Program} {ν:List (Nat×Nat)} {bT:List Nat} {t:List (Nat×ox)} {fid n key u k:Nat} {af:az} {Yk:List D} {nx:Nat} {m:List (Nat×bj)} {K:D→St→Prop}
def DX {a:D}{k q i:Nat}{es:List D}{m1:List (Nat×bj)}(ha:a.aW=true)(hes:aU es=true)(hmix:P.follows .mixedOrders=true)(hC:Eo P ν bT fid af)(hnp:1=af.np)
  (hl:look m1 q=some (.buf k es)) (hK:K (.own nx k 0 i) ⟨nx+1,(nx,.buf k es)::m⟩) (hw:bq ((under t key u).at 0) af.body (kQ af (One (.own q k 0 i) m1)) (ei af [a]) ⟨0,[]⟩):mY P ν bT (under t key u) fid [a] ⟨nx,m⟩ K:=by
 refine yF (σi:=[]) (m0:=[]) (cs:=[a]) (fun q=>aG t key u q) hmix hC rfl ?_ hnp rfl (fun _ _ h=>by cases h) (fun _ _ h=>by cases h) hw ?_
 ·intro i hi
  match i,hi with
  |0,_=>exact .inl ⟨rfl,ha⟩
 ·rintro d m2 ⟨rfl,rfl⟩;refine⟨[(q,nx)],q+1,_,.own nx k 0 i,⟨rfl, ?_,Nat.le_succ _,(fun _ _ h=>by cases h), ?_,(fun _ _ h=>by cases h), ?_⟩,.inr (.inl (by simp[qT,DO,lD])),hK⟩
  ·simp[fN]
  ·intro i l h;obtain⟨rfl,rfl⟩:=Prod.mk.inj (List.mem_singleton.1 h);exact .inr (Nat.le_refl _)
  ·intro l bb h;simp only[look]at h;split at h
   ·rename_i e;subst e;obtain rfl:=Option.some.inj h;exact .inl ⟨q,_,.head _,hl,rfl,.inl ⟨rfl,hes⟩⟩
   ·rename_i hn;exact .inr ⟨by simp only[kt,if_neg hn],(fun _ h=>by cases h),h⟩
end
end Go.Abs
end
section
namespace Go.Abs
open Go
def ub:az:=⟨2,6,[⟨2,none⟩],bL,(sq (r1 [gm cH] 2 0) (sq (sq (r1 [gm bc] 3 0) (.block 0 (.loop (sq (sq (r1 [gm s3,gm s0,gl l1,aJ l0 l2] 4 3) (ek s4 0)) (sq (.block 1 (sq (r1 [gm s0,gm s3,ga 1 l0 l1,gd l2,gx 357 [l3] bL,iR l4] 5 5) (.cond s5 (sq (r1 [gm cH] 2 0) .ret) .skip))) (r1 [gm s3,ar l0 bV,gm l1] 3 2)))))) (sq (r1 [gm s0,gl l0,xj l1 tm,gm l2,gmt 3 s0,bR 3 (.call 815 [l4] [[.sl 1 [.a]]]),dG l3 l5,gm l6,gmt 7 s1,gmt 7 l8,dt 9 s0,bP 9 (.len l10),bP 9 (bY gh bc),J0 7 l9 iq,dG l7 jD,gm jZ] 2 15) .ret)))⟩
def w812 {Γ:Ctx}(hm:(Γ.at 0).aY)(h357:Ab Γ)(h815:Jq Γ)(l:List ah)(al:Bool)   :c7 Γ ub (.bool (iG l al)) [.sl 1 (l.map D.str),.bool al]:=by
 show bq _ _ _ [⟨_,_⟩,⟨_,_⟩,_,_,_,_] _;refine ai ?_;refine aA ?_;refine aV hm (ι:=Nat) (fun i=>[⟨true,.sl 1 (l.map D.str)⟩,⟨true,.bool al⟩,.un,⟨true,.int .i64 (i:Nat)⟩,.un,.un]) (fun i=>[]) 2 (fun i=>i≤l.length∧iG l al=(bJ (fun i=>bI l[i]!) i l.length&&((decide (l.length≤6)&&rising l)&&(al ||decide (l.length=0))))) (fun i=>l.length-i) 0 ⟨by omega,(wf_2 l al).symm⟩ (cI []) ?_;rintro i ⟨hi,hr⟩;refine aI ?_;intro u0;refine au ?_;refine ca (fun hc0=>?_) fun hc0=>?_
 ·refine aQ ?_;refine ak (hc:=h357 _) ?_;refine au ?_;refine wp_cond (fun hc1=>?_) (fun hc1=>?_)
  ·simp only[Bool.not_eq_true']at hc1;refine aA ?_;refine bp ?_;rw[hr,aD (by omega),hc1];rfl
  simp only[Bool.not_eq_false']at hc1;refine bt ?_;exact⟨i+1,⟨by omega,by rw[hr,aD (by omega),hc1];rfl⟩,by omega,(cI [])⟩
 refine aI ?_;intro u1;refine av ?_;refine ak (hc:=h815 _) ?_;refine aI ?_;refine hX ?_;refine aA ?_;refine bp ?_;rw[hr,bA (by omega),Bool.true_and,decide_eq_decide.2 (show((l.length:Nat):Int)≤6↔l.length≤6 by omega),decide_eq_decide.2 (show((l.length:Nat):Int)=0↔l.length=0 by omega)]
def Mk (Γ:Ctx):Prop:=∀(l:List ah)(al:Bool),Γ.pre 812 [.sl 1 (l.map D.str),.bool al]∧Γ.val 812 [.sl 1 (l.map D.str),.bool al]=.bool (iG l al)
def A7:az:=⟨3,10,[⟨3,none⟩],bL,(sq (rg [gb 9 s0,gb 4 s1,gm bc] [(6,0),(4,1),(3,2)]) (sq (.block 0 (sq (r1 [gf 0 s4,gd l0,gx 216 [l1] bL,iR l2,gm l3] 5 4) (.cond s5 (sq (r1 [gm tl] 3 0) .ret) (sq (r1 [gf 0 s4,gd l0,gf 0 s6,gd l2,aH l1 l3,gm l4] 7 5) (.cond s7 (sq (r1 [gm AB] 3 0) .ret) (sq (r1 [gf 1 s4,gd l0,gx 572 [l1] bL,iR l2,gm l3] 8 4) (.cond s8 (sq (r1 [gm tm] 3 0) .ret) (sq (r1 [gf 2 s4,gd l0,gm s2,gx 812 [l1,l2] [[.sl 1 [.a]],[.a]],iR l3,gm l4] 9 5) (.cond s9 (sq (r1 [gm (i6 11)] 3 0) .ret) .skip))))))))) (sq (r1 [gm bc] 3 0) .ret)))⟩
def w669 {Γ:Ctx}(hm:(Γ.at 0).aY)(h216:Ej Γ)(h572:Jd Γ)(h812:Mk Γ)(r:Rec)(w:bN)(al:Bool)  (hp0:w.sm):c7 Γ A7 (.int .i64 (fW r w al)) [Rec.D r,bN.D w,.bool al]:=by
 show bq _ _ _ [⟨_,_⟩,⟨_,_⟩,⟨_,_⟩,_,_,_,_,_,_,_] _;refine ai ?_;refine bt ?_;refine ak (hc:=h216 _) ?_;refine av ?_;refine eW (fun hc0=>?_) fun hc0=>?_
 ·refine aI ?_;refine ed ?_;have hw:dX r w.name w.range=4:=by rw[dX,if_pos hc0]
  rw[fW,if_pos (by rw[hw];decide),hw]
 refine bt ?_;refine eW (fun hc1=>?_) fun hc1=>?_
 ·refine aI ?_;refine ed ?_;have hw:dX r w.name w.range=8:=by rw[dX,if_neg (by simp[hc0]),if_pos hc1]
  rw[fW,if_pos (by rw[hw];decide),hw]
 refine av ?_;refine ak (hc:=h572 w.range hp0.1.2) ?_;refine av ?_;refine wp_cond (fun hc2=>?_) (fun hc2=>?_)
 ·try simp only[fo]at hc2
  refine aI ?_;refine ed ?_;have hw:dX r w.name w.range=6:=by rw[dX,if_neg (by simp[hc0]),if_neg hc1,if_pos hc2]
  rw[fW,if_pos (by rw[hw];decide),hw]
 simp only[Bool.not_eq_false']at hc2;have hw0:dX r w.name w.range=0:=by rw[dX,if_neg (by simp[hc0]),if_neg hc1,if_neg (by simp[hc2])]
 refine ax ?_;refine ak (hc:=h812 w.feats al) ?_;refine av ?_;refine eW (fun hc3=>?_) fun hc3=>?_
 ·refine aI ?_;refine ed ?_;rw[fW,if_neg (by simp[hw0]),if_pos hc3]
 refine aA ?_;refine ed ?_;rw[fW,if_neg (by simp[hw0]),if_neg (by simp[hc3])]
def L7 (Γ:Ctx):Prop:=∀(r:Rec)(w:bN)(al:Bool),(w.sm)→Γ.pre 669 [Rec.D r,bN.D w,.bool al]∧Γ.val 669 [Rec.D r,bN.D w,.bool al]=.int .i64 (fW r w al)
def A4:az:=⟨2,13,[⟨2,none⟩],bL,(sq (rg [gb 9 s0,gb 3 s1,gm bc] [(8,0),(3,1),(2,2)]) (sq (sq (r1 [gf 0 s3,gd l0,gl l1,aH l2 bc] 4 3) (.cond s4 (sq (r1 [gm Db] 2 0) .ret) .skip)) (sq (sq (r1 [gf 0 s3,gd l0,gl l1,cg l2 kr] 5 3) (.cond s5 (sq (r1 [gm kr] 2 0) .ret) .skip)) (sq (sq (r1 [gm bc] 6 0) (.block 0 (.loop (sq (sq (r1 [gm s6,gf 0 s3,gd l1,gl l2,aJ l0 l3] 7 4) (ek s7 0)) (sq (.block 1 (sq (r2 [gk 9 true s8,gf 0 s3,gd l1,gm s6,ga 4 l2 l3,gk 4 true l4,gf 0 s3,gd l6,gl l7,aH l8 bV,gx 669 [l0,l5,l9] [[.a,.a,.a,.a,.a,.a,.sl 3 [.sl 4 [.a,.a,.sl 1 [.a],.a],.a,.a],.sl 3 [.a,.a,.a],.sl 2 [.a,.sl 1 [.a]]],[.a,.a,.sl 1 [.a],.a],[.a]],gm l10] 9 11) (sq (r1 [gm s9,bZ l0 bc] 10 1) (.cond jR (sq (r1 [gm s9,gm l0] 2 1) .ret) .skip)))) (r1 [gm s6,ar l0 bV,gm l1] 6 2)))))) (sq (sq (r1 [gf 1 s3,gd l0,gx 670 [l1] bL,iR l2] 11 3) (.cond lf (sq (r1 [gm E1] 2 0) .ret) .skip)) (sq (sq (r1 [gf 2 s3,gd l0,bZ l1 cse,gm l2,kX 3 2 s3,jC 3 l4,bR 3 (.call 357 [l5] bL),bR 3 (.un .not l6),dG l3 l7] 12 8) (.cond lE (sq (r1 [gm (i6 14)] 2 0) .ret) .skip)) (sq (r1 [gm bc] 2 0) .ret)))))))⟩
def w457 {Γ:Ctx}(hm:(Γ.at 0).aY)(h357:Ab Γ)(h669:L7 Γ)(h670:Jk Γ)(r:Rec)(n:bF)  (hp0:n.sm):c7 Γ A4 (.int .i64 (eR r n)) [Rec.D r,bF.D n]:=by
 show bq _ _ _ [⟨_,_⟩,⟨_,_⟩,_,_,_,_,_,_,_,_,_,_,_] _;refine ai ?_;refine cB ?_;intro u0;refine au ?_;refine ca (fun hc0=>?_) fun hc0=>?_
 ·refine aI ?_;refine ed ?_;rw[eR,if_pos (by omega)]
 refine aA ?_;intro u1;refine au ?_;refine ca (fun hc1=>?_) fun hc1=>?_
 ·refine aI ?_;refine ed ?_;rw[eR,if_neg (by omega),if_pos (by omega)]
 refine aI ?_;refine aV hm (ι:=Nat) (fun i=>[.un,.un,.un,⟨true,.ptr 1 3 0 0⟩,.un,.un,⟨true,.int .i64 (i:Nat)⟩,.un,⟨true,.ptr 0 9 0 0⟩,.un,.un,.un,.un]) (fun i=>[(0,.buf 9 [Rec.D r]),(1,.buf 3 [bF.D n])]) 12 (fun i=>i≤n.any.length∧lh r n.any=ig (fun i=>fW r n.any[i]! (decide ((n.any.length:Int)=1))) i n.any.length) (fun i=>n.any.length-i) 0 ⟨by omega,rfl⟩ (cI [(0,0),(1,1)]) ?_;rintro i ⟨hi,hr⟩;refine aA ?_;intro u2;refine au ?_;refine ca (fun hc2=>?_) fun hc2=>?_
 ·refine aQ ?_;refine bO i ?_;first|refine bQ (v:=(bN.D _)) ?_|refine ef (v:=(bN.D _)) ?_
  refine au ?_;refine hX ?_;refine aC ?_;refine ak (hc:=h669 r n.any[i]! _ (hp0.1 _ (bw (by omega)))) ?_;refine aA ?_;refine eW (fun hc3=>?_) fun hc3=>?_
  ·refine aQ ?_;refine ed ?_;have hw:lh r n.any=fW r n.any[i]! (decide ((n.any.length:Int)=1)):=by rw[hr,kn (by omega) hc3]
   rw[eR,if_neg (by omega),if_neg (by omega),if_pos (by rw[hw];exact hc3),hw]
  refine bt ?_;exact⟨i+1,⟨by omega,by rw[hr,n8 (by omega) hc3]⟩,by omega,(cI [(0,0),(1,1)])⟩
 refine ax ?_;have hw0:lh r n.any=0:=by rw[hr,n7 (by omega)]
 refine au ?_;refine ak (hc:=h670 _) ?_;refine au ?_;refine aq (fun hc4=>?_) (fun hc4=>?_)
 ·try simp only[fo]at hc4
  refine aI ?_;refine ed ?_;rw[eR,if_neg (by omega),if_neg (by omega),if_neg (by simp[hw0]),if_pos hc4]
 simp only[Bool.not_eq_false']at hc4;refine cB ?_;refine ak (hc:=h357 _) ?_;refine av ?_;refine aq (fun hc5=>?_) (fun hc5=>?_)
 ·try simp only[fo]at hc5
  refine aI ?_;refine ed ?_;rw[eR,if_neg (by omega),if_neg (by omega),if_neg (by simp[hw0]),if_neg (by simp[hc4]),if_pos hc5]
 simp only[Bool.and_eq_false_iff,Bool.not_eq_false',decide_eq_true_eq]at hc5;refine aI ?_;refine ed ?_;rw[eR,if_neg (by omega),if_neg (by omega),if_neg (by simp[hw0]),if_neg (by simp[hc4]),if_neg (by rintro⟨g1,g2⟩;rcases hc5 with h|h;exact g1 h;rw[g2]at h;cases h)]
def LL (Γ:Ctx):Prop:=∀(r:Rec)(n:bF),(n.sm)→Γ.pre 457 [Rec.D r,bF.D n]∧Γ.val 457 [Rec.D r,bF.D n]=.int .i64 (eR r n)
def DC:az:=⟨2,9,[⟨2,none⟩],bL,(sq (rg [gb 9 s0,gb 3 s1,gm bc] [(5,0),(3,1),(2,2)]) (sq (.block 0 (sq (r1 [gf 0 s3,gd l0,gx 216 [l1] bL,iR l2,gm l3] 4 4) (.cond s4 (sq (r1 [gm tl] 2 0) .ret) (sq (r1 [gf 0 s3,gd l0,gf 0 s5,gd l2,aH l1 l3,gm l4] 6 5) (.cond s6 (sq (r1 [gm AB] 2 0) .ret) (sq (r1 [gf 1 s3,gd l0,gx 572 [l1] bL,iR l2,gm l3] 7 4) (.cond s7 (sq (r1 [gm tm] 2 0) .ret) (sq (r1 [gf 2 s3,gd l0,gx 670 [l1] bL,iR l2,gm l3] 8 4) (.cond s8 (sq (r1 [gm E1] 2 0) .ret) .skip))))))))) (sq (r1 [gm bc] 2 0) .ret)))⟩
def w458 {Γ:Ctx}(hm:(Γ.at 0).aY)(h216:Ej Γ)(h572:Jd Γ)(h670:Jk Γ)(r:Rec)(b:iJ)  (hp0:b.sm):c7 Γ DC (.int .i64 (mL r b)) [Rec.D r,iJ.D b]:=by
 show bq _ _ _ [⟨_,_⟩,⟨_,_⟩,_,_,_,_,_,_,_] _;refine ai ?_;refine bt ?_;refine ak (hc:=h216 _) ?_;refine av ?_;refine eW (fun hc0=>?_) fun hc0=>?_
 ·refine aI ?_;refine ed ?_;have hw:dX r b.name b.range=4:=by rw[dX,if_pos hc0]
  rw[mL,if_pos (by rw[hw];decide),hw]
 refine bt ?_;refine eW (fun hc1=>?_) fun hc1=>?_
 ·refine aI ?_;refine ed ?_;have hw:dX r b.name b.range=8:=by rw[dX,if_neg (by simp[hc0]),if_pos hc1]
  rw[mL,if_pos (by rw[hw];decide),hw]
 refine av ?_;refine ak (hc:=h572 b.range hp0.2.1) ?_;refine av ?_;refine wp_cond (fun hc2=>?_) (fun hc2=>?_)
 ·try simp only[fo]at hc2
  refine aI ?_;refine ed ?_;have hw:dX r b.name b.range=6:=by rw[dX,if_neg (by simp[hc0]),if_neg hc1,if_pos hc2]
  rw[mL,if_pos (by rw[hw];decide),hw]
 simp only[Bool.not_eq_false']at hc2;have hw0:dX r b.name b.range=0:=by rw[dX,if_neg (by simp[hc0]),if_neg hc1,if_neg (by simp[hc2])]
 refine av ?_;refine ak (hc:=h670 _) ?_;refine av ?_;refine eW (fun hc3=>?_) fun hc3=>?_
 ·refine aI ?_;refine ed ?_;rw[mL,if_neg (by simp[hw0]),if_pos hc3]
 refine aA ?_;refine ed ?_;rw[mL,if_neg (by simp[hw0]),if_neg (by simp[hc3])]
def LM (Γ:Ctx):Prop:=∀(r:Rec)(b:iJ),(b.sm)→Γ.pre 458 [Rec.D r,iJ.D b]∧Γ.val 458 [Rec.D r,iJ.D b]=.int .i64 (mL r b)
def xA:az:=⟨2,7,[⟨2,none⟩],bL,(sq (rg [gb 9 s0,gm cH] [(4,0),(2,1)]) (sq (sq (r1 [gm bc] 3 0) (.block 0 (.loop (sq (sq (r1 [gm s3,gf 6 s4,gd l1,gl l2,aJ l0 l3] 5 4) (ek s5 0)) (sq (.block 1 (sq (r1 [gf 6 s4,gd l0,gm s3,ga 3 l1 l2,gf 2 l3,gd l4,gm s1,aH l5 l6] 6 7) (.cond s6 (sq (r1 [gm mX] 2 0) .ret) .skip))) (r1 [gm s3,ar l0 bV,gm l1] 3 2)))))) (sq (r1 [gm cH] 2 0) .ret)))⟩
def w673 {Γ:Ctx}(hm:(Γ.at 0).aY)  (r:Rec)(x:ah)   :c7 Γ xA (.bool (AR r.needs x)) [Rec.D r,.str x]:=by
 show bq _ _ _ [⟨_,_⟩,⟨_,_⟩,_,_,_,_,_] _;refine ai ?_;refine aQ ?_;refine aV hm (ι:=Nat) (fun i=>[.un,⟨true,.str x⟩,.un,⟨true,.int .i64 (i:Nat)⟩,⟨true,.ptr 0 9 0 0⟩,.un,.un]) (fun i=>[(0,.buf 9 [Rec.D r])]) 3 (fun i=>i≤r.needs.length∧AR r.needs x=(r.needs.drop i).any (fun n=>decide (n.option=x))) (fun i=>r.needs.length-i) 0 ⟨by omega,rfl⟩ (cI [(0,0)]) ?_;rintro i ⟨hi,hr⟩;refine aA ?_;intro u0;refine au ?_;refine ca (fun hc0=>?_) fun hc0=>?_
 ·refine aA ?_;refine bO i ?_;refine aI ?_;refine eW (fun hc1=>?_) fun hc1=>?_
  ·refine aA ?_;refine bp ?_;rw[hr,wL (c:=fun n:bF=>decide (n.option=x)) (by omega) (decide_eq_true hc1)]
  refine bt ?_;exact⟨i+1,⟨by omega,by rw[hr,Af (c:=fun n:bF=>decide (n.option=x)) (by omega) (decide_eq_false hc1)]⟩,by omega,(cI [(0,0)])⟩
 refine aA ?_;refine bp ?_;rw[hr,wK (by omega)]
def L9 (Γ:Ctx):Prop:=∀(r:Rec)(x:ah),Γ.pre 673 [Rec.D r,.str x]∧Γ.val 673 [Rec.D r,.str x]=.bool (AR r.needs x)
def xB:az:=⟨2,7,[⟨2,none⟩],bL,(sq (rg [gb 9 s0,gm cH] [(4,0),(2,1)]) (sq (sq (r1 [gm bc] 3 0) (.block 0 (.loop (sq (sq (r1 [gm s3,gf 6 s4,gd l1,gl l2,aJ l0 l3] 5 4) (ek s5 0)) (sq (.block 1 (sq (r1 [gf 6 s4,gd l0,gm s3,ga 3 l1 l2,gf 0 l3,gd l4,gl l5,aH l6 bV,gm l7,kX 8 6 s4,jC 8 l9,gmt 8 s3,bR 8 (.ia 3 l10 gh),kX 8 0 iq,jC 8 jD,bR 8 (.ia 4 jZ bc),kX 8 0 lz,jC 8 mw,gmt 8 s1,bR 8 (bY oC pd),dG l8 qk] 6 20) (.cond s6 (sq (r1 [gm mX] 2 0) .ret) .skip))) (r1 [gm s3,ar l0 bV,gm l1] 3 2)))))) (sq (r1 [gm cH] 2 0) .ret)))⟩
def w674 {Γ:Ctx}(hm:(Γ.at 0).aY)  (r:Rec)(x:ah)   :c7 Γ xB (.bool (tQ r.needs x)) [Rec.D r,.str x]:=by
 show bq _ _ _ [⟨_,_⟩,⟨_,_⟩,_,_,_,_,_] _;refine ai ?_;refine aQ ?_;refine aV hm (ι:=Nat) (fun i=>[.un,⟨true,.str x⟩,.un,⟨true,.int .i64 (i:Nat)⟩,⟨true,.ptr 0 9 0 0⟩,.un,.un]) (fun i=>[(0,.buf 9 [Rec.D r])]) 3 (fun i=>i≤r.needs.length∧tQ r.needs x=(r.needs.drop i).any (fun n=>decide (n.any.length=1)&&decide (n.any[0]!.name=x))) (fun i=>r.needs.length-i) 0 ⟨by omega,rfl⟩ (cI [(0,0)]) ?_;rintro i ⟨hi,hr⟩;refine aA ?_;intro u0;refine au ?_;refine ca (fun hc0=>?_) fun hc0=>?_
 ·refine aA ?_;refine bO i ?_;refine av ?_;intro u1;refine aI ?_;refine bO i (hb:=fun _=>by omega) ?_;refine aC ?_;refine bQ (q:=bF.D) (xs:=r.needs) (i:=i) (hi:=fun _=>by omega) (v:=(.sl 4 (r.needs[i]!.any.map bN.D))) ?_;refine bO 0 (hb:=fun h=>by simp only[Bool.true_and,beq_iff_eq,Bool.and_eq_true,decide_eq_true_eq]at h;omega) ?_;refine aC ?_;refine bQ (q:=bN.D) (xs:=r.needs[i]!.any) (i:=0) (hi:=fun h=>by simp only[Bool.true_and,beq_iff_eq,Bool.and_eq_true,decide_eq_true_eq]at h;omega) (v:=(.str r.needs[i]!.any[0]!.name)) ?_;refine ax ?_;refine wp_cond (fun hc1=>?_) (fun hc1=>?_)
  ·rw[decide_eq_decide.2 (show((r.needs[i]!.any.length:Nat):Int)=1↔r.needs[i]!.any.length=1 by omega)]at hc1;have hz:=hc1;refine aA ?_;refine bp ?_;rw[hr,wL (by omega) hz]
  rw[decide_eq_decide.2 (show((r.needs[i]!.any.length:Nat):Int)=1↔r.needs[i]!.any.length=1 by omega)]at hc1;have hz:=hc1;refine bt ?_;exact⟨i+1,⟨by omega,by rw[hr,Af (by omega) hz]⟩,by omega,(cI [(0,0)])⟩
 refine aA ?_;refine bp ?_;rw[hr,wK (by omega)]
def Ma (Γ:Ctx):Prop:=∀(r:Rec)(x:ah),Γ.pre 674 [Rec.D r,.str x]∧Γ.val 674 [Rec.D r,.str x]=.bool (tQ r.needs x)
def zm:az:=⟨2,10,[⟨2,none⟩],bL,(sq (rg [gb 9 s0,gm bc] [(6,0),(2,1)]) (sq (sq (r1 [gm bc] 3 0) (.block 0 (.loop (sq (sq (r1 [gm s3,gm s1,gl l1,aJ l0 l2] 4 3) (ek s4 0)) (sq (.block 1 (sq (rg [gm s1,gm s3,ga 1 l0 l1,gd l2,gx 672 [l3] bL,gm l4,ge l5 0,ge l5 1,ge l5 2,gm l6,gm l7,gm l8] [(5,9),(7,10)]) (sq (sq (r1 [gm s5,aH l0 lM,gm l1,bR 2 (.ld 9 true s6),gmt 2 s7,bR 2 (.call 673 [l3,l4] [[.a,.a,.a,.a,.a,.a,.sl 3 [.sl 4 [.a,.a,.sl 1 [.a],.a],.a,.a],.sl 3 [.a,.a,.a],.sl 2 [.a,.sl 1 [.a]]],[.a]]),bR 2 (.un .not l5),dG l2 l6] 8 7) (.cond s8 (sq (r1 [gm (i6 14)] 2 0) .ret) .skip)) (sq (r1 [gm s5,aH l0 kr,gm l1,bR 2 (.ld 9 true s6),gmt 2 s7,bR 2 (.call 674 [l3,l4] [[.a,.a,.a,.a,.a,.a,.sl 3 [.sl 4 [.a,.a,.sl 1 [.a],.a],.a,.a],.sl 3 [.a,.a,.a],.sl 2 [.a,.sl 1 [.a]]],[.a]]),bR 2 (.un .not l5),dG l2 l6] 9 7) (.cond s9 (sq (r1 [gm (i6 16)] 2 0) .ret) .skip))))) (r1 [gm s3,ar l0 bV,gm l1] 3 2)))))) (sq (r1 [gm bc] 2 0) .ret)))⟩
def w460 {Γ:Ctx}(hm:(Γ.at 0).aY)(h672:Jl Γ)(h673:L9 Γ)(h674:Ma Γ)(r:Rec)(of:List ah)  (hp0:∀t∈of,t.length≤1048576):c7 Γ zm (.int .i64 (im r of)) [Rec.D r,.sl 1 (of.map D.str)]:=by
 show bq _ _ _ [⟨_,_⟩,⟨_,_⟩,_,_,_,_,_,_,_,_] _;refine ai ?_;refine aQ ?_;refine aV hm (ι:=Nat) (fun i=>[.un,⟨true,.sl 1 (of.map D.str)⟩,.un,⟨true,.int .i64 (i:Nat)⟩,.un,.un,⟨true,.ptr 0 9 0 0⟩,.un,.un,.un]) (fun i=>[(0,.buf 9 [Rec.D r])]) 3 (fun i=>i≤of.length∧im r of=ig (fun i=>jq r of[i]!) i of.length) (fun i=>of.length-i) 0 ⟨by omega,rfl⟩ (cI [(0,0)]) ?_;rintro i ⟨hi,hr⟩;refine aI ?_;intro u0;refine au ?_;refine ca (fun hc0=>?_) fun hc0=>?_
 ·refine aQ ?_;refine ak (hc:=h672 of[i]! (hp0 _ (bw (by omega)))) ?_;refine uJ ?_;refine ak (hc:=h673 r (b6 of[i]!).2.1) ?_;refine av ?_;refine aq (fun hc1=>?_) (fun hc1=>?_)
  ·try simp only[fo]at hc1
   refine aQ ?_;refine ed ?_;have he:jq r of[i]! =14:=by rw[jq,if_pos hc1]
   rw[hr,kn (by omega) (by rw[he];decide),he]
  have hn1:¬((b6 of[i]!).1=2∧AR r.needs (b6 of[i]!).2.1=false):=by rintro⟨g1,g2⟩;rw[g1,g2]at hc1;cases hc1
  refine aQ ?_;refine ak (hc:=h674 r (b6 of[i]!).2.1) ?_;refine av ?_;refine wp_cond (fun hc2=>?_) (fun hc2=>?_)
  ·try simp only[fo]at hc2
   refine aA ?_;refine ed ?_;have he:jq r of[i]! =16:=by rw[jq,if_neg hn1,if_pos hc2]
   rw[hr,kn (by omega) (by rw[he];decide),he]
  have hn2:¬((b6 of[i]!).1=3∧tQ r.needs (b6 of[i]!).2.1=false):=by rintro⟨g1,g2⟩;rw[g1,g2]at hc2;cases hc2
  refine bt ?_;exact⟨i+1,⟨by omega,by rw[hr,n8 (by omega) (by rw[jq,if_neg hn1,if_neg hn2])]⟩,by omega,(cI [(0,0)])⟩
 refine aA ?_;refine ed ?_;rw[hr,n7 (by omega)]
def LO (Γ:Ctx):Prop:=∀(r:Rec)(of:List ah),(∀t∈of,t.length≤1048576)→Γ.pre 460 [Rec.D r,.sl 1 (of.map D.str)]∧Γ.val 460 [Rec.D r,.sl 1 (of.map D.str)]=.int .i64 (im r of)
end Go.Abs
end
section
namespace Go.Abs
open Go
def zn:az:=⟨1,17,[⟨1,none⟩,⟨2,none⟩],gL,(sq (rg [gb 9 s0,gm bc,gm bc] [(4,0),(1,1),(2,2)]) (sq (sq (r1 [gm bc] 3 0) (.block 0 (.loop (sq (sq (r1 [gm s3,gf 6 s4,gd l1,gl l2,aJ l0 l3] 5 4) (ek s5 0)) (sq (.block 1 (sq (r2 [gk 9 true s4,gf 6 s4,gd l1,gm s3,ga 3 l2 l3,gk 3 true l4,gx 457 [l0,l5] [[.a,.a,.a,.a,.a,.a,.sl 3 [.sl 4 [.a,.a,.sl 1 [.a],.a],.a,.a],.sl 3 [.a,.a,.a],.sl 2 [.a,.sl 1 [.a]]],[.sl 4 [.a,.a,.sl 1 [.a],.a],.a,.a]],gm l6] 6 7) (sq (r1 [gm s6,bZ l0 bc] 7 1) (.cond s7 (sq (rg [gm s6,gm s3,gm l0,gm l1] [(1,2),(2,3)]) .ret) .skip)))) (r1 [gm s3,ar l0 bV,gm l1] 3 2)))))) (sq (sq (r1 [gm bc] 8 0) (.block 2 (.loop (sq (sq (r1 [gm s8,gf 7 s4,gd l1,gl l2,aJ l0 l3] 9 4) (ek s9 2)) (sq (.block 3 (sq (r2 [gk 9 true s4,gf 7 s4,gd l1,gm s8,ga 3 l2 l3,gk 3 true l4,gx 458 [l0,l5] [[.a,.a,.a,.a,.a,.a,.sl 3 [.sl 4 [.a,.a,.sl 1 [.a],.a],.a,.a],.sl 3 [.a,.a,.a],.sl 2 [.a,.sl 1 [.a]]],[.a,.a,.a]],gm l6] 10 7) (sq (r1 [gm jR,bZ l0 bc] 11 1) (.cond lf (sq (rg [gm jR,gm s8,gm l0,gm l1] [(1,2),(2,3)]) .ret) .skip)))) (r1 [gm s8,ar l0 bV,gm l1] 8 2)))))) (sq (sq (r1 [gf 8 s4,gd l0,gx 459 [l1] [[.sl 2 [.a,.sl 1 [.a]]]],iR l2] 12 3) (.cond lE (sq (rg [gm (i6 11),gm bc] [(1,0),(2,1)]) .ret) .skip)) (sq (sq (r1 [gm bc] 13 0) (.block 4 (.loop (sq (sq (r1 [gm oO,gf 8 s4,gd l1,gl l2,aJ l0 l3] 14 4) (ek rL 4)) (sq (.block 5 (sq (r2 [gk 9 true s4,gf 8 s4,gd l1,gm oO,ga 2 l2 l3,gf 1 l4,gd l5,gx 460 [l0,l6] [[.a,.a,.a,.a,.a,.a,.sl 3 [.sl 4 [.a,.a,.sl 1 [.a],.a],.a,.a],.sl 3 [.a,.a,.a],.sl 2 [.a,.sl 1 [.a]]],[.sl 1 [.a]]],gm l7] 15 8) (sq (r1 [gm qU,bZ l0 bc] 16 1) (.cond z6 (sq (rg [gm qU,gm oO,gm l0,gm l1] [(1,2),(2,3)]) .ret) .skip)))) (r1 [gm oO,ar l0 bV,gm l1] 13 2)))))) (sq (rg [gm bc,gm bc] [(1,0),(2,1)]) .ret))))))⟩
def w218 {Γ:Ctx}(hm:(Γ.at 0).aY)(h457:LL Γ)(h458:LM Γ)(h459:LN Γ)(h460:LO Γ)(r:Rec)  (hp0:dx r):c7 Γ zn (.tup [.int .i64 (cT r).1,.int .i64 (cT r).2]) [Rec.D r]:=by
 show bq _ _ _ [⟨_,_⟩,_,_,_,_,_,_,_,_,_,_,_,_,_,_,_,_] _;refine ai ?_;refine bt ?_;refine aV hm (ι:=Nat) (fun i=>[.un,.un,.un,⟨true,.int .i64 (i:Nat)⟩,⟨true,.ptr 0 9 0 0⟩,.un,.un,.un,.un,.un,.un,.un,.un,.un,.un,.un,.un]) (fun i=>[(0,.buf 9 [Rec.D r])]) 4 (fun i=>i≤r.needs.length∧kD r=fA (fun i=>eR r r.needs[i]!) i r.needs.length) (fun i=>r.needs.length-i) 0 ⟨by omega,rfl⟩ (cI [(0,0)]) ?_;rintro i ⟨hi,hr⟩;refine aA ?_;intro u0;refine au ?_;refine ca (fun hc0=>?_) fun hc0=>?_
 ·refine aQ ?_;refine bO i ?_;first|refine bQ (v:=(bF.D _)) ?_|refine ef (v:=(bF.D _)) ?_
  refine ak (hc:=h457 r r.needs[i]! (hp0.2.1 _ (bw (by omega)))) ?_;refine aA ?_;refine eW (fun hc1=>?_) fun hc1=>?_
  ·refine cB ?_;refine bC (aE (congrArg (D.int .i64) ?_) (congrArg (D.int .i64) ?_));all_goals
    have hq:cT r=(eR r r.needs[i]!,((i:Nat):Int)):=by
     exact y0 (by rw[hr,gK (by omega) hc1]) hc1
    rw[hq];first|done|rfl
  refine bt ?_;exact⟨i+1,⟨by omega,by rw[hr,j6 (by omega) hc1]⟩,by omega,(cI [(0,0)])⟩
 refine ax ?_;have hn0:kD r=(0,0):=by rw[hr,j5 (by omega)]
 refine au ?_;refine aV hm (ι:=Nat) (fun i=>[.un,.un,.un,.un,⟨true,.ptr 0 9 0 0⟩,.un,.un,.un,⟨true,.int .i64 (i:Nat)⟩,.un,.un,.un,.un,.un,.un,.un,.un]) (fun i=>[(0,.buf 9 [Rec.D r])]) 10 (fun i=>i≤r.bars.length∧pL r=fA (fun i=>mL r r.bars[i]!) i r.bars.length) (fun i=>r.bars.length-i) 0 ⟨by omega,rfl⟩ (cI [(0,0)]) ?_;rintro i ⟨hi,hr⟩;refine aA ?_;intro u1;refine au ?_;refine ca (fun hc2=>?_) fun hc2=>?_
 ·refine aQ ?_;refine bO i ?_;first|refine bQ (v:=(iJ.D _)) ?_|refine ef (v:=(iJ.D _)) ?_
  refine ak (hc:=h458 r r.bars[i]! (hp0.2.2.1 _ (bw (by omega)))) ?_;refine aA ?_;refine eW (fun hc3=>?_) fun hc3=>?_
  ·refine cB ?_;refine bC (aE (congrArg (D.int .i64) ?_) (congrArg (D.int .i64) ?_));all_goals
    have hq:cT r=(mL r r.bars[i]!,((i:Nat):Int)):=by
     exact tM hn0 (by rw[hr,gK (by omega) hc3]) hc3
    rw[hq];first|done|rfl
  refine bt ?_;exact⟨i+1,⟨by omega,by rw[hr,j6 (by omega) hc3]⟩,by omega,(cI [(0,0)])⟩
 refine ax ?_;have hb0:pL r=(0,0):=by rw[hr,j5 (by omega)]
 refine au ?_;refine ak (hc:=h459 r.feats hp0.2.2.2) ?_;refine au ?_;refine aq (fun hc4=>?_) (fun hc4=>?_)
 ·try simp only[fo]at hc4
  refine aA ?_;refine bC (aE (congrArg (D.int .i64) ?_) (congrArg (D.int .i64) ?_));all_goals
   have hq:cT r=(11,0):=by
    exact y5 hn0 hb0 hc4
   rw[hq];first|done|rfl
 simp only[Bool.not_eq_false']at hc4;refine aI ?_;refine aV hm (ι:=Nat) (fun i=>[.un,.un,.un,.un,⟨true,.ptr 0 9 0 0⟩,.un,.un,.un,.un,.un,.un,.un,.un,⟨true,.int .i64 (i:Nat)⟩,.un,.un,.un]) (fun i=>[(0,.buf 9 [Rec.D r])]) 20 (fun i=>i≤r.feats.length∧wZ r=fA (fun i=>im r r.feats[i]!.of) i r.feats.length) (fun i=>r.feats.length-i) 0 ⟨by omega,rfl⟩ (cI [(0,0)]) ?_;rintro i ⟨hi,hr⟩;refine aA ?_;intro u2;refine au ?_;refine ca (fun hc5=>?_) fun hc5=>?_
 ·refine aQ ?_;refine bO i ?_;refine au ?_;refine ak (hc:=h460 r r.feats[i]!.of (hp0.2.2.2 _ (bw (by omega))).2.2) ?_;refine aA ?_;refine eW (fun hc6=>?_) fun hc6=>?_
  ·refine cB ?_;refine bC (aE (congrArg (D.int .i64) ?_) (congrArg (D.int .i64) ?_));all_goals
    have hq:cT r=(im r r.feats[i]!.of,((i:Nat):Int)):=by
     exact qd hn0 hb0 hc4 (by rw[hr,gK (f:=(fun i=>im r r.feats[i]!.of)) (by omega) hc6])
    rw[hq];first|done|rfl
  refine bt ?_;exact⟨i+1,⟨by omega,by rw[hr,j6 (f:=(fun i=>im r r.feats[i]!.of)) (by omega) hc6]⟩,by omega,(cI [(0,0)])⟩
 refine aQ ?_;refine bC (aE (congrArg (D.int .i64) ?_) (congrArg (D.int .i64) ?_));all_goals
  have hq:cT r=(0,0):=by
   exact qd hn0 hb0 hc4 (by rw[hr,j5 (by omega)])
  rw[hq];first|done|rfl
def Lr (Γ:Ctx):Prop:=∀(r:Rec),(dx r)→Γ.pre 218 [Rec.D r]∧Γ.val 218 [Rec.D r]=.tup [.int .i64 (cT r).1,.int .i64 (cT r).2]
def zk:az:=⟨1,11,[⟨1,none⟩,⟨2,none⟩],gL,(sq (rg [gb 9 s0,gm bc,gm bc] [(3,0),(1,1),(2,2)]) (sq (.block 0 (sq (r1 [gf 0 s3,gd l0,gx 216 [l1] bL,iR l2,gm l3] 4 4) (.cond s4 (sq (rg [gm tl,gm bc] [(1,0),(2,1)]) .ret) (sq (r1 [gf 1 s3,gk 5 true l0,gx 217 [l1] D7,iR l2,gm l3] 5 4) (.cond s5 (sq (rg [gm GA,gm bc] [(1,0),(2,1)]) .ret) (sq (r1 [gf 6 s3,gd l0,gl l1,cg l2 AB,gm l3,gT 4 7 s3,hJ 4 l5,bP 4 (.len l6),bP 4 (cC l7 AB),dL l4 l8,gm l9] 6 10) (.cond s6 (sq (rg [gm kr,gm bc] [(1,0),(2,1)]) .ret) .skip))))))) (sq (sq (rg [gk 9 true s3,gx 218 [l0] [[.a,.a,.a,.a,.a,.a,.sl 3 [.sl 4 [.a,.a,.sl 1 [.a],.a],.a,.a],.sl 3 [.a,.a,.a],.sl 2 [.a,.sl 1 [.a]]]],gm l1,ge l2 0,ge l2 1,gm l3,gm l4] [(7,5),(9,6)]) (sq (r1 [gm s7,bZ l0 bc] 8 1) (.cond s8 (sq (rg [gm s7,gm s9,gm l0,gm l1] [(1,2),(2,3)]) .ret) .skip))) (sq (sq (r1 [gk 9 true s3,gx 219 [l0] [[.a,.a,.a,.a,.a,.a,.sl 3 [.sl 4 [.a,.a,.sl 1 [.a],.a],.a,.a],.sl 3 [.a,.a,.a],.sl 2 [.a,.sl 1 [.a]]]],lG l1,cg l2 (i6 4096)] 10 3) (.cond jR (sq (rg [gm kr,gm bc] [(1,0),(2,1)]) .ret) .skip)) (sq (rg [gm bc,gm bc] [(1,0),(2,1)]) .ret)))))⟩
def w71 {Γ:Ctx}(hm:(Γ.at 0).aY)(h216:Ej Γ)(h217:GN Γ)(h218:Lr Γ)(h219:I3 Γ)(r:Rec)  (hp0:dx r):c7 Γ zk (.tup [.int .i64 (bS r).1,.int .i64 (bS r).2]) [Rec.D r]:=by
 show bq _ _ _ [⟨_,_⟩,_,_,_,_,_,_,_,_,_,_] _;refine ai ?_;refine bt ?_;refine ak (hc:=h216 _) ?_;refine av ?_;refine wp_cond (fun hc0=>?_) (fun hc0=>?_)
 ·try simp only[fo]at hc0
  refine aA ?_;refine bC (aE (congrArg (D.int .i64) ?_) (congrArg (D.int .i64) ?_));all_goals (have hq:bS r=(4,0):=(by rw[bS,if_pos hc0]);rw[hq];first|done|rfl)
 simp only[Bool.not_eq_false']at hc0;refine au ?_;refine cX (v:=dc.D r.v) ?_;refine ak (hc:=h217 r.v hp0.1.2) ?_;refine av ?_;refine wp_cond (fun hc1=>?_) (fun hc1=>?_)
 ·try simp only[fo]at hc1
  refine aA ?_;refine bC (aE (congrArg (D.int .i64) ?_) (congrArg (D.int .i64) ?_));all_goals (have hq:bS r=(5,0):=(by rw[bS,if_neg (by simp[hc0]),if_pos hc1]);rw[hq];first|done|rfl)
 simp only[Bool.not_eq_false']at hc1;refine ax ?_;intro u0;refine ax ?_;refine hX ?_;refine ax ?_;refine eW (fun hc2=>?_) fun hc2=>?_
 ·refine aA ?_;refine bC (aE (congrArg (D.int .i64) ?_) (congrArg (D.int .i64) ?_));all_goals (have hq:bS r=(3,0):=(by rw[bS,if_neg (by simp[hc0]),if_neg (by simp[hc1]),if_pos (by omega)]);rw[hq];first|done|rfl)
 refine aI ?_;refine ak (hc:=h218 r hp0) ?_;refine eB ?_;refine aq (fun hc3=>?_) (fun hc3=>?_)
 ·try simp only[fo]at hc3
  refine bt ?_;refine bC (aE (congrArg (D.int .i64) ?_) (congrArg (D.int .i64) ?_));all_goals
   have hq:bS r=cT r:=by
    exact lK hc0 hc1 (by omega) (by omega) rfl hc3
   rw[hq];first|done|rfl
 simp only[Bool.not_eq_false',decide_eq_true_eq]at hc3;have hpz:cT r=(0,0):=y6 hc3;have hgd:oM r:=⟨⟨hc0,hc1⟩,⟨by omega,by omega⟩,hpz⟩;refine ax ?_;refine ak (hc:=h219 r ⟨hgd,hp0⟩) ?_;refine aC ?_;intro u1;refine au ?_;refine ca (fun hc4=>?_) fun hc4=>?_
 ·refine aA ?_;refine bC (aE (congrArg (D.int .i64) ?_) (congrArg (D.int .i64) ?_));all_goals
   have hq:bS r=(3,0):=by
    rw[pQ hc0 hc1 (by omega) (by omega) hpz,if_pos (by omega)]
   rw[hq];first|done|rfl
 refine aA ?_;refine bC (aE (congrArg (D.int .i64) ?_) (congrArg (D.int .i64) ?_));all_goals
  have hq:bS r=(0,0):=by
   rw[pQ hc0 hc1 (by omega) (by omega) hpz,if_neg (by omega)]
  rw[hq];first|done|rfl
def C71 (Γ:Ctx):Prop:=∀(r:Rec),(dx r)→Γ.pre 71 [Rec.D r]∧Γ.val 71 [Rec.D r]=.tup [.int .i64 (bS r).1,.int .i64 (bS r).2]
end Go.Abs
end
section
namespace Go.Abs
open Go
def xD:az:=⟨1,7,fg,bL,(sq (rg [gb 4 s0,gm cse] [(2,0),(1,1)]) (sq (rg [gm (cs [45]),gm (cs [102,117,108,108])] [(5,0),(6,1)]) (sq (sq (r1 [gf 2 s2,gd l0,gl l1,cg l2 bc] 3 3) (.cond s3 (r1 [gf 2 s2,gd l0,gx 249 [l1,(i8 44)] [[.sl 1 [.a]],[.a]],gm l2] 5 3) .skip)) (sq (sq (r1 [gf 3 s2,gd l0] 4 1) (.cond s4 (r1 [gm (cs [98,97,114,101])] 6 0) .skip)) (sq (r1 [gf 0 s2,gd l0,ar (cs [97,110,121,32]) l1,ar l2 (cs [32]),gm s5,ar l3 l4,ar l5 (cs [32]),gm s6,ar l6 l7,ar l8 (cs [32]),gf 1 s2,gd l10,ar l9 gh,ar iq (cs [10]),gm jD] 1 14) .ret)))))⟩
def w461 {Γ:Ctx}(hm:(Γ.at 0).aY)(h249:GP Γ)(w:bN)  (hp0:w.fit):c7 Γ xD (.str (fL w)) [bN.D w]:=by
 show bq _ _ _ [⟨_,_⟩,_,_,_,_,_,_] _;have q1:=uC hp0;have q2:=hp0.1.1.1;have q3:=hp0.1.1.2;refine ai ?_;refine gD ?_;intro u0;refine au ?_;refine ca (fun hc0=>?_) fun hc0=>?_
 ·refine av ?_;refine ak (hc:=h249 w.feats 44 (by omega)) ?_;refine aQ ?_;refine ca (fun hc1=>?_) fun hc1=>?_
  ·refine aA ?_;refine dY ?_;refine dY ?_;refine aC ?_;refine dY ?_;refine dY ?_;refine aC ?_;refine dY ?_;refine dY ?_;refine au ?_;refine dY ?_;refine dY ?_;refine av ?_;refine b8 ?_;all_goals
    simp only[fL,bK,nU,aO,jz,kK,gB];first|rw[if_pos (show w.feats.length=0 by omega)]|rw[if_neg (show ¬w.feats.length=0 by omega)]
    simp[hc1]
  refine ax ?_;refine dY ?_;refine dY ?_;refine aC ?_;refine dY ?_;refine dY ?_;refine aC ?_;refine dY ?_;refine dY ?_;refine au ?_;refine dY ?_;refine dY ?_;refine av ?_;refine b8 ?_;all_goals
   simp only[fL,bK,nU,aO,jz,kK,gB];first|rw[if_pos (show w.feats.length=0 by omega)]|rw[if_neg (show ¬w.feats.length=0 by omega)]
   simp[hc1]
 refine aA ?_;refine ca (fun hc1=>?_) fun hc1=>?_
 ·refine aA ?_;refine dY ?_;refine dY ?_;refine aC ?_;refine dY ?_;refine dY ?_;refine aC ?_;refine dY ?_;refine dY ?_;refine au ?_;refine dY ?_;refine dY ?_;refine av ?_;refine b8 ?_;all_goals
   simp only[fL,bK,nU,aO,jz,kK,gB];first|rw[if_pos (show w.feats.length=0 by omega)]|rw[if_neg (show ¬w.feats.length=0 by omega)]
   simp[hc1]
 refine ax ?_;refine dY ?_;refine dY ?_;refine aC ?_;refine dY ?_;refine dY ?_;refine aC ?_;refine dY ?_;refine dY ?_;refine au ?_;refine dY ?_;refine dY ?_;refine av ?_;refine b8 ?_;all_goals
  simp only[fL,bK,nU,aO,jz,kK,gB];first|rw[if_pos (show w.feats.length=0 by omega)]|rw[if_neg (show ¬w.feats.length=0 by omega)]
  simp[hc1]
def LP (Γ:Ctx):Prop:=∀(w:bN),(w.fit)→Γ.pre 461 [bN.D w]∧Γ.val 461 [bN.D w]=.str (fL w)
def A6:az:=⟨1,3,fg,bL,(sq (r1 [gm cse] 1 0) (sq (sq (r1 [gm s0,aH l0 cse] 2 1) (jh s2 cse)) (sq (r1 [gm s0,ar (cs [119,104,101,110,32]) l0,ar l1 (cs [10]),gm l2] 1 3) .ret)))⟩
def w462 {Γ:Ctx}(hm:(Γ.at 0).aY)  (s:ah)  (hp0:s.length≤1048576):c7 Γ A6 (.str (fV s)) [.str s]:=by
 show bq _ _ _ [⟨_,_⟩,_,_] _;refine ai ?_;refine aQ ?_;refine ca (fun hc0=>?_) fun hc0=>?_
 ·refine aI ?_;refine b8 ?_;rw[fV,if_pos hc0]
 refine av ?_;refine dY ?_;refine dY ?_;refine av ?_;refine b8 ?_;rw[fV,if_neg hc0];simp[bK,aO,kL]
def LR (Γ:Ctx):Prop:=∀(s:ah),(s.length≤1048576)→Γ.pre 462 [.str s]∧Γ.val 462 [.str s]=.str (fV s)
end Go.Abs
end
section
namespace Go.Abs
open Go
def A5:az:=⟨1,13,fg,bL,(sq (rg [gb 9 s0,gm cse] [(2,0),(1,1)]) (sq (r2 [gf 0 s2,gd l0,ar (cs [112,97,99,107,97,103,101,32]) l1,ar l2 (cs [32]),gf 1 s2,gk 5 true l4,gx 316 [l5] D7,ar l3 l6,ar l7 (cs [10]),gm l8] 5 9) (sq (sq (r1 [gm bc] 3 0) (.block 0 (.loop (sq (sq (r1 [gm s3,gf 6 s2,gd l1,gl l2,aJ l0 l3] 4 4) (ek s4 0)) (sq (.block 1 (sq (r1 [gm s5,ar l0 (cs [110,101,101,100,10]),gm l1] 5 2) (sq (sq (r1 [gm bc] 6 0) (.block 2 (.loop (sq (sq (r1 [gm s6,gf 6 s2,gd l1,gm s3,ga 3 l2 l3,gf 0 l4,gd l5,gl l6,aJ l0 l7] 7 8) (ek s7 2)) (sq (.block 3 (r1 [gm s5,gf 6 s2,gd l1,gm s3,ga 3 l2 l3,gf 0 l4,gd l5,gm s6,ga 4 l6 l7,gk 4 true l8,gx 461 [l9] [[.a,.a,.sl 1 [.a],.a]],ar l0 l10,gm gh] 5 12)) (r1 [gm s6,ar l0 bV,gm l1] 6 2)))))) (sq (r1 [gm s5,gf 6 s2,gd l1,gm s3,ga 3 l2 l3,gf 1 l4,gd l5,gx 462 [l6] bL,ar l0 l7,gm l8] 5 9) (sq (r1 [gf 6 s2,gd l0,gm s3,ga 3 l1 l2,gf 2 l3,gd l4,bZ l5 cse] 8 6) (.cond s8 (r1 [gm s5,ar l0 (cs [111,112,116,105,111,110,32]),gf 6 s2,gd l2,gm s3,ga 3 l3 l4,gf 2 l5,gd l6,ar l1 l7,ar l8 (cs [10]),gm l9] 5 10) .skip)))))) (r1 [gm s3,ar l0 bV,gm l1] 3 2)))))) (sq (sq (r1 [gm bc] 9 0) (.block 4 (.loop (sq (sq (r1 [gm s9,gf 7 s2,gd l1,gl l2,aJ l0 l3] 10 4) (ek jR 4)) (sq (.block 5 (r2 [gm s5,ar l0 (cs [98,97,114,32]),gf 7 s2,gd l2,gm s9,ga 3 l3 l4,gf 0 l5,gd l6,ar l1 l7,ar l8 (cs [32]),gf 7 s2,gd l10,gm s9,ga 3 gh iq,gf 1 jD,gd jZ,ar l9 lz,ar mw (cs [10]),gf 7 s2,gd pd,gm s9,ga 3 qk tt,gf 2 uU,gd vJ,gx 462 [zY] bL,ar oC zZ,gm BW] 5 26)) (r1 [gm s9,ar l0 bV,gm l1] 9 2)))))) (sq (sq (r1 [gm bc] 11 0) (.block 6 (.loop (sq (sq (r1 [gm lf,gf 8 s2,gd l1,gl l2,aJ l0 l3] 12 4) (ek lE 6)) (sq (.block 7 (r2 [gm s5,gf 8 s2,gd l1,gm lf,ga 2 l2 l3,gf 0 l4,gd l5,gn (.bsl 1 (.str []) 2 [(0,(cs [102,101,97,116,117,114,101])),(1,l6)]),gf 8 s2,gd l8,gm lf,ga 2 l9 l10,gf 1 gh,gd iq,gn (.app 1 l7 jD),gx 249 [jZ,(i8 32)] [[.sl 1 [.a]],[.a]],ar l0 lz,ar mw (cs [10]),gm oC] 5 18)) (r1 [gm lf,ar l0 bV,gm l1] 11 2)))))) (sq (r1 [gm s5,gm l0] 1 1) .ret))))))⟩
def w219 {Γ:Ctx}(hm:(Γ.at 0).aY)(h249:GP Γ)(h316:Ly Γ)(h461:LP Γ)(h462:LR Γ)(r:Rec)  (hp0:oM r∧dx r):c7 Γ A5 (.str (mJ r)) [Rec.D r]:=by
 show bq _ _ _ [⟨_,_⟩,_,_,_,_,_,_,_,_,_,_,_,_] _;have hft:=vF hp0;have q0:=hft.nm;have q00:=uz r.v hft.v;refine ai ?_;refine aA ?_;refine dY ?_;refine dY ?_;refine aC ?_;refine cX (v:=dc.D r.v) ?_;refine ak (hc:=h316 r.v hft.v) ?_;refine dY ?_;refine dY ?_;refine aA ?_;refine aV hm (ι:=Nat) (fun i=>[.un,.un,⟨true,.ptr 0 9 0 0⟩,⟨true,.int .i64 (i:Nat)⟩,.un,⟨true,.str (hR r i)⟩,.un,.un,.un,.un,.un,.un,.un]) (fun i=>[(0,.buf 9 [Rec.D r])]) 13 (fun i=>i≤r.needs.length) (fun i=>r.needs.length-i) 0 (by omega) (aT.to [(0,0)] ae ae (by repeat(first|exact cS.nil|refine cS.un ?_|refine cS.eq ae ?_|refine cS.nl (congrArg D.str (by rw[Gn];simp[oN,bK,aO,dF])) ae ?_)) px) ?_;intro i hi;have q1:=xO hft i hi;refine aA ?_;intro u0;refine au ?_;refine ca (fun hc0=>?_) fun hc0=>?_
 ·refine av ?_;have hnf:=hft.n _ (bw (show i<r.needs.length by omega));have hn3:=hnf.1.1;refine aC ?_;refine dY ?_;refine aA ?_;refine aV hm (ι:=Nat) (fun j=>[.un,.un,⟨true,.ptr 0 9 0 0⟩,⟨true,.int .i64 (i:Nat)⟩,.un,⟨true,.str (hR r i++cE r.needs[i]! j)⟩,⟨true,.int .i64 (j:Nat)⟩,.un,.un,.un,.un,.un,.un]) (fun j=>[(0,.buf 9 [Rec.D r])]) 22 (fun j=>j≤r.needs[i]!.any.length) (fun j=>r.needs[i]!.any.length-j) 0 (by omega) (aT.to [(0,0)] ae ae (by repeat(first|exact cS.nil|refine cS.un ?_|refine cS.eq ae ?_|refine cS.nl (congrArg D.str (by rw[HH])) ae ?_)) px) ?_;intro j hj;have q2:=vN hnf j (by omega);refine gC ?_;intro u1;refine au ?_;refine ca (fun hc1=>?_) fun hc1=>?_
  ·refine av ?_;have hwf:=hnf.1.2 _ (bw (show j<r.needs[i]!.any.length by omega));have q3:=rh hwf;refine cB ?_;first|refine bQ (v:=(bN.D _)) ?_|refine ef (v:=(bN.D _)) ?_
   refine ak (hc:=h461 r.needs[i]!.any[j]! hwf) ?_;refine dY ?_;refine cB ?_;exact⟨j+1,(by omega),by omega,(aT.to [(0,0)] ae ae (by repeat(first|exact cS.nil|refine cS.un ?_|refine cS.eq ae ?_|refine cS.nl (congrArg D.str (by rw[kC (by omega),List.append_assoc])) ae ?_)) px)⟩
  refine av ?_;have q4:=kg hnf.2.1;have q5:=hnf.2.2;refine aQ ?_;refine ak (hc:=h462 r.needs[i]!.when' hnf.2.1) ?_;refine dY ?_;refine eB ?_;refine eW (fun hc2=>?_) fun hc2=>?_
  ·refine au ?_;refine dY ?_;refine aA ?_;refine dY ?_;refine dY ?_;refine cB ?_;have hq:hR r (i+1)=hR r i++(cE r.needs[i]! j++fV r.needs[i]!.when'++qc r.needs[i]!.option):=by rw[jy (by omega),qI (j:=j) (by omega)]
   have ho:qc r.needs[i]!.option=[111,112,116,105,111,110,32]++r.needs[i]!.option++[10]:=by rw[qc,if_neg hc2];simp[bK,aO,dW]
   exact⟨i+1,(by omega),by omega,(aT.to [(0,0)] ae ae (by repeat(first|exact cS.nil|refine cS.un ?_|refine cS.eq ae ?_|refine cS.nl (congrArg D.str (by rw[hq,ho];simp only[List.append_assoc])) ae ?_)) px)⟩
  refine bt ?_;have hq:hR r (i+1)=hR r i++(cE r.needs[i]! j++fV r.needs[i]!.when'++qc r.needs[i]!.option):=by rw[jy (by omega),qI (j:=j) (by omega)]
  have ho:qc r.needs[i]!.option=[]:=by rw[qc,if_pos hc2]
  exact⟨i+1,(by omega),by omega,(aT.to [(0,0)] ae ae (by repeat(first|exact cS.nil|refine cS.un ?_|refine cS.eq ae ?_|refine cS.nl (congrArg D.str (by rw[hq,ho];simp only[List.append_assoc,List.append_nil])) ae ?_)) px)⟩
 refine ax ?_;have h33:i=r.needs.length:=by omega
 subst h33;refine au ?_;refine aV hm (ι:=Nat) (fun i=>[.un,.un,⟨true,.ptr 0 9 0 0⟩,.un,.un,⟨true,.str (uv r i)⟩,.un,.un,.un,⟨true,.int .i64 (i:Nat)⟩,.un,.un,.un]) (fun i=>[(0,.buf 9 [Rec.D r])]) 19 (fun i=>i≤r.bars.length) (fun i=>r.bars.length-i) 0 (by omega) (aT.to [(0,0)] ae ae (by repeat(first|exact cS.nil|refine cS.un ?_|refine cS.eq ae ?_|refine cS.nl (congrArg D.str (by rw[Gp])) ae ?_)) px) ?_;intro i hi;have q1:=xP hft i hi;refine aA ?_;intro u2;refine au ?_;refine ca (fun hc3=>?_) fun hc3=>?_
 ·refine av ?_;have q4:=hft.b _ (bw (show i<r.bars.length by omega));have q5:=q4.1;have q6:=q4.2.1;have q7:=kg q4.2.2;refine aC ?_;refine dY ?_;refine aA ?_;refine dY ?_;refine dY ?_;refine aA ?_;refine dY ?_;refine dY ?_;refine aA ?_;refine ak (hc:=h462 r.bars[i]!.when' q4.2.2) ?_;refine dY ?_;refine cB ?_;have hq:=zK (r:=r) (i:=i) (by omega);exact⟨i+1,(by omega),by omega,(aT.to [(0,0)] ae ae (by repeat(first|exact cS.nil|refine cS.un ?_|refine cS.eq ae ?_|refine cS.nl (congrArg D.str (by rw[hq];simp[wP,bK,aO,j4])) ae ?_)) px)⟩
 refine ax ?_;have h33:i=r.bars.length:=by omega
 subst h33;refine au ?_;refine aV hm (ι:=Nat) (fun i=>[.un,.un,⟨true,.ptr 0 9 0 0⟩,.un,.un,⟨true,.str (wB r i)⟩,.un,.un,.un,.un,.un,⟨true,.int .i64 (i:Nat)⟩,.un]) (fun i=>[(0,.buf 9 [Rec.D r])]) 25 (fun i=>i≤r.feats.length) (fun i=>r.feats.length-i) 0 (by omega) (aT.to [(0,0)] ae ae (by repeat(first|exact cS.nil|refine cS.un ?_|refine cS.eq ae ?_|refine cS.nl (congrArg D.str (by rw[Gq])) ae ?_)) px) ?_;intro i hi;have q1:=Cv hft i hi;refine aA ?_;intro u3;refine au ?_;refine ca (fun hc4=>?_) fun hc4=>?_
 ·refine av ?_;have q4:=hft.f _ (bw (show i<r.feats.length by omega));have q5:=vA q4;have q6:=q4.2;simp only[pY,bK,List.length_append,List.length_cons,List.length_nil]at q5;refine aQ ?_;refine cF [(.str _),(.str _)] ?_;refine aA ?_;refine Kr (xs:=[cN,r.feats[i]!.name]) (ys:=r.feats[i]!.of) (he:=sn.sl) (hb:=by simp only[List.length_cons,List.length_nil];omega) ?_;refine ak (hc:=h249 ([cN,r.feats[i]!.name]++r.feats[i]!.of) 32 (by omega)) (ha:=fun _=>congrArg (fun d=>[d,D.int .u8 32]) (mF (q:=D.str) (fun _=>rfl) ae)) (hp:=fun _=>⟨kM (q:=D.str) (fun _=>rfl) ae,rfl,trivial⟩) ?_;refine cA (hb:=fun _=>by first|omega|(simp only[List.length_append,List.length_cons,List.length_nil];omega)) ?_;refine cA (hb:=fun _=>by first|omega|(simp only[List.length_append,List.length_cons,List.length_nil];omega)) ?_;refine cB ?_;have hq:=zL (r:=r) (i:=i) (by omega);exact⟨i+1,(by omega),by omega,(aT.to [(0,0)] ae ae (by repeat(first|exact cS.nil|refine cS.un ?_|refine cS.eq ae ?_|refine cS.nl (congrArg D.str (by rw[hq];simp[pY,bK])) ae ?_)) px)⟩
 refine av ?_;have h33:i=r.feats.length:=by omega
 subst h33;refine ax ?_;refine b8 ?_;exact xQ r
end Go.Abs
end
section
namespace Go.Abs
open Go
def zl:az:=⟨1,6,[⟨1,none⟩,⟨2,none⟩],gL,(sq (rg [gb 9 s0,gm cse,gm bc] [(3,0),(1,1),(2,2)]) (sq (sq (r1 [gk 9 true s3,gx 71 [l0] [[.a,.a,.a,.a,.a,.a,.sl 3 [.sl 4 [.a,.a,.sl 1 [.a],.a],.a,.a],.sl 3 [.a,.a,.a],.sl 2 [.a,.sl 1 [.a]]]],gm l1,ge l2 0,ge l2 1,gm l3,gm l4] 4 5) (sq (r1 [gm s4,bZ l0 bc] 5 1) (.cond s5 (sq (rg [gm s4,gm cse,gm l0] [(1,1),(2,2)]) .ret) .skip))) (sq (rg [gk 9 true s3,gx 219 [l0] [[.a,.a,.a,.a,.a,.a,.sl 3 [.sl 4 [.a,.a,.sl 1 [.a],.a],.a,.a],.sl 3 [.a,.a,.a],.sl 2 [.a,.sl 1 [.a]]]],gm l1,gm bc] [(1,2),(2,3)]) .ret)))⟩
def w73 {Γ:Ctx}(hm:(Γ.at 0).aY)(h71:C71 Γ)(h219:I3 Γ)(r:Rec)  (hp0:dx r):c7 Γ zl (.tup [.str (df r).1,.int .i64 (df r).2]) [Rec.D r]:=by
 show bq _ _ _ [⟨_,_⟩,_,_,_,_,_] _;refine ai ?_;refine aQ ?_;refine ak (hc:=h71 r hp0) ?_;refine eB ?_;refine ca (fun hc0=>?_) fun hc0=>?_
 ·refine aQ ?_;refine bC (aE (congrArg D.str ?_) (congrArg (D.int .i64) ?_));all_goals
   simp[df,hc0]
 refine au ?_;have hgd:=rl hc0;refine aC ?_;refine ak (hc:=h219 r ⟨hgd,hp0⟩) ?_;refine ax ?_;refine bC (aE (congrArg D.str ?_) (congrArg (D.int .i64) ?_));all_goals
  simp[df,hc0]
def C73 (Γ:Ctx):Prop:=∀(r:Rec),(dx r)→Γ.pre 73 [Rec.D r]∧Γ.val 73 [Rec.D r]=.tup [.str (df r).1,.int .i64 (df r).2]
def DB:az:=⟨1,7,[⟨1,none⟩,⟨2,none⟩],gL,(sq (rg [gb 9 s0,gm (iu 0),gm bc] [(3,0),(1,1),(2,2)]) (sq (rg [gk 9 true s3,gx 73 [l0] [[.a,.a,.a,.a,.a,.a,.sl 3 [.sl 4 [.a,.a,.sl 1 [.a],.a],.a,.a],.sl 3 [.a,.a,.a],.sl 2 [.a,.sl 1 [.a]]]],gm l1,ge l2 0,ge l2 1,gm l3,gm l4] [(6,5),(4,6)]) (sq (sq (r1 [gm s4,bZ l0 bc] 5 1) (.cond s5 (sq (rg [gm s4,gm (iu 0),gm l0] [(1,1),(2,2)]) .ret) .skip)) (sq (rg [gm s6,gn (.s2b l0),gx 221 [l1] [[.sl 1 [.a]]],gm l2,gm bc] [(1,3),(2,4)]) .ret))))⟩
def w75 {Γ:Ctx}(hm:(Γ.at 0).aY)(h73:C73 Γ)(h221:Lt Γ)(r:Rec)  (hp0:dx r):c7 Γ DB (.tup [.int .u64 (vc r),.int .i64 (df r).2]) [Rec.D r]:=by
 show bq _ _ _ [⟨_,_⟩,_,_,_,_,_,_] _;refine ai ?_;refine aA ?_;refine ak (hc:=h73 r hp0) ?_;refine eB ?_;refine ca (fun hc0=>?_) fun hc0=>?_
 ·refine aQ ?_;refine bC (aE (congrArg (D.int .u64) ?_) (congrArg (D.int .i64) ?_));all_goals
   simp[vc,hc0]
 refine ax ?_;refine ak (hc:=h221 (df r).1) (ha:=fun _=>congrArg (fun d=>[d]) (mF (q:=fun b:UInt8=>D.int .u8 b.toNat) (fun _=>rfl) ae)) (hp:=fun _=>⟨kM (q:=fun b:UInt8=>D.int .u8 b.toNat) (fun _=>rfl) ae,trivial⟩) ?_;refine ax ?_;refine bC (aE (congrArg (D.int .u64) ?_) (congrArg (D.int .i64) ?_));all_goals
  simp[vc,hc0]
def C75 (Γ:Ctx):Prop:=∀(r:Rec),(dx r)→Γ.pre 75 [Rec.D r]∧Γ.val 75 [Rec.D r]=.tup [.int .u64 (vc r),.int .i64 (df r).2]
end Go.Abs
end
section
namespace Go.Abs
open Go
def xz:az:=⟨1,6,[⟨1,none⟩,⟨2,none⟩],gL,(sq (rg [gb 9 s0,gm cse,gm bc] [(3,0),(1,1),(2,2)]) (sq (sq (r1 [gk 9 true s3,gx 70 [l0] [[.a,.a,.a,.a,.a,.a,.sl 3 [.sl 4 [.a,.a,.sl 1 [.a],.a],.a,.a],.sl 3 [.a,.a,.a],.sl 2 [.a,.sl 1 [.a]]]],gm l1,ge l2 0,ge l2 1,gm l3,gm l4] 4 5) (sq (r1 [gm s4,bZ l0 bc] 5 1) (.cond s5 (sq (rg [gm s4,gm cse,gm l0] [(1,1),(2,2)]) .ret) .skip))) (sq (rg [gk 9 true s3,gx 215 [l0] [[.a,.a,.a,.a,.a,.a,.sl 3 [.sl 4 [.a,.a,.sl 1 [.a],.a],.a,.a],.sl 3 [.a,.a,.a],.sl 2 [.a,.sl 1 [.a]]]],gm l1,gm bc] [(1,2),(2,3)]) .ret)))⟩
def w72 {Γ:Ctx}(hm:(Γ.at 0).aY)(h70:C70 Γ)(h215:I2 Γ)(r:Rec)  (hp0:dx r):c7 Γ xz (.tup [.str (df r).1,.int .i64 (df r).2]) [Rec.D r]:=by
 show bq _ _ _ [⟨_,_⟩,_,_,_,_,_] _;refine ai ?_;refine aQ ?_;refine ak (hc:=h70 r hp0) ?_;refine eB ?_;refine ca (fun hc0=>?_) fun hc0=>?_
 ·refine aQ ?_;refine bC (aE (congrArg D.str ?_) (congrArg (D.int .i64) ?_));all_goals
   simp[df,hc0]
 refine au ?_;have hgd:=rl hc0;refine aC ?_;refine ak (hc:=h215 r ⟨hgd,hp0⟩) ?_;refine ax ?_;refine bC (aE (congrArg D.str ?_) (congrArg (D.int .i64) ?_));all_goals
  simp[df,hc0]
def C72 (Γ:Ctx):Prop:=∀(r:Rec),(dx r)→Γ.pre 72 [Rec.D r]∧Γ.val 72 [Rec.D r]=.tup [.str (df r).1,.int .i64 (df r).2]
def AX:az:=⟨1,7,[⟨1,none⟩,⟨2,none⟩],gL,(sq (rg [gb 9 s0,gm (iu 0),gm bc] [(3,0),(1,1),(2,2)]) (sq (rg [gk 9 true s3,gx 72 [l0] [[.a,.a,.a,.a,.a,.a,.sl 3 [.sl 4 [.a,.a,.sl 1 [.a],.a],.a,.a],.sl 3 [.a,.a,.a],.sl 2 [.a,.sl 1 [.a]]]],gm l1,ge l2 0,ge l2 1,gm l3,gm l4] [(6,5),(4,6)]) (sq (sq (r1 [gm s4,bZ l0 bc] 5 1) (.cond s5 (sq (rg [gm s4,gm (iu 0),gm l0] [(1,1),(2,2)]) .ret) .skip)) (sq (rg [gm s6,gn (.s2b l0),gx 220 [l1] [[.sl 1 [.a]]],gm l2,gm bc] [(1,3),(2,4)]) .ret))))⟩
def w74 {Γ:Ctx}(hm:(Γ.at 0).aY)(h72:C72 Γ)(h220:Ls Γ)(r:Rec)  (hp0:dx r):c7 Γ AX (.tup [.int .u64 (vc r),.int .i64 (df r).2]) [Rec.D r]:=by
 show bq _ _ _ [⟨_,_⟩,_,_,_,_,_,_] _;refine ai ?_;refine aA ?_;refine ak (hc:=h72 r hp0) ?_;refine eB ?_;refine ca (fun hc0=>?_) fun hc0=>?_
 ·refine aQ ?_;refine bC (aE (congrArg (D.int .u64) ?_) (congrArg (D.int .i64) ?_));all_goals
   simp[vc,hc0]
 refine ax ?_;refine ak (hc:=h220 (df r).1) (ha:=fun _=>congrArg (fun d=>[d]) (mF (q:=fun b:UInt8=>D.int .u8 b.toNat) (fun _=>rfl) ae)) (hp:=fun _=>⟨kM (q:=fun b:UInt8=>D.int .u8 b.toNat) (fun _=>rfl) ae,trivial⟩) ?_;refine ax ?_;refine bC (aE (congrArg (D.int .u64) ?_) (congrArg (D.int .i64) ?_));all_goals
  simp[vc,hc0]
def C74 (Γ:Ctx):Prop:=∀(r:Rec),(dx r)→Γ.pre 74 [Rec.D r]∧Γ.val 74 [Rec.D r]=.tup [.int .u64 (vc r),.int .i64 (df r).2]
end Go.Abs
end
section
namespace Go.Abs
open Go
end Go.Abs
end
