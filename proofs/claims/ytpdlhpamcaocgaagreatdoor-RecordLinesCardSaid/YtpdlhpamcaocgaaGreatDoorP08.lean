/- A part of the proofs of the statements: RSpec15, X13, X14, RSpec16, X15, RSpec17, W1, W4, X16, RSpec18, Y1, RSpec19, LAsmS, LInj, Y2, Y3, RSpec20, Y4, RSpec21, LAsmT, RGen1, G1, G2, G3, G4. -/
import Derived.Test.YtpdlhpamcaocgaaGreatDoorP07
set_option linter.all false
set_option maxRecDepth 4000
namespace Go.Abs
def Ld.yc {r:Ld}(h:r.sm):r.to r.rest=r:=by
 obtain⟨ls,n⟩:=r;have h1:n≤ls.length:=h.1.1;simp only[Ld.to,Ld.rest,List.length_drop,Ld.mk.injEq,true_and];omega
def Ld.td {r:Ld}{q:List ah}(h:q<:+r.ls):(r.to q).rest=q:=by
 obtain⟨ls,n⟩:=r;obtain⟨a,e⟩:=h;simp only at e;subst e;simp[Ld.rest,Ld.to]
def Ld.sm.to {r:Ld}(h:r.sm)(q:List ah):(r.to q).sm:=⟨⟨Nat.sub_le _ _,h.1.2⟩,h.2⟩
def Ld.uK (r:Ld):r.rest<:+r.ls:=List.drop_suffix _ _
def cC (w:ah)(n:Nat)(op:Bool)(p:List ah):List ah:=match aY w n op p with
 |some (_,q)=>q
 |none=>p
def kZ {w:ah}{n:Nat}{op:Bool}{p l q:List ah}(h:aY w n op p=some (l,q)):q<:+p:=by
 obtain⟨t,rfl,_⟩:=dn h;exact List.suffix_cons _ _
def Ld.yv {r:Ld}{p:List ah}(hp:p<:+r.ls){w:ah}{n:Nat}{op:Bool}:(r.to p).after (aY w n op p)=r.to (cC w n op p):=by
 unfold cC;cases h:aY w n op p with
 |none=>rfl
 |some lq=>
  obtain⟨l,q⟩:=lq;have:=iz h;have:=hp.length_le;simp only[Ld.after,Ld.to,Ld.mk.injEq,true_and];omega
def sW {Γ:Ctx}(h:Hk Γ){r:Ld}(hr:r.sm){p:List ah}(hp:p<:+r.ls){w:ah}{n:Nat}{op:Bool}(hn:n≤1000)(ho:op=true→1≤n):
  Γ.fp 465 (Ld.D (r.to p)) [.str w,.int .i64 (n:Nat),.bool op]∧Γ.fv 465 (Ld.D (r.to p)) [.str w,.int .i64 (n:Nat),.bool op]=.tup [vw (aY w n op p),.bool (aY w n op p).isSome]∧Γ.fs 465 (Ld.D (r.to p)) [.str w,.int .i64 (n:Nat),.bool op]=Ld.D (r.to (cC w n op p)):=by
 have:=h (r.to p) w n op (hr.to p) hn ho;rw[Ld.td hp,Ld.yv hp]at this;exact this
def qW {w:ah}{n:Nat}{op:Bool}{t:ah}{l:List ah}(h:eG w n op t=some l):(n=0∨l.length=n)∧[]∉l∧l=cg n op t:=by
 unfold eG at h;split at h
 ·rename_i hc;obtain rfl:=Option.some.inj h;exact⟨hc.2.1,hc.2.2,rfl⟩
 ·cases h
def mY (x:UInt8):∀(l:List ah)(n:Nat),(aF [x] (l.drop n)).length≤(aF [x] l).length
 |[],n=>by simp
 |a::r,0=>Nat.le_refl _
 |[a],n+1=>by simp[aF]
 |a::b::r,n+1=>by
  have:=mY x (b::r) n;rw[List.drop_succ_cons,dJ [x] a (b::r) (by simp)];simp only[List.length_append];omega
def Ad {n:Nat}{op:Bool}{t w:ah}(h:w∈cg n op t):w.length≤t.length:=by
 unfold cg at h;split at h
 ·unfold mH at h;split at h
  ·exact dq t 32 h
  ·rw[List.mem_append]at h;rcases h with h|h
   ·exact dq t 32 (List.mem_of_mem_take h)
   ·simp only[List.mem_singleton]at h;subst h;have:=mY 32 (ai t 32) (n-1);rw[iS (b:=32) (x:=32) rfl t]at this;exact this
 ·exact dq t 32 h
def kj {r:Ld}(hr:r.sm){p:List ah}(hp:p<:+r.ls){w:ah}{n:Nat}{op:Bool}{l q:List ah}(h:aY w n op p=some (l,q)):
  (n=0∨l.length=n)∧(∀u∈l,u.length≤1048576)∧q<:+r.ls∧q.length+1=p.length:=by
 obtain⟨t,rfl,ht⟩:=dn h;obtain⟨h1,_,h3⟩:=qW ht;refine⟨h1,fun u hu=>?_,(List.suffix_cons _ _).trans hp,rfl⟩;rw[h3]at hu;have:=Ad hu;have:=hr.2 t (hp.subset (.head _));omega
def Ld.back {r:Ld}{t:ah}{q:List ah}(h:(t::q)<:+r.ls):uO (Ld.D (r.to q)) 2 1 1 (.int .i64 (((r.to q).at':Nat) -1:Int))=Ld.D (r.to (t::q)):=by
 have:=h.length_le;show D.agg [.sl 1 (r.ls.map D.str),.int .i64 (((r.ls.length-q.length:Nat):Int) -1)]=D.agg [.sl 1 (r.ls.map D.str),.int .i64 ((r.ls.length-(q.length+1):Nat):Int)];simp only[List.length_cons]at this;congr 4;omega
def gI {α:Type}{o:Option α}(h:o.isSome=true):∃a,o=some a:=Option.isSome_iff_exists.1 h
def gH {α:Type}{o:Option α}(h:o.isSome=false):o=none:=by cases o with
 |none=>rfl
 |some a=>cases h
def bp.N (x:bp):Go.Abs.D:=.agg [.str x.name,.str x.range,KW x.feats,.bool x.bare]
def KY:∀l:List ah,sJ (KW l) (.sl 1 (l.map D.str))
 |[]=>.nil 1
 |_::_=>.refl _
def bp.wk (x:bp):sJ x.N x.D:=.ag (.cons (.refl _) (.cons (.refl _) (.cons (KY _) (.cons (.refl _) .nil))))
def bp.lz (x:bp):x.N.aK=true:=by
 simp only[bp.N,D.aK,aH,wu,Bool.and_true]
def qf {p:List ah}(h:aY gX 5 true p=none):bO p=([],p):=by
 match p,h with
 |[],_=>rfl
 |t::r,h=>
  simp only[aY]at h;split at h
  ·cases h
  ·rename_i hn;simp only[bO,hn]
def Bx {p l q:List ah}(h:aY gX 5 true p=some (l,q))(ho:pR l=false):bO p=([],p):=by
 obtain⟨t,rfl,ht⟩:=dn h;simp only[bO,ht,ho,Bool.false_eq_true,if_false]
def r9 {p l q:List ah}(h:aY gX 5 true p=some (l,q))(ho:pR l=true):bO p=(eU l::(bO q).1,(bO q).2):=by
 obtain⟨t,rfl,ht⟩:=dn h;simp only[bO,ht,ho,if_true]
def nU (s:ah)(b:Int):ai s b≠[]:=by
 have:=eQ b s [];intro h;unfold ai at h;rw[h]at this;simp at this
def KX {l:List ah}(h:l≠[]):KW l=.sl 1 (l.map D.str):=by
 match l,h with
 |_::_,_=>rfl
def gu (p:List ah):(bj p).2<:+p:=by
 unfold bj;split
 ·rename_i h;exact kZ h
 ·exact List.suffix_refl _
def F3 (p:List ah):(oU p).2<:+p:=by
 unfold oU;split
 ·rename_i h;exact kZ h
 ·exact List.suffix_refl _
end Go.Abs
section
namespace Go.Abs
open Go
def fU:aB:=⟨1,5,kM,cv,(sq (r1 [gm cse] 1 0) (sq (sq (rg [gm s0,gn (.callF 465 l0 [(cs [119,104,101,110]),kB,vk] NG),gm l1,ge l2 0,ge l2 1,gm l3,gm l4] [(4,5),(2,6)]) (sq (r1 [gm s2] 3 0) (.cond s3 (sq (r1 [gm s4,ga 1 l0 ca,gd l1,gm l2] 1 3) .ret) .skip))) (AQ cse)))⟩
def w468 {Γ:Ctx}(hm:(Γ.at 1).br)(h465:Hk (Γ.at 1))(r:Ld)  (hp0:r.sm):bB (Γ.at 1) fU.body (CL fU 2 (.str (bj r.rest).1) (Ld.D (r.to (bj r.rest).2)):Ex→List aW→St→Prop) (eL fU (.ptr 0 2 0 0::[])) ⟨1,[(0,.buf 2 [(Ld.D r)])]⟩:=by
 show bB _ _ _ [⟨true,.ptr 0 2 0 0⟩,.un,.un,.un,.un] ⟨1,[(0,.buf 2 [(Ld.D r)])]⟩;have hself:=Ld.yc hp0;have hq1:=r.uK;refine ak ?_;refine aA ?_;rw[show Ld.D r=Ld.D (r.to r.rest)by rw[hself]];refine ax ?_;refine jE (hc:=sW h465 hp0 (p:=r.rest) hq1 (w:=fj) (n:=2) (op:=true) (by decide) (by decide)) ?_;refine ax ?_;refine fG _ ?_;refine b6 ?_;refine cN (fun hc0=>?_) fun hc0=>?_
 ·refine ay ?_;obtain⟨⟨l,q2⟩,hq⟩:=gI hc0;have hnr:cC fj 2 true r.rest=q2:=by simp only[cC,hq]
  obtain⟨hl,hlm,hq2,hqp⟩:=kj hp0 hq1 hq;rw[hnr,hq];have hwp:bj r.rest=(l[1]!,q2):=by simp only[bj,hq]
  rw[hwp];refine ax ?_;refine cH 1 (hb:=fun _=>by omega) ?_;refine cj (v:=.str l[1]!) (hi:=fun _=>by omega) ?_;refine az ?_;refine eh trivial iW (Eq.trans ae (congrArg D.str ?_)) ae ae ae;rfl
 refine ay ?_;have hq:=gH hc0;have hnr:cC fj 2 true r.rest=r.rest:=by simp only[cC,hq]
 rw[hnr];have hwp:bj r.rest=([],r.rest):=by simp only[bj,hq]
 rw[hwp];refine az ?_;refine eh trivial iW (Eq.trans ae (congrArg D.str ?_)) ae ae ae;rfl
def Hl (Γ:Ctx):Prop:=∀(r:Ld),(r.sm)→Γ.fp 468 (Ld.D r) []∧Γ.fv 468 (Ld.D r) []=.str (bj r.rest).1∧Γ.fs 468 (Ld.D r) []=Ld.D (r.to (bj r.rest).2)
end Go.Abs
end
section
namespace Go.Abs
open Go
def fS:aB:=⟨1,12,[⟨1,some (3,true)⟩],[[.sl 4 [.a,.a,.sl 1 [.a],.a],.a,.a]],(sq (r1 [gb 3 (.c (.agg [.av,.str [],.str []]))] 1 0) (sq (r1 [gb 3 (.c (.agg [.av,.str [],.str []]))] 8 0) (sq (.block 0 (.loop (.block 1 (sq (rg [gm s0,gn (.callF 465 l0 [(cs [97,110,121]),BY,vk] NG),gm l1,ge l2 0,ge l2 1,gm l3,gm l4] [(4,5),(2,6)]) (sq (sq (r1 [gm s2,pr l0] 3 1) (.cond s3 (.exit 0) .skip)) (sq (sq (r1 [gm s4,ga 1 l0 kL,gd l1,cr l2 (cs [98,97,114,101]),gm l3,gmt 4 s4,cJ 4 (.ia 1 l5 kL),qj 4 l6,cJ 4 (fg l7 (cs [102,117,108,108])),hX l4 l8] 5 9) (.cond s5 (sq (rg [gm s0,gc l0,gf 1 l1,gd l2,fO l3 ca,gc l0,gf 1 l5,gt 1 l6 l4] []) (.exit 0)) .skip)) (sq (r2 [gm s4,ga 1 l0 ca,gd l1,gm s4,ga 1 l3 vc,gd l4,gm s4,ga 1 l6 kL,gd l7,aE l8 (cs [98,97,114,101]),gn (.build [.str [],.str [],.av,.bool false] [(0,1,l2),(1,1,l5),(3,1,l9)]),gb 4 (.c (.agg [.str [],.str [],.av,.bool false])),gt 4 ki l10] 7 11) (sq (sq (r1 [gm s4,ga 1 l0 kB,gd l1,cr l2 (cs [45])] 6 3) (.cond s6 (rg [gm s4,ga 1 l0 kB,gd l1,gx 124 [l2,(cs [44])] je,gf 2 s7,gt 1 l4 l3] []) .skip)) (rg [gf 0 s8,gd l0,gk 4 true s7,gn (.bsl 4 (.agg [.str [],.str [],.av,.bool false]) 1 [(0,l2)]),gn (.app 4 l1 l3),gf 0 s8,gt 1 l5 l4] []))))))))) (sq (rg [gm s0,gn (.callF 468 l0 [] []),gf 1 s8,gt 1 l2 l1] []) (sq (sq (rg [gm s0,gn (.callF 465 l0 [(cs [111,112,116,105,111,110]),kB,dH] NG),gm l1,ge l2 0,ge l2 1,gm l3,gm l4] [(11,5),(9,6)]) (sq (r1 [gm s9] 10 0) (.cond lx (rg [gm oo,ga 1 l0 ca,gd l1,gf 2 s8,gt 1 l3 l2] []) .skip))) (sq (rg [gk 3 true s8,gt 3 s1 l0] []) .ret))))))⟩
def yh {Γ:Ctx}(h:Hl Γ){r:Ld}(hr:r.sm){p:List ah}(hp:p<:+r.ls):Γ.fp 468 (Ld.D (r.to p)) []∧Γ.fv 468 (Ld.D (r.to p)) []=.str (bj p).1∧Γ.fs 468 (Ld.D (r.to p)) []=Ld.D (r.to (bj p).2):=by
 have:=h (r.to p) (hr.to p);rw[Ld.td hp]at this;exact this
def w467 {Γ:Ctx}(hm:(Γ.at 1).br)(h124:Es (Γ.at 1))(h465:Hk (Γ.at 1))(h468:Hl (Γ.at 1))(r:Ld)  (hp0:r.sm):bB (Γ.at 1) fS.body (CL fS 2 (a7.D (cY r.rest).1) (Ld.D (r.to (cY r.rest).2)):Ex→List aW→St→Prop) (eL fS (.ptr 0 2 0 0::[])) ⟨1,[(0,.buf 2 [(Ld.D r)])]⟩:=by
 show bB _ _ _ [⟨true,.ptr 0 2 0 0⟩,.un,.un,.un,.un,.un,.un,.un,.un,.un,.un,.un] ⟨1,[(0,.buf 2 [(Ld.D r)])]⟩;have hself:=Ld.yc hp0;have hq0:=r.uK;refine ak ?_;refine aP ?_;refine bt hm (ι:=(List bp×List ah)) (fun p=>[⟨true,.ptr 0 2 0 0⟩,⟨true,.ptr 1 3 0 0⟩,.un,.un,.un,.un,.un,.un,⟨true,.ptr 2 3 0 0⟩,.un,.un,.un]) (fun p=>[(0,.buf 2 [Ld.D (r.to p.2)]),(1,.buf 3 [.agg [.av,.str [],.str []]]),(2,.buf 3 [.agg [.own 3 4 0 (p.1).length,.str [],.str []]]),(3,.buf 4 (p.1.map bp.N))]) 10 (fun p=>p.2<:+r.ls∧p.1.length+p.2.length≤r.ls.length∧bO r.rest=(p.1++(bO p.2).1,(bO p.2).2)) (fun p=>p.2.length) ([],r.rest) ⟨hq0,by simpa using hq0.length_le,by simp⟩ (aN.to [(1,1),(2,2)] ae ae dX (by refine aC.nl 0 ae ae (by rw[hself]) ae ?_;refine aC.df ae ae ae ?_;refine aC.ni 2 ae ae (by exact⟨_,_,rfl,⟨_,rfl,⟨_,_,rfl,Or.inr ⟨_,_,_,rfl⟩,⟨_,_,rfl,⟨rfl,rfl⟩,⟨_,_,rfl,⟨rfl,rfl⟩,rfl⟩⟩⟩⟩,rfl⟩) ?_;refine aC.mt ae ae ae ae ?_;exact aC.nil)) ?_;rintro⟨A,p⟩ ⟨hq1,hlen,hw⟩;dsimp only at hq1 hlen hw⊢;have hll:=hp0.1.2;refine az ?_;refine jE (hc:=sW h465 hp0 (p:=p) hq1 (w:=gX) (n:=5) (op:=true) (by decide) (by decide)) ?_;refine ax ?_;refine fG _ ?_;refine dD ?_;refine aq (fun hc0=>?_) (fun hc0=>?_)
 ·simp only[Bool.not_eq_true']at hc0;have hq:=gH hc0;have hnr:cC gX 5 true p=p:=by simp only[cC,hq]
  rw[hnr];have hw2:bO r.rest=(A,p):=by rw[hw,qf hq,List.append_nil]
  refine aA ?_;have hq3:=(gu p).trans hq1;refine ax ?_;refine jE (hc:=yh h468 hp0 hq1) ?_;refine ax ?_;refine aI (.agg [.own 3 4 0 A.length,.str (bj p).1,.str []]) (he:=by exact rfl) ?_;refine aA ?_;refine jE (hc:=sW h465 hp0 (p:=(bj p).2) hq3 (w:=cK) (n:=2) (op:=false) (by decide) (by decide)) ?_;refine ax ?_;refine fG _ ?_;refine b6 ?_;refine cN (fun hc3=>?_) fun hc3=>?_
  ·refine ax ?_;obtain⟨⟨l,q2⟩,hq⟩:=gI hc3;have hnr:cC cK 2 false (bj p).2=q2:=by simp only[cC,hq]
   obtain⟨hl,hlm,hq2,hqp⟩:=kj hp0 hq3 hq;rw[hnr,hq];obtain hl:l.length=2:=by rcases hl with h|h;cases h;exact h
   refine ax ?_;refine cH 1 (hb:=fun _=>by omega) ?_;refine cj (v:=.str l[1]!) (hi:=fun _=>by omega) ?_;refine ax ?_;refine aI (.agg [.own 3 4 0 A.length,.str (bj p).1,.str l[1]!]) (he:=by exact rfl) ?_;refine ax ?_;have hnp:cY r.rest=(⟨A,(bj p).1,l[1]!⟩,q2):=by simp only[cY,hw2,oU,hq]
   rw[hnp];refine eB 3 (hn:=bq bp.lz _) (he:=by simp only[lY,gU,kK,mQ,oL,bN,Nat.reduceEqDiff,if_true,if_false,and_self,true_and,and_true,false_and,and_false,Nat.zero_add,List.length_map,Nat.le_refl,List.drop_zero,aJ,reduceCtorEq,List.length_cons,List.length_nil,Nat.reduceAdd,Nat.reduceLeDiff,Ld.D];exact rfl) (hm:=by simp only[lY,gU,kK,mQ,oL,bN,Nat.reduceEqDiff,if_true,if_false,and_self,true_and,and_true,false_and,and_false,Nat.zero_add,List.length_map,Nat.le_refl,List.drop_zero,aJ,reduceCtorEq,List.length_cons,List.length_nil,Nat.reduceAdd,Nat.reduceLeDiff,Ld.D];exact rfl) ?_;refine mc [(0,.buf 2 [Ld.D (r.to q2)]),(1,.buf 3 [.agg [.av,.str [],.str []]]),(2,.buf 3 [a7.D ⟨A,(bj p).1,l[1]!⟩])] (.id ae (.id ae (.bf ae (.cons (.ag (.cons (.ss (.map fun x _=>x.wk)) (.rf _))) .nil) .nil))) ?_;refine ax ?_;refine cS (d:=a7.D ⟨A,(bj p).1,l[1]!⟩) ?_;refine aI (a7.D ⟨A,(bj p).1,l[1]!⟩) (he:=by exact rfl) ?_;refine ay ?_;refine eh trivial sC (Eq.trans ae (?_)) ae ae ae;rfl
  refine ax ?_;have hq:=gH hc3;have hnr:cC cK 2 false (bj p).2=(bj p).2:=by simp only[cC,hq]
  rw[hnr];have hnp:cY r.rest=(⟨A,(bj p).1,[]⟩,(bj p).2):=by simp only[cY,hw2,oU,hq]
  rw[hnp];refine eB 3 (hn:=bq bp.lz _) (he:=by simp only[lY,gU,kK,mQ,oL,bN,Nat.reduceEqDiff,if_true,if_false,and_self,true_and,and_true,false_and,and_false,Nat.zero_add,List.length_map,Nat.le_refl,List.drop_zero,aJ,reduceCtorEq,List.length_cons,List.length_nil,Nat.reduceAdd,Nat.reduceLeDiff,Ld.D];exact rfl) (hm:=by simp only[lY,gU,kK,mQ,oL,bN,Nat.reduceEqDiff,if_true,if_false,and_self,true_and,and_true,false_and,and_false,Nat.zero_add,List.length_map,Nat.le_refl,List.drop_zero,aJ,reduceCtorEq,List.length_cons,List.length_nil,Nat.reduceAdd,Nat.reduceLeDiff,Ld.D];exact rfl) ?_;refine mc [(0,.buf 2 [Ld.D (r.to (bj p).2)]),(1,.buf 3 [.agg [.av,.str [],.str []]]),(2,.buf 3 [a7.D ⟨A,(bj p).1,[]⟩])] (.id ae (.id ae (.bf ae (.cons (.ag (.cons (.ss (.map fun x _=>x.wk)) (.rf _))) .nil) .nil))) ?_;refine ax ?_;refine cS (d:=a7.D ⟨A,(bj p).1,[]⟩) ?_;refine aI (a7.D ⟨A,(bj p).1,[]⟩) (he:=by exact rfl) ?_;refine ay ?_;refine eh trivial sC (Eq.trans ae (?_)) ae ae ae;rfl
 simp only[Bool.not_eq_false']at hc0;obtain⟨⟨l,q2⟩,hq⟩:=gI hc0;have hnr:cC gX 5 true p=q2:=by simp only[cC,hq]
 obtain⟨hl,hlm,hq2,hqp⟩:=kj hp0 hq1 hq;rw[hnr,hq];obtain hl:l.length=5:=by rcases hl with h|h;cases h;exact h
 refine aA ?_;refine cH 3 (hb:=fun _=>by omega) ?_;refine cj (v:=.str l[3]!) (hi:=fun _=>by omega) ?_;refine az ?_;refine cH 3 (hb:=fun _=>by omega) ?_;refine cj (v:=.str l[3]!) (hi:=fun _=>by omega) ?_;refine az ?_;refine aq (fun hc1=>?_) (fun hc1=>?_)
 ·simp only[Bool.and_eq_true,Bool.not_eq_true',decide_eq_false_iff_not]at hc1;have hho:pR l=false:=by unfold pR;rw[decide_eq_false (show ¬l[3]! =ez from hc1.1),decide_eq_false (show ¬l[3]! =ij from hc1.2)];rfl
  have hw2:bO r.rest=(A,p):=by rw[hw,Bx hq hho,List.append_nil]
  obtain⟨t,hpt,_⟩:=dn hq;refine ay ?_;obtain⟨hab1,hab2⟩:=(hp0.to q2).1;refine az ?_;refine cy (v:=.int .i64 ((r.to q2).at':Nat)) ?_;refine az ?_;refine aI (Ld.D (r.to p)) (he:=by rw[hpt];exact Ld.back (hpt▸hq1)) ?_;refine aP ?_;have hq3:=(gu p).trans hq1;refine ax ?_;refine jE (hc:=yh h468 hp0 hq1) ?_;refine ax ?_;refine aI (.agg [.own 3 4 0 A.length,.str (bj p).1,.str []]) (he:=by exact rfl) ?_;refine aA ?_;refine jE (hc:=sW h465 hp0 (p:=(bj p).2) hq3 (w:=cK) (n:=2) (op:=false) (by decide) (by decide)) ?_;refine ax ?_;refine fG _ ?_;refine b6 ?_;refine cN (fun hc3=>?_) fun hc3=>?_
  ·refine ax ?_;obtain⟨⟨l,q2⟩,hq⟩:=gI hc3;have hnr:cC cK 2 false (bj p).2=q2:=by simp only[cC,hq]
   obtain⟨hl,hlm,hq2,hqp⟩:=kj hp0 hq3 hq;rw[hnr,hq];obtain hl:l.length=2:=by rcases hl with h|h;cases h;exact h
   refine ax ?_;refine cH 1 (hb:=fun _=>by omega) ?_;refine cj (v:=.str l[1]!) (hi:=fun _=>by omega) ?_;refine ax ?_;refine aI (.agg [.own 3 4 0 A.length,.str (bj p).1,.str l[1]!]) (he:=by exact rfl) ?_;refine ax ?_;have hnp:cY r.rest=(⟨A,(bj p).1,l[1]!⟩,q2):=by simp only[cY,hw2,oU,hq]
   rw[hnp];refine eB 3 (hn:=bq bp.lz _) (he:=by simp only[lY,gU,kK,mQ,oL,bN,Nat.reduceEqDiff,if_true,if_false,and_self,true_and,and_true,false_and,and_false,Nat.zero_add,List.length_map,Nat.le_refl,List.drop_zero,aJ,reduceCtorEq,List.length_cons,List.length_nil,Nat.reduceAdd,Nat.reduceLeDiff,Ld.D];exact rfl) (hm:=by simp only[lY,gU,kK,mQ,oL,bN,Nat.reduceEqDiff,if_true,if_false,and_self,true_and,and_true,false_and,and_false,Nat.zero_add,List.length_map,Nat.le_refl,List.drop_zero,aJ,reduceCtorEq,List.length_cons,List.length_nil,Nat.reduceAdd,Nat.reduceLeDiff,Ld.D];exact rfl) ?_;refine mc [(0,.buf 2 [Ld.D (r.to q2)]),(1,.buf 3 [.agg [.av,.str [],.str []]]),(2,.buf 3 [a7.D ⟨A,(bj p).1,l[1]!⟩])] (.id ae (.id ae (.bf ae (.cons (.ag (.cons (.ss (.map fun x _=>x.wk)) (.rf _))) .nil) .nil))) ?_;refine ax ?_;refine cS (d:=a7.D ⟨A,(bj p).1,l[1]!⟩) ?_;refine aI (a7.D ⟨A,(bj p).1,l[1]!⟩) (he:=by exact rfl) ?_;refine ay ?_;refine eh trivial sC (Eq.trans ae (?_)) ae ae ae;rfl
  refine ax ?_;have hq:=gH hc3;have hnr:cC cK 2 false (bj p).2=(bj p).2:=by simp only[cC,hq]
  rw[hnr];have hnp:cY r.rest=(⟨A,(bj p).1,[]⟩,(bj p).2):=by simp only[cY,hw2,oU,hq]
  rw[hnp];refine eB 3 (hn:=bq bp.lz _) (he:=by simp only[lY,gU,kK,mQ,oL,bN,Nat.reduceEqDiff,if_true,if_false,and_self,true_and,and_true,false_and,and_false,Nat.zero_add,List.length_map,Nat.le_refl,List.drop_zero,aJ,reduceCtorEq,List.length_cons,List.length_nil,Nat.reduceAdd,Nat.reduceLeDiff,Ld.D];exact rfl) (hm:=by simp only[lY,gU,kK,mQ,oL,bN,Nat.reduceEqDiff,if_true,if_false,and_self,true_and,and_true,false_and,and_false,Nat.zero_add,List.length_map,Nat.le_refl,List.drop_zero,aJ,reduceCtorEq,List.length_cons,List.length_nil,Nat.reduceAdd,Nat.reduceLeDiff,Ld.D];exact rfl) ?_;refine mc [(0,.buf 2 [Ld.D (r.to (bj p).2)]),(1,.buf 3 [.agg [.av,.str [],.str []]]),(2,.buf 3 [a7.D ⟨A,(bj p).1,[]⟩])] (.id ae (.id ae (.bf ae (.cons (.ag (.cons (.ss (.map fun x _=>x.wk)) (.rf _))) .nil) .nil))) ?_;refine ax ?_;refine cS (d:=a7.D ⟨A,(bj p).1,[]⟩) ?_;refine aI (a7.D ⟨A,(bj p).1,[]⟩) (he:=by exact rfl) ?_;refine ay ?_;refine eh trivial sC (Eq.trans ae (?_)) ae ae ae;rfl
 simp only[Bool.and_eq_false_iff,Bool.not_eq_false',decide_eq_true_eq]at hc1;have hho:pR l=true:=by
  unfold pR;rcases hc1 with h|h
  ·rw[decide_eq_true (show l[3]! =ez from h)];rfl
  ·rw[decide_eq_true (show l[3]! =ij from h),Bool.or_true]
 have hwy:=r9 hq hho;refine az ?_;refine cH 1 (hb:=fun _=>by omega) ?_;refine cj (v:=.str l[1]!) (hi:=fun _=>by omega) ?_;refine ax ?_;refine cH 4 (hb:=fun _=>by omega) ?_;refine cj (v:=.str l[4]!) (hi:=fun _=>by omega) ?_;refine ax ?_;refine cH 3 (hb:=fun _=>by omega) ?_;refine cj (v:=.str l[3]!) (hi:=fun _=>by omega) ?_;refine ax ?_;refine bx (.agg [.str l[1]!,.str l[4]!,.av,.bool (decide (l[3]! =ez))]) ?_;refine ax ?_;refine aI (.agg [.str l[1]!,.str l[4]!,.av,.bool (decide (l[3]! =ez))]) (he:=by exact rfl) ?_;refine aA ?_;refine cH 2 (hb:=fun _=>by omega) ?_;refine cj (v:=.str l[2]!) (hi:=fun _=>by omega) ?_;refine ay ?_;refine cN (fun hc2=>?_) fun hc2=>?_
 ·refine ay ?_;refine cH 2 (hb:=fun _=>by omega) ?_;refine cj (v:=.str l[2]!) (hi:=fun _=>by omega) ?_;refine aj (hc:=h124 l[2]! 44 (hlm _ (bJ (by omega)))) ?_;refine ax ?_;refine aI (bp.N (eU l)) (he:=by show _=D.agg [.str l[1]!,.str l[4]!,KW (if l[2]! =[45]then []else ai l[2]! 44),.bool (decide (l[3]! =ez))];rw[if_neg hc2,KX (nU _ _)];exact rfl) ?_;refine az ?_;refine cy (v:=.own 3 4 0 A.length) ?_;refine cS (d:=bp.N (eU l)) ?_;refine cx [bp.N (eU l)] ?_;refine jl (q:=bp.N) (xs:=A) (e:=eU l) ?_;refine ax ?_;refine aI (.agg [.own 56 4 0 (A++[eU l]).length,.str [],.str []]) (he:=by exact rfl) ?_;refine az ?_;exact⟨(A++[eU l],q2),⟨hq2,by simp only[List.length_append,List.length_cons,List.length_nil];omega,by rw[hw,hwy];simp⟩,by dsimp only;omega,(aN.to [(1,1),(2,2),(56,3)] ae ae dX (by refine aC.df ae ae ae ?_;refine aC.df ae ae ae ?_;refine aC.eq 2 ae ae ae ?_;refine aC.nl 56 ae ae rfl (by exact bq bp.lz _) ?_;exact aC.nil))⟩
 refine ay ?_;rw[show(D.agg [.str l[1]!,.str l[4]!,.av,.bool (decide (l[3]! =ez))])=bp.N (eU l)by show _=D.agg [.str l[1]!,.str l[4]!,KW (if l[2]! =[45]then []else ai l[2]! 44),.bool (decide (l[3]! =ez))];rw[if_pos hc2];rfl];refine ax ?_;refine cy (v:=.own 3 4 0 A.length) ?_;refine cS (d:=bp.N (eU l)) ?_;refine cx [bp.N (eU l)] ?_;refine jl (q:=bp.N) (xs:=A) (e:=eU l) ?_;refine ax ?_;refine aI (.agg [.own 50 4 0 (A++[eU l]).length,.str [],.str []]) (he:=by exact rfl) ?_;refine az ?_;exact⟨(A++[eU l],q2),⟨hq2,by simp only[List.length_append,List.length_cons,List.length_nil];omega,by rw[hw,hwy];simp⟩,by dsimp only;omega,(aN.to [(1,1),(2,2),(50,3)] ae ae dX (by refine aC.df ae ae ae ?_;refine aC.df ae ae ae ?_;refine aC.eq 2 ae ae ae ?_;refine aC.nl 50 ae ae rfl (by exact bq bp.lz _) ?_;exact aC.nil))⟩
def J2 (Γ:Ctx):Prop:=∀(r:Ld),(r.sm)→Γ.fp 467 (Ld.D r) []∧Γ.fv 467 (Ld.D r) []=a7.D (cY r.rest).1∧Γ.fs 467 (Ld.D r) []=Ld.D (r.to (cY r.rest).2)
end Go.Abs
end
namespace Go.Abs
def BC (Γ:Ctx):Prop:=∀(r:Ld)(w:ah)(n:Nat)(op:Bool)(l nx:Nat)(m:List (Nat×aV))(K:D→St→Prop),r.sm→n≤1000→(op=true→1≤n)→look m l=some (.buf 2 [Ld.D r])→
 K (.tup [vw (aY w n op r.rest),.bool (aY w n op r.rest).isSome]) ⟨nx,bR m l (.buf 2 [Ld.D (r.after (aY w n op r.rest))])⟩→Γ.tr 465 [.ptr l 2 0 0,.str w,.int .i64 (n:Nat),.bool op] ⟨nx,m⟩ K
def sX {Γ:Ctx}(h:BC Γ){r:Ld}(hr:r.sm){p:List ah}(hp:p<:+r.ls){w:ah}{n:Nat}{op:Bool}(hn:n≤1000)(ho:op=true→1≤n){nx:Nat}{m:List (Nat×aV)}{K:D→St→Prop}(hl:look m 0=some (.buf 2 [Ld.D (r.to p)]))
  (hK:K (.tup [vw (aY w n op p),.bool (aY w n op p).isSome]) ⟨nx,bR m 0 (.buf 2 [Ld.D (r.to (cC w n op p))])⟩):Γ.tr 465 [.ptr 0 2 0 0,.str w,.int .i64 (n:Nat),.bool op] ⟨nx,m⟩ K:=by
 refine h (r.to p) w n op 0 nx m K (hr.to p) hn ho hl ?_;rw[Ld.td hp,Ld.yv hp];exact hK
def Ir {Γ:Ctx}(h:J2 Γ){r:Ld}(hr:r.sm){p:List ah}(hp:p<:+r.ls):Γ.fp 467 (Ld.D (r.to p)) []∧Γ.fv 467 (Ld.D (r.to p)) []=a7.D (cY p).1∧Γ.fs 467 (Ld.D (r.to p)) []=Ld.D (r.to (cY p).2):=by
 have:=h (r.to p) (hr.to p);rw[Ld.td hp]at this;exact this
def kr:∀p:List ah,(bO p).2<:+p
 |[]=>List.suffix_refl _
 |t::r=>by
  simp only[bO];split
  ·split
   ·exact(kr r).trans (List.suffix_cons _ _)
   ·exact List.suffix_refl _
  ·exact List.suffix_refl _
def nN (p:List ah):(cY p).2<:+p:=(F3 _).trans ((gu _).trans (kr p))
def yO {p:List ah}(h:aY bz 0 false p=none):dk p=([],p):=by
 match p,h with
 |[],_=>rfl
 |t::r,h=>
  simp only[aY]at h;split at h
  ·cases h
  ·rename_i hn;simp only[dk,hn]
def C4 {p l q:List ah}(h:aY bz 0 false p=some (l,q))(ho:¬2≤l.length):dk p=([],p):=by
 obtain⟨t,rfl,ht⟩:=dn h;simp only[dk,ht,ho,if_false]
def AJ {p l q:List ah}(h:aY bz 0 false p=some (l,q))(ho:2≤l.length):dk p=(⟨l[1]!,l.drop 2⟩::(dk q).1,(dk q).2):=by
 obtain⟨t,rfl,ht⟩:=dn h;simp only[dk,ht,ho,if_true]
def dK (ls:List ah):Rec×List ah:=match mj ls with
 |some p=>p
 |none=>(ml,ls)
def c7:D:=.agg [.str [],.int .i64 0,.int .i64 0,.int .i64 0,.str [],.str [],.av,.av,.av]
def qa:sJ c7 ml.D:=.ag (.cons (.refl _) (.cons (.refl _) (.cons (.refl _) (.cons (.refl _) (.cons (.refl _) (.cons (.refl _) (.cons (.nil 3) (.cons (.nil 3) (.cons (.nil 2) .nil)))))))))
def k8 (nm:ah)(v:dt)(n b f:D):D:=.agg [.str nm,.int .i64 v.major,.int .i64 v.minor,.int .i64 v.patch,.str v.pre,.str v.build,n,b,f]
def LH {s:ah}(h:uV s=0):∃v,kJ s=some v:=by
 unfold uV at h;split at h
 ·rename_i hs;exact gI hs
 ·cases h
def LG {s:ah}(h:¬uV s=0):kJ s=none:=by
 unfold uV at h;split at h
 ·exact absurd rfl h
 ·rename_i hs;exact gH (by simpa using hs)
def w9 (n:Nat)(op:Bool)(t:ah):(cg n op t).length≤t.length+1:=by
 have h:=cQ t 32;have hp:=eQ 32 t [];unfold cg;split
 ·unfold mH;split
  ·exact h
  ·simp only[List.length_append,List.length_take,List.length_cons,List.length_nil];have:1≤(ai t 32).length:=hp;omega
 ·exact h
def FM {r:Ld}(hr:r.sm){p:List ah}(hp:p<:+r.ls){w:ah}{n:Nat}{op:Bool}{l q:List ah}(h:aY w n op p=some (l,q)):l.length≤1048577:=by
 obtain⟨t,rfl,ht⟩:=dn h;obtain⟨_,_,h3⟩:=qW ht;have:=w9 n op t;have:=hr.2 t (hp.subset (.head _));rw[h3];omega
end Go.Abs
section
namespace Go.Abs
open Go
def eP:aB:=⟨1,20,[⟨1,some (9,true)⟩,⟨2,none⟩],[[.a,.a,.a,.a,.a,.a,.sl 3 [.sl 4 [.a,.a,.sl 1 [.a],.a],.a,.a],.sl 3 [.a,.a,.a],.sl 2 [.a,.sl 1 [.a]]],[.a]],(sq (rg [gb 9 (.c (.agg [.str [],.int .i64 0,.int .i64 0,.int .i64 0,.str [],.str [],.av,.av,.av])),gm dH] [(1,0),(2,1)]) (sq (r1 [gm s0,gn (.mkf 1000465 [l0]),gm l1] 3 2) (sq (rg [gm s3,gn (.callvM l0 [(cs [112,97,99,107,97,103,101]),kL,dH]),gm l1,ge l2 0,ge l2 1,gm l3,gm l4] [(6,5),(4,6)]) (sq (sq (r1 [gm s4,pr l0] 5 1) (.cond s5 (sq (r1 [gn (.build [.str [],.int .i64 0,.int .i64 0,.int .i64 0,.str [],.str [],.av,.av,.av] []),gt 9 s1 l0,gm dH] 2 2) .ret) .skip)) (sq (rg [gm s6,ga 1 l0 kB,gd l1,gx 466 [l2] cv,gm l3,ge l4 0,ge l4 1,gb 5 (.c (.agg [.int .i64 0,.int .i64 0,.int .i64 0,.str [],.str []])),gt 5 l7 l5,gm l6] [(9,7),(7,9)]) (sq (sq (r1 [gm s7,cr l0 bD] 8 1) (.cond s8 (sq (rg [gm s0,gc l0,gf 1 l1,gd l2,fO l3 ca,gc l0,gf 1 l5,gt 1 l6 l4] []) (sq (r1 [gn (.build [.str [],.int .i64 0,.int .i64 0,.int .i64 0,.str [],.str [],.av,.av,.av] []),gt 9 s1 l0,gm dH] 2 2) .ret)) .skip)) (sq (r2 [gm s6,ga 1 l0 ca,gd l1,gk 5 true s9,gn (.build [.str [],.int .i64 0,.int .i64 0,.int .i64 0,.str [],.str [],.av,.av,.av] [(0,1,l2),(1,5,l3)]),gb 9 (.c (.agg [.str [],.int .i64 0,.int .i64 0,.int .i64 0,.str [],.str [],.av,.av,.av])),gt 9 l5 l4] 12 5) (sq (.block 0 (.loop (.block 1 (sq (sq (r1 [gm s3,gn (.callvM l0 [(cs [110,101,101,100]),ca,dH]),gm l1,ge l2 0,ge l2 1,gm l3,gm l4] 10 6) (sq (r1 [gm lx,pr l0] 11 1) (.cond oo (.exit 0) .skip))) (rt [gf 6 my,gn (.ldU 1 false l0),gm s0,gn (.callF 467 l2 [] []),gn (.bsl 3 (.agg [.av,.str [],.str []]) 1 [(0,l3)]),gn (.app 3 l1 l4),gf 6 my,gt 1 l6 l5] []))))) (sq (.block 2 (.loop (.block 3 (sq (rg [gm s3,gn (.callvM l0 [(cs [98,97,114]),kL,vk]),gm l1,ge l2 0,ge l2 1,gm l3,gm l4] [(15,5),(13,6)]) (sq (sq (r1 [gm sD,pr l0] 14 1) (.cond ta (.exit 2) .skip)) (rt [gf 7 my,gn (.ldU 1 false l0),gm wD,ga 1 l2 ca,gn (.ldU 1 false l3),gm wD,ga 1 l5 kB,gn (.ldU 1 false l6),gm s0,gn (.callF 468 l8 [] []),gn (.build [.str [],.str [],.str []] [(0,1,l4),(1,1,l7),(2,1,l9)]),gn (.bsl 3 (.agg [.str [],.str [],.str []]) 1 [(0,l10)]),gn (.app 3 l1 ki),gf 7 my,gt 1 n7 ma] [])))))) (sq (.block 4 (.loop (.block 5 (sq (rg [gm s3,gn (.callvM l0 [(cs [102,101,97,116,117,114,101]),bD,dH]),gm l1,ge l2 0,ge l2 1,gm l3,gm l4] [(18,5),(16,6)]) (sq (sq (r1 [gm Cq,pr l0] 17 1) (.cond ym (.exit 4) .skip)) (sq (sq (r1 [gm D5,gl l0,aU l1 kB] 19 2) (.cond Ly (sq (rg [gm s0,gc l0,gf 1 l1,gd l2,fO l3 ca,gc l0,gf 1 l5,gt 1 l6 l4] []) (.exit 4)) .skip)) (rt [gf 8 my,gd l0,gm D5,ga 1 l2 ca,gd l3,gm D5,gn (.slA 1 l5 (some kB) none),gx 469 [l6] [[.sl 1 [.a]]],gn (.build [.str [],.av] [(0,1,l4),(1,1,l7)]),gn (.bsl 2 (.agg [.str [],.av]) 1 [(0,l8)]),gn (.app 2 l1 l9),gf 8 my,gt 1 ki l10] []))))))) (sq (r1 [gk 9 true my,gt 9 s1 l0,gm vk] 2 2) .ret)))))))))))⟩
def w222 {Γ:Ctx}(hm:(Γ.at 1).br)(h466:Mt (Γ.at 1))(h467:J2 (Γ.at 1))(h468:Hl (Γ.at 1))(h469:Mu (Γ.at 1))(h9465:BC (Γ.at 1))(r:Ld)  (hp0:r.sm):bB (Γ.at 1) eP.body (CL eP 2 (.tup [Rec.D (dK r.rest).1,.bool (mj r.rest).isSome]) (Ld.D (r.to (dK r.rest).2)):Ex→List aW→St→Prop) (eL eP (.ptr 0 2 0 0::[])) ⟨1,[(0,.buf 2 [(Ld.D r)])]⟩:=by
 show bB _ _ _ [⟨true,.ptr 0 2 0 0⟩,.un,.un,.un,.un,.un,.un,.un,.un,.un,.un,.un,.un,.un,.un,.un,.un,.un,.un,.un] ⟨1,[(0,.buf 2 [(Ld.D r)])]⟩;have hself:=Ld.yc hp0;have hq1:=r.uK;have hll:=hp0.1.2;refine ak ?_;refine aP ?_;refine NZ _ ?_;refine az ?_;rw[show Ld.D r=Ld.D (r.to r.rest)by rw[hself]];refine ax ?_;refine jK (n:=1000465) (VM:=[.ptr 0 2 0 0,.str cV,.int .i64 ((3:Nat):Int),.bool false]) (ι:=Unit) (fun _=>True) (fun _=>.tup [vw (aY cV 3 false r.rest),.bool (aY cV 3 false r.rest).isSome]) 6 (fun _=>[(0,.buf 2 [Ld.D (r.to (cC cV 3 false r.rest))]),(1,.buf 9 [c7])]) (fun _ _=>?_) (hc:=fun K' hK=>sX h9465 hp0 hq1 (w:=cV) (n:=3) (op:=false) (by decide) (by decide) ae (hK () trivial)) (hn:=by decide);refine ax ?_;refine fG _ ?_;refine dD ?_;refine aq (fun hc0=>?_) (fun hc0=>?_)
 ·simp only[Bool.not_eq_true']at hc0;have hq:=gH hc0;have hnr:cC cV 3 false r.rest=r.rest:=by simp only[cC,hq]
  rw[hnr];have hrp:mj r.rest=none:=by simp only[mj,hq]
  have hrv:dK r.rest=(ml,r.rest):=by simp only[dK,hrp]
  rw[hrv,hrp];refine ay ?_;refine bx c7 ?_;refine aI c7 (he:=by exact rfl) ?_;refine ay ?_;refine mc [(0,.buf 2 [Ld.D (r.to r.rest)]),(1,.buf 9 [Rec.D ml])] (.id ae (.bf ae (.cons qa .nil) .nil)) ?_;refine ax ?_;refine eh trivial sC (Eq.trans ae (aR ?_ ?_)) ae ae ae;all_goals rfl
 simp only[Bool.not_eq_false']at hc0;obtain⟨⟨l,q0⟩,hq⟩:=gI hc0;have hnr:cC cV 3 false r.rest=q0:=by simp only[cC,hq]
 obtain⟨hl,hlm,hq0,hqp⟩:=kj hp0 hq1 hq;rw[hnr,hq];obtain hl:l.length=3:=by rcases hl with h|h;cases h;exact h
 refine az ?_;refine cH 2 (hb:=fun _=>by omega) ?_;refine cj (v:=.str l[2]!) (hi:=fun _=>by omega) ?_;refine aj (hc:=h466 l[2]! (hlm _ (bJ (by omega)))) ?_;refine ax ?_;refine fG (dt.D _) ?_;refine ay ?_;refine aI (dt.D ((kJ l[2]!).getD jo)) (he:=by exact rfl) ?_;refine bg ?_;refine aq (fun hc1=>?_) (fun hc1=>?_)
 ·simp only[Bool.not_eq_true',decide_eq_false_iff_not]at hc1;have hv:=LG hc1;have hrp:mj r.rest=none:=by simp only[mj,hq,hv]
  have hrv:dK r.rest=(ml,r.rest):=by simp only[dK,hrp]
  rw[hrv,hrp];obtain⟨t,hpt,_⟩:=dn hq;refine ay ?_;obtain⟨hab1,hab2⟩:=(hp0.to q0).1;refine az ?_;refine cy (v:=.int .i64 ((r.to q0).at':Nat)) ?_;refine az ?_;refine aI (Ld.D (r.to r.rest)) (he:=by rw[hpt];exact Ld.back (hpt▸hq1)) ?_;refine az ?_;refine bx c7 ?_;refine aI c7 (he:=by exact rfl) ?_;refine ay ?_;refine mc [(0,.buf 2 [Ld.D (r.to r.rest)]),(1,.buf 9 [Rec.D ml]),(22,.buf 5 [dt.D ((kJ l[2]!).getD jo)])] (.id ae (.bf ae (.cons qa .nil) (.id ae .nil))) ?_;refine ax ?_;refine eh trivial sC (Eq.trans ae (aR ?_ ?_)) ae ae ae;all_goals rfl
 simp only[Bool.not_eq_false',decide_eq_true_eq]at hc1;obtain⟨v,hv⟩:=LH hc1;rw[hv];have hrp:mj r.rest=some (oa l[1]! v q0):=by simp only[mj,hq,hv]
 have hrv:dK r.rest=oa l[1]! v q0:=by simp only[dK,hrp]
 rw[hrv,hrp];generalize hnm:l[1]! =nm;have hq01:=hq0.length_le;refine ay ?_;rw[←hnm];refine ax ?_;refine cH 1 (hb:=fun _=>by omega) ?_;refine cj (v:=.str l[1]!) (hi:=fun _=>by omega) ?_;refine cS (d:=dt.D v) ?_;refine bx (k8 l[1]! v .av .av .av) ?_;refine ax ?_;refine aI (k8 l[1]! v .av .av .av) (he:=by exact rfl) ?_;refine ax ?_;rw[hnm];refine bt hm (ι:=(List a7×List ah)) (fun z=>[⟨true,.ptr 0 2 0 0⟩,⟨true,.ptr 1 9 0 0⟩,⟨true,.bool false⟩,⟨true,.fn 1000465 [.ptr 0 2 0 0]⟩,.un,.un,.un,.un,.un,.un,.un,.un,⟨true,.ptr 2 9 0 0⟩,.un,.un,.un,.un,.un,.un,.un]) (fun z=>[(0,.buf 2 [Ld.D (r.to z.2)]),(1,.buf 9 [c7]),(2,.buf 9 [k8 nm v (.own 3 3 0 (z.1).length) (.av) (.av)]),(3,.buf 3 (z.1.map a7.D))]) 10 (fun z=>z.2<:+r.ls∧z.1.length+z.2.length≤r.ls.length∧eE q0=(z.1++(eE z.2).1,(eE z.2).2)) (fun z=>z.2.length) ([],q0) ⟨hq0,by simpa using hq01,by simp⟩ (aN.to [(1,1),(32,2)] ae ae dX (by refine aC.df ae ae ae ?_;refine aC.df ae ae ae ?_;refine aC.ni 32 ae ae (by exact⟨_,_,rfl,⟨_,rfl,⟨_,_,rfl,⟨rfl,rfl⟩,⟨_,_,rfl,⟨rfl,rfl⟩,⟨_,_,rfl,⟨rfl,rfl⟩,⟨_,_,rfl,⟨rfl,rfl⟩,⟨_,_,rfl,⟨rfl,rfl⟩,⟨_,_,rfl,⟨rfl,rfl⟩,⟨_,_,rfl,Or.inr ⟨_,_,_,rfl⟩,⟨_,_,rfl,Or.inl rfl,⟨_,_,rfl,Or.inl rfl,rfl⟩⟩⟩⟩⟩⟩⟩⟩⟩⟩,rfl⟩) ?_;refine aC.mt ae ae ae ae ?_;exact aC.nil)) ?_;rintro⟨N,p⟩ ⟨hq1,hlen,hw⟩;dsimp only at hq1 hlen hw⊢;refine aA ?_;refine jK (n:=1000465) (VM:=[.ptr 0 2 0 0,.str ee,.int .i64 ((1:Nat):Int),.bool false]) (ι:=Unit) (fun _=>True) (fun _=>.tup [vw (aY ee 1 false p),.bool (aY ee 1 false p).isSome]) 10 (fun _=>[(0,.buf 2 [Ld.D (r.to (cC ee 1 false p))]),(1,.buf 9 [c7]),(2,.buf 9 [k8 nm v (.own 3 3 0 (N).length) (.av) (.av)]),(3,.buf 3 (N.map a7.D))]) (fun _ _=>?_) (hc:=fun K' hK=>sX h9465 hp0 hq1 (w:=ee) (n:=1) (op:=false) (by decide) (by decide) ae (hK () trivial)) (hn:=by decide);refine ax ?_;refine fG _ ?_;refine dD ?_;refine aq (fun hc2=>?_) (fun hc2=>?_)
 ·simp only[Bool.not_eq_true']at hc2;have hq:=gH hc2;have hnr:cC ee 1 false p=p:=by simp only[cC,hq]
  rw[hnr];have hn2:eE q0=(N,p):=by rw[hw,rR hq,List.append_nil]
  have hpl:=hq1.length_le;refine az ?_;refine eB 3 (hn:=bq (fun _=>rfl) _) (he:=by simp only[lY,gU,kK,mQ,oL,bN,Nat.reduceEqDiff,if_true,if_false,and_self,true_and,and_true,false_and,and_false,Nat.zero_add,List.length_map,Nat.le_refl,List.drop_zero,aJ,reduceCtorEq,List.length_cons,List.length_nil,Nat.reduceAdd,Nat.reduceLeDiff,Ld.D,c7,k8];exact rfl) (hm:=by simp only[lY,gU,kK,mQ,oL,bN,Nat.reduceEqDiff,if_true,if_false,and_self,true_and,and_true,false_and,and_false,Nat.zero_add,List.length_map,Nat.le_refl,List.drop_zero,aJ,reduceCtorEq,List.length_cons,List.length_nil,Nat.reduceAdd,Nat.reduceLeDiff,Ld.D,c7,k8];exact rfl) ?_;refine bt hm (ι:=(List gz×List ah)) (fun z=>[⟨true,.ptr 0 2 0 0⟩,⟨true,.ptr 1 9 0 0⟩,⟨true,.bool false⟩,⟨true,.fn 1000465 [.ptr 0 2 0 0]⟩,.un,.un,.un,.un,.un,.un,.un,.un,⟨true,.ptr 2 9 0 0⟩,.un,.un,.un,.un,.un,.un,.un]) (fun z=>[(0,.buf 2 [Ld.D (r.to z.2)]),(1,.buf 9 [c7]),(2,.buf 9 [k8 nm v ((.sl 3 (N.map a7.D))) (.own 3 3 0 (z.1).length) (.av)]),(3,.buf 3 (z.1.map gz.D))]) 10 (fun z=>z.2<:+r.ls∧z.1.length+z.2.length≤r.ls.length∧jP p=(z.1++(jP z.2).1,(jP z.2).2)) (fun z=>z.2.length) ([],p) ⟨hq1,by simpa using hpl,by simp⟩ (aN.to [(1,1),(2,2)] ae ae dX (by refine aC.df ae ae ae ?_;refine aC.df ae ae ae ?_;refine aC.ni 2 ae ae (by exact⟨_,_,rfl,⟨_,rfl,⟨_,_,rfl,⟨rfl,rfl⟩,⟨_,_,rfl,⟨rfl,rfl⟩,⟨_,_,rfl,⟨rfl,rfl⟩,⟨_,_,rfl,⟨rfl,rfl⟩,⟨_,_,rfl,⟨rfl,rfl⟩,⟨_,_,rfl,⟨rfl,rfl⟩,⟨_,_,rfl,⟨rfl,rfl⟩,⟨_,_,rfl,Or.inr ⟨_,_,_,rfl⟩,⟨_,_,rfl,Or.inl rfl,rfl⟩⟩⟩⟩⟩⟩⟩⟩⟩⟩,rfl⟩) ?_;refine aC.mt ae ae ae ae ?_;exact aC.nil)) ?_;rintro⟨B,pb⟩ ⟨hq1,hlen,hw⟩;dsimp only at hq1 hlen hw⊢;refine az ?_;refine jK (n:=1000465) (VM:=[.ptr 0 2 0 0,.str eR,.int .i64 ((3:Nat):Int),.bool true]) (ι:=Unit) (fun _=>True) (fun _=>.tup [vw (aY eR 3 true pb),.bool (aY eR 3 true pb).isSome]) 10 (fun _=>[(0,.buf 2 [Ld.D (r.to (cC eR 3 true pb))]),(1,.buf 9 [c7]),(2,.buf 9 [k8 nm v ((.sl 3 (N.map a7.D))) (.own 3 3 0 (B).length) (.av)]),(3,.buf 3 (B.map gz.D))]) (fun _ _=>?_) (hc:=fun K' hK=>sX h9465 hp0 hq1 (w:=eR) (n:=3) (op:=true) (by decide) (by decide) ae (hK () trivial)) (hn:=by decide);refine ax ?_;refine fG _ ?_;refine dD ?_;refine aq (fun hc3=>?_) (fun hc3=>?_)
  ·simp only[Bool.not_eq_true']at hc3;have hq:=gH hc3;have hnr:cC eR 3 true pb=pb:=by simp only[cC,hq]
   rw[hnr];have je:jP p=(B,pb):=by rw[hw,tt hq,List.append_nil]
   have hpl2:=hq1.length_le;refine az ?_;refine eB 3 (hn:=bq (fun _=>rfl) _) (he:=by simp only[lY,gU,kK,mQ,oL,bN,Nat.reduceEqDiff,if_true,if_false,and_self,true_and,and_true,false_and,and_false,Nat.zero_add,List.length_map,Nat.le_refl,List.drop_zero,aJ,reduceCtorEq,List.length_cons,List.length_nil,Nat.reduceAdd,Nat.reduceLeDiff,Ld.D,c7,k8];exact rfl) (hm:=by simp only[lY,gU,kK,mQ,oL,bN,Nat.reduceEqDiff,if_true,if_false,and_self,true_and,and_true,false_and,and_false,Nat.zero_add,List.length_map,Nat.le_refl,List.drop_zero,aJ,reduceCtorEq,List.length_cons,List.length_nil,Nat.reduceAdd,Nat.reduceLeDiff,Ld.D,c7,k8];exact rfl) ?_;refine bt hm (ι:=(List bn×List ah)) (fun z=>[⟨true,.ptr 0 2 0 0⟩,⟨true,.ptr 1 9 0 0⟩,⟨true,.bool false⟩,⟨true,.fn 1000465 [.ptr 0 2 0 0]⟩,.un,.un,.un,.un,.un,.un,.un,.un,⟨true,.ptr 2 9 0 0⟩,.un,.un,.un,.un,.un,.un,.un]) (fun z=>[(0,.buf 2 [Ld.D (r.to z.2)]),(1,.buf 9 [c7]),(2,.buf 9 [k8 nm v ((.sl 3 (N.map a7.D))) ((.sl 3 (B.map gz.D))) (.own 3 2 0 (z.1).length)]),(3,.buf 2 (z.1.map bn.D))]) 10 (fun z=>z.2<:+r.ls∧z.1.length+z.2.length≤r.ls.length∧dk pb=(z.1++(dk z.2).1,(dk z.2).2)) (fun z=>z.2.length) ([],pb) ⟨hq1,by simpa using hpl2,by simp⟩ (aN.to [(1,1),(2,2)] ae ae dX (by refine aC.df ae ae ae ?_;refine aC.df ae ae ae ?_;refine aC.ni 2 ae ae (by exact⟨_,_,rfl,⟨_,rfl,⟨_,_,rfl,⟨rfl,rfl⟩,⟨_,_,rfl,⟨rfl,rfl⟩,⟨_,_,rfl,⟨rfl,rfl⟩,⟨_,_,rfl,⟨rfl,rfl⟩,⟨_,_,rfl,⟨rfl,rfl⟩,⟨_,_,rfl,⟨rfl,rfl⟩,⟨_,_,rfl,⟨rfl,rfl⟩,⟨_,_,rfl,⟨rfl,rfl⟩,⟨_,_,rfl,Or.inr ⟨_,_,_,rfl⟩,rfl⟩⟩⟩⟩⟩⟩⟩⟩⟩⟩,rfl⟩) ?_;refine aC.mt ae ae ae ae ?_;exact aC.nil)) ?_;rintro⟨Z,pf⟩ ⟨hq1,hlen,hw⟩;dsimp only at hq1 hlen hw⊢;refine az ?_;refine jK (n:=1000465) (VM:=[.ptr 0 2 0 0,.str bz,.int .i64 ((0:Nat):Int),.bool false]) (ι:=Unit) (fun _=>True) (fun _=>.tup [vw (aY bz 0 false pf),.bool (aY bz 0 false pf).isSome]) 10 (fun _=>[(0,.buf 2 [Ld.D (r.to (cC bz 0 false pf))]),(1,.buf 9 [c7]),(2,.buf 9 [k8 nm v ((.sl 3 (N.map a7.D))) ((.sl 3 (B.map gz.D))) (.own 3 2 0 (Z).length)]),(3,.buf 2 (Z.map bn.D))]) (fun _ _=>?_) (hc:=fun K' hK=>sX h9465 hp0 hq1 (w:=bz) (n:=0) (op:=false) (by decide) (by decide) ae (hK () trivial)) (hn:=by decide);refine ax ?_;refine fG _ ?_;refine dD ?_;refine aq (fun hc4=>?_) (fun hc4=>?_)
   ·simp only[Bool.not_eq_true']at hc4;have hq:=gH hc4;have hnr:cC bz 0 false pf=pf:=by simp only[cC,hq]
    rw[hnr];have hf2:dk pb=(Z,pf):=by rw[hw,yO hq,List.append_nil]
    refine az ?_;have hbd:oa nm v q0=(⟨nm,v,N,B,Z⟩,pf):=by simp only[oa,hn2,je,hf2]
    rw[hbd];refine eB 3 (hn:=bq (fun _=>rfl) _) (he:=by simp only[lY,gU,kK,mQ,oL,bN,Nat.reduceEqDiff,if_true,if_false,and_self,true_and,and_true,false_and,and_false,Nat.zero_add,List.length_map,Nat.le_refl,List.drop_zero,aJ,reduceCtorEq,List.length_cons,List.length_nil,Nat.reduceAdd,Nat.reduceLeDiff,Ld.D,c7,k8];exact rfl) (hm:=by simp only[lY,gU,kK,mQ,oL,bN,Nat.reduceEqDiff,if_true,if_false,and_self,true_and,and_true,false_and,and_false,Nat.zero_add,List.length_map,Nat.le_refl,List.drop_zero,aJ,reduceCtorEq,List.length_cons,List.length_nil,Nat.reduceAdd,Nat.reduceLeDiff,Ld.D,c7,k8];exact rfl) ?_;refine ax ?_;refine cS (d:=Rec.D ⟨nm,v,N,B,Z⟩) ?_;refine aI (Rec.D ⟨nm,v,N,B,Z⟩) (he:=by exact rfl) ?_;refine az ?_;refine eh trivial sC (Eq.trans ae (aR ?_ ?_)) ae ae ae;all_goals rfl
   simp only[Bool.not_eq_false']at hc4;obtain⟨⟨l,q2⟩,hq⟩:=gI hc4;have hnr:cC bz 0 false pf=q2:=by simp only[cC,hq]
   obtain⟨hl,hlm,hq2,hqp⟩:=kj hp0 hq1 hq;rw[hnr,hq];have hll2:=FM hp0 hq1 hq;refine aP ?_;intro u0;refine ay ?_;refine cN (fun hc5=>?_) fun hc5=>?_
   ·refine ay ?_;have hf2:dk pb=(Z,pf):=by rw[hw,C4 hq (by omega),List.append_nil]
    obtain⟨t,hpt,_⟩:=dn hq;obtain⟨hab1,hab2⟩:=(hp0.to q2).1;refine az ?_;refine cy (v:=.int .i64 ((r.to q2).at':Nat)) ?_;refine az ?_;refine aI (Ld.D (r.to pf)) (he:=by rw[hpt];exact Ld.back (hpt▸hq1)) ?_;refine aA ?_;have hbd:oa nm v q0=(⟨nm,v,N,B,Z⟩,pf):=by simp only[oa,hn2,je,hf2]
    rw[hbd];refine eB 3 (hn:=bq (fun _=>rfl) _) (he:=by simp only[lY,gU,kK,mQ,oL,bN,Nat.reduceEqDiff,if_true,if_false,and_self,true_and,and_true,false_and,and_false,Nat.zero_add,List.length_map,Nat.le_refl,List.drop_zero,aJ,reduceCtorEq,List.length_cons,List.length_nil,Nat.reduceAdd,Nat.reduceLeDiff,Ld.D,c7,k8];exact rfl) (hm:=by simp only[lY,gU,kK,mQ,oL,bN,Nat.reduceEqDiff,if_true,if_false,and_self,true_and,and_true,false_and,and_false,Nat.zero_add,List.length_map,Nat.le_refl,List.drop_zero,aJ,reduceCtorEq,List.length_cons,List.length_nil,Nat.reduceAdd,Nat.reduceLeDiff,Ld.D,c7,k8];exact rfl) ?_;refine ax ?_;refine cS (d:=Rec.D ⟨nm,v,N,B,Z⟩) ?_;refine aI (Rec.D ⟨nm,v,N,B,Z⟩) (he:=by exact rfl) ?_;refine az ?_;refine eh trivial sC (Eq.trans ae (aR ?_ ?_)) ae ae ae;all_goals rfl
   refine ay ?_;have h2l:2≤l.length:=by omega
   refine ax ?_;refine cy (v:=.own 3 2 0 Z.length) ?_;refine ax ?_;refine cH 1 (hb:=fun _=>by omega) ?_;refine cj (v:=.str l[1]!) (hi:=fun _=>by omega) ?_;refine ax ?_;refine uG 2 (hb:=fun _=>by omega) ?_;refine aj (hc:=h469 (l.drop 2) (by rw[List.length_drop];omega)) ?_;refine bx (bn.D ⟨l[1]!,l.drop 2⟩) ?_;refine cx [bn.D ⟨l[1]!,l.drop 2⟩] ?_;refine jl (q:=bn.D) (xs:=Z) (e:=⟨l[1]!,l.drop 2⟩) ?_;refine ax ?_;refine aI (k8 nm v (.sl 3 (N.map a7.D)) (.sl 3 (B.map gz.D)) (.own 32 2 0 (Z++[(⟨l[1]!,l.drop 2⟩:bn)]).length)) (he:=by exact rfl) ?_;refine az ?_;have hsl:=Nat.le_refl 0;exact⟨(Z++[⟨l[1]!,l.drop 2⟩],q2),⟨hq2,by simp only[List.length_append,List.length_cons,List.length_nil];omega,by rw[hw,AJ hq h2l];simp⟩,by dsimp only;omega,(aN.to [(1,1),(2,2),(32,3)] ae ae dX (by refine aC.df ae ae ae ?_;refine aC.df ae ae ae ?_;refine aC.eq 2 ae ae ae ?_;refine aC.nl 32 ae ae rfl (by exact bq (fun _=>rfl) _) ?_;exact aC.nil))⟩
  simp only[Bool.not_eq_false']at hc3;obtain⟨⟨l,q2⟩,hq⟩:=gI hc3;have hnr:cC eR 3 true pb=q2:=by simp only[cC,hq]
  obtain⟨hl,hlm,hq2,hqp⟩:=kj hp0 hq1 hq;rw[hnr,hq];obtain hl:l.length=3:=by rcases hl with h|h;cases h;exact h
  refine az ?_;refine Gw (v:=.own 3 3 0 B.length) ?_;refine ax ?_;refine cH 1 (hb:=fun _=>by omega) ?_;refine Gx (v:=.str l[1]!) (hi:=fun _=>by omega) ?_;refine ax ?_;refine cH 2 (hb:=fun _=>by omega) ?_;refine Gx (v:=.str l[2]!) (hi:=fun _=>by omega) ?_;refine ax ?_;refine jE (hc:=yh h468 hp0 hq2) ?_;refine bx (gz.D ⟨l[1]!,l[2]!,(bj q2).1⟩) ?_;refine cx [gz.D ⟨l[1]!,l[2]!,(bj q2).1⟩] ?_;refine jl (q:=gz.D) (xs:=B) (e:=⟨l[1]!,l[2]!,(bj q2).1⟩) ?_;refine ax ?_;refine aI (k8 nm v (.sl 3 (N.map a7.D)) (.own 31 3 0 (B++[(⟨l[1]!,l[2]!,(bj q2).1⟩:gz)]).length) .av) (he:=by exact rfl) ?_;refine az ?_;have hsl:=(gu q2).length_le;exact⟨(B++[⟨l[1]!,l[2]!,(bj q2).1⟩],(bj q2).2),⟨(gu q2).trans hq2,by simp only[List.length_append,List.length_cons,List.length_nil];omega,by rw[hw,tu hq];simp⟩,by dsimp only;omega,(aN.to [(1,1),(2,2),(31,3)] ae ae dX (by refine aC.df ae ae ae ?_;refine aC.df ae ae ae ?_;refine aC.eq 2 ae ae ae ?_;refine aC.nl 31 ae ae rfl (by exact bq (fun _=>rfl) _) ?_;exact aC.nil))⟩
 simp only[Bool.not_eq_false']at hc2;obtain⟨⟨l,q2⟩,hq⟩:=gI hc2;have hnr:cC ee 1 false p=q2:=by simp only[cC,hq]
 obtain⟨hl,hlm,hq2,hqp⟩:=kj hp0 hq1 hq;rw[hnr,hq];refine az ?_;refine Gw (v:=.own 3 3 0 N.length) ?_;refine ax ?_;refine jE (hc:=Ir h467 hp0 hq2) ?_;refine cx [a7.D (cY q2).1] ?_;refine jl (q:=a7.D) (xs:=N) (e:=(cY q2).1) ?_;refine ax ?_;refine aI (k8 nm v (.own 24 3 0 (N++[(cY q2).1]).length) .av .av) (he:=by exact rfl) ?_;refine az ?_;have hsl:=(nN q2).length_le;exact⟨(N++[(cY q2).1],(cY q2).2),⟨(nN q2).trans hq2,by simp only[List.length_append,List.length_cons,List.length_nil];omega,by rw[hw,rS hq];simp⟩,by dsimp only;omega,(aN.to [(1,1),(2,2),(24,3)] ae ae dX (by refine aC.df ae ae ae ?_;refine aC.df ae ae ae ?_;refine aC.eq 2 ae ae ae ?_;refine aC.nl 24 ae ae rfl (by exact bq (fun _=>rfl) _) ?_;exact aC.nil))⟩
def Ma (Γ:Ctx):Prop:=∀(r:Ld),(r.sm)→Γ.fp 222 (Ld.D r) []∧Γ.fv 222 (Ld.D r) []=.tup [Rec.D (dK r.rest).1,.bool (mj r.rest).isSome]∧Γ.fs 222 (Ld.D r) []=Ld.D (r.to (dK r.rest).2)
end Go.Abs
end
namespace Go.Abs
def xg (p:List ah):Prop:=∀t∈p,t.length≤1048576
def xg.get {l:List ah}(h:xg l)(i:Nat):l[i]!.length≤1048576:=by
 rcases Nat.lt_or_ge i l.length with hi|hi
 ·exact h _ (bJ hi)
 ·simp[hi];exact Nat.zero_le _
def xg.next {p:List ah}(hp:xg p){w:ah}{n:Nat}{op:Bool}{l q:List ah}(h:aY w n op p=some (l,q)):xg l∧xg q∧l.length≤1048577:=by
 obtain⟨t,rfl,ht⟩:=dn h;obtain⟨_,_,h3⟩:=qW ht;have h0:=hp t (.head _);refine⟨fun u hu=>?_,fun u hu=>hp u (.tail _ hu), ?_⟩
 ·rw[h3]at hu;have:=Ad hu;omega
 ·have:=w9 n op t;rw[h3];omega
def xg.I2 {p q:List ah}(hp:xg p)(h:q<:+p):xg q:=fun t ht=>hp t (h.subset ht)
def Eg {l:List ah}(h:xg l):(eU l).sm:=by
 refine⟨⟨h.get 1,h.get 4⟩,fun t ht=>?_⟩;unfold eU at ht;simp only at ht;split at ht
 ·cases ht
 ·have:=dq _ _ ht;have:=h.get 2;omega
def B9 {w:ah}{n:Nat}{op:Bool}{t:ah}{r l:List ah}(h:eG w n op t=some l):aY w n op (t::r)=some (l,r):=by simp only[aY,h]
def uY:∀p:List ah,xg p→∀x∈(bO p).1,x.sm
 |[],_,x,hx=>by simp[bO]at hx
 |t::r,hp,x,hx=>by
  have ih:=uY r (fun u hu=>hp u (.tail _ hu));simp only[bO]at hx;split at hx
  ·rename_i l hl;split at hx
   ·simp only[List.mem_cons]at hx;rcases hx with rfl|hx
    ·exact Eg (hp.next (B9 (r:=r) hl)).1
    ·exact ih x hx
   ·simp at hx
  ·simp at hx
def z8 {p:List ah}(hp:xg p):(bj p).1.length≤1048576:=by
 unfold bj;split
 ·rename_i h;exact(hp.next h).1.get 1
 ·simp
def Iz {p:List ah}(hp:xg p):(oU p).1.length≤1048576:=by
 unfold oU;split
 ·rename_i h;exact(hp.next h).1.get 1
 ·simp
def FK {p:List ah}(hp:xg p):(cY p).1.sm:=⟨uY p hp,z8 (hp.I2 (kr p)),Iz ((hp.I2 (kr p)).I2 (gu _))⟩
def wo:∀(f:Nat)(p:List ah),xg p→(∀x∈(jk f p).1,x.sm)∧(jk f p).2<:+p
 |0,p,_=>⟨fun x hx=>by simp[jk]at hx,List.suffix_refl _⟩
 |f+1,p,hp=>by
  simp only[jk];split
  ·rename_i l r h;have hr:=(hp.next h).2.1;obtain⟨i1,i2⟩:=wo f (cY r).2 (hr.I2 (nN r));refine⟨fun x hx=>?_,i2.trans ((nN r).trans (kZ h))⟩;simp only[List.mem_cons]at hx;rcases hx with rfl|hx
   ·exact FK hr
   ·exact i1 x hx
  ·exact⟨fun x hx=>by simp at hx,List.suffix_refl _⟩
def yE:∀(f:Nat)(p:List ah),xg p→(∀x∈(lV f p).1,x.sm)∧(lV f p).2<:+p
 |0,p,_=>⟨fun x hx=>by simp[lV]at hx,List.suffix_refl _⟩
 |f+1,p,hp=>by
  simp only[lV];split
  ·rename_i l r h;obtain⟨hl,hr,_⟩:=hp.next h;obtain⟨i1,i2⟩:=yE f (bj r).2 (hr.I2 (gu r));refine⟨fun x hx=>?_,i2.trans ((gu r).trans (kZ h))⟩;simp only[List.mem_cons]at hx;rcases hx with rfl|hx
   ·exact⟨hl.get 1,hl.get 2,z8 hr⟩
   ·exact i1 x hx
  ·exact⟨fun x hx=>by simp at hx,List.suffix_refl _⟩
def vU:∀(p:List ah),xg p→(∀x∈(dk p).1,x.sm)∧(dk p).2<:+p
 |[],_=>⟨fun x hx=>by simp[dk]at hx,List.suffix_refl _⟩
 |t::r,hp=>by
  obtain⟨i1,i2⟩:=vU r (fun u hu=>hp u (.tail _ hu));simp only[dk];split
  ·rename_i l hl;obtain⟨hlm,_,hll⟩:=hp.next (B9 (r:=r) hl);split
   ·refine⟨fun x hx=>?_,i2.trans (List.suffix_cons _ _)⟩;simp only[List.mem_cons]at hx;rcases hx with rfl|hx
    ·refine⟨hlm.get 1, ?_,fun u hu=>hlm u (List.mem_of_mem_drop hu)⟩;simp only[List.length_drop];omega
    ·exact i1 x hx
   ·exact⟨fun x hx=>by simp at hx,List.suffix_refl _⟩
  ·exact⟨fun x hx=>by simp at hx,List.suffix_refl _⟩
def Ck:kn ml:=⟨⟨by decide,by decide,by decide⟩,fun n hn=>(by cases hn),fun n hn=>(by cases hn),fun n hn=>(by cases hn)⟩
def IP {p:List ah}(hp:xg p):kn (dK p).1∧(dK p).2<:+p:=by
 unfold dK mj;cases h:aY cV 3 false p with
 |none=>exact⟨Ck,List.suffix_refl _⟩
 |some lq=>
  obtain⟨l,r⟩:=lq;obtain⟨hl,hr,_⟩:=hp.next h;simp only;cases hv:kJ l[2]! with
  |none=>exact⟨Ck,List.suffix_refl _⟩
  |some v=>
   have hvs:=I6 (hl.get 2);rw[hv]at hvs;obtain⟨n1,n2⟩:=wo r.length r hr;obtain⟨b1,b2⟩:=yE (eE r).2.length (eE r).2 (hr.I2 n2);obtain⟨f1,f2⟩:=vU (jP (eE r).2).2 ((hr.I2 n2).I2 b2);exact⟨⟨⟨hl.get 1,hvs⟩,n1,b1,f1⟩,f2.trans (b2.trans (n2.trans (kZ h)))⟩
def dy (s:ah):Rec×Int×Int:=
 if 4096<s.length then(ml,3,0)
 else
  let ls:=(ai s 10).take ((ai s 10).length-1)
  if(mj ls).isSome=false∨(dK ls).2≠[]∨(ai s 10)[(ai s 10).length-1]! ≠[]then(ml,2,((ls.length-(dK ls).2.length:Nat):Int)+1)
  else if(bY (dK ls).1).1≠0 then(ml,(bY (dK ls).1).1,0)
  else((dK ls).1,0,0)
end Go.Abs
section
namespace Go.Abs
open Go
def zD:aB:=⟨3,8,[⟨3,none⟩],cv,(sq (rg [gb 9 s0,gm bD] [(5,0),(3,1)]) (sq (.block 0 (sq (r1 [gm s1,gx 208 [l0] cv,pr l1,gm l2] 4 3) (.cond s4 (sq (r1 [gm vc] 3 0) .ret) (sq (r1 [gm s1,gf 0 s5,gd l1,aE l0 l2,gm l3] 6 4) (.cond s6 (sq (r1 [gm H5] 3 0) .ret) (sq (r1 [gm s2,gx 444 [l0] cv,pr l1,gm l2] 7 3) (.cond s7 (sq (r1 [gm AS] 3 0) .ret) .skip))))))) (sq (r1 [gm bD] 3 0) .ret)))⟩
def w211 {Γ:Ctx}(hm:(Γ.at 0).br)(h208:Hi Γ)(h444:Ml Γ)(r:Rec)(name:ah)(rng:ah)  (hp0:rng.length≤1048576):eA Γ zD (.int .i64 (gP r name rng)) [Rec.D r,.str name,.str rng]:=by
 show bB _ _ _ [⟨_,_⟩,⟨_,_⟩,⟨_,_⟩,_,_,_,_,_] _;refine ak ?_;refine aT ?_;refine aj (hc:=h208 _) ?_;refine az ?_;refine gC (fun hc0=>?_) fun hc0=>?_
 ·refine aP ?_;refine iH ?_;rw[gP,if_pos hc0]
 refine bg ?_;refine gC (fun hc1=>?_) fun hc1=>?_
 ·refine aP ?_;refine iH ?_;rw[gP,if_neg (by simp[hc0]),if_pos hc1]
 refine ay ?_;refine aj (hc:=h444 rng hp0) ?_;refine az ?_;refine gC (fun hc2=>?_) fun hc2=>?_
 ·refine aP ?_;refine iH ?_;rw[gP,if_neg (by simp[hc0]),if_neg hc1,if_pos hc2]
 refine aT ?_;refine iH ?_;rw[gP,if_neg (by simp[hc0]),if_neg hc1,if_neg (by simp[hc2])]
def JR (Γ:Ctx):Prop:=∀(r:Rec)(name:ah)(rng:ah),(rng.length≤1048576)→Γ.pre 211 [Rec.D r,.str name,.str rng]∧Γ.val 211 [Rec.D r,.str name,.str rng]=.int .i64 (gP r name rng)
def zE:aB:=⟨3,16,[⟨3,none⟩],cv,(sq (rg [gb 9 s0,gb 4 s1,gm bD] [(4,0),(5,1),(3,2)]) (sq (sq (r1 [gk 9 true s4,gf 0 s5,gd l1,gf 1 s5,gd l3,gx 211 [l0,l2,l4] [[.a,.a,.a,.a,.a,.a,.sl 3 [.sl 4 [.a,.a,.sl 1 [.a],.a],.a,.a],.sl 3 [.a,.a,.a],.sl 2 [.a,.sl 1 [.a]]],[.a],[.a]],gm l5] 6 6) (sq (r1 [gm s6,cr l0 bD] 7 1) (.cond s7 (sq (r1 [gm s6,gm l0] 3 1) .ret) .skip))) (sq (sq (r1 [gf 2 s5,gd l0,gl l1,dA l2 AS,gm l3,kW 4 2 s5,mh 4 l5,cu 4 (.len l6),cu 4 (dw l7 bD),eV 4 l8,gmt 9 s2,cJ 9 (.un .not l10),BX 4 l9 ki,fY l4 ma] 8 13) (.cond s8 (sq (r1 [gm (i6 11)] 3 0) .ret) .skip)) (sq (sq (rg [gf 2 s5,gd l0,gl l1,gm bD] [(12,1),(10,2),(9,3)]) (.block 0 (.loop (sq (r1 [aU s9 lx] 11 0) (sq (js oo 0) (sq (.block 1 (sq (rg [gm s9,ga 1 my s9,gd l1,gm l0,gm l2] [(14,3),(13,4)]) (sq (r1 [gm sD,gx 349 [l0] cv,pr l1,gm l2,eV 3 ta,cu 3 (dw l4 bD),eV 3 l5,sS 6 2 s5,qj 6 l7,gmt 6 ta,cJ 6 (lU l9 ca),cJ 6 (.ia 1 l8 l10),qj 6 ki,gmt 6 sD,cJ 6 (yC ma n7),BX 3 l6 oR,fY l3 pV] 15 16) (.cond wD (sq (r1 [gm (i6 11)] 3 0) .ret) .skip)))) (r1 [ar s9 ca,gm l0] 9 1))))))) (sq (r1 [gm bD] 3 0) .ret)))))⟩
def w443 {Γ:Ctx}(hm:(Γ.at 0).br)(h211:JR Γ)(h349:An Γ)(r:Rec)(w:bp)(al:Bool)  (hp0:w.sm):eA Γ zE (.int .i64 (jb r w al)) [Rec.D r,bp.D w,.bool al]:=by
 show bB _ _ _ [⟨_,_⟩,⟨_,_⟩,⟨_,_⟩,_,_,_,_,_,_,_,_,_,_,_,_,_] _;refine ak ?_;refine gR ?_;refine aj (hc:=h211 r w.name w.range hp0.1.2) ?_;refine bg ?_;refine cN (fun hc0=>?_) fun hc0=>?_
 ·refine aT ?_;refine iH ?_;rw[jb,if_pos hc0]
 refine aT ?_;intro u0;refine aA ?_;refine nZ ?_;refine bg ?_;refine aq (fun hc1=>?_) (fun hc1=>?_)
 ·have hq:(decide (w.feats.length≤6)&&(al ||decide (w.feats.length=0)))=false:=by rw[←Bool.not_eq_true',←G0];exact hc1
  refine aP ?_;refine iH ?_;rw[jb,if_neg (by simp[hc0]),if_pos (by unfold kq;rw[hq];rfl)]
 have hq:(decide (w.feats.length≤6)&&(al ||decide (w.feats.length=0)))=true:=by rw[←Bool.not_eq_false',←G0];exact hc1
 refine aT ?_;intro u1;refine ay ?_;refine bt hm (ι:=Nat) (fun i=>[.un,.un,⟨true,.bool al⟩,.un,⟨true,.ptr 0 9 0 0⟩,⟨true,.ptr 1 4 0 0⟩,.un,.un,.un,⟨true,.int .i64 (i:Nat)⟩,⟨true,.int .i64 (w.feats.length:Nat)⟩,.un,⟨true,.sl 1 (w.feats.map D.str)⟩,.un,.un,.un]) (fun i=>[(0,.buf 9 [Rec.D r]),(1,.buf 4 [bp.D w])]) 30 (fun i=>i≤w.feats.length∧kq w.feats al=cn (LK w.feats) i w.feats.length) (fun i=>w.feats.length-i) 0 ⟨by omega,by unfold kq;rw[hq,Bool.true_and]⟩ (eC [(0,0),(1,1)]) ?_;rintro i ⟨hi,hr⟩;refine az ?_;refine cN (fun hc2=>?_) fun hc2=>?_
 ·refine gR ?_;refine aj (hc:=h349 _) ?_;refine dD ?_;refine cH (i-1) ?_;refine aT ?_;refine wp_cond (fun hc3=>?_) (fun hc3=>?_)
  ·have hz:LK w.feats i=false:=by rw[←Bool.not_eq_true',←Of];exact hc3
   refine aT ?_;refine iH ?_;rw[jb,if_neg (by simp[hc0]),if_pos (by rw[hr,aM (by omega),hz];rfl)]
  have hz:LK w.feats i=true:=by rw[←Bool.not_eq_false',←Of];exact hc3
  refine bg ?_;exact⟨i+1,⟨by omega,by rw[hr,aM (by omega),hz];rfl⟩,by omega,(eC [(0,0),(1,1)])⟩
 refine aT ?_;refine iH ?_;rw[jb,if_neg (by simp[hc0]),if_neg (by rw[hr,b7 (by omega)];simp)]
def Mk (Γ:Ctx):Prop:=∀(r:Rec)(w:bp)(al:Bool),(w.sm)→Γ.pre 443 [Rec.D r,bp.D w,.bool al]∧Γ.val 443 [Rec.D r,bp.D w,.bool al]=.int .i64 (jb r w al)
def zB:aB:=⟨2,16,[⟨2,none⟩],cv,(sq (rg [gb 9 s0,gb 3 s1,gm bD] [(10,0),(3,1),(2,2)]) (sq (sq (r1 [gf 0 s3,gd l0,gl l1,aE l2 bD] 4 3) (.cond s4 (sq (r1 [gm BZ] 2 0) .ret) .skip)) (sq (sq (r1 [gf 0 s3,gd l0,gl l1,dA l2 kL] 5 3) (.cond s5 (sq (r1 [gm kL] 2 0) .ret) .skip)) (sq (sq (rg [gf 0 s3,gd l0,gl l1,gm bD] [(9,1),(7,2),(6,3)]) (.block 0 (.loop (sq (r1 [aU s6 s7] 8 0) (sq (js s8 0) (sq (.block 1 (sq (r1 [ga 4 s9 s6,gk 4 true l0,gb 4 (.c (.agg [.str [],.str [],.av,.bool false])),gt 4 l2 l1] 11 2) (sq (r1 [gk 9 true lx,gk 4 true oo,gf 0 s3,gd l2,gl l3,aE l4 ca,gx 443 [l0,l1,l5] [[.a,.a,.a,.a,.a,.a,.sl 3 [.sl 4 [.a,.a,.sl 1 [.a],.a],.a,.a],.sl 3 [.a,.a,.a],.sl 2 [.a,.sl 1 [.a]]],[.a,.a,.sl 1 [.a],.a],[.a]],gm l6] 12 7) (sq (r1 [gm my,cr l0 bD] 13 1) (.cond sD (sq (r1 [gm my,gm l0] 2 1) .ret) .skip))))) (r1 [ar s6 ca,gm l0] 6 1))))))) (sq (sq (r1 [gf 1 s3,gd l0,gx 212 [l1] cv,pr l2] 14 3) (.cond ta (sq (r1 [gm KM] 2 0) .ret) .skip)) (sq (sq (r1 [gf 2 s3,gd l0,cr l1 cse,gm l2,sS 3 2 s3,qj 3 l4,cJ 3 (.call 349 [l5] cv),cJ 3 (.un .not l6),hX l3 l7] 15 8) (.cond wD (sq (r1 [gm (i6 14)] 2 0) .ret) .skip)) (sq (r1 [gm bD] 2 0) .ret)))))))⟩
def w210 {Γ:Ctx}(hm:(Γ.at 0).br)(h212:JS Γ)(h349:An Γ)(h443:Mk Γ)(r:Rec)(n:a7)  (hp0:n.sm):eA Γ zB (.int .i64 (ib r n)) [Rec.D r,a7.D n]:=by
 show bB _ _ _ [⟨_,_⟩,⟨_,_⟩,_,_,_,_,_,_,_,_,_,_,_,_,_,_] _;refine ak ?_;refine dD ?_;intro u0;refine ay ?_;refine cN (fun hc0=>?_) fun hc0=>?_
 ·refine aP ?_;refine iH ?_;rw[ib,if_pos (by omega)]
 refine aT ?_;intro u1;refine ay ?_;refine cN (fun hc1=>?_) fun hc1=>?_
 ·refine aP ?_;refine iH ?_;rw[ib,if_neg (by omega),if_pos (by omega)]
 refine aT ?_;intro u2;refine ay ?_;refine bt hm (ι:=Nat) (fun i=>[.un,.un,.un,⟨true,.ptr 1 3 0 0⟩,.un,.un,⟨true,.int .i64 (i:Nat)⟩,⟨true,.int .i64 (n.any.length:Nat)⟩,.un,⟨true,.sl 4 (n.any.map bp.D)⟩,⟨true,.ptr 0 9 0 0⟩,.un,.un,.un,.un,.un]) (fun i=>[(0,.buf 9 [Rec.D r]),(1,.buf 3 [a7.D n])]) 15 (fun i=>i≤n.any.length∧lS r n.any=gF (fun i=>jb r n.any[i]! (decide ((n.any.length:Int)=1))) i n.any.length) (fun i=>n.any.length-i) 0 ⟨by omega,rfl⟩ (eC [(0,0),(1,1)]) ?_;rintro i ⟨hi,hr⟩;refine az ?_;refine cN (fun hc2=>?_) fun hc2=>?_
 ·refine aA ?_;first|refine cj (v:=(bp.D _)) ?_|refine ic (v:=(bp.D _)) ?_
  refine ax ?_;refine aI (bp.D n.any[i]!) (he:=by exact rfl) ?_;refine bg ?_;intro u3;refine ax ?_;refine aj (hc:=h443 r n.any[i]! _ (hp0.1 _ (bJ (by omega)))) ?_;refine aT ?_;refine gC (fun hc3=>?_) fun hc3=>?_
  ·refine bg ?_;refine iH ?_;have hw:lS r n.any=jb r n.any[i]! (decide ((n.any.length:Int)=1)):=by rw[hr,tK (by omega) hc3]
   rw[ib,if_neg (by omega),if_neg (by omega),if_pos (by rw[hw];exact hc3),hw]
  refine bg ?_;exact⟨i+1,⟨by omega,by rw[hr,qL (by omega) hc3]⟩,by omega,(eC [(0,0),(1,1)])⟩
 refine aA ?_;have hw0:lS r n.any=0:=by rw[hr,qJ (by omega)]
 refine ay ?_;refine aj (hc:=h212 _) ?_;refine ay ?_;refine aq (fun hc4=>?_) (fun hc4=>?_)
 ·try simp only[ik]at hc4
  refine aP ?_;refine iH ?_;rw[ib,if_neg (by omega),if_neg (by omega),if_neg (by simp[hw0]),if_pos hc4]
 simp only[Bool.not_eq_false']at hc4;refine dD ?_;refine aj (hc:=h349 _) ?_;refine az ?_;refine aq (fun hc5=>?_) (fun hc5=>?_)
 ·try simp only[ik]at hc5
  refine aP ?_;refine iH ?_;rw[ib,if_neg (by omega),if_neg (by omega),if_neg (by simp[hw0]),if_neg (by simp[hc4]),if_pos hc5]
 simp only[Bool.and_eq_false_iff,Bool.not_eq_false',decide_eq_true_eq]at hc5;refine aP ?_;refine iH ?_;rw[ib,if_neg (by omega),if_neg (by omega),if_neg (by simp[hw0]),if_neg (by simp[hc4]),if_neg (by rintro⟨g1,g2⟩;rcases hc5 with h|h;exact g1 h;rw[g2]at h;cases h)]
def L6 (Γ:Ctx):Prop:=∀(r:Rec)(n:a7),(n.sm)→Γ.pre 210 [Rec.D r,a7.D n]∧Γ.val 210 [Rec.D r,a7.D n]=.int .i64 (ib r n)
def zA:aB:=⟨2,15,[⟨2,none⟩],cv,(sq (rg [gb 9 s0,gm bD] [(3,0),(2,1)]) (sq (rg [gm s1,gx 448 [l0] cv,gm l1,ge l2 0,ge l2 1,ge l2 2,gm l3,gm l4,gm l5] [(8,6),(10,7)]) (sq (sq (rg [gf 6 s3,gd l0,gl l1,gm bD] [(7,1),(5,2),(4,3)]) (.block 0 (.loop (sq (r1 [aU s4 s5] 6 0) (sq (js s6 0) (sq (.block 1 (sq (r1 [ga 3 s7 s4,gk 3 true l0,gb 3 (.c (.agg [.av,.str [],.str []])),gt 3 l2 l1] 9 2) (sq (r1 [gm s8,aE l0 kB,gm l1,sS 2 2 s9,qj 2 l3,gmt 2 lx,cJ 2 (cR l4 l5),hX l2 l6,gm l7,eV 8 s8,cu 8 (cR l9 kL),eV 8 l10,sS 11 0 s9,qj 11 ma,cJ 11 (.len n7),cJ 11 (cR oR ca),BX 8 ki pV,eV 8 su,sS 17 0 s9,qj 17 yl,cJ 17 (.ia 4 Ak bD),sS 17 0 B2,qj 17 Dr,gmt 17 lx,cJ 17 (cR Fw JC),BX 8 xJ JD,fY l8 KQ] 11 26) (.cond oo (sq (r1 [gm bD] 2 0) .ret) .skip)))) (r1 [ar s4 ca,gm l0] 4 1))))))) (sq (sq (r1 [gm s8] 12 0) (.block 2 (sq (r1 [aE my kB,gm l0] 13 1) (.cond sD (sq (r1 [gm (i6 14)] 2 0) .ret) (sq (r1 [aE my kL,gm l0] 14 1) (.cond ta (sq (r1 [gm (i6 16)] 2 0) .ret) .skip)))))) (sq (r1 [gm bD] 2 0) .ret)))))⟩
def w214 {Γ:Ctx}(hm:(Γ.at 0).br)(h448:JY Γ)(r:Rec)(s:ah)  (hp0:s.length≤1048576):eA Γ zA (.int .i64 (hY r s)) [Rec.D r,.str s]:=by
 show bB _ _ _ [⟨_,_⟩,⟨_,_⟩,_,_,_,_,_,_,_,_,_,_,_,_,_] _;refine ak ?_;refine aP ?_;refine aj (hc:=h448 s hp0) ?_;refine me ?_;intro u0;refine ay ?_;refine bt hm (ι:=Nat) (fun i=>[.un,.un,.un,⟨true,.ptr 0 9 0 0⟩,⟨true,.int .i64 (i:Nat)⟩,⟨true,.int .i64 (r.needs.length:Nat)⟩,.un,⟨true,.sl 3 (r.needs.map a7.D)⟩,⟨true,.int .i64 (b9 s).1⟩,.un,⟨true,.str (b9 s).2.1⟩,.un,.un,.un,.un]) (fun i=>[(0,.buf 9 [Rec.D r])]) 15 (fun i=>i≤r.needs.length∧hY r s=(if(r.needs.drop i).any (Hd (b9 s).1 (b9 s).2.1)=true then 0 else KP (b9 s).1)) (fun i=>r.needs.length-i) 0 ⟨by omega,Ft r s⟩ (eC [(0,0)]) ?_;rintro i ⟨hi,hr⟩;refine az ?_;refine cN (fun hc0=>?_) fun hc0=>?_
 ·refine aA ?_;first|refine cj (v:=(a7.D _)) ?_|refine ic (v:=(a7.D _)) ?_
  refine ax ?_;refine aI (a7.D r.needs[i]!) (he:=by exact rfl) ?_;refine xf ?_;refine nZ ?_;refine aP ?_;refine cH 0 (hb:=fun h=>by simp only[Bool.true_and,beq_iff_eq,Bool.and_eq_true,decide_eq_true_eq]at h;omega) ?_;refine ax ?_;refine cj (q:=bp.D) (xs:=r.needs[i]!.any) (i:=0) (hi:=fun h=>by simp only[Bool.true_and,beq_iff_eq,Bool.and_eq_true,decide_eq_true_eq]at h;omega) (v:=(.str r.needs[i]!.any[0]!.name)) ?_;refine aP ?_;refine wp_cond (fun hc1=>?_) (fun hc1=>?_)
  ·have hz:Hd (b9 s).1 (b9 s).2.1 r.needs[i]! =true:=hc1;refine aT ?_;refine iH ?_;rw[hr,Hx (by omega) hz];rfl
  have hz:Hd (b9 s).1 (b9 s).2.1 r.needs[i]! =false:=hc1;refine bg ?_;exact⟨i+1,⟨by omega,by rw[hr,Ks (by omega) hz]⟩,by omega,(eC [(0,0)])⟩
 refine aA ?_;have he:hY r s=KP (b9 s).1:=by rw[hr,Hw (by omega)];rfl
 refine bg ?_;refine gC (fun hc2=>?_) fun hc2=>?_
 ·refine aP ?_;refine iH ?_;rw[he,KP,if_pos hc2]
 refine aA ?_;refine gC (fun hc3=>?_) fun hc3=>?_
 ·refine aP ?_;refine iH ?_;rw[he,KP,if_neg hc2,if_pos hc3]
 refine aT ?_;refine iH ?_;rw[he,KP,if_neg hc2,if_neg hc3]
def L8 (Γ:Ctx):Prop:=∀(r:Rec)(s:ah),(s.length≤1048576)→Γ.pre 214 [Rec.D r,.str s]∧Γ.val 214 [Rec.D r,.str s]=.int .i64 (hY r s)
end Go.Abs
end
section
namespace Go.Abs
open Go
def x5:aB:=⟨1,39,[⟨1,none⟩,⟨2,none⟩],je,(sq (rg [gb 9 s0,gm bD,gm bD] [(3,0),(1,1),(2,2)]) (sq (.block 0 (sq (r1 [gf 0 s3,gd l0,gx 208 [l1] cv,pr l2,gm l3] 4 4) (.cond s4 (sq (rg [gm vc,gm bD] [(1,0),(2,1)]) .ret) (sq (r1 [gf 1 s3,gk 5 true l0,gx 209 [l1] KI,pr l2,gm l3] 5 4) (.cond s5 (sq (rg [gm BY,gm bD] [(1,0),(2,1)]) .ret) (sq (r1 [gf 6 s3,gd l0,gl l1,dA l2 H5,gm l3,kW 4 7 s3,mh 4 l5,cu 4 (.len l6),cu 4 (dw l7 H5),fY l4 l8,gm l9] 6 10) (.cond s6 (sq (rg [gm kL,gm bD] [(1,0),(2,1)]) .ret) .skip))))))) (sq (sq (rg [gf 6 s3,gd l0,gl l1,gm bD] [(10,1),(8,2),(7,3)]) (.block 1 (.loop (sq (r1 [aU s7 s8] 9 0) (sq (js s9 1) (sq (.block 2 (sq (rg [gm s7,ga 3 lx s7,gk 3 true l1,gb 3 (.c (.agg [.av,.str [],.str []])),gm l0,gt 3 l3 l2] [(11,3),(14,4)]) (sq (r1 [gk 9 true s3,gk 3 true oo,gx 210 [l0,l1] [[.a,.a,.a,.a,.a,.a,.sl 3 [.sl 4 [.a,.a,.sl 1 [.a],.a],.a,.a],.sl 3 [.a,.a,.a],.sl 2 [.a,.sl 1 [.a]]],[.sl 4 [.a,.a,.sl 1 [.a],.a],.a,.a]],gm l2] 12 3) (sq (r1 [gm my,cr l0 bD] 13 1) (.cond sD (sq (rg [gm my,gm ta,gm l0,gm l1] [(1,2),(2,3)]) .ret) .skip))))) (r1 [ar s7 ca,gm l0] 7 1))))))) (sq (sq (rg [gf 7 s3,gd l0,gl l1,gm bD] [(18,1),(16,2),(15,3)]) (.block 3 (.loop (sq (r1 [aU wD Cq] 17 0) (sq (js ym 3) (sq (.block 4 (sq (rg [gm wD,ga 3 D5 wD,gk 3 true l1,gb 3 (.c (.agg [.str [],.str [],.str []])),gm l0,gt 3 l3 l2] [(19,3),(22,4)]) (sq (sq (r1 [gk 9 true s3,gf 0 Ly,gd l1,gf 1 Ly,gd l3,gx 211 [l0,l2,l4] [[.a,.a,.a,.a,.a,.a,.sl 3 [.sl 4 [.a,.a,.sl 1 [.a],.a],.a,.a],.sl 3 [.a,.a,.a],.sl 2 [.a,.sl 1 [.a]]],[.a],[.a]],gm l5] 20 6) (sq (r1 [gm He,cr l0 bD] 21 1) (.cond s21 (sq (rg [gm He,gm s22,gm l0,gm l1] [(1,2),(2,3)]) .ret) .skip))) (sq (r1 [gf 2 Ly,gd l0,gx 212 [l1] cv,pr l2] 23 3) (.cond s23 (sq (rg [gm s22,gm KM,gm l0] [(1,1),(2,2)]) .ret) .skip))))) (r1 [ar wD ca,gm l0] 15 1))))))) (sq (sq (r1 [gf 8 s3,gd l0,gx 213 [l1] [[.sl 2 [.a,.sl 1 [.a]]]],pr l2] 24 3) (.cond LY (sq (rg [gm (i6 11),gm bD] [(1,0),(2,1)]) .ret) .skip)) (sq (sq (rg [gf 8 s3,gd l0,gl l1,gm bD] [(28,1),(26,2),(25,3)]) (.block 5 (.loop (sq (r1 [aU LZ N5] 27 0) (sq (js s27 5) (sq (.block 6 (sq (rg [gm LZ,ga 2 s28 LZ,gk 2 true l1,gb 2 (.c (.agg [.str [],.av])),gm l0,gt 2 l3 l2] [(29,3),(37,4)]) (sq (rg [gf 1 s29,gd l0,gl l1,gm bD] [(33,1),(31,2),(30,3)]) (.block 7 (.loop (sq (r1 [aU JI s31] 32 0) (sq (js s32 7) (sq (.block 8 (sq (r1 [ga 1 s33 JI,gd l0,gm l1] 34 2) (sq (r1 [gk 9 true s3,gm s34,gx 214 [l0,l1] [[.a,.a,.a,.a,.a,.a,.sl 3 [.sl 4 [.a,.a,.sl 1 [.a],.a],.a,.a],.sl 3 [.a,.a,.a],.sl 2 [.a,.sl 1 [.a]]],[.a]],gm l2] 35 3) (sq (r1 [gm s35,cr l0 bD] 36 1) (.cond s36 (sq (rg [gm s35,gm s37,gm l0,gm l1] [(1,2),(2,3)]) .ret) .skip))))) (r1 [ar JI ca,gm l0] 30 1))))))))) (r1 [ar LZ ca,gm l0] 25 1))))))) (sq (sq (r1 [gk 9 true s3,gx 215 [l0] [[.a,.a,.a,.a,.a,.a,.sl 3 [.sl 4 [.a,.a,.sl 1 [.a],.a],.a,.a],.sl 3 [.a,.a,.a],.sl 2 [.a,.sl 1 [.a]]]],xA l1,dA l2 (i6 4096)] 38 3) (.cond s38 (sq (rg [gm kL,gm bD] [(1,0),(2,1)]) .ret) .skip)) (sq (rg [gm bD,gm bD] [(1,0),(2,1)]) .ret))))))))⟩
def w70 {Γ:Ctx}(hm:(Γ.at 0).br)(h208:Hi Γ)(h209:Et Γ)(h210:L6 Γ)(h211:JR Γ)(h212:JS Γ)(h213:L7 Γ)(h214:L8 Γ)(h215:JT Γ)(r:Rec)  (hp0:kn r):eA Γ x5 (.tup [.int .i64 (bY r).1,.int .i64 (bY r).2]) [Rec.D r]:=by
 show bB _ _ _ (⟨true,Rec.D r⟩::.un::.un::.un::.un::.un::.un::.un::.un::.un::.un::.un::.un::.un::.un::.un::.un::.un::.un::.un::.un::.un::.un::.un::.un::.un::.un::.un::.un::.un::.un::.un::.un::.un::.un::.un::.un::.un::.un::[]) ⟨0,[]⟩;refine ak ?_;refine b6 ?_;refine aj (hc:=h208 _) ?_;refine az ?_;refine wp_cond (fun hc0=>?_) (fun hc0=>?_)
 ·try simp only[ik]at hc0
  refine aT ?_;refine cd (aR (congrArg (D.int .i64) ?_) (congrArg (D.int .i64) ?_));all_goals (have hq:bY r=(4,0):=(by rw[bY,if_pos hc0]);rw[hq];first|done|rfl)
 simp only[Bool.not_eq_false']at hc0;refine ay ?_;refine cy (v:=dt.D r.v) ?_;refine aj (hc:=h209 r.v hp0.1.2) ?_;refine az ?_;refine wp_cond (fun hc1=>?_) (fun hc1=>?_)
 ·try simp only[ik]at hc1
  refine aT ?_;refine cd (aR (congrArg (D.int .i64) ?_) (congrArg (D.int .i64) ?_));all_goals (have hq:bY r=(5,0):=(by rw[bY,if_neg (by simp[hc0]),if_pos hc1]);rw[hq];first|done|rfl)
 simp only[Bool.not_eq_false']at hc1;refine aA ?_;intro u0;refine aA ?_;refine nZ ?_;refine aA ?_;refine gC (fun hc2=>?_) fun hc2=>?_
 ·refine aT ?_;refine cd (aR (congrArg (D.int .i64) ?_) (congrArg (D.int .i64) ?_));all_goals (have hq:bY r=(3,0):=(by rw[bY,if_neg (by simp[hc0]),if_neg (by simp[hc1]),if_pos (by omega)]);rw[hq];first|done|rfl)
 refine bg ?_;intro u1;refine ay ?_;refine bt hm (ι:=Nat) (fun i=>(.un::.un::.un::⟨true,.ptr 0 9 0 0⟩::.un::.un::.un::⟨true,.int .i64 (i:Nat)⟩::⟨true,.int .i64 (r.needs.length:Nat)⟩::.un::⟨true,.sl 3 (r.needs.map a7.D)⟩::.un::.un::.un::.un::.un::.un::.un::.un::.un::.un::.un::.un::.un::.un::.un::.un::.un::.un::.un::.un::.un::.un::.un::.un::.un::.un::.un::.un::[])) (fun i=>[(0,.buf 9 [Rec.D r])]) 28 (fun i=>i≤r.needs.length∧jZ r=fo (fun i=>ib r r.needs[i]!) i r.needs.length) (fun i=>r.needs.length-i) 0 ⟨by omega,rfl⟩ (eC [(0,0)]) ?_;rintro i ⟨hi,hr⟩;refine az ?_;refine cN (fun hc3=>?_) fun hc3=>?_
 ·refine aP ?_;first|refine cj (v:=(a7.D _)) ?_|refine ic (v:=(a7.D _)) ?_
  refine ay ?_;refine aI (a7.D r.needs[i]!) (he:=by exact rfl) ?_;refine aA ?_;refine aj (hc:=h210 r r.needs[i]! (hp0.2.1 _ (bJ (by omega)))) ?_;refine aT ?_;refine gC (fun hc4=>?_) fun hc4=>?_
  ·refine dD ?_;refine cd (aR (congrArg (D.int .i64) ?_) (congrArg (D.int .i64) ?_));all_goals
    have hq:bY r=(ib r r.needs[i]!,((i:Nat):Int)):=by
     exact mG hc0 hc1 (by omega) (by omega) (Gd (by rw[hr,lF (by omega) hc4]) hc4) hc4
    rw[hq];first|done|rfl
  refine bg ?_;exact⟨i+1,⟨by omega,by rw[hr,nL (by omega) hc4]⟩,by omega,(eC [(0,0)])⟩
 refine aA ?_;have hn0:jZ r=(0,0):=by rw[hr,nJ (by omega)]
 refine az ?_;intro u2;refine ay ?_;refine bt hm (ι:=Nat) (fun i=>(.un::.un::.un::⟨true,.ptr 0 9 0 0⟩::.un::.un::.un::.un::.un::.un::.un::.un::.un::.un::.un::⟨true,.int .i64 (i:Nat)⟩::⟨true,.int .i64 (r.bars.length:Nat)⟩::.un::⟨true,.sl 3 (r.bars.map gz.D)⟩::.un::.un::.un::.un::.un::.un::.un::.un::.un::.un::.un::.un::.un::.un::.un::.un::.un::.un::.un::.un::[])) (fun i=>[(0,.buf 9 [Rec.D r])]) 33 (fun i=>i≤r.bars.length∧rC r=fo (fun i=>qv r r.bars[i]!) i r.bars.length) (fun i=>r.bars.length-i) 0 ⟨by omega,rfl⟩ (eC [(0,0)]) ?_;rintro i ⟨hi,hr⟩;refine az ?_;refine cN (fun hc5=>?_) fun hc5=>?_
 ·refine aP ?_;first|refine cj (v:=(gz.D _)) ?_|refine ic (v:=(gz.D _)) ?_
  refine ay ?_;refine aI (gz.D r.bars[i]!) (he:=by exact rfl) ?_;refine b6 ?_;refine aj (hc:=h211 r r.bars[i]!.name r.bars[i]!.range (hp0.2.2.1 _ (bJ (by omega))).2.1) ?_;refine bg ?_;refine aq (fun hc6=>?_) (fun hc6=>?_)
  ·simp only[Bool.not_eq_true',decide_eq_false_iff_not]at hc6;have hbe:qv r r.bars[i]! =gP r r.bars[i]!.name r.bars[i]!.range:=by rw[qv,if_pos hc6]
   refine jx ?_;refine cd (aR (congrArg (D.int .i64) ?_) (congrArg (D.int .i64) ?_));all_goals
    have hq:bY r=(gP r r.bars[i]!.name r.bars[i]!.range,((i:Nat):Int)):=by
     exact mG hc0 hc1 (by omega) (by omega) (zr hn0 (by rw[hr,lF (by omega) (by rw[hbe];exact hc6),hbe]) hc6) hc6
    rw[hq];first|done|rfl
  try simp only[ik]at hc6
  refine aA ?_;refine aj (hc:=h212 _) ?_;refine ay ?_;refine wp_cond (fun hc7=>?_) (fun hc7=>?_)
  ·simp only[Bool.not_eq_true']at hc7;have hbe:qv r r.bars[i]! =7:=by rw[qv,if_neg (fun h=>h hc6),if_pos hc7]
   refine b6 ?_;refine cd (aR (congrArg (D.int .i64) ?_) (congrArg (D.int .i64) ?_));all_goals
    have hq:bY r=((7:Int),((i:Nat):Int)):=by
     exact mG hc0 hc1 (by omega) (by omega) (zr hn0 (by rw[hr,lF (by omega) (by rw[hbe];decide),hbe]) (show(7:Int)≠0 by decide)) (show(7:Int)≠0 by decide)
    rw[hq];first|done|rfl
  simp only[Bool.not_eq_false']at hc7;have hbz:qv r r.bars[i]! =0:=by rw[qv,if_neg (fun h=>h hc6),if_neg (by rw[hc7];simp)]
  refine bg ?_;exact⟨i+1,⟨by omega,by rw[hr,nL (by omega) hbz]⟩,by omega,(eC [(0,0)])⟩
 refine aA ?_;have hb0:rC r=(0,0):=by rw[hr,nJ (by omega)]
 refine ay ?_;refine aj (hc:=h213 r.feats hp0.2.2.2) ?_;refine ay ?_;refine aq (fun hc8=>?_) (fun hc8=>?_)
 ·try simp only[ik]at hc8
  refine aT ?_;refine cd (aR (congrArg (D.int .i64) ?_) (congrArg (D.int .i64) ?_));all_goals
   have hq:bY r=(11,0):=by
    exact mG hc0 hc1 (by omega) (by omega) (Ge hn0 hb0 hc8) (by decide)
   rw[hq];first|done|rfl
 simp only[Bool.not_eq_false']at hc8;refine aT ?_;intro u3;refine ay ?_;refine bt hm (ι:=Nat) (fun i=>(.un::.un::.un::⟨true,.ptr 0 9 0 0⟩::.un::.un::.un::.un::.un::.un::.un::.un::.un::.un::.un::.un::.un::.un::.un::.un::.un::.un::.un::.un::.un::⟨true,.int .i64 (i:Nat)⟩::⟨true,.int .i64 (r.feats.length:Nat)⟩::.un::⟨true,.sl 2 (r.feats.map bn.D)⟩::.un::.un::.un::.un::.un::.un::.un::.un::.un::.un::[])) (fun i=>[(0,.buf 9 [Rec.D r])]) 42 (fun i=>i≤r.feats.length∧qI r=fo (fun i=>oO r r.feats[i]!.of) i r.feats.length) (fun i=>r.feats.length-i) 0 ⟨by omega,rfl⟩ (eC [(0,0)]) ?_;rintro i ⟨hi,hr⟩;refine az ?_;refine cN (fun hc9=>?_) fun hc9=>?_
 ·refine aP ?_;first|refine cj (v:=(bn.D _)) ?_|refine ic (v:=(bn.D _)) ?_
  refine ay ?_;refine aI (bn.D r.feats[i]!) (he:=by exact rfl) ?_;refine aP ?_;intro u4;refine ay ?_;refine qg hm (ι:=Nat) (fun j=>(.un::.un::.un::⟨true,.ptr 0 9 0 0⟩::.un::.un::.un::.un::.un::.un::.un::.un::.un::.un::.un::.un::.un::.un::.un::.un::.un::.un::.un::.un::.un::⟨true,.int .i64 (i:Nat)⟩::⟨true,.int .i64 (r.feats.length:Nat)⟩::.un::⟨true,.sl 2 (r.feats.map bn.D)⟩::.un::⟨true,.int .i64 (j:Nat)⟩::⟨true,.int .i64 (r.feats[i]!.of.length:Nat)⟩::.un::⟨true,.sl 1 (r.feats[i]!.of.map D.str)⟩::.un::.un::.un::⟨true,.int .i64 (i:Nat)⟩::.un::[])) (fun j=>[(0,.buf 9 [Rec.D r])]) 53 (fun j=>j≤r.feats[i]!.of.length∧oO r r.feats[i]!.of=gF (fun j=>hY r r.feats[i]!.of[j]!) j r.feats[i]!.of.length) (fun j=>r.feats[i]!.of.length-j) 0 ⟨by omega,rfl⟩ (eC [(0,0)]) ?_;rintro j ⟨hj,hjr⟩;refine az ?_;refine cN (fun hc10=>?_) fun hc10=>?_
  ·refine jx ?_;refine aj (hc:=h214 r r.feats[i]!.of[j]! ((hp0.2.2.2 _ (bJ (by omega))).2.2 _ (bJ (by omega)))) ?_;refine aT ?_;refine gC (fun hc11=>?_) fun hc11=>?_
   ·refine gR ?_;refine cd (aR (congrArg (D.int .i64) ?_) (congrArg (D.int .i64) ?_));all_goals
     have hq:bY r=(hY r r.feats[i]!.of[j]!,((i:Nat):Int)):=by
      have hie:oO r r.feats[i]!.of=hY r r.feats[i]!.of[j]! :=by rw[hjr,tK (by omega) hc11]
      exact mG hc0 hc1 (by omega) (by omega) (uz hn0 hb0 hc8 (by rw[hr,lF (f:=(fun i=>oO r r.feats[i]!.of)) (by omega) (by rw[hie];exact hc11),hie])) hc11
     rw[hq];first|done|rfl
   refine bg ?_;exact⟨j+1,⟨by omega,by rw[hjr,qL (by omega) hc11]⟩,by omega,(eC [(0,0)])⟩
  refine b6 ?_;exact⟨i+1,⟨by omega,by rw[hr,nL (f:=(fun i=>oO r r.feats[i]!.of)) (by omega) (by rw[hjr,qJ (by omega)])]⟩,by omega,(eC [(0,0)])⟩
 refine aA ?_;have hpz:dW r=(0,0):=uz hn0 hb0 hc8 (by rw[hr,nJ (by omega)]);have hgd:tV r:=⟨⟨hc0,hc1⟩,⟨by omega,by omega⟩,hpz⟩;refine ax ?_;refine aj (hc:=h215 r ⟨hgd,hp0⟩) ?_;refine ax ?_;intro u5;refine ay ?_;refine cN (fun hc12=>?_) fun hc12=>?_
 ·refine aT ?_;refine cd (aR (congrArg (D.int .i64) ?_) (congrArg (D.int .i64) ?_));all_goals
   have hq:bY r=(3,0):=by
    rw[tA hc0 hc1 (by omega) (by omega) hpz,if_pos (by omega)]
   rw[hq];first|done|rfl
 refine aT ?_;refine cd (aR (congrArg (D.int .i64) ?_) (congrArg (D.int .i64) ?_));all_goals
  have hq:bY r=(0,0):=by
   rw[tA hc0 hc1 (by omega) (by omega) hpz,if_neg (by omega)]
  rw[hq];first|done|rfl
def C70 (Γ:Ctx):Prop:=∀(r:Rec),(kn r)→Γ.pre 70 [Rec.D r]∧Γ.val 70 [Rec.D r]=.tup [.int .i64 (bY r).1,.int .i64 (bY r).2]
end Go.Abs
end
section
namespace Go.Abs
open Go
def x6:aB:=⟨1,12,[⟨1,some (9,true)⟩,⟨2,none⟩,⟨3,none⟩],[[.a,.a,.a,.a,.a,.a,.sl 3 [.sl 4 [.a,.a,.sl 1 [.a],.a],.a,.a],.sl 3 [.a,.a,.a],.sl 2 [.a,.sl 1 [.a]]],[.a],[.a]],(sq (rg [gb 9 (.c (.agg [.str [],.int .i64 0,.int .i64 0,.int .i64 0,.str [],.str [],.av,.av,.av])),gm bD,gm bD] [(1,0),(2,1),(3,2)]) (sq (sq (r1 [gm s0,xA l0,dA l1 (i6 4096)] 4 2) (.cond s4 (sq (rg [gn (.build [.str [],.int .i64 0,.int .i64 0,.int .i64 0,.str [],.str [],.av,.av,.av] []),gt 9 s1 l0,gm kL,gm bD] [(2,2),(3,3)]) .ret) .skip)) (sq (r1 [gm s0,gx 124 [l0,(cs [10])] je,gm l1] 5 2) (sq (r1 [gm s5,gm s5,gl l1,fO l2 ca,gn (.slA 1 l0 none (some l3)),gn (.build [.av,.int .i64 0] [(0,1,l4)]),gb 2 l5,gm l6] 6 7) (sq (rg [gm s6,gn (.callF 222 l0 [] []),gm l1,ge l2 0,ge l2 1,gb 9 (.c (.agg [.str [],.int .i64 0,.int .i64 0,.int .i64 0,.str [],.str [],.av,.av,.av])),gt 9 l5 l3,gm l4] [(9,5),(7,7)]) (sq (sq (r2 [gm s7,pr l0,gm l1,eV 2 s6,cu 2 (.nilck l3),kW 2 1 l4,mh 2 l5,eV 2 s6,cu 2 (.nilck l7),kW 2 0 l8,mh 2 l9,cu 2 (.len l10),cu 2 (py l6 ki),fY l2 ma,gm n7,eV 14 s5,eV 14 s5,cu 14 (.len su),cu 14 (lU xJ ca),cu 14 (.ia 1 pV yl),mh 14 Ak,cu 14 (fg B2 cse),fY oR Dr] 8 22) (.cond s8 (sq (rt [gn (.build [.str [],.int .i64 0,.int .i64 0,.int .i64 0,.str [],.str [],.av,.av,.av] []),gm s6,gc l1,gf 1 l2,gn (.ldI 1 false l3),ar l4 ca,gt 9 s1 l0,gm kB,gm l5] [(2,7),(3,8)]) .ret) .skip)) (sq (sq (r1 [gk 9 true s9,gx 70 [l0] [[.a,.a,.a,.a,.a,.a,.sl 3 [.sl 4 [.a,.a,.sl 1 [.a],.a],.a,.a],.sl 3 [.a,.a,.a],.sl 2 [.a,.sl 1 [.a]]]],gm l1,ge l2 0,ge l2 1,gm l3,gm l4] 10 5) (sq (r1 [gm lx,cr l0 bD] 11 1) (.cond oo (sq (rg [gn (.build [.str [],.int .i64 0,.int .i64 0,.int .i64 0,.str [],.str [],.av,.av,.av] []),gm lx,gt 9 s1 l0,gm l1,gm bD] [(2,3),(3,4)]) .ret) .skip))) (sq (rg [gk 9 true s9,gt 9 s1 l0,gm bD,gm bD] [(2,2),(3,3)]) .ret))))))))⟩
def w76 {Γ:Ctx}(hm:(Γ.at 0).br)(h70:C70 Γ)(h124:Es Γ)(h222:Ma Γ)(s:ah)   :eA Γ x6 (.tup [Rec.D (dy s).1,.int .i64 (dy s).2.1,.int .i64 (dy s).2.2]) [.str s]:=by
 show bB _ _ _ [⟨_,_⟩,_,_,_,_,_,_,_,_,_,_,_] _;refine ak ?_;refine b6 ?_;intro u0;refine ay ?_;refine aq (fun hc0=>?_) (fun hc0=>?_)
 ·simp only[decide_eq_true_eq]at hc0;have hrr:dy s=(ml,3,0):=by unfold dy;rw[if_pos (by omega)]
  rw[hrr];refine ay ?_;refine bx c7 ?_;refine aI c7 (he:=by exact rfl) ?_;refine az ?_;refine mc [(0,.buf 9 [Rec.D ml])] (.bf ae (.cons qa .nil) .nil) ?_;refine ax ?_;refine cd (kp ?_ (congrArg (D.int .i64) ?_) (congrArg (D.int .i64) ?_));all_goals rfl
 simp only[decide_eq_false_iff_not]at hc0;have hsp:=eQ 10 s [];have hsp:1≤(ai s 10).length:=hsp;have hsl:=cQ s 10;refine az ?_;refine aj (v:=.sl 1 ((ai s 10).map D.str)) (hc:=h124 s 10 (by omega)) ?_;refine aT ?_;intro u1;refine ax ?_;refine uF ((ai s 10).length-1) (hj:=fun _=>by omega) (hb:=fun _=>by omega) ?_;refine bx (Ld.D ⟨((ai s 10).take ((ai s 10).length-1)),0⟩) ?_;refine aA ?_;generalize hLS:((ai s 10).take ((ai s 10).length-1))=LS;have hLl:LS.length=(ai s 10).length-1:=by rw[←hLS,List.length_take];omega
 have hLm:xg LS:=fun t ht=>by
  rw[←hLS]at ht;have:=dq s 10 (List.mem_of_mem_take ht);omega
 have hsm0:(⟨LS,0⟩:Ld).sm:=⟨⟨Nat.zero_le _,by simp only;omega⟩,hLm⟩;obtain⟨hrs,hsf⟩:=IP hLm;have hsfl:=hsf.length_le;refine ax ?_;refine jE (v:=.tup [Rec.D (dK LS).1,.bool (mj LS).isSome]) (e:=Ld.D ((⟨LS,0⟩:Ld).to (dK LS).2)) (hc:=h222 ⟨LS,0⟩ hsm0) ?_;refine ax ?_;refine fG (Rec.D _) ?_;refine ay ?_;refine aI (Rec.D (dK LS).1) (he:=by exact rfl) ?_;refine jx ?_;refine cy (v:=.int .i64 ((LS.length-(dK LS).2.length:Nat):Int)) ?_;refine az ?_;refine cy (v:=.sl 1 (LS.map D.str)) ?_;refine nZ ?_;refine aP ?_;refine nZ ?_;refine ax ?_;refine cH ((ai s 10).length-1) (hj:=fun _=>by omega) (hb:=fun _=>by omega) ?_;refine cj (v:=.str (ai s 10)[(ai s 10).length-1]!) (hi:=fun _=>by omega) ?_;refine az ?_;refine aq (fun hc1=>?_) (fun hc1=>?_)
 ·simp only[Bool.or_eq_true,Bool.not_eq_true',decide_eq_true_eq,decide_eq_false_iff_not]at hc1;have hrr:dy s=(ml,2,((LS.length-(dK LS).2.length:Nat):Int)+1):=by
   unfold dy;rw[if_neg (by omega)];simp only[hLS];rw[if_pos];rcases hc1 with(h|h)|h
   ·exact .inl h
   ·refine .inr (.inl fun e=>?_);rw[e]at h;simp only[List.length_nil]at h;omega
   ·exact .inr (.inr h)
  rw[hrr];refine ax ?_;refine eB 15 (he:=by simp only[lY,gU,kK,mQ,oL,bN,Nat.reduceEqDiff,if_true,if_false,and_self,true_and,and_true,false_and,and_false,Nat.zero_add,List.length_map,Nat.le_refl,List.drop_zero,aJ,reduceCtorEq,List.length_cons,List.length_nil,Nat.reduceAdd,Nat.reduceLeDiff,Ld.D,c7,k8];exact rfl) (hm:=by simp only[lY,gU,kK,mQ,oL,bN,Nat.reduceEqDiff,if_true,if_false,and_self,true_and,and_true,false_and,and_false,Nat.zero_add,List.length_map,Nat.le_refl,List.drop_zero,aJ,reduceCtorEq,List.length_cons,List.length_nil,Nat.reduceAdd,Nat.reduceLeDiff,Ld.D,c7,Rec.D];exact rfl) ?_;refine ax ?_;refine bx c7 ?_;refine az ?_;refine Bi (v:=.int .i64 ((LS.length-(dK LS).2.length:Nat):Int)) ?_;refine ax ?_;refine aI c7 (he:=by exact rfl) ?_;refine az ?_;refine mc [(0,.buf 9 [Rec.D ml]),(22,.buf 9 [Rec.D (dK LS).1])] (.bf ae (.cons qa .nil) (.id ae .nil)) ?_;refine ax ?_;refine cd (kp ?_ (congrArg (D.int .i64) ?_) (congrArg (D.int .i64) ?_));all_goals rfl
 simp only[Bool.or_eq_false_iff,Bool.not_eq_false',decide_eq_true_eq,decide_eq_false_iff_not]at hc1;have hrr:dy s=if(bY (dK LS).1).1≠0 then(ml,(bY (dK LS).1).1,0)else((dK LS).1,0,0):=by
  unfold dy;rw[if_neg (by omega)];simp only[hLS];rw[if_neg];rintro(h|h|h)
  ·rw[hc1.1.1]at h;cases h
  ·exact h (List.eq_nil_of_length_eq_zero (by have:=hc1.1.2;omega))
  ·exact h hc1.2
 rw[hrr];refine az ?_;refine cS (d:=Rec.D (dK LS).1) ?_;refine aj (hc:=h70 (dK LS).1 hrs) ?_;refine gR ?_;refine aq (fun hc2=>?_) (fun hc2=>?_)
 ·simp only[Bool.not_eq_true',decide_eq_false_iff_not]at hc2;rw[if_pos hc2];refine ay ?_;refine bx c7 ?_;refine ax ?_;refine aI c7 (he:=by exact rfl) ?_;refine az ?_;refine mc [(0,.buf 9 [Rec.D ml]),(15,.buf 2 [Ld.D ((⟨LS,0⟩:Ld).to (dK LS).2)]),(22,.buf 9 [Rec.D (dK LS).1])] (.bf ae (.cons qa .nil) (.id ae (.id ae .nil))) ?_;refine ax ?_;refine cd (kp ?_ (congrArg (D.int .i64) ?_) (congrArg (D.int .i64) ?_));all_goals rfl
 simp only[Bool.not_eq_false',decide_eq_true_eq]at hc2;rw[if_neg (by rw[hc2];simp)];refine ay ?_;refine cS (d:=Rec.D (dK LS).1) ?_;refine aI (Rec.D (dK LS).1) (he:=by exact rfl) ?_;refine aA ?_;refine cd (kp ?_ (congrArg (D.int .i64) ?_) (congrArg (D.int .i64) ?_));all_goals rfl
def C76 (Γ:Ctx):Prop:=∀(s:ah),Γ.pre 76 [.str s]∧Γ.val 76 [.str s]=.tup [Rec.D (dy s).1,.int .i64 (dy s).2.1,.int .i64 (dy s).2.2]
end Go.Abs
end
namespace Go.Abs
end Go.Abs
section
namespace Go.Abs
open Go
end Go.Abs
end
section
namespace Go.Abs
def RdS.ok (x:RdS):Prop:=(x.st=0→x.r.needs=[]∧x.r.bars=[]∧x.r.feats=[])∧((x.st=2∨x.st=3)→x.r.needs≠[])∧(x.st=5→x.r.bars≠[])
end Go.Abs
namespace Go.Abs
end Go.Abs
end
section
namespace Go.Abs
def Hv (ob:Aq):Prop:=∀(σ:List (Nat×Nat))(l l':Nat)(w:List ah)(n:Nat)(b:Bool),kG 0 σ l=some l'→rZ 0 σ (ob w (.own l 5 0 n) b)=some (ob w (.own l' 5 0 n) b)
def m9:Hv ep:=fun σ l l' w n b h=>by simp only[ep,rZ,qc,Ep,h]
def Lw:D→Nat
 | .agg [.sl _ ws,_,_]=>ws.length
 | .agg [.sl _ ws,.int _ i,_,_]=>ws.length-i.toNat
 |_=>0
def FF (c:List D→Nat)(ds:List D)(st:St):Nat:=match ds with
 | .ptr l _ _ _::VM=>(match look st.m l with
  |some (.buf _ [o])=>6*Lw o+c VM
  |_=>0)
 |_=>0
def IV (w:List ah)(X:D)(b:Bool):Lw (ep w X b)=w.length:=by simp[Lw,ep]
def jX {c:List D→Nat}{l k nx:Nat}{VM:List D}{m:List (Nat×aV)}{w:List ah}{X:D}{b:Bool}(h:look m l=some (.buf k [ep w X b])):FF c (.ptr l k 0 0::VM) ⟨nx,m⟩=6*w.length+c VM:=by
 simp only[FF,h,IV]
def A7 (nd:List Nd):aH (nd.map Nd.D)=true:=bq (fun _=>rfl) _
section
variable [bU] {P:Program} {ν:List (Nat×Nat)} {bA:List Nat} {t:List (Nat×n4)} {fid n key u k:Nat} {af:aB} {ob:Aq} {VM:List D} {w:List ah} {nd:List Nd} {b:Bool} {lp ln nx:Nat} {m:List (Nat×aV)} {K:D→St→Prop} {Pp:PO→Prop} {V:PO→D}
def Gj (hob:Hv ob)(hk5:k≠5)(has:aH VM=true)(h1:look m lp=some (.buf k [ob w (.own ln 5 0 nd.length) b]))(h2:look m ln=some (.buf 5 (nd.map Nd.D))):
  lp≠ln∧(∀i,i<(D.ptr lp k 0 0::VM).length→Hb 0 [(lp,0),(ln,1)] ((D.ptr lp k 0 0::VM).getD i .any) ((D.ptr 0 k 0 0::VM).getD i .any))∧eW 0 2 [(lp,0),(ln,1)]=true∧(∀l i,(l,i)∈[(lp,0),(ln,1)]→look m l≠none)∧
   ∀i bb,look [(0,.buf k [ob w (.own 1 5 0 nd.length) b]),(1,.buf 5 (nd.map Nd.D))] i=some bb→∃l b',(l,i)∈[(lp,0),(ln,1)]∧look m l=some b'∧n9 0 [(lp,0),(ln,1)] b' bb:=by
 have hne:lp≠ln:=by
  rintro rfl;rw[h1]at h2;exact hk5 (aV.buf.inj (Option.some.inj h2)).1
 have hb:Nat.beq lp ln=false:=by cases h:Nat.beq lp ln with
  |false=>rfl
  |true=>exact absurd (Nat.eq_of_beq_eq_true h) hne
 have hb':Nat.beq ln lp=false:=by cases h:Nat.beq ln lp with
  |false=>rfl
  |true=>exact absurd (Nat.eq_of_beq_eq_true h).symm hne
 refine⟨hne,fun i hi=>?_, ?_,fun l i h=>?_,fun i bb h=>?_⟩
 ·match i with
  |0=>exact .inr (.inl (by simp[rZ,Ep,kG]))
  |i+1=>exact .inl ⟨rfl,bS has i⟩
 ·simp[eW,hb,hb'];rfl
 ·rcases List.mem_cons.1 h with h|h
  ·obtain⟨rfl,rfl⟩:=Prod.mk.inj h;rw[h1];simp
  ·obtain⟨rfl,rfl⟩:=Prod.mk.inj (List.mem_singleton.1 h);rw[h2];simp
 ·simp only[look]at h;split at h
  ·rename_i e;subst e;obtain rfl:=Option.some.inj h;exact⟨lp,_,.head _,h1,rfl,.inr (.inl (by simp only[qc,hob _ ln 1 w nd.length b (show kG 0 [(lp,0),(ln,1)] ln=some 1 by simp[kG,hb])]))⟩
  ·split at h
   ·rename_i e;subst e;obtain rfl:=Option.some.inj h;exact⟨ln,_,.tail _ (.head _),h2,rfl,.inl ⟨rfl,A7 nd⟩⟩
   ·cases h
def iC (hob:Hv ob)(hk5:k≠5)(has:aH VM=true)(hV:∀o,(V o).aK=true)(hmix:P.follows .mixedOrders=true)(hC:Ez P ν bA fid af)(hnp:VM.length+1=af.np)
  (h1:look m lp=some (.buf k [ob w (.own ln 5 0 nd.length) b])) (h2:look m ln=some (.buf 5 (nd.map Nd.D))) (h3:lp<nx) (h4:ln<nx)
  (hK:∀o,Pp o→K (V o) ⟨nx+1,(nx,.buf 5 (o.nd.map Nd.D))::bR (bN m ln) lp (.buf k [ob o.w (.own nx 5 0 o.nd.length) o.bad])⟩)
  (hw:bB ((under t key u).at 2) af.body (ov af (Ar k ob Pp V)) (eL af (.ptr 0 k 0 0::VM)) ⟨2,[(0,.buf k [ob w (.own 1 5 0 nd.length) b]),(1,.buf 5 (nd.map Nd.D))]⟩):mz P ν bA (under t key u) fid (.ptr lp k 0 0::VM) ⟨nx,m⟩ K:=by
 obtain⟨hne,g2,g3,g4,g5⟩:=Gj hob hk5 has h1 h2;refine y6 (σi:=[(lp,0),(ln,1)]) (cs:=.ptr 0 k 0 0::VM) (fun q=>aO t key u q) hmix hC (by simp) g2 (by simpa using hnp) g3 g4 g5 hw ?_;rintro d m1 ⟨o,j,hj,hP,rfl,e0,ej⟩;have hb0:Nat.beq 0 j=false:=by cases j<;>first|omega|rfl
 have hbj:Nat.beq j 0=false:=by cases j<;>first|omega|rfl
 have hbl:Nat.beq lp nx=false:=by cases h:Nat.beq lp nx with
  |false=>rfl
  |true=>have:=Nat.eq_of_beq_eq_true h;omega
 have hbl':Nat.beq nx lp=false:=by cases h:Nat.beq nx lp with
  |false=>rfl
  |true=>have:=Nat.eq_of_beq_eq_true h;omega
 refine⟨[(0,lp),(j,nx)],j+1,_,V o,⟨g3, ?_,Nat.le_succ _,g4, ?_,g5, ?_⟩,.inl ⟨rfl,hV o⟩,hK o hP⟩
 ·simp[eW,hbj,hb0,hbl,hbl'];omega
 ·intro i l h;rcases List.mem_cons.1 h with h|h
  ·obtain⟨rfl,rfl⟩:=Prod.mk.inj h;exact .inl (.head _)
  ·obtain⟨rfl,rfl⟩:=Prod.mk.inj (List.mem_singleton.1 h);exact .inr (Nat.le_refl _)
 ·intro l bb h;simp only[look]at h;split at h
  ·rename_i e;subst e;obtain rfl:=Option.some.inj h;exact .inl ⟨j,_,.tail _ (.head _),ej,rfl,.inl ⟨rfl,A7 _⟩⟩
  ·rename_i hln;rw[bo]at h;split at h
   ·rename_i e;subst e;obtain rfl:=Option.some.inj h;exact .inl ⟨0,_,.head _,e0,rfl,.inr (.inl (by simp only[qc,hob _ j nx o.w o.nd.length o.bad (show kG 0 [(0,l),(j,nx)] j=some nx by simp[kG,hb0])]))⟩
   ·rename_i hlp;rw[dV]at h;split at h
    ·cases h
    ·rename_i hl2;refine .inr ⟨by simp only[jU,if_neg (fun e=>hlp (Eq.symm e)),if_neg hln],fun i hi=>?_,h⟩;rcases List.mem_cons.1 hi with hi|hi
     ·exact hlp (Prod.mk.inj hi).1
     ·exact hl2 (Prod.mk.inj (List.mem_singleton.1 hi)).1
def DX (hob:Hv ob)(hk5:k≠5)(has:aH VM=true)(hV:∀o,(V o).aK=true)(hmix:P.follows .mixedOrders=true)(hC:Ez P ν bA fid af)(hnp:VM.length+1=af.np)
  (h1:look m lp=some (.buf k [ob w (.own ln 5 0 nd.length) b])) (h2:look m ln=some (.buf 5 (nd.map Nd.D))) (h3:lp<nx) (h4:ln<nx)
  (hK:∀o,Pp o→K (V o) ⟨nx,bR m lp (.buf k [ob o.w (.own ln 5 0 nd.length) o.bad])⟩)
  (hw:bB ((under t key u).at 2) af.body (ov af (Jl k ob nd Pp V)) (eL af (.ptr 0 k 0 0::VM)) ⟨2,[(0,.buf k [ob w (.own 1 5 0 nd.length) b]),(1,.buf 5 (nd.map Nd.D))]⟩):mz P ν bA (under t key u) fid (.ptr lp k 0 0::VM) ⟨nx,m⟩ K:=by
 obtain⟨hne,g2,g3,g4,g5⟩:=Gj hob hk5 has h1 h2;refine y6 (σi:=[(lp,0),(ln,1)]) (cs:=.ptr 0 k 0 0::VM) (fun q=>aO t key u q) hmix hC (by simp) g2 (by simpa using hnp) g3 g4 g5 hw ?_;rintro d m1 ⟨o,hP,rfl,e0,ej⟩;have hbl:Nat.beq lp ln=false:=by cases h:Nat.beq lp ln with
  |false=>rfl
  |true=>exact absurd (Nat.eq_of_beq_eq_true h) hne
 have hbl':Nat.beq ln lp=false:=by cases h:Nat.beq ln lp with
  |false=>rfl
  |true=>exact absurd (Nat.eq_of_beq_eq_true h).symm hne
 refine⟨[(0,lp),(1,ln)],2,⟨nx,bR m lp (.buf k [ob o.w (.own ln 5 0 nd.length) o.bad])⟩,V o,⟨g3, ?_,Nat.le_refl _,g4, ?_,g5, ?_⟩,.inl ⟨rfl,hV o⟩,hK o hP⟩
 ·simp[eW,hbl,hbl'];exact⟨h3,rfl,h4⟩
 ·intro i l h;rcases List.mem_cons.1 h with h|h
  ·obtain⟨rfl,rfl⟩:=Prod.mk.inj h;exact .inl (.head _)
  ·obtain⟨rfl,rfl⟩:=Prod.mk.inj (List.mem_singleton.1 h);exact .inl (.tail _ (.head _))
 ·intro l bb h;simp only at h;rw[bo]at h;split at h
  ·rename_i e;subst e;obtain rfl:=Option.some.inj h;exact .inl ⟨0,_,.head _,e0,rfl,.inr (.inl (by simp only[qc,hob _ 1 ln o.w nd.length o.bad (show kG 0 [(0,l),(1,ln)] 1=some ln from rfl)]))⟩
  ·rename_i hlp;by_cases hl2:l=ln
   ·subst hl2;rw[h2]at h;obtain rfl:=Option.some.inj h;exact .inl ⟨1,_,.tail _ (.head _),ej,rfl,.inl ⟨rfl,A7 _⟩⟩
   ·refine .inr ⟨by simp only[jU,if_neg (fun e=>hlp (Eq.symm e)),if_neg (fun e=>hl2 (Eq.symm e))],fun i hi=>?_,h⟩;rcases List.mem_cons.1 hi with hi|hi
    ·exact hlp (Prod.mk.inj hi).1
    ·exact hl2 (Prod.mk.inj (List.mem_singleton.1 hi)).1
def mD {a b:Nat}(h:a≠b):Nat.beq a b=false:=by
 cases h2:Nat.beq a b with
 |false=>rfl
 |true=>exact absurd (Nat.eq_of_beq_eq_true h2) h
def uL {m:List (Nat×aV)}{l lw:Nat}(h:l≠lw):dC (bN m lw) l=match look m l with
 |some (.bld (some l2) _ _)=>bN (bN m lw) l2
 |_=>bN m lw:=by
 haveI:bU:={gd:=fun _=>True,le:=fun _ _ _ _ _=>trivial}
 unfold dC;rw[dV,if_neg h];cases look m l with
 |none=>rfl
 |some b=>cases b with
  |bld o n u=>cases o<;>rfl
  |_=>rfl
def Dy {ws:List ah}{s:ah}{l lw:Nat}(hmix:P.follows .mixedOrders=true)(hC:Ez P ν bA fid af)(hnp:2=af.np)
  (h1:n8 m l s) (h2:look m lw=some (.buf 1 (ws.map D.str))) (h3:l<nx) (h4:lw<nx) (hK:K (.tup []) ⟨nx+1,mE (bN m lw) l nx (s++bw ws)⟩)
  (hw:∀m0,n8 m0 0 s→look m0 1=some (.buf 1 (ws.map D.str))→bB ((under t key u).at 3) af.body (ov af (fun d m=>d=.tup []∧look m 0=some (.bld (some 9) (s++bw ws).length true)∧look m 9=some (.row (s++bw ws)))) (eL af [.ptr 0 2 0 0,.own 1 1 0 ws.length]) ⟨3,m0⟩):
  mz P ν bA (under t key u) fid [.ptr l 2 0 0,.own lw 1 0 ws.length] ⟨nx,m⟩ K:=by
 have hlw:l≠lw:=by
  rintro rfl;rcases h1 with⟨u,h,_⟩|⟨l2,u,h,_⟩<;>rw[h2]at h<;>cases h
 have hnl:aH (ws.map D.str)=true:=bq (fun _=>rfl) _;have b1:=mD hlw;have b2:=mD (Ne.symm hlw);have b3:=mD (show l≠nx by omega);have b4:=mD (show nx≠l by omega)

 have fin:∀(σi:List (Nat×Nat)) (m0:List (Nat×aV)),eW 0 3 σi=true→(l,0)∈σi→(∀l i,(l,i)∈σi→look m l≠none)→(∀i b,look m0 i=some b→∃l b',(l,i)∈σi∧look m l=some b'∧n9 0 σi b' b)→
   (∀l' b,look (dC (bN m lw) l) l'=some b→l'≠l→look m l'=some b∧∀i,(l',i)∉σi)→∀d m1,(d=.tup []∧look m1 0=some (.bld (some 9) (s++bw ws).length true)∧look m1 9=some (.row (s++bw ws)))→
   ∃(σo:List (Nat×Nat)) (q1:Nat) (st':St) (vd':D),Fr σi σo 3 q1 m0 m1 ⟨nx,m⟩ st'∧Hb 0 σo d vd'∧K vd' st':=by
  rintro σi m0 oki hm hlt hm0 hoff d m1 ⟨rfl,e0,e9⟩;refine⟨[(0,l),(9,nx)],10,⟨nx+1,mE (bN m lw) l nx (s++bw ws)⟩,.tup [],⟨oki, ?_,Nat.le_succ _,hlt, ?_,hm0, ?_⟩,.inl ⟨rfl,rfl⟩,hK⟩
  ·simp[eW,b3,b4];exact⟨by omega,rfl⟩
  ·intro i l' h;rcases List.mem_cons.1 h with h|h
   ·obtain⟨rfl,rfl⟩:=Prod.mk.inj h;exact .inl hm
   ·obtain⟨rfl,rfl⟩:=Prod.mk.inj (List.mem_singleton.1 h);exact .inr (Nat.le_refl _)
  ·intro l' bb h;simp only[mE,look]at h;split at h
   ·rename_i e;subst e;obtain rfl:=Option.some.inj h;exact .inl ⟨9,_,.tail _ (.head _),e9,rfl⟩
   ·rename_i hln;rw[bo]at h;split at h
    ·rename_i e;subst e;obtain rfl:=Option.some.inj h;exact .inl ⟨0,_,.head _,e0,⟨nx,rfl,rfl⟩,rfl,rfl⟩
    ·rename_i hl;obtain⟨g1,g2⟩:=hoff l' bb h hl;exact .inr ⟨by simp only[jU,if_neg (fun e=>hl (Eq.symm e)),if_neg hln],g2,g1⟩
 rcases h1 with⟨u,h1,rfl⟩|⟨l2,u,h1,h5⟩
 ·have g4:∀l' i,(l',i)∈[(l,0),(lw,1)]→look m l'≠none:=by
   intro l' i h;rcases List.mem_cons.1 h with h|h
   ·obtain⟨rfl,rfl⟩:=Prod.mk.inj h;rw[h1];simp
   ·obtain⟨rfl,rfl⟩:=Prod.mk.inj (List.mem_singleton.1 h);rw[h2];simp
  have g3:eW 0 3 [(l,0),(lw,1)]=true:=by simp[eW,b1,b2];rfl
  have g5:∀i b,look [(0,aV.bld none 0 u),(1,.buf 1 (ws.map D.str))] i=some b→∃l' b',(l',i)∈[(l,0),(lw,1)]∧look m l'=some b'∧n9 0 [(l,0),(lw,1)] b' b:=by
   intro i b h;simp only[look]at h;split at h
   ·rename_i e;subst e;obtain rfl:=Option.some.inj h;exact⟨l,_,.head _,h1,rfl,rfl,rfl⟩
   ·split at h
    ·rename_i e;subst e;obtain rfl:=Option.some.inj h;exact⟨lw,_,.tail _ (.head _),h2,rfl,.inl ⟨rfl,hnl⟩⟩
    ·cases h
  refine y6 (σi:=[(l,0),(lw,1)]) (cs:=[.ptr 0 2 0 0,.own 1 1 0 ws.length]) (fun q=>aO t key _ q) hmix hC rfl ?_ hnp g3 g4 g5 (hw _ (.inl ⟨u,rfl,rfl⟩) rfl) (fin _ _ g3 (.head _) g4 g5 ?_)
  ·intro i hi
   match i,hi with
   |0,_=>exact .inr (.inl (by simp[rZ,Ep,kG]))
   |1,_=>exact .inr (.inl (by simp[rZ,Ep,kG,b1]))
  ·intro l' b h hl;rw[uL hlw]at h;simp only[h1]at h;rw[dV]at h;split at h
   ·cases h
   ·rename_i hw';refine⟨h,fun i hi=>?_⟩;rcases List.mem_cons.1 hi with hi|hi
    ·exact hl (Prod.mk.inj hi).1
    ·exact hw' (Prod.mk.inj (List.mem_singleton.1 hi)).1
 ·have c1:l2≠l:=by rintro rfl;rw[h1]at h5;cases h5
  have c2:l2≠lw:=by rintro rfl;rw[h2]at h5;cases h5
  have d1:=mD c1;have d2:=mD c2;have d3:=mD (Ne.symm c1);have d4:=mD (Ne.symm c2);have g4:∀l' i,(l',i)∈[(l,0),(lw,1),(l2,2)]→look m l'≠none:=by
   intro l' i h;rcases List.mem_cons.1 h with h|h
   ·obtain⟨rfl,rfl⟩:=Prod.mk.inj h;rw[h1];simp
   ·rcases List.mem_cons.1 h with h|h
    ·obtain⟨rfl,rfl⟩:=Prod.mk.inj h;rw[h2];simp
    ·obtain⟨rfl,rfl⟩:=Prod.mk.inj (List.mem_singleton.1 h);rw[h5];simp
  have g3:eW 0 3 [(l,0),(lw,1),(l2,2)]=true:=by simp[eW,b1,b2,d1,d2,d3,d4];exact⟨⟨rfl,rfl⟩,rfl⟩
  have g5:∀i b,look [(0,aV.bld (some 2) s.length u),(1,.buf 1 (ws.map D.str)),(2,.row s)] i=some b→∃l' b',(l',i)∈[(l,0),(lw,1),(l2,2)]∧look m l'=some b'∧n9 0 [(l,0),(lw,1),(l2,2)] b' b:=by
   intro i b h;simp only[look]at h;split at h
   ·rename_i e;subst e;obtain rfl:=Option.some.inj h;exact⟨l,_,.head _,h1,⟨2,by simp[kG,d3,d4],rfl⟩,rfl,rfl⟩
   ·split at h
    ·rename_i e;subst e;obtain rfl:=Option.some.inj h;exact⟨lw,_,.tail _ (.head _),h2,rfl,.inl ⟨rfl,hnl⟩⟩
    ·split at h
     ·rename_i e;subst e;obtain rfl:=Option.some.inj h;exact⟨l2,_,.tail _ (.tail _ (.head _)),h5,rfl⟩
     ·cases h
  refine y6 (σi:=[(l,0),(lw,1),(l2,2)]) (cs:=[.ptr 0 2 0 0,.own 1 1 0 ws.length]) (fun q=>aO t key _ q) hmix hC rfl ?_ hnp g3 g4 g5 (hw _ (.inr ⟨2,u,rfl,rfl⟩) rfl) (fin _ _ g3 (.head _) g4 g5 ?_)
  ·intro i hi
   match i,hi with
   |0,_=>exact .inr (.inl (by simp[rZ,Ep,kG]))
   |1,_=>exact .inr (.inl (by simp[rZ,Ep,kG,b1]))
  ·intro l' b h hl;rw[uL hlw]at h;simp only[h1]at h;rw[dV]at h;split at h
   ·cases h
   ·rename_i hw2;rw[dV]at h;split at h
    ·cases h
    ·rename_i hw';refine⟨h,fun i hi=>?_⟩;rcases List.mem_cons.1 hi with hi|hi
     ·exact hl (Prod.mk.inj hi).1
     ·rcases List.mem_cons.1 hi with hi|hi
      ·exact hw' (Prod.mk.inj hi).1
      ·exact hw2 (Prod.mk.inj (List.mem_singleton.1 hi)).1
end
end Go.Abs
end
namespace Go.Abs
def sw {α:Type}{f:α→D}(hf:∀x y,f x=f y↔x=y):∀a b:List α,a.map f=b.map f↔a=b
 |[],[]=>by simp
 |[],_::_=>by simp
 |_::_,[]=>by simp
 |x::a,y::b=>by simp only[List.map_cons,List.cons.injEq,hf,sw hf a b]
def H4 (a b:Nat):((a:Nat):Int)=(b:Nat)↔a=b:=by omega
def iU8 (x y:UInt8):((x.toNat:Nat):Int)=(y.toNat:Nat)↔x=y:=(H4 _ _).trans UInt8.toNat_inj
def Dl (a b:List ah):a.map D.str=b.map D.str↔a=b:=sw (fun _ _=>by simp) a b
def iInt (a b:List Int):a.map (D.int .i64)=b.map (D.int .i64)↔a=b:=sw (fun _ _=>by simp) a b
def iByt (a b:ah):(a.map fun c=>D.int .u8 c.toNat)=(b.map fun c=>D.int .u8 c.toNat)↔a=b:=sw (fun x y=>by rw[D.int.injEq,iU8];simp) a b
def iVer (a b:dt):dt.D a=dt.D b↔a=b:=by cases a;cases b;simp[dt.D]
def JA (a b:bp):bp.D a=bp.D b↔a=b:=by cases a;cases b;simp[bp.D,Dl]
def Fl (a b:List bp):a.map bp.D=b.map bp.D↔a=b:=sw JA a b
def Jz (a b:a7):a7.D a=a7.D b↔a=b:=by cases a;cases b;simp[a7.D,Fl]
def Fk (a b:List a7):a.map a7.D=b.map a7.D↔a=b:=sw Jz a b
def NI (a b:gz):gz.D a=gz.D b↔a=b:=by cases a;cases b;simp[gz.D]
def Jw (a b:List gz):a.map gz.D=b.map gz.D↔a=b:=sw NI a b
def Jy (a b:bn):bn.D a=bn.D b↔a=b:=by cases a;cases b;simp[bn.D,Dl]
def Fj (a b:List bn):a.map bn.D=b.map bn.D↔a=b:=sw Jy a b
def iRec (a b:Rec):Rec.D a=Rec.D b↔a=b:=by
 obtain⟨n,⟨v1,v2,v3,v4,v5⟩,x,y,z⟩:=a;obtain⟨n',⟨w1,w2,w3,w4,w5⟩,x',y',z'⟩:=b;simp[Rec.D,Fk,Jw,Fj,and_assoc]
def NJ (a b:bX):bX.D a=bX.D b↔a=b:=by
 obtain⟨n,p,v1,v2,v3,v4,v5⟩:=a;obtain⟨n',p',w1,w2,w3,w4,w5⟩:=b;simp[bX.D]
def Jx (a b:List bX):a.map bX.D=b.map bX.D↔a=b:=sw NJ a b
def iNd (a b:Nd):Nd.D a=Nd.D b↔a=b:=by cases a;cases b;simp[Nd.D]
def NK (a b:List Nd):a.map Nd.D=b.map Nd.D↔a=b:=sw iNd a b
def KL (a b:Alt):px a=px b↔a=b:=by simp[px,Jx]
def iRng (a b:xi):iG a=iG b↔a=b:=by simp[iG,sw KL]
def NH (a b:List Alt):a.map px=b.map px↔a=b:=sw KL a b
def iMrk (a b:Jk):j8 a=j8 b↔a=b:=by simp[j8,NK]
def iLd (a b:Ld):Ld.D a=Ld.D b↔a=b:=by cases a;cases b;simp[Ld.D,Dl,H4]
def iPr (w w':List ah)(x x':D)(b b':Bool):ep w x b=ep w' x' b'↔w=w'∧x=x'∧b=b':=by simp[ep,Dl]
def bG {A:RT→Prop}(h:A (fun ds d=>A fun ds' d'=>ds'=ds→d=d'):=by
 (repeat' first|apply And.intro|intro _)
 all_goals rename_i e
 all_goals (try simp only[List.cons.injEq,D.str.injEq,D.int.injEq,D.bool.injEq,D.sl.injEq,D.ref.injEq,D.agg.injEq,Dl,iInt,iByt,iVer,JA,Fl,Jz,Fk,NI,Jw,Jy,Fj,iRec,NJ,Jx,iNd,NK,KL,iRng,NH,iMrk,iPr,iU8,UInt8.toNat_inj,H4,and_true,true_and,reduceCtorEq,and_false,false_and]at e)
 all_goals first|rfl|(simp only[e];done)|simp_all):M0 (xM A):=Kz h
def HH {A:FT→Prop}(h:A (fun d ds v s=>A fun d' ds' v' s'=>d'=d→ds'=ds→v=v'∧s=s'):=by
 (repeat' first|apply And.intro|intro _)
 all_goals rename_i e' e
 all_goals (try simp only[List.cons.injEq,D.str.injEq,D.int.injEq,D.bool.injEq,D.sl.injEq,iLd,Dl,iU8,UInt8.toNat_inj,H4,and_true,true_and]at e e')
 all_goals first|rfl|(simp only[e,e'];done)|simp_all):tk (kD A):=HI h
end Go.Abs
section
namespace Go.Abs
open Go
end Go.Abs
end
section
namespace Go.Abs
open Go
end Go.Abs
end
namespace Go.Abs
end Go.Abs
section
namespace Go.Abs
open Go
end Go.Abs
end
namespace Go.Abs
end Go.Abs
section
namespace Go.Abs
section
variable [bU] {P:Program} {ν:List (Nat×Nat)} {bA:List Nat} {t:List (Nat×n4)} {fid n key u k:Nat} {af:aB} {VM:List D} {nx:Nat} {m:List (Nat×aV)} {K:D→St→Prop}
def Ec {a:D}{k q i:Nat}{es:List D}{m1:List (Nat×aV)}(ha:a.aK=true)(hes:aH es=true)(hmix:P.follows .mixedOrders=true)(hC:Ez P ν bA fid af)(hnp:1=af.np)
  (hl:look m1 q=some (.buf k es)) (hK:K (.own nx k 0 i) ⟨nx+1,(nx,.buf k es)::m⟩) (hw:bB ((under t key u).at 0) af.body (ov af (One (.own q k 0 i) m1)) (eL af [a]) ⟨0,[]⟩):mz P ν bA (under t key u) fid [a] ⟨nx,m⟩ K:=by
 refine y6 (σi:=[]) (m0:=[]) (cs:=[a]) (fun q=>aO t key u q) hmix hC rfl ?_ hnp rfl (fun _ _ h=>by cases h) (fun _ _ h=>by cases h) hw ?_
 ·intro i hi
  match i,hi with
  |0,_=>exact .inl ⟨rfl,ha⟩
 ·rintro d m2 ⟨rfl,rfl⟩;refine⟨[(q,nx)],q+1,_,.own nx k 0 i,⟨rfl, ?_,Nat.le_succ _,(fun _ _ h=>by cases h), ?_,(fun _ _ h=>by cases h), ?_⟩,.inr (.inl (by simp[rZ,Ep,kG])),hK⟩
  ·simp[eW]
  ·intro i l h;obtain⟨rfl,rfl⟩:=Prod.mk.inj (List.mem_singleton.1 h);exact .inr (Nat.le_refl _)
  ·intro l bb h;simp only[look]at h;split at h
   ·rename_i e;subst e;obtain rfl:=Option.some.inj h;exact .inl ⟨q,_,.head _,hl,rfl,.inl ⟨rfl,hes⟩⟩
   ·rename_i hn;exact .inr ⟨by simp only[jU,if_neg hn],(fun _ h=>by cases h),h⟩
end
end Go.Abs
end
namespace Go.Abs
def gA (l:List Int)(i:Int):Int:=if i<0∨(l.length:Int)≤i then 0 else l[i.toNat]!
def IE {v n:Int}(h:0<n)(h2:¬v.tmod n<0):v.tmod n=v%n:=by
 rw[Int.tmod_eq_emod];rw[Int.tmod_eq_emod]at h2;have h3:=Int.emod_nonneg v (show n≠0 by omega);have h4:=Int.emod_lt_of_pos v h;split at h2<;>split<;>first|omega|contradiction
def ID {v n:Int}(h:0<n)(h2:v.tmod n<0):v.tmod n+n=v%n:=by
 rw[Int.tmod_eq_emod]at h2⊢;have h3:=Int.emod_nonneg v (show n≠0 by omega);have h4:=Int.emod_lt_of_pos v h;have h5:(n.natAbs:Int)=n:=by omega
 split at h2<;>split<;>first|omega|contradiction
def de (l:List Int)(i n:Int):Int:=gA l i%n
def ct (l:List Int)(i n:Int)(h:0<n):0≤de l i n∧de l i n<n:=⟨Int.emod_nonneg _ (by omega),Int.emod_lt_of_pos _ h⟩
def ix (v n:Int)(h:0<n):0≤v%n∧v%n<n:=⟨Int.emod_nonneg _ (by omega),Int.emod_lt_of_pos _ h⟩
def pF {α:Type} [Inhabited α]{q:α→D}(xs:List α){j:Nat}(h:j<xs.length):cut (xs.map q) (j*1) 1 false=q xs[j]! :=by
 show(xs.map q).getD (j*1) .any=_;rw[Nat.mul_one];exact getD_map h
def AZ {α:Type} [Inhabited α]{q:α→D}(xs:List α){j n:Nat}(h:j<xs.length)(hn:(1==n)=false):mi (.agg (xs.map q)) n 1 (0+j*1) false=q xs[j]! :=by
 have hc:(D.agg (xs.map q)).cells=xs.map q:=by
  rfl
 unfold mi;rw[hn,hc,Nat.zero_add];exact pF xs h
def FN:List ah:=[[97,112,112],[98],[99],[100],[101,45,50]]
def cG (n:Int):ah:=FN[(n%5).toNat]!
def I8:List ah:=[[120],[121],[122],[119,95,49]]
def hO (n:Int):ah:=I8[(n%4).toNat]!
def Be:List Int:=[9,7,6,3,1,2]
def sj (l:List Int)(i:Int):bX:=⟨Be[(de l i 6).toNat]!,3,⟨de l (i+1) 3,de l (i+2) 2,0,[],[]⟩⟩
def mS (l:List Int)(i:Int):ah:=if(sj l i).op=9 then [42]else cW (sj l i)
def wc:List ah:=[[111,115],[97,114,99,104],[97,98,105]]
def CZ:List ah:=[[32,61,32],[32,33,61,32]]
def hE (l:List Int)(i:Int):ah:=if 2<de l i 6 then []else wc[(de l i 6).toNat]! ++CZ[(de l (i+1) 2).toNat]! ++hO (1+de l (i+1) 3)
def va:List ah:=[[120],[121]]
def kA (l:List Int)(i:Int)(alone:Bool):List ah:=if alone=true∧2<de l (i+5) 5 then va.take (de l (i+5) 5-2).toNat else []
def hH (l:List Int)(i own:Int)(alone:Bool):bp:=⟨cG (own+1+de l i 4),mS l (i+1),kA l i alone,decide (de l (i+4) 3=0)⟩
def dm (l:List Int)(i:Int):Nat:=if de l i 5=1 then 2 else 1
def oM (l:List Int)(i own:Int)(k:Nat):List bp:=(List.range k).map fun(k:Nat)=>hH l (i+1+6*(k:Nat)) own (decide ((dm l i:Int)=1))
def dU (l:List Int)(i own:Int):a7:=⟨oM l i own (dm l i),hE l (i+14),if de l (i+16) 4=1 then hO (gA l (i+17))else []⟩
def Db (l:List Int)(i own:Int)(k:Nat):oM l i own (k+1)=oM l i own k++[hH l (i+1+6*(k:Nat)) own (decide ((dm l i:Int)=1))]:=by
 unfold oM;rw[List.range_succ,List.map_append];rfl
def tS (l:List Int)(i:Int):dm l i≤2:=by
 unfold dm;split<;>omega
def iD (s:ah):List ah→Nat
 |[]=>0
 |a::r=>if Op.bytesLess a s=true then iD s r+1 else 0
def dQ (l:List ah)(s:ah):List ah:=if iD s l<l.length∧l[iD s l]! =s then l else l.take (iD s l)++[s]++l.drop (iD s l)
def xT (s:ah):∀l:List ah,iD s l≤l.length
 |[]=>Nat.le_refl _
 |a::r=>by
  have:=xT s r;simp only[iD,List.length_cons];split<;>omega
def xU (s:ah):∀(l:List ah)(i:Nat),i<iD s l→Op.bytesLess l[i]! s=true
 |[],i,h=>by simp[iD]at h
 |a::r,i,h=>by
  simp only[iD]at h;split at h
  ·rename_i ha;cases i with
   |zero=>simpa using ha
   |succ i=>simpa using xU s r i (by omega)
  ·omega
def rb (s:ah):∀l:List ah,iD s l<l.length→Op.bytesLess l[iD s l]! s=false
 |[],h=>by simp at h
 |a::r,h=>by
  simp only[iD]at h⊢;split
  ·rename_i ha;rw[if_pos ha]at h;simpa using rb s r (by simpa using h)
  ·rename_i ha;simpa using ha
def Az (n b:Int):Int:=IntKind.wrap .i64 (((BitVec.ofInt 64 (n.fdiv (2^(min b.toNat 64))))&&&(BitVec.ofInt 64 1)).toNat)
def jD:List ah:=[Jq,[120],[121],[122]]
def E9 (r:Rec)(n:Int)(of:List ah)(j:Nat):List ah:=if ¬r.needs[j]!.option=[]∧Az n (3+(j:Nat))=1 then dQ of ([63]++r.needs[j]!.option)else of
def Js (r:Rec)(n:Int)(of:List ah)(j:Nat):List ah:=if r.needs[j]!.any.length=1∧Az n (5+(j:Nat))=1 then dQ of (r.needs[j]!.any[0]!.name++[47]++[120])else of
def Jt (r:Rec)(n:Int)(of:List ah)(j:Nat):List ah:=Js r n (E9 r n of j) j
def lX (r:Rec)(n:Int)(j:Nat):List ah:=(List.range j).foldl (Jt r n) []
def HT (l:List Int)(i:Int)(n:Int)(k:Nat)(of:List ah):List ah:=if(k<3∧Az n 7=1)∧¬gA l (i+(k:Nat)+1)%3=0 then dQ of jD[k+1]! else of
def KD (l:List Int)(i:Int)(r:Rec)(k:Nat):Option bn:=if gA l (i+(k:Nat))%3=0 then none else some ⟨jD[k]!,HT l i (gA l (i+(k:Nat))) k (lX r (gA l (i+(k:Nat))) (min r.needs.length 2))⟩
def Fa (l:List Int)(i:Int)(r:Rec)(k:Nat):List bn:=(List.range k).filterMap (KD l i r)
def fq (l:List Int)(i:Int)(r:Rec):List bn:=Fa l i r 4
def kT (r:Rec)(n:Int)(j:Nat):lX r n (j+1)=Jt r n (lX r n j) j:=by
 unfold lX;rw[List.range_succ,List.foldl_append];rfl
def KE {l:List Int}{i:Int}{r:Rec}{k:Nat}(h:gA l (i+(k:Nat))%3=0):Fa l i r (k+1)=Fa l i r k:=by
 unfold Fa;rw[List.range_succ,List.filterMap_append];simp[KD,h]
def BT {l:List Int}{i:Int}{r:Rec}{k:Nat}{of:List ah}(h:¬gA l (i+(k:Nat))%3=0)(ho:HT l i (gA l (i+(k:Nat))) k (lX r (gA l (i+(k:Nat))) (min r.needs.length 2))=of):Fa l i r (k+1)=Fa l i r k++[⟨jD[k]!,of⟩]:=by
 unfold Fa;rw[List.range_succ,List.filterMap_append];simp[KD,h,ho]
def na (l:List ah)(s:ah):(dQ l s).length≤l.length+1:=by
 unfold dQ;split
 ·omega
 ·simp only[List.length_append,List.length_take,List.length_drop,List.length_cons,List.length_nil];omega
def HR (r:Rec)(n:Int)(of:List ah)(j:Nat):(E9 r n of j).length≤of.length+1:=by
 unfold E9;split
 ·exact na _ _
 ·omega
def HS (r:Rec)(n:Int)(of:List ah)(j:Nat):(Js r n of j).length≤of.length+1:=by
 unfold Js;split
 ·exact na _ _
 ·omega
def xy (r:Rec)(n:Int):∀j,(lX r n j).length≤2*j
 |0=>by simp[lX]
 |j+1=>by
  have h1:=xy r n j;have h2:=HR r n (lX r n j) j;have h3:=HS r n (E9 r n (lX r n j) j) j;rw[kT,Jt];omega
def jG (n:Int):(cG n).length≤3:=by
 obtain⟨h1,h2⟩:=ix n 5 (by decide);unfold cG;have:(n%5).toNat<5:=by omega
 revert this;generalize (n%5).toNat=k;revert k;decide
def qQ (n:Int):(hO n).length≤3:=by
 obtain⟨h1,h2⟩:=ix n 4 (by decide);unfold hO;have:(n%4).toNat<4:=by omega
 revert this;generalize (n%4).toNat=k;revert k;decide
def Dq (k:Nat)(h:k<3):(wc[k]!).length≤4:=by
 revert k;decide
def EZ (k:Nat)(h:k<2):(CZ[k]!).length≤4:=by
 revert k;decide
def HK (l:List Int)(i:Int):(sj l i).v.sm:=⟨by simp[sj],by simp[sj]⟩
end Go.Abs
section
namespace Go.Abs
open Go
def AX:aB:=⟨2,5,[⟨2,none⟩],cv,(sq (r1 [gm bD] 2 0) (sq (r1 [gm s0,gm s1,gn (.bin .rem l0 l1),gm l2] 3 3) (sq (sq (r1 [gm s3,aU l0 bD] 4 1) (.cond s4 (r1 [gm s3,gm s1,ar l0 l1,gm l2] 3 3) .skip)) (sq (r1 [gm s3,gm l0] 2 1) .ret))))⟩
def w478 {Γ:Ctx}(hm:(Γ.at 0).br)  (v:Int)(n:Int)  (hp0:0<n∧n≤9223372036854775807):eA Γ AX (.int .i64 (v%n)) [.int .i64 v,.int .i64 n]:=by
 show bB _ _ _ [⟨_,_⟩,⟨_,_⟩,_,_,_] _;refine ak ?_;refine aP ?_;refine Cg (v.tmod n) (hn:=by intro _;omega) (hb:=fun _=>rfl) ?_;have ht:=Bv v n (by omega);refine bg ?_;refine cN (fun hc0=>?_) fun hc0=>?_
 ·refine gR ?_;refine iH ?_;exact ID hp0.1 hc0
 refine aT ?_;refine iH ?_;exact IE hp0.1 hc0
def CF (Γ:Ctx):Prop:=∀(v:Int)(n:Int),(0<n∧n≤9223372036854775807)→Γ.pre 478 [.int .i64 v,.int .i64 n]∧Γ.val 478 [.int .i64 v,.int .i64 n]=.int .i64 (v%n)
def Ij:aB:=⟨2,4,[⟨2,none⟩],cv,(sq (r1 [gm bD] 2 0) (sq (sq (r1 [gm s1,aU l0 bD,gm l1,eV 2 s1,eV 2 s0,cu 2 (.len l4),cu 2 (yC l3 l5),fY l2 l6] 3 7) (.cond s3 (sq (r1 [gm bD] 2 0) .ret) .skip)) (sq (r1 [gm s0,gm s1,ga 1 l0 l1,gd l2,gm l3] 2 4) .ret)))⟩
def w479 {Γ:Ctx}(hm:(Γ.at 0).br)  (l:List Int)(i:Int)   :eA Γ Ij (.int .i64 (gA l i)) [.sl 1 (l.map (D.int .i64)),.int .i64 i]:=by
 show bB _ _ _ [⟨_,_⟩,⟨_,_⟩,_,_] _;refine ak ?_;refine dD ?_;refine nZ ?_;refine az ?_;refine cN (fun hc0=>?_) fun hc0=>?_
 ·refine aP ?_;refine iH ?_;simp only[gA];rw[if_pos hc0]
 refine aA ?_;refine Gv ?_;refine aA ?_;refine iH ?_;simp only[gA];rw[if_neg (by omega)]
def Hm (Γ:Ctx):Prop:=∀(l:List Int)(i:Int),Γ.pre 479 [.sl 1 (l.map (D.int .i64)),.int .i64 i]∧Γ.val 479 [.sl 1 (l.map (D.int .i64)),.int .i64 i]=.int .i64 (gA l i)
def Ds:aB:=⟨3,4,[⟨3,none⟩],cv,(sq (r1 [gm bD] 3 0) (sq (r1 [gm s0,gm s1,gx 479 [l0,l1] [[.sl 1 [.a]],[.a]],gm s2,gx 478 [l2,l3] je,gm l4] 3 5) .ret))⟩
def w228 {Γ:Ctx}(hm:(Γ.at 0).br)(h478:CF Γ)(h479:Hm Γ)(l:List Int)(i:Int)(n:Int)  (hp0:0<n∧n≤9223372036854775807):eA Γ Ds (.int .i64 (de l i n)) [.sl 1 (l.map (D.int .i64)),.int .i64 i,.int .i64 n]:=by
 show bB _ _ _ [⟨_,_⟩,⟨_,_⟩,⟨_,_⟩,_] _;refine ak ?_;refine aP ?_;refine aj (hc:=h479 l i) ?_;refine ax ?_;refine aj (hc:=h478 _ n hp0) ?_;refine az ?_;exact iH rfl
def CE (Γ:Ctx):Prop:=∀(l:List Int)(i:Int)(n:Int),(0<n∧n≤9223372036854775807)→Γ.pre 228 [.sl 1 (l.map (D.int .i64)),.int .i64 i,.int .i64 n]∧Γ.val 228 [.sl 1 (l.map (D.int .i64)),.int .i64 i,.int .i64 n]=.int .i64 (de l i n)
def Dt:aB:=⟨1,2,kM,cv,(sq (r1 [gm cse] 1 0) (sq (r1 [gn (.build [.str [],.str [],.str [],.str [],.str []] [(0,1,(cs [97,112,112])),(1,1,(cs [98])),(2,1,(cs [99])),(3,1,(cs [100])),(4,1,(cs [101,45,50]))]),gm s0,gx 478 [l1,BY] je,gn (.ixA 5 1 false l0 l2),gm l3] 1 4) .ret))⟩
def w227 {Γ:Ctx}(hm:(Γ.at 0).br)(h478:CF Γ)(n:Int)   :eA Γ Dt (.str (cG n)) [.int .i64 n]:=by
 show bB _ _ _ [⟨_,_⟩,_] _;refine ak ?_;refine az ?_;have hr:=ix n 5 (by decide);refine fe (FN.map D.str) ?_;refine ax ?_;refine aj (hc:=h478 n 5 (by decide)) ?_;refine Cf (n%5).toNat (.str FN[(n%5).toNat]!) (hj:=fun _=>by omega) (hb:=fun _=>by omega) (hv:=fun _=>pF FN (by show _<5;omega)) ?_;refine az ?_;exact cz rfl
def JU (Γ:Ctx):Prop:=∀(n:Int),Γ.pre 227 [.int .i64 n]∧Γ.val 227 [.int .i64 n]=.str (cG n)
def Dx:aB:=⟨1,2,kM,cv,(sq (r1 [gm cse] 1 0) (sq (r1 [gn (.build [.str [],.str [],.str [],.str []] [(0,1,(cs [120])),(1,1,(cs [121])),(2,1,(cs [122])),(3,1,(cs [119,95,49]))]),gm s0,gx 478 [l1,vc] je,gn (.ixA 4 1 false l0 l2),gm l3] 1 4) .ret))⟩
def w481 {Γ:Ctx}(hm:(Γ.at 0).br)(h478:CF Γ)(n:Int)   :eA Γ Dx (.str (hO n)) [.int .i64 n]:=by
 show bB _ _ _ [⟨_,_⟩,_] _;refine ak ?_;refine az ?_;have hr:=ix n 4 (by decide);refine fe (I8.map D.str) ?_;refine ax ?_;refine aj (hc:=h478 n 4 (by decide)) ?_;refine Cf (n%4).toNat (.str I8[(n%4).toNat]!) (hj:=fun _=>by omega) (hb:=fun _=>by omega) (hv:=fun _=>pF I8 (by show _<4;omega)) ?_;refine az ?_;exact cz rfl
def J3 (Γ:Ctx):Prop:=∀(n:Int),Γ.pre 481 [.int .i64 n]∧Γ.val 481 [.int .i64 n]=.str (hO n)
def Fz:aB:=⟨2,6,[⟨2,none⟩],cv,(sq (r1 [gm cse] 2 0) (sq (r1 [gn (.build [.int .i64 0,.int .i64 0,.int .i64 0,.int .i64 0,.int .i64 0,.int .i64 0] [(0,1,BZ),(1,1,KM),(2,1,AS),(3,1,kL),(4,1,ca),(5,1,kB)]),gb 6 (.c (.agg [.int .i64 0,.int .i64 0,.int .i64 0,.int .i64 0,.int .i64 0,.int .i64 0])),gt 6 l1 l0] 3 1) (sq (r2 [gm s0,gm s1,gx 228 [l0,l1,AS] [[.sl 1 [.a]],[.a],[.a]],gn (.iaP 6 1 s3 l2),gd l3,gm s0,gm s1,ar l6 ca,gx 228 [l5,l7,kL] [[.sl 1 [.a]],[.a],[.a]],gm s0,gm s1,ar l10 kB,gx 228 [l9,ki,kB] [[.sl 1 [.a]],[.a],[.a]],gn (.build [.int .i64 0,.int .i64 0,.int .i64 0,.str [],.str []] [(0,1,l8),(1,1,ma)]),gn (.build [.int .i64 0,.int .i64 0,.int .i64 0,.int .i64 0,.int .i64 0,.str [],.str []] [(0,1,l4),(1,1,kL),(2,5,n7)]),gb 7 (.c (.agg [.int .i64 0,.int .i64 0,.int .i64 0,.int .i64 0,.int .i64 0,.str [],.str []])),gt 7 pV oR] 4 15) (sq (sq (r1 [gf 0 s4,gd l0,aE l1 BZ] 5 2) (.cond s5 (sq (r1 [gm (cs [42])] 2 0) .ret) .skip)) (sq (r1 [gk 7 true s4,gx 482 [l0] KJ,gm l1] 2 2) .ret)))))⟩
def w230 {Γ:Ctx}(hm:(Γ.at 0).br)(h228:CE Γ)(h482:Mx Γ)(l:List Int)(i:Int)  (hp0:0≤i∧i≤4000000):eA Γ Fz (.str (mS l i)) [.sl 1 (l.map (D.int .i64)),.int .i64 i]:=by
 show bB _ _ _ [⟨_,_⟩,⟨_,_⟩,_,_,_,_] _;refine ak ?_;refine az ?_;refine fe (Be.map (D.int .i64)) ?_;refine ax ?_;refine aI (.agg (Be.map (D.int .i64))) (he:=by exact rfl) ?_;refine ay ?_;have hr:=ct l i 6 (by decide);refine ay ?_;refine aj (hc:=h228 l (i) 6 (by decide)) ?_;refine xX (de l i 6).toNat (hj:=fun _=>by omega) (hb:=fun _=>by omega) ?_;refine cy (v:=.int .i64 Be[(de l i 6).toNat]!) (hv:=fun _=>AZ Be (by show _<6;omega) rfl) (ho:=by omega) ?_;refine az ?_;refine aj (hc:=h228 l (i+1) 3 (by decide)) ?_;refine az ?_;refine aj (hc:=h228 l (i+2) 2 (by decide)) ?_;refine bx (dt.D (sj l i).v) ?_;refine bx (bX.D (sj l i)) ?_;refine ax ?_;refine aI (bX.D (sj l i)) (he:=by exact rfl) ?_;refine aA ?_;refine cy (v:=.int .i64 (sj l i).op) ?_;refine ay ?_;refine cN (fun hc0=>?_) fun hc0=>?_
 ·refine aP ?_;refine cz ?_;unfold mS;rw[if_pos hc0]
 refine ay ?_;refine cS (d:=bX.D (sj l i)) ?_;refine aj (hc:=h482 (sj l i) (HK l i)) ?_;refine az ?_;refine cz ?_;unfold mS;rw[if_neg hc0]
def JV (Γ:Ctx):Prop:=∀(l:List Int)(i:Int),(0≤i∧i≤4000000)→Γ.pre 230 [.sl 1 (l.map (D.int .i64)),.int .i64 i]∧Γ.val 230 [.sl 1 (l.map (D.int .i64)),.int .i64 i]=.str (mS l i)
def Dv:aB:=⟨2,5,[⟨2,none⟩],cv,(sq (r1 [gm cse] 2 0) (sq (r1 [gm s0,gm s1,gx 228 [l0,l1,AS] [[.sl 1 [.a]],[.a],[.a]],gm l2] 3 3) (sq (sq (r1 [gm s3,dA l0 kB] 4 1) (.cond s4 (sq (r1 [gm cse] 2 0) .ret) .skip)) (sq (r2 [gn (.build [.str [],.str [],.str []] [(0,1,(cs [111,115])),(1,1,(cs [97,114,99,104])),(2,1,(cs [97,98,105]))]),gm s3,gn (.ixA 3 1 false l0 l1),gn (.build [.str [],.str []] [(0,1,(cs [32,61,32])),(1,1,(cs [32,33,61,32]))]),gm s0,gm s1,ar l5 ca,gx 228 [l4,l6,kB] [[.sl 1 [.a]],[.a],[.a]],gn (.ixA 2 1 false l3 l7),ar l2 l8,gm s0,gm s1,ar ki ca,gx 228 [l10,ma,kL] [[.sl 1 [.a]],[.a],[.a]],ar ca n7,gx 481 [oR] cv,ar l9 pV,gm su] 2 17) .ret))))⟩
def w231 {Γ:Ctx}(hm:(Γ.at 0).br)(h228:CE Γ)(h481:J3 Γ)(l:List Int)(i:Int)  (hp0:0≤i∧i≤4000000):eA Γ Dv (.str (hE l i)) [.sl 1 (l.map (D.int .i64)),.int .i64 i]:=by
 show bB _ _ _ [⟨_,_⟩,⟨_,_⟩,_,_,_] _;refine ak ?_;refine aP ?_;refine aj (hc:=h228 l (i) 6 (by decide)) ?_;refine bg ?_;refine aq (fun hc0=>?_) (fun hc0=>?_)
 ·try simp only[ik]at hc0
  refine aP ?_;refine cz ?_;unfold hE;rw[if_pos hc0]
 simp only[decide_eq_false_iff_not]at hc0;have hr:=ct l i 6 (by decide);have hr2:=ct l (i+1) 2 (by decide);have hr3:=ct l (i+1) 3 (by decide);have hw:=qQ (1+de l (i+1) 3);have hk:=Dq (de l i 6).toNat (by omega);have he:=EZ (de l (i+1) 2).toNat (by omega);refine ay ?_;refine fe (wc.map D.str) ?_;refine ax ?_;refine Cf (de l i 6).toNat (.str wc[(de l i 6).toNat]!) (hj:=fun _=>by omega) (hb:=fun _=>by omega) (hv:=fun _=>pF wc (by show _<3;omega)) ?_;refine fe (CZ.map D.str) ?_;refine az ?_;refine aj (hc:=h228 l (i+1) 2 (by decide)) ?_;refine Cf (de l (i+1) 2).toNat (.str CZ[(de l (i+1) 2).toNat]!) (hj:=fun _=>by omega) (hb:=fun _=>by omega) (hv:=fun _=>pF CZ (by show _<2;omega)) ?_;refine dc (hb:=fun _=>by omega) ?_;refine az ?_;refine aj (hc:=h228 l (i+1) 3 (by decide)) ?_;refine ax ?_;refine aj (hc:=h481 _) ?_;refine dc (hb:=fun _=>by simp only[List.length_append];omega) ?_;refine az ?_;refine cz ?_;unfold hE;rw[if_neg hc0]
def JW (Γ:Ctx):Prop:=∀(l:List Int)(i:Int),(0≤i∧i≤4000000)→Γ.pre 231 [.sl 1 (l.map (D.int .i64)),.int .i64 i]∧Γ.val 231 [.sl 1 (l.map (D.int .i64)),.int .i64 i]=.str (hE l i)
end Go.Abs
end
section
namespace Go.Abs
open Go
def Dw:aB:=⟨4,8,[⟨4,some (4,true)⟩],[[.a,.a,.sl 1 [.a],.a]],(sq (r1 [gb 4 (.c (.agg [.str [],.str [],.av,.bool false]))] 4 0) (sq (r1 [gm s2,ar l0 ca,gm s0,gm s1,gx 228 [l2,l3,vc] [[.sl 1 [.a]],[.a],[.a]],ar l1 l4,gx 227 [l5] cv,gm s0,gm s1,ar l8 ca,gx 230 [l7,l9] [[.sl 1 [.a]],[.a]],gm s0,gm s1,ar ma vc,gx 228 [ki,n7,kL] [[.sl 1 [.a]],[.a],[.a]],aE oR bD,gn (.build [.str [],.str [],.av,.bool false] [(0,1,l6),(1,1,l10),(3,1,pV)]),gb 4 (.c (.agg [.str [],.str [],.av,.bool false])),gt 4 xJ su] 7 17) (sq (sq (r1 [gm s0,gm s1,ar l1 BY,gx 228 [l0,l2,BY] [[.sl 1 [.a]],[.a],[.a]],gm l3] 5 4) (sq (r1 [gm s3,gm l0,gmt 1 s5,cJ 1 (dw l2 kB),hX l1 l3] 6 4) (.cond s6 (rg [gn (.bsl 1 (.str []) 2 [(0,(cs [120])),(1,(cs [121]))]),gm s5,fO l1 kB,gn (.slA 1 l0 none (some l2)),gf 2 s7,gt 1 l4 l3] []) .skip))) (sq (rg [gk 4 true s7,gt 4 s4 l0] []) .ret))))⟩
def w480 {Γ:Ctx}(hm:(Γ.at 0).br)(h227:JU Γ)(h228:CE Γ)(h230:JV Γ)(l:List Int)(i:Int)(own:Int)(alone:Bool)  (hp0:0≤i∧i≤3000000)(hp1:0≤own∧own≤1000000):eA Γ Dw (bp.D (hH l i own alone)) [.sl 1 (l.map (D.int .i64)),.int .i64 i,.int .i64 own,.bool alone]:=by
 show bB _ _ _ [⟨_,_⟩,⟨_,_⟩,⟨_,_⟩,⟨_,_⟩,_,_,_,_] _;refine ak ?_;refine az ?_;have hr:=ct l i 4 (by decide);refine aA ?_;refine aj (hc:=h228 l (i) 4 (by decide)) ?_;refine ax ?_;refine aj (hc:=h227 (own+1+de l i 4)) ?_;refine az ?_;refine aj (hc:=h230 l (i+1) (by omega)) ?_;refine az ?_;refine aj (hc:=h228 l (i+4) 3 (by decide)) ?_;refine ax ?_;refine bx (.agg [.str (cG (own+1+de l i 4)),.str (mS l (i+1)),.av,.bool (decide (de l (i+4) 3=0))]) ?_;refine ax ?_;refine aI (.agg [.str (cG (own+1+de l i 4)),.str (mS l (i+1)),.av,.bool (decide (de l (i+4) 3=0))]) (he:=by exact rfl) ?_;refine aT ?_;refine aj (hc:=h228 l (i+5) 5 (by decide)) ?_;refine aA ?_;have hr5:=ct l (i+5) 5 (by decide);refine aT ?_;refine cN (fun hc0=>?_) fun hc0=>?_
 ·refine ax ?_;refine cx (va.map D.str) ?_;refine ay ?_;refine zw (de l (i+5) 5-2).toNat (hj:=fun _=>by omega) (hb:=fun _=>by omega) ?_;refine ax ?_;refine aI (.agg [.str (cG (own+1+de l i 4)),.str (mS l (i+1)),(.own 30 1 0 (de l (i+5) 5-2).toNat),.bool (decide (de l (i+4) 3=0))]) (he:=by exact rfl) ?_;refine ax ?_;have hk:(de l (i+5) 5-2).toNat≤va.length:=by show _≤2;omega
  refine eB 30 ?_ (he:=by simp only[lY,gU,kK,mQ,oL,bN,Nat.reduceEqDiff,if_true,if_false,and_self,true_and,and_true,false_and,and_false,Nat.zero_add,List.length_map,Nat.le_refl,List.drop_zero,aJ,reduceCtorEq,List.length_cons,List.length_nil,Nat.reduceAdd,Nat.reduceLeDiff,hk,←List.map_take];exact rfl) (hm:=by simp only[lY,gU,kK,mQ,oL,bN,Nat.reduceEqDiff,if_true,if_false,and_self,true_and,and_true,false_and,and_false,Nat.zero_add,List.length_map,Nat.le_refl,List.drop_zero,aJ,reduceCtorEq,List.length_cons,List.length_nil,Nat.reduceAdd,Nat.reduceLeDiff,hk,←List.map_take];exact rfl);refine ax ?_;refine cS (d:=(.agg [.str (cG (own+1+de l i 4)),.str (mS l (i+1)),(.sl 1 ((va.take (de l (i+5) 5-2).toNat).map D.str)),.bool (decide (de l (i+4) 3=0))])) ?_;refine aI (.agg [.str (cG (own+1+de l i 4)),.str (mS l (i+1)),(.sl 1 ((va.take (de l (i+5) 5-2).toNat).map D.str)),.bool (decide (de l (i+4) 3=0))]) (he:=by exact rfl) ?_;refine ay ?_;refine cd (?_);simp only[bp.D,hH,kA];rw[if_pos hc0];rfl
 refine ax ?_;have hf:kA l i alone=[]:=if_neg (by rintro⟨h1,h2⟩;rcases hc0 with h|h;rw[h]at h1;cases h1;exact h h2);refine mc [(0,.buf 4 [.agg [.str [],.str [],.av,.bool false]]),(18,.buf 4 [bp.D (hH l i own alone)])] (.id ae (.bf ae (.cons (by simp only[bp.D,hH,hf];exact .ag (.cons (.refl _) (.cons (.refl _) (.cons (.nil 1) (.cons (.refl _) .nil))))) .nil) .nil)) ?_;refine ax ?_;refine cS (d:=(bp.D (hH l i own alone))) ?_;refine aI (bp.D (hH l i own alone)) (he:=by exact rfl) ?_;refine ay ?_;refine cd (?_);rfl
def Mw (Γ:Ctx):Prop:=∀(l:List Int)(i:Int)(own:Int)(alone:Bool),(0≤i∧i≤3000000)→(0≤own∧own≤1000000)→Γ.pre 480 [.sl 1 (l.map (D.int .i64)),.int .i64 i,.int .i64 own,.bool alone]∧Γ.val 480 [.sl 1 (l.map (D.int .i64)),.int .i64 i,.int .i64 own,.bool alone]=bp.D (hH l i own alone)
end Go.Abs
end
section
namespace Go.Abs
open Go
def Du:aB:=⟨3,10,[⟨3,some (3,true)⟩],[[.sl 4 [.a,.a,.sl 1 [.a],.a],.a,.a]],(sq (r1 [gb 3 (.c (.agg [.av,.str [],.str []]))] 3 0) (sq (r1 [gb 3 (.c (.agg [.av,.str [],.str []]))] 8 0) (sq (r1 [gm ca] 6 0) (sq (sq (r1 [gm s0,gm s1,gx 228 [l0,l1,BY] [[.sl 1 [.a]],[.a],[.a]],aE l2 ca] 4 3) (.cond s4 (r1 [gm kB] 6 0) .skip)) (sq (sq (r1 [gm bD] 5 0) (.block 0 (.loop (sq (sq (r1 [gm s5,gm s6,aU l0 l1] 7 2) (js s7 0)) (sq (.block 1 (rt [gf 0 s8,gd l0,gm s0,gm s1,ar l3 ca,gm s5,gn (.bin .mul AS l5),ar l4 l6,gm s2,gm s6,aE l9 ca,gx 480 [l2,l7,l8,l10] [[.sl 1 [.a]],[.a],[.a],[.a]],gn (.bsl 4 (.agg [.str [],.str [],.av,.bool false]) 1 [(0,ki)]),gn (.app 4 l1 ma),gf 0 s8,gt 1 oR n7] [])) (r1 [gm s5,ar l0 ca,gm l1] 5 2)))))) (sq (rg [gm s0,gm s1,ar l1 (i6 14),gx 231 [l0,l2] [[.sl 1 [.a]],[.a]],gf 1 s8,gt 1 l4 l3] []) (sq (sq (r1 [gm s0,gm s1,ar l1 (i6 16),gx 228 [l0,l2,vc] [[.sl 1 [.a]],[.a],[.a]],aE l3 ca] 9 4) (.cond s9 (rg [gm s0,gm s1,ar l1 (i6 17),gx 479 [l0,l2] [[.sl 1 [.a]],[.a]],gx 481 [l3] cv,gf 2 s8,gt 1 l5 l4] []) .skip)) (sq (rg [gk 3 true s8,gt 3 s3 l0] []) .ret))))))))⟩
def w229 {Γ:Ctx}(hm:(Γ.at 0).br)(h228:CE Γ)(h231:JW Γ)(h479:Hm Γ)(h480:Mw Γ)(h481:J3 Γ)(l:List Int)(i:Int)(own:Int)  (hp0:0≤i∧i≤2000000)(hp1:0≤own∧own≤1000000):eA Γ Du (a7.D (dU l i own)) [.sl 1 (l.map (D.int .i64)),.int .i64 i,.int .i64 own]:=by
 show bB _ _ _ [⟨_,_⟩,⟨_,_⟩,⟨_,_⟩,_,_,_,_,_,_,_] _;refine ak ?_;refine gS ?_;refine aj (hc:=h228 l (i) 5 (by decide)) ?_;refine ay ?_;refine po hm (ι:=Unit) (fun _=>[⟨true,.sl 1 (l.map (D.int .i64))⟩,⟨true,.int .i64 i⟩,⟨true,.int .i64 own⟩,⟨true,.ptr 0 3 0 0⟩,.un,.un,⟨true,.int .i64 (dm l i:Nat)⟩,.un,⟨true,.ptr 1 3 0 0⟩,.un]) (fun _=>[(0,.buf 3 [.agg [.av,.str [],.str []]]),(1,.buf 3 [.agg [.av,.str [],.str []]])]) 20 (fun _=>True) ?_ ?_
 ·refine gC (fun hc0=>?_) fun hc0=>?_
  ·refine aA ?_;have hmn:((dm l i:Nat):Int)=2:=by simp[dm,hc0]
   exact⟨(),trivial,(aN.to [(0,0),(1,1)] ae ae (by repeat(first|exact c8.nil|refine c8.un ?_|refine c8.eq ae ?_|refine c8.nl (congrArg (D.int .i64) hmn) ae ?_)) zu)⟩
  refine ay ?_;have hmn:((dm l i:Nat):Int)=1:=by simp[dm,hc0]
  exact⟨(),trivial,(aN.to [(0,0),(1,1)] ae ae (by repeat(first|exact c8.nil|refine c8.un ?_|refine c8.eq ae ?_|refine c8.nl (congrArg (D.int .i64) hmn) ae ?_)) zu)⟩
 ·rintro _-
  have hml:=tS l i;refine aA ?_;refine bt hm (ι:=(Nat×List bp)) (fun p=>[⟨true,.sl 1 (l.map (D.int .i64))⟩,⟨true,.int .i64 i⟩,⟨true,.int .i64 own⟩,⟨true,.ptr 0 3 0 0⟩,.un,⟨true,.int .i64 (p.1:Nat)⟩,⟨true,.int .i64 (dm l i:Nat)⟩,.un,⟨true,.ptr 1 3 0 0⟩,.un]) (fun p=>[(0,.buf 3 [.agg [.av,.str [],.str []]]),(1,.buf 3 [(.agg [.own 2 4 0 p.2.length,.str [],.str []])]),(2,.buf 4 (p.2.map bp.D))]) 40 (fun p=>p.1≤dm l i∧p.2=oM l i own p.1) (fun p=>dm l i-p.1) (0,[]) ⟨by dsimp only;omega,rfl⟩ (aN.to [(0,0),(1,1)] ae ae lP (by(first|refine aC.df ae ae bV ?_|refine aC.mw ae ae ae ?_|refine aC.qk ae ae ae ae ?_);refine aC.ni 1 ae ae (by exact⟨_,_,rfl,⟨_,rfl,⟨_,_,rfl,Or.inr ⟨_,_,_,rfl⟩,⟨_,_,rfl,⟨rfl,rfl⟩,⟨_,_,rfl,⟨rfl,rfl⟩,rfl⟩⟩⟩⟩,rfl⟩) ?_;refine aC.mt ae ae ae ae ?_;exact aC.nil)) ?_;rintro⟨k,ws⟩ ⟨hk,hw⟩;dsimp only at hk hw⊢;have hwl:ws.length=k:=by rw[hw];simp[oM]
  refine aT ?_;refine aq (fun hc1=>?_) (fun hc1=>?_)
  ·try simp only[ik]at hc1
   refine dD ?_;refine sZ ?_;refine aA ?_;refine aj (hc:=h480 l (i+1+6*(k:Nat)) own (decide ((dm l i:Int)=1)) (by omega) hp1) ?_;refine cx [bp.D (hH l (i+1+6*(k:Nat)) own (decide ((dm l i:Int)=1)))] ?_;refine jl (q:=bp.D) (xs:=ws) (e:=hH l (i+1+6*(k:Nat)) own (decide ((dm l i:Int)=1))) ?_;refine ax ?_;refine aI (.agg [.own 56 4 0 (ws++[hH l (i+1+6*(k:Nat)) own (decide ((dm l i:Int)=1))]).length,.str [],.str []]) (he:=by exact rfl) ?_;refine b6 ?_;exact⟨(k+1,ws++[hH l (i+1+6*(k:Nat)) own (decide ((dm l i:Int)=1))]),⟨by dsimp only;omega,by dsimp only;rw[Db,hw]⟩,by dsimp only;omega,(aN.to [(0,0),(1,1),(56,2)] ae ae lP (by(first|refine aC.df ae ae bV ?_|refine aC.mw ae ae ae ?_|refine aC.qk ae ae ae ae ?_);refine aC.mw ae ae ae ?_;refine aC.nl 56 ae ae rfl (bq (fun _=>rfl) _) ?_;exact aC.nil))⟩
  simp only[decide_eq_false_iff_not]at hc1;obtain rfl:k=dm l i:=by omega
  refine aT ?_;refine aj (hc:=h231 l (i+14) (by omega)) ?_;refine ax ?_;refine aI (.agg [.own 2 4 0 ws.length,.str (hE l (i+14)),.str []]) (he:=by exact rfl) ?_;refine aT ?_;refine aj (hc:=h228 l (i+16) 4 (by decide)) ?_;refine ay ?_;refine cN (fun hc2=>?_) fun hc2=>?_
  ·refine aA ?_;refine aj (hc:=h479 l (i+17)) ?_;refine aj (hc:=h481 _) ?_;refine ax ?_;refine aI (.agg [.own 2 4 0 ws.length,.str (hE l (i+14)),.str (hO (gA l (i+17)))]) (he:=by exact rfl) ?_;refine ax ?_;refine eB 2 ?_;refine ax ?_;refine cS (d:=(.agg [.sl 4 (ws.map bp.D),.str (hE l (i+14)),.str (hO (gA l (i+17)))])) ?_;refine aI (.agg [.sl 4 (ws.map bp.D),.str (hE l (i+14)),.str (hO (gA l (i+17)))]) (he:=by exact rfl) ?_;refine ay ?_;refine cd (?_);simp only[a7.D,dU];rw[if_pos hc2,←hw];rfl
  refine ax ?_;refine eB 2 ?_;refine ax ?_;refine cS (d:=(.agg [.sl 4 (ws.map bp.D),.str (hE l (i+14)),.str []])) ?_;refine aI (.agg [.sl 4 (ws.map bp.D),.str (hE l (i+14)),.str []]) (he:=by exact rfl) ?_;refine ay ?_;refine cd (?_);simp only[a7.D,dU];rw[if_neg hc2,←hw];rfl
def Mb (Γ:Ctx):Prop:=∀(l:List Int)(i:Int)(own:Int),(0≤i∧i≤2000000)→(0≤own∧own≤1000000)→Γ.pre 229 [.sl 1 (l.map (D.int .i64)),.int .i64 i,.int .i64 own]∧Γ.val 229 [.sl 1 (l.map (D.int .i64)),.int .i64 i,.int .i64 own]=a7.D (dU l i own)
end Go.Abs
end
section
namespace Go.Abs
open Go
def FA:aB:=⟨2,6,[⟨2,none⟩],[[.sl 1 [.a]]],(sq (r1 [gm (.c (.av))] 2 0) (sq (r1 [gm bD] 3 0) (sq (.block 0 (.loop (sq (sq (r1 [gm s3,gm s0,gl l1,aU l0 l2,gm l3,gmt 4 s0,gmt 4 s3,cJ 4 (.ia 1 l5 l6),qj 4 l7,gmt 4 s1,cJ 4 (py l8 l9),hX l4 l10] 4 11) (js s4 0)) (.block 1 (r1 [gm s3,ar l0 ca,gm l1] 3 2))))) (sq (sq (r1 [gm s3,gm s0,gl l1,aU l0 l2,gm l3,gmt 4 s0,gmt 4 s3,cJ 4 (.ia 1 l5 l6),qj 4 l7,gmt 4 s1,cJ 4 (cR l8 l9),hX l4 l10] 5 11) (.cond s5 (sq (r1 [gm s0,gm l0] 2 1) .ret) .skip)) (sq (r2 [gm s0,gm s3,gn (.slA 1 l0 none (some l1)),gn (.appN 1 l2),gm s1,gn (.bsl 1 (.str []) 1 [(0,l4)]),gn (.app 1 l3 l5),gm s0,gm s3,gn (.slA 1 l7 (some l8) none),gn (.app 1 l6 l9),gm l10] 2 11) .ret)))))⟩
def w483 {Γ:Ctx}(hm:(Γ.at 0).br)  (l:List ah)(s:ah)  (hp0:l.length≤1000):eA Γ FA (.sl 1 ((dQ l s).map D.str)) [.sl 1 (l.map D.str),.str s]:=by
 show bB _ _ _ [⟨_,_⟩,⟨_,_⟩,_,_,_,_] _;refine ak ?_;refine aP ?_;refine bt hm (ι:=Nat) (fun i=>[⟨true,.sl 1 (l.map D.str)⟩,⟨true,.str s⟩,.un,⟨true,.int .i64 (i:Nat)⟩,.un,.un]) (fun i=>[]) 2 (fun i=>i≤iD s l) (fun i=>l.length-i) 0 (Nat.zero_le _) (eC []) ?_;rintro i hi;have hpl:=xT s l;refine aP ?_;intro u0;refine aA ?_;refine cH i ?_;refine cj (v:=.str l[i]!) ?_;refine aA ?_;refine aq (fun hc0=>?_) (fun hc0=>?_)
 ·simp only[Bool.and_eq_true,decide_eq_true_eq]at hc0;have hip:i+1≤iD s l:=by
   by_cases he:i=iD s l
   ·have h1:=rb s l (by omega);rw[←he,hc0.2]at h1;cases h1
   ·omega
  refine dD ?_;exact⟨i+1,(by omega),by omega,(eC [])⟩
 simp only[Bool.and_eq_false_iff,decide_eq_false_iff_not]at hc0;obtain rfl:i=iD s l:=by
  by_cases he:i<iD s l
  ·have h1:=xU s l i he;rcases hc0 with h|h
   ·omega
   ·rw[h1]at h;cases h
  ·omega
 refine bg ?_;intro u1;refine aA ?_;refine cH (iD s l) ?_;refine cj (v:=.str l[iD s l]!) ?_;refine aA ?_;refine cN (fun hc1=>?_) fun hc1=>?_
 ·refine aT ?_;refine cd (?_);rw[dQ,if_pos ⟨by omega,hc1.2⟩];rfl
 refine aA ?_;refine uF (iD s l) ?_;refine IJ (he:=sc.sl) (n:=(l.take (iD s l)).length) (hn:=by simp) (hb:=by simp only[List.length_take];omega) ?_;refine ax ?_;refine cx [.str s] ?_;refine jl (q:=D.str) (xs:=l.take (iD s l)) (e:=s) (hb:=by simp only[List.length_take];omega) ?_;refine ay ?_;refine uG (iD s l) ?_;refine Lc (xs:=l.take (iD s l)++[s]) (ys:=l.drop (iD s l)) (he:=sc.sl) (hb:=by simp only[List.length_append,List.length_take,List.length_drop,List.length_cons,List.length_nil];omega) ?_;refine ay ?_;refine eB 36 ?_;refine ax ?_;refine cd (?_);rw[dQ,if_neg (by rintro⟨h1,h2⟩;rcases hc1 with h|h;omega;exact h h2)];rfl
def My (Γ:Ctx):Prop:=∀(l:List ah)(s:ah),(l.length≤1000)→Γ.pre 483 [.sl 1 (l.map D.str),.str s]∧Γ.val 483 [.sl 1 (l.map D.str),.str s]=.sl 1 ((dQ l s).map D.str)
end Go.Abs
end
