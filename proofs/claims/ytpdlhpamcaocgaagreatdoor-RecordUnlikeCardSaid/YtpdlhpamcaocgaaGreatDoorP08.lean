/- A part of the proofs of the statements: RSpec15, X13, X14, RSpec16, X15, RSpec17, W1, W4, X16, RSpec18, Y1, RSpec19, LAsmS, LInj, Y2, Y3, RSpec20, Y4, RSpec21, LAsmT, RGen1, G1, G2, G3, G4. -/
import Derived.Test.YtpdlhpamcaocgaaGreatDoorP07
set_option linter.all false
set_option maxRecDepth 4000
namespace Go.Abs
def Ld.yc {r:Ld}(h:r.sm):r.to r.rest=r:=by
 obtain⟨ls,n⟩:=r;have h1:n≤ls.length:=h.1.1;simp only[Ld.to,Ld.rest,List.length_drop,Ld.mk.injEq,true_and];omega
def Ld.tf {r:Ld}{q:List ah}(h:q<:+r.ls):(r.to q).rest=q:=by
 obtain⟨ls,n⟩:=r;obtain⟨a,e⟩:=h;simp only at e;subst e;simp[Ld.rest,Ld.to]
def Ld.sm.to {r:Ld}(h:r.sm)(q:List ah):(r.to q).sm:=⟨⟨Nat.sub_le _ _,h.1.2⟩,h.2⟩
def Ld.uJ (r:Ld):r.rest<:+r.ls:=List.drop_suffix _ _
def cD (w:ah)(n:Nat)(op:Bool)(p:List ah):List ah:=match bg w n op p with
 |some (_,q)=>q
 |none=>p
def kV {w:ah}{n:Nat}{op:Bool}{p l q:List ah}(h:bg w n op p=some (l,q)):q<:+p:=by
 obtain⟨t,rfl,_⟩:=dn h;exact List.suffix_cons _ _
def Ld.yu {r:Ld}{p:List ah}(hp:p<:+r.ls){w:ah}{n:Nat}{op:Bool}:(r.to p).after (bg w n op p)=r.to (cD w n op p):=by
 unfold cD;cases h:bg w n op p with
 |none=>rfl
 |some lq=>
  obtain⟨l,q⟩:=lq;have:=ib h;have:=hp.length_le;simp only[Ld.after,Ld.to,Ld.mk.injEq,true_and];omega
def sX {Γ:Ctx}(h:G9 Γ){r:Ld}(hr:r.sm){p:List ah}(hp:p<:+r.ls){w:ah}{n:Nat}{op:Bool}(hn:n≤1000)(ho:op=true→1≤n):
  Γ.fp 465 (Ld.D (r.to p)) [.str w,.int .i64 (n:Nat),.bool op]∧Γ.fv 465 (Ld.D (r.to p)) [.str w,.int .i64 (n:Nat),.bool op]=.tup [vw (bg w n op p),.bool (bg w n op p).isSome]∧Γ.fs 465 (Ld.D (r.to p)) [.str w,.int .i64 (n:Nat),.bool op]=Ld.D (r.to (cD w n op p)):=by
 have:=h (r.to p) w n op (hr.to p) hn ho;rw[Ld.tf hp,Ld.yu hp]at this;exact this
def qU {w:ah}{n:Nat}{op:Bool}{t:ah}{l:List ah}(h:eE w n op t=some l):(n=0∨l.length=n)∧[]∉l∧l=cl n op t:=by
 unfold eE at h;split at h
 ·rename_i hc;obtain rfl:=Option.some.inj h;exact⟨hc.2.1,hc.2.2,rfl⟩
 ·cases h
def mY (x:UInt8):∀(l:List ah)(n:Nat),(aG [x] (l.drop n)).length≤(aG [x] l).length
 |[],n=>by simp
 |a::r,0=>Nat.le_refl _
 |[a],n+1=>by simp[aG]
 |a::b::r,n+1=>by
  have:=mY x (b::r) n;rw[List.drop_succ_cons,dG [x] a (b::r) (by simp)];simp only[List.length_append];omega
def Ae {n:Nat}{op:Bool}{t w:ah}(h:w∈cl n op t):w.length≤t.length:=by
 unfold cl at h;split at h
 ·unfold mG at h;split at h
  ·exact dr t 32 h
  ·rw[List.mem_append]at h;rcases h with h|h
   ·exact dr t 32 (List.mem_of_mem_take h)
   ·simp only[List.mem_singleton]at h;subst h;have:=mY 32 (ai t 32) (n-1);rw[iG (b:=32) (x:=32) rfl t]at this;exact this
 ·exact dr t 32 h
def ke {r:Ld}(hr:r.sm){p:List ah}(hp:p<:+r.ls){w:ah}{n:Nat}{op:Bool}{l q:List ah}(h:bg w n op p=some (l,q)):
  (n=0∨l.length=n)∧(∀u∈l,u.length≤1048576)∧q<:+r.ls∧q.length+1=p.length:=by
 obtain⟨t,rfl,ht⟩:=dn h;obtain⟨h1,_,h3⟩:=qU ht;refine⟨h1,fun u hu=>?_,(List.suffix_cons _ _).trans hp,rfl⟩;rw[h3]at hu;have:=Ae hu;have:=hr.2 t (hp.subset (.head _));omega
def Ld.back {r:Ld}{t:ah}{q:List ah}(h:(t::q)<:+r.ls):uO (Ld.D (r.to q)) 2 1 1 (.int .i64 (((r.to q).at':Nat) -1:Int))=Ld.D (r.to (t::q)):=by
 have:=h.length_le;show D.agg [.sl 1 (r.ls.map D.str),.int .i64 (((r.ls.length-q.length:Nat):Int) -1)]=D.agg [.sl 1 (r.ls.map D.str),.int .i64 ((r.ls.length-(q.length+1):Nat):Int)];simp only[List.length_cons]at this;congr 4;omega
def gB {α:Type}{o:Option α}(h:o.isSome=true):∃a,o=some a:=Option.isSome_iff_exists.1 h
def gA {α:Type}{o:Option α}(h:o.isSome=false):o=none:=by cases o with
 |none=>rfl
 |some a=>cases h
def aT.N (x:aT):Go.Abs.D:=.agg [.str x.name,.str x.range,KN x.feats,.bool x.bare]
def KP:∀l:List ah,sL (KN l) (.sl 1 (l.map D.str))
 |[]=>.nil 1
 |_::_=>.refl _
def aT.wk (x:aT):sL x.N x.D:=.ag (.cons (.refl _) (.cons (.refl _) (.cons (KP _) (.cons (.refl _) .nil))))
def aT.lu (x:aT):x.N.aM=true:=by
 simp only[aT.N,D.aM,aI,wu,Bool.and_true]
def qf {p:List ah}(h:bg gO 5 true p=none):bP p=([],p):=by
 match p,h with
 |[],_=>rfl
 |t::r,h=>
  simp only[bg]at h;split at h
  ·cases h
  ·rename_i hn;simp only[bP,hn]
def Bv {p l q:List ah}(h:bg gO 5 true p=some (l,q))(ho:pV l=false):bP p=([],p):=by
 obtain⟨t,rfl,ht⟩:=dn h;simp only[bP,ht,ho,Bool.false_eq_true,if_false]
def r7 {p l q:List ah}(h:bg gO 5 true p=some (l,q))(ho:pV l=true):bP p=(eR l::(bP q).1,(bP q).2):=by
 obtain⟨t,rfl,ht⟩:=dn h;simp only[bP,ht,ho,if_true]
def nR (s:ah)(b:Int):ai s b≠[]:=by
 have:=eP b s [];intro h;unfold ai at h;rw[h]at this;simp at this
def KO {l:List ah}(h:l≠[]):KN l=.sl 1 (l.map D.str):=by
 match l,h with
 |_::_,_=>rfl
def fV (p:List ah):(bp p).2<:+p:=by
 unfold bp;split
 ·rename_i h;exact kV h
 ·exact List.suffix_refl _
def FW (p:List ah):(oV p).2<:+p:=by
 unfold oV;split
 ·rename_i h;exact kV h
 ·exact List.suffix_refl _
end Go.Abs
section
namespace Go.Abs
open Go
def fN:aB:=⟨1,5,kH,cq,(sq (r1 [gm cse] 1 0) (sq (sq (rg [gm s0,gn (.callF 465 l0 [(cs [119,104,101,110]),kR,rC] NH),gm l1,ge l2 0,ge l2 1,gm l3,gm l4] [(4,5),(2,6)]) (sq (r1 [gm s2] 3 0) (.cond s3 (sq (r1 [gm s4,ga 1 l0 ca,gd l1,gm l2] 1 3) .ret) .skip))) (AN cse)))⟩
def w468 {Γ:Ctx}(hm:(Γ.at 1).bj)(h465:G9 (Γ.at 1))(r:Ld)  (hp0:r.sm):bB (Γ.at 1) fN.body (CI fN 2 (.str (bp r.rest).1) (Ld.D (r.to (bp r.rest).2)):Ex→List a7→St→Prop) (eK fN (.ptr 0 2 0 0::[])) ⟨1,[(0,.buf 2 [(Ld.D r)])]⟩:=by
 show bB _ _ _ [⟨true,.ptr 0 2 0 0⟩,.un,.un,.un,.un] ⟨1,[(0,.buf 2 [(Ld.D r)])]⟩;have hself:=Ld.yc hp0;have hq1:=r.uJ;refine ak ?_;refine aA ?_;rw[show Ld.D r=Ld.D (r.to r.rest)by rw[hself]];refine ay ?_;refine jr (hc:=sX h465 hp0 (p:=r.rest) hq1 (w:=fe) (n:=2) (op:=true) (by decide) (by decide)) ?_;refine ay ?_;refine fS _ ?_;refine b8 ?_;refine cG (fun hc0=>?_) fun hc0=>?_
 ·refine ax ?_;obtain⟨⟨l,q2⟩,hq⟩:=gB hc0;have hnr:cD fe 2 true r.rest=q2:=by simp only[cD,hq]
  obtain⟨hl,hlm,hq2,hqp⟩:=ke hp0 hq1 hq;rw[hnr,hq];have hwp:bp r.rest=(l[1]!,q2):=by simp only[bp,hq]
  rw[hwp];refine ay ?_;refine cK 1 (hb:=fun _=>by omega) ?_;refine bQ (v:=.str l[1]!) (hi:=fun _=>by omega) ?_;refine az ?_;refine eh trivial iK (Eq.trans ae (congrArg D.str ?_)) ae ae ae;rfl
 refine ax ?_;have hq:=gA hc0;have hnr:cD fe 2 true r.rest=r.rest:=by simp only[cD,hq]
 rw[hnr];have hwp:bp r.rest=([],r.rest):=by simp only[bp,hq]
 rw[hwp];refine az ?_;refine eh trivial iK (Eq.trans ae (congrArg D.str ?_)) ae ae ae;rfl
def Ha (Γ:Ctx):Prop:=∀(r:Ld),(r.sm)→Γ.fp 468 (Ld.D r) []∧Γ.fv 468 (Ld.D r) []=.str (bp r.rest).1∧Γ.fs 468 (Ld.D r) []=Ld.D (r.to (bp r.rest).2)
end Go.Abs
end
section
namespace Go.Abs
open Go
def fL:aB:=⟨1,12,[⟨1,some (3,true)⟩],[[.sl 4 [.a,.a,.sl 1 [.a],.a],.a,.a]],(sq (r1 [gb 3 (.c (.agg [.ar,.str [],.str []]))] 1 0) (sq (r1 [gb 3 (.c (.agg [.ar,.str [],.str []]))] 8 0) (sq (.block 0 (.loop (.block 1 (sq (rg [gm s0,gn (.callF 465 l0 [(cs [97,110,121]),BW,rC] NH),gm l1,ge l2 0,ge l2 1,gm l3,gm l4] [(4,5),(2,6)]) (sq (sq (r1 [gm s2,n4 l0] 3 1) (.cond s3 (.exit 0) .skip)) (sq (sq (r1 [gm s4,ga 1 l0 kG,gd l1,b7 l2 (cs [98,97,114,101]),gm l3,gmt 4 s4,cw 4 (.ia 1 l5 kG),jZ 4 l6,cw 4 (fo l7 (cs [102,117,108,108])),fk l4 l8] 5 9) (.cond s5 (sq (rg [gm s0,gc l0,gf 1 l1,gd l2,fH l3 ca,gc l0,gf 1 l5,gt 1 l6 l4] []) (.exit 0)) .skip)) (sq (r2 [gm s4,ga 1 l0 ca,gd l1,gm s4,ga 1 l3 vc,gd l4,gm s4,ga 1 l6 kG,gd l7,aF l8 (cs [98,97,114,101]),gn (.build [.str [],.str [],.ar,.bool false] [(0,1,l2),(1,1,l5),(3,1,l9)]),gb 4 (.c (.agg [.str [],.str [],.ar,.bool false])),gt 4 jx l10] 7 11) (sq (sq (r1 [gm s4,ga 1 l0 kR,gd l1,b7 l2 (cs [45])] 6 3) (.cond s6 (rg [gm s4,ga 1 l0 kR,gd l1,gx 124 [l2,(cs [44])] jd,gf 2 s7,gt 1 l4 l3] []) .skip)) (rg [gf 0 s8,gd l0,gk 4 true s7,gn (.bsl 4 (.agg [.str [],.str [],.ar,.bool false]) 1 [(0,l2)]),gn (.app 4 l1 l3),gf 0 s8,gt 1 l5 l4] []))))))))) (sq (rg [gm s0,gn (.callF 468 l0 [] []),gf 1 s8,gt 1 l2 l1] []) (sq (sq (rg [gm s0,gn (.callF 465 l0 [(cs [111,112,116,105,111,110]),kR,cU] NH),gm l1,ge l2 0,ge l2 1,gm l3,gm l4] [(11,5),(9,6)]) (sq (r1 [gm s9] 10 0) (.cond lf (rg [gm n7,ga 1 l0 ca,gd l1,gf 2 s8,gt 1 l3 l2] []) .skip))) (sq (rg [gk 3 true s8,gt 3 s1 l0] []) .ret))))))⟩
def yh {Γ:Ctx}(h:Ha Γ){r:Ld}(hr:r.sm){p:List ah}(hp:p<:+r.ls):Γ.fp 468 (Ld.D (r.to p)) []∧Γ.fv 468 (Ld.D (r.to p)) []=.str (bp p).1∧Γ.fs 468 (Ld.D (r.to p)) []=Ld.D (r.to (bp p).2):=by
 have:=h (r.to p) (hr.to p);rw[Ld.tf hp]at this;exact this
def w467 {Γ:Ctx}(hm:(Γ.at 1).bj)(h124:En (Γ.at 1))(h465:G9 (Γ.at 1))(h468:Ha (Γ.at 1))(r:Ld)  (hp0:r.sm):bB (Γ.at 1) fL.body (CI fL 2 (aR.D (cX r.rest).1) (Ld.D (r.to (cX r.rest).2)):Ex→List a7→St→Prop) (eK fL (.ptr 0 2 0 0::[])) ⟨1,[(0,.buf 2 [(Ld.D r)])]⟩:=by
 show bB _ _ _ [⟨true,.ptr 0 2 0 0⟩,.un,.un,.un,.un,.un,.un,.un,.un,.un,.un,.un] ⟨1,[(0,.buf 2 [(Ld.D r)])]⟩;have hself:=Ld.yc hp0;have hq0:=r.uJ;refine ak ?_;refine aQ ?_;refine bq hm (ι:=(List aT×List ah)) (fun p=>[⟨true,.ptr 0 2 0 0⟩,⟨true,.ptr 1 3 0 0⟩,.un,.un,.un,.un,.un,.un,⟨true,.ptr 2 3 0 0⟩,.un,.un,.un]) (fun p=>[(0,.buf 2 [Ld.D (r.to p.2)]),(1,.buf 3 [.agg [.ar,.str [],.str []]]),(2,.buf 3 [.agg [.own 3 4 0 (p.1).length,.str [],.str []]]),(3,.buf 4 (p.1.map aT.N))]) 10 (fun p=>p.2<:+r.ls∧p.1.length+p.2.length≤r.ls.length∧bP r.rest=(p.1++(bP p.2).1,(bP p.2).2)) (fun p=>p.2.length) ([],r.rest) ⟨hq0,by simpa using hq0.length_le,by simp⟩ (aP.to [(1,1),(2,2)] ae ae dV (by refine aC.nl 0 ae ae (by rw[hself]) ae ?_;refine aC.de ae ae ae ?_;refine aC.ni 2 ae ae (by exact⟨_,_,rfl,⟨_,rfl,⟨_,_,rfl,Or.inr ⟨_,_,_,rfl⟩,⟨_,_,rfl,⟨rfl,rfl⟩,⟨_,_,rfl,⟨rfl,rfl⟩,rfl⟩⟩⟩⟩,rfl⟩) ?_;refine aC.mt ae ae ae ae ?_;exact aC.nil)) ?_;rintro⟨A,p⟩ ⟨hq1,hlen,hw⟩;dsimp only at hq1 hlen hw⊢;have hll:=hp0.1.2;refine az ?_;refine jr (hc:=sX h465 hp0 (p:=p) hq1 (w:=gO) (n:=5) (op:=true) (by decide) (by decide)) ?_;refine ay ?_;refine fS _ ?_;refine dA ?_;refine aq (fun hc0=>?_) (fun hc0=>?_)
 ·simp only[Bool.not_eq_true']at hc0;have hq:=gA hc0;have hnr:cD gO 5 true p=p:=by simp only[cD,hq]
  rw[hnr];have hw2:bP r.rest=(A,p):=by rw[hw,qf hq,List.append_nil]
  refine aA ?_;have hq3:=(fV p).trans hq1;refine ay ?_;refine jr (hc:=yh h468 hp0 hq1) ?_;refine ay ?_;refine aJ (.agg [.own 3 4 0 A.length,.str (bp p).1,.str []]) (he:=by exact rfl) ?_;refine aA ?_;refine jr (hc:=sX h465 hp0 (p:=(bp p).2) hq3 (w:=cM) (n:=2) (op:=false) (by decide) (by decide)) ?_;refine ay ?_;refine fS _ ?_;refine b8 ?_;refine cG (fun hc3=>?_) fun hc3=>?_
  ·refine ay ?_;obtain⟨⟨l,q2⟩,hq⟩:=gB hc3;have hnr:cD cM 2 false (bp p).2=q2:=by simp only[cD,hq]
   obtain⟨hl,hlm,hq2,hqp⟩:=ke hp0 hq3 hq;rw[hnr,hq];obtain hl:l.length=2:=by rcases hl with h|h;cases h;exact h
   refine ay ?_;refine cK 1 (hb:=fun _=>by omega) ?_;refine bQ (v:=.str l[1]!) (hi:=fun _=>by omega) ?_;refine ay ?_;refine aJ (.agg [.own 3 4 0 A.length,.str (bp p).1,.str l[1]!]) (he:=by exact rfl) ?_;refine ay ?_;have hnp:cX r.rest=(⟨A,(bp p).1,l[1]!⟩,q2):=by simp only[cX,hw2,oV,hq]
   rw[hnp];refine ey 3 (hn:=bt aT.lu _) (he:=by simp only[lV,gM,kF,mQ,oN,bO,Nat.reduceEqDiff,if_true,if_false,and_self,true_and,and_true,false_and,and_false,Nat.zero_add,List.length_map,Nat.le_refl,List.drop_zero,aL,reduceCtorEq,List.length_cons,List.length_nil,Nat.reduceAdd,Nat.reduceLeDiff,Ld.D];exact rfl) (hm:=by simp only[lV,gM,kF,mQ,oN,bO,Nat.reduceEqDiff,if_true,if_false,and_self,true_and,and_true,false_and,and_false,Nat.zero_add,List.length_map,Nat.le_refl,List.drop_zero,aL,reduceCtorEq,List.length_cons,List.length_nil,Nat.reduceAdd,Nat.reduceLeDiff,Ld.D];exact rfl) ?_;refine lY [(0,.buf 2 [Ld.D (r.to q2)]),(1,.buf 3 [.agg [.ar,.str [],.str []]]),(2,.buf 3 [aR.D ⟨A,(bp p).1,l[1]!⟩])] (.id ae (.id ae (.bf ae (.cons (.ag (.cons (.ss (.map fun x _=>x.wk)) (.rf _))) .nil) .nil))) ?_;refine ay ?_;refine cE (d:=aR.D ⟨A,(bp p).1,l[1]!⟩) ?_;refine aJ (aR.D ⟨A,(bp p).1,l[1]!⟩) (he:=by exact rfl) ?_;refine ax ?_;refine eh trivial sC (Eq.trans ae (?_)) ae ae ae;rfl
  refine ay ?_;have hq:=gA hc3;have hnr:cD cM 2 false (bp p).2=(bp p).2:=by simp only[cD,hq]
  rw[hnr];have hnp:cX r.rest=(⟨A,(bp p).1,[]⟩,(bp p).2):=by simp only[cX,hw2,oV,hq]
  rw[hnp];refine ey 3 (hn:=bt aT.lu _) (he:=by simp only[lV,gM,kF,mQ,oN,bO,Nat.reduceEqDiff,if_true,if_false,and_self,true_and,and_true,false_and,and_false,Nat.zero_add,List.length_map,Nat.le_refl,List.drop_zero,aL,reduceCtorEq,List.length_cons,List.length_nil,Nat.reduceAdd,Nat.reduceLeDiff,Ld.D];exact rfl) (hm:=by simp only[lV,gM,kF,mQ,oN,bO,Nat.reduceEqDiff,if_true,if_false,and_self,true_and,and_true,false_and,and_false,Nat.zero_add,List.length_map,Nat.le_refl,List.drop_zero,aL,reduceCtorEq,List.length_cons,List.length_nil,Nat.reduceAdd,Nat.reduceLeDiff,Ld.D];exact rfl) ?_;refine lY [(0,.buf 2 [Ld.D (r.to (bp p).2)]),(1,.buf 3 [.agg [.ar,.str [],.str []]]),(2,.buf 3 [aR.D ⟨A,(bp p).1,[]⟩])] (.id ae (.id ae (.bf ae (.cons (.ag (.cons (.ss (.map fun x _=>x.wk)) (.rf _))) .nil) .nil))) ?_;refine ay ?_;refine cE (d:=aR.D ⟨A,(bp p).1,[]⟩) ?_;refine aJ (aR.D ⟨A,(bp p).1,[]⟩) (he:=by exact rfl) ?_;refine ax ?_;refine eh trivial sC (Eq.trans ae (?_)) ae ae ae;rfl
 simp only[Bool.not_eq_false']at hc0;obtain⟨⟨l,q2⟩,hq⟩:=gB hc0;have hnr:cD gO 5 true p=q2:=by simp only[cD,hq]
 obtain⟨hl,hlm,hq2,hqp⟩:=ke hp0 hq1 hq;rw[hnr,hq];obtain hl:l.length=5:=by rcases hl with h|h;cases h;exact h
 refine aA ?_;refine cK 3 (hb:=fun _=>by omega) ?_;refine bQ (v:=.str l[3]!) (hi:=fun _=>by omega) ?_;refine az ?_;refine cK 3 (hb:=fun _=>by omega) ?_;refine bQ (v:=.str l[3]!) (hi:=fun _=>by omega) ?_;refine az ?_;refine aq (fun hc1=>?_) (fun hc1=>?_)
 ·simp only[Bool.and_eq_true,Bool.not_eq_true',decide_eq_false_iff_not]at hc1;have hho:pV l=false:=by unfold pV;rw[decide_eq_false (show ¬l[3]! =ew from hc1.1),decide_eq_false (show ¬l[3]! =gX from hc1.2)];rfl
  have hw2:bP r.rest=(A,p):=by rw[hw,Bv hq hho,List.append_nil]
  obtain⟨t,hpt,_⟩:=dn hq;refine ax ?_;obtain⟨hab1,hab2⟩:=(hp0.to q2).1;refine az ?_;refine cu (v:=.int .i64 ((r.to q2).at':Nat)) ?_;refine az ?_;refine aJ (Ld.D (r.to p)) (he:=by rw[hpt];exact Ld.back (hpt▸hq1)) ?_;refine aQ ?_;have hq3:=(fV p).trans hq1;refine ay ?_;refine jr (hc:=yh h468 hp0 hq1) ?_;refine ay ?_;refine aJ (.agg [.own 3 4 0 A.length,.str (bp p).1,.str []]) (he:=by exact rfl) ?_;refine aA ?_;refine jr (hc:=sX h465 hp0 (p:=(bp p).2) hq3 (w:=cM) (n:=2) (op:=false) (by decide) (by decide)) ?_;refine ay ?_;refine fS _ ?_;refine b8 ?_;refine cG (fun hc3=>?_) fun hc3=>?_
  ·refine ay ?_;obtain⟨⟨l,q2⟩,hq⟩:=gB hc3;have hnr:cD cM 2 false (bp p).2=q2:=by simp only[cD,hq]
   obtain⟨hl,hlm,hq2,hqp⟩:=ke hp0 hq3 hq;rw[hnr,hq];obtain hl:l.length=2:=by rcases hl with h|h;cases h;exact h
   refine ay ?_;refine cK 1 (hb:=fun _=>by omega) ?_;refine bQ (v:=.str l[1]!) (hi:=fun _=>by omega) ?_;refine ay ?_;refine aJ (.agg [.own 3 4 0 A.length,.str (bp p).1,.str l[1]!]) (he:=by exact rfl) ?_;refine ay ?_;have hnp:cX r.rest=(⟨A,(bp p).1,l[1]!⟩,q2):=by simp only[cX,hw2,oV,hq]
   rw[hnp];refine ey 3 (hn:=bt aT.lu _) (he:=by simp only[lV,gM,kF,mQ,oN,bO,Nat.reduceEqDiff,if_true,if_false,and_self,true_and,and_true,false_and,and_false,Nat.zero_add,List.length_map,Nat.le_refl,List.drop_zero,aL,reduceCtorEq,List.length_cons,List.length_nil,Nat.reduceAdd,Nat.reduceLeDiff,Ld.D];exact rfl) (hm:=by simp only[lV,gM,kF,mQ,oN,bO,Nat.reduceEqDiff,if_true,if_false,and_self,true_and,and_true,false_and,and_false,Nat.zero_add,List.length_map,Nat.le_refl,List.drop_zero,aL,reduceCtorEq,List.length_cons,List.length_nil,Nat.reduceAdd,Nat.reduceLeDiff,Ld.D];exact rfl) ?_;refine lY [(0,.buf 2 [Ld.D (r.to q2)]),(1,.buf 3 [.agg [.ar,.str [],.str []]]),(2,.buf 3 [aR.D ⟨A,(bp p).1,l[1]!⟩])] (.id ae (.id ae (.bf ae (.cons (.ag (.cons (.ss (.map fun x _=>x.wk)) (.rf _))) .nil) .nil))) ?_;refine ay ?_;refine cE (d:=aR.D ⟨A,(bp p).1,l[1]!⟩) ?_;refine aJ (aR.D ⟨A,(bp p).1,l[1]!⟩) (he:=by exact rfl) ?_;refine ax ?_;refine eh trivial sC (Eq.trans ae (?_)) ae ae ae;rfl
  refine ay ?_;have hq:=gA hc3;have hnr:cD cM 2 false (bp p).2=(bp p).2:=by simp only[cD,hq]
  rw[hnr];have hnp:cX r.rest=(⟨A,(bp p).1,[]⟩,(bp p).2):=by simp only[cX,hw2,oV,hq]
  rw[hnp];refine ey 3 (hn:=bt aT.lu _) (he:=by simp only[lV,gM,kF,mQ,oN,bO,Nat.reduceEqDiff,if_true,if_false,and_self,true_and,and_true,false_and,and_false,Nat.zero_add,List.length_map,Nat.le_refl,List.drop_zero,aL,reduceCtorEq,List.length_cons,List.length_nil,Nat.reduceAdd,Nat.reduceLeDiff,Ld.D];exact rfl) (hm:=by simp only[lV,gM,kF,mQ,oN,bO,Nat.reduceEqDiff,if_true,if_false,and_self,true_and,and_true,false_and,and_false,Nat.zero_add,List.length_map,Nat.le_refl,List.drop_zero,aL,reduceCtorEq,List.length_cons,List.length_nil,Nat.reduceAdd,Nat.reduceLeDiff,Ld.D];exact rfl) ?_;refine lY [(0,.buf 2 [Ld.D (r.to (bp p).2)]),(1,.buf 3 [.agg [.ar,.str [],.str []]]),(2,.buf 3 [aR.D ⟨A,(bp p).1,[]⟩])] (.id ae (.id ae (.bf ae (.cons (.ag (.cons (.ss (.map fun x _=>x.wk)) (.rf _))) .nil) .nil))) ?_;refine ay ?_;refine cE (d:=aR.D ⟨A,(bp p).1,[]⟩) ?_;refine aJ (aR.D ⟨A,(bp p).1,[]⟩) (he:=by exact rfl) ?_;refine ax ?_;refine eh trivial sC (Eq.trans ae (?_)) ae ae ae;rfl
 simp only[Bool.and_eq_false_iff,Bool.not_eq_false',decide_eq_true_eq]at hc1;have hho:pV l=true:=by
  unfold pV;rcases hc1 with h|h
  ·rw[decide_eq_true (show l[3]! =ew from h)];rfl
  ·rw[decide_eq_true (show l[3]! =gX from h),Bool.or_true]
 have hwy:=r7 hq hho;refine az ?_;refine cK 1 (hb:=fun _=>by omega) ?_;refine bQ (v:=.str l[1]!) (hi:=fun _=>by omega) ?_;refine ay ?_;refine cK 4 (hb:=fun _=>by omega) ?_;refine bQ (v:=.str l[4]!) (hi:=fun _=>by omega) ?_;refine ay ?_;refine cK 3 (hb:=fun _=>by omega) ?_;refine bQ (v:=.str l[3]!) (hi:=fun _=>by omega) ?_;refine ay ?_;refine bA (.agg [.str l[1]!,.str l[4]!,.ar,.bool (decide (l[3]! =ew))]) ?_;refine ay ?_;refine aJ (.agg [.str l[1]!,.str l[4]!,.ar,.bool (decide (l[3]! =ew))]) (he:=by exact rfl) ?_;refine aA ?_;refine cK 2 (hb:=fun _=>by omega) ?_;refine bQ (v:=.str l[2]!) (hi:=fun _=>by omega) ?_;refine ax ?_;refine cG (fun hc2=>?_) fun hc2=>?_
 ·refine ax ?_;refine cK 2 (hb:=fun _=>by omega) ?_;refine bQ (v:=.str l[2]!) (hi:=fun _=>by omega) ?_;refine aj (hc:=h124 l[2]! 44 (hlm _ (bL (by omega)))) ?_;refine ay ?_;refine aJ (aT.N (eR l)) (he:=by show _=D.agg [.str l[1]!,.str l[4]!,KN (if l[2]! =[45]then []else ai l[2]! 44),.bool (decide (l[3]! =ew))];rw[if_neg hc2,KO (nR _ _)];exact rfl) ?_;refine az ?_;refine cu (v:=.own 3 4 0 A.length) ?_;refine cE (d:=aT.N (eR l)) ?_;refine cz [aT.N (eR l)] ?_;refine iX (q:=aT.N) (xs:=A) (e:=eR l) ?_;refine ay ?_;refine aJ (.agg [.own 56 4 0 (A++[eR l]).length,.str [],.str []]) (he:=by exact rfl) ?_;refine az ?_;exact⟨(A++[eR l],q2),⟨hq2,by simp only[List.length_append,List.length_cons,List.length_nil];omega,by rw[hw,hwy];simp⟩,by dsimp only;omega,(aP.to [(1,1),(2,2),(56,3)] ae ae dV (by refine aC.de ae ae ae ?_;refine aC.de ae ae ae ?_;refine aC.eq 2 ae ae ae ?_;refine aC.nl 56 ae ae rfl (by exact bt aT.lu _) ?_;exact aC.nil))⟩
 refine ax ?_;rw[show(D.agg [.str l[1]!,.str l[4]!,.ar,.bool (decide (l[3]! =ew))])=aT.N (eR l)by show _=D.agg [.str l[1]!,.str l[4]!,KN (if l[2]! =[45]then []else ai l[2]! 44),.bool (decide (l[3]! =ew))];rw[if_pos hc2];rfl];refine ay ?_;refine cu (v:=.own 3 4 0 A.length) ?_;refine cE (d:=aT.N (eR l)) ?_;refine cz [aT.N (eR l)] ?_;refine iX (q:=aT.N) (xs:=A) (e:=eR l) ?_;refine ay ?_;refine aJ (.agg [.own 50 4 0 (A++[eR l]).length,.str [],.str []]) (he:=by exact rfl) ?_;refine az ?_;exact⟨(A++[eR l],q2),⟨hq2,by simp only[List.length_append,List.length_cons,List.length_nil];omega,by rw[hw,hwy];simp⟩,by dsimp only;omega,(aP.to [(1,1),(2,2),(50,3)] ae ae dV (by refine aC.de ae ae ae ?_;refine aC.de ae ae ae ?_;refine aC.eq 2 ae ae ae ?_;refine aC.nl 50 ae ae rfl (by exact bt aT.lu _) ?_;exact aC.nil))⟩
def JS (Γ:Ctx):Prop:=∀(r:Ld),(r.sm)→Γ.fp 467 (Ld.D r) []∧Γ.fv 467 (Ld.D r) []=aR.D (cX r.rest).1∧Γ.fs 467 (Ld.D r) []=Ld.D (r.to (cX r.rest).2)
end Go.Abs
end
namespace Go.Abs
def BA (Γ:Ctx):Prop:=∀(r:Ld)(w:ah)(n:Nat)(op:Bool)(l nx:Nat)(m:List (Nat×aZ))(K:D→St→Prop),r.sm→n≤1000→(op=true→1≤n)→look m l=some (.buf 2 [Ld.D r])→
 K (.tup [vw (bg w n op r.rest),.bool (bg w n op r.rest).isSome]) ⟨nx,bT m l (.buf 2 [Ld.D (r.after (bg w n op r.rest))])⟩→Γ.tr 465 [.ptr l 2 0 0,.str w,.int .i64 (n:Nat),.bool op] ⟨nx,m⟩ K
def sY {Γ:Ctx}(h:BA Γ){r:Ld}(hr:r.sm){p:List ah}(hp:p<:+r.ls){w:ah}{n:Nat}{op:Bool}(hn:n≤1000)(ho:op=true→1≤n){nx:Nat}{m:List (Nat×aZ)}{K:D→St→Prop}(hl:look m 0=some (.buf 2 [Ld.D (r.to p)]))
  (hK:K (.tup [vw (bg w n op p),.bool (bg w n op p).isSome]) ⟨nx,bT m 0 (.buf 2 [Ld.D (r.to (cD w n op p))])⟩):Γ.tr 465 [.ptr 0 2 0 0,.str w,.int .i64 (n:Nat),.bool op] ⟨nx,m⟩ K:=by
 refine h (r.to p) w n op 0 nx m K (hr.to p) hn ho hl ?_;rw[Ld.tf hp,Ld.yu hp];exact hK
def Ij {Γ:Ctx}(h:JS Γ){r:Ld}(hr:r.sm){p:List ah}(hp:p<:+r.ls):Γ.fp 467 (Ld.D (r.to p)) []∧Γ.fv 467 (Ld.D (r.to p)) []=aR.D (cX p).1∧Γ.fs 467 (Ld.D (r.to p)) []=Ld.D (r.to (cX p).2):=by
 have:=h (r.to p) (hr.to p);rw[Ld.tf hp]at this;exact this
def kn:∀p:List ah,(bP p).2<:+p
 |[]=>List.suffix_refl _
 |t::r=>by
  simp only[bP];split
  ·split
   ·exact(kn r).trans (List.suffix_cons _ _)
   ·exact List.suffix_refl _
  ·exact List.suffix_refl _
def nK (p:List ah):(cX p).2<:+p:=(FW _).trans ((fV _).trans (kn p))
def yM {p:List ah}(h:bg bD 0 false p=none):dk p=([],p):=by
 match p,h with
 |[],_=>rfl
 |t::r,h=>
  simp only[bg]at h;split at h
  ·cases h
  ·rename_i hn;simp only[dk,hn]
def C1 {p l q:List ah}(h:bg bD 0 false p=some (l,q))(ho:¬2≤l.length):dk p=([],p):=by
 obtain⟨t,rfl,ht⟩:=dn h;simp only[dk,ht,ho,if_false]
def AG {p l q:List ah}(h:bg bD 0 false p=some (l,q))(ho:2≤l.length):dk p=(⟨l[1]!,l.drop 2⟩::(dk q).1,(dk q).2):=by
 obtain⟨t,rfl,ht⟩:=dn h;simp only[dk,ht,ho,if_true]
def et (ls:List ah):Rec×List ah:=match pc ls with
 |some p=>p
 |none=>(n6,ls)
def cZ:D:=.agg [.str [],.int .i64 0,.int .i64 0,.int .i64 0,.str [],.str [],.ar,.ar,.ar]
def p9:sL cZ n6.D:=.ag (.cons (.refl _) (.cons (.refl _) (.cons (.refl _) (.cons (.refl _) (.cons (.refl _) (.cons (.refl _) (.cons (.nil 3) (.cons (.nil 3) (.cons (.nil 2) .nil)))))))))
def kW (nm:ah)(v:df)(n b f:D):D:=.agg [.str nm,.int .i64 v.major,.int .i64 v.minor,.int .i64 v.patch,.str v.pre,.str v.build,n,b,f]
def Lx {s:ah}(h:uV s=0):∃v,kE s=some v:=by
 unfold uV at h;split at h
 ·rename_i hs;exact gB hs
 ·cases h
def Lw {s:ah}(h:¬uV s=0):kE s=none:=by
 unfold uV at h;split at h
 ·exact absurd rfl h
 ·rename_i hs;exact gA (by simpa using hs)
def wZ (n:Nat)(op:Bool)(t:ah):(cl n op t).length≤t.length+1:=by
 have h:=cQ t 32;have hp:=eP 32 t [];unfold cl;split
 ·unfold mG;split
  ·exact h
  ·simp only[List.length_append,List.length_take,List.length_cons,List.length_nil];have:1≤(ai t 32).length:=hp;omega
 ·exact h
def FF {r:Ld}(hr:r.sm){p:List ah}(hp:p<:+r.ls){w:ah}{n:Nat}{op:Bool}{l q:List ah}(h:bg w n op p=some (l,q)):l.length≤1048577:=by
 obtain⟨t,rfl,ht⟩:=dn h;obtain⟨_,_,h3⟩:=qU ht;have:=wZ n op t;have:=hr.2 t (hp.subset (.head _));rw[h3];omega
end Go.Abs
section
namespace Go.Abs
open Go
def eO:aB:=⟨1,20,[⟨1,some (9,true)⟩,⟨2,none⟩],[[.a,.a,.a,.a,.a,.a,.sl 3 [.sl 4 [.a,.a,.sl 1 [.a],.a],.a,.a],.sl 3 [.a,.a,.a],.sl 2 [.a,.sl 1 [.a]]],[.a]],(sq (rg [gb 9 (.c (.agg [.str [],.int .i64 0,.int .i64 0,.int .i64 0,.str [],.str [],.ar,.ar,.ar])),gm cU] [(1,0),(2,1)]) (sq (r1 [gm s0,gn (.mkf 1000465 [l0]),gm l1] 3 2) (sq (rg [gm s3,gn (.callvM l0 [(cs [112,97,99,107,97,103,101]),kG,cU]),gm l1,ge l2 0,ge l2 1,gm l3,gm l4] [(6,5),(4,6)]) (sq (sq (r1 [gm s4,n4 l0] 5 1) (.cond s5 (sq (r1 [gn (.build [.str [],.int .i64 0,.int .i64 0,.int .i64 0,.str [],.str [],.ar,.ar,.ar] []),gt 9 s1 l0,gm cU] 2 2) .ret) .skip)) (sq (rg [gm s6,ga 1 l0 kR,gd l1,gx 466 [l2] cq,gm l3,ge l4 0,ge l4 1,gb 5 (.c (.agg [.int .i64 0,.int .i64 0,.int .i64 0,.str [],.str []])),gt 5 l7 l5,gm l6] [(9,7),(7,9)]) (sq (sq (r1 [gm s7,b7 l0 bH] 8 1) (.cond s8 (sq (rg [gm s0,gc l0,gf 1 l1,gd l2,fH l3 ca,gc l0,gf 1 l5,gt 1 l6 l4] []) (sq (r1 [gn (.build [.str [],.int .i64 0,.int .i64 0,.int .i64 0,.str [],.str [],.ar,.ar,.ar] []),gt 9 s1 l0,gm cU] 2 2) .ret)) .skip)) (sq (r2 [gm s6,ga 1 l0 ca,gd l1,gk 5 true s9,gn (.build [.str [],.int .i64 0,.int .i64 0,.int .i64 0,.str [],.str [],.ar,.ar,.ar] [(0,1,l2),(1,5,l3)]),gb 9 (.c (.agg [.str [],.int .i64 0,.int .i64 0,.int .i64 0,.str [],.str [],.ar,.ar,.ar])),gt 9 l5 l4] 12 5) (sq (.block 0 (.loop (.block 1 (sq (sq (r1 [gm s3,gn (.callvM l0 [(cs [110,101,101,100]),ca,cU]),gm l1,ge l2 0,ge l2 1,gm l3,gm l4] 10 6) (sq (r1 [gm lf,n4 l0] 11 1) (.cond n7 (.exit 0) .skip))) (rt [gf 6 mi,gn (.ldU 1 false l0),gm s0,gn (.callF 467 l2 [] []),gn (.bsl 3 (.agg [.ar,.str [],.str []]) 1 [(0,l3)]),gn (.app 3 l1 l4),gf 6 mi,gt 1 l6 l5] []))))) (sq (.block 2 (.loop (.block 3 (sq (rg [gm s3,gn (.callvM l0 [(cs [98,97,114]),kG,rC]),gm l1,ge l2 0,ge l2 1,gm l3,gm l4] [(15,5),(13,6)]) (sq (sq (r1 [gm uL,n4 l0] 14 1) (.cond td (.exit 2) .skip)) (rt [gf 7 mi,gn (.ldU 1 false l0),gm wD,ga 1 l2 ca,gn (.ldU 1 false l3),gm wD,ga 1 l5 kR,gn (.ldU 1 false l6),gm s0,gn (.callF 468 l8 [] []),gn (.build [.str [],.str [],.str []] [(0,1,l4),(1,1,l7),(2,1,l9)]),gn (.bsl 3 (.agg [.str [],.str [],.str []]) 1 [(0,l10)]),gn (.app 3 l1 jx),gf 7 mi,gt 1 mw kT] [])))))) (sq (.block 4 (.loop (.block 5 (sq (rg [gm s3,gn (.callvM l0 [(cs [102,101,97,116,117,114,101]),bH,cU]),gm l1,ge l2 0,ge l2 1,gm l3,gm l4] [(18,5),(16,6)]) (sq (sq (r1 [gm Co,n4 l0] 17 1) (.cond ym (.exit 4) .skip)) (sq (sq (r1 [gm D0,gl l0,aX l1 kR] 19 2) (.cond Lp (sq (rg [gm s0,gc l0,gf 1 l1,gd l2,fH l3 ca,gc l0,gf 1 l5,gt 1 l6 l4] []) (.exit 4)) .skip)) (rt [gf 8 mi,gd l0,gm D0,ga 1 l2 ca,gd l3,gm D0,gn (.slA 1 l5 (some kR) none),gx 469 [l6] [[.sl 1 [.a]]],gn (.build [.str [],.ar] [(0,1,l4),(1,1,l7)]),gn (.bsl 2 (.agg [.str [],.ar]) 1 [(0,l8)]),gn (.app 2 l1 l9),gf 8 mi,gt 1 jx l10] []))))))) (sq (r1 [gk 9 true mi,gt 9 s1 l0,gm rC] 2 2) .ret)))))))))))⟩
def w222 {Γ:Ctx}(hm:(Γ.at 1).bj)(h466:Ms (Γ.at 1))(h467:JS (Γ.at 1))(h468:Ha (Γ.at 1))(h469:Mt (Γ.at 1))(h9465:BA (Γ.at 1))(r:Ld)  (hp0:r.sm):bB (Γ.at 1) eO.body (CI eO 2 (.tup [Rec.D (et r.rest).1,.bool (pc r.rest).isSome]) (Ld.D (r.to (et r.rest).2)):Ex→List a7→St→Prop) (eK eO (.ptr 0 2 0 0::[])) ⟨1,[(0,.buf 2 [(Ld.D r)])]⟩:=by
 show bB _ _ _ [⟨true,.ptr 0 2 0 0⟩,.un,.un,.un,.un,.un,.un,.un,.un,.un,.un,.un,.un,.un,.un,.un,.un,.un,.un,.un] ⟨1,[(0,.buf 2 [(Ld.D r)])]⟩;have hself:=Ld.yc hp0;have hq1:=r.uJ;have hll:=hp0.1.2;refine ak ?_;refine aQ ?_;refine NZ _ ?_;refine az ?_;rw[show Ld.D r=Ld.D (r.to r.rest)by rw[hself]];refine ay ?_;refine jA (n:=1000465) (Wo:=[.ptr 0 2 0 0,.str cT,.int .i64 ((3:Nat):Int),.bool false]) (ι:=Unit) (fun _=>True) (fun _=>.tup [vw (bg cT 3 false r.rest),.bool (bg cT 3 false r.rest).isSome]) 6 (fun _=>[(0,.buf 2 [Ld.D (r.to (cD cT 3 false r.rest))]),(1,.buf 9 [cZ])]) (fun _ _=>?_) (hc:=fun K' hK=>sY h9465 hp0 hq1 (w:=cT) (n:=3) (op:=false) (by decide) (by decide) ae (hK () trivial)) (hn:=by decide);refine ay ?_;refine fS _ ?_;refine dA ?_;refine aq (fun hc0=>?_) (fun hc0=>?_)
 ·simp only[Bool.not_eq_true']at hc0;have hq:=gA hc0;have hnr:cD cT 3 false r.rest=r.rest:=by simp only[cD,hq]
  rw[hnr];have hrp:pc r.rest=none:=by simp only[pc,hq]
  have hrv:et r.rest=(n6,r.rest):=by simp only[et,hrp]
  rw[hrv,hrp];refine ax ?_;refine bA cZ ?_;refine aJ cZ (he:=by exact rfl) ?_;refine ax ?_;refine lY [(0,.buf 2 [Ld.D (r.to r.rest)]),(1,.buf 9 [Rec.D n6])] (.id ae (.bf ae (.cons p9 .nil) .nil)) ?_;refine ay ?_;refine eh trivial sC (Eq.trans ae (aV ?_ ?_)) ae ae ae;all_goals rfl
 simp only[Bool.not_eq_false']at hc0;obtain⟨⟨l,q0⟩,hq⟩:=gB hc0;have hnr:cD cT 3 false r.rest=q0:=by simp only[cD,hq]
 obtain⟨hl,hlm,hq0,hqp⟩:=ke hp0 hq1 hq;rw[hnr,hq];obtain hl:l.length=3:=by rcases hl with h|h;cases h;exact h
 refine az ?_;refine cK 2 (hb:=fun _=>by omega) ?_;refine bQ (v:=.str l[2]!) (hi:=fun _=>by omega) ?_;refine aj (hc:=h466 l[2]! (hlm _ (bL (by omega)))) ?_;refine ay ?_;refine fS (df.D _) ?_;refine ax ?_;refine aJ (df.D ((kE l[2]!).getD ja)) (he:=by exact rfl) ?_;refine bc ?_;refine aq (fun hc1=>?_) (fun hc1=>?_)
 ·simp only[Bool.not_eq_true',decide_eq_false_iff_not]at hc1;have hv:=Lw hc1;have hrp:pc r.rest=none:=by simp only[pc,hq,hv]
  have hrv:et r.rest=(n6,r.rest):=by simp only[et,hrp]
  rw[hrv,hrp];obtain⟨t,hpt,_⟩:=dn hq;refine ax ?_;obtain⟨hab1,hab2⟩:=(hp0.to q0).1;refine az ?_;refine cu (v:=.int .i64 ((r.to q0).at':Nat)) ?_;refine az ?_;refine aJ (Ld.D (r.to r.rest)) (he:=by rw[hpt];exact Ld.back (hpt▸hq1)) ?_;refine az ?_;refine bA cZ ?_;refine aJ cZ (he:=by exact rfl) ?_;refine ax ?_;refine lY [(0,.buf 2 [Ld.D (r.to r.rest)]),(1,.buf 9 [Rec.D n6]),(22,.buf 5 [df.D ((kE l[2]!).getD ja)])] (.id ae (.bf ae (.cons p9 .nil) (.id ae .nil))) ?_;refine ay ?_;refine eh trivial sC (Eq.trans ae (aV ?_ ?_)) ae ae ae;all_goals rfl
 simp only[Bool.not_eq_false',decide_eq_true_eq]at hc1;obtain⟨v,hv⟩:=Lx hc1;rw[hv];have hrp:pc r.rest=some (od l[1]! v q0):=by simp only[pc,hq,hv]
 have hrv:et r.rest=od l[1]! v q0:=by simp only[et,hrp]
 rw[hrv,hrp];generalize hnm:l[1]! =nm;have hq01:=hq0.length_le;refine ax ?_;rw[←hnm];refine ay ?_;refine cK 1 (hb:=fun _=>by omega) ?_;refine bQ (v:=.str l[1]!) (hi:=fun _=>by omega) ?_;refine cE (d:=df.D v) ?_;refine bA (kW l[1]! v .ar .ar .ar) ?_;refine ay ?_;refine aJ (kW l[1]! v .ar .ar .ar) (he:=by exact rfl) ?_;refine ay ?_;rw[hnm];refine bq hm (ι:=(List aR×List ah)) (fun z=>[⟨true,.ptr 0 2 0 0⟩,⟨true,.ptr 1 9 0 0⟩,⟨true,.bool false⟩,⟨true,.fn 1000465 [.ptr 0 2 0 0]⟩,.un,.un,.un,.un,.un,.un,.un,.un,⟨true,.ptr 2 9 0 0⟩,.un,.un,.un,.un,.un,.un,.un]) (fun z=>[(0,.buf 2 [Ld.D (r.to z.2)]),(1,.buf 9 [cZ]),(2,.buf 9 [kW nm v (.own 3 3 0 (z.1).length) (.ar) (.ar)]),(3,.buf 3 (z.1.map aR.D))]) 10 (fun z=>z.2<:+r.ls∧z.1.length+z.2.length≤r.ls.length∧ez q0=(z.1++(ez z.2).1,(ez z.2).2)) (fun z=>z.2.length) ([],q0) ⟨hq0,by simpa using hq01,by simp⟩ (aP.to [(1,1),(32,2)] ae ae dV (by refine aC.de ae ae ae ?_;refine aC.de ae ae ae ?_;refine aC.ni 32 ae ae (by exact⟨_,_,rfl,⟨_,rfl,⟨_,_,rfl,⟨rfl,rfl⟩,⟨_,_,rfl,⟨rfl,rfl⟩,⟨_,_,rfl,⟨rfl,rfl⟩,⟨_,_,rfl,⟨rfl,rfl⟩,⟨_,_,rfl,⟨rfl,rfl⟩,⟨_,_,rfl,⟨rfl,rfl⟩,⟨_,_,rfl,Or.inr ⟨_,_,_,rfl⟩,⟨_,_,rfl,Or.inl rfl,⟨_,_,rfl,Or.inl rfl,rfl⟩⟩⟩⟩⟩⟩⟩⟩⟩⟩,rfl⟩) ?_;refine aC.mt ae ae ae ae ?_;exact aC.nil)) ?_;rintro⟨N,p⟩ ⟨hq1,hlen,hw⟩;dsimp only at hq1 hlen hw⊢;refine aA ?_;refine jA (n:=1000465) (Wo:=[.ptr 0 2 0 0,.str ed,.int .i64 ((1:Nat):Int),.bool false]) (ι:=Unit) (fun _=>True) (fun _=>.tup [vw (bg ed 1 false p),.bool (bg ed 1 false p).isSome]) 10 (fun _=>[(0,.buf 2 [Ld.D (r.to (cD ed 1 false p))]),(1,.buf 9 [cZ]),(2,.buf 9 [kW nm v (.own 3 3 0 (N).length) (.ar) (.ar)]),(3,.buf 3 (N.map aR.D))]) (fun _ _=>?_) (hc:=fun K' hK=>sY h9465 hp0 hq1 (w:=ed) (n:=1) (op:=false) (by decide) (by decide) ae (hK () trivial)) (hn:=by decide);refine ay ?_;refine fS _ ?_;refine dA ?_;refine aq (fun hc2=>?_) (fun hc2=>?_)
 ·simp only[Bool.not_eq_true']at hc2;have hq:=gA hc2;have hnr:cD ed 1 false p=p:=by simp only[cD,hq]
  rw[hnr];have hn2:ez q0=(N,p):=by rw[hw,rO hq,List.append_nil]
  have hpl:=hq1.length_le;refine az ?_;refine ey 3 (hn:=bt (fun _=>rfl) _) (he:=by simp only[lV,gM,kF,mQ,oN,bO,Nat.reduceEqDiff,if_true,if_false,and_self,true_and,and_true,false_and,and_false,Nat.zero_add,List.length_map,Nat.le_refl,List.drop_zero,aL,reduceCtorEq,List.length_cons,List.length_nil,Nat.reduceAdd,Nat.reduceLeDiff,Ld.D,cZ,kW];exact rfl) (hm:=by simp only[lV,gM,kF,mQ,oN,bO,Nat.reduceEqDiff,if_true,if_false,and_self,true_and,and_true,false_and,and_false,Nat.zero_add,List.length_map,Nat.le_refl,List.drop_zero,aL,reduceCtorEq,List.length_cons,List.length_nil,Nat.reduceAdd,Nat.reduceLeDiff,Ld.D,cZ,kW];exact rfl) ?_;refine bq hm (ι:=(List ee×List ah)) (fun z=>[⟨true,.ptr 0 2 0 0⟩,⟨true,.ptr 1 9 0 0⟩,⟨true,.bool false⟩,⟨true,.fn 1000465 [.ptr 0 2 0 0]⟩,.un,.un,.un,.un,.un,.un,.un,.un,⟨true,.ptr 2 9 0 0⟩,.un,.un,.un,.un,.un,.un,.un]) (fun z=>[(0,.buf 2 [Ld.D (r.to z.2)]),(1,.buf 9 [cZ]),(2,.buf 9 [kW nm v ((.sl 3 (N.map aR.D))) (.own 3 3 0 (z.1).length) (.ar)]),(3,.buf 3 (z.1.map ee.D))]) 10 (fun z=>z.2<:+r.ls∧z.1.length+z.2.length≤r.ls.length∧jF p=(z.1++(jF z.2).1,(jF z.2).2)) (fun z=>z.2.length) ([],p) ⟨hq1,by simpa using hpl,by simp⟩ (aP.to [(1,1),(2,2)] ae ae dV (by refine aC.de ae ae ae ?_;refine aC.de ae ae ae ?_;refine aC.ni 2 ae ae (by exact⟨_,_,rfl,⟨_,rfl,⟨_,_,rfl,⟨rfl,rfl⟩,⟨_,_,rfl,⟨rfl,rfl⟩,⟨_,_,rfl,⟨rfl,rfl⟩,⟨_,_,rfl,⟨rfl,rfl⟩,⟨_,_,rfl,⟨rfl,rfl⟩,⟨_,_,rfl,⟨rfl,rfl⟩,⟨_,_,rfl,⟨rfl,rfl⟩,⟨_,_,rfl,Or.inr ⟨_,_,_,rfl⟩,⟨_,_,rfl,Or.inl rfl,rfl⟩⟩⟩⟩⟩⟩⟩⟩⟩⟩,rfl⟩) ?_;refine aC.mt ae ae ae ae ?_;exact aC.nil)) ?_;rintro⟨B,pb⟩ ⟨hq1,hlen,hw⟩;dsimp only at hq1 hlen hw⊢;refine az ?_;refine jA (n:=1000465) (Wo:=[.ptr 0 2 0 0,.str eQ,.int .i64 ((3:Nat):Int),.bool true]) (ι:=Unit) (fun _=>True) (fun _=>.tup [vw (bg eQ 3 true pb),.bool (bg eQ 3 true pb).isSome]) 10 (fun _=>[(0,.buf 2 [Ld.D (r.to (cD eQ 3 true pb))]),(1,.buf 9 [cZ]),(2,.buf 9 [kW nm v ((.sl 3 (N.map aR.D))) (.own 3 3 0 (B).length) (.ar)]),(3,.buf 3 (B.map ee.D))]) (fun _ _=>?_) (hc:=fun K' hK=>sY h9465 hp0 hq1 (w:=eQ) (n:=3) (op:=true) (by decide) (by decide) ae (hK () trivial)) (hn:=by decide);refine ay ?_;refine fS _ ?_;refine dA ?_;refine aq (fun hc3=>?_) (fun hc3=>?_)
  ·simp only[Bool.not_eq_true']at hc3;have hq:=gA hc3;have hnr:cD eQ 3 true pb=pb:=by simp only[cD,hq]
   rw[hnr];have jd:jF p=(B,pb):=by rw[hw,tw hq,List.append_nil]
   have hpl2:=hq1.length_le;refine az ?_;refine ey 3 (hn:=bt (fun _=>rfl) _) (he:=by simp only[lV,gM,kF,mQ,oN,bO,Nat.reduceEqDiff,if_true,if_false,and_self,true_and,and_true,false_and,and_false,Nat.zero_add,List.length_map,Nat.le_refl,List.drop_zero,aL,reduceCtorEq,List.length_cons,List.length_nil,Nat.reduceAdd,Nat.reduceLeDiff,Ld.D,cZ,kW];exact rfl) (hm:=by simp only[lV,gM,kF,mQ,oN,bO,Nat.reduceEqDiff,if_true,if_false,and_self,true_and,and_true,false_and,and_false,Nat.zero_add,List.length_map,Nat.le_refl,List.drop_zero,aL,reduceCtorEq,List.length_cons,List.length_nil,Nat.reduceAdd,Nat.reduceLeDiff,Ld.D,cZ,kW];exact rfl) ?_;refine bq hm (ι:=(List aU×List ah)) (fun z=>[⟨true,.ptr 0 2 0 0⟩,⟨true,.ptr 1 9 0 0⟩,⟨true,.bool false⟩,⟨true,.fn 1000465 [.ptr 0 2 0 0]⟩,.un,.un,.un,.un,.un,.un,.un,.un,⟨true,.ptr 2 9 0 0⟩,.un,.un,.un,.un,.un,.un,.un]) (fun z=>[(0,.buf 2 [Ld.D (r.to z.2)]),(1,.buf 9 [cZ]),(2,.buf 9 [kW nm v ((.sl 3 (N.map aR.D))) ((.sl 3 (B.map ee.D))) (.own 3 2 0 (z.1).length)]),(3,.buf 2 (z.1.map aU.D))]) 10 (fun z=>z.2<:+r.ls∧z.1.length+z.2.length≤r.ls.length∧dk pb=(z.1++(dk z.2).1,(dk z.2).2)) (fun z=>z.2.length) ([],pb) ⟨hq1,by simpa using hpl2,by simp⟩ (aP.to [(1,1),(2,2)] ae ae dV (by refine aC.de ae ae ae ?_;refine aC.de ae ae ae ?_;refine aC.ni 2 ae ae (by exact⟨_,_,rfl,⟨_,rfl,⟨_,_,rfl,⟨rfl,rfl⟩,⟨_,_,rfl,⟨rfl,rfl⟩,⟨_,_,rfl,⟨rfl,rfl⟩,⟨_,_,rfl,⟨rfl,rfl⟩,⟨_,_,rfl,⟨rfl,rfl⟩,⟨_,_,rfl,⟨rfl,rfl⟩,⟨_,_,rfl,⟨rfl,rfl⟩,⟨_,_,rfl,⟨rfl,rfl⟩,⟨_,_,rfl,Or.inr ⟨_,_,_,rfl⟩,rfl⟩⟩⟩⟩⟩⟩⟩⟩⟩⟩,rfl⟩) ?_;refine aC.mt ae ae ae ae ?_;exact aC.nil)) ?_;rintro⟨Z,pf⟩ ⟨hq1,hlen,hw⟩;dsimp only at hq1 hlen hw⊢;refine az ?_;refine jA (n:=1000465) (Wo:=[.ptr 0 2 0 0,.str bD,.int .i64 ((0:Nat):Int),.bool false]) (ι:=Unit) (fun _=>True) (fun _=>.tup [vw (bg bD 0 false pf),.bool (bg bD 0 false pf).isSome]) 10 (fun _=>[(0,.buf 2 [Ld.D (r.to (cD bD 0 false pf))]),(1,.buf 9 [cZ]),(2,.buf 9 [kW nm v ((.sl 3 (N.map aR.D))) ((.sl 3 (B.map ee.D))) (.own 3 2 0 (Z).length)]),(3,.buf 2 (Z.map aU.D))]) (fun _ _=>?_) (hc:=fun K' hK=>sY h9465 hp0 hq1 (w:=bD) (n:=0) (op:=false) (by decide) (by decide) ae (hK () trivial)) (hn:=by decide);refine ay ?_;refine fS _ ?_;refine dA ?_;refine aq (fun hc4=>?_) (fun hc4=>?_)
   ·simp only[Bool.not_eq_true']at hc4;have hq:=gA hc4;have hnr:cD bD 0 false pf=pf:=by simp only[cD,hq]
    rw[hnr];have hf2:dk pb=(Z,pf):=by rw[hw,yM hq,List.append_nil]
    refine az ?_;have hbd:od nm v q0=(⟨nm,v,N,B,Z⟩,pf):=by simp only[od,hn2,jd,hf2]
    rw[hbd];refine ey 3 (hn:=bt (fun _=>rfl) _) (he:=by simp only[lV,gM,kF,mQ,oN,bO,Nat.reduceEqDiff,if_true,if_false,and_self,true_and,and_true,false_and,and_false,Nat.zero_add,List.length_map,Nat.le_refl,List.drop_zero,aL,reduceCtorEq,List.length_cons,List.length_nil,Nat.reduceAdd,Nat.reduceLeDiff,Ld.D,cZ,kW];exact rfl) (hm:=by simp only[lV,gM,kF,mQ,oN,bO,Nat.reduceEqDiff,if_true,if_false,and_self,true_and,and_true,false_and,and_false,Nat.zero_add,List.length_map,Nat.le_refl,List.drop_zero,aL,reduceCtorEq,List.length_cons,List.length_nil,Nat.reduceAdd,Nat.reduceLeDiff,Ld.D,cZ,kW];exact rfl) ?_;refine ay ?_;refine cE (d:=Rec.D ⟨nm,v,N,B,Z⟩) ?_;refine aJ (Rec.D ⟨nm,v,N,B,Z⟩) (he:=by exact rfl) ?_;refine az ?_;refine eh trivial sC (Eq.trans ae (aV ?_ ?_)) ae ae ae;all_goals rfl
   simp only[Bool.not_eq_false']at hc4;obtain⟨⟨l,q2⟩,hq⟩:=gB hc4;have hnr:cD bD 0 false pf=q2:=by simp only[cD,hq]
   obtain⟨hl,hlm,hq2,hqp⟩:=ke hp0 hq1 hq;rw[hnr,hq];have hll2:=FF hp0 hq1 hq;refine aQ ?_;intro u0;refine ax ?_;refine cG (fun hc5=>?_) fun hc5=>?_
   ·refine ax ?_;have hf2:dk pb=(Z,pf):=by rw[hw,C1 hq (by omega),List.append_nil]
    obtain⟨t,hpt,_⟩:=dn hq;obtain⟨hab1,hab2⟩:=(hp0.to q2).1;refine az ?_;refine cu (v:=.int .i64 ((r.to q2).at':Nat)) ?_;refine az ?_;refine aJ (Ld.D (r.to pf)) (he:=by rw[hpt];exact Ld.back (hpt▸hq1)) ?_;refine aA ?_;have hbd:od nm v q0=(⟨nm,v,N,B,Z⟩,pf):=by simp only[od,hn2,jd,hf2]
    rw[hbd];refine ey 3 (hn:=bt (fun _=>rfl) _) (he:=by simp only[lV,gM,kF,mQ,oN,bO,Nat.reduceEqDiff,if_true,if_false,and_self,true_and,and_true,false_and,and_false,Nat.zero_add,List.length_map,Nat.le_refl,List.drop_zero,aL,reduceCtorEq,List.length_cons,List.length_nil,Nat.reduceAdd,Nat.reduceLeDiff,Ld.D,cZ,kW];exact rfl) (hm:=by simp only[lV,gM,kF,mQ,oN,bO,Nat.reduceEqDiff,if_true,if_false,and_self,true_and,and_true,false_and,and_false,Nat.zero_add,List.length_map,Nat.le_refl,List.drop_zero,aL,reduceCtorEq,List.length_cons,List.length_nil,Nat.reduceAdd,Nat.reduceLeDiff,Ld.D,cZ,kW];exact rfl) ?_;refine ay ?_;refine cE (d:=Rec.D ⟨nm,v,N,B,Z⟩) ?_;refine aJ (Rec.D ⟨nm,v,N,B,Z⟩) (he:=by exact rfl) ?_;refine az ?_;refine eh trivial sC (Eq.trans ae (aV ?_ ?_)) ae ae ae;all_goals rfl
   refine ax ?_;have h2l:2≤l.length:=by omega
   refine ay ?_;refine cu (v:=.own 3 2 0 Z.length) ?_;refine ay ?_;refine cK 1 (hb:=fun _=>by omega) ?_;refine bQ (v:=.str l[1]!) (hi:=fun _=>by omega) ?_;refine ay ?_;refine uE 2 (hb:=fun _=>by omega) ?_;refine aj (hc:=h469 (l.drop 2) (by rw[List.length_drop];omega)) ?_;refine bA (aU.D ⟨l[1]!,l.drop 2⟩) ?_;refine cz [aU.D ⟨l[1]!,l.drop 2⟩] ?_;refine iX (q:=aU.D) (xs:=Z) (e:=⟨l[1]!,l.drop 2⟩) ?_;refine ay ?_;refine aJ (kW nm v (.sl 3 (N.map aR.D)) (.sl 3 (B.map ee.D)) (.own 32 2 0 (Z++[(⟨l[1]!,l.drop 2⟩:aU)]).length)) (he:=by exact rfl) ?_;refine az ?_;have hsl:=Nat.le_refl 0;exact⟨(Z++[⟨l[1]!,l.drop 2⟩],q2),⟨hq2,by simp only[List.length_append,List.length_cons,List.length_nil];omega,by rw[hw,AG hq h2l];simp⟩,by dsimp only;omega,(aP.to [(1,1),(2,2),(32,3)] ae ae dV (by refine aC.de ae ae ae ?_;refine aC.de ae ae ae ?_;refine aC.eq 2 ae ae ae ?_;refine aC.nl 32 ae ae rfl (by exact bt (fun _=>rfl) _) ?_;exact aC.nil))⟩
  simp only[Bool.not_eq_false']at hc3;obtain⟨⟨l,q2⟩,hq⟩:=gB hc3;have hnr:cD eQ 3 true pb=q2:=by simp only[cD,hq]
  obtain⟨hl,hlm,hq2,hqp⟩:=ke hp0 hq1 hq;rw[hnr,hq];obtain hl:l.length=3:=by rcases hl with h|h;cases h;exact h
  refine az ?_;refine Gn (v:=.own 3 3 0 B.length) ?_;refine ay ?_;refine cK 1 (hb:=fun _=>by omega) ?_;refine Gp (v:=.str l[1]!) (hi:=fun _=>by omega) ?_;refine ay ?_;refine cK 2 (hb:=fun _=>by omega) ?_;refine Gp (v:=.str l[2]!) (hi:=fun _=>by omega) ?_;refine ay ?_;refine jr (hc:=yh h468 hp0 hq2) ?_;refine bA (ee.D ⟨l[1]!,l[2]!,(bp q2).1⟩) ?_;refine cz [ee.D ⟨l[1]!,l[2]!,(bp q2).1⟩] ?_;refine iX (q:=ee.D) (xs:=B) (e:=⟨l[1]!,l[2]!,(bp q2).1⟩) ?_;refine ay ?_;refine aJ (kW nm v (.sl 3 (N.map aR.D)) (.own 31 3 0 (B++[(⟨l[1]!,l[2]!,(bp q2).1⟩:ee)]).length) .ar) (he:=by exact rfl) ?_;refine az ?_;have hsl:=(fV q2).length_le;exact⟨(B++[⟨l[1]!,l[2]!,(bp q2).1⟩],(bp q2).2),⟨(fV q2).trans hq2,by simp only[List.length_append,List.length_cons,List.length_nil];omega,by rw[hw,tx hq];simp⟩,by dsimp only;omega,(aP.to [(1,1),(2,2),(31,3)] ae ae dV (by refine aC.de ae ae ae ?_;refine aC.de ae ae ae ?_;refine aC.eq 2 ae ae ae ?_;refine aC.nl 31 ae ae rfl (by exact bt (fun _=>rfl) _) ?_;exact aC.nil))⟩
 simp only[Bool.not_eq_false']at hc2;obtain⟨⟨l,q2⟩,hq⟩:=gB hc2;have hnr:cD ed 1 false p=q2:=by simp only[cD,hq]
 obtain⟨hl,hlm,hq2,hqp⟩:=ke hp0 hq1 hq;rw[hnr,hq];refine az ?_;refine Gn (v:=.own 3 3 0 N.length) ?_;refine ay ?_;refine jr (hc:=Ij h467 hp0 hq2) ?_;refine cz [aR.D (cX q2).1] ?_;refine iX (q:=aR.D) (xs:=N) (e:=(cX q2).1) ?_;refine ay ?_;refine aJ (kW nm v (.own 24 3 0 (N++[(cX q2).1]).length) .ar .ar) (he:=by exact rfl) ?_;refine az ?_;have hsl:=(nK q2).length_le;exact⟨(N++[(cX q2).1],(cX q2).2),⟨(nK q2).trans hq2,by simp only[List.length_append,List.length_cons,List.length_nil];omega,by rw[hw,rQ hq];simp⟩,by dsimp only;omega,(aP.to [(1,1),(2,2),(24,3)] ae ae dV (by refine aC.de ae ae ae ?_;refine aC.de ae ae ae ?_;refine aC.eq 2 ae ae ae ?_;refine aC.nl 24 ae ae rfl (by exact bt (fun _=>rfl) _) ?_;exact aC.nil))⟩
def L4 (Γ:Ctx):Prop:=∀(r:Ld),(r.sm)→Γ.fp 222 (Ld.D r) []∧Γ.fv 222 (Ld.D r) []=.tup [Rec.D (et r.rest).1,.bool (pc r.rest).isSome]∧Γ.fs 222 (Ld.D r) []=Ld.D (r.to (et r.rest).2)
end Go.Abs
end
namespace Go.Abs
def xg (p:List ah):Prop:=∀t∈p,t.length≤1048576
def xg.get {l:List ah}(h:xg l)(i:Nat):l[i]!.length≤1048576:=by
 rcases Nat.lt_or_ge i l.length with hi|hi
 ·exact h _ (bL hi)
 ·simp[hi];exact Nat.zero_le _
def xg.next {p:List ah}(hp:xg p){w:ah}{n:Nat}{op:Bool}{l q:List ah}(h:bg w n op p=some (l,q)):xg l∧xg q∧l.length≤1048577:=by
 obtain⟨t,rfl,ht⟩:=dn h;obtain⟨_,_,h3⟩:=qU ht;have h0:=hp t (.head _);refine⟨fun u hu=>?_,fun u hu=>hp u (.tail _ hu), ?_⟩
 ·rw[h3]at hu;have:=Ae hu;omega
 ·have:=wZ n op t;rw[h3];omega
def xg.IV {p q:List ah}(hp:xg p)(h:q<:+p):xg q:=fun t ht=>hp t (h.subset ht)
def Ea {l:List ah}(h:xg l):(eR l).sm:=by
 refine⟨⟨h.get 1,h.get 4⟩,fun t ht=>?_⟩;unfold eR at ht;simp only at ht;split at ht
 ·cases ht
 ·have:=dr _ _ ht;have:=h.get 2;omega
def B7 {w:ah}{n:Nat}{op:Bool}{t:ah}{r l:List ah}(h:eE w n op t=some l):bg w n op (t::r)=some (l,r):=by simp only[bg,h]
def uY:∀p:List ah,xg p→∀x∈(bP p).1,x.sm
 |[],_,x,hx=>by simp[bP]at hx
 |t::r,hp,x,hx=>by
  have ih:=uY r (fun u hu=>hp u (.tail _ hu));simp only[bP]at hx;split at hx
  ·rename_i l hl;split at hx
   ·simp only[List.mem_cons]at hx;rcases hx with rfl|hx
    ·exact Ea (hp.next (B7 (r:=r) hl)).1
    ·exact ih x hx
   ·simp at hx
  ·simp at hx
def Ab {p:List ah}(hp:xg p):(bp p).1.length≤1048576:=by
 unfold bp;split
 ·rename_i h;exact(hp.next h).1.get 1
 ·simp
def Is {p:List ah}(hp:xg p):(oV p).1.length≤1048576:=by
 unfold oV;split
 ·rename_i h;exact(hp.next h).1.get 1
 ·simp
def FD {p:List ah}(hp:xg p):(cX p).1.sm:=⟨uY p hp,Ab (hp.IV (kn p)),Is ((hp.IV (kn p)).IV (fV _))⟩
def wo:∀(f:Nat)(p:List ah),xg p→(∀x∈(iW f p).1,x.sm)∧(iW f p).2<:+p
 |0,p,_=>⟨fun x hx=>by simp[iW]at hx,List.suffix_refl _⟩
 |f+1,p,hp=>by
  simp only[iW];split
  ·rename_i l r h;have hr:=(hp.next h).2.1;obtain⟨i1,i2⟩:=wo f (cX r).2 (hr.IV (nK r));refine⟨fun x hx=>?_,i2.trans ((nK r).trans (kV h))⟩;simp only[List.mem_cons]at hx;rcases hx with rfl|hx
   ·exact FD hr
   ·exact i1 x hx
  ·exact⟨fun x hx=>by simp at hx,List.suffix_refl _⟩
def yC:∀(f:Nat)(p:List ah),xg p→(∀x∈(lS f p).1,x.sm)∧(lS f p).2<:+p
 |0,p,_=>⟨fun x hx=>by simp[lS]at hx,List.suffix_refl _⟩
 |f+1,p,hp=>by
  simp only[lS];split
  ·rename_i l r h;obtain⟨hl,hr,_⟩:=hp.next h;obtain⟨i1,i2⟩:=yC f (bp r).2 (hr.IV (fV r));refine⟨fun x hx=>?_,i2.trans ((fV r).trans (kV h))⟩;simp only[List.mem_cons]at hx;rcases hx with rfl|hx
   ·exact⟨hl.get 1,hl.get 2,Ab hr⟩
   ·exact i1 x hx
  ·exact⟨fun x hx=>by simp at hx,List.suffix_refl _⟩
def vS:∀(p:List ah),xg p→(∀x∈(dk p).1,x.sm)∧(dk p).2<:+p
 |[],_=>⟨fun x hx=>by simp[dk]at hx,List.suffix_refl _⟩
 |t::r,hp=>by
  obtain⟨i1,i2⟩:=vS r (fun u hu=>hp u (.tail _ hu));simp only[dk];split
  ·rename_i l hl;obtain⟨hlm,_,hll⟩:=hp.next (B7 (r:=r) hl);split
   ·refine⟨fun x hx=>?_,i2.trans (List.suffix_cons _ _)⟩;simp only[List.mem_cons]at hx;rcases hx with rfl|hx
    ·refine⟨hlm.get 1, ?_,fun u hu=>hlm u (List.mem_of_mem_drop hu)⟩;simp only[List.length_drop];omega
    ·exact i1 x hx
   ·exact⟨fun x hx=>by simp at hx,List.suffix_refl _⟩
  ·exact⟨fun x hx=>by simp at hx,List.suffix_refl _⟩
def Cj:kg n6:=⟨⟨by decide,by decide,by decide⟩,fun n hn=>(by cases hn),fun n hn=>(by cases hn),fun n hn=>(by cases hn)⟩
def IG {p:List ah}(hp:xg p):kg (et p).1∧(et p).2<:+p:=by
 unfold et pc;cases h:bg cT 3 false p with
 |none=>exact⟨Cj,List.suffix_refl _⟩
 |some lq=>
  obtain⟨l,r⟩:=lq;obtain⟨hl,hr,_⟩:=hp.next h;simp only;cases hv:kE l[2]! with
  |none=>exact⟨Cj,List.suffix_refl _⟩
  |some v=>
   have hvs:=IZ (hl.get 2);rw[hv]at hvs;obtain⟨n1,n2⟩:=wo r.length r hr;obtain⟨b1,b2⟩:=yC (ez r).2.length (ez r).2 (hr.IV n2);obtain⟨f1,f2⟩:=vS (jF (ez r).2).2 ((hr.IV n2).IV b2);exact⟨⟨⟨hl.get 1,hvs⟩,n1,b1,f1⟩,f2.trans (b2.trans (n2.trans (kV h)))⟩
def e8 (s:ah):Rec×Int×Int:=
 if 4096<s.length then(n6,3,0)
 else
  let ls:=(ai s 10).take ((ai s 10).length-1)
  if(pc ls).isSome=false∨(et ls).2≠[]∨(ai s 10)[(ai s 10).length-1]! ≠[]then(n6,2,((ls.length-(et ls).2.length:Nat):Int)+1)
  else if(cg (et ls).1).1≠0 then(n6,(cg (et ls).1).1,0)
  else((et ls).1,0,0)
end Go.Abs
section
namespace Go.Abs
open Go
def zE:aB:=⟨3,8,[⟨3,none⟩],cq,(sq (rg [gb 9 s0,gm bH] [(5,0),(3,1)]) (sq (.block 0 (sq (r1 [gm s1,gx 208 [l0] cq,n4 l1,gm l2] 4 3) (.cond s4 (sq (r1 [gm vc] 3 0) .ret) (sq (r1 [gm s1,gf 0 s5,gd l1,aF l0 l2,gm l3] 6 4) (.cond s6 (sq (r1 [gm HV] 3 0) .ret) (sq (r1 [gm s2,gx 444 [l0] cq,n4 l1,gm l2] 7 3) (.cond s7 (sq (r1 [gm AP] 3 0) .ret) .skip))))))) (sq (r1 [gm bH] 3 0) .ret)))⟩
def w211 {Γ:Ctx}(hm:(Γ.at 0).bj)(h208:G7 Γ)(h444:Mk Γ)(r:Rec)(name:ah)(rng:ah)  (hp0:rng.length≤1048576):dK Γ zE (.int .i64 (iP r name rng)) [Rec.D r,.str name,.str rng]:=by
 show bB _ _ _ [⟨_,_⟩,⟨_,_⟩,⟨_,_⟩,_,_,_,_,_] _;refine ak ?_;refine aO ?_;refine aj (hc:=h208 _) ?_;refine az ?_;refine gw (fun hc0=>?_) fun hc0=>?_
 ·refine aQ ?_;refine iq ?_;rw[iP,if_pos hc0]
 refine bc ?_;refine gw (fun hc1=>?_) fun hc1=>?_
 ·refine aQ ?_;refine iq ?_;rw[iP,if_neg (by simp[hc0]),if_pos hc1]
 refine ax ?_;refine aj (hc:=h444 rng hp0) ?_;refine az ?_;refine gw (fun hc2=>?_) fun hc2=>?_
 ·refine aQ ?_;refine iq ?_;rw[iP,if_neg (by simp[hc0]),if_neg hc1,if_pos hc2]
 refine aO ?_;refine iq ?_;rw[iP,if_neg (by simp[hc0]),if_neg hc1,if_neg (by simp[hc2])]
def JH (Γ:Ctx):Prop:=∀(r:Rec)(name:ah)(rng:ah),(rng.length≤1048576)→Γ.pre 211 [Rec.D r,.str name,.str rng]∧Γ.val 211 [Rec.D r,.str name,.str rng]=.int .i64 (iP r name rng)
def zF:aB:=⟨3,16,[⟨3,none⟩],cq,(sq (rg [gb 9 s0,gb 4 s1,gm bH] [(4,0),(5,1),(3,2)]) (sq (sq (r1 [gk 9 true s4,gf 0 s5,gd l1,gf 1 s5,gd l3,gx 211 [l0,l2,l4] [[.a,.a,.a,.a,.a,.a,.sl 3 [.sl 4 [.a,.a,.sl 1 [.a],.a],.a,.a],.sl 3 [.a,.a,.a],.sl 2 [.a,.sl 1 [.a]]],[.a],[.a]],gm l5] 6 6) (sq (r1 [gm s6,b7 l0 bH] 7 1) (.cond s7 (sq (r1 [gm s6,gm l0] 3 1) .ret) .skip))) (sq (sq (r1 [gf 2 s5,gd l0,gl l1,dH l2 AP,gm l3,kQ 4 2 s5,mc 4 l5,cH 4 (.len l6),cH 4 (dw l7 bH),fu 4 l8,gmt 9 s2,cw 9 (.un .not l10),Ei 4 l9 jx,gp l4 kT] 8 13) (.cond s8 (sq (r1 [gm (i6 11)] 3 0) .ret) .skip)) (sq (sq (rg [gf 2 s5,gd l0,gl l1,gm bH] [(12,1),(10,2),(9,3)]) (.block 0 (.loop (sq (r1 [aX s9 lf] 11 0) (sq (iw n7 0) (sq (.block 1 (sq (rg [gm s9,ga 1 mi s9,gd l1,gm l0,gm l2] [(14,3),(13,4)]) (sq (r1 [gm uL,gx 349 [l0] cq,n4 l1,gm l2,fu 3 td,cH 3 (dw l4 bH),fu 3 l5,kd 6 2 s5,jZ 6 l7,gmt 6 td,cw 6 (mB l9 ca),cw 6 (.ia 1 l8 l10),jZ 6 jx,gmt 6 uL,cw 6 (yz kT mw),Ei 3 l6 nJ,gp l3 ot] 15 16) (.cond wD (sq (r1 [gm (i6 11)] 3 0) .ret) .skip)))) (r1 [au s9 ca,gm l0] 9 1))))))) (sq (r1 [gm bH] 3 0) .ret)))))⟩
def w443 {Γ:Ctx}(hm:(Γ.at 0).bj)(h211:JH Γ)(h349:Al Γ)(r:Rec)(w:aT)(al:Bool)  (hp0:w.sm):dK Γ zF (.int .i64 (jX r w al)) [Rec.D r,aT.D w,.bool al]:=by
 show bB _ _ _ [⟨_,_⟩,⟨_,_⟩,⟨_,_⟩,_,_,_,_,_,_,_,_,_,_,_,_,_] _;refine ak ?_;refine gI ?_;refine aj (hc:=h211 r w.name w.range hp0.1.2) ?_;refine bc ?_;refine cG (fun hc0=>?_) fun hc0=>?_
 ·refine aO ?_;refine iq ?_;rw[jX,if_pos hc0]
 refine aO ?_;intro u0;refine aA ?_;refine n9 ?_;refine bc ?_;refine aq (fun hc1=>?_) (fun hc1=>?_)
 ·have hq:(decide (w.feats.length≤6)&&(al ||decide (w.feats.length=0)))=false:=by rw[←Bool.not_eq_true',←GQ];exact hc1
  refine aQ ?_;refine iq ?_;rw[jX,if_neg (by simp[hc0]),if_pos (by unfold kl;rw[hq];rfl)]
 have hq:(decide (w.feats.length≤6)&&(al ||decide (w.feats.length=0)))=true:=by rw[←Bool.not_eq_false',←GQ];exact hc1
 refine aO ?_;intro u1;refine ax ?_;refine bq hm (ι:=Nat) (fun i=>[.un,.un,⟨true,.bool al⟩,.un,⟨true,.ptr 0 9 0 0⟩,⟨true,.ptr 1 4 0 0⟩,.un,.un,.un,⟨true,.int .i64 (i:Nat)⟩,⟨true,.int .i64 (w.feats.length:Nat)⟩,.un,⟨true,.sl 1 (w.feats.map D.str)⟩,.un,.un,.un]) (fun i=>[(0,.buf 9 [Rec.D r]),(1,.buf 4 [aT.D w])]) 30 (fun i=>i≤w.feats.length∧kl w.feats al=cd (LA w.feats) i w.feats.length) (fun i=>w.feats.length-i) 0 ⟨by omega,by unfold kl;rw[hq,Bool.true_and]⟩ (dT [(0,0),(1,1)]) ?_;rintro i ⟨hi,hr⟩;refine az ?_;refine cG (fun hc2=>?_) fun hc2=>?_
 ·refine gI ?_;refine aj (hc:=h349 _) ?_;refine dA ?_;refine cK (i-1) ?_;refine aO ?_;refine wp_cond (fun hc3=>?_) (fun hc3=>?_)
  ·have hz:LA w.feats i=false:=by rw[←Bool.not_eq_true',←Oe];exact hc3
   refine aO ?_;refine iq ?_;rw[jX,if_neg (by simp[hc0]),if_pos (by rw[hr,aD (by omega),hz];rfl)]
  have hz:LA w.feats i=true:=by rw[←Bool.not_eq_false',←Oe];exact hc3
  refine bc ?_;exact⟨i+1,⟨by omega,by rw[hr,aD (by omega),hz];rfl⟩,by omega,(dT [(0,0),(1,1)])⟩
 refine aO ?_;refine iq ?_;rw[jX,if_neg (by simp[hc0]),if_neg (by rw[hr,bK (by omega)];simp)]
def Mj (Γ:Ctx):Prop:=∀(r:Rec)(w:aT)(al:Bool),(w.sm)→Γ.pre 443 [Rec.D r,aT.D w,.bool al]∧Γ.val 443 [Rec.D r,aT.D w,.bool al]=.int .i64 (jX r w al)
def zC:aB:=⟨2,16,[⟨2,none⟩],cq,(sq (rg [gb 9 s0,gb 3 s1,gm bH] [(10,0),(3,1),(2,2)]) (sq (sq (r1 [gf 0 s3,gd l0,gl l1,aF l2 bH] 4 3) (.cond s4 (sq (r1 [gm BX] 2 0) .ret) .skip)) (sq (sq (r1 [gf 0 s3,gd l0,gl l1,dH l2 kG] 5 3) (.cond s5 (sq (r1 [gm kG] 2 0) .ret) .skip)) (sq (sq (rg [gf 0 s3,gd l0,gl l1,gm bH] [(9,1),(7,2),(6,3)]) (.block 0 (.loop (sq (r1 [aX s6 s7] 8 0) (sq (iw s8 0) (sq (.block 1 (sq (r1 [ga 4 s9 s6,gk 4 true l0,gb 4 (.c (.agg [.str [],.str [],.ar,.bool false])),gt 4 l2 l1] 11 2) (sq (r1 [gk 9 true lf,gk 4 true n7,gf 0 s3,gd l2,gl l3,aF l4 ca,gx 443 [l0,l1,l5] [[.a,.a,.a,.a,.a,.a,.sl 3 [.sl 4 [.a,.a,.sl 1 [.a],.a],.a,.a],.sl 3 [.a,.a,.a],.sl 2 [.a,.sl 1 [.a]]],[.a,.a,.sl 1 [.a],.a],[.a]],gm l6] 12 7) (sq (r1 [gm mi,b7 l0 bH] 13 1) (.cond uL (sq (r1 [gm mi,gm l0] 2 1) .ret) .skip))))) (r1 [au s6 ca,gm l0] 6 1))))))) (sq (sq (r1 [gf 1 s3,gd l0,gx 212 [l1] cq,n4 l2] 14 3) (.cond td (sq (r1 [gm KD] 2 0) .ret) .skip)) (sq (sq (r1 [gf 2 s3,gd l0,b7 l1 cse,gm l2,kd 3 2 s3,jZ 3 l4,cw 3 (.call 349 [l5] cq),cw 3 (.un .not l6),fk l3 l7] 15 8) (.cond wD (sq (r1 [gm (i6 14)] 2 0) .ret) .skip)) (sq (r1 [gm bH] 2 0) .ret)))))))⟩
def w210 {Γ:Ctx}(hm:(Γ.at 0).bj)(h212:JI Γ)(h349:Al Γ)(h443:Mj Γ)(r:Rec)(n:aR)  (hp0:n.sm):dK Γ zC (.int .i64 (jf r n)) [Rec.D r,aR.D n]:=by
 show bB _ _ _ [⟨_,_⟩,⟨_,_⟩,_,_,_,_,_,_,_,_,_,_,_,_,_,_] _;refine ak ?_;refine dA ?_;intro u0;refine ax ?_;refine cG (fun hc0=>?_) fun hc0=>?_
 ·refine aQ ?_;refine iq ?_;rw[jf,if_pos (by omega)]
 refine aO ?_;intro u1;refine ax ?_;refine cG (fun hc1=>?_) fun hc1=>?_
 ·refine aQ ?_;refine iq ?_;rw[jf,if_neg (by omega),if_pos (by omega)]
 refine aO ?_;intro u2;refine ax ?_;refine bq hm (ι:=Nat) (fun i=>[.un,.un,.un,⟨true,.ptr 1 3 0 0⟩,.un,.un,⟨true,.int .i64 (i:Nat)⟩,⟨true,.int .i64 (n.any.length:Nat)⟩,.un,⟨true,.sl 4 (n.any.map aT.D)⟩,⟨true,.ptr 0 9 0 0⟩,.un,.un,.un,.un,.un]) (fun i=>[(0,.buf 9 [Rec.D r]),(1,.buf 3 [aR.D n])]) 15 (fun i=>i≤n.any.length∧lQ r n.any=gy (fun i=>jX r n.any[i]! (decide ((n.any.length:Int)=1))) i n.any.length) (fun i=>n.any.length-i) 0 ⟨by omega,rfl⟩ (dT [(0,0),(1,1)]) ?_;rintro i ⟨hi,hr⟩;refine az ?_;refine cG (fun hc2=>?_) fun hc2=>?_
 ·refine aA ?_;first|refine bQ (v:=(aT.D _)) ?_|refine ec (v:=(aT.D _)) ?_
  refine ay ?_;refine aJ (aT.D n.any[i]!) (he:=by exact rfl) ?_;refine bc ?_;intro u3;refine ay ?_;refine aj (hc:=h443 r n.any[i]! _ (hp0.1 _ (bL (by omega)))) ?_;refine aO ?_;refine gw (fun hc3=>?_) fun hc3=>?_
  ·refine bc ?_;refine iq ?_;have hw:lQ r n.any=jX r n.any[i]! (decide ((n.any.length:Int)=1)):=by rw[hr,tM (by omega) hc3]
   rw[jf,if_neg (by omega),if_neg (by omega),if_pos (by rw[hw];exact hc3),hw]
  refine bc ?_;exact⟨i+1,⟨by omega,by rw[hr,qI (by omega) hc3]⟩,by omega,(dT [(0,0),(1,1)])⟩
 refine aA ?_;have hw0:lQ r n.any=0:=by rw[hr,qH (by omega)]
 refine ax ?_;refine aj (hc:=h212 _) ?_;refine ax ?_;refine aq (fun hc4=>?_) (fun hc4=>?_)
 ·try simp only[iB]at hc4
  refine aQ ?_;refine iq ?_;rw[jf,if_neg (by omega),if_neg (by omega),if_neg (by simp[hw0]),if_pos hc4]
 simp only[Bool.not_eq_false']at hc4;refine dA ?_;refine aj (hc:=h349 _) ?_;refine az ?_;refine aq (fun hc5=>?_) (fun hc5=>?_)
 ·try simp only[iB]at hc5
  refine aQ ?_;refine iq ?_;rw[jf,if_neg (by omega),if_neg (by omega),if_neg (by simp[hw0]),if_neg (by simp[hc4]),if_pos hc5]
 simp only[Bool.and_eq_false_iff,Bool.not_eq_false',decide_eq_true_eq]at hc5;refine aQ ?_;refine iq ?_;rw[jf,if_neg (by omega),if_neg (by omega),if_neg (by simp[hw0]),if_neg (by simp[hc4]),if_neg (by rintro⟨g1,g2⟩;rcases hc5 with h|h;exact g1 h;rw[g2]at h;cases h)]
def L0 (Γ:Ctx):Prop:=∀(r:Rec)(n:aR),(n.sm)→Γ.pre 210 [Rec.D r,aR.D n]∧Γ.val 210 [Rec.D r,aR.D n]=.int .i64 (jf r n)
def zB:aB:=⟨2,15,[⟨2,none⟩],cq,(sq (rg [gb 9 s0,gm bH] [(3,0),(2,1)]) (sq (rg [gm s1,gx 448 [l0] cq,gm l1,ge l2 0,ge l2 1,ge l2 2,gm l3,gm l4,gm l5] [(8,6),(10,7)]) (sq (sq (rg [gf 6 s3,gd l0,gl l1,gm bH] [(7,1),(5,2),(4,3)]) (.block 0 (.loop (sq (r1 [aX s4 s5] 6 0) (sq (iw s6 0) (sq (.block 1 (sq (r1 [ga 3 s7 s4,gk 3 true l0,gb 3 (.c (.agg [.ar,.str [],.str []])),gt 3 l2 l1] 9 2) (sq (r1 [gm s8,aF l0 kR,gm l1,kd 2 2 s9,jZ 2 l3,gmt 2 lf,cw 2 (cR l4 l5),fk l2 l6,gm l7,fu 8 s8,cH 8 (cR l9 kG),fu 8 l10,kd 11 0 s9,jZ 11 kT,cw 11 (.len mw),cw 11 (cR nJ ca),Ei 8 jx ot,fu 8 qk,kd 17 0 s9,jZ 17 we,cw 17 (.ia 4 za bH),kd 17 0 AS,jZ 17 B0,gmt 17 lf,cw 17 (cR Ej H7),Ei 8 ve H8,gp l8 H9] 11 26) (.cond n7 (sq (r1 [gm bH] 2 0) .ret) .skip)))) (r1 [au s4 ca,gm l0] 4 1))))))) (sq (sq (r1 [gm s8] 12 0) (.block 2 (sq (r1 [aF mi kR,gm l0] 13 1) (.cond uL (sq (r1 [gm (i6 14)] 2 0) .ret) (sq (r1 [aF mi kG,gm l0] 14 1) (.cond td (sq (r1 [gm (i6 16)] 2 0) .ret) .skip)))))) (sq (r1 [gm bH] 2 0) .ret)))))⟩
def w214 {Γ:Ctx}(hm:(Γ.at 0).bj)(h448:JO Γ)(r:Rec)(s:ah)  (hp0:s.length≤1048576):dK Γ zB (.int .i64 (je r s)) [Rec.D r,.str s]:=by
 show bB _ _ _ [⟨_,_⟩,⟨_,_⟩,_,_,_,_,_,_,_,_,_,_,_,_,_] _;refine ak ?_;refine aQ ?_;refine aj (hc:=h448 s hp0) ?_;refine lZ ?_;intro u0;refine ax ?_;refine bq hm (ι:=Nat) (fun i=>[.un,.un,.un,⟨true,.ptr 0 9 0 0⟩,⟨true,.int .i64 (i:Nat)⟩,⟨true,.int .i64 (r.needs.length:Nat)⟩,.un,⟨true,.sl 3 (r.needs.map aR.D)⟩,⟨true,.int .i64 (cb s).1⟩,.un,⟨true,.str (cb s).2.1⟩,.un,.un,.un,.un]) (fun i=>[(0,.buf 9 [Rec.D r])]) 15 (fun i=>i≤r.needs.length∧je r s=(if(r.needs.drop i).any (G1 (cb s).1 (cb s).2.1)=true then 0 else KG (cb s).1)) (fun i=>r.needs.length-i) 0 ⟨by omega,Fm r s⟩ (dT [(0,0)]) ?_;rintro i ⟨hi,hr⟩;refine az ?_;refine cG (fun hc0=>?_) fun hc0=>?_
 ·refine aA ?_;first|refine bQ (v:=(aR.D _)) ?_|refine ec (v:=(aR.D _)) ?_
  refine ay ?_;refine aJ (aR.D r.needs[i]!) (he:=by exact rfl) ?_;refine xf ?_;refine n9 ?_;refine aQ ?_;refine cK 0 (hb:=fun h=>by simp only[Bool.true_and,beq_iff_eq,Bool.and_eq_true,decide_eq_true_eq]at h;omega) ?_;refine ay ?_;refine bQ (q:=aT.D) (xs:=r.needs[i]!.any) (i:=0) (hi:=fun h=>by simp only[Bool.true_and,beq_iff_eq,Bool.and_eq_true,decide_eq_true_eq]at h;omega) (v:=(.str r.needs[i]!.any[0]!.name)) ?_;refine aQ ?_;refine wp_cond (fun hc1=>?_) (fun hc1=>?_)
  ·have hz:G1 (cb s).1 (cb s).2.1 r.needs[i]! =true:=hc1;refine aO ?_;refine iq ?_;rw[hr,Ho (by omega) hz];rfl
  have hz:G1 (cb s).1 (cb s).2.1 r.needs[i]! =false:=hc1;refine bc ?_;exact⟨i+1,⟨by omega,by rw[hr,Ki (by omega) hz]⟩,by omega,(dT [(0,0)])⟩
 refine aA ?_;have he:je r s=KG (cb s).1:=by rw[hr,Hn (by omega)];rfl
 refine bc ?_;refine gw (fun hc2=>?_) fun hc2=>?_
 ·refine aQ ?_;refine iq ?_;rw[he,KG,if_pos hc2]
 refine aA ?_;refine gw (fun hc3=>?_) fun hc3=>?_
 ·refine aQ ?_;refine iq ?_;rw[he,KG,if_neg hc2,if_pos hc3]
 refine aO ?_;refine iq ?_;rw[he,KG,if_neg hc2,if_neg hc3]
def L2 (Γ:Ctx):Prop:=∀(r:Rec)(s:ah),(s.length≤1048576)→Γ.pre 214 [Rec.D r,.str s]∧Γ.val 214 [Rec.D r,.str s]=.int .i64 (je r s)
end Go.Abs
end
section
namespace Go.Abs
open Go
def xZ:aB:=⟨1,39,[⟨1,none⟩,⟨2,none⟩],jd,(sq (rg [gb 9 s0,gm bH,gm bH] [(3,0),(1,1),(2,2)]) (sq (.block 0 (sq (r1 [gf 0 s3,gd l0,gx 208 [l1] cq,n4 l2,gm l3] 4 4) (.cond s4 (sq (rg [gm vc,gm bH] [(1,0),(2,1)]) .ret) (sq (r1 [gf 1 s3,gk 5 true l0,gx 209 [l1] Kz,n4 l2,gm l3] 5 4) (.cond s5 (sq (rg [gm BW,gm bH] [(1,0),(2,1)]) .ret) (sq (r1 [gf 6 s3,gd l0,gl l1,dH l2 HV,gm l3,kQ 4 7 s3,mc 4 l5,cH 4 (.len l6),cH 4 (dw l7 HV),gp l4 l8,gm l9] 6 10) (.cond s6 (sq (rg [gm kG,gm bH] [(1,0),(2,1)]) .ret) .skip))))))) (sq (sq (rg [gf 6 s3,gd l0,gl l1,gm bH] [(10,1),(8,2),(7,3)]) (.block 1 (.loop (sq (r1 [aX s7 s8] 9 0) (sq (iw s9 1) (sq (.block 2 (sq (rg [gm s7,ga 3 lf s7,gk 3 true l1,gb 3 (.c (.agg [.ar,.str [],.str []])),gm l0,gt 3 l3 l2] [(11,3),(14,4)]) (sq (r1 [gk 9 true s3,gk 3 true n7,gx 210 [l0,l1] [[.a,.a,.a,.a,.a,.a,.sl 3 [.sl 4 [.a,.a,.sl 1 [.a],.a],.a,.a],.sl 3 [.a,.a,.a],.sl 2 [.a,.sl 1 [.a]]],[.sl 4 [.a,.a,.sl 1 [.a],.a],.a,.a]],gm l2] 12 3) (sq (r1 [gm mi,b7 l0 bH] 13 1) (.cond uL (sq (rg [gm mi,gm td,gm l0,gm l1] [(1,2),(2,3)]) .ret) .skip))))) (r1 [au s7 ca,gm l0] 7 1))))))) (sq (sq (rg [gf 7 s3,gd l0,gl l1,gm bH] [(18,1),(16,2),(15,3)]) (.block 3 (.loop (sq (r1 [aX wD Co] 17 0) (sq (iw ym 3) (sq (.block 4 (sq (rg [gm wD,ga 3 D0 wD,gk 3 true l1,gb 3 (.c (.agg [.str [],.str [],.str []])),gm l0,gt 3 l3 l2] [(19,3),(22,4)]) (sq (sq (r1 [gk 9 true s3,gf 0 Lp,gd l1,gf 1 Lp,gd l3,gx 211 [l0,l2,l4] [[.a,.a,.a,.a,.a,.a,.sl 3 [.sl 4 [.a,.a,.sl 1 [.a],.a],.a,.a],.sl 3 [.a,.a,.a],.sl 2 [.a,.sl 1 [.a]]],[.a],[.a]],gm l5] 20 6) (sq (r1 [gm G2,b7 l0 bH] 21 1) (.cond s21 (sq (rg [gm G2,gm s22,gm l0,gm l1] [(1,2),(2,3)]) .ret) .skip))) (sq (r1 [gf 2 Lp,gd l0,gx 212 [l1] cq,n4 l2] 23 3) (.cond s23 (sq (rg [gm s22,gm KD,gm l0] [(1,1),(2,2)]) .ret) .skip))))) (r1 [au wD ca,gm l0] 15 1))))))) (sq (sq (r1 [gf 8 s3,gd l0,gx 213 [l1] [[.sl 2 [.a,.sl 1 [.a]]]],n4 l2] 24 3) (.cond LP (sq (rg [gm (i6 11),gm bH] [(1,0),(2,1)]) .ret) .skip)) (sq (sq (rg [gf 8 s3,gd l0,gl l1,gm bH] [(28,1),(26,2),(25,3)]) (.block 5 (.loop (sq (r1 [aX LR N5] 27 0) (sq (iw s27 5) (sq (.block 6 (sq (rg [gm LR,ga 2 s28 LR,gk 2 true l1,gb 2 (.c (.agg [.str [],.ar])),gm l0,gt 2 l3 l2] [(29,3),(37,4)]) (sq (rg [gf 1 s29,gd l0,gl l1,gm bH] [(33,1),(31,2),(30,3)]) (.block 7 (.loop (sq (r1 [aX Jx s31] 32 0) (sq (iw s32 7) (sq (.block 8 (sq (r1 [ga 1 s33 Jx,gd l0,gm l1] 34 2) (sq (r1 [gk 9 true s3,gm s34,gx 214 [l0,l1] [[.a,.a,.a,.a,.a,.a,.sl 3 [.sl 4 [.a,.a,.sl 1 [.a],.a],.a,.a],.sl 3 [.a,.a,.a],.sl 2 [.a,.sl 1 [.a]]],[.a]],gm l2] 35 3) (sq (r1 [gm s35,b7 l0 bH] 36 1) (.cond s36 (sq (rg [gm s35,gm s37,gm l0,gm l1] [(1,2),(2,3)]) .ret) .skip))))) (r1 [au Jx ca,gm l0] 30 1))))))))) (r1 [au LR ca,gm l0] 25 1))))))) (sq (sq (r1 [gk 9 true s3,gx 215 [l0] [[.a,.a,.a,.a,.a,.a,.sl 3 [.sl 4 [.a,.a,.sl 1 [.a],.a],.a,.a],.sl 3 [.a,.a,.a],.sl 2 [.a,.sl 1 [.a]]]],yl l1,dH l2 (i6 4096)] 38 3) (.cond s38 (sq (rg [gm kG,gm bH] [(1,0),(2,1)]) .ret) .skip)) (sq (rg [gm bH,gm bH] [(1,0),(2,1)]) .ret))))))))⟩
def w70 {Γ:Ctx}(hm:(Γ.at 0).bj)(h208:G7 Γ)(h209:Eo Γ)(h210:L0 Γ)(h211:JH Γ)(h212:JI Γ)(h213:L1 Γ)(h214:L2 Γ)(h215:JJ Γ)(r:Rec)  (hp0:kg r):dK Γ xZ (.tup [.int .i64 (cg r).1,.int .i64 (cg r).2]) [Rec.D r]:=by
 show bB _ _ _ (⟨true,Rec.D r⟩::.un::.un::.un::.un::.un::.un::.un::.un::.un::.un::.un::.un::.un::.un::.un::.un::.un::.un::.un::.un::.un::.un::.un::.un::.un::.un::.un::.un::.un::.un::.un::.un::.un::.un::.un::.un::.un::.un::[]) ⟨0,[]⟩;refine ak ?_;refine b8 ?_;refine aj (hc:=h208 _) ?_;refine az ?_;refine wp_cond (fun hc0=>?_) (fun hc0=>?_)
 ·try simp only[iB]at hc0
  refine aO ?_;refine cj (aV (congrArg (D.int .i64) ?_) (congrArg (D.int .i64) ?_));all_goals (have hq:cg r=(4,0):=(by rw[cg,if_pos hc0]);rw[hq];first|done|rfl)
 simp only[Bool.not_eq_false']at hc0;refine ax ?_;refine cu (v:=df.D r.v) ?_;refine aj (hc:=h209 r.v hp0.1.2) ?_;refine az ?_;refine wp_cond (fun hc1=>?_) (fun hc1=>?_)
 ·try simp only[iB]at hc1
  refine aO ?_;refine cj (aV (congrArg (D.int .i64) ?_) (congrArg (D.int .i64) ?_));all_goals (have hq:cg r=(5,0):=(by rw[cg,if_neg (by simp[hc0]),if_pos hc1]);rw[hq];first|done|rfl)
 simp only[Bool.not_eq_false']at hc1;refine aA ?_;intro u0;refine aA ?_;refine n9 ?_;refine aA ?_;refine gw (fun hc2=>?_) fun hc2=>?_
 ·refine aO ?_;refine cj (aV (congrArg (D.int .i64) ?_) (congrArg (D.int .i64) ?_));all_goals (have hq:cg r=(3,0):=(by rw[cg,if_neg (by simp[hc0]),if_neg (by simp[hc1]),if_pos (by omega)]);rw[hq];first|done|rfl)
 refine bc ?_;intro u1;refine ax ?_;refine bq hm (ι:=Nat) (fun i=>(.un::.un::.un::⟨true,.ptr 0 9 0 0⟩::.un::.un::.un::⟨true,.int .i64 (i:Nat)⟩::⟨true,.int .i64 (r.needs.length:Nat)⟩::.un::⟨true,.sl 3 (r.needs.map aR.D)⟩::.un::.un::.un::.un::.un::.un::.un::.un::.un::.un::.un::.un::.un::.un::.un::.un::.un::.un::.un::.un::.un::.un::.un::.un::.un::.un::.un::.un::[])) (fun i=>[(0,.buf 9 [Rec.D r])]) 28 (fun i=>i≤r.needs.length∧jP r=fg (fun i=>jf r r.needs[i]!) i r.needs.length) (fun i=>r.needs.length-i) 0 ⟨by omega,rfl⟩ (dT [(0,0)]) ?_;rintro i ⟨hi,hr⟩;refine az ?_;refine cG (fun hc3=>?_) fun hc3=>?_
 ·refine aQ ?_;first|refine bQ (v:=(aR.D _)) ?_|refine ec (v:=(aR.D _)) ?_
  refine ax ?_;refine aJ (aR.D r.needs[i]!) (he:=by exact rfl) ?_;refine aA ?_;refine aj (hc:=h210 r r.needs[i]! (hp0.2.1 _ (bL (by omega)))) ?_;refine aO ?_;refine gw (fun hc4=>?_) fun hc4=>?_
  ·refine dA ?_;refine cj (aV (congrArg (D.int .i64) ?_) (congrArg (D.int .i64) ?_));all_goals
    have hq:cg r=(jf r r.needs[i]!,((i:Nat):Int)):=by
     exact mF hc0 hc1 (by omega) (by omega) (F5 (by rw[hr,lC (by omega) hc4]) hc4) hc4
    rw[hq];first|done|rfl
  refine bc ?_;exact⟨i+1,⟨by omega,by rw[hr,nH (by omega) hc4]⟩,by omega,(dT [(0,0)])⟩
 refine aA ?_;have hn0:jP r=(0,0):=by rw[hr,nG (by omega)]
 refine az ?_;intro u2;refine ax ?_;refine bq hm (ι:=Nat) (fun i=>(.un::.un::.un::⟨true,.ptr 0 9 0 0⟩::.un::.un::.un::.un::.un::.un::.un::.un::.un::.un::.un::⟨true,.int .i64 (i:Nat)⟩::⟨true,.int .i64 (r.bars.length:Nat)⟩::.un::⟨true,.sl 3 (r.bars.map ee.D)⟩::.un::.un::.un::.un::.un::.un::.un::.un::.un::.un::.un::.un::.un::.un::.un::.un::.un::.un::.un::.un::[])) (fun i=>[(0,.buf 9 [Rec.D r])]) 33 (fun i=>i≤r.bars.length∧rA r=fg (fun i=>tu r r.bars[i]!) i r.bars.length) (fun i=>r.bars.length-i) 0 ⟨by omega,rfl⟩ (dT [(0,0)]) ?_;rintro i ⟨hi,hr⟩;refine az ?_;refine cG (fun hc5=>?_) fun hc5=>?_
 ·refine aQ ?_;first|refine bQ (v:=(ee.D _)) ?_|refine ec (v:=(ee.D _)) ?_
  refine ax ?_;refine aJ (ee.D r.bars[i]!) (he:=by exact rfl) ?_;refine b8 ?_;refine aj (hc:=h211 r r.bars[i]!.name r.bars[i]!.range (hp0.2.2.1 _ (bL (by omega))).2.1) ?_;refine bc ?_;refine aq (fun hc6=>?_) (fun hc6=>?_)
  ·simp only[Bool.not_eq_true',decide_eq_false_iff_not]at hc6;have hbe:tu r r.bars[i]! =iP r r.bars[i]!.name r.bars[i]!.range:=by rw[tu,if_pos hc6]
   refine jj ?_;refine cj (aV (congrArg (D.int .i64) ?_) (congrArg (D.int .i64) ?_));all_goals
    have hq:cg r=(iP r r.bars[i]!.name r.bars[i]!.range,((i:Nat):Int)):=by
     exact mF hc0 hc1 (by omega) (by omega) (zt hn0 (by rw[hr,lC (by omega) (by rw[hbe];exact hc6),hbe]) hc6) hc6
    rw[hq];first|done|rfl
  try simp only[iB]at hc6
  refine aA ?_;refine aj (hc:=h212 _) ?_;refine ax ?_;refine wp_cond (fun hc7=>?_) (fun hc7=>?_)
  ·simp only[Bool.not_eq_true']at hc7;have hbe:tu r r.bars[i]! =7:=by rw[tu,if_neg (fun h=>h hc6),if_pos hc7]
   refine b8 ?_;refine cj (aV (congrArg (D.int .i64) ?_) (congrArg (D.int .i64) ?_));all_goals
    have hq:cg r=((7:Int),((i:Nat):Int)):=by
     exact mF hc0 hc1 (by omega) (by omega) (zt hn0 (by rw[hr,lC (by omega) (by rw[hbe];decide),hbe]) (show(7:Int)≠0 by decide)) (show(7:Int)≠0 by decide)
    rw[hq];first|done|rfl
  simp only[Bool.not_eq_false']at hc7;have hbz:tu r r.bars[i]! =0:=by rw[tu,if_neg (fun h=>h hc6),if_neg (by rw[hc7];simp)]
  refine bc ?_;exact⟨i+1,⟨by omega,by rw[hr,nH (by omega) hbz]⟩,by omega,(dT [(0,0)])⟩
 refine aA ?_;have hb0:rA r=(0,0):=by rw[hr,nG (by omega)]
 refine ax ?_;refine aj (hc:=h213 r.feats hp0.2.2.2) ?_;refine ax ?_;refine aq (fun hc8=>?_) (fun hc8=>?_)
 ·try simp only[iB]at hc8
  refine aO ?_;refine cj (aV (congrArg (D.int .i64) ?_) (congrArg (D.int .i64) ?_));all_goals
   have hq:cg r=(11,0):=by
    exact mF hc0 hc1 (by omega) (by omega) (F6 hn0 hb0 hc8) (by decide)
   rw[hq];first|done|rfl
 simp only[Bool.not_eq_false']at hc8;refine aO ?_;intro u3;refine ax ?_;refine bq hm (ι:=Nat) (fun i=>(.un::.un::.un::⟨true,.ptr 0 9 0 0⟩::.un::.un::.un::.un::.un::.un::.un::.un::.un::.un::.un::.un::.un::.un::.un::.un::.un::.un::.un::.un::.un::⟨true,.int .i64 (i:Nat)⟩::⟨true,.int .i64 (r.feats.length:Nat)⟩::.un::⟨true,.sl 2 (r.feats.map aU.D)⟩::.un::.un::.un::.un::.un::.un::.un::.un::.un::.un::[])) (fun i=>[(0,.buf 9 [Rec.D r])]) 42 (fun i=>i≤r.feats.length∧qG r=fg (fun i=>oQ r r.feats[i]!.of) i r.feats.length) (fun i=>r.feats.length-i) 0 ⟨by omega,rfl⟩ (dT [(0,0)]) ?_;rintro i ⟨hi,hr⟩;refine az ?_;refine cG (fun hc9=>?_) fun hc9=>?_
 ·refine aQ ?_;first|refine bQ (v:=(aU.D _)) ?_|refine ec (v:=(aU.D _)) ?_
  refine ax ?_;refine aJ (aU.D r.feats[i]!) (he:=by exact rfl) ?_;refine aQ ?_;intro u4;refine ax ?_;refine qg hm (ι:=Nat) (fun j=>(.un::.un::.un::⟨true,.ptr 0 9 0 0⟩::.un::.un::.un::.un::.un::.un::.un::.un::.un::.un::.un::.un::.un::.un::.un::.un::.un::.un::.un::.un::.un::⟨true,.int .i64 (i:Nat)⟩::⟨true,.int .i64 (r.feats.length:Nat)⟩::.un::⟨true,.sl 2 (r.feats.map aU.D)⟩::.un::⟨true,.int .i64 (j:Nat)⟩::⟨true,.int .i64 (r.feats[i]!.of.length:Nat)⟩::.un::⟨true,.sl 1 (r.feats[i]!.of.map D.str)⟩::.un::.un::.un::⟨true,.int .i64 (i:Nat)⟩::.un::[])) (fun j=>[(0,.buf 9 [Rec.D r])]) 53 (fun j=>j≤r.feats[i]!.of.length∧oQ r r.feats[i]!.of=gy (fun j=>je r r.feats[i]!.of[j]!) j r.feats[i]!.of.length) (fun j=>r.feats[i]!.of.length-j) 0 ⟨by omega,rfl⟩ (dT [(0,0)]) ?_;rintro j ⟨hj,hjr⟩;refine az ?_;refine cG (fun hc10=>?_) fun hc10=>?_
  ·refine jj ?_;refine aj (hc:=h214 r r.feats[i]!.of[j]! ((hp0.2.2.2 _ (bL (by omega))).2.2 _ (bL (by omega)))) ?_;refine aO ?_;refine gw (fun hc11=>?_) fun hc11=>?_
   ·refine gI ?_;refine cj (aV (congrArg (D.int .i64) ?_) (congrArg (D.int .i64) ?_));all_goals
     have hq:cg r=(je r r.feats[i]!.of[j]!,((i:Nat):Int)):=by
      have hie:oQ r r.feats[i]!.of=je r r.feats[i]!.of[j]! :=by rw[hjr,tM (by omega) hc11]
      exact mF hc0 hc1 (by omega) (by omega) (ux hn0 hb0 hc8 (by rw[hr,lC (f:=(fun i=>oQ r r.feats[i]!.of)) (by omega) (by rw[hie];exact hc11),hie])) hc11
     rw[hq];first|done|rfl
   refine bc ?_;exact⟨j+1,⟨by omega,by rw[hjr,qI (by omega) hc11]⟩,by omega,(dT [(0,0)])⟩
  refine b8 ?_;exact⟨i+1,⟨by omega,by rw[hr,nH (f:=(fun i=>oQ r r.feats[i]!.of)) (by omega) (by rw[hjr,qH (by omega)])]⟩,by omega,(dT [(0,0)])⟩
 refine aA ?_;have hpz:eA r=(0,0):=ux hn0 hb0 hc8 (by rw[hr,nG (by omega)]);have hgd:tY r:=⟨⟨hc0,hc1⟩,⟨by omega,by omega⟩,hpz⟩;refine ay ?_;refine aj (hc:=h215 r ⟨hgd,hp0⟩) ?_;refine ay ?_;intro u5;refine ax ?_;refine cG (fun hc12=>?_) fun hc12=>?_
 ·refine aO ?_;refine cj (aV (congrArg (D.int .i64) ?_) (congrArg (D.int .i64) ?_));all_goals
   have hq:cg r=(3,0):=by
    rw[tE hc0 hc1 (by omega) (by omega) hpz,if_pos (by omega)]
   rw[hq];first|done|rfl
 refine aO ?_;refine cj (aV (congrArg (D.int .i64) ?_) (congrArg (D.int .i64) ?_));all_goals
  have hq:cg r=(0,0):=by
   rw[tE hc0 hc1 (by omega) (by omega) hpz,if_neg (by omega)]
  rw[hq];first|done|rfl
def C70 (Γ:Ctx):Prop:=∀(r:Rec),(kg r)→Γ.pre 70 [Rec.D r]∧Γ.val 70 [Rec.D r]=.tup [.int .i64 (cg r).1,.int .i64 (cg r).2]
end Go.Abs
end
section
namespace Go.Abs
open Go
def x5:aB:=⟨1,12,[⟨1,some (9,true)⟩,⟨2,none⟩,⟨3,none⟩],[[.a,.a,.a,.a,.a,.a,.sl 3 [.sl 4 [.a,.a,.sl 1 [.a],.a],.a,.a],.sl 3 [.a,.a,.a],.sl 2 [.a,.sl 1 [.a]]],[.a],[.a]],(sq (rg [gb 9 (.c (.agg [.str [],.int .i64 0,.int .i64 0,.int .i64 0,.str [],.str [],.ar,.ar,.ar])),gm bH,gm bH] [(1,0),(2,1),(3,2)]) (sq (sq (r1 [gm s0,yl l0,dH l1 (i6 4096)] 4 2) (.cond s4 (sq (rg [gn (.build [.str [],.int .i64 0,.int .i64 0,.int .i64 0,.str [],.str [],.ar,.ar,.ar] []),gt 9 s1 l0,gm kG,gm bH] [(2,2),(3,3)]) .ret) .skip)) (sq (r1 [gm s0,gx 124 [l0,(cs [10])] jd,gm l1] 5 2) (sq (r1 [gm s5,gm s5,gl l1,fH l2 ca,gn (.slA 1 l0 none (some l3)),gn (.build [.ar,.int .i64 0] [(0,1,l4)]),gb 2 l5,gm l6] 6 7) (sq (rg [gm s6,gn (.callF 222 l0 [] []),gm l1,ge l2 0,ge l2 1,gb 9 (.c (.agg [.str [],.int .i64 0,.int .i64 0,.int .i64 0,.str [],.str [],.ar,.ar,.ar])),gt 9 l5 l3,gm l4] [(9,5),(7,7)]) (sq (sq (r2 [gm s7,n4 l0,gm l1,fu 2 s6,cH 2 (.nilck l3),kQ 2 1 l4,mc 2 l5,fu 2 s6,cH 2 (.nilck l7),kQ 2 0 l8,mc 2 l9,cH 2 (.len l10),cH 2 (pC l6 jx),gp l2 kT,gm mw,fu 14 s5,fu 14 s5,cH 14 (.len qk),cH 14 (mB ve ca),cH 14 (.ia 1 ot we),mc 14 za,cH 14 (fo AS cse),gp nJ B0] 8 22) (.cond s8 (sq (rt [gn (.build [.str [],.int .i64 0,.int .i64 0,.int .i64 0,.str [],.str [],.ar,.ar,.ar] []),gm s6,gc l1,gf 1 l2,gn (.ldI 1 false l3),au l4 ca,gt 9 s1 l0,gm kR,gm l5] [(2,7),(3,8)]) .ret) .skip)) (sq (sq (r1 [gk 9 true s9,gx 70 [l0] [[.a,.a,.a,.a,.a,.a,.sl 3 [.sl 4 [.a,.a,.sl 1 [.a],.a],.a,.a],.sl 3 [.a,.a,.a],.sl 2 [.a,.sl 1 [.a]]]],gm l1,ge l2 0,ge l2 1,gm l3,gm l4] 10 5) (sq (r1 [gm lf,b7 l0 bH] 11 1) (.cond n7 (sq (rg [gn (.build [.str [],.int .i64 0,.int .i64 0,.int .i64 0,.str [],.str [],.ar,.ar,.ar] []),gm lf,gt 9 s1 l0,gm l1,gm bH] [(2,3),(3,4)]) .ret) .skip))) (sq (rg [gk 9 true s9,gt 9 s1 l0,gm bH,gm bH] [(2,2),(3,3)]) .ret))))))))⟩
def w76 {Γ:Ctx}(hm:(Γ.at 0).bj)(h70:C70 Γ)(h124:En Γ)(h222:L4 Γ)(s:ah)   :dK Γ x5 (.tup [Rec.D (e8 s).1,.int .i64 (e8 s).2.1,.int .i64 (e8 s).2.2]) [.str s]:=by
 show bB _ _ _ [⟨_,_⟩,_,_,_,_,_,_,_,_,_,_,_] _;refine ak ?_;refine b8 ?_;intro u0;refine ax ?_;refine aq (fun hc0=>?_) (fun hc0=>?_)
 ·simp only[decide_eq_true_eq]at hc0;have hrr:e8 s=(n6,3,0):=by unfold e8;rw[if_pos (by omega)]
  rw[hrr];refine ax ?_;refine bA cZ ?_;refine aJ cZ (he:=by exact rfl) ?_;refine az ?_;refine lY [(0,.buf 9 [Rec.D n6])] (.bf ae (.cons p9 .nil) .nil) ?_;refine ay ?_;refine cj (kj ?_ (congrArg (D.int .i64) ?_) (congrArg (D.int .i64) ?_));all_goals rfl
 simp only[decide_eq_false_iff_not]at hc0;have hsp:=eP 10 s [];have hsp:1≤(ai s 10).length:=hsp;have hsl:=cQ s 10;refine az ?_;refine aj (v:=.sl 1 ((ai s 10).map D.str)) (hc:=h124 s 10 (by omega)) ?_;refine aO ?_;intro u1;refine ay ?_;refine uD ((ai s 10).length-1) (hj:=fun _=>by omega) (hb:=fun _=>by omega) ?_;refine bA (Ld.D ⟨((ai s 10).take ((ai s 10).length-1)),0⟩) ?_;refine aA ?_;generalize hLS:((ai s 10).take ((ai s 10).length-1))=LS;have hLl:LS.length=(ai s 10).length-1:=by rw[←hLS,List.length_take];omega
 have hLm:xg LS:=fun t ht=>by
  rw[←hLS]at ht;have:=dr s 10 (List.mem_of_mem_take ht);omega
 have hsm0:(⟨LS,0⟩:Ld).sm:=⟨⟨Nat.zero_le _,by simp only;omega⟩,hLm⟩;obtain⟨hrs,hsf⟩:=IG hLm;have hsfl:=hsf.length_le;refine ay ?_;refine jr (v:=.tup [Rec.D (et LS).1,.bool (pc LS).isSome]) (e:=Ld.D ((⟨LS,0⟩:Ld).to (et LS).2)) (hc:=h222 ⟨LS,0⟩ hsm0) ?_;refine ay ?_;refine fS (Rec.D _) ?_;refine ax ?_;refine aJ (Rec.D (et LS).1) (he:=by exact rfl) ?_;refine jj ?_;refine cu (v:=.int .i64 ((LS.length-(et LS).2.length:Nat):Int)) ?_;refine az ?_;refine cu (v:=.sl 1 (LS.map D.str)) ?_;refine n9 ?_;refine aQ ?_;refine n9 ?_;refine ay ?_;refine cK ((ai s 10).length-1) (hj:=fun _=>by omega) (hb:=fun _=>by omega) ?_;refine bQ (v:=.str (ai s 10)[(ai s 10).length-1]!) (hi:=fun _=>by omega) ?_;refine az ?_;refine aq (fun hc1=>?_) (fun hc1=>?_)
 ·simp only[Bool.or_eq_true,Bool.not_eq_true',decide_eq_true_eq,decide_eq_false_iff_not]at hc1;have hrr:e8 s=(n6,2,((LS.length-(et LS).2.length:Nat):Int)+1):=by
   unfold e8;rw[if_neg (by omega)];simp only[hLS];rw[if_pos];rcases hc1 with(h|h)|h
   ·exact .inl h
   ·refine .inr (.inl fun e=>?_);rw[e]at h;simp only[List.length_nil]at h;omega
   ·exact .inr (.inr h)
  rw[hrr];refine ay ?_;refine ey 15 (he:=by simp only[lV,gM,kF,mQ,oN,bO,Nat.reduceEqDiff,if_true,if_false,and_self,true_and,and_true,false_and,and_false,Nat.zero_add,List.length_map,Nat.le_refl,List.drop_zero,aL,reduceCtorEq,List.length_cons,List.length_nil,Nat.reduceAdd,Nat.reduceLeDiff,Ld.D,cZ,kW];exact rfl) (hm:=by simp only[lV,gM,kF,mQ,oN,bO,Nat.reduceEqDiff,if_true,if_false,and_self,true_and,and_true,false_and,and_false,Nat.zero_add,List.length_map,Nat.le_refl,List.drop_zero,aL,reduceCtorEq,List.length_cons,List.length_nil,Nat.reduceAdd,Nat.reduceLeDiff,Ld.D,cZ,Rec.D];exact rfl) ?_;refine ay ?_;refine bA cZ ?_;refine az ?_;refine Bf (v:=.int .i64 ((LS.length-(et LS).2.length:Nat):Int)) ?_;refine ay ?_;refine aJ cZ (he:=by exact rfl) ?_;refine az ?_;refine lY [(0,.buf 9 [Rec.D n6]),(22,.buf 9 [Rec.D (et LS).1])] (.bf ae (.cons p9 .nil) (.id ae .nil)) ?_;refine ay ?_;refine cj (kj ?_ (congrArg (D.int .i64) ?_) (congrArg (D.int .i64) ?_));all_goals rfl
 simp only[Bool.or_eq_false_iff,Bool.not_eq_false',decide_eq_true_eq,decide_eq_false_iff_not]at hc1;have hrr:e8 s=if(cg (et LS).1).1≠0 then(n6,(cg (et LS).1).1,0)else((et LS).1,0,0):=by
  unfold e8;rw[if_neg (by omega)];simp only[hLS];rw[if_neg];rintro(h|h|h)
  ·rw[hc1.1.1]at h;cases h
  ·exact h (List.eq_nil_of_length_eq_zero (by have:=hc1.1.2;omega))
  ·exact h hc1.2
 rw[hrr];refine az ?_;refine cE (d:=Rec.D (et LS).1) ?_;refine aj (hc:=h70 (et LS).1 hrs) ?_;refine gI ?_;refine aq (fun hc2=>?_) (fun hc2=>?_)
 ·simp only[Bool.not_eq_true',decide_eq_false_iff_not]at hc2;rw[if_pos hc2];refine ax ?_;refine bA cZ ?_;refine ay ?_;refine aJ cZ (he:=by exact rfl) ?_;refine az ?_;refine lY [(0,.buf 9 [Rec.D n6]),(15,.buf 2 [Ld.D ((⟨LS,0⟩:Ld).to (et LS).2)]),(22,.buf 9 [Rec.D (et LS).1])] (.bf ae (.cons p9 .nil) (.id ae (.id ae .nil))) ?_;refine ay ?_;refine cj (kj ?_ (congrArg (D.int .i64) ?_) (congrArg (D.int .i64) ?_));all_goals rfl
 simp only[Bool.not_eq_false',decide_eq_true_eq]at hc2;rw[if_neg (by rw[hc2];simp)];refine ax ?_;refine cE (d:=Rec.D (et LS).1) ?_;refine aJ (Rec.D (et LS).1) (he:=by exact rfl) ?_;refine aA ?_;refine cj (kj ?_ (congrArg (D.int .i64) ?_) (congrArg (D.int .i64) ?_));all_goals rfl
def C76 (Γ:Ctx):Prop:=∀(s:ah),Γ.pre 76 [.str s]∧Γ.val 76 [.str s]=.tup [Rec.D (e8 s).1,.int .i64 (e8 s).2.1,.int .i64 (e8 s).2.2]
end Go.Abs
end
namespace Go.Abs
end Go.Abs
section
namespace Go.Abs
open Go
end Go.Abs
end
section
namespace Go.Abs
def RdS.ok (x:RdS):Prop:=(x.st=0→x.r.needs=[]∧x.r.bars=[]∧x.r.feats=[])∧((x.st=2∨x.st=3)→x.r.needs≠[])∧(x.st=5→x.r.bars≠[])
end Go.Abs
namespace Go.Abs
end Go.Abs
end
section
namespace Go.Abs
def Hl (ob:Ao):Prop:=∀(σ:List (Nat×Nat))(l l':Nat)(w:List ah)(n:Nat)(b:Bool),kB 0 σ l=some l'→rX 0 σ (ob w (.own l 5 0 n) b)=some (ob w (.own l' 5 0 n) b)
def m7:Hl eo:=fun σ l l' w n b h=>by simp only[eo,rX,qb,El,h]
def Ln:D→Nat
 | .agg [.sl _ ws,_,_]=>ws.length
 | .agg [.sl _ ws,.int _ i,_,_]=>ws.length-i.toNat
 |_=>0
def Fz (c:List D→Nat)(ds:List D)(st:St):Nat:=match ds with
 | .ptr l _ _ _::Wo=>(match look st.m l with
  |some (.buf _ [o])=>6*Ln o+c Wo
  |_=>0)
 |_=>0
def IJ (w:List ah)(X:D)(b:Bool):Ln (eo w X b)=w.length:=by simp[Ln,eo]
def jO {c:List D→Nat}{l k nx:Nat}{Wo:List D}{m:List (Nat×aZ)}{w:List ah}{X:D}{b:Bool}(h:look m l=some (.buf k [eo w X b])):Fz c (.ptr l k 0 0::Wo) ⟨nx,m⟩=6*w.length+c Wo:=by
 simp only[Fz,h,IJ]
def A4 (nd:List Nd):aI (nd.map Nd.D)=true:=bt (fun _=>rfl) _
section
variable [bW] {P:Program} {ν:List (Nat×Nat)} {bE:List Nat} {t:List (Nat×nW)} {fid n key u k:Nat} {af:aB} {ob:Ao} {Wo:List D} {w:List ah} {nd:List Nd} {b:Bool} {lp ln nx:Nat} {m:List (Nat×aZ)} {K:D→St→Prop} {Pp:PO→Prop} {V:PO→D}
def Ga (hob:Hl ob)(hk5:k≠5)(has:aI Wo=true)(h1:look m lp=some (.buf k [ob w (.own ln 5 0 nd.length) b]))(h2:look m ln=some (.buf 5 (nd.map Nd.D))):
  lp≠ln∧(∀i,i<(D.ptr lp k 0 0::Wo).length→G0 0 [(lp,0),(ln,1)] ((D.ptr lp k 0 0::Wo).getD i .any) ((D.ptr 0 k 0 0::Wo).getD i .any))∧eU 0 2 [(lp,0),(ln,1)]=true∧(∀l i,(l,i)∈[(lp,0),(ln,1)]→look m l≠none)∧
   ∀i bb,look [(0,.buf k [ob w (.own 1 5 0 nd.length) b]),(1,.buf 5 (nd.map Nd.D))] i=some bb→∃l b',(l,i)∈[(lp,0),(ln,1)]∧look m l=some b'∧oc 0 [(lp,0),(ln,1)] b' bb:=by
 have hne:lp≠ln:=by
  rintro rfl;rw[h1]at h2;exact hk5 (aZ.buf.inj (Option.some.inj h2)).1
 have hb:Nat.beq lp ln=false:=by cases h:Nat.beq lp ln with
  |false=>rfl
  |true=>exact absurd (Nat.eq_of_beq_eq_true h) hne
 have hb':Nat.beq ln lp=false:=by cases h:Nat.beq ln lp with
  |false=>rfl
  |true=>exact absurd (Nat.eq_of_beq_eq_true h).symm hne
 refine⟨hne,fun i hi=>?_, ?_,fun l i h=>?_,fun i bb h=>?_⟩
 ·match i with
  |0=>exact .inr (.inl (by simp[rX,El,kB]))
  |i+1=>exact .inl ⟨rfl,bU has i⟩
 ·simp[eU,hb,hb'];rfl
 ·rcases List.mem_cons.1 h with h|h
  ·obtain⟨rfl,rfl⟩:=Prod.mk.inj h;rw[h1];simp
  ·obtain⟨rfl,rfl⟩:=Prod.mk.inj (List.mem_singleton.1 h);rw[h2];simp
 ·simp only[look]at h;split at h
  ·rename_i e;subst e;obtain rfl:=Option.some.inj h;exact⟨lp,_,.head _,h1,rfl,.inr (.inl (by simp only[qb,hob _ ln 1 w nd.length b (show kB 0 [(lp,0),(ln,1)] ln=some 1 by simp[kB,hb])]))⟩
  ·split at h
   ·rename_i e;subst e;obtain rfl:=Option.some.inj h;exact⟨ln,_,.tail _ (.head _),h2,rfl,.inl ⟨rfl,A4 nd⟩⟩
   ·cases h
def ig (hob:Hl ob)(hk5:k≠5)(has:aI Wo=true)(hV:∀o,(V o).aM=true)(hmix:P.follows .mixedOrders=true)(hC:Ev P ν bE fid af)(hnp:Wo.length+1=af.np)
  (h1:look m lp=some (.buf k [ob w (.own ln 5 0 nd.length) b])) (h2:look m ln=some (.buf 5 (nd.map Nd.D))) (h3:lp<nx) (h4:ln<nx)
  (hK:∀o,Pp o→K (V o) ⟨nx+1,(nx,.buf 5 (o.nd.map Nd.D))::bT (bO m ln) lp (.buf k [ob o.w (.own nx 5 0 o.nd.length) o.bad])⟩)
  (hw:bB ((under t key u).at 2) af.body (ox af (Ap k ob Pp V)) (eK af (.ptr 0 k 0 0::Wo)) ⟨2,[(0,.buf k [ob w (.own 1 5 0 nd.length) b]),(1,.buf 5 (nd.map Nd.D))]⟩):my P ν bE (under t key u) fid (.ptr lp k 0 0::Wo) ⟨nx,m⟩ K:=by
 obtain⟨hne,g2,g3,g4,g5⟩:=Ga hob hk5 has h1 h2;refine yZ (σi:=[(lp,0),(ln,1)]) (cs:=.ptr 0 k 0 0::Wo) (fun q=>aK t key u q) hmix hC (by simp) g2 (by simpa using hnp) g3 g4 g5 hw ?_;rintro d m1 ⟨o,j,hj,hP,rfl,e0,ej⟩;have hb0:Nat.beq 0 j=false:=by cases j<;>first|omega|rfl
 have hbj:Nat.beq j 0=false:=by cases j<;>first|omega|rfl
 have hbl:Nat.beq lp nx=false:=by cases h:Nat.beq lp nx with
  |false=>rfl
  |true=>have:=Nat.eq_of_beq_eq_true h;omega
 have hbl':Nat.beq nx lp=false:=by cases h:Nat.beq nx lp with
  |false=>rfl
  |true=>have:=Nat.eq_of_beq_eq_true h;omega
 refine⟨[(0,lp),(j,nx)],j+1,_,V o,⟨g3, ?_,Nat.le_succ _,g4, ?_,g5, ?_⟩,.inl ⟨rfl,hV o⟩,hK o hP⟩
 ·simp[eU,hbj,hb0,hbl,hbl'];omega
 ·intro i l h;rcases List.mem_cons.1 h with h|h
  ·obtain⟨rfl,rfl⟩:=Prod.mk.inj h;exact .inl (.head _)
  ·obtain⟨rfl,rfl⟩:=Prod.mk.inj (List.mem_singleton.1 h);exact .inr (Nat.le_refl _)
 ·intro l bb h;simp only[look]at h;split at h
  ·rename_i e;subst e;obtain rfl:=Option.some.inj h;exact .inl ⟨j,_,.tail _ (.head _),ej,rfl,.inl ⟨rfl,A4 _⟩⟩
  ·rename_i hln;rw[br]at h;split at h
   ·rename_i e;subst e;obtain rfl:=Option.some.inj h;exact .inl ⟨0,_,.head _,e0,rfl,.inr (.inl (by simp only[qb,hob _ j nx o.w o.nd.length o.bad (show kB 0 [(0,l),(j,nx)] j=some nx by simp[kB,hb0])]))⟩
   ·rename_i hlp;rw[dU]at h;split at h
    ·cases h
    ·rename_i hl2;refine .inr ⟨by simp only[jL,if_neg (fun e=>hlp (Eq.symm e)),if_neg hln],fun i hi=>?_,h⟩;rcases List.mem_cons.1 hi with hi|hi
     ·exact hlp (Prod.mk.inj hi).1
     ·exact hl2 (Prod.mk.inj (List.mem_singleton.1 hi)).1
def DR (hob:Hl ob)(hk5:k≠5)(has:aI Wo=true)(hV:∀o,(V o).aM=true)(hmix:P.follows .mixedOrders=true)(hC:Ev P ν bE fid af)(hnp:Wo.length+1=af.np)
  (h1:look m lp=some (.buf k [ob w (.own ln 5 0 nd.length) b])) (h2:look m ln=some (.buf 5 (nd.map Nd.D))) (h3:lp<nx) (h4:ln<nx)
  (hK:∀o,Pp o→K (V o) ⟨nx,bT m lp (.buf k [ob o.w (.own ln 5 0 nd.length) o.bad])⟩)
  (hw:bB ((under t key u).at 2) af.body (ox af (Jd k ob nd Pp V)) (eK af (.ptr 0 k 0 0::Wo)) ⟨2,[(0,.buf k [ob w (.own 1 5 0 nd.length) b]),(1,.buf 5 (nd.map Nd.D))]⟩):my P ν bE (under t key u) fid (.ptr lp k 0 0::Wo) ⟨nx,m⟩ K:=by
 obtain⟨hne,g2,g3,g4,g5⟩:=Ga hob hk5 has h1 h2;refine yZ (σi:=[(lp,0),(ln,1)]) (cs:=.ptr 0 k 0 0::Wo) (fun q=>aK t key u q) hmix hC (by simp) g2 (by simpa using hnp) g3 g4 g5 hw ?_;rintro d m1 ⟨o,hP,rfl,e0,ej⟩;have hbl:Nat.beq lp ln=false:=by cases h:Nat.beq lp ln with
  |false=>rfl
  |true=>exact absurd (Nat.eq_of_beq_eq_true h) hne
 have hbl':Nat.beq ln lp=false:=by cases h:Nat.beq ln lp with
  |false=>rfl
  |true=>exact absurd (Nat.eq_of_beq_eq_true h).symm hne
 refine⟨[(0,lp),(1,ln)],2,⟨nx,bT m lp (.buf k [ob o.w (.own ln 5 0 nd.length) o.bad])⟩,V o,⟨g3, ?_,Nat.le_refl _,g4, ?_,g5, ?_⟩,.inl ⟨rfl,hV o⟩,hK o hP⟩
 ·simp[eU,hbl,hbl'];exact⟨h3,rfl,h4⟩
 ·intro i l h;rcases List.mem_cons.1 h with h|h
  ·obtain⟨rfl,rfl⟩:=Prod.mk.inj h;exact .inl (.head _)
  ·obtain⟨rfl,rfl⟩:=Prod.mk.inj (List.mem_singleton.1 h);exact .inl (.tail _ (.head _))
 ·intro l bb h;simp only at h;rw[br]at h;split at h
  ·rename_i e;subst e;obtain rfl:=Option.some.inj h;exact .inl ⟨0,_,.head _,e0,rfl,.inr (.inl (by simp only[qb,hob _ 1 ln o.w nd.length o.bad (show kB 0 [(0,l),(1,ln)] 1=some ln from rfl)]))⟩
  ·rename_i hlp;by_cases hl2:l=ln
   ·subst hl2;rw[h2]at h;obtain rfl:=Option.some.inj h;exact .inl ⟨1,_,.tail _ (.head _),ej,rfl,.inl ⟨rfl,A4 _⟩⟩
   ·refine .inr ⟨by simp only[jL,if_neg (fun e=>hlp (Eq.symm e)),if_neg (fun e=>hl2 (Eq.symm e))],fun i hi=>?_,h⟩;rcases List.mem_cons.1 hi with hi|hi
    ·exact hlp (Prod.mk.inj hi).1
    ·exact hl2 (Prod.mk.inj (List.mem_singleton.1 hi)).1
def mC {a b:Nat}(h:a≠b):Nat.beq a b=false:=by
 cases h2:Nat.beq a b with
 |false=>rfl
 |true=>exact absurd (Nat.eq_of_beq_eq_true h2) h
def uK {m:List (Nat×aZ)}{l lw:Nat}(h:l≠lw):dz (bO m lw) l=match look m l with
 |some (.bld (some l2) _ _)=>bO (bO m lw) l2
 |_=>bO m lw:=by
 haveI:bW:={gd:=fun _=>True,le:=fun _ _ _ _ _=>trivial}
 unfold dz;rw[dU,if_neg h];cases look m l with
 |none=>rfl
 |some b=>cases b with
  |bld o n u=>cases o<;>rfl
  |_=>rfl
def Du {ws:List ah}{s:ah}{l lw:Nat}(hmix:P.follows .mixedOrders=true)(hC:Ev P ν bE fid af)(hnp:2=af.np)
  (h1:oa m l s) (h2:look m lw=some (.buf 1 (ws.map D.str))) (h3:l<nx) (h4:lw<nx) (hK:K (.tup []) ⟨nx+1,mD (bO m lw) l nx (s++bz ws)⟩)
  (hw:∀m0,oa m0 0 s→look m0 1=some (.buf 1 (ws.map D.str))→bB ((under t key u).at 3) af.body (ox af (fun d m=>d=.tup []∧look m 0=some (.bld (some 9) (s++bz ws).length true)∧look m 9=some (.row (s++bz ws)))) (eK af [.ptr 0 2 0 0,.own 1 1 0 ws.length]) ⟨3,m0⟩):
  my P ν bE (under t key u) fid [.ptr l 2 0 0,.own lw 1 0 ws.length] ⟨nx,m⟩ K:=by
 have hlw:l≠lw:=by
  rintro rfl;rcases h1 with⟨u,h,_⟩|⟨l2,u,h,_⟩<;>rw[h2]at h<;>cases h
 have hnl:aI (ws.map D.str)=true:=bt (fun _=>rfl) _;have b1:=mC hlw;have b2:=mC (Ne.symm hlw);have b3:=mC (show l≠nx by omega);have b4:=mC (show nx≠l by omega)

 have fin:∀(σi:List (Nat×Nat)) (m0:List (Nat×aZ)),eU 0 3 σi=true→(l,0)∈σi→(∀l i,(l,i)∈σi→look m l≠none)→(∀i b,look m0 i=some b→∃l b',(l,i)∈σi∧look m l=some b'∧oc 0 σi b' b)→
   (∀l' b,look (dz (bO m lw) l) l'=some b→l'≠l→look m l'=some b∧∀i,(l',i)∉σi)→∀d m1,(d=.tup []∧look m1 0=some (.bld (some 9) (s++bz ws).length true)∧look m1 9=some (.row (s++bz ws)))→
   ∃(σo:List (Nat×Nat)) (q1:Nat) (st':St) (vd':D),Fr σi σo 3 q1 m0 m1 ⟨nx,m⟩ st'∧G0 0 σo d vd'∧K vd' st':=by
  rintro σi m0 oki hm hlt hm0 hoff d m1 ⟨rfl,e0,e9⟩;refine⟨[(0,l),(9,nx)],10,⟨nx+1,mD (bO m lw) l nx (s++bz ws)⟩,.tup [],⟨oki, ?_,Nat.le_succ _,hlt, ?_,hm0, ?_⟩,.inl ⟨rfl,rfl⟩,hK⟩
  ·simp[eU,b3,b4];exact⟨by omega,rfl⟩
  ·intro i l' h;rcases List.mem_cons.1 h with h|h
   ·obtain⟨rfl,rfl⟩:=Prod.mk.inj h;exact .inl hm
   ·obtain⟨rfl,rfl⟩:=Prod.mk.inj (List.mem_singleton.1 h);exact .inr (Nat.le_refl _)
  ·intro l' bb h;simp only[mD,look]at h;split at h
   ·rename_i e;subst e;obtain rfl:=Option.some.inj h;exact .inl ⟨9,_,.tail _ (.head _),e9,rfl⟩
   ·rename_i hln;rw[br]at h;split at h
    ·rename_i e;subst e;obtain rfl:=Option.some.inj h;exact .inl ⟨0,_,.head _,e0,⟨nx,rfl,rfl⟩,rfl,rfl⟩
    ·rename_i hl;obtain⟨g1,g2⟩:=hoff l' bb h hl;exact .inr ⟨by simp only[jL,if_neg (fun e=>hl (Eq.symm e)),if_neg hln],g2,g1⟩
 rcases h1 with⟨u,h1,rfl⟩|⟨l2,u,h1,h5⟩
 ·have g4:∀l' i,(l',i)∈[(l,0),(lw,1)]→look m l'≠none:=by
   intro l' i h;rcases List.mem_cons.1 h with h|h
   ·obtain⟨rfl,rfl⟩:=Prod.mk.inj h;rw[h1];simp
   ·obtain⟨rfl,rfl⟩:=Prod.mk.inj (List.mem_singleton.1 h);rw[h2];simp
  have g3:eU 0 3 [(l,0),(lw,1)]=true:=by simp[eU,b1,b2];rfl
  have g5:∀i b,look [(0,aZ.bld none 0 u),(1,.buf 1 (ws.map D.str))] i=some b→∃l' b',(l',i)∈[(l,0),(lw,1)]∧look m l'=some b'∧oc 0 [(l,0),(lw,1)] b' b:=by
   intro i b h;simp only[look]at h;split at h
   ·rename_i e;subst e;obtain rfl:=Option.some.inj h;exact⟨l,_,.head _,h1,rfl,rfl,rfl⟩
   ·split at h
    ·rename_i e;subst e;obtain rfl:=Option.some.inj h;exact⟨lw,_,.tail _ (.head _),h2,rfl,.inl ⟨rfl,hnl⟩⟩
    ·cases h
  refine yZ (σi:=[(l,0),(lw,1)]) (cs:=[.ptr 0 2 0 0,.own 1 1 0 ws.length]) (fun q=>aK t key _ q) hmix hC rfl ?_ hnp g3 g4 g5 (hw _ (.inl ⟨u,rfl,rfl⟩) rfl) (fin _ _ g3 (.head _) g4 g5 ?_)
  ·intro i hi
   match i,hi with
   |0,_=>exact .inr (.inl (by simp[rX,El,kB]))
   |1,_=>exact .inr (.inl (by simp[rX,El,kB,b1]))
  ·intro l' b h hl;rw[uK hlw]at h;simp only[h1]at h;rw[dU]at h;split at h
   ·cases h
   ·rename_i hw';refine⟨h,fun i hi=>?_⟩;rcases List.mem_cons.1 hi with hi|hi
    ·exact hl (Prod.mk.inj hi).1
    ·exact hw' (Prod.mk.inj (List.mem_singleton.1 hi)).1
 ·have c1:l2≠l:=by rintro rfl;rw[h1]at h5;cases h5
  have c2:l2≠lw:=by rintro rfl;rw[h2]at h5;cases h5
  have d1:=mC c1;have d2:=mC c2;have d3:=mC (Ne.symm c1);have d4:=mC (Ne.symm c2);have g4:∀l' i,(l',i)∈[(l,0),(lw,1),(l2,2)]→look m l'≠none:=by
   intro l' i h;rcases List.mem_cons.1 h with h|h
   ·obtain⟨rfl,rfl⟩:=Prod.mk.inj h;rw[h1];simp
   ·rcases List.mem_cons.1 h with h|h
    ·obtain⟨rfl,rfl⟩:=Prod.mk.inj h;rw[h2];simp
    ·obtain⟨rfl,rfl⟩:=Prod.mk.inj (List.mem_singleton.1 h);rw[h5];simp
  have g3:eU 0 3 [(l,0),(lw,1),(l2,2)]=true:=by simp[eU,b1,b2,d1,d2,d3,d4];exact⟨⟨rfl,rfl⟩,rfl⟩
  have g5:∀i b,look [(0,aZ.bld (some 2) s.length u),(1,.buf 1 (ws.map D.str)),(2,.row s)] i=some b→∃l' b',(l',i)∈[(l,0),(lw,1),(l2,2)]∧look m l'=some b'∧oc 0 [(l,0),(lw,1),(l2,2)] b' b:=by
   intro i b h;simp only[look]at h;split at h
   ·rename_i e;subst e;obtain rfl:=Option.some.inj h;exact⟨l,_,.head _,h1,⟨2,by simp[kB,d3,d4],rfl⟩,rfl,rfl⟩
   ·split at h
    ·rename_i e;subst e;obtain rfl:=Option.some.inj h;exact⟨lw,_,.tail _ (.head _),h2,rfl,.inl ⟨rfl,hnl⟩⟩
    ·split at h
     ·rename_i e;subst e;obtain rfl:=Option.some.inj h;exact⟨l2,_,.tail _ (.tail _ (.head _)),h5,rfl⟩
     ·cases h
  refine yZ (σi:=[(l,0),(lw,1),(l2,2)]) (cs:=[.ptr 0 2 0 0,.own 1 1 0 ws.length]) (fun q=>aK t key _ q) hmix hC rfl ?_ hnp g3 g4 g5 (hw _ (.inr ⟨2,u,rfl,rfl⟩) rfl) (fin _ _ g3 (.head _) g4 g5 ?_)
  ·intro i hi
   match i,hi with
   |0,_=>exact .inr (.inl (by simp[rX,El,kB]))
   |1,_=>exact .inr (.inl (by simp[rX,El,kB,b1]))
  ·intro l' b h hl;rw[uK hlw]at h;simp only[h1]at h;rw[dU]at h;split at h
   ·cases h
   ·rename_i hw2;rw[dU]at h;split at h
    ·cases h
    ·rename_i hw';refine⟨h,fun i hi=>?_⟩;rcases List.mem_cons.1 hi with hi|hi
     ·exact hl (Prod.mk.inj hi).1
     ·rcases List.mem_cons.1 hi with hi|hi
      ·exact hw' (Prod.mk.inj hi).1
      ·exact hw2 (Prod.mk.inj (List.mem_singleton.1 hi)).1
end
end Go.Abs
end
namespace Go.Abs
def sx {α:Type}{f:α→D}(hf:∀x y,f x=f y↔x=y):∀a b:List α,a.map f=b.map f↔a=b
 |[],[]=>by simp
 |[],_::_=>by simp
 |_::_,[]=>by simp
 |x::a,y::b=>by simp only[List.map_cons,List.cons.injEq,hf,sx hf a b]
def HU (a b:Nat):((a:Nat):Int)=(b:Nat)↔a=b:=by omega
def iU8 (x y:UInt8):((x.toNat:Nat):Int)=(y.toNat:Nat)↔x=y:=(HU _ _).trans UInt8.toNat_inj
def Di (a b:List ah):a.map D.str=b.map D.str↔a=b:=sx (fun _ _=>by simp) a b
def iInt (a b:List Int):a.map (D.int .i64)=b.map (D.int .i64)↔a=b:=sx (fun _ _=>by simp) a b
def iByt (a b:ah):(a.map fun c=>D.int .u8 c.toNat)=(b.map fun c=>D.int .u8 c.toNat)↔a=b:=sx (fun x y=>by rw[D.int.injEq,iU8];simp) a b
def iVer (a b:df):df.D a=df.D b↔a=b:=by cases a;cases b;simp[df.D]
def Jr (a b:aT):aT.D a=aT.D b↔a=b:=by cases a;cases b;simp[aT.D,Di]
def Fi (a b:List aT):a.map aT.D=b.map aT.D↔a=b:=sx Jr a b
def Jq (a b:aR):aR.D a=aR.D b↔a=b:=by cases a;cases b;simp[aR.D,Fi]
def Fh (a b:List aR):a.map aR.D=b.map aR.D↔a=b:=sx Jq a b
def NJ (a b:ee):ee.D a=ee.D b↔a=b:=by cases a;cases b;simp[ee.D]
def Jn (a b:List ee):a.map ee.D=b.map ee.D↔a=b:=sx NJ a b
def Jp (a b:aU):aU.D a=aU.D b↔a=b:=by cases a;cases b;simp[aU.D,Di]
def Fg (a b:List aU):a.map aU.D=b.map aU.D↔a=b:=sx Jp a b
def iRec (a b:Rec):Rec.D a=Rec.D b↔a=b:=by
 obtain⟨n,⟨v1,v2,v3,v4,v5⟩,x,y,z⟩:=a;obtain⟨n',⟨w1,w2,w3,w4,w5⟩,x',y',z'⟩:=b;simp[Rec.D,Fh,Jn,Fg,and_assoc]
def NK (a b:b6):b6.D a=b6.D b↔a=b:=by
 obtain⟨n,p,v1,v2,v3,v4,v5⟩:=a;obtain⟨n',p',w1,w2,w3,w4,w5⟩:=b;simp[b6.D]
def Jo (a b:List b6):a.map b6.D=b.map b6.D↔a=b:=sx NK a b
def iNd (a b:Nd):Nd.D a=Nd.D b↔a=b:=by cases a;cases b;simp[Nd.D]
def NL (a b:List Nd):a.map Nd.D=b.map Nd.D↔a=b:=sx iNd a b
def KC (a b:Alt):pA a=pA b↔a=b:=by simp[pA,Jo]
def iRng (a b:xi):im a=im b↔a=b:=by simp[im,sx KC]
def NI (a b:List Alt):a.map pA=b.map pA↔a=b:=sx KC a b
def iMrk (a b:Jc):j3 a=j3 b↔a=b:=by simp[j3,NL]
def iLd (a b:Ld):Ld.D a=Ld.D b↔a=b:=by cases a;cases b;simp[Ld.D,Di,HU]
def iPr (w w':List ah)(x x':D)(b b':Bool):eo w x b=eo w' x' b'↔w=w'∧x=x'∧b=b':=by simp[eo,Di]
def bC {A:RT→Prop}(h:A (fun ds d=>A fun ds' d'=>ds'=ds→d=d'):=by
 (repeat' first|apply And.intro|intro _)
 all_goals rename_i e
 all_goals (try simp only[List.cons.injEq,D.str.injEq,D.int.injEq,D.bool.injEq,D.sl.injEq,D.ref.injEq,D.agg.injEq,Di,iInt,iByt,iVer,Jr,Fi,Jq,Fh,NJ,Jn,Jp,Fg,iRec,NK,Jo,iNd,NL,KC,iRng,NI,iMrk,iPr,iU8,UInt8.toNat_inj,HU,and_true,true_and,reduceCtorEq,and_false,false_and]at e)
 all_goals first|rfl|(simp only[e];done)|simp_all):M0 (xJ A):=Kq h
def Hx {A:FT→Prop}(h:A (fun d ds v s=>A fun d' ds' v' s'=>d'=d→ds'=ds→v=v'∧s=s'):=by
 (repeat' first|apply And.intro|intro _)
 all_goals rename_i e' e
 all_goals (try simp only[List.cons.injEq,D.str.injEq,D.int.injEq,D.bool.injEq,D.sl.injEq,iLd,Di,iU8,UInt8.toNat_inj,HU,and_true,true_and]at e e')
 all_goals first|rfl|(simp only[e,e'];done)|simp_all):tm (ku A):=Hy h
end Go.Abs
section
namespace Go.Abs
open Go
end Go.Abs
end
section
namespace Go.Abs
open Go
end Go.Abs
end
namespace Go.Abs
end Go.Abs
section
namespace Go.Abs
open Go
end Go.Abs
end
namespace Go.Abs
end Go.Abs
section
namespace Go.Abs
section
variable [bW] {P:Program} {ν:List (Nat×Nat)} {bE:List Nat} {t:List (Nat×nW)} {fid n key u k:Nat} {af:aB} {Wo:List D} {nx:Nat} {m:List (Nat×aZ)} {K:D→St→Prop}
def D6 {a:D}{k q i:Nat}{es:List D}{m1:List (Nat×aZ)}(ha:a.aM=true)(hes:aI es=true)(hmix:P.follows .mixedOrders=true)(hC:Ev P ν bE fid af)(hnp:1=af.np)
  (hl:look m1 q=some (.buf k es)) (hK:K (.own nx k 0 i) ⟨nx+1,(nx,.buf k es)::m⟩) (hw:bB ((under t key u).at 0) af.body (ox af (One (.own q k 0 i) m1)) (eK af [a]) ⟨0,[]⟩):my P ν bE (under t key u) fid [a] ⟨nx,m⟩ K:=by
 refine yZ (σi:=[]) (m0:=[]) (cs:=[a]) (fun q=>aK t key u q) hmix hC rfl ?_ hnp rfl (fun _ _ h=>by cases h) (fun _ _ h=>by cases h) hw ?_
 ·intro i hi
  match i,hi with
  |0,_=>exact .inl ⟨rfl,ha⟩
 ·rintro d m2 ⟨rfl,rfl⟩;refine⟨[(q,nx)],q+1,_,.own nx k 0 i,⟨rfl, ?_,Nat.le_succ _,(fun _ _ h=>by cases h), ?_,(fun _ _ h=>by cases h), ?_⟩,.inr (.inl (by simp[rX,El,kB])),hK⟩
  ·simp[eU]
  ·intro i l h;obtain⟨rfl,rfl⟩:=Prod.mk.inj (List.mem_singleton.1 h);exact .inr (Nat.le_refl _)
  ·intro l bb h;simp only[look]at h;split at h
   ·rename_i e;subst e;obtain rfl:=Option.some.inj h;exact .inl ⟨q,_,.head _,hl,rfl,.inl ⟨rfl,hes⟩⟩
   ·rename_i hn;exact .inr ⟨by simp only[jL,if_neg hn],(fun _ h=>by cases h),h⟩
end
end Go.Abs
end
namespace Go.Abs
def fZ (l:List Int)(i:Int):Int:=if i<0∨(l.length:Int)≤i then 0 else l[i.toNat]!
def Ix {v n:Int}(h:0<n)(h2:¬v.tmod n<0):v.tmod n=v%n:=by
 rw[Int.tmod_eq_emod];rw[Int.tmod_eq_emod]at h2;have h3:=Int.emod_nonneg v (show n≠0 by omega);have h4:=Int.emod_lt_of_pos v h;split at h2<;>split<;>first|omega|contradiction
def Iw {v n:Int}(h:0<n)(h2:v.tmod n<0):v.tmod n+n=v%n:=by
 rw[Int.tmod_eq_emod]at h2⊢;have h3:=Int.emod_nonneg v (show n≠0 by omega);have h4:=Int.emod_lt_of_pos v h;have h5:(n.natAbs:Int)=n:=by omega
 split at h2<;>split<;>first|omega|contradiction
def dd (l:List Int)(i n:Int):Int:=fZ l i%n
def cx (l:List Int)(i n:Int)(h:0<n):0≤dd l i n∧dd l i n<n:=⟨Int.emod_nonneg _ (by omega),Int.emod_lt_of_pos _ h⟩
def jz (v n:Int)(h:0<n):0≤v%n∧v%n<n:=⟨Int.emod_nonneg _ (by omega),Int.emod_lt_of_pos _ h⟩
def pJ {α:Type} [Inhabited α]{q:α→D}(xs:List α){j:Nat}(h:j<xs.length):cut (xs.map q) (j*1) 1 false=q xs[j]! :=by
 show(xs.map q).getD (j*1) .any=_;rw[Nat.mul_one];exact getD_map h
def AX {α:Type} [Inhabited α]{q:α→D}(xs:List α){j n:Nat}(h:j<xs.length)(hn:(1==n)=false):mf (.agg (xs.map q)) n 1 (0+j*1) false=q xs[j]! :=by
 have hc:(D.agg (xs.map q)).cells=xs.map q:=by
  rfl
 unfold mf;rw[hn,hc,Nat.zero_add];exact pJ xs h
def FG:List ah:=[[97,112,112],[98],[99],[100],[101,45,50]]
def cJ (n:Int):ah:=FG[(n%5).toNat]!
def I1:List ah:=[[120],[121],[122],[119,95,49]]
def gT (n:Int):ah:=I1[(n%4).toNat]!
def Bb:List Int:=[9,7,6,3,1,2]
def sg (l:List Int)(i:Int):b6:=⟨Bb[(dd l i 6).toNat]!,3,⟨dd l (i+1) 3,dd l (i+2) 2,0,[],[]⟩⟩
def mS (l:List Int)(i:Int):ah:=if(sg l i).op=9 then [42]else cV (sg l i)
def v8:List ah:=[[111,115],[97,114,99,104],[97,98,105]]
def CW:List ah:=[[32,61,32],[32,33,61,32]]
def gR (l:List Int)(i:Int):ah:=if 2<dd l i 6 then []else v8[(dd l i 6).toNat]! ++CW[(dd l (i+1) 2).toNat]! ++gT (1+dd l (i+1) 3)
def va:List ah:=[[120],[121]]
def kr (l:List Int)(i:Int)(alone:Bool):List ah:=if alone=true∧2<dd l (i+5) 5 then va.take (dd l (i+5) 5-2).toNat else []
def gS (l:List Int)(i own:Int)(alone:Bool):aT:=⟨cJ (own+1+dd l i 4),mS l (i+1),kr l i alone,decide (dd l (i+4) 3=0)⟩
def dm (l:List Int)(i:Int):Nat:=if dd l i 5=1 then 2 else 1
def oO (l:List Int)(i own:Int)(k:Nat):List aT:=(List.range k).map fun(k:Nat)=>gS l (i+1+6*(k:Nat)) own (decide ((dm l i:Int)=1))
def dS (l:List Int)(i own:Int):aR:=⟨oO l i own (dm l i),gR l (i+14),if dd l (i+16) 4=1 then gT (fZ l (i+17))else []⟩
def C8 (l:List Int)(i own:Int)(k:Nat):oO l i own (k+1)=oO l i own k++[gS l (i+1+6*(k:Nat)) own (decide ((dm l i:Int)=1))]:=by
 unfold oO;rw[List.range_succ,List.map_append];rfl
def tV (l:List Int)(i:Int):dm l i≤2:=by
 unfold dm;split<;>omega
def ij (s:ah):List ah→Nat
 |[]=>0
 |a::r=>if Op.bytesLess a s=true then ij s r+1 else 0
def dN (l:List ah)(s:ah):List ah:=if ij s l<l.length∧l[ij s l]! =s then l else l.take (ij s l)++[s]++l.drop (ij s l)
def xR (s:ah):∀l:List ah,ij s l≤l.length
 |[]=>Nat.le_refl _
 |a::r=>by
  have:=xR s r;simp only[ij,List.length_cons];split<;>omega
def xS (s:ah):∀(l:List ah)(i:Nat),i<ij s l→Op.bytesLess l[i]! s=true
 |[],i,h=>by simp[ij]at h
 |a::r,i,h=>by
  simp only[ij]at h;split at h
  ·rename_i ha;cases i with
   |zero=>simpa using ha
   |succ i=>simpa using xS s r i (by omega)
  ·omega
def ra (s:ah):∀l:List ah,ij s l<l.length→Op.bytesLess l[ij s l]! s=false
 |[],h=>by simp at h
 |a::r,h=>by
  simp only[ij]at h⊢;split
  ·rename_i ha;rw[if_pos ha]at h;simpa using ra s r (by simpa using h)
  ·rename_i ha;simpa using ha
def Ax (n b:Int):Int:=IntKind.wrap .i64 (((BitVec.ofInt 64 (n.fdiv (2^(min b.toNat 64))))&&&(BitVec.ofInt 64 1)).toNat)
def jq:List ah:=[Ji,[120],[121],[122]]
def E5 (r:Rec)(n:Int)(of:List ah)(j:Nat):List ah:=if ¬r.needs[j]!.option=[]∧Ax n (3+(j:Nat))=1 then dN of ([63]++r.needs[j]!.option)else of
def Jk (r:Rec)(n:Int)(of:List ah)(j:Nat):List ah:=if r.needs[j]!.any.length=1∧Ax n (5+(j:Nat))=1 then dN of (r.needs[j]!.any[0]!.name++[47]++[120])else of
def Jl (r:Rec)(n:Int)(of:List ah)(j:Nat):List ah:=Jk r n (E5 r n of j) j
def lU (r:Rec)(n:Int)(j:Nat):List ah:=(List.range j).foldl (Jl r n) []
def HJ (l:List Int)(i:Int)(n:Int)(k:Nat)(of:List ah):List ah:=if(k<3∧Ax n 7=1)∧¬fZ l (i+(k:Nat)+1)%3=0 then dN of jq[k+1]! else of
def Ku (l:List Int)(i:Int)(r:Rec)(k:Nat):Option aU:=if fZ l (i+(k:Nat))%3=0 then none else some ⟨jq[k]!,HJ l i (fZ l (i+(k:Nat))) k (lU r (fZ l (i+(k:Nat))) (min r.needs.length 2))⟩
def E6 (l:List Int)(i:Int)(r:Rec)(k:Nat):List aU:=(List.range k).filterMap (Ku l i r)
def fh (l:List Int)(i:Int)(r:Rec):List aU:=E6 l i r 4
def kN (r:Rec)(n:Int)(j:Nat):lU r n (j+1)=Jl r n (lU r n j) j:=by
 unfold lU;rw[List.range_succ,List.foldl_append];rfl
def Kv {l:List Int}{i:Int}{r:Rec}{k:Nat}(h:fZ l (i+(k:Nat))%3=0):E6 l i r (k+1)=E6 l i r k:=by
 unfold E6;rw[List.range_succ,List.filterMap_append];simp[Ku,h]
def BS {l:List Int}{i:Int}{r:Rec}{k:Nat}{of:List ah}(h:¬fZ l (i+(k:Nat))%3=0)(ho:HJ l i (fZ l (i+(k:Nat))) k (lU r (fZ l (i+(k:Nat))) (min r.needs.length 2))=of):E6 l i r (k+1)=E6 l i r k++[⟨jq[k]!,of⟩]:=by
 unfold E6;rw[List.range_succ,List.filterMap_append];simp[Ku,h,ho]
def m8 (l:List ah)(s:ah):(dN l s).length≤l.length+1:=by
 unfold dN;split
 ·omega
 ·simp only[List.length_append,List.length_take,List.length_drop,List.length_cons,List.length_nil];omega
def HH (r:Rec)(n:Int)(of:List ah)(j:Nat):(E5 r n of j).length≤of.length+1:=by
 unfold E5;split
 ·exact m8 _ _
 ·omega
def HI (r:Rec)(n:Int)(of:List ah)(j:Nat):(Jk r n of j).length≤of.length+1:=by
 unfold Jk;split
 ·exact m8 _ _
 ·omega
def xy (r:Rec)(n:Int):∀j,(lU r n j).length≤2*j
 |0=>by simp[lU]
 |j+1=>by
  have h1:=xy r n j;have h2:=HH r n (lU r n j) j;have h3:=HI r n (E5 r n (lU r n j) j) j;rw[kN,Jl];omega
def jt (n:Int):(cJ n).length≤3:=by
 obtain⟨h1,h2⟩:=jz n 5 (by decide);unfold cJ;have:(n%5).toNat<5:=by omega
 revert this;generalize (n%5).toNat=k;revert k;decide
def qO (n:Int):(gT n).length≤3:=by
 obtain⟨h1,h2⟩:=jz n 4 (by decide);unfold gT;have:(n%4).toNat<4:=by omega
 revert this;generalize (n%4).toNat=k;revert k;decide
def Dm (k:Nat)(h:k<3):(v8[k]!).length≤4:=by
 revert k;decide
def EV (k:Nat)(h:k<2):(CW[k]!).length≤4:=by
 revert k;decide
def HA (l:List Int)(i:Int):(sg l i).v.sm:=⟨by simp[sg],by simp[sg]⟩
end Go.Abs
section
namespace Go.Abs
open Go
def AV:aB:=⟨2,5,[⟨2,none⟩],cq,(sq (r1 [gm bH] 2 0) (sq (r1 [gm s0,gm s1,gn (.bin .rem l0 l1),gm l2] 3 3) (sq (sq (r1 [gm s3,aX l0 bH] 4 1) (.cond s4 (r1 [gm s3,gm s1,au l0 l1,gm l2] 3 3) .skip)) (sq (r1 [gm s3,gm l0] 2 1) .ret))))⟩
def w478 {Γ:Ctx}(hm:(Γ.at 0).bj)  (v:Int)(n:Int)  (hp0:0<n∧n≤9223372036854775807):dK Γ AV (.int .i64 (v%n)) [.int .i64 v,.int .i64 n]:=by
 show bB _ _ _ [⟨_,_⟩,⟨_,_⟩,_,_,_] _;refine ak ?_;refine aQ ?_;refine Cf (v.tmod n) (hn:=by intro _;omega) (hb:=fun _=>rfl) ?_;have ht:=Bt v n (by omega);refine bc ?_;refine cG (fun hc0=>?_) fun hc0=>?_
 ·refine gI ?_;refine iq ?_;exact Iw hp0.1 hc0
 refine aO ?_;refine iq ?_;exact Ix hp0.1 hc0
def Ep (Γ:Ctx):Prop:=∀(v:Int)(n:Int),(0<n∧n≤9223372036854775807)→Γ.pre 478 [.int .i64 v,.int .i64 n]∧Γ.val 478 [.int .i64 v,.int .i64 n]=.int .i64 (v%n)
def Ia:aB:=⟨2,4,[⟨2,none⟩],cq,(sq (r1 [gm bH] 2 0) (sq (sq (r1 [gm s1,aX l0 bH,gm l1,fu 2 s1,fu 2 s0,cH 2 (.len l4),cH 2 (yz l3 l5),gp l2 l6] 3 7) (.cond s3 (sq (r1 [gm bH] 2 0) .ret) .skip)) (sq (r1 [gm s0,gm s1,ga 1 l0 l1,gd l2,gm l3] 2 4) .ret)))⟩
def w479 {Γ:Ctx}(hm:(Γ.at 0).bj)  (l:List Int)(i:Int)   :dK Γ Ia (.int .i64 (fZ l i)) [.sl 1 (l.map (D.int .i64)),.int .i64 i]:=by
 show bB _ _ _ [⟨_,_⟩,⟨_,_⟩,_,_] _;refine ak ?_;refine dA ?_;refine n9 ?_;refine az ?_;refine cG (fun hc0=>?_) fun hc0=>?_
 ·refine aQ ?_;refine iq ?_;simp only[fZ];rw[if_pos hc0]
 refine aA ?_;refine Gm ?_;refine aA ?_;refine iq ?_;simp only[fZ];rw[if_neg (by omega)]
def Hb (Γ:Ctx):Prop:=∀(l:List Int)(i:Int),Γ.pre 479 [.sl 1 (l.map (D.int .i64)),.int .i64 i]∧Γ.val 479 [.sl 1 (l.map (D.int .i64)),.int .i64 i]=.int .i64 (fZ l i)
def Dn:aB:=⟨3,4,[⟨3,none⟩],cq,(sq (r1 [gm bH] 3 0) (sq (r1 [gm s0,gm s1,gx 479 [l0,l1] [[.sl 1 [.a]],[.a]],gm s2,gx 478 [l2,l3] jd,gm l4] 3 5) .ret))⟩
def w228 {Γ:Ctx}(hm:(Γ.at 0).bj)(h478:Ep Γ)(h479:Hb Γ)(l:List Int)(i:Int)(n:Int)  (hp0:0<n∧n≤9223372036854775807):dK Γ Dn (.int .i64 (dd l i n)) [.sl 1 (l.map (D.int .i64)),.int .i64 i,.int .i64 n]:=by
 show bB _ _ _ [⟨_,_⟩,⟨_,_⟩,⟨_,_⟩,_] _;refine ak ?_;refine aQ ?_;refine aj (hc:=h479 l i) ?_;refine ay ?_;refine aj (hc:=h478 _ n hp0) ?_;refine az ?_;exact iq rfl
def CE (Γ:Ctx):Prop:=∀(l:List Int)(i:Int)(n:Int),(0<n∧n≤9223372036854775807)→Γ.pre 228 [.sl 1 (l.map (D.int .i64)),.int .i64 i,.int .i64 n]∧Γ.val 228 [.sl 1 (l.map (D.int .i64)),.int .i64 i,.int .i64 n]=.int .i64 (dd l i n)
def Dp:aB:=⟨1,2,kH,cq,(sq (r1 [gm cse] 1 0) (sq (r1 [gn (.build [.str [],.str [],.str [],.str [],.str []] [(0,1,(cs [97,112,112])),(1,1,(cs [98])),(2,1,(cs [99])),(3,1,(cs [100])),(4,1,(cs [101,45,50]))]),gm s0,gx 478 [l1,BW] jd,gn (.ixA 5 1 false l0 l2),gm l3] 1 4) .ret))⟩
def w227 {Γ:Ctx}(hm:(Γ.at 0).bj)(h478:Ep Γ)(n:Int)   :dK Γ Dp (.str (cJ n)) [.int .i64 n]:=by
 show bB _ _ _ [⟨_,_⟩,_] _;refine ak ?_;refine az ?_;have hr:=jz n 5 (by decide);refine eZ (FG.map D.str) ?_;refine ay ?_;refine aj (hc:=h478 n 5 (by decide)) ?_;refine Cd (n%5).toNat (.str FG[(n%5).toNat]!) (hj:=fun _=>by omega) (hb:=fun _=>by omega) (hv:=fun _=>pJ FG (by show _<5;omega)) ?_;refine az ?_;exact cA rfl
def JK (Γ:Ctx):Prop:=∀(n:Int),Γ.pre 227 [.int .i64 n]∧Γ.val 227 [.int .i64 n]=.str (cJ n)
def Dt:aB:=⟨1,2,kH,cq,(sq (r1 [gm cse] 1 0) (sq (r1 [gn (.build [.str [],.str [],.str [],.str []] [(0,1,(cs [120])),(1,1,(cs [121])),(2,1,(cs [122])),(3,1,(cs [119,95,49]))]),gm s0,gx 478 [l1,vc] jd,gn (.ixA 4 1 false l0 l2),gm l3] 1 4) .ret))⟩
def w481 {Γ:Ctx}(hm:(Γ.at 0).bj)(h478:Ep Γ)(n:Int)   :dK Γ Dt (.str (gT n)) [.int .i64 n]:=by
 show bB _ _ _ [⟨_,_⟩,_] _;refine ak ?_;refine az ?_;have hr:=jz n 4 (by decide);refine eZ (I1.map D.str) ?_;refine ay ?_;refine aj (hc:=h478 n 4 (by decide)) ?_;refine Cd (n%4).toNat (.str I1[(n%4).toNat]!) (hj:=fun _=>by omega) (hb:=fun _=>by omega) (hv:=fun _=>pJ I1 (by show _<4;omega)) ?_;refine az ?_;exact cA rfl
def JT (Γ:Ctx):Prop:=∀(n:Int),Γ.pre 481 [.int .i64 n]∧Γ.val 481 [.int .i64 n]=.str (gT n)
def Ft:aB:=⟨2,6,[⟨2,none⟩],cq,(sq (r1 [gm cse] 2 0) (sq (r1 [gn (.build [.int .i64 0,.int .i64 0,.int .i64 0,.int .i64 0,.int .i64 0,.int .i64 0] [(0,1,BX),(1,1,KD),(2,1,AP),(3,1,kG),(4,1,ca),(5,1,kR)]),gb 6 (.c (.agg [.int .i64 0,.int .i64 0,.int .i64 0,.int .i64 0,.int .i64 0,.int .i64 0])),gt 6 l1 l0] 3 1) (sq (r2 [gm s0,gm s1,gx 228 [l0,l1,AP] [[.sl 1 [.a]],[.a],[.a]],gn (.iaP 6 1 s3 l2),gd l3,gm s0,gm s1,au l6 ca,gx 228 [l5,l7,kG] [[.sl 1 [.a]],[.a],[.a]],gm s0,gm s1,au l10 kR,gx 228 [l9,jx,kR] [[.sl 1 [.a]],[.a],[.a]],gn (.build [.int .i64 0,.int .i64 0,.int .i64 0,.str [],.str []] [(0,1,l8),(1,1,kT)]),gn (.build [.int .i64 0,.int .i64 0,.int .i64 0,.int .i64 0,.int .i64 0,.str [],.str []] [(0,1,l4),(1,1,kG),(2,5,mw)]),gb 7 (.c (.agg [.int .i64 0,.int .i64 0,.int .i64 0,.int .i64 0,.int .i64 0,.str [],.str []])),gt 7 ot nJ] 4 15) (sq (sq (r1 [gf 0 s4,gd l0,aF l1 BX] 5 2) (.cond s5 (sq (r1 [gm (cs [42])] 2 0) .ret) .skip)) (sq (r1 [gk 7 true s4,gx 482 [l0] KA,gm l1] 2 2) .ret)))))⟩
def w230 {Γ:Ctx}(hm:(Γ.at 0).bj)(h228:CE Γ)(h482:Mw Γ)(l:List Int)(i:Int)  (hp0:0≤i∧i≤4000000):dK Γ Ft (.str (mS l i)) [.sl 1 (l.map (D.int .i64)),.int .i64 i]:=by
 show bB _ _ _ [⟨_,_⟩,⟨_,_⟩,_,_,_,_] _;refine ak ?_;refine az ?_;refine eZ (Bb.map (D.int .i64)) ?_;refine ay ?_;refine aJ (.agg (Bb.map (D.int .i64))) (he:=by exact rfl) ?_;refine ax ?_;have hr:=cx l i 6 (by decide);refine ax ?_;refine aj (hc:=h228 l (i) 6 (by decide)) ?_;refine xW (dd l i 6).toNat (hj:=fun _=>by omega) (hb:=fun _=>by omega) ?_;refine cu (v:=.int .i64 Bb[(dd l i 6).toNat]!) (hv:=fun _=>AX Bb (by show _<6;omega) rfl) (ho:=by omega) ?_;refine az ?_;refine aj (hc:=h228 l (i+1) 3 (by decide)) ?_;refine az ?_;refine aj (hc:=h228 l (i+2) 2 (by decide)) ?_;refine bA (df.D (sg l i).v) ?_;refine bA (b6.D (sg l i)) ?_;refine ay ?_;refine aJ (b6.D (sg l i)) (he:=by exact rfl) ?_;refine aA ?_;refine cu (v:=.int .i64 (sg l i).op) ?_;refine ax ?_;refine cG (fun hc0=>?_) fun hc0=>?_
 ·refine aQ ?_;refine cA ?_;unfold mS;rw[if_pos hc0]
 refine ax ?_;refine cE (d:=b6.D (sg l i)) ?_;refine aj (hc:=h482 (sg l i) (HA l i)) ?_;refine az ?_;refine cA ?_;unfold mS;rw[if_neg hc0]
def JL (Γ:Ctx):Prop:=∀(l:List Int)(i:Int),(0≤i∧i≤4000000)→Γ.pre 230 [.sl 1 (l.map (D.int .i64)),.int .i64 i]∧Γ.val 230 [.sl 1 (l.map (D.int .i64)),.int .i64 i]=.str (mS l i)
def Dr:aB:=⟨2,5,[⟨2,none⟩],cq,(sq (r1 [gm cse] 2 0) (sq (r1 [gm s0,gm s1,gx 228 [l0,l1,AP] [[.sl 1 [.a]],[.a],[.a]],gm l2] 3 3) (sq (sq (r1 [gm s3,dH l0 kR] 4 1) (.cond s4 (sq (r1 [gm cse] 2 0) .ret) .skip)) (sq (r2 [gn (.build [.str [],.str [],.str []] [(0,1,(cs [111,115])),(1,1,(cs [97,114,99,104])),(2,1,(cs [97,98,105]))]),gm s3,gn (.ixA 3 1 false l0 l1),gn (.build [.str [],.str []] [(0,1,(cs [32,61,32])),(1,1,(cs [32,33,61,32]))]),gm s0,gm s1,au l5 ca,gx 228 [l4,l6,kR] [[.sl 1 [.a]],[.a],[.a]],gn (.ixA 2 1 false l3 l7),au l2 l8,gm s0,gm s1,au jx ca,gx 228 [l10,kT,kG] [[.sl 1 [.a]],[.a],[.a]],au ca mw,gx 481 [nJ] cq,au l9 ot,gm qk] 2 17) .ret))))⟩
def w231 {Γ:Ctx}(hm:(Γ.at 0).bj)(h228:CE Γ)(h481:JT Γ)(l:List Int)(i:Int)  (hp0:0≤i∧i≤4000000):dK Γ Dr (.str (gR l i)) [.sl 1 (l.map (D.int .i64)),.int .i64 i]:=by
 show bB _ _ _ [⟨_,_⟩,⟨_,_⟩,_,_,_] _;refine ak ?_;refine aQ ?_;refine aj (hc:=h228 l (i) 6 (by decide)) ?_;refine bc ?_;refine aq (fun hc0=>?_) (fun hc0=>?_)
 ·try simp only[iB]at hc0
  refine aQ ?_;refine cA ?_;unfold gR;rw[if_pos hc0]
 simp only[decide_eq_false_iff_not]at hc0;have hr:=cx l i 6 (by decide);have hr2:=cx l (i+1) 2 (by decide);have hr3:=cx l (i+1) 3 (by decide);have hw:=qO (1+dd l (i+1) 3);have hk:=Dm (dd l i 6).toNat (by omega);have he:=EV (dd l (i+1) 2).toNat (by omega);refine ax ?_;refine eZ (v8.map D.str) ?_;refine ay ?_;refine Cd (dd l i 6).toNat (.str v8[(dd l i 6).toNat]!) (hj:=fun _=>by omega) (hb:=fun _=>by omega) (hv:=fun _=>pJ v8 (by show _<3;omega)) ?_;refine eZ (CW.map D.str) ?_;refine az ?_;refine aj (hc:=h228 l (i+1) 2 (by decide)) ?_;refine Cd (dd l (i+1) 2).toNat (.str CW[(dd l (i+1) 2).toNat]!) (hj:=fun _=>by omega) (hb:=fun _=>by omega) (hv:=fun _=>pJ CW (by show _<2;omega)) ?_;refine c9 (hb:=fun _=>by omega) ?_;refine az ?_;refine aj (hc:=h228 l (i+1) 3 (by decide)) ?_;refine ay ?_;refine aj (hc:=h481 _) ?_;refine c9 (hb:=fun _=>by simp only[List.length_append];omega) ?_;refine az ?_;refine cA ?_;unfold gR;rw[if_neg hc0]
def JM (Γ:Ctx):Prop:=∀(l:List Int)(i:Int),(0≤i∧i≤4000000)→Γ.pre 231 [.sl 1 (l.map (D.int .i64)),.int .i64 i]∧Γ.val 231 [.sl 1 (l.map (D.int .i64)),.int .i64 i]=.str (gR l i)
end Go.Abs
end
section
namespace Go.Abs
open Go
def Ds:aB:=⟨4,8,[⟨4,some (4,true)⟩],[[.a,.a,.sl 1 [.a],.a]],(sq (r1 [gb 4 (.c (.agg [.str [],.str [],.ar,.bool false]))] 4 0) (sq (r1 [gm s2,au l0 ca,gm s0,gm s1,gx 228 [l2,l3,vc] [[.sl 1 [.a]],[.a],[.a]],au l1 l4,gx 227 [l5] cq,gm s0,gm s1,au l8 ca,gx 230 [l7,l9] [[.sl 1 [.a]],[.a]],gm s0,gm s1,au kT vc,gx 228 [jx,mw,kG] [[.sl 1 [.a]],[.a],[.a]],aF nJ bH,gn (.build [.str [],.str [],.ar,.bool false] [(0,1,l6),(1,1,l10),(3,1,ot)]),gb 4 (.c (.agg [.str [],.str [],.ar,.bool false])),gt 4 ve qk] 7 17) (sq (sq (r1 [gm s0,gm s1,au l1 BW,gx 228 [l0,l2,BW] [[.sl 1 [.a]],[.a],[.a]],gm l3] 5 4) (sq (r1 [gm s3,gm l0,gmt 1 s5,cw 1 (dw l2 kR),fk l1 l3] 6 4) (.cond s6 (rg [gn (.bsl 1 (.str []) 2 [(0,(cs [120])),(1,(cs [121]))]),gm s5,fH l1 kR,gn (.slA 1 l0 none (some l2)),gf 2 s7,gt 1 l4 l3] []) .skip))) (sq (rg [gk 4 true s7,gt 4 s4 l0] []) .ret))))⟩
def w480 {Γ:Ctx}(hm:(Γ.at 0).bj)(h227:JK Γ)(h228:CE Γ)(h230:JL Γ)(l:List Int)(i:Int)(own:Int)(alone:Bool)  (hp0:0≤i∧i≤3000000)(hp1:0≤own∧own≤1000000):dK Γ Ds (aT.D (gS l i own alone)) [.sl 1 (l.map (D.int .i64)),.int .i64 i,.int .i64 own,.bool alone]:=by
 show bB _ _ _ [⟨_,_⟩,⟨_,_⟩,⟨_,_⟩,⟨_,_⟩,_,_,_,_] _;refine ak ?_;refine az ?_;have hr:=cx l i 4 (by decide);refine aA ?_;refine aj (hc:=h228 l (i) 4 (by decide)) ?_;refine ay ?_;refine aj (hc:=h227 (own+1+dd l i 4)) ?_;refine az ?_;refine aj (hc:=h230 l (i+1) (by omega)) ?_;refine az ?_;refine aj (hc:=h228 l (i+4) 3 (by decide)) ?_;refine ay ?_;refine bA (.agg [.str (cJ (own+1+dd l i 4)),.str (mS l (i+1)),.ar,.bool (decide (dd l (i+4) 3=0))]) ?_;refine ay ?_;refine aJ (.agg [.str (cJ (own+1+dd l i 4)),.str (mS l (i+1)),.ar,.bool (decide (dd l (i+4) 3=0))]) (he:=by exact rfl) ?_;refine aO ?_;refine aj (hc:=h228 l (i+5) 5 (by decide)) ?_;refine aA ?_;have hr5:=cx l (i+5) 5 (by decide);refine aO ?_;refine cG (fun hc0=>?_) fun hc0=>?_
 ·refine ay ?_;refine cz (va.map D.str) ?_;refine ax ?_;refine zw (dd l (i+5) 5-2).toNat (hj:=fun _=>by omega) (hb:=fun _=>by omega) ?_;refine ay ?_;refine aJ (.agg [.str (cJ (own+1+dd l i 4)),.str (mS l (i+1)),(.own 30 1 0 (dd l (i+5) 5-2).toNat),.bool (decide (dd l (i+4) 3=0))]) (he:=by exact rfl) ?_;refine ay ?_;have hk:(dd l (i+5) 5-2).toNat≤va.length:=by show _≤2;omega
  refine ey 30 ?_ (he:=by simp only[lV,gM,kF,mQ,oN,bO,Nat.reduceEqDiff,if_true,if_false,and_self,true_and,and_true,false_and,and_false,Nat.zero_add,List.length_map,Nat.le_refl,List.drop_zero,aL,reduceCtorEq,List.length_cons,List.length_nil,Nat.reduceAdd,Nat.reduceLeDiff,hk,←List.map_take];exact rfl) (hm:=by simp only[lV,gM,kF,mQ,oN,bO,Nat.reduceEqDiff,if_true,if_false,and_self,true_and,and_true,false_and,and_false,Nat.zero_add,List.length_map,Nat.le_refl,List.drop_zero,aL,reduceCtorEq,List.length_cons,List.length_nil,Nat.reduceAdd,Nat.reduceLeDiff,hk,←List.map_take];exact rfl);refine ay ?_;refine cE (d:=(.agg [.str (cJ (own+1+dd l i 4)),.str (mS l (i+1)),(.sl 1 ((va.take (dd l (i+5) 5-2).toNat).map D.str)),.bool (decide (dd l (i+4) 3=0))])) ?_;refine aJ (.agg [.str (cJ (own+1+dd l i 4)),.str (mS l (i+1)),(.sl 1 ((va.take (dd l (i+5) 5-2).toNat).map D.str)),.bool (decide (dd l (i+4) 3=0))]) (he:=by exact rfl) ?_;refine ax ?_;refine cj (?_);simp only[aT.D,gS,kr];rw[if_pos hc0];rfl
 refine ay ?_;have hf:kr l i alone=[]:=if_neg (by rintro⟨h1,h2⟩;rcases hc0 with h|h;rw[h]at h1;cases h1;exact h h2);refine lY [(0,.buf 4 [.agg [.str [],.str [],.ar,.bool false]]),(18,.buf 4 [aT.D (gS l i own alone)])] (.id ae (.bf ae (.cons (by simp only[aT.D,gS,hf];exact .ag (.cons (.refl _) (.cons (.refl _) (.cons (.nil 1) (.cons (.refl _) .nil))))) .nil) .nil)) ?_;refine ay ?_;refine cE (d:=(aT.D (gS l i own alone))) ?_;refine aJ (aT.D (gS l i own alone)) (he:=by exact rfl) ?_;refine ax ?_;refine cj (?_);rfl
def Mv (Γ:Ctx):Prop:=∀(l:List Int)(i:Int)(own:Int)(alone:Bool),(0≤i∧i≤3000000)→(0≤own∧own≤1000000)→Γ.pre 480 [.sl 1 (l.map (D.int .i64)),.int .i64 i,.int .i64 own,.bool alone]∧Γ.val 480 [.sl 1 (l.map (D.int .i64)),.int .i64 i,.int .i64 own,.bool alone]=aT.D (gS l i own alone)
end Go.Abs
end
section
namespace Go.Abs
open Go
def Dq:aB:=⟨3,10,[⟨3,some (3,true)⟩],[[.sl 4 [.a,.a,.sl 1 [.a],.a],.a,.a]],(sq (r1 [gb 3 (.c (.agg [.ar,.str [],.str []]))] 3 0) (sq (r1 [gb 3 (.c (.agg [.ar,.str [],.str []]))] 8 0) (sq (r1 [gm ca] 6 0) (sq (sq (r1 [gm s0,gm s1,gx 228 [l0,l1,BW] [[.sl 1 [.a]],[.a],[.a]],aF l2 ca] 4 3) (.cond s4 (r1 [gm kR] 6 0) .skip)) (sq (sq (r1 [gm bH] 5 0) (.block 0 (.loop (sq (sq (r1 [gm s5,gm s6,aX l0 l1] 7 2) (iw s7 0)) (sq (.block 1 (rt [gf 0 s8,gd l0,gm s0,gm s1,au l3 ca,gm s5,gn (.bin .mul AP l5),au l4 l6,gm s2,gm s6,aF l9 ca,gx 480 [l2,l7,l8,l10] [[.sl 1 [.a]],[.a],[.a],[.a]],gn (.bsl 4 (.agg [.str [],.str [],.ar,.bool false]) 1 [(0,jx)]),gn (.app 4 l1 kT),gf 0 s8,gt 1 nJ mw] [])) (r1 [gm s5,au l0 ca,gm l1] 5 2)))))) (sq (rg [gm s0,gm s1,au l1 (i6 14),gx 231 [l0,l2] [[.sl 1 [.a]],[.a]],gf 1 s8,gt 1 l4 l3] []) (sq (sq (r1 [gm s0,gm s1,au l1 (i6 16),gx 228 [l0,l2,vc] [[.sl 1 [.a]],[.a],[.a]],aF l3 ca] 9 4) (.cond s9 (rg [gm s0,gm s1,au l1 (i6 17),gx 479 [l0,l2] [[.sl 1 [.a]],[.a]],gx 481 [l3] cq,gf 2 s8,gt 1 l5 l4] []) .skip)) (sq (rg [gk 3 true s8,gt 3 s3 l0] []) .ret))))))))⟩
def w229 {Γ:Ctx}(hm:(Γ.at 0).bj)(h228:CE Γ)(h231:JM Γ)(h479:Hb Γ)(h480:Mv Γ)(h481:JT Γ)(l:List Int)(i:Int)(own:Int)  (hp0:0≤i∧i≤2000000)(hp1:0≤own∧own≤1000000):dK Γ Dq (aR.D (dS l i own)) [.sl 1 (l.map (D.int .i64)),.int .i64 i,.int .i64 own]:=by
 show bB _ _ _ [⟨_,_⟩,⟨_,_⟩,⟨_,_⟩,_,_,_,_,_,_,_] _;refine ak ?_;refine gJ ?_;refine aj (hc:=h228 l (i) 5 (by decide)) ?_;refine ax ?_;refine py hm (ι:=Unit) (fun _=>[⟨true,.sl 1 (l.map (D.int .i64))⟩,⟨true,.int .i64 i⟩,⟨true,.int .i64 own⟩,⟨true,.ptr 0 3 0 0⟩,.un,.un,⟨true,.int .i64 (dm l i:Nat)⟩,.un,⟨true,.ptr 1 3 0 0⟩,.un]) (fun _=>[(0,.buf 3 [.agg [.ar,.str [],.str []]]),(1,.buf 3 [.agg [.ar,.str [],.str []]])]) 20 (fun _=>True) ?_ ?_
 ·refine gw (fun hc0=>?_) fun hc0=>?_
  ·refine aA ?_;have hmn:((dm l i:Nat):Int)=2:=by simp[dm,hc0]
   exact⟨(),trivial,(aP.to [(0,0),(1,1)] ae ae (by repeat(first|exact c7.nil|refine c7.un ?_|refine c7.eq ae ?_|refine c7.nl (congrArg (D.int .i64) hmn) ae ?_)) zv)⟩
  refine ax ?_;have hmn:((dm l i:Nat):Int)=1:=by simp[dm,hc0]
  exact⟨(),trivial,(aP.to [(0,0),(1,1)] ae ae (by repeat(first|exact c7.nil|refine c7.un ?_|refine c7.eq ae ?_|refine c7.nl (congrArg (D.int .i64) hmn) ae ?_)) zv)⟩
 ·rintro _-
  have hml:=tV l i;refine aA ?_;refine bq hm (ι:=(Nat×List aT)) (fun p=>[⟨true,.sl 1 (l.map (D.int .i64))⟩,⟨true,.int .i64 i⟩,⟨true,.int .i64 own⟩,⟨true,.ptr 0 3 0 0⟩,.un,⟨true,.int .i64 (p.1:Nat)⟩,⟨true,.int .i64 (dm l i:Nat)⟩,.un,⟨true,.ptr 1 3 0 0⟩,.un]) (fun p=>[(0,.buf 3 [.agg [.ar,.str [],.str []]]),(1,.buf 3 [(.agg [.own 2 4 0 p.2.length,.str [],.str []])]),(2,.buf 4 (p.2.map aT.D))]) 40 (fun p=>p.1≤dm l i∧p.2=oO l i own p.1) (fun p=>dm l i-p.1) (0,[]) ⟨by dsimp only;omega,rfl⟩ (aP.to [(0,0),(1,1)] ae ae lN (by(first|refine aC.de ae ae bY ?_|refine aC.mr ae ae ae ?_|refine aC.qj ae ae ae ae ?_);refine aC.ni 1 ae ae (by exact⟨_,_,rfl,⟨_,rfl,⟨_,_,rfl,Or.inr ⟨_,_,_,rfl⟩,⟨_,_,rfl,⟨rfl,rfl⟩,⟨_,_,rfl,⟨rfl,rfl⟩,rfl⟩⟩⟩⟩,rfl⟩) ?_;refine aC.mt ae ae ae ae ?_;exact aC.nil)) ?_;rintro⟨k,ws⟩ ⟨hk,hw⟩;dsimp only at hk hw⊢;have hwl:ws.length=k:=by rw[hw];simp[oO]
  refine aO ?_;refine aq (fun hc1=>?_) (fun hc1=>?_)
  ·try simp only[iB]at hc1
   refine dA ?_;refine tc ?_;refine aA ?_;refine aj (hc:=h480 l (i+1+6*(k:Nat)) own (decide ((dm l i:Int)=1)) (by omega) hp1) ?_;refine cz [aT.D (gS l (i+1+6*(k:Nat)) own (decide ((dm l i:Int)=1)))] ?_;refine iX (q:=aT.D) (xs:=ws) (e:=gS l (i+1+6*(k:Nat)) own (decide ((dm l i:Int)=1))) ?_;refine ay ?_;refine aJ (.agg [.own 56 4 0 (ws++[gS l (i+1+6*(k:Nat)) own (decide ((dm l i:Int)=1))]).length,.str [],.str []]) (he:=by exact rfl) ?_;refine b8 ?_;exact⟨(k+1,ws++[gS l (i+1+6*(k:Nat)) own (decide ((dm l i:Int)=1))]),⟨by dsimp only;omega,by dsimp only;rw[C8,hw]⟩,by dsimp only;omega,(aP.to [(0,0),(1,1),(56,2)] ae ae lN (by(first|refine aC.de ae ae bY ?_|refine aC.mr ae ae ae ?_|refine aC.qj ae ae ae ae ?_);refine aC.mr ae ae ae ?_;refine aC.nl 56 ae ae rfl (bt (fun _=>rfl) _) ?_;exact aC.nil))⟩
  simp only[decide_eq_false_iff_not]at hc1;obtain rfl:k=dm l i:=by omega
  refine aO ?_;refine aj (hc:=h231 l (i+14) (by omega)) ?_;refine ay ?_;refine aJ (.agg [.own 2 4 0 ws.length,.str (gR l (i+14)),.str []]) (he:=by exact rfl) ?_;refine aO ?_;refine aj (hc:=h228 l (i+16) 4 (by decide)) ?_;refine ax ?_;refine cG (fun hc2=>?_) fun hc2=>?_
  ·refine aA ?_;refine aj (hc:=h479 l (i+17)) ?_;refine aj (hc:=h481 _) ?_;refine ay ?_;refine aJ (.agg [.own 2 4 0 ws.length,.str (gR l (i+14)),.str (gT (fZ l (i+17)))]) (he:=by exact rfl) ?_;refine ay ?_;refine ey 2 ?_;refine ay ?_;refine cE (d:=(.agg [.sl 4 (ws.map aT.D),.str (gR l (i+14)),.str (gT (fZ l (i+17)))])) ?_;refine aJ (.agg [.sl 4 (ws.map aT.D),.str (gR l (i+14)),.str (gT (fZ l (i+17)))]) (he:=by exact rfl) ?_;refine ax ?_;refine cj (?_);simp only[aR.D,dS];rw[if_pos hc2,←hw];rfl
  refine ay ?_;refine ey 2 ?_;refine ay ?_;refine cE (d:=(.agg [.sl 4 (ws.map aT.D),.str (gR l (i+14)),.str []])) ?_;refine aJ (.agg [.sl 4 (ws.map aT.D),.str (gR l (i+14)),.str []]) (he:=by exact rfl) ?_;refine ax ?_;refine cj (?_);simp only[aR.D,dS];rw[if_neg hc2,←hw];rfl
def L5 (Γ:Ctx):Prop:=∀(l:List Int)(i:Int)(own:Int),(0≤i∧i≤2000000)→(0≤own∧own≤1000000)→Γ.pre 229 [.sl 1 (l.map (D.int .i64)),.int .i64 i,.int .i64 own]∧Γ.val 229 [.sl 1 (l.map (D.int .i64)),.int .i64 i,.int .i64 own]=aR.D (dS l i own)
end Go.Abs
end
section
namespace Go.Abs
open Go
def Fu:aB:=⟨2,6,[⟨2,none⟩],[[.sl 1 [.a]]],(sq (r1 [gm (.c (.ar))] 2 0) (sq (r1 [gm bH] 3 0) (sq (.block 0 (.loop (sq (sq (r1 [gm s3,gm s0,gl l1,aX l0 l2,gm l3,gmt 4 s0,gmt 4 s3,cw 4 (.ia 1 l5 l6),jZ 4 l7,gmt 4 s1,cw 4 (pC l8 l9),fk l4 l10] 4 11) (iw s4 0)) (.block 1 (r1 [gm s3,au l0 ca,gm l1] 3 2))))) (sq (sq (r1 [gm s3,gm s0,gl l1,aX l0 l2,gm l3,gmt 4 s0,gmt 4 s3,cw 4 (.ia 1 l5 l6),jZ 4 l7,gmt 4 s1,cw 4 (cR l8 l9),fk l4 l10] 5 11) (.cond s5 (sq (r1 [gm s0,gm l0] 2 1) .ret) .skip)) (sq (r2 [gm s0,gm s3,gn (.slA 1 l0 none (some l1)),gn (.appN 1 l2),gm s1,gn (.bsl 1 (.str []) 1 [(0,l4)]),gn (.app 1 l3 l5),gm s0,gm s3,gn (.slA 1 l7 (some l8) none),gn (.app 1 l6 l9),gm l10] 2 11) .ret)))))⟩
def w483 {Γ:Ctx}(hm:(Γ.at 0).bj)  (l:List ah)(s:ah)  (hp0:l.length≤1000):dK Γ Fu (.sl 1 ((dN l s).map D.str)) [.sl 1 (l.map D.str),.str s]:=by
 show bB _ _ _ [⟨_,_⟩,⟨_,_⟩,_,_,_,_] _;refine ak ?_;refine aQ ?_;refine bq hm (ι:=Nat) (fun i=>[⟨true,.sl 1 (l.map D.str)⟩,⟨true,.str s⟩,.un,⟨true,.int .i64 (i:Nat)⟩,.un,.un]) (fun i=>[]) 2 (fun i=>i≤ij s l) (fun i=>l.length-i) 0 (Nat.zero_le _) (dT []) ?_;rintro i hi;have hpl:=xR s l;refine aQ ?_;intro u0;refine aA ?_;refine cK i ?_;refine bQ (v:=.str l[i]!) ?_;refine aA ?_;refine aq (fun hc0=>?_) (fun hc0=>?_)
 ·simp only[Bool.and_eq_true,decide_eq_true_eq]at hc0;have hip:i+1≤ij s l:=by
   by_cases he:i=ij s l
   ·have h1:=ra s l (by omega);rw[←he,hc0.2]at h1;cases h1
   ·omega
  refine dA ?_;exact⟨i+1,(by omega),by omega,(dT [])⟩
 simp only[Bool.and_eq_false_iff,decide_eq_false_iff_not]at hc0;obtain rfl:i=ij s l:=by
  by_cases he:i<ij s l
  ·have h1:=xS s l i he;rcases hc0 with h|h
   ·omega
   ·rw[h1]at h;cases h
  ·omega
 refine bc ?_;intro u1;refine aA ?_;refine cK (ij s l) ?_;refine bQ (v:=.str l[ij s l]!) ?_;refine aA ?_;refine cG (fun hc1=>?_) fun hc1=>?_
 ·refine aO ?_;refine cj (?_);rw[dN,if_pos ⟨by omega,hc1.2⟩];rfl
 refine aA ?_;refine uD (ij s l) ?_;refine IC (he:=sa.sl) (n:=(l.take (ij s l)).length) (hn:=by simp) (hb:=by simp only[List.length_take];omega) ?_;refine ay ?_;refine cz [.str s] ?_;refine iX (q:=D.str) (xs:=l.take (ij s l)) (e:=s) (hb:=by simp only[List.length_take];omega) ?_;refine ax ?_;refine uE (ij s l) ?_;refine K3 (xs:=l.take (ij s l)++[s]) (ys:=l.drop (ij s l)) (he:=sa.sl) (hb:=by simp only[List.length_append,List.length_take,List.length_drop,List.length_cons,List.length_nil];omega) ?_;refine ax ?_;refine ey 36 ?_;refine ay ?_;refine cj (?_);rw[dN,if_neg (by rintro⟨h1,h2⟩;rcases hc1 with h|h;omega;exact h h2)];rfl
def Mx (Γ:Ctx):Prop:=∀(l:List ah)(s:ah),(l.length≤1000)→Γ.pre 483 [.sl 1 (l.map D.str),.str s]∧Γ.val 483 [.sl 1 (l.map D.str),.str s]=.sl 1 ((dN l s).map D.str)
end Go.Abs
end
