/- A part of the proofs of the statements: RSpec15, X13, X14, RSpec16, X15, RSpec17, W1, W4, X16, RSpec18, Y1, RSpec19, LAsmS, LInj, Y2, Y3, RSpec20, Y4, RSpec21, LAsmT, RGen1, G1, G2, G3, G4. -/
import Derived.Test.YtpdlhpamcaocgaaGreatDoorP07
set_option linter.all false
set_option maxRecDepth 4000
namespace Go.Abs
def Ld.x5 {r:Ld}(h:r.sm):r.to r.rest=r:=by
 obtain⟨ls,n⟩:=r;have h1:n≤ls.length:=h.1.1;simp only[Ld.to,Ld.rest,List.length_drop,Ld.mk.injEq,true_and];omega
def Ld.sS {r:Ld}{q:List ah}(h:q<:+r.ls):(r.to q).rest=q:=by
 obtain⟨ls,n⟩:=r;obtain⟨a,e⟩:=h;simp only at e;subst e;simp[Ld.rest,Ld.to]
def Ld.sm.to {r:Ld}(h:r.sm)(q:List ah):(r.to q).sm:=⟨⟨Nat.sub_le _ _,h.1.2⟩,h.2⟩
def Ld.uC (r:Ld):r.rest<:+r.ls:=List.drop_suffix _ _
def cC (w:ah)(n:Nat)(op:Bool)(p:List ah):List ah:=match bc w n op p with
 |some (_,q)=>q
 |none=>p
def kV {w:ah}{n:Nat}{op:Bool}{p l q:List ah}(h:bc w n op p=some (l,q)):q<:+p:=by
 obtain⟨t,rfl,_⟩:=dn h;exact List.suffix_cons _ _
def Ld.ym {r:Ld}{p:List ah}(hp:p<:+r.ls){w:ah}{n:Nat}{op:Bool}:(r.to p).after (bc w n op p)=r.to (cC w n op p):=by
 unfold cC;cases h:bc w n op p with
 |none=>rfl
 |some lq=>
  obtain⟨l,q⟩:=lq;have:=hY h;have:=hp.length_le;simp only[Ld.after,Ld.to,Ld.mk.injEq,true_and];omega
def sM {Γ:Ctx}(h:G3 Γ){r:Ld}(hr:r.sm){p:List ah}(hp:p<:+r.ls){w:ah}{n:Nat}{op:Bool}(hn:n≤1000)(ho:op=true→1≤n):
  Γ.fp 465 (Ld.D (r.to p)) [.str w,.int .i64 (n:Nat),.bool op]∧Γ.fv 465 (Ld.D (r.to p)) [.str w,.int .i64 (n:Nat),.bool op]=.tup [vr (bc w n op p),.bool (bc w n op p).isSome]∧Γ.fs 465 (Ld.D (r.to p)) [.str w,.int .i64 (n:Nat),.bool op]=Ld.D (r.to (cC w n op p)):=by
 have:=h (r.to p) w n op (hr.to p) hn ho;rw[Ld.sS hp,Ld.ym hp]at this;exact this
def qO {w:ah}{n:Nat}{op:Bool}{t:ah}{l:List ah}(h:eA w n op t=some l):(n=0∨l.length=n)∧[]∉l∧l=cn n op t:=by
 unfold eA at h;split at h
 ·rename_i hc;obtain rfl:=Option.some.inj h;exact⟨hc.2.1,hc.2.2,rfl⟩
 ·cases h
def mT (x:UInt8):∀(l:List ah)(n:Nat),(aG [x] (l.drop n)).length≤(aG [x] l).length
 |[],n=>by simp
 |a::r,0=>Nat.le_refl _
 |[a],n+1=>by simp[aG]
 |a::b::r,n+1=>by
  have:=mT x (b::r) n;rw[List.drop_succ_cons,dG [x] a (b::r) (by simp)];simp only[List.length_append];omega
def zY {n:Nat}{op:Bool}{t w:ah}(h:w∈cn n op t):w.length≤t.length:=by
 unfold cn at h;split at h
 ·unfold mB at h;split at h
  ·exact dq t 32 h
  ·rw[List.mem_append]at h;rcases h with h|h
   ·exact dq t 32 (List.mem_of_mem_take h)
   ·simp only[List.mem_singleton]at h;subst h;have:=mT 32 (ai t 32) (n-1);rw[iF (b:=32) (x:=32) rfl t]at this;exact this
 ·exact dq t 32 h
def kd {r:Ld}(hr:r.sm){p:List ah}(hp:p<:+r.ls){w:ah}{n:Nat}{op:Bool}{l q:List ah}(h:bc w n op p=some (l,q)):
  (n=0∨l.length=n)∧(∀u∈l,u.length≤1048576)∧q<:+r.ls∧q.length+1=p.length:=by
 obtain⟨t,rfl,ht⟩:=dn h;obtain⟨h1,_,h3⟩:=qO ht;refine⟨h1,fun u hu=>?_,(List.suffix_cons _ _).trans hp,rfl⟩;rw[h3]at hu;have:=zY hu;have:=hr.2 t (hp.subset (.head _));omega
def Ld.back {r:Ld}{t:ah}{q:List ah}(h:(t::q)<:+r.ls):uG (Ld.D (r.to q)) 2 1 1 (.int .i64 (((r.to q).at':Nat) -1:Int))=Ld.D (r.to (t::q)):=by
 have:=h.length_le;show D.agg [.sl 1 (r.ls.map D.str),.int .i64 (((r.ls.length-q.length:Nat):Int) -1)]=D.agg [.sl 1 (r.ls.map D.str),.int .i64 ((r.ls.length-(q.length+1):Nat):Int)];simp only[List.length_cons]at this;congr 4;omega
def gA {α:Type}{o:Option α}(h:o.isSome=true):∃a,o=some a:=Option.isSome_iff_exists.1 h
def gz {α:Type}{o:Option α}(h:o.isSome=false):o=none:=by cases o with
 |none=>rfl
 |some a=>cases h
def aX.N (x:aX):Go.Abs.D:=.agg [.str x.name,.str x.range,KI x.feats,.bool x.bare]
def KK:∀l:List ah,sz (KI l) (.sl 1 (l.map D.str))
 |[]=>.nil 1
 |_::_=>.refl _
def aX.wk (x:aX):sz x.N x.D:=.ag (.cons (.refl _) (.cons (.refl _) (.cons (KK _) (.cons (.refl _) .nil))))
def aX.lv (x:aX):x.N.aL=true:=by
 simp only[aX.N,D.aL,aI,wj,Bool.and_true]
def p7 {p:List ah}(h:bc gM 5 true p=none):bP p=([],p):=by
 match p,h with
 |[],_=>rfl
 |t::r,h=>
  simp only[bc]at h;split at h
  ·cases h
  ·rename_i hn;simp only[bP,hn]
def Bq {p l q:List ah}(h:bc gM 5 true p=some (l,q))(ho:pL l=false):bP p=([],p):=by
 obtain⟨t,rfl,ht⟩:=dn h;simp only[bP,ht,ho,Bool.false_eq_true,if_false]
def rX {p l q:List ah}(h:bc gM 5 true p=some (l,q))(ho:pL l=true):bP p=(eQ l::(bP q).1,(bP q).2):=by
 obtain⟨t,rfl,ht⟩:=dn h;simp only[bP,ht,ho,if_true]
def nN (s:ah)(b:Int):ai s b≠[]:=by
 have:=eO b s [];intro h;unfold ai at h;rw[h]at this;simp at this
def KJ {l:List ah}(h:l≠[]):KI l=.sl 1 (l.map D.str):=by
 match l,h with
 |_::_,_=>rfl
def fW (p:List ah):(bo p).2<:+p:=by
 unfold bo;split
 ·rename_i h;exact kV h
 ·exact List.suffix_refl _
def FO (p:List ah):(oL p).2<:+p:=by
 unfold oL;split
 ·rename_i h;exact kV h
 ·exact List.suffix_refl _
end Go.Abs
section
namespace Go.Abs
open Go
def fO:aB:=⟨1,5,kC,cv,(sq (r1 [gm cse] 1 0) (sq (sq (rg [gm s0,gn (.callF 465 l0 [(cs [119,104,101,110]),kS,sC] Nw),gm l1,ge l2 0,ge l2 1,gm l3,gm l4] [(4,5),(2,6)]) (sq (r1 [gm s2] 3 0) (.cond s3 (sq (r1 [gm s4,ga 1 l0 cd,gd l1,gm l2] 1 3) .ret) .skip))) (AH cse)))⟩
def w468 {Γ:Ctx}(hm:(Γ.at 1).bq)(h465:G3 (Γ.at 1))(r:Ld)  (hp0:r.sm):bB (Γ.at 1) fO.body (Cz fO 2 (.str (bo r.rest).1) (Ld.D (r.to (bo r.rest).2)):Ex→List aY→St→Prop) (eI fO (.ptr 0 2 0 0::[])) ⟨1,[(0,.buf 2 [(Ld.D r)])]⟩:=by
 show bB _ _ _ [⟨true,.ptr 0 2 0 0⟩,.un,.un,.un,.un] ⟨1,[(0,.buf 2 [(Ld.D r)])]⟩;have hself:=Ld.x5 hp0;have hq1:=r.uC;refine ak ?_;refine aA ?_;rw[show Ld.D r=Ld.D (r.to r.rest)by rw[hself]];refine ay ?_;refine jr (hc:=sM h465 hp0 (p:=r.rest) hq1 (w:=e8) (n:=2) (op:=true) (by decide) (by decide)) ?_;refine ay ?_;refine fu _ ?_;refine bT ?_;refine cH (fun hc0=>?_) fun hc0=>?_
 ·refine ax ?_;obtain⟨⟨l,q2⟩,hq⟩:=gA hc0;have hnr:cC e8 2 true r.rest=q2:=by simp only[cC,hq]
  obtain⟨hl,hlm,hq2,hqp⟩:=kd hp0 hq1 hq;rw[hnr,hq];have hwp:bo r.rest=(l[1]!,q2):=by simp only[bo,hq]
  rw[hwp];refine ay ?_;refine cJ 1 (hb:=fun _=>by omega) ?_;refine bV (v:=.str l[1]!) (hi:=fun _=>by omega) ?_;refine az ?_;refine ef trivial iJ (Eq.trans ae (congrArg D.str ?_)) ae ae ae;rfl
 refine ax ?_;have hq:=gz hc0;have hnr:cC e8 2 true r.rest=r.rest:=by simp only[cC,hq]
 rw[hnr];have hwp:bo r.rest=([],r.rest):=by simp only[bo,hq]
 rw[hwp];refine az ?_;refine ef trivial iJ (Eq.trans ae (congrArg D.str ?_)) ae ae ae;rfl
def G4 (Γ:Ctx):Prop:=∀(r:Ld),(r.sm)→Γ.fp 468 (Ld.D r) []∧Γ.fv 468 (Ld.D r) []=.str (bo r.rest).1∧Γ.fs 468 (Ld.D r) []=Ld.D (r.to (bo r.rest).2)
end Go.Abs
end
section
namespace Go.Abs
open Go
def fM:aB:=⟨1,12,[⟨1,some (3,true)⟩],[[.sl 4 [.a,.a,.sl 1 [.a],.a],.a,.a]],(sq (r1 [gb 3 (.c (.agg [.av,.str [],.str []]))] 1 0) (sq (r1 [gb 3 (.c (.agg [.av,.str [],.str []]))] 8 0) (sq (.block 0 (.loop (.block 1 (sq (rg [gm s0,gn (.callF 465 l0 [(cs [97,110,121]),AJ,sC] Nw),gm l1,ge l2 0,ge l2 1,gm l3,gm l4] [(4,5),(2,6)]) (sq (sq (r1 [gm s2,n9 l0] 3 1) (.cond s3 (.exit 0) .skip)) (sq (sq (r1 [gm s4,ga 1 l0 kI,gd l1,b8 l2 (cs [98,97,114,101]),gm l3,gmt 4 s4,cG 4 (.ia 1 l5 kI),nF 4 l6,cG 4 (dY l7 (cs [102,117,108,108])),fR l4 l8] 5 9) (.cond s5 (sq (rg [gm s0,gc l0,gf 1 l1,gd l2,fI l3 cd,gc l0,gf 1 l5,gt 1 l6 l4] []) (.exit 0)) .skip)) (sq (r2 [gm s4,ga 1 l0 cd,gd l1,gm s4,ga 1 l3 uU,gd l4,gm s4,ga 1 l6 kI,gd l7,aF l8 (cs [98,97,114,101]),gn (.build [.str [],.str [],.av,.bool false] [(0,1,l2),(1,1,l5),(3,1,l9)]),gb 4 (.c (.agg [.str [],.str [],.av,.bool false])),gt 4 jx l10] 7 11) (sq (sq (r1 [gm s4,ga 1 l0 kS,gd l1,b8 l2 (cs [45])] 6 3) (.cond s6 (rg [gm s4,ga 1 l0 kS,gd l1,gx 124 [l2,(cs [44])] je,gf 2 s7,gt 1 l4 l3] []) .skip)) (rg [gf 0 s8,gd l0,gk 4 true s7,gn (.bsl 4 (.agg [.str [],.str [],.av,.bool false]) 1 [(0,l2)]),gn (.app 4 l1 l3),gf 0 s8,gt 1 l5 l4] []))))))))) (sq (rg [gm s0,gn (.callF 468 l0 [] []),gf 1 s8,gt 1 l2 l1] []) (sq (sq (rg [gm s0,gn (.callF 465 l0 [(cs [111,112,116,105,111,110]),kS,c9] Nw),gm l1,ge l2 0,ge l2 1,gm l3,gm l4] [(11,5),(9,6)]) (sq (r1 [gm s9] 10 0) (.cond lP (rg [gm oS,ga 1 l0 cd,gd l1,gf 2 s8,gt 1 l3 l2] []) .skip))) (sq (rg [gk 3 true s8,gt 3 s1 l0] []) .ret))))))⟩
def ya {Γ:Ctx}(h:G4 Γ){r:Ld}(hr:r.sm){p:List ah}(hp:p<:+r.ls):Γ.fp 468 (Ld.D (r.to p)) []∧Γ.fv 468 (Ld.D (r.to p)) []=.str (bo p).1∧Γ.fs 468 (Ld.D (r.to p)) []=Ld.D (r.to (bo p).2):=by
 have:=h (r.to p) (hr.to p);rw[Ld.sS hp]at this;exact this
def w467 {Γ:Ctx}(hm:(Γ.at 1).bq)(h124:Ef (Γ.at 1))(h465:G3 (Γ.at 1))(h468:G4 (Γ.at 1))(r:Ld)  (hp0:r.sm):bB (Γ.at 1) fM.body (Cz fM 2 (aT.D (cX r.rest).1) (Ld.D (r.to (cX r.rest).2)):Ex→List aY→St→Prop) (eI fM (.ptr 0 2 0 0::[])) ⟨1,[(0,.buf 2 [(Ld.D r)])]⟩:=by
 show bB _ _ _ [⟨true,.ptr 0 2 0 0⟩,.un,.un,.un,.un,.un,.un,.un,.un,.un,.un,.un] ⟨1,[(0,.buf 2 [(Ld.D r)])]⟩;have hself:=Ld.x5 hp0;have hq0:=r.uC;refine ak ?_;refine aQ ?_;refine bp hm (ι:=(List aX×List ah)) (fun p=>[⟨true,.ptr 0 2 0 0⟩,⟨true,.ptr 1 3 0 0⟩,.un,.un,.un,.un,.un,.un,⟨true,.ptr 2 3 0 0⟩,.un,.un,.un]) (fun p=>[(0,.buf 2 [Ld.D (r.to p.2)]),(1,.buf 3 [.agg [.av,.str [],.str []]]),(2,.buf 3 [.agg [.own 3 4 0 (p.1).length,.str [],.str []]]),(3,.buf 4 (p.1.map aX.N))]) 10 (fun p=>p.2<:+r.ls∧p.1.length+p.2.length≤r.ls.length∧bP r.rest=(p.1++(bP p.2).1,(bP p.2).2)) (fun p=>p.2.length) ([],r.rest) ⟨hq0,by simpa using hq0.length_le,by simp⟩ (aN.to [(1,1),(2,2)] ae ae dT (by refine aC.nl 0 ae ae (by rw[hself]) ae ?_;refine aC.de ae ae ae ?_;refine aC.ni 2 ae ae (by exact⟨_,_,rfl,⟨_,rfl,⟨_,_,rfl,Or.inr ⟨_,_,_,rfl⟩,⟨_,_,rfl,⟨rfl,rfl⟩,⟨_,_,rfl,⟨rfl,rfl⟩,rfl⟩⟩⟩⟩,rfl⟩) ?_;refine aC.mt ae ae ae ae ?_;exact aC.nil)) ?_;rintro⟨A,p⟩ ⟨hq1,hlen,hw⟩;dsimp only at hq1 hlen hw⊢;have hll:=hp0.1.2;refine az ?_;refine jr (hc:=sM h465 hp0 (p:=p) hq1 (w:=gM) (n:=5) (op:=true) (by decide) (by decide)) ?_;refine ay ?_;refine fu _ ?_;refine dz ?_;refine aq (fun hc0=>?_) (fun hc0=>?_)
 ·simp only[Bool.not_eq_true']at hc0;have hq:=gz hc0;have hnr:cC gM 5 true p=p:=by simp only[cC,hq]
  rw[hnr];have hw2:bP r.rest=(A,p):=by rw[hw,p7 hq,List.append_nil]
  refine aA ?_;have hq3:=(fW p).trans hq1;refine ay ?_;refine jr (hc:=ya h468 hp0 hq1) ?_;refine ay ?_;refine aJ (.agg [.own 3 4 0 A.length,.str (bo p).1,.str []]) (he:=by exact rfl) ?_;refine aA ?_;refine jr (hc:=sM h465 hp0 (p:=(bo p).2) hq3 (w:=cL) (n:=2) (op:=false) (by decide) (by decide)) ?_;refine ay ?_;refine fu _ ?_;refine bT ?_;refine cH (fun hc3=>?_) fun hc3=>?_
  ·refine ay ?_;obtain⟨⟨l,q2⟩,hq⟩:=gA hc3;have hnr:cC cL 2 false (bo p).2=q2:=by simp only[cC,hq]
   obtain⟨hl,hlm,hq2,hqp⟩:=kd hp0 hq3 hq;rw[hnr,hq];obtain hl:l.length=2:=by rcases hl with h|h;cases h;exact h
   refine ay ?_;refine cJ 1 (hb:=fun _=>by omega) ?_;refine bV (v:=.str l[1]!) (hi:=fun _=>by omega) ?_;refine ay ?_;refine aJ (.agg [.own 3 4 0 A.length,.str (bo p).1,.str l[1]!]) (he:=by exact rfl) ?_;refine ay ?_;have hnp:cX r.rest=(⟨A,(bo p).1,l[1]!⟩,q2):=by simp only[cX,hw2,oL,hq]
   rw[hnp];refine eu 3 (hn:=bt aX.lv _) (he:=by simp only[lX,gI,kH,mL,oE,bO,Nat.reduceEqDiff,if_true,if_false,and_self,true_and,and_true,false_and,and_false,Nat.zero_add,List.length_map,Nat.le_refl,List.drop_zero,aK,reduceCtorEq,List.length_cons,List.length_nil,Nat.reduceAdd,Nat.reduceLeDiff,Ld.D];exact rfl) (hm:=by simp only[lX,gI,kH,mL,oE,bO,Nat.reduceEqDiff,if_true,if_false,and_self,true_and,and_true,false_and,and_false,Nat.zero_add,List.length_map,Nat.le_refl,List.drop_zero,aK,reduceCtorEq,List.length_cons,List.length_nil,Nat.reduceAdd,Nat.reduceLeDiff,Ld.D];exact rfl) ?_;refine ma [(0,.buf 2 [Ld.D (r.to q2)]),(1,.buf 3 [.agg [.av,.str [],.str []]]),(2,.buf 3 [aT.D ⟨A,(bo p).1,l[1]!⟩])] (.id ae (.id ae (.bf ae (.cons (.ag (.cons (.ss (.map fun x _=>x.wk)) (.rf _))) .nil) .nil))) ?_;refine ay ?_;refine cD (d:=aT.D ⟨A,(bo p).1,l[1]!⟩) ?_;refine aJ (aT.D ⟨A,(bo p).1,l[1]!⟩) (he:=by exact rfl) ?_;refine ax ?_;refine ef trivial sj (Eq.trans ae (?_)) ae ae ae;rfl
  refine ay ?_;have hq:=gz hc3;have hnr:cC cL 2 false (bo p).2=(bo p).2:=by simp only[cC,hq]
  rw[hnr];have hnp:cX r.rest=(⟨A,(bo p).1,[]⟩,(bo p).2):=by simp only[cX,hw2,oL,hq]
  rw[hnp];refine eu 3 (hn:=bt aX.lv _) (he:=by simp only[lX,gI,kH,mL,oE,bO,Nat.reduceEqDiff,if_true,if_false,and_self,true_and,and_true,false_and,and_false,Nat.zero_add,List.length_map,Nat.le_refl,List.drop_zero,aK,reduceCtorEq,List.length_cons,List.length_nil,Nat.reduceAdd,Nat.reduceLeDiff,Ld.D];exact rfl) (hm:=by simp only[lX,gI,kH,mL,oE,bO,Nat.reduceEqDiff,if_true,if_false,and_self,true_and,and_true,false_and,and_false,Nat.zero_add,List.length_map,Nat.le_refl,List.drop_zero,aK,reduceCtorEq,List.length_cons,List.length_nil,Nat.reduceAdd,Nat.reduceLeDiff,Ld.D];exact rfl) ?_;refine ma [(0,.buf 2 [Ld.D (r.to (bo p).2)]),(1,.buf 3 [.agg [.av,.str [],.str []]]),(2,.buf 3 [aT.D ⟨A,(bo p).1,[]⟩])] (.id ae (.id ae (.bf ae (.cons (.ag (.cons (.ss (.map fun x _=>x.wk)) (.rf _))) .nil) .nil))) ?_;refine ay ?_;refine cD (d:=aT.D ⟨A,(bo p).1,[]⟩) ?_;refine aJ (aT.D ⟨A,(bo p).1,[]⟩) (he:=by exact rfl) ?_;refine ax ?_;refine ef trivial sj (Eq.trans ae (?_)) ae ae ae;rfl
 simp only[Bool.not_eq_false']at hc0;obtain⟨⟨l,q2⟩,hq⟩:=gA hc0;have hnr:cC gM 5 true p=q2:=by simp only[cC,hq]
 obtain⟨hl,hlm,hq2,hqp⟩:=kd hp0 hq1 hq;rw[hnr,hq];obtain hl:l.length=5:=by rcases hl with h|h;cases h;exact h
 refine aA ?_;refine cJ 3 (hb:=fun _=>by omega) ?_;refine bV (v:=.str l[3]!) (hi:=fun _=>by omega) ?_;refine az ?_;refine cJ 3 (hb:=fun _=>by omega) ?_;refine bV (v:=.str l[3]!) (hi:=fun _=>by omega) ?_;refine az ?_;refine aq (fun hc1=>?_) (fun hc1=>?_)
 ·simp only[Bool.and_eq_true,Bool.not_eq_true',decide_eq_false_iff_not]at hc1;have hho:pL l=false:=by unfold pL;rw[decide_eq_false (show ¬l[3]! =et from hc1.1),decide_eq_false (show ¬l[3]! =gV from hc1.2)];rfl
  have hw2:bP r.rest=(A,p):=by rw[hw,Bq hq hho,List.append_nil]
  obtain⟨t,hpt,_⟩:=dn hq;refine ax ?_;obtain⟨hab1,hab2⟩:=(hp0.to q2).1;refine az ?_;refine cu (v:=.int .i64 ((r.to q2).at':Nat)) ?_;refine az ?_;refine aJ (Ld.D (r.to p)) (he:=by rw[hpt];exact Ld.back (hpt▸hq1)) ?_;refine aQ ?_;have hq3:=(fW p).trans hq1;refine ay ?_;refine jr (hc:=ya h468 hp0 hq1) ?_;refine ay ?_;refine aJ (.agg [.own 3 4 0 A.length,.str (bo p).1,.str []]) (he:=by exact rfl) ?_;refine aA ?_;refine jr (hc:=sM h465 hp0 (p:=(bo p).2) hq3 (w:=cL) (n:=2) (op:=false) (by decide) (by decide)) ?_;refine ay ?_;refine fu _ ?_;refine bT ?_;refine cH (fun hc3=>?_) fun hc3=>?_
  ·refine ay ?_;obtain⟨⟨l,q2⟩,hq⟩:=gA hc3;have hnr:cC cL 2 false (bo p).2=q2:=by simp only[cC,hq]
   obtain⟨hl,hlm,hq2,hqp⟩:=kd hp0 hq3 hq;rw[hnr,hq];obtain hl:l.length=2:=by rcases hl with h|h;cases h;exact h
   refine ay ?_;refine cJ 1 (hb:=fun _=>by omega) ?_;refine bV (v:=.str l[1]!) (hi:=fun _=>by omega) ?_;refine ay ?_;refine aJ (.agg [.own 3 4 0 A.length,.str (bo p).1,.str l[1]!]) (he:=by exact rfl) ?_;refine ay ?_;have hnp:cX r.rest=(⟨A,(bo p).1,l[1]!⟩,q2):=by simp only[cX,hw2,oL,hq]
   rw[hnp];refine eu 3 (hn:=bt aX.lv _) (he:=by simp only[lX,gI,kH,mL,oE,bO,Nat.reduceEqDiff,if_true,if_false,and_self,true_and,and_true,false_and,and_false,Nat.zero_add,List.length_map,Nat.le_refl,List.drop_zero,aK,reduceCtorEq,List.length_cons,List.length_nil,Nat.reduceAdd,Nat.reduceLeDiff,Ld.D];exact rfl) (hm:=by simp only[lX,gI,kH,mL,oE,bO,Nat.reduceEqDiff,if_true,if_false,and_self,true_and,and_true,false_and,and_false,Nat.zero_add,List.length_map,Nat.le_refl,List.drop_zero,aK,reduceCtorEq,List.length_cons,List.length_nil,Nat.reduceAdd,Nat.reduceLeDiff,Ld.D];exact rfl) ?_;refine ma [(0,.buf 2 [Ld.D (r.to q2)]),(1,.buf 3 [.agg [.av,.str [],.str []]]),(2,.buf 3 [aT.D ⟨A,(bo p).1,l[1]!⟩])] (.id ae (.id ae (.bf ae (.cons (.ag (.cons (.ss (.map fun x _=>x.wk)) (.rf _))) .nil) .nil))) ?_;refine ay ?_;refine cD (d:=aT.D ⟨A,(bo p).1,l[1]!⟩) ?_;refine aJ (aT.D ⟨A,(bo p).1,l[1]!⟩) (he:=by exact rfl) ?_;refine ax ?_;refine ef trivial sj (Eq.trans ae (?_)) ae ae ae;rfl
  refine ay ?_;have hq:=gz hc3;have hnr:cC cL 2 false (bo p).2=(bo p).2:=by simp only[cC,hq]
  rw[hnr];have hnp:cX r.rest=(⟨A,(bo p).1,[]⟩,(bo p).2):=by simp only[cX,hw2,oL,hq]
  rw[hnp];refine eu 3 (hn:=bt aX.lv _) (he:=by simp only[lX,gI,kH,mL,oE,bO,Nat.reduceEqDiff,if_true,if_false,and_self,true_and,and_true,false_and,and_false,Nat.zero_add,List.length_map,Nat.le_refl,List.drop_zero,aK,reduceCtorEq,List.length_cons,List.length_nil,Nat.reduceAdd,Nat.reduceLeDiff,Ld.D];exact rfl) (hm:=by simp only[lX,gI,kH,mL,oE,bO,Nat.reduceEqDiff,if_true,if_false,and_self,true_and,and_true,false_and,and_false,Nat.zero_add,List.length_map,Nat.le_refl,List.drop_zero,aK,reduceCtorEq,List.length_cons,List.length_nil,Nat.reduceAdd,Nat.reduceLeDiff,Ld.D];exact rfl) ?_;refine ma [(0,.buf 2 [Ld.D (r.to (bo p).2)]),(1,.buf 3 [.agg [.av,.str [],.str []]]),(2,.buf 3 [aT.D ⟨A,(bo p).1,[]⟩])] (.id ae (.id ae (.bf ae (.cons (.ag (.cons (.ss (.map fun x _=>x.wk)) (.rf _))) .nil) .nil))) ?_;refine ay ?_;refine cD (d:=aT.D ⟨A,(bo p).1,[]⟩) ?_;refine aJ (aT.D ⟨A,(bo p).1,[]⟩) (he:=by exact rfl) ?_;refine ax ?_;refine ef trivial sj (Eq.trans ae (?_)) ae ae ae;rfl
 simp only[Bool.and_eq_false_iff,Bool.not_eq_false',decide_eq_true_eq]at hc1;have hho:pL l=true:=by
  unfold pL;rcases hc1 with h|h
  ·rw[decide_eq_true (show l[3]! =et from h)];rfl
  ·rw[decide_eq_true (show l[3]! =gV from h),Bool.or_true]
 have hwy:=rX hq hho;refine az ?_;refine cJ 1 (hb:=fun _=>by omega) ?_;refine bV (v:=.str l[1]!) (hi:=fun _=>by omega) ?_;refine ay ?_;refine cJ 4 (hb:=fun _=>by omega) ?_;refine bV (v:=.str l[4]!) (hi:=fun _=>by omega) ?_;refine ay ?_;refine cJ 3 (hb:=fun _=>by omega) ?_;refine bV (v:=.str l[3]!) (hi:=fun _=>by omega) ?_;refine ay ?_;refine bx (.agg [.str l[1]!,.str l[4]!,.av,.bool (decide (l[3]! =et))]) ?_;refine ay ?_;refine aJ (.agg [.str l[1]!,.str l[4]!,.av,.bool (decide (l[3]! =et))]) (he:=by exact rfl) ?_;refine aA ?_;refine cJ 2 (hb:=fun _=>by omega) ?_;refine bV (v:=.str l[2]!) (hi:=fun _=>by omega) ?_;refine ax ?_;refine cH (fun hc2=>?_) fun hc2=>?_
 ·refine ax ?_;refine cJ 2 (hb:=fun _=>by omega) ?_;refine bV (v:=.str l[2]!) (hi:=fun _=>by omega) ?_;refine aj (hc:=h124 l[2]! 44 (hlm _ (bL (by omega)))) ?_;refine ay ?_;refine aJ (aX.N (eQ l)) (he:=by show _=D.agg [.str l[1]!,.str l[4]!,KI (if l[2]! =[45]then []else ai l[2]! 44),.bool (decide (l[3]! =et))];rw[if_neg hc2,KJ (nN _ _)];exact rfl) ?_;refine az ?_;refine cu (v:=.own 3 4 0 A.length) ?_;refine cD (d:=aX.N (eQ l)) ?_;refine cy [aX.N (eQ l)] ?_;refine iY (q:=aX.N) (xs:=A) (e:=eQ l) ?_;refine ay ?_;refine aJ (.agg [.own 56 4 0 (A++[eQ l]).length,.str [],.str []]) (he:=by exact rfl) ?_;refine az ?_;exact⟨(A++[eQ l],q2),⟨hq2,by simp only[List.length_append,List.length_cons,List.length_nil];omega,by rw[hw,hwy];simp⟩,by dsimp only;omega,(aN.to [(1,1),(2,2),(56,3)] ae ae dT (by refine aC.de ae ae ae ?_;refine aC.de ae ae ae ?_;refine aC.eq 2 ae ae ae ?_;refine aC.nl 56 ae ae rfl (by exact bt aX.lv _) ?_;exact aC.nil))⟩
 refine ax ?_;rw[show(D.agg [.str l[1]!,.str l[4]!,.av,.bool (decide (l[3]! =et))])=aX.N (eQ l)by show _=D.agg [.str l[1]!,.str l[4]!,KI (if l[2]! =[45]then []else ai l[2]! 44),.bool (decide (l[3]! =et))];rw[if_pos hc2];rfl];refine ay ?_;refine cu (v:=.own 3 4 0 A.length) ?_;refine cD (d:=aX.N (eQ l)) ?_;refine cy [aX.N (eQ l)] ?_;refine iY (q:=aX.N) (xs:=A) (e:=eQ l) ?_;refine ay ?_;refine aJ (.agg [.own 50 4 0 (A++[eQ l]).length,.str [],.str []]) (he:=by exact rfl) ?_;refine az ?_;exact⟨(A++[eQ l],q2),⟨hq2,by simp only[List.length_append,List.length_cons,List.length_nil];omega,by rw[hw,hwy];simp⟩,by dsimp only;omega,(aN.to [(1,1),(2,2),(50,3)] ae ae dT (by refine aC.de ae ae ae ?_;refine aC.de ae ae ae ?_;refine aC.eq 2 ae ae ae ?_;refine aC.nl 50 ae ae rfl (by exact bt aX.lv _) ?_;exact aC.nil))⟩
def JO (Γ:Ctx):Prop:=∀(r:Ld),(r.sm)→Γ.fp 467 (Ld.D r) []∧Γ.fv 467 (Ld.D r) []=aT.D (cX r.rest).1∧Γ.fs 467 (Ld.D r) []=Ld.D (r.to (cX r.rest).2)
end Go.Abs
end
namespace Go.Abs
def Bv (Γ:Ctx):Prop:=∀(r:Ld)(w:ah)(n:Nat)(op:Bool)(l nx:Nat)(m:List (Nat×aW))(K:D→St→Prop),r.sm→n≤1000→(op=true→1≤n)→look m l=some (.buf 2 [Ld.D r])→
 K (.tup [vr (bc w n op r.rest),.bool (bc w n op r.rest).isSome]) ⟨nx,bS m l (.buf 2 [Ld.D (r.after (bc w n op r.rest))])⟩→Γ.tr 465 [.ptr l 2 0 0,.str w,.int .i64 (n:Nat),.bool op] ⟨nx,m⟩ K
def sN {Γ:Ctx}(h:Bv Γ){r:Ld}(hr:r.sm){p:List ah}(hp:p<:+r.ls){w:ah}{n:Nat}{op:Bool}(hn:n≤1000)(ho:op=true→1≤n){nx:Nat}{m:List (Nat×aW)}{K:D→St→Prop}(hl:look m 0=some (.buf 2 [Ld.D (r.to p)]))
  (hK:K (.tup [vr (bc w n op p),.bool (bc w n op p).isSome]) ⟨nx,bS m 0 (.buf 2 [Ld.D (r.to (cC w n op p))])⟩):Γ.tr 465 [.ptr 0 2 0 0,.str w,.int .i64 (n:Nat),.bool op] ⟨nx,m⟩ K:=by
 refine h (r.to p) w n op 0 nx m K (hr.to p) hn ho hl ?_;rw[Ld.sS hp,Ld.ym hp];exact hK
def H8 {Γ:Ctx}(h:JO Γ){r:Ld}(hr:r.sm){p:List ah}(hp:p<:+r.ls):Γ.fp 467 (Ld.D (r.to p)) []∧Γ.fv 467 (Ld.D (r.to p)) []=aT.D (cX p).1∧Γ.fs 467 (Ld.D (r.to p)) []=Ld.D (r.to (cX p).2):=by
 have:=h (r.to p) (hr.to p);rw[Ld.sS hp]at this;exact this
def kl:∀p:List ah,(bP p).2<:+p
 |[]=>List.suffix_refl _
 |t::r=>by
  simp only[bP];split
  ·split
   ·exact(kl r).trans (List.suffix_cons _ _)
   ·exact List.suffix_refl _
  ·exact List.suffix_refl _
def nG (p:List ah):(cX p).2<:+p:=(FO _).trans ((fW _).trans (kl p))
def yF {p:List ah}(h:bc bA 0 false p=none):dk p=([],p):=by
 match p,h with
 |[],_=>rfl
 |t::r,h=>
  simp only[bc]at h;split at h
  ·cases h
  ·rename_i hn;simp only[dk,hn]
def CT {p l q:List ah}(h:bc bA 0 false p=some (l,q))(ho:¬2≤l.length):dk p=([],p):=by
 obtain⟨t,rfl,ht⟩:=dn h;simp only[dk,ht,ho,if_false]
def Az {p l q:List ah}(h:bc bA 0 false p=some (l,q))(ho:2≤l.length):dk p=(⟨l[1]!,l.drop 2⟩::(dk q).1,(dk q).2):=by
 obtain⟨t,rfl,ht⟩:=dn h;simp only[dk,ht,ho,if_true]
def ep (ls:List ah):Rec×List ah:=match oP ls with
 |some p=>p
 |none=>(nX,ls)
def cZ:D:=.agg [.str [],.int .i64 0,.int .i64 0,.int .i64 0,.str [],.str [],.av,.av,.av]
def pV:sz cZ nX.D:=.ag (.cons (.refl _) (.cons (.refl _) (.cons (.refl _) (.cons (.refl _) (.cons (.refl _) (.cons (.refl _) (.cons (.nil 3) (.cons (.nil 3) (.cons (.nil 2) .nil)))))))))
def kW (nm:ah)(v:df)(n b f:D):D:=.agg [.str nm,.int .i64 v.major,.int .i64 v.minor,.int .i64 v.patch,.str v.pre,.str v.build,n,b,f]
def Ls {s:ah}(h:uN s=0):∃v,kG s=some v:=by
 unfold uN at h;split at h
 ·rename_i hs;exact gA hs
 ·cases h
def Lr {s:ah}(h:¬uN s=0):kG s=none:=by
 unfold uN at h;split at h
 ·exact absurd rfl h
 ·rename_i hs;exact gz (by simpa using hs)
def wV (n:Nat)(op:Bool)(t:ah):(cn n op t).length≤t.length+1:=by
 have h:=cS t 32;have hp:=eO 32 t [];unfold cn;split
 ·unfold mB;split
  ·exact h
  ·simp only[List.length_append,List.length_take,List.length_cons,List.length_nil];have:1≤(ai t 32).length:=hp;omega
 ·exact h
def Fz {r:Ld}(hr:r.sm){p:List ah}(hp:p<:+r.ls){w:ah}{n:Nat}{op:Bool}{l q:List ah}(h:bc w n op p=some (l,q)):l.length≤1048577:=by
 obtain⟨t,rfl,ht⟩:=dn h;obtain⟨_,_,h3⟩:=qO ht;have:=wV n op t;have:=hr.2 t (hp.subset (.head _));rw[h3];omega
end Go.Abs
section
namespace Go.Abs
open Go
def eN:aB:=⟨1,20,[⟨1,some (9,true)⟩,⟨2,none⟩],[[.a,.a,.a,.a,.a,.a,.sl 3 [.sl 4 [.a,.a,.sl 1 [.a],.a],.a,.a],.sl 3 [.a,.a,.a],.sl 2 [.a,.sl 1 [.a]]],[.a]],(sq (rg [gb 9 (.c (.agg [.str [],.int .i64 0,.int .i64 0,.int .i64 0,.str [],.str [],.av,.av,.av])),gm c9] [(1,0),(2,1)]) (sq (r1 [gm s0,gn (.mkf 1000465 [l0]),gm l1] 3 2) (sq (rg [gm s3,gn (.callvM l0 [(cs [112,97,99,107,97,103,101]),kI,c9]),gm l1,ge l2 0,ge l2 1,gm l3,gm l4] [(6,5),(4,6)]) (sq (sq (r1 [gm s4,n9 l0] 5 1) (.cond s5 (sq (r1 [gn (.build [.str [],.int .i64 0,.int .i64 0,.int .i64 0,.str [],.str [],.av,.av,.av] []),gt 9 s1 l0,gm c9] 2 2) .ret) .skip)) (sq (rg [gm s6,ga 1 l0 kS,gd l1,gx 466 [l2] cv,gm l3,ge l4 0,ge l4 1,gb 5 (.c (.agg [.int .i64 0,.int .i64 0,.int .i64 0,.str [],.str []])),gt 5 l7 l5,gm l6] [(9,7),(7,9)]) (sq (sq (r1 [gm s7,b8 l0 bF] 8 1) (.cond s8 (sq (rg [gm s0,gc l0,gf 1 l1,gd l2,fI l3 cd,gc l0,gf 1 l5,gt 1 l6 l4] []) (sq (r1 [gn (.build [.str [],.int .i64 0,.int .i64 0,.int .i64 0,.str [],.str [],.av,.av,.av] []),gt 9 s1 l0,gm c9] 2 2) .ret)) .skip)) (sq (r2 [gm s6,ga 1 l0 cd,gd l1,gk 5 true s9,gn (.build [.str [],.int .i64 0,.int .i64 0,.int .i64 0,.str [],.str [],.av,.av,.av] [(0,1,l2),(1,5,l3)]),gb 9 (.c (.agg [.str [],.int .i64 0,.int .i64 0,.int .i64 0,.str [],.str [],.av,.av,.av])),gt 9 l5 l4] 12 5) (sq (.block 0 (.loop (.block 1 (sq (sq (r1 [gm s3,gn (.callvM l0 [(cs [110,101,101,100]),cd,c9]),gm l1,ge l2 0,ge l2 1,gm l3,gm l4] 10 6) (sq (r1 [gm lP,n9 l0] 11 1) (.cond oS (.exit 0) .skip))) (rt [gf 6 lu,gn (.ldU 1 false l0),gm s0,gn (.callF 467 l2 [] []),gn (.bsl 3 (.agg [.av,.str [],.str []]) 1 [(0,l3)]),gn (.app 3 l1 l4),gf 6 lu,gt 1 l6 l5] []))))) (sq (.block 2 (.loop (.block 3 (sq (rg [gm s3,gn (.callvM l0 [(cs [98,97,114]),kI,sC]),gm l1,ge l2 0,ge l2 1,gm l3,gm l4] [(15,5),(13,6)]) (sq (sq (r1 [gm sQ,n9 l0] 14 1) (.cond sk (.exit 2) .skip)) (rt [gf 7 lu,gn (.ldU 1 false l0),gm wz,ga 1 l2 cd,gn (.ldU 1 false l3),gm wz,ga 1 l5 kS,gn (.ldU 1 false l6),gm s0,gn (.callF 468 l8 [] []),gn (.build [.str [],.str [],.str []] [(0,1,l4),(1,1,l7),(2,1,l9)]),gn (.bsl 3 (.agg [.str [],.str [],.str []]) 1 [(0,l10)]),gn (.app 3 l1 jx),gf 7 lu,gt 1 me kJ] [])))))) (sq (.block 4 (.loop (.block 5 (sq (rg [gm s3,gn (.callvM l0 [(cs [102,101,97,116,117,114,101]),bF,c9]),gm l1,ge l2 0,ge l2 1,gm l3,gm l4] [(18,5),(16,6)]) (sq (sq (r1 [gm Ch,n9 l0] 17 1) (.cond yf (.exit 4) .skip)) (sq (sq (r1 [gm DT,gl l0,aV l1 kS] 19 2) (.cond Lk (sq (rg [gm s0,gc l0,gf 1 l1,gd l2,fI l3 cd,gc l0,gf 1 l5,gt 1 l6 l4] []) (.exit 4)) .skip)) (rt [gf 8 lu,gd l0,gm DT,ga 1 l2 cd,gd l3,gm DT,gn (.slA 1 l5 (some kS) none),gx 469 [l6] [[.sl 1 [.a]]],gn (.build [.str [],.av] [(0,1,l4),(1,1,l7)]),gn (.bsl 2 (.agg [.str [],.av]) 1 [(0,l8)]),gn (.app 2 l1 l9),gf 8 lu,gt 1 jx l10] []))))))) (sq (r1 [gk 9 true lu,gt 9 s1 l0,gm sC] 2 2) .ret)))))))))))⟩
def w222 {Γ:Ctx}(hm:(Γ.at 1).bq)(h466:Mi (Γ.at 1))(h467:JO (Γ.at 1))(h468:G4 (Γ.at 1))(h469:Mj (Γ.at 1))(h9465:Bv (Γ.at 1))(r:Ld)  (hp0:r.sm):bB (Γ.at 1) eN.body (Cz eN 2 (.tup [Rec.D (ep r.rest).1,.bool (oP r.rest).isSome]) (Ld.D (r.to (ep r.rest).2)):Ex→List aY→St→Prop) (eI eN (.ptr 0 2 0 0::[])) ⟨1,[(0,.buf 2 [(Ld.D r)])]⟩:=by
 show bB _ _ _ [⟨true,.ptr 0 2 0 0⟩,.un,.un,.un,.un,.un,.un,.un,.un,.un,.un,.un,.un,.un,.un,.un,.un,.un,.un,.un] ⟨1,[(0,.buf 2 [(Ld.D r)])]⟩;have hself:=Ld.x5 hp0;have hq1:=r.uC;have hll:=hp0.1.2;refine ak ?_;refine aQ ?_;refine NP _ ?_;refine az ?_;rw[show Ld.D r=Ld.D (r.to r.rest)by rw[hself]];refine ay ?_;refine jA (n:=1000465) (VZ:=[.ptr 0 2 0 0,.str cU,.int .i64 ((3:Nat):Int),.bool false]) (ι:=Unit) (fun _=>True) (fun _=>.tup [vr (bc cU 3 false r.rest),.bool (bc cU 3 false r.rest).isSome]) 6 (fun _=>[(0,.buf 2 [Ld.D (r.to (cC cU 3 false r.rest))]),(1,.buf 9 [cZ])]) (fun _ _=>?_) (hc:=fun K' hK=>sN h9465 hp0 hq1 (w:=cU) (n:=3) (op:=false) (by decide) (by decide) ae (hK () trivial)) (hn:=by decide);refine ay ?_;refine fu _ ?_;refine dz ?_;refine aq (fun hc0=>?_) (fun hc0=>?_)
 ·simp only[Bool.not_eq_true']at hc0;have hq:=gz hc0;have hnr:cC cU 3 false r.rest=r.rest:=by simp only[cC,hq]
  rw[hnr];have hrp:oP r.rest=none:=by simp only[oP,hq]
  have hrv:ep r.rest=(nX,r.rest):=by simp only[ep,hrp]
  rw[hrv,hrp];refine ax ?_;refine bx cZ ?_;refine aJ cZ (he:=by exact rfl) ?_;refine ax ?_;refine ma [(0,.buf 2 [Ld.D (r.to r.rest)]),(1,.buf 9 [Rec.D nX])] (.id ae (.bf ae (.cons pV .nil) .nil)) ?_;refine ay ?_;refine ef trivial sj (Eq.trans ae (aS ?_ ?_)) ae ae ae;all_goals rfl
 simp only[Bool.not_eq_false']at hc0;obtain⟨⟨l,q0⟩,hq⟩:=gA hc0;have hnr:cC cU 3 false r.rest=q0:=by simp only[cC,hq]
 obtain⟨hl,hlm,hq0,hqp⟩:=kd hp0 hq1 hq;rw[hnr,hq];obtain hl:l.length=3:=by rcases hl with h|h;cases h;exact h
 refine az ?_;refine cJ 2 (hb:=fun _=>by omega) ?_;refine bV (v:=.str l[2]!) (hi:=fun _=>by omega) ?_;refine aj (hc:=h466 l[2]! (hlm _ (bL (by omega)))) ?_;refine ay ?_;refine fu (df.D _) ?_;refine ax ?_;refine aJ (df.D ((kG l[2]!).getD jb)) (he:=by exact rfl) ?_;refine bd ?_;refine aq (fun hc1=>?_) (fun hc1=>?_)
 ·simp only[Bool.not_eq_true',decide_eq_false_iff_not]at hc1;have hv:=Lr hc1;have hrp:oP r.rest=none:=by simp only[oP,hq,hv]
  have hrv:ep r.rest=(nX,r.rest):=by simp only[ep,hrp]
  rw[hrv,hrp];obtain⟨t,hpt,_⟩:=dn hq;refine ax ?_;obtain⟨hab1,hab2⟩:=(hp0.to q0).1;refine az ?_;refine cu (v:=.int .i64 ((r.to q0).at':Nat)) ?_;refine az ?_;refine aJ (Ld.D (r.to r.rest)) (he:=by rw[hpt];exact Ld.back (hpt▸hq1)) ?_;refine az ?_;refine bx cZ ?_;refine aJ cZ (he:=by exact rfl) ?_;refine ax ?_;refine ma [(0,.buf 2 [Ld.D (r.to r.rest)]),(1,.buf 9 [Rec.D nX]),(22,.buf 5 [df.D ((kG l[2]!).getD jb)])] (.id ae (.bf ae (.cons pV .nil) (.id ae .nil))) ?_;refine ay ?_;refine ef trivial sj (Eq.trans ae (aS ?_ ?_)) ae ae ae;all_goals rfl
 simp only[Bool.not_eq_false',decide_eq_true_eq]at hc1;obtain⟨v,hv⟩:=Ls hc1;rw[hv];have hrp:oP r.rest=some (n4 l[1]! v q0):=by simp only[oP,hq,hv]
 have hrv:ep r.rest=n4 l[1]! v q0:=by simp only[ep,hrp]
 rw[hrv,hrp];generalize hnm:l[1]! =nm;have hq01:=hq0.length_le;refine ax ?_;rw[←hnm];refine ay ?_;refine cJ 1 (hb:=fun _=>by omega) ?_;refine bV (v:=.str l[1]!) (hi:=fun _=>by omega) ?_;refine cD (d:=df.D v) ?_;refine bx (kW l[1]! v .av .av .av) ?_;refine ay ?_;refine aJ (kW l[1]! v .av .av .av) (he:=by exact rfl) ?_;refine ay ?_;rw[hnm];refine bp hm (ι:=(List aT×List ah)) (fun z=>[⟨true,.ptr 0 2 0 0⟩,⟨true,.ptr 1 9 0 0⟩,⟨true,.bool false⟩,⟨true,.fn 1000465 [.ptr 0 2 0 0]⟩,.un,.un,.un,.un,.un,.un,.un,.un,⟨true,.ptr 2 9 0 0⟩,.un,.un,.un,.un,.un,.un,.un]) (fun z=>[(0,.buf 2 [Ld.D (r.to z.2)]),(1,.buf 9 [cZ]),(2,.buf 9 [kW nm v (.own 3 3 0 (z.1).length) (.av) (.av)]),(3,.buf 3 (z.1.map aT.D))]) 10 (fun z=>z.2<:+r.ls∧z.1.length+z.2.length≤r.ls.length∧ew q0=(z.1++(ew z.2).1,(ew z.2).2)) (fun z=>z.2.length) ([],q0) ⟨hq0,by simpa using hq01,by simp⟩ (aN.to [(1,1),(32,2)] ae ae dT (by refine aC.de ae ae ae ?_;refine aC.de ae ae ae ?_;refine aC.ni 32 ae ae (by exact⟨_,_,rfl,⟨_,rfl,⟨_,_,rfl,⟨rfl,rfl⟩,⟨_,_,rfl,⟨rfl,rfl⟩,⟨_,_,rfl,⟨rfl,rfl⟩,⟨_,_,rfl,⟨rfl,rfl⟩,⟨_,_,rfl,⟨rfl,rfl⟩,⟨_,_,rfl,⟨rfl,rfl⟩,⟨_,_,rfl,Or.inr ⟨_,_,_,rfl⟩,⟨_,_,rfl,Or.inl rfl,⟨_,_,rfl,Or.inl rfl,rfl⟩⟩⟩⟩⟩⟩⟩⟩⟩⟩,rfl⟩) ?_;refine aC.mt ae ae ae ae ?_;exact aC.nil)) ?_;rintro⟨N,p⟩ ⟨hq1,hlen,hw⟩;dsimp only at hq1 hlen hw⊢;refine aA ?_;refine jA (n:=1000465) (VZ:=[.ptr 0 2 0 0,.str ec,.int .i64 ((1:Nat):Int),.bool false]) (ι:=Unit) (fun _=>True) (fun _=>.tup [vr (bc ec 1 false p),.bool (bc ec 1 false p).isSome]) 10 (fun _=>[(0,.buf 2 [Ld.D (r.to (cC ec 1 false p))]),(1,.buf 9 [cZ]),(2,.buf 9 [kW nm v (.own 3 3 0 (N).length) (.av) (.av)]),(3,.buf 3 (N.map aT.D))]) (fun _ _=>?_) (hc:=fun K' hK=>sN h9465 hp0 hq1 (w:=ec) (n:=1) (op:=false) (by decide) (by decide) ae (hK () trivial)) (hn:=by decide);refine ay ?_;refine fu _ ?_;refine dz ?_;refine aq (fun hc2=>?_) (fun hc2=>?_)
 ·simp only[Bool.not_eq_true']at hc2;have hq:=gz hc2;have hnr:cC ec 1 false p=p:=by simp only[cC,hq]
  rw[hnr];have hn2:ew q0=(N,p):=by rw[hw,rH hq,List.append_nil]
  have hpl:=hq1.length_le;refine az ?_;refine eu 3 (hn:=bt (fun _=>rfl) _) (he:=by simp only[lX,gI,kH,mL,oE,bO,Nat.reduceEqDiff,if_true,if_false,and_self,true_and,and_true,false_and,and_false,Nat.zero_add,List.length_map,Nat.le_refl,List.drop_zero,aK,reduceCtorEq,List.length_cons,List.length_nil,Nat.reduceAdd,Nat.reduceLeDiff,Ld.D,cZ,kW];exact rfl) (hm:=by simp only[lX,gI,kH,mL,oE,bO,Nat.reduceEqDiff,if_true,if_false,and_self,true_and,and_true,false_and,and_false,Nat.zero_add,List.length_map,Nat.le_refl,List.drop_zero,aK,reduceCtorEq,List.length_cons,List.length_nil,Nat.reduceAdd,Nat.reduceLeDiff,Ld.D,cZ,kW];exact rfl) ?_;refine bp hm (ι:=(List fE×List ah)) (fun z=>[⟨true,.ptr 0 2 0 0⟩,⟨true,.ptr 1 9 0 0⟩,⟨true,.bool false⟩,⟨true,.fn 1000465 [.ptr 0 2 0 0]⟩,.un,.un,.un,.un,.un,.un,.un,.un,⟨true,.ptr 2 9 0 0⟩,.un,.un,.un,.un,.un,.un,.un]) (fun z=>[(0,.buf 2 [Ld.D (r.to z.2)]),(1,.buf 9 [cZ]),(2,.buf 9 [kW nm v ((.sl 3 (N.map aT.D))) (.own 3 3 0 (z.1).length) (.av)]),(3,.buf 3 (z.1.map fE.D))]) 10 (fun z=>z.2<:+r.ls∧z.1.length+z.2.length≤r.ls.length∧jF p=(z.1++(jF z.2).1,(jF z.2).2)) (fun z=>z.2.length) ([],p) ⟨hq1,by simpa using hpl,by simp⟩ (aN.to [(1,1),(2,2)] ae ae dT (by refine aC.de ae ae ae ?_;refine aC.de ae ae ae ?_;refine aC.ni 2 ae ae (by exact⟨_,_,rfl,⟨_,rfl,⟨_,_,rfl,⟨rfl,rfl⟩,⟨_,_,rfl,⟨rfl,rfl⟩,⟨_,_,rfl,⟨rfl,rfl⟩,⟨_,_,rfl,⟨rfl,rfl⟩,⟨_,_,rfl,⟨rfl,rfl⟩,⟨_,_,rfl,⟨rfl,rfl⟩,⟨_,_,rfl,⟨rfl,rfl⟩,⟨_,_,rfl,Or.inr ⟨_,_,_,rfl⟩,⟨_,_,rfl,Or.inl rfl,rfl⟩⟩⟩⟩⟩⟩⟩⟩⟩⟩,rfl⟩) ?_;refine aC.mt ae ae ae ae ?_;exact aC.nil)) ?_;rintro⟨B,pb⟩ ⟨hq1,hlen,hw⟩;dsimp only at hq1 hlen hw⊢;refine az ?_;refine jA (n:=1000465) (VZ:=[.ptr 0 2 0 0,.str eP,.int .i64 ((3:Nat):Int),.bool true]) (ι:=Unit) (fun _=>True) (fun _=>.tup [vr (bc eP 3 true pb),.bool (bc eP 3 true pb).isSome]) 10 (fun _=>[(0,.buf 2 [Ld.D (r.to (cC eP 3 true pb))]),(1,.buf 9 [cZ]),(2,.buf 9 [kW nm v ((.sl 3 (N.map aT.D))) (.own 3 3 0 (B).length) (.av)]),(3,.buf 3 (B.map fE.D))]) (fun _ _=>?_) (hc:=fun K' hK=>sN h9465 hp0 hq1 (w:=eP) (n:=3) (op:=true) (by decide) (by decide) ae (hK () trivial)) (hn:=by decide);refine ay ?_;refine fu _ ?_;refine dz ?_;refine aq (fun hc3=>?_) (fun hc3=>?_)
  ·simp only[Bool.not_eq_true']at hc3;have hq:=gz hc3;have hnr:cC eP 3 true pb=pb:=by simp only[cC,hq]
   rw[hnr];have je:jF p=(B,pb):=by rw[hw,tf hq,List.append_nil]
   have hpl2:=hq1.length_le;refine az ?_;refine eu 3 (hn:=bt (fun _=>rfl) _) (he:=by simp only[lX,gI,kH,mL,oE,bO,Nat.reduceEqDiff,if_true,if_false,and_self,true_and,and_true,false_and,and_false,Nat.zero_add,List.length_map,Nat.le_refl,List.drop_zero,aK,reduceCtorEq,List.length_cons,List.length_nil,Nat.reduceAdd,Nat.reduceLeDiff,Ld.D,cZ,kW];exact rfl) (hm:=by simp only[lX,gI,kH,mL,oE,bO,Nat.reduceEqDiff,if_true,if_false,and_self,true_and,and_true,false_and,and_false,Nat.zero_add,List.length_map,Nat.le_refl,List.drop_zero,aK,reduceCtorEq,List.length_cons,List.length_nil,Nat.reduceAdd,Nat.reduceLeDiff,Ld.D,cZ,kW];exact rfl) ?_;refine bp hm (ι:=(List bj×List ah)) (fun z=>[⟨true,.ptr 0 2 0 0⟩,⟨true,.ptr 1 9 0 0⟩,⟨true,.bool false⟩,⟨true,.fn 1000465 [.ptr 0 2 0 0]⟩,.un,.un,.un,.un,.un,.un,.un,.un,⟨true,.ptr 2 9 0 0⟩,.un,.un,.un,.un,.un,.un,.un]) (fun z=>[(0,.buf 2 [Ld.D (r.to z.2)]),(1,.buf 9 [cZ]),(2,.buf 9 [kW nm v ((.sl 3 (N.map aT.D))) ((.sl 3 (B.map fE.D))) (.own 3 2 0 (z.1).length)]),(3,.buf 2 (z.1.map bj.D))]) 10 (fun z=>z.2<:+r.ls∧z.1.length+z.2.length≤r.ls.length∧dk pb=(z.1++(dk z.2).1,(dk z.2).2)) (fun z=>z.2.length) ([],pb) ⟨hq1,by simpa using hpl2,by simp⟩ (aN.to [(1,1),(2,2)] ae ae dT (by refine aC.de ae ae ae ?_;refine aC.de ae ae ae ?_;refine aC.ni 2 ae ae (by exact⟨_,_,rfl,⟨_,rfl,⟨_,_,rfl,⟨rfl,rfl⟩,⟨_,_,rfl,⟨rfl,rfl⟩,⟨_,_,rfl,⟨rfl,rfl⟩,⟨_,_,rfl,⟨rfl,rfl⟩,⟨_,_,rfl,⟨rfl,rfl⟩,⟨_,_,rfl,⟨rfl,rfl⟩,⟨_,_,rfl,⟨rfl,rfl⟩,⟨_,_,rfl,⟨rfl,rfl⟩,⟨_,_,rfl,Or.inr ⟨_,_,_,rfl⟩,rfl⟩⟩⟩⟩⟩⟩⟩⟩⟩⟩,rfl⟩) ?_;refine aC.mt ae ae ae ae ?_;exact aC.nil)) ?_;rintro⟨Z,pf⟩ ⟨hq1,hlen,hw⟩;dsimp only at hq1 hlen hw⊢;refine az ?_;refine jA (n:=1000465) (VZ:=[.ptr 0 2 0 0,.str bA,.int .i64 ((0:Nat):Int),.bool false]) (ι:=Unit) (fun _=>True) (fun _=>.tup [vr (bc bA 0 false pf),.bool (bc bA 0 false pf).isSome]) 10 (fun _=>[(0,.buf 2 [Ld.D (r.to (cC bA 0 false pf))]),(1,.buf 9 [cZ]),(2,.buf 9 [kW nm v ((.sl 3 (N.map aT.D))) ((.sl 3 (B.map fE.D))) (.own 3 2 0 (Z).length)]),(3,.buf 2 (Z.map bj.D))]) (fun _ _=>?_) (hc:=fun K' hK=>sN h9465 hp0 hq1 (w:=bA) (n:=0) (op:=false) (by decide) (by decide) ae (hK () trivial)) (hn:=by decide);refine ay ?_;refine fu _ ?_;refine dz ?_;refine aq (fun hc4=>?_) (fun hc4=>?_)
   ·simp only[Bool.not_eq_true']at hc4;have hq:=gz hc4;have hnr:cC bA 0 false pf=pf:=by simp only[cC,hq]
    rw[hnr];have hf2:dk pb=(Z,pf):=by rw[hw,yF hq,List.append_nil]
    refine az ?_;have hbd:n4 nm v q0=(⟨nm,v,N,B,Z⟩,pf):=by simp only[n4,hn2,je,hf2]
    rw[hbd];refine eu 3 (hn:=bt (fun _=>rfl) _) (he:=by simp only[lX,gI,kH,mL,oE,bO,Nat.reduceEqDiff,if_true,if_false,and_self,true_and,and_true,false_and,and_false,Nat.zero_add,List.length_map,Nat.le_refl,List.drop_zero,aK,reduceCtorEq,List.length_cons,List.length_nil,Nat.reduceAdd,Nat.reduceLeDiff,Ld.D,cZ,kW];exact rfl) (hm:=by simp only[lX,gI,kH,mL,oE,bO,Nat.reduceEqDiff,if_true,if_false,and_self,true_and,and_true,false_and,and_false,Nat.zero_add,List.length_map,Nat.le_refl,List.drop_zero,aK,reduceCtorEq,List.length_cons,List.length_nil,Nat.reduceAdd,Nat.reduceLeDiff,Ld.D,cZ,kW];exact rfl) ?_;refine ay ?_;refine cD (d:=Rec.D ⟨nm,v,N,B,Z⟩) ?_;refine aJ (Rec.D ⟨nm,v,N,B,Z⟩) (he:=by exact rfl) ?_;refine az ?_;refine ef trivial sj (Eq.trans ae (aS ?_ ?_)) ae ae ae;all_goals rfl
   simp only[Bool.not_eq_false']at hc4;obtain⟨⟨l,q2⟩,hq⟩:=gA hc4;have hnr:cC bA 0 false pf=q2:=by simp only[cC,hq]
   obtain⟨hl,hlm,hq2,hqp⟩:=kd hp0 hq1 hq;rw[hnr,hq];have hll2:=Fz hp0 hq1 hq;refine aQ ?_;intro u0;refine ax ?_;refine cH (fun hc5=>?_) fun hc5=>?_
   ·refine ax ?_;have hf2:dk pb=(Z,pf):=by rw[hw,CT hq (by omega),List.append_nil]
    obtain⟨t,hpt,_⟩:=dn hq;obtain⟨hab1,hab2⟩:=(hp0.to q2).1;refine az ?_;refine cu (v:=.int .i64 ((r.to q2).at':Nat)) ?_;refine az ?_;refine aJ (Ld.D (r.to pf)) (he:=by rw[hpt];exact Ld.back (hpt▸hq1)) ?_;refine aA ?_;have hbd:n4 nm v q0=(⟨nm,v,N,B,Z⟩,pf):=by simp only[n4,hn2,je,hf2]
    rw[hbd];refine eu 3 (hn:=bt (fun _=>rfl) _) (he:=by simp only[lX,gI,kH,mL,oE,bO,Nat.reduceEqDiff,if_true,if_false,and_self,true_and,and_true,false_and,and_false,Nat.zero_add,List.length_map,Nat.le_refl,List.drop_zero,aK,reduceCtorEq,List.length_cons,List.length_nil,Nat.reduceAdd,Nat.reduceLeDiff,Ld.D,cZ,kW];exact rfl) (hm:=by simp only[lX,gI,kH,mL,oE,bO,Nat.reduceEqDiff,if_true,if_false,and_self,true_and,and_true,false_and,and_false,Nat.zero_add,List.length_map,Nat.le_refl,List.drop_zero,aK,reduceCtorEq,List.length_cons,List.length_nil,Nat.reduceAdd,Nat.reduceLeDiff,Ld.D,cZ,kW];exact rfl) ?_;refine ay ?_;refine cD (d:=Rec.D ⟨nm,v,N,B,Z⟩) ?_;refine aJ (Rec.D ⟨nm,v,N,B,Z⟩) (he:=by exact rfl) ?_;refine az ?_;refine ef trivial sj (Eq.trans ae (aS ?_ ?_)) ae ae ae;all_goals rfl
   refine ax ?_;have h2l:2≤l.length:=by omega
   refine ay ?_;refine cu (v:=.own 3 2 0 Z.length) ?_;refine ay ?_;refine cJ 1 (hb:=fun _=>by omega) ?_;refine bV (v:=.str l[1]!) (hi:=fun _=>by omega) ?_;refine ay ?_;refine uu 2 (hb:=fun _=>by omega) ?_;refine aj (hc:=h469 (l.drop 2) (by rw[List.length_drop];omega)) ?_;refine bx (bj.D ⟨l[1]!,l.drop 2⟩) ?_;refine cy [bj.D ⟨l[1]!,l.drop 2⟩] ?_;refine iY (q:=bj.D) (xs:=Z) (e:=⟨l[1]!,l.drop 2⟩) ?_;refine ay ?_;refine aJ (kW nm v (.sl 3 (N.map aT.D)) (.sl 3 (B.map fE.D)) (.own 32 2 0 (Z++[(⟨l[1]!,l.drop 2⟩:bj)]).length)) (he:=by exact rfl) ?_;refine az ?_;have hsl:=Nat.le_refl 0;exact⟨(Z++[⟨l[1]!,l.drop 2⟩],q2),⟨hq2,by simp only[List.length_append,List.length_cons,List.length_nil];omega,by rw[hw,Az hq h2l];simp⟩,by dsimp only;omega,(aN.to [(1,1),(2,2),(32,3)] ae ae dT (by refine aC.de ae ae ae ?_;refine aC.de ae ae ae ?_;refine aC.eq 2 ae ae ae ?_;refine aC.nl 32 ae ae rfl (by exact bt (fun _=>rfl) _) ?_;exact aC.nil))⟩
  simp only[Bool.not_eq_false']at hc3;obtain⟨⟨l,q2⟩,hq⟩:=gA hc3;have hnr:cC eP 3 true pb=q2:=by simp only[cC,hq]
  obtain⟨hl,hlm,hq2,hqp⟩:=kd hp0 hq1 hq;rw[hnr,hq];obtain hl:l.length=3:=by rcases hl with h|h;cases h;exact h
  refine az ?_;refine Gf (v:=.own 3 3 0 B.length) ?_;refine ay ?_;refine cJ 1 (hb:=fun _=>by omega) ?_;refine Gg (v:=.str l[1]!) (hi:=fun _=>by omega) ?_;refine ay ?_;refine cJ 2 (hb:=fun _=>by omega) ?_;refine Gg (v:=.str l[2]!) (hi:=fun _=>by omega) ?_;refine ay ?_;refine jr (hc:=ya h468 hp0 hq2) ?_;refine bx (fE.D ⟨l[1]!,l[2]!,(bo q2).1⟩) ?_;refine cy [fE.D ⟨l[1]!,l[2]!,(bo q2).1⟩] ?_;refine iY (q:=fE.D) (xs:=B) (e:=⟨l[1]!,l[2]!,(bo q2).1⟩) ?_;refine ay ?_;refine aJ (kW nm v (.sl 3 (N.map aT.D)) (.own 31 3 0 (B++[(⟨l[1]!,l[2]!,(bo q2).1⟩:fE)]).length) .av) (he:=by exact rfl) ?_;refine az ?_;have hsl:=(fW q2).length_le;exact⟨(B++[⟨l[1]!,l[2]!,(bo q2).1⟩],(bo q2).2),⟨(fW q2).trans hq2,by simp only[List.length_append,List.length_cons,List.length_nil];omega,by rw[hw,tg hq];simp⟩,by dsimp only;omega,(aN.to [(1,1),(2,2),(31,3)] ae ae dT (by refine aC.de ae ae ae ?_;refine aC.de ae ae ae ?_;refine aC.eq 2 ae ae ae ?_;refine aC.nl 31 ae ae rfl (by exact bt (fun _=>rfl) _) ?_;exact aC.nil))⟩
 simp only[Bool.not_eq_false']at hc2;obtain⟨⟨l,q2⟩,hq⟩:=gA hc2;have hnr:cC ec 1 false p=q2:=by simp only[cC,hq]
 obtain⟨hl,hlm,hq2,hqp⟩:=kd hp0 hq1 hq;rw[hnr,hq];refine az ?_;refine Gf (v:=.own 3 3 0 N.length) ?_;refine ay ?_;refine jr (hc:=H8 h467 hp0 hq2) ?_;refine cy [aT.D (cX q2).1] ?_;refine iY (q:=aT.D) (xs:=N) (e:=(cX q2).1) ?_;refine ay ?_;refine aJ (kW nm v (.own 24 3 0 (N++[(cX q2).1]).length) .av .av) (he:=by exact rfl) ?_;refine az ?_;have hsl:=(nG q2).length_le;exact⟨(N++[(cX q2).1],(cX q2).2),⟨(nG q2).trans hq2,by simp only[List.length_append,List.length_cons,List.length_nil];omega,by rw[hw,rI hq];simp⟩,by dsimp only;omega,(aN.to [(1,1),(2,2),(24,3)] ae ae dT (by refine aC.de ae ae ae ?_;refine aC.de ae ae ae ?_;refine aC.eq 2 ae ae ae ?_;refine aC.nl 24 ae ae rfl (by exact bt (fun _=>rfl) _) ?_;exact aC.nil))⟩
def LY (Γ:Ctx):Prop:=∀(r:Ld),(r.sm)→Γ.fp 222 (Ld.D r) []∧Γ.fv 222 (Ld.D r) []=.tup [Rec.D (ep r.rest).1,.bool (oP r.rest).isSome]∧Γ.fs 222 (Ld.D r) []=Ld.D (r.to (ep r.rest).2)
end Go.Abs
end
namespace Go.Abs
def xb (p:List ah):Prop:=∀t∈p,t.length≤1048576
def xb.get {l:List ah}(h:xb l)(i:Nat):l[i]!.length≤1048576:=by
 rcases Nat.lt_or_ge i l.length with hi|hi
 ·exact h _ (bL hi)
 ·simp[hi];exact Nat.zero_le _
def xb.next {p:List ah}(hp:xb p){w:ah}{n:Nat}{op:Bool}{l q:List ah}(h:bc w n op p=some (l,q)):xb l∧xb q∧l.length≤1048577:=by
 obtain⟨t,rfl,ht⟩:=dn h;obtain⟨_,_,h3⟩:=qO ht;have h0:=hp t (.head _);refine⟨fun u hu=>?_,fun u hu=>hp u (.tail _ hu), ?_⟩
 ·rw[h3]at hu;have:=zY hu;omega
 ·have:=wV n op t;rw[h3];omega
def xb.II {p q:List ah}(hp:xb p)(h:q<:+p):xb q:=fun t ht=>hp t (h.subset ht)
def D3 {l:List ah}(h:xb l):(eQ l).sm:=by
 refine⟨⟨h.get 1,h.get 4⟩,fun t ht=>?_⟩;unfold eQ at ht;simp only at ht;split at ht
 ·cases ht
 ·have:=dq _ _ ht;have:=h.get 2;omega
def B1 {w:ah}{n:Nat}{op:Bool}{t:ah}{r l:List ah}(h:eA w n op t=some l):bc w n op (t::r)=some (l,r):=by simp only[bc,h]
def uQ:∀p:List ah,xb p→∀x∈(bP p).1,x.sm
 |[],_,x,hx=>by simp[bP]at hx
 |t::r,hp,x,hx=>by
  have ih:=uQ r (fun u hu=>hp u (.tail _ hu));simp only[bP]at hx;split at hx
  ·rename_i l hl;split at hx
   ·simp only[List.mem_cons]at hx;rcases hx with rfl|hx
    ·exact D3 (hp.next (B1 (r:=r) hl)).1
    ·exact ih x hx
   ·simp at hx
  ·simp at hx
def zV {p:List ah}(hp:xb p):(bo p).1.length≤1048576:=by
 unfold bo;split
 ·rename_i h;exact(hp.next h).1.get 1
 ·simp
def Ij {p:List ah}(hp:xb p):(oL p).1.length≤1048576:=by
 unfold oL;split
 ·rename_i h;exact(hp.next h).1.get 1
 ·simp
def Fx {p:List ah}(hp:xb p):(cX p).1.sm:=⟨uQ p hp,zV (hp.II (kl p)),Ij ((hp.II (kl p)).II (fW _))⟩
def wh:∀(f:Nat)(p:List ah),xb p→(∀x∈(iX f p).1,x.sm)∧(iX f p).2<:+p
 |0,p,_=>⟨fun x hx=>by simp[iX]at hx,List.suffix_refl _⟩
 |f+1,p,hp=>by
  simp only[iX];split
  ·rename_i l r h;have hr:=(hp.next h).2.1;obtain⟨i1,i2⟩:=wh f (cX r).2 (hr.II (nG r));refine⟨fun x hx=>?_,i2.trans ((nG r).trans (kV h))⟩;simp only[List.mem_cons]at hx;rcases hx with rfl|hx
   ·exact Fx hr
   ·exact i1 x hx
  ·exact⟨fun x hx=>by simp at hx,List.suffix_refl _⟩
def yv:∀(f:Nat)(p:List ah),xb p→(∀x∈(lU f p).1,x.sm)∧(lU f p).2<:+p
 |0,p,_=>⟨fun x hx=>by simp[lU]at hx,List.suffix_refl _⟩
 |f+1,p,hp=>by
  simp only[lU];split
  ·rename_i l r h;obtain⟨hl,hr,_⟩:=hp.next h;obtain⟨i1,i2⟩:=yv f (bo r).2 (hr.II (fW r));refine⟨fun x hx=>?_,i2.trans ((fW r).trans (kV h))⟩;simp only[List.mem_cons]at hx;rcases hx with rfl|hx
   ·exact⟨hl.get 1,hl.get 2,zV hr⟩
   ·exact i1 x hx
  ·exact⟨fun x hx=>by simp at hx,List.suffix_refl _⟩
def vP:∀(p:List ah),xb p→(∀x∈(dk p).1,x.sm)∧(dk p).2<:+p
 |[],_=>⟨fun x hx=>by simp[dk]at hx,List.suffix_refl _⟩
 |t::r,hp=>by
  obtain⟨i1,i2⟩:=vP r (fun u hu=>hp u (.tail _ hu));simp only[dk];split
  ·rename_i l hl;obtain⟨hlm,_,hll⟩:=hp.next (B1 (r:=r) hl);split
   ·refine⟨fun x hx=>?_,i2.trans (List.suffix_cons _ _)⟩;simp only[List.mem_cons]at hx;rcases hx with rfl|hx
    ·refine⟨hlm.get 1, ?_,fun u hu=>hlm u (List.mem_of_mem_drop hu)⟩;simp only[List.length_drop];omega
    ·exact i1 x hx
   ·exact⟨fun x hx=>by simp at hx,List.suffix_refl _⟩
  ·exact⟨fun x hx=>by simp at hx,List.suffix_refl _⟩
def Cc:kf nX:=⟨⟨by decide,by decide,by decide⟩,fun n hn=>(by cases hn),fun n hn=>(by cases hn),fun n hn=>(by cases hn)⟩
def Iy {p:List ah}(hp:xb p):kf (ep p).1∧(ep p).2<:+p:=by
 unfold ep oP;cases h:bc cU 3 false p with
 |none=>exact⟨Cc,List.suffix_refl _⟩
 |some lq=>
  obtain⟨l,r⟩:=lq;obtain⟨hl,hr,_⟩:=hp.next h;simp only;cases hv:kG l[2]! with
  |none=>exact⟨Cc,List.suffix_refl _⟩
  |some v=>
   have hvs:=IM (hl.get 2);rw[hv]at hvs;obtain⟨n1,n2⟩:=wh r.length r hr;obtain⟨b1,b2⟩:=yv (ew r).2.length (ew r).2 (hr.II n2);obtain⟨f1,f2⟩:=vP (jF (ew r).2).2 ((hr.II n2).II b2);exact⟨⟨⟨hl.get 1,hvs⟩,n1,b1,f1⟩,f2.trans (b2.trans (n2.trans (kV h)))⟩
def e7 (s:ah):Rec×Int×Int:=
 if 4096<s.length then(nX,3,0)
 else
  let ls:=(ai s 10).take ((ai s 10).length-1)
  if(oP ls).isSome=false∨(ep ls).2≠[]∨(ai s 10)[(ai s 10).length-1]! ≠[]then(nX,2,((ls.length-(ep ls).2.length:Nat):Int)+1)
  else if(ch (ep ls).1).1≠0 then(nX,(ch (ep ls).1).1,0)
  else((ep ls).1,0,0)
end Go.Abs
section
namespace Go.Abs
open Go
def zw:aB:=⟨3,8,[⟨3,none⟩],cv,(sq (rg [gb 9 s0,gm bF] [(5,0),(3,1)]) (sq (.block 0 (sq (r1 [gm s1,gx 208 [l0] cv,n9 l1,gm l2] 4 3) (.cond s4 (sq (r1 [gm uU] 3 0) .ret) (sq (r1 [gm s1,gf 0 s5,gd l1,aF l0 l2,gm l3] 6 4) (.cond s6 (sq (r1 [gm HP] 3 0) .ret) (sq (r1 [gm s2,gx 444 [l0] cv,n9 l1,gm l2] 7 3) (.cond s7 (sq (r1 [gm AK] 3 0) .ret) .skip))))))) (sq (r1 [gm bF] 3 0) .ret)))⟩
def w211 {Γ:Ctx}(hm:(Γ.at 0).bq)(h208:G1 Γ)(h444:Ma Γ)(r:Rec)(name:ah)(rng:ah)  (hp0:rng.length≤1048576):dX Γ zw (.int .i64 (iO r name rng)) [Rec.D r,.str name,.str rng]:=by
 show bB _ _ _ [⟨_,_⟩,⟨_,_⟩,⟨_,_⟩,_,_,_,_,_] _;refine ak ?_;refine aP ?_;refine aj (hc:=h208 _) ?_;refine az ?_;refine gv (fun hc0=>?_) fun hc0=>?_
 ·refine aQ ?_;refine il ?_;rw[iO,if_pos hc0]
 refine bd ?_;refine gv (fun hc1=>?_) fun hc1=>?_
 ·refine aQ ?_;refine il ?_;rw[iO,if_neg (by simp[hc0]),if_pos hc1]
 refine ax ?_;refine aj (hc:=h444 rng hp0) ?_;refine az ?_;refine gv (fun hc2=>?_) fun hc2=>?_
 ·refine aQ ?_;refine il ?_;rw[iO,if_neg (by simp[hc0]),if_neg hc1,if_pos hc2]
 refine aP ?_;refine il ?_;rw[iO,if_neg (by simp[hc0]),if_neg hc1,if_neg (by simp[hc2])]
def JC (Γ:Ctx):Prop:=∀(r:Rec)(name:ah)(rng:ah),(rng.length≤1048576)→Γ.pre 211 [Rec.D r,.str name,.str rng]∧Γ.val 211 [Rec.D r,.str name,.str rng]=.int .i64 (iO r name rng)
def zx:aB:=⟨3,16,[⟨3,none⟩],cv,(sq (rg [gb 9 s0,gb 4 s1,gm bF] [(4,0),(5,1),(3,2)]) (sq (sq (r1 [gk 9 true s4,gf 0 s5,gd l1,gf 1 s5,gd l3,gx 211 [l0,l2,l4] [[.a,.a,.a,.a,.a,.a,.sl 3 [.sl 4 [.a,.a,.sl 1 [.a],.a],.a,.a],.sl 3 [.a,.a,.a],.sl 2 [.a,.sl 1 [.a]]],[.a],[.a]],gm l5] 6 6) (sq (r1 [gm s6,b8 l0 bF] 7 1) (.cond s7 (sq (r1 [gm s6,gm l0] 3 1) .ret) .skip))) (sq (sq (r1 [gf 2 s5,gd l0,gl l1,dH l2 AK,gm l3,gJ 4 2 s5,iR 4 l5,cb 4 (.len l6),cb 4 (du l7 bF),fj 4 l8,gmt 9 s2,cG 9 (.un .not l10),Eb 4 l9 jx,eZ l4 kJ] 8 13) (.cond s8 (sq (r1 [gm (i6 11)] 3 0) .ret) .skip)) (sq (sq (rg [gf 2 s5,gd l0,gl l1,gm bF] [(12,1),(10,2),(9,3)]) (.block 0 (.loop (sq (r1 [aV s9 lP] 11 0) (sq (ir oS 0) (sq (.block 1 (sq (rg [gm s9,ga 1 lu s9,gd l1,gm l0,gm l2] [(14,3),(13,4)]) (sq (r1 [gm sQ,gx 349 [l0] cv,n9 l1,gm l2,fj 3 sk,cb 3 (du l4 bF),fj 3 l5,pc 6 2 s5,nF 6 l7,gmt 6 sk,cG 6 (mr l9 cd),cG 6 (.ia 1 l8 l10),nF 6 jx,gmt 6 sQ,cG 6 (yr kJ me),Eb 3 l6 mV,eZ l3 nV] 15 16) (.cond wz (sq (r1 [gm (i6 11)] 3 0) .ret) .skip)))) (r1 [ar s9 cd,gm l0] 9 1))))))) (sq (r1 [gm bF] 3 0) .ret)))))⟩
def w443 {Γ:Ctx}(hm:(Γ.at 0).bq)(h211:JC Γ)(h349:Af Γ)(r:Rec)(w:aX)(al:Bool)  (hp0:w.sm):dX Γ zx (.int .i64 (jX r w al)) [Rec.D r,aX.D w,.bool al]:=by
 show bB _ _ _ [⟨_,_⟩,⟨_,_⟩,⟨_,_⟩,_,_,_,_,_,_,_,_,_,_,_,_,_] _;refine ak ?_;refine gG ?_;refine aj (hc:=h211 r w.name w.range hp0.1.2) ?_;refine bd ?_;refine cH (fun hc0=>?_) fun hc0=>?_
 ·refine aP ?_;refine il ?_;rw[jX,if_pos hc0]
 refine aP ?_;intro u0;refine aA ?_;refine lr ?_;refine bd ?_;refine aq (fun hc1=>?_) (fun hc1=>?_)
 ·have hq:(decide (w.feats.length≤6)&&(al ||decide (w.feats.length=0)))=false:=by rw[←Bool.not_eq_true',←GJ];exact hc1
  refine aQ ?_;refine il ?_;rw[jX,if_neg (by simp[hc0]),if_pos (by unfold kj;rw[hq];rfl)]
 have hq:(decide (w.feats.length≤6)&&(al ||decide (w.feats.length=0)))=true:=by rw[←Bool.not_eq_false',←GJ];exact hc1
 refine aP ?_;intro u1;refine ax ?_;refine bp hm (ι:=Nat) (fun i=>[.un,.un,⟨true,.bool al⟩,.un,⟨true,.ptr 0 9 0 0⟩,⟨true,.ptr 1 4 0 0⟩,.un,.un,.un,⟨true,.int .i64 (i:Nat)⟩,⟨true,.int .i64 (w.feats.length:Nat)⟩,.un,⟨true,.sl 1 (w.feats.map D.str)⟩,.un,.un,.un]) (fun i=>[(0,.buf 9 [Rec.D r]),(1,.buf 4 [aX.D w])]) 30 (fun i=>i≤w.feats.length∧kj w.feats al=ca (Lv w.feats) i w.feats.length) (fun i=>w.feats.length-i) 0 ⟨by omega,by unfold kj;rw[hq,Bool.true_and]⟩ (dR [(0,0),(1,1)]) ?_;rintro i ⟨hi,hr⟩;refine az ?_;refine cH (fun hc2=>?_) fun hc2=>?_
 ·refine gG ?_;refine aj (hc:=h349 _) ?_;refine dz ?_;refine cJ (i-1) ?_;refine aP ?_;refine wp_cond (fun hc3=>?_) (fun hc3=>?_)
  ·have hz:Lv w.feats i=false:=by rw[←Bool.not_eq_true',←N6];exact hc3
   refine aP ?_;refine il ?_;rw[jX,if_neg (by simp[hc0]),if_pos (by rw[hr,aD (by omega),hz];rfl)]
  have hz:Lv w.feats i=true:=by rw[←Bool.not_eq_false',←N6];exact hc3
  refine bd ?_;exact⟨i+1,⟨by omega,by rw[hr,aD (by omega),hz];rfl⟩,by omega,(dR [(0,0),(1,1)])⟩
 refine aP ?_;refine il ?_;rw[jX,if_neg (by simp[hc0]),if_neg (by rw[hr,bK (by omega)];simp)]
def L9 (Γ:Ctx):Prop:=∀(r:Rec)(w:aX)(al:Bool),(w.sm)→Γ.pre 443 [Rec.D r,aX.D w,.bool al]∧Γ.val 443 [Rec.D r,aX.D w,.bool al]=.int .i64 (jX r w al)
def zu:aB:=⟨2,16,[⟨2,none⟩],cv,(sq (rg [gb 9 s0,gb 3 s1,gm bF] [(10,0),(3,1),(2,2)]) (sq (sq (r1 [gf 0 s3,gd l0,gl l1,aF l2 bF] 4 3) (.cond s4 (sq (r1 [gm BR] 2 0) .ret) .skip)) (sq (sq (r1 [gf 0 s3,gd l0,gl l1,dH l2 kI] 5 3) (.cond s5 (sq (r1 [gm kI] 2 0) .ret) .skip)) (sq (sq (rg [gf 0 s3,gd l0,gl l1,gm bF] [(9,1),(7,2),(6,3)]) (.block 0 (.loop (sq (r1 [aV s6 s7] 8 0) (sq (ir s8 0) (sq (.block 1 (sq (r1 [ga 4 s9 s6,gk 4 true l0,gb 4 (.c (.agg [.str [],.str [],.av,.bool false])),gt 4 l2 l1] 11 2) (sq (r1 [gk 9 true lP,gk 4 true oS,gf 0 s3,gd l2,gl l3,aF l4 cd,gx 443 [l0,l1,l5] [[.a,.a,.a,.a,.a,.a,.sl 3 [.sl 4 [.a,.a,.sl 1 [.a],.a],.a,.a],.sl 3 [.a,.a,.a],.sl 2 [.a,.sl 1 [.a]]],[.a,.a,.sl 1 [.a],.a],[.a]],gm l6] 12 7) (sq (r1 [gm lu,b8 l0 bF] 13 1) (.cond sQ (sq (r1 [gm lu,gm l0] 2 1) .ret) .skip))))) (r1 [ar s6 cd,gm l0] 6 1))))))) (sq (sq (r1 [gf 1 s3,gd l0,gx 212 [l1] cv,n9 l2] 14 3) (.cond sk (sq (r1 [gm Ky] 2 0) .ret) .skip)) (sq (sq (r1 [gf 2 s3,gd l0,b8 l1 cse,gm l2,pc 3 2 s3,nF 3 l4,cG 3 (.call 349 [l5] cv),cG 3 (.un .not l6),fR l3 l7] 15 8) (.cond wz (sq (r1 [gm (i6 14)] 2 0) .ret) .skip)) (sq (r1 [gm bF] 2 0) .ret)))))))⟩
def w210 {Γ:Ctx}(hm:(Γ.at 0).bq)(h212:JD Γ)(h349:Af Γ)(h443:L9 Γ)(r:Rec)(n:aT)  (hp0:n.sm):dX Γ zu (.int .i64 (jg r n)) [Rec.D r,aT.D n]:=by
 show bB _ _ _ [⟨_,_⟩,⟨_,_⟩,_,_,_,_,_,_,_,_,_,_,_,_,_,_] _;refine ak ?_;refine dz ?_;intro u0;refine ax ?_;refine cH (fun hc0=>?_) fun hc0=>?_
 ·refine aQ ?_;refine il ?_;rw[jg,if_pos (by omega)]
 refine aP ?_;intro u1;refine ax ?_;refine cH (fun hc1=>?_) fun hc1=>?_
 ·refine aQ ?_;refine il ?_;rw[jg,if_neg (by omega),if_pos (by omega)]
 refine aP ?_;intro u2;refine ax ?_;refine bp hm (ι:=Nat) (fun i=>[.un,.un,.un,⟨true,.ptr 1 3 0 0⟩,.un,.un,⟨true,.int .i64 (i:Nat)⟩,⟨true,.int .i64 (n.any.length:Nat)⟩,.un,⟨true,.sl 4 (n.any.map aX.D)⟩,⟨true,.ptr 0 9 0 0⟩,.un,.un,.un,.un,.un]) (fun i=>[(0,.buf 9 [Rec.D r]),(1,.buf 3 [aT.D n])]) 15 (fun i=>i≤n.any.length∧lS r n.any=gw (fun i=>jX r n.any[i]! (decide ((n.any.length:Int)=1))) i n.any.length) (fun i=>n.any.length-i) 0 ⟨by omega,rfl⟩ (dR [(0,0),(1,1)]) ?_;rintro i ⟨hi,hr⟩;refine az ?_;refine cH (fun hc2=>?_) fun hc2=>?_
 ·refine aA ?_;first|refine bV (v:=(aX.D _)) ?_|refine eC (v:=(aX.D _)) ?_
  refine ay ?_;refine aJ (aX.D n.any[i]!) (he:=by exact rfl) ?_;refine bd ?_;intro u3;refine ay ?_;refine aj (hc:=h443 r n.any[i]! _ (hp0.1 _ (bL (by omega)))) ?_;refine aP ?_;refine gv (fun hc3=>?_) fun hc3=>?_
  ·refine bd ?_;refine il ?_;have hw:lS r n.any=jX r n.any[i]! (decide ((n.any.length:Int)=1)):=by rw[hr,tz (by omega) hc3]
   rw[jg,if_neg (by omega),if_neg (by omega),if_pos (by rw[hw];exact hc3),hw]
  refine bd ?_;exact⟨i+1,⟨by omega,by rw[hr,qB (by omega) hc3]⟩,by omega,(dR [(0,0),(1,1)])⟩
 refine aA ?_;have hw0:lS r n.any=0:=by rw[hr,qA (by omega)]
 refine ax ?_;refine aj (hc:=h212 _) ?_;refine ax ?_;refine aq (fun hc4=>?_) (fun hc4=>?_)
 ·try simp only[iA]at hc4
  refine aQ ?_;refine il ?_;rw[jg,if_neg (by omega),if_neg (by omega),if_neg (by simp[hw0]),if_pos hc4]
 simp only[Bool.not_eq_false']at hc4;refine dz ?_;refine aj (hc:=h349 _) ?_;refine az ?_;refine aq (fun hc5=>?_) (fun hc5=>?_)
 ·try simp only[iA]at hc5
  refine aQ ?_;refine il ?_;rw[jg,if_neg (by omega),if_neg (by omega),if_neg (by simp[hw0]),if_neg (by simp[hc4]),if_pos hc5]
 simp only[Bool.and_eq_false_iff,Bool.not_eq_false',decide_eq_true_eq]at hc5;refine aQ ?_;refine il ?_;rw[jg,if_neg (by omega),if_neg (by omega),if_neg (by simp[hw0]),if_neg (by simp[hc4]),if_neg (by rintro⟨g1,g2⟩;rcases hc5 with h|h;exact g1 h;rw[g2]at h;cases h)]
def LU (Γ:Ctx):Prop:=∀(r:Rec)(n:aT),(n.sm)→Γ.pre 210 [Rec.D r,aT.D n]∧Γ.val 210 [Rec.D r,aT.D n]=.int .i64 (jg r n)
def zt:aB:=⟨2,15,[⟨2,none⟩],cv,(sq (rg [gb 9 s0,gm bF] [(3,0),(2,1)]) (sq (rg [gm s1,gx 448 [l0] cv,gm l1,ge l2 0,ge l2 1,ge l2 2,gm l3,gm l4,gm l5] [(8,6),(10,7)]) (sq (sq (rg [gf 6 s3,gd l0,gl l1,gm bF] [(7,1),(5,2),(4,3)]) (.block 0 (.loop (sq (r1 [aV s4 s5] 6 0) (sq (ir s6 0) (sq (.block 1 (sq (r1 [ga 3 s7 s4,gk 3 true l0,gb 3 (.c (.agg [.av,.str [],.str []])),gt 3 l2 l1] 9 2) (sq (r1 [gm s8,aF l0 kS,gm l1,pc 2 2 s9,nF 2 l3,gmt 2 lP,cG 2 (cM l4 l5),fR l2 l6,gm l7,fj 8 s8,cb 8 (cM l9 kI),fj 8 l10,pc 11 0 s9,nF 11 kJ,cG 11 (.len me),cG 11 (cM mV cd),Eb 8 jx nV,fj 8 pP,pc 17 0 s9,nF 17 uV,cG 17 (.ia 4 vZ bF),pc 17 0 yZ,nF 17 Ab,gmt 17 lP,cG 17 (cM BU Fg),Eb 8 tP Fh,eZ l8 Fi] 11 26) (.cond oS (sq (r1 [gm bF] 2 0) .ret) .skip)))) (r1 [ar s4 cd,gm l0] 4 1))))))) (sq (sq (r1 [gm s8] 12 0) (.block 2 (sq (r1 [aF lu kS,gm l0] 13 1) (.cond sQ (sq (r1 [gm (i6 14)] 2 0) .ret) (sq (r1 [aF lu kI,gm l0] 14 1) (.cond sk (sq (r1 [gm (i6 16)] 2 0) .ret) .skip)))))) (sq (r1 [gm bF] 2 0) .ret)))))⟩
def w214 {Γ:Ctx}(hm:(Γ.at 0).bq)(h448:JK Γ)(r:Rec)(s:ah)  (hp0:s.length≤1048576):dX Γ zt (.int .i64 (jf r s)) [Rec.D r,.str s]:=by
 show bB _ _ _ [⟨_,_⟩,⟨_,_⟩,_,_,_,_,_,_,_,_,_,_,_,_,_] _;refine ak ?_;refine aQ ?_;refine aj (hc:=h448 s hp0) ?_;refine kn ?_;intro u0;refine ax ?_;refine bp hm (ι:=Nat) (fun i=>[.un,.un,.un,⟨true,.ptr 0 9 0 0⟩,⟨true,.int .i64 (i:Nat)⟩,⟨true,.int .i64 (r.needs.length:Nat)⟩,.un,⟨true,.sl 3 (r.needs.map aT.D)⟩,⟨true,.int .i64 (cg s).1⟩,.un,⟨true,.str (cg s).2.1⟩,.un,.un,.un,.un]) (fun i=>[(0,.buf 9 [Rec.D r])]) 15 (fun i=>i≤r.needs.length∧jf r s=(if(r.needs.drop i).any (GV (cg s).1 (cg s).2.1)=true then 0 else KB (cg s).1)) (fun i=>r.needs.length-i) 0 ⟨by omega,Fc r s⟩ (dR [(0,0)]) ?_;rintro i ⟨hi,hr⟩;refine az ?_;refine cH (fun hc0=>?_) fun hc0=>?_
 ·refine aA ?_;first|refine bV (v:=(aT.D _)) ?_|refine eC (v:=(aT.D _)) ?_
  refine ay ?_;refine aJ (aT.D r.needs[i]!) (he:=by exact rfl) ?_;refine xa ?_;refine lr ?_;refine aQ ?_;refine cJ 0 (hb:=fun h=>by simp only[Bool.true_and,beq_iff_eq,Bool.and_eq_true,decide_eq_true_eq]at h;omega) ?_;refine ay ?_;refine bV (q:=aX.D) (xs:=r.needs[i]!.any) (i:=0) (hi:=fun h=>by simp only[Bool.true_and,beq_iff_eq,Bool.and_eq_true,decide_eq_true_eq]at h;omega) (v:=(.str r.needs[i]!.any[0]!.name)) ?_;refine aQ ?_;refine wp_cond (fun hc1=>?_) (fun hc1=>?_)
  ·have hz:GV (cg s).1 (cg s).2.1 r.needs[i]! =true:=hc1;refine aP ?_;refine il ?_;rw[hr,Hi (by omega) hz];rfl
  have hz:GV (cg s).1 (cg s).2.1 r.needs[i]! =false:=hc1;refine bd ?_;exact⟨i+1,⟨by omega,by rw[hr,Kd (by omega) hz]⟩,by omega,(dR [(0,0)])⟩
 refine aA ?_;have he:jf r s=KB (cg s).1:=by rw[hr,Hh (by omega)];rfl
 refine bd ?_;refine gv (fun hc2=>?_) fun hc2=>?_
 ·refine aQ ?_;refine il ?_;rw[he,KB,if_pos hc2]
 refine aA ?_;refine gv (fun hc3=>?_) fun hc3=>?_
 ·refine aQ ?_;refine il ?_;rw[he,KB,if_neg hc2,if_pos hc3]
 refine aP ?_;refine il ?_;rw[he,KB,if_neg hc2,if_neg hc3]
def LW (Γ:Ctx):Prop:=∀(r:Rec)(s:ah),(s.length≤1048576)→Γ.pre 214 [Rec.D r,.str s]∧Γ.val 214 [Rec.D r,.str s]=.int .i64 (jf r s)
end Go.Abs
end
section
namespace Go.Abs
open Go
def xS:aB:=⟨1,39,[⟨1,none⟩,⟨2,none⟩],je,(sq (rg [gb 9 s0,gm bF,gm bF] [(3,0),(1,1),(2,2)]) (sq (.block 0 (sq (r1 [gf 0 s3,gd l0,gx 208 [l1] cv,n9 l2,gm l3] 4 4) (.cond s4 (sq (rg [gm uU,gm bF] [(1,0),(2,1)]) .ret) (sq (r1 [gf 1 s3,gk 5 true l0,gx 209 [l1] Ku,n9 l2,gm l3] 5 4) (.cond s5 (sq (rg [gm AJ,gm bF] [(1,0),(2,1)]) .ret) (sq (r1 [gf 6 s3,gd l0,gl l1,dH l2 HP,gm l3,gJ 4 7 s3,iR 4 l5,cb 4 (.len l6),cb 4 (du l7 HP),eZ l4 l8,gm l9] 6 10) (.cond s6 (sq (rg [gm kI,gm bF] [(1,0),(2,1)]) .ret) .skip))))))) (sq (sq (rg [gf 6 s3,gd l0,gl l1,gm bF] [(10,1),(8,2),(7,3)]) (.block 1 (.loop (sq (r1 [aV s7 s8] 9 0) (sq (ir s9 1) (sq (.block 2 (sq (rg [gm s7,ga 3 lP s7,gk 3 true l1,gb 3 (.c (.agg [.av,.str [],.str []])),gm l0,gt 3 l3 l2] [(11,3),(14,4)]) (sq (r1 [gk 9 true s3,gk 3 true oS,gx 210 [l0,l1] [[.a,.a,.a,.a,.a,.a,.sl 3 [.sl 4 [.a,.a,.sl 1 [.a],.a],.a,.a],.sl 3 [.a,.a,.a],.sl 2 [.a,.sl 1 [.a]]],[.sl 4 [.a,.a,.sl 1 [.a],.a],.a,.a]],gm l2] 12 3) (sq (r1 [gm lu,b8 l0 bF] 13 1) (.cond sQ (sq (rg [gm lu,gm sk,gm l0,gm l1] [(1,2),(2,3)]) .ret) .skip))))) (r1 [ar s7 cd,gm l0] 7 1))))))) (sq (sq (rg [gf 7 s3,gd l0,gl l1,gm bF] [(18,1),(16,2),(15,3)]) (.block 3 (.loop (sq (r1 [aV wz Ch] 17 0) (sq (ir yf 3) (sq (.block 4 (sq (rg [gm wz,ga 3 DT wz,gk 3 true l1,gb 3 (.c (.agg [.str [],.str [],.str []])),gm l0,gt 3 l3 l2] [(19,3),(22,4)]) (sq (sq (r1 [gk 9 true s3,gf 0 Lk,gd l1,gf 1 Lk,gd l3,gx 211 [l0,l2,l4] [[.a,.a,.a,.a,.a,.a,.sl 3 [.sl 4 [.a,.a,.sl 1 [.a],.a],.a,.a],.sl 3 [.a,.a,.a],.sl 2 [.a,.sl 1 [.a]]],[.a],[.a]],gm l5] 20 6) (sq (r1 [gm GW,b8 l0 bF] 21 1) (.cond s21 (sq (rg [gm GW,gm s22,gm l0,gm l1] [(1,2),(2,3)]) .ret) .skip))) (sq (r1 [gf 2 Lk,gd l0,gx 212 [l1] cv,n9 l2] 23 3) (.cond s23 (sq (rg [gm s22,gm Ky,gm l0] [(1,1),(2,2)]) .ret) .skip))))) (r1 [ar wz cd,gm l0] 15 1))))))) (sq (sq (r1 [gf 8 s3,gd l0,gx 213 [l1] [[.sl 2 [.a,.sl 1 [.a]]]],n9 l2] 24 3) (.cond LJ (sq (rg [gm (i6 11),gm bF] [(1,0),(2,1)]) .ret) .skip)) (sq (sq (rg [gf 8 s3,gd l0,gl l1,gm bF] [(28,1),(26,2),(25,3)]) (.block 5 (.loop (sq (r1 [aV LK NV] 27 0) (sq (ir s27 5) (sq (.block 6 (sq (rg [gm LK,ga 2 s28 LK,gk 2 true l1,gb 2 (.c (.agg [.str [],.av])),gm l0,gt 2 l3 l2] [(29,3),(37,4)]) (sq (rg [gf 1 s29,gd l0,gl l1,gm bF] [(33,1),(31,2),(30,3)]) (.block 7 (.loop (sq (r1 [aV Js s31] 32 0) (sq (ir s32 7) (sq (.block 8 (sq (r1 [ga 1 s33 Js,gd l0,gm l1] 34 2) (sq (r1 [gk 9 true s3,gm s34,gx 214 [l0,l1] [[.a,.a,.a,.a,.a,.a,.sl 3 [.sl 4 [.a,.a,.sl 1 [.a],.a],.a,.a],.sl 3 [.a,.a,.a],.sl 2 [.a,.sl 1 [.a]]],[.a]],gm l2] 35 3) (sq (r1 [gm s35,b8 l0 bF] 36 1) (.cond s36 (sq (rg [gm s35,gm s37,gm l0,gm l1] [(1,2),(2,3)]) .ret) .skip))))) (r1 [ar Js cd,gm l0] 30 1))))))))) (r1 [ar LK cd,gm l0] 25 1))))))) (sq (sq (r1 [gk 9 true s3,gx 215 [l0] [[.a,.a,.a,.a,.a,.a,.sl 3 [.sl 4 [.a,.a,.sl 1 [.a],.a],.a,.a],.sl 3 [.a,.a,.a],.sl 2 [.a,.sl 1 [.a]]]],ye l1,dH l2 (i6 4096)] 38 3) (.cond s38 (sq (rg [gm kI,gm bF] [(1,0),(2,1)]) .ret) .skip)) (sq (rg [gm bF,gm bF] [(1,0),(2,1)]) .ret))))))))⟩
def w70 {Γ:Ctx}(hm:(Γ.at 0).bq)(h208:G1 Γ)(h209:Eg Γ)(h210:LU Γ)(h211:JC Γ)(h212:JD Γ)(h213:LV Γ)(h214:LW Γ)(h215:JE Γ)(r:Rec)  (hp0:kf r):dX Γ xS (.tup [.int .i64 (ch r).1,.int .i64 (ch r).2]) [Rec.D r]:=by
 show bB _ _ _ (⟨true,Rec.D r⟩::.un::.un::.un::.un::.un::.un::.un::.un::.un::.un::.un::.un::.un::.un::.un::.un::.un::.un::.un::.un::.un::.un::.un::.un::.un::.un::.un::.un::.un::.un::.un::.un::.un::.un::.un::.un::.un::.un::[]) ⟨0,[]⟩;refine ak ?_;refine bT ?_;refine aj (hc:=h208 _) ?_;refine az ?_;refine wp_cond (fun hc0=>?_) (fun hc0=>?_)
 ·try simp only[iA]at hc0
  refine aP ?_;refine cl (aS (congrArg (D.int .i64) ?_) (congrArg (D.int .i64) ?_));all_goals (have hq:ch r=(4,0):=(by rw[ch,if_pos hc0]);rw[hq];first|done|rfl)
 simp only[Bool.not_eq_false']at hc0;refine ax ?_;refine cu (v:=df.D r.v) ?_;refine aj (hc:=h209 r.v hp0.1.2) ?_;refine az ?_;refine wp_cond (fun hc1=>?_) (fun hc1=>?_)
 ·try simp only[iA]at hc1
  refine aP ?_;refine cl (aS (congrArg (D.int .i64) ?_) (congrArg (D.int .i64) ?_));all_goals (have hq:ch r=(5,0):=(by rw[ch,if_neg (by simp[hc0]),if_pos hc1]);rw[hq];first|done|rfl)
 simp only[Bool.not_eq_false']at hc1;refine aA ?_;intro u0;refine aA ?_;refine lr ?_;refine aA ?_;refine gv (fun hc2=>?_) fun hc2=>?_
 ·refine aP ?_;refine cl (aS (congrArg (D.int .i64) ?_) (congrArg (D.int .i64) ?_));all_goals (have hq:ch r=(3,0):=(by rw[ch,if_neg (by simp[hc0]),if_neg (by simp[hc1]),if_pos (by omega)]);rw[hq];first|done|rfl)
 refine bd ?_;intro u1;refine ax ?_;refine bp hm (ι:=Nat) (fun i=>(.un::.un::.un::⟨true,.ptr 0 9 0 0⟩::.un::.un::.un::⟨true,.int .i64 (i:Nat)⟩::⟨true,.int .i64 (r.needs.length:Nat)⟩::.un::⟨true,.sl 3 (r.needs.map aT.D)⟩::.un::.un::.un::.un::.un::.un::.un::.un::.un::.un::.un::.un::.un::.un::.un::.un::.un::.un::.un::.un::.un::.un::.un::.un::.un::.un::.un::.un::[])) (fun i=>[(0,.buf 9 [Rec.D r])]) 28 (fun i=>i≤r.needs.length∧jQ r=fg (fun i=>jg r r.needs[i]!) i r.needs.length) (fun i=>r.needs.length-i) 0 ⟨by omega,rfl⟩ (dR [(0,0)]) ?_;rintro i ⟨hi,hr⟩;refine az ?_;refine cH (fun hc3=>?_) fun hc3=>?_
 ·refine aQ ?_;first|refine bV (v:=(aT.D _)) ?_|refine eC (v:=(aT.D _)) ?_
  refine ax ?_;refine aJ (aT.D r.needs[i]!) (he:=by exact rfl) ?_;refine aA ?_;refine aj (hc:=h210 r r.needs[i]! (hp0.2.1 _ (bL (by omega)))) ?_;refine aP ?_;refine gv (fun hc4=>?_) fun hc4=>?_
  ·refine dz ?_;refine cl (aS (congrArg (D.int .i64) ?_) (congrArg (D.int .i64) ?_));all_goals
    have hq:ch r=(jg r r.needs[i]!,((i:Nat):Int)):=by
     exact mA hc0 hc1 (by omega) (by omega) (FZ (by rw[hr,lD (by omega) hc4]) hc4) hc4
    rw[hq];first|done|rfl
  refine bd ?_;exact⟨i+1,⟨by omega,by rw[hr,nD (by omega) hc4]⟩,by omega,(dR [(0,0)])⟩
 refine aA ?_;have hn0:jQ r=(0,0):=by rw[hr,nC (by omega)]
 refine az ?_;intro u2;refine ax ?_;refine bp hm (ι:=Nat) (fun i=>(.un::.un::.un::⟨true,.ptr 0 9 0 0⟩::.un::.un::.un::.un::.un::.un::.un::.un::.un::.un::.un::⟨true,.int .i64 (i:Nat)⟩::⟨true,.int .i64 (r.bars.length:Nat)⟩::.un::⟨true,.sl 3 (r.bars.map fE.D)⟩::.un::.un::.un::.un::.un::.un::.un::.un::.un::.un::.un::.un::.un::.un::.un::.un::.un::.un::.un::.un::[])) (fun i=>[(0,.buf 9 [Rec.D r])]) 33 (fun i=>i≤r.bars.length∧rq r=fg (fun i=>td r r.bars[i]!) i r.bars.length) (fun i=>r.bars.length-i) 0 ⟨by omega,rfl⟩ (dR [(0,0)]) ?_;rintro i ⟨hi,hr⟩;refine az ?_;refine cH (fun hc5=>?_) fun hc5=>?_
 ·refine aQ ?_;first|refine bV (v:=(fE.D _)) ?_|refine eC (v:=(fE.D _)) ?_
  refine ax ?_;refine aJ (fE.D r.bars[i]!) (he:=by exact rfl) ?_;refine bT ?_;refine aj (hc:=h211 r r.bars[i]!.name r.bars[i]!.range (hp0.2.2.1 _ (bL (by omega))).2.1) ?_;refine bd ?_;refine aq (fun hc6=>?_) (fun hc6=>?_)
  ·simp only[Bool.not_eq_true',decide_eq_false_iff_not]at hc6;have hbe:td r r.bars[i]! =iO r r.bars[i]!.name r.bars[i]!.range:=by rw[td,if_pos hc6]
   refine jZ ?_;refine cl (aS (congrArg (D.int .i64) ?_) (congrArg (D.int .i64) ?_));all_goals
    have hq:ch r=(iO r r.bars[i]!.name r.bars[i]!.range,((i:Nat):Int)):=by
     exact mA hc0 hc1 (by omega) (by omega) (zl hn0 (by rw[hr,lD (by omega) (by rw[hbe];exact hc6),hbe]) hc6) hc6
    rw[hq];first|done|rfl
  try simp only[iA]at hc6
  refine aA ?_;refine aj (hc:=h212 _) ?_;refine ax ?_;refine wp_cond (fun hc7=>?_) (fun hc7=>?_)
  ·simp only[Bool.not_eq_true']at hc7;have hbe:td r r.bars[i]! =7:=by rw[td,if_neg (fun h=>h hc6),if_pos hc7]
   refine bT ?_;refine cl (aS (congrArg (D.int .i64) ?_) (congrArg (D.int .i64) ?_));all_goals
    have hq:ch r=((7:Int),((i:Nat):Int)):=by
     exact mA hc0 hc1 (by omega) (by omega) (zl hn0 (by rw[hr,lD (by omega) (by rw[hbe];decide),hbe]) (show(7:Int)≠0 by decide)) (show(7:Int)≠0 by decide)
    rw[hq];first|done|rfl
  simp only[Bool.not_eq_false']at hc7;have hbz:td r r.bars[i]! =0:=by rw[td,if_neg (fun h=>h hc6),if_neg (by rw[hc7];simp)]
  refine bd ?_;exact⟨i+1,⟨by omega,by rw[hr,nD (by omega) hbz]⟩,by omega,(dR [(0,0)])⟩
 refine aA ?_;have hb0:rq r=(0,0):=by rw[hr,nC (by omega)]
 refine ax ?_;refine aj (hc:=h213 r.feats hp0.2.2.2) ?_;refine ax ?_;refine aq (fun hc8=>?_) (fun hc8=>?_)
 ·try simp only[iA]at hc8
  refine aP ?_;refine cl (aS (congrArg (D.int .i64) ?_) (congrArg (D.int .i64) ?_));all_goals
   have hq:ch r=(11,0):=by
    exact mA hc0 hc1 (by omega) (by omega) (F0 hn0 hb0 hc8) (by decide)
   rw[hq];first|done|rfl
 simp only[Bool.not_eq_false']at hc8;refine aP ?_;intro u3;refine ax ?_;refine bp hm (ι:=Nat) (fun i=>(.un::.un::.un::⟨true,.ptr 0 9 0 0⟩::.un::.un::.un::.un::.un::.un::.un::.un::.un::.un::.un::.un::.un::.un::.un::.un::.un::.un::.un::.un::.un::⟨true,.int .i64 (i:Nat)⟩::⟨true,.int .i64 (r.feats.length:Nat)⟩::.un::⟨true,.sl 2 (r.feats.map bj.D)⟩::.un::.un::.un::.un::.un::.un::.un::.un::.un::.un::[])) (fun i=>[(0,.buf 9 [Rec.D r])]) 42 (fun i=>i≤r.feats.length∧qz r=fg (fun i=>oH r r.feats[i]!.of) i r.feats.length) (fun i=>r.feats.length-i) 0 ⟨by omega,rfl⟩ (dR [(0,0)]) ?_;rintro i ⟨hi,hr⟩;refine az ?_;refine cH (fun hc9=>?_) fun hc9=>?_
 ·refine aQ ?_;first|refine bV (v:=(bj.D _)) ?_|refine eC (v:=(bj.D _)) ?_
  refine ax ?_;refine aJ (bj.D r.feats[i]!) (he:=by exact rfl) ?_;refine aQ ?_;intro u4;refine ax ?_;refine p8 hm (ι:=Nat) (fun j=>(.un::.un::.un::⟨true,.ptr 0 9 0 0⟩::.un::.un::.un::.un::.un::.un::.un::.un::.un::.un::.un::.un::.un::.un::.un::.un::.un::.un::.un::.un::.un::⟨true,.int .i64 (i:Nat)⟩::⟨true,.int .i64 (r.feats.length:Nat)⟩::.un::⟨true,.sl 2 (r.feats.map bj.D)⟩::.un::⟨true,.int .i64 (j:Nat)⟩::⟨true,.int .i64 (r.feats[i]!.of.length:Nat)⟩::.un::⟨true,.sl 1 (r.feats[i]!.of.map D.str)⟩::.un::.un::.un::⟨true,.int .i64 (i:Nat)⟩::.un::[])) (fun j=>[(0,.buf 9 [Rec.D r])]) 53 (fun j=>j≤r.feats[i]!.of.length∧oH r r.feats[i]!.of=gw (fun j=>jf r r.feats[i]!.of[j]!) j r.feats[i]!.of.length) (fun j=>r.feats[i]!.of.length-j) 0 ⟨by omega,rfl⟩ (dR [(0,0)]) ?_;rintro j ⟨hj,hjr⟩;refine az ?_;refine cH (fun hc10=>?_) fun hc10=>?_
  ·refine jZ ?_;refine aj (hc:=h214 r r.feats[i]!.of[j]! ((hp0.2.2.2 _ (bL (by omega))).2.2 _ (bL (by omega)))) ?_;refine aP ?_;refine gv (fun hc11=>?_) fun hc11=>?_
   ·refine gG ?_;refine cl (aS (congrArg (D.int .i64) ?_) (congrArg (D.int .i64) ?_));all_goals
     have hq:ch r=(jf r r.feats[i]!.of[j]!,((i:Nat):Int)):=by
      have hie:oH r r.feats[i]!.of=jf r r.feats[i]!.of[j]! :=by rw[hjr,tz (by omega) hc11]
      exact mA hc0 hc1 (by omega) (by omega) (uh hn0 hb0 hc8 (by rw[hr,lD (f:=(fun i=>oH r r.feats[i]!.of)) (by omega) (by rw[hie];exact hc11),hie])) hc11
     rw[hq];first|done|rfl
   refine bd ?_;exact⟨j+1,⟨by omega,by rw[hjr,qB (by omega) hc11]⟩,by omega,(dR [(0,0)])⟩
  refine bT ?_;exact⟨i+1,⟨by omega,by rw[hr,nD (f:=(fun i=>oH r r.feats[i]!.of)) (by omega) (by rw[hjr,qA (by omega)])]⟩,by omega,(dR [(0,0)])⟩
 refine aA ?_;have hpz:ey r=(0,0):=uh hn0 hb0 hc8 (by rw[hr,nC (by omega)]);have hgd:tK r:=⟨⟨hc0,hc1⟩,⟨by omega,by omega⟩,hpz⟩;refine ay ?_;refine aj (hc:=h215 r ⟨hgd,hp0⟩) ?_;refine ay ?_;intro u5;refine ax ?_;refine cH (fun hc12=>?_) fun hc12=>?_
 ·refine aP ?_;refine cl (aS (congrArg (D.int .i64) ?_) (congrArg (D.int .i64) ?_));all_goals
   have hq:ch r=(3,0):=by
    rw[tn hc0 hc1 (by omega) (by omega) hpz,if_pos (by omega)]
   rw[hq];first|done|rfl
 refine aP ?_;refine cl (aS (congrArg (D.int .i64) ?_) (congrArg (D.int .i64) ?_));all_goals
  have hq:ch r=(0,0):=by
   rw[tn hc0 hc1 (by omega) (by omega) hpz,if_neg (by omega)]
  rw[hq];first|done|rfl
def C70 (Γ:Ctx):Prop:=∀(r:Rec),(kf r)→Γ.pre 70 [Rec.D r]∧Γ.val 70 [Rec.D r]=.tup [.int .i64 (ch r).1,.int .i64 (ch r).2]
end Go.Abs
end
section
namespace Go.Abs
open Go
def xT:aB:=⟨1,12,[⟨1,some (9,true)⟩,⟨2,none⟩,⟨3,none⟩],[[.a,.a,.a,.a,.a,.a,.sl 3 [.sl 4 [.a,.a,.sl 1 [.a],.a],.a,.a],.sl 3 [.a,.a,.a],.sl 2 [.a,.sl 1 [.a]]],[.a],[.a]],(sq (rg [gb 9 (.c (.agg [.str [],.int .i64 0,.int .i64 0,.int .i64 0,.str [],.str [],.av,.av,.av])),gm bF,gm bF] [(1,0),(2,1),(3,2)]) (sq (sq (r1 [gm s0,ye l0,dH l1 (i6 4096)] 4 2) (.cond s4 (sq (rg [gn (.build [.str [],.int .i64 0,.int .i64 0,.int .i64 0,.str [],.str [],.av,.av,.av] []),gt 9 s1 l0,gm kI,gm bF] [(2,2),(3,3)]) .ret) .skip)) (sq (r1 [gm s0,gx 124 [l0,(cs [10])] je,gm l1] 5 2) (sq (r1 [gm s5,gm s5,gl l1,fI l2 cd,gn (.slA 1 l0 none (some l3)),gn (.build [.av,.int .i64 0] [(0,1,l4)]),gb 2 l5,gm l6] 6 7) (sq (rg [gm s6,gn (.callF 222 l0 [] []),gm l1,ge l2 0,ge l2 1,gb 9 (.c (.agg [.str [],.int .i64 0,.int .i64 0,.int .i64 0,.str [],.str [],.av,.av,.av])),gt 9 l5 l3,gm l4] [(9,5),(7,7)]) (sq (sq (r2 [gm s7,n9 l0,gm l1,fj 2 s6,cb 2 (.nilck l3),gJ 2 1 l4,iR 2 l5,fj 2 s6,cb 2 (.nilck l7),gJ 2 0 l8,iR 2 l9,cb 2 (.len l10),cb 2 (ph l6 jx),eZ l2 kJ,gm me,fj 14 s5,fj 14 s5,cb 14 (.len pP),cb 14 (mr tP cd),cb 14 (.ia 1 nV uV),iR 14 vZ,cb 14 (dY yZ cse),eZ mV Ab] 8 22) (.cond s8 (sq (rt [gn (.build [.str [],.int .i64 0,.int .i64 0,.int .i64 0,.str [],.str [],.av,.av,.av] []),gm s6,gc l1,gf 1 l2,gn (.ldI 1 false l3),ar l4 cd,gt 9 s1 l0,gm kS,gm l5] [(2,7),(3,8)]) .ret) .skip)) (sq (sq (r1 [gk 9 true s9,gx 70 [l0] [[.a,.a,.a,.a,.a,.a,.sl 3 [.sl 4 [.a,.a,.sl 1 [.a],.a],.a,.a],.sl 3 [.a,.a,.a],.sl 2 [.a,.sl 1 [.a]]]],gm l1,ge l2 0,ge l2 1,gm l3,gm l4] 10 5) (sq (r1 [gm lP,b8 l0 bF] 11 1) (.cond oS (sq (rg [gn (.build [.str [],.int .i64 0,.int .i64 0,.int .i64 0,.str [],.str [],.av,.av,.av] []),gm lP,gt 9 s1 l0,gm l1,gm bF] [(2,3),(3,4)]) .ret) .skip))) (sq (rg [gk 9 true s9,gt 9 s1 l0,gm bF,gm bF] [(2,2),(3,3)]) .ret))))))))⟩
def w76 {Γ:Ctx}(hm:(Γ.at 0).bq)(h70:C70 Γ)(h124:Ef Γ)(h222:LY Γ)(s:ah)   :dX Γ xT (.tup [Rec.D (e7 s).1,.int .i64 (e7 s).2.1,.int .i64 (e7 s).2.2]) [.str s]:=by
 show bB _ _ _ [⟨_,_⟩,_,_,_,_,_,_,_,_,_,_,_] _;refine ak ?_;refine bT ?_;intro u0;refine ax ?_;refine aq (fun hc0=>?_) (fun hc0=>?_)
 ·simp only[decide_eq_true_eq]at hc0;have hrr:e7 s=(nX,3,0):=by unfold e7;rw[if_pos (by omega)]
  rw[hrr];refine ax ?_;refine bx cZ ?_;refine aJ cZ (he:=by exact rfl) ?_;refine az ?_;refine ma [(0,.buf 9 [Rec.D nX])] (.bf ae (.cons pV .nil) .nil) ?_;refine ay ?_;refine cl (ki ?_ (congrArg (D.int .i64) ?_) (congrArg (D.int .i64) ?_));all_goals rfl
 simp only[decide_eq_false_iff_not]at hc0;have hsp:=eO 10 s [];have hsp:1≤(ai s 10).length:=hsp;have hsl:=cS s 10;refine az ?_;refine aj (v:=.sl 1 ((ai s 10).map D.str)) (hc:=h124 s 10 (by omega)) ?_;refine aP ?_;intro u1;refine ay ?_;refine ur ((ai s 10).length-1) (hj:=fun _=>by omega) (hb:=fun _=>by omega) ?_;refine bx (Ld.D ⟨((ai s 10).take ((ai s 10).length-1)),0⟩) ?_;refine aA ?_;generalize hLS:((ai s 10).take ((ai s 10).length-1))=LS;have hLl:LS.length=(ai s 10).length-1:=by rw[←hLS,List.length_take];omega
 have hLm:xb LS:=fun t ht=>by
  rw[←hLS]at ht;have:=dq s 10 (List.mem_of_mem_take ht);omega
 have hsm0:(⟨LS,0⟩:Ld).sm:=⟨⟨Nat.zero_le _,by simp only;omega⟩,hLm⟩;obtain⟨hrs,hsf⟩:=Iy hLm;have hsfl:=hsf.length_le;refine ay ?_;refine jr (v:=.tup [Rec.D (ep LS).1,.bool (oP LS).isSome]) (e:=Ld.D ((⟨LS,0⟩:Ld).to (ep LS).2)) (hc:=h222 ⟨LS,0⟩ hsm0) ?_;refine ay ?_;refine fu (Rec.D _) ?_;refine ax ?_;refine aJ (Rec.D (ep LS).1) (he:=by exact rfl) ?_;refine jZ ?_;refine cu (v:=.int .i64 ((LS.length-(ep LS).2.length:Nat):Int)) ?_;refine az ?_;refine cu (v:=.sl 1 (LS.map D.str)) ?_;refine lr ?_;refine aQ ?_;refine lr ?_;refine ay ?_;refine cJ ((ai s 10).length-1) (hj:=fun _=>by omega) (hb:=fun _=>by omega) ?_;refine bV (v:=.str (ai s 10)[(ai s 10).length-1]!) (hi:=fun _=>by omega) ?_;refine az ?_;refine aq (fun hc1=>?_) (fun hc1=>?_)
 ·simp only[Bool.or_eq_true,Bool.not_eq_true',decide_eq_true_eq,decide_eq_false_iff_not]at hc1;have hrr:e7 s=(nX,2,((LS.length-(ep LS).2.length:Nat):Int)+1):=by
   unfold e7;rw[if_neg (by omega)];simp only[hLS];rw[if_pos];rcases hc1 with(h|h)|h
   ·exact .inl h
   ·refine .inr (.inl fun e=>?_);rw[e]at h;simp only[List.length_nil]at h;omega
   ·exact .inr (.inr h)
  rw[hrr];refine ay ?_;refine eu 15 (he:=by simp only[lX,gI,kH,mL,oE,bO,Nat.reduceEqDiff,if_true,if_false,and_self,true_and,and_true,false_and,and_false,Nat.zero_add,List.length_map,Nat.le_refl,List.drop_zero,aK,reduceCtorEq,List.length_cons,List.length_nil,Nat.reduceAdd,Nat.reduceLeDiff,Ld.D,cZ,kW];exact rfl) (hm:=by simp only[lX,gI,kH,mL,oE,bO,Nat.reduceEqDiff,if_true,if_false,and_self,true_and,and_true,false_and,and_false,Nat.zero_add,List.length_map,Nat.le_refl,List.drop_zero,aK,reduceCtorEq,List.length_cons,List.length_nil,Nat.reduceAdd,Nat.reduceLeDiff,Ld.D,cZ,Rec.D];exact rfl) ?_;refine ay ?_;refine bx cZ ?_;refine az ?_;refine A9 (v:=.int .i64 ((LS.length-(ep LS).2.length:Nat):Int)) ?_;refine ay ?_;refine aJ cZ (he:=by exact rfl) ?_;refine az ?_;refine ma [(0,.buf 9 [Rec.D nX]),(22,.buf 9 [Rec.D (ep LS).1])] (.bf ae (.cons pV .nil) (.id ae .nil)) ?_;refine ay ?_;refine cl (ki ?_ (congrArg (D.int .i64) ?_) (congrArg (D.int .i64) ?_));all_goals rfl
 simp only[Bool.or_eq_false_iff,Bool.not_eq_false',decide_eq_true_eq,decide_eq_false_iff_not]at hc1;have hrr:e7 s=if(ch (ep LS).1).1≠0 then(nX,(ch (ep LS).1).1,0)else((ep LS).1,0,0):=by
  unfold e7;rw[if_neg (by omega)];simp only[hLS];rw[if_neg];rintro(h|h|h)
  ·rw[hc1.1.1]at h;cases h
  ·exact h (List.eq_nil_of_length_eq_zero (by have:=hc1.1.2;omega))
  ·exact h hc1.2
 rw[hrr];refine az ?_;refine cD (d:=Rec.D (ep LS).1) ?_;refine aj (hc:=h70 (ep LS).1 hrs) ?_;refine gG ?_;refine aq (fun hc2=>?_) (fun hc2=>?_)
 ·simp only[Bool.not_eq_true',decide_eq_false_iff_not]at hc2;rw[if_pos hc2];refine ax ?_;refine bx cZ ?_;refine ay ?_;refine aJ cZ (he:=by exact rfl) ?_;refine az ?_;refine ma [(0,.buf 9 [Rec.D nX]),(15,.buf 2 [Ld.D ((⟨LS,0⟩:Ld).to (ep LS).2)]),(22,.buf 9 [Rec.D (ep LS).1])] (.bf ae (.cons pV .nil) (.id ae (.id ae .nil))) ?_;refine ay ?_;refine cl (ki ?_ (congrArg (D.int .i64) ?_) (congrArg (D.int .i64) ?_));all_goals rfl
 simp only[Bool.not_eq_false',decide_eq_true_eq]at hc2;rw[if_neg (by rw[hc2];simp)];refine ax ?_;refine cD (d:=Rec.D (ep LS).1) ?_;refine aJ (Rec.D (ep LS).1) (he:=by exact rfl) ?_;refine aA ?_;refine cl (ki ?_ (congrArg (D.int .i64) ?_) (congrArg (D.int .i64) ?_));all_goals rfl
def C76 (Γ:Ctx):Prop:=∀(s:ah),Γ.pre 76 [.str s]∧Γ.val 76 [.str s]=.tup [Rec.D (e7 s).1,.int .i64 (e7 s).2.1,.int .i64 (e7 s).2.2]
end Go.Abs
end
namespace Go.Abs
end Go.Abs
section
namespace Go.Abs
open Go
end Go.Abs
end
section
namespace Go.Abs
def RdS.ok (x:RdS):Prop:=(x.st=0→x.r.needs=[]∧x.r.bars=[]∧x.r.feats=[])∧((x.st=2∨x.st=3)→x.r.needs≠[])∧(x.st=5→x.r.bars≠[])
end Go.Abs
namespace Go.Abs
end Go.Abs
end
section
namespace Go.Abs
def Hf (ob:Ai):Prop:=∀(σ:List (Nat×Nat))(l l':Nat)(w:List ah)(n:Nat)(b:Bool),kD 0 σ l=some l'→rQ 0 σ (ob w (.own l 5 0 n) b)=some (ob w (.own l' 5 0 n) b)
def m3:Hf ek:=fun σ l l' w n b h=>by simp only[ek,rQ,pX,Ed,h]
def Li:D→Nat
 | .agg [.sl _ ws,_,_]=>ws.length
 | .agg [.sl _ ws,.int _ i,_,_]=>ws.length-i.toNat
 |_=>0
def Ft (c:List D→Nat)(ds:List D)(st:St):Nat:=match ds with
 | .ptr l _ _ _::VZ=>(match look st.m l with
  |some (.buf _ [o])=>6*Li o+c VZ
  |_=>0)
 |_=>0
def IB (w:List ah)(X:D)(b:Bool):Li (ek w X b)=w.length:=by simp[Li,ek]
def jP {c:List D→Nat}{l k nx:Nat}{VZ:List D}{m:List (Nat×aW)}{w:List ah}{X:D}{b:Bool}(h:look m l=some (.buf k [ek w X b])):Ft c (.ptr l k 0 0::VZ) ⟨nx,m⟩=6*w.length+c VZ:=by
 simp only[Ft,h,IB]
def AY (nd:List Nd):aI (nd.map Nd.D)=true:=bt (fun _=>rfl) _
section
variable [bX] {P:Program} {ν:List (Nat×Nat)} {bC:List Nat} {t:List (Nat×nS)} {fid n key u k:Nat} {af:aB} {ob:Ai} {VZ:List D} {w:List ah} {nd:List Nd} {b:Bool} {lp ln nx:Nat} {m:List (Nat×aW)} {K:D→St→Prop} {Pp:PO→Prop} {V:PO→D}
def F4 (hob:Hf ob)(hk5:k≠5)(has:aI VZ=true)(h1:look m lp=some (.buf k [ob w (.own ln 5 0 nd.length) b]))(h2:look m ln=some (.buf 5 (nd.map Nd.D))):
  lp≠ln∧(∀i,i<(D.ptr lp k 0 0::VZ).length→GU 0 [(lp,0),(ln,1)] ((D.ptr lp k 0 0::VZ).getD i .any) ((D.ptr 0 k 0 0::VZ).getD i .any))∧eR 0 2 [(lp,0),(ln,1)]=true∧(∀l i,(l,i)∈[(lp,0),(ln,1)]→look m l≠none)∧
   ∀i bb,look [(0,.buf k [ob w (.own 1 5 0 nd.length) b]),(1,.buf 5 (nd.map Nd.D))] i=some bb→∃l b',(l,i)∈[(lp,0),(ln,1)]∧look m l=some b'∧nZ 0 [(lp,0),(ln,1)] b' bb:=by
 have hne:lp≠ln:=by
  rintro rfl;rw[h1]at h2;exact hk5 (aW.buf.inj (Option.some.inj h2)).1
 have hb:Nat.beq lp ln=false:=by cases h:Nat.beq lp ln with
  |false=>rfl
  |true=>exact absurd (Nat.eq_of_beq_eq_true h) hne
 have hb':Nat.beq ln lp=false:=by cases h:Nat.beq ln lp with
  |false=>rfl
  |true=>exact absurd (Nat.eq_of_beq_eq_true h).symm hne
 refine⟨hne,fun i hi=>?_, ?_,fun l i h=>?_,fun i bb h=>?_⟩
 ·match i with
  |0=>exact .inr (.inl (by simp[rQ,Ed,kD]))
  |i+1=>exact .inl ⟨rfl,bU has i⟩
 ·simp[eR,hb,hb'];rfl
 ·rcases List.mem_cons.1 h with h|h
  ·obtain⟨rfl,rfl⟩:=Prod.mk.inj h;rw[h1];simp
  ·obtain⟨rfl,rfl⟩:=Prod.mk.inj (List.mem_singleton.1 h);rw[h2];simp
 ·simp only[look]at h;split at h
  ·rename_i e;subst e;obtain rfl:=Option.some.inj h;exact⟨lp,_,.head _,h1,rfl,.inr (.inl (by simp only[pX,hob _ ln 1 w nd.length b (show kD 0 [(lp,0),(ln,1)] ln=some 1 by simp[kD,hb])]))⟩
  ·split at h
   ·rename_i e;subst e;obtain rfl:=Option.some.inj h;exact⟨ln,_,.tail _ (.head _),h2,rfl,.inl ⟨rfl,AY nd⟩⟩
   ·cases h
def ic (hob:Hf ob)(hk5:k≠5)(has:aI VZ=true)(hV:∀o,(V o).aL=true)(hmix:P.follows .mixedOrders=true)(hC:Em P ν bC fid af)(hnp:VZ.length+1=af.np)
  (h1:look m lp=some (.buf k [ob w (.own ln 5 0 nd.length) b])) (h2:look m ln=some (.buf 5 (nd.map Nd.D))) (h3:lp<nx) (h4:ln<nx)
  (hK:∀o,Pp o→K (V o) ⟨nx+1,(nx,.buf 5 (o.nd.map Nd.D))::bS (bO m ln) lp (.buf k [ob o.w (.own nx 5 0 o.nd.length) o.bad])⟩)
  (hw:bB ((under t key u).at 2) af.body (oe af (Aj k ob Pp V)) (eI af (.ptr 0 k 0 0::VZ)) ⟨2,[(0,.buf k [ob w (.own 1 5 0 nd.length) b]),(1,.buf 5 (nd.map Nd.D))]⟩):ml P ν bC (under t key u) fid (.ptr lp k 0 0::VZ) ⟨nx,m⟩ K:=by
 obtain⟨hne,g2,g3,g4,g5⟩:=F4 hob hk5 has h1 h2;refine yT (σi:=[(lp,0),(ln,1)]) (cs:=.ptr 0 k 0 0::VZ) (fun q=>aO t key u q) hmix hC (by simp) g2 (by simpa using hnp) g3 g4 g5 hw ?_;rintro d m1 ⟨o,j,hj,hP,rfl,e0,ej⟩;have hb0:Nat.beq 0 j=false:=by cases j<;>first|omega|rfl
 have hbj:Nat.beq j 0=false:=by cases j<;>first|omega|rfl
 have hbl:Nat.beq lp nx=false:=by cases h:Nat.beq lp nx with
  |false=>rfl
  |true=>have:=Nat.eq_of_beq_eq_true h;omega
 have hbl':Nat.beq nx lp=false:=by cases h:Nat.beq nx lp with
  |false=>rfl
  |true=>have:=Nat.eq_of_beq_eq_true h;omega
 refine⟨[(0,lp),(j,nx)],j+1,_,V o,⟨g3, ?_,Nat.le_succ _,g4, ?_,g5, ?_⟩,.inl ⟨rfl,hV o⟩,hK o hP⟩
 ·simp[eR,hbj,hb0,hbl,hbl'];omega
 ·intro i l h;rcases List.mem_cons.1 h with h|h
  ·obtain⟨rfl,rfl⟩:=Prod.mk.inj h;exact .inl (.head _)
  ·obtain⟨rfl,rfl⟩:=Prod.mk.inj (List.mem_singleton.1 h);exact .inr (Nat.le_refl _)
 ·intro l bb h;simp only[look]at h;split at h
  ·rename_i e;subst e;obtain rfl:=Option.some.inj h;exact .inl ⟨j,_,.tail _ (.head _),ej,rfl,.inl ⟨rfl,AY _⟩⟩
  ·rename_i hln;rw[br]at h;split at h
   ·rename_i e;subst e;obtain rfl:=Option.some.inj h;exact .inl ⟨0,_,.head _,e0,rfl,.inr (.inl (by simp only[pX,hob _ j nx o.w o.nd.length o.bad (show kD 0 [(0,l),(j,nx)] j=some nx by simp[kD,hb0])]))⟩
   ·rename_i hlp;rw[dS]at h;split at h
    ·cases h
    ·rename_i hl2;refine .inr ⟨by simp only[jM,if_neg (fun e=>hlp (Eq.symm e)),if_neg hln],fun i hi=>?_,h⟩;rcases List.mem_cons.1 hi with hi|hi
     ·exact hlp (Prod.mk.inj hi).1
     ·exact hl2 (Prod.mk.inj (List.mem_singleton.1 hi)).1
def DK (hob:Hf ob)(hk5:k≠5)(has:aI VZ=true)(hV:∀o,(V o).aL=true)(hmix:P.follows .mixedOrders=true)(hC:Em P ν bC fid af)(hnp:VZ.length+1=af.np)
  (h1:look m lp=some (.buf k [ob w (.own ln 5 0 nd.length) b])) (h2:look m ln=some (.buf 5 (nd.map Nd.D))) (h3:lp<nx) (h4:ln<nx)
  (hK:∀o,Pp o→K (V o) ⟨nx,bS m lp (.buf k [ob o.w (.own ln 5 0 nd.length) o.bad])⟩)
  (hw:bB ((under t key u).at 2) af.body (oe af (I6 k ob nd Pp V)) (eI af (.ptr 0 k 0 0::VZ)) ⟨2,[(0,.buf k [ob w (.own 1 5 0 nd.length) b]),(1,.buf 5 (nd.map Nd.D))]⟩):ml P ν bC (under t key u) fid (.ptr lp k 0 0::VZ) ⟨nx,m⟩ K:=by
 obtain⟨hne,g2,g3,g4,g5⟩:=F4 hob hk5 has h1 h2;refine yT (σi:=[(lp,0),(ln,1)]) (cs:=.ptr 0 k 0 0::VZ) (fun q=>aO t key u q) hmix hC (by simp) g2 (by simpa using hnp) g3 g4 g5 hw ?_;rintro d m1 ⟨o,hP,rfl,e0,ej⟩;have hbl:Nat.beq lp ln=false:=by cases h:Nat.beq lp ln with
  |false=>rfl
  |true=>exact absurd (Nat.eq_of_beq_eq_true h) hne
 have hbl':Nat.beq ln lp=false:=by cases h:Nat.beq ln lp with
  |false=>rfl
  |true=>exact absurd (Nat.eq_of_beq_eq_true h).symm hne
 refine⟨[(0,lp),(1,ln)],2,⟨nx,bS m lp (.buf k [ob o.w (.own ln 5 0 nd.length) o.bad])⟩,V o,⟨g3, ?_,Nat.le_refl _,g4, ?_,g5, ?_⟩,.inl ⟨rfl,hV o⟩,hK o hP⟩
 ·simp[eR,hbl,hbl'];exact⟨h3,rfl,h4⟩
 ·intro i l h;rcases List.mem_cons.1 h with h|h
  ·obtain⟨rfl,rfl⟩:=Prod.mk.inj h;exact .inl (.head _)
  ·obtain⟨rfl,rfl⟩:=Prod.mk.inj (List.mem_singleton.1 h);exact .inl (.tail _ (.head _))
 ·intro l bb h;simp only at h;rw[br]at h;split at h
  ·rename_i e;subst e;obtain rfl:=Option.some.inj h;exact .inl ⟨0,_,.head _,e0,rfl,.inr (.inl (by simp only[pX,hob _ 1 ln o.w nd.length o.bad (show kD 0 [(0,l),(1,ln)] 1=some ln from rfl)]))⟩
  ·rename_i hlp;by_cases hl2:l=ln
   ·subst hl2;rw[h2]at h;obtain rfl:=Option.some.inj h;exact .inl ⟨1,_,.tail _ (.head _),ej,rfl,.inl ⟨rfl,AY _⟩⟩
   ·refine .inr ⟨by simp only[jM,if_neg (fun e=>hlp (Eq.symm e)),if_neg (fun e=>hl2 (Eq.symm e))],fun i hi=>?_,h⟩;rcases List.mem_cons.1 hi with hi|hi
    ·exact hlp (Prod.mk.inj hi).1
    ·exact hl2 (Prod.mk.inj (List.mem_singleton.1 hi)).1
def mw {a b:Nat}(h:a≠b):Nat.beq a b=false:=by
 cases h2:Nat.beq a b with
 |false=>rfl
 |true=>exact absurd (Nat.eq_of_beq_eq_true h2) h
def uD {m:List (Nat×aW)}{l lw:Nat}(h:l≠lw):dy (bO m lw) l=match look m l with
 |some (.bld (some l2) _ _)=>bO (bO m lw) l2
 |_=>bO m lw:=by
 haveI:bX:={gd:=fun _=>True,le:=fun _ _ _ _ _=>trivial}
 unfold dy;rw[dS,if_neg h];cases look m l with
 |none=>rfl
 |some b=>cases b with
  |bld o n u=>cases o<;>rfl
  |_=>rfl
def Dm {ws:List ah}{s:ah}{l lw:Nat}(hmix:P.follows .mixedOrders=true)(hC:Em P ν bC fid af)(hnp:2=af.np)
  (h1:nY m l s) (h2:look m lw=some (.buf 1 (ws.map D.str))) (h3:l<nx) (h4:lw<nx) (hK:K (.tup []) ⟨nx+1,my (bO m lw) l nx (s++bw ws)⟩)
  (hw:∀m0,nY m0 0 s→look m0 1=some (.buf 1 (ws.map D.str))→bB ((under t key u).at 3) af.body (oe af (fun d m=>d=.tup []∧look m 0=some (.bld (some 9) (s++bw ws).length true)∧look m 9=some (.row (s++bw ws)))) (eI af [.ptr 0 2 0 0,.own 1 1 0 ws.length]) ⟨3,m0⟩):
  ml P ν bC (under t key u) fid [.ptr l 2 0 0,.own lw 1 0 ws.length] ⟨nx,m⟩ K:=by
 have hlw:l≠lw:=by
  rintro rfl;rcases h1 with⟨u,h,_⟩|⟨l2,u,h,_⟩<;>rw[h2]at h<;>cases h
 have hnl:aI (ws.map D.str)=true:=bt (fun _=>rfl) _;have b1:=mw hlw;have b2:=mw (Ne.symm hlw);have b3:=mw (show l≠nx by omega);have b4:=mw (show nx≠l by omega)

 have fin:∀(σi:List (Nat×Nat)) (m0:List (Nat×aW)),eR 0 3 σi=true→(l,0)∈σi→(∀l i,(l,i)∈σi→look m l≠none)→(∀i b,look m0 i=some b→∃l b',(l,i)∈σi∧look m l=some b'∧nZ 0 σi b' b)→
   (∀l' b,look (dy (bO m lw) l) l'=some b→l'≠l→look m l'=some b∧∀i,(l',i)∉σi)→∀d m1,(d=.tup []∧look m1 0=some (.bld (some 9) (s++bw ws).length true)∧look m1 9=some (.row (s++bw ws)))→
   ∃(σo:List (Nat×Nat)) (q1:Nat) (st':St) (vd':D),Fr σi σo 3 q1 m0 m1 ⟨nx,m⟩ st'∧GU 0 σo d vd'∧K vd' st':=by
  rintro σi m0 oki hm hlt hm0 hoff d m1 ⟨rfl,e0,e9⟩;refine⟨[(0,l),(9,nx)],10,⟨nx+1,my (bO m lw) l nx (s++bw ws)⟩,.tup [],⟨oki, ?_,Nat.le_succ _,hlt, ?_,hm0, ?_⟩,.inl ⟨rfl,rfl⟩,hK⟩
  ·simp[eR,b3,b4];exact⟨by omega,rfl⟩
  ·intro i l' h;rcases List.mem_cons.1 h with h|h
   ·obtain⟨rfl,rfl⟩:=Prod.mk.inj h;exact .inl hm
   ·obtain⟨rfl,rfl⟩:=Prod.mk.inj (List.mem_singleton.1 h);exact .inr (Nat.le_refl _)
  ·intro l' bb h;simp only[my,look]at h;split at h
   ·rename_i e;subst e;obtain rfl:=Option.some.inj h;exact .inl ⟨9,_,.tail _ (.head _),e9,rfl⟩
   ·rename_i hln;rw[br]at h;split at h
    ·rename_i e;subst e;obtain rfl:=Option.some.inj h;exact .inl ⟨0,_,.head _,e0,⟨nx,rfl,rfl⟩,rfl,rfl⟩
    ·rename_i hl;obtain⟨g1,g2⟩:=hoff l' bb h hl;exact .inr ⟨by simp only[jM,if_neg (fun e=>hl (Eq.symm e)),if_neg hln],g2,g1⟩
 rcases h1 with⟨u,h1,rfl⟩|⟨l2,u,h1,h5⟩
 ·have g4:∀l' i,(l',i)∈[(l,0),(lw,1)]→look m l'≠none:=by
   intro l' i h;rcases List.mem_cons.1 h with h|h
   ·obtain⟨rfl,rfl⟩:=Prod.mk.inj h;rw[h1];simp
   ·obtain⟨rfl,rfl⟩:=Prod.mk.inj (List.mem_singleton.1 h);rw[h2];simp
  have g3:eR 0 3 [(l,0),(lw,1)]=true:=by simp[eR,b1,b2];rfl
  have g5:∀i b,look [(0,aW.bld none 0 u),(1,.buf 1 (ws.map D.str))] i=some b→∃l' b',(l',i)∈[(l,0),(lw,1)]∧look m l'=some b'∧nZ 0 [(l,0),(lw,1)] b' b:=by
   intro i b h;simp only[look]at h;split at h
   ·rename_i e;subst e;obtain rfl:=Option.some.inj h;exact⟨l,_,.head _,h1,rfl,rfl,rfl⟩
   ·split at h
    ·rename_i e;subst e;obtain rfl:=Option.some.inj h;exact⟨lw,_,.tail _ (.head _),h2,rfl,.inl ⟨rfl,hnl⟩⟩
    ·cases h
  refine yT (σi:=[(l,0),(lw,1)]) (cs:=[.ptr 0 2 0 0,.own 1 1 0 ws.length]) (fun q=>aO t key _ q) hmix hC rfl ?_ hnp g3 g4 g5 (hw _ (.inl ⟨u,rfl,rfl⟩) rfl) (fin _ _ g3 (.head _) g4 g5 ?_)
  ·intro i hi
   match i,hi with
   |0,_=>exact .inr (.inl (by simp[rQ,Ed,kD]))
   |1,_=>exact .inr (.inl (by simp[rQ,Ed,kD,b1]))
  ·intro l' b h hl;rw[uD hlw]at h;simp only[h1]at h;rw[dS]at h;split at h
   ·cases h
   ·rename_i hw';refine⟨h,fun i hi=>?_⟩;rcases List.mem_cons.1 hi with hi|hi
    ·exact hl (Prod.mk.inj hi).1
    ·exact hw' (Prod.mk.inj (List.mem_singleton.1 hi)).1
 ·have c1:l2≠l:=by rintro rfl;rw[h1]at h5;cases h5
  have c2:l2≠lw:=by rintro rfl;rw[h2]at h5;cases h5
  have d1:=mw c1;have d2:=mw c2;have d3:=mw (Ne.symm c1);have d4:=mw (Ne.symm c2);have g4:∀l' i,(l',i)∈[(l,0),(lw,1),(l2,2)]→look m l'≠none:=by
   intro l' i h;rcases List.mem_cons.1 h with h|h
   ·obtain⟨rfl,rfl⟩:=Prod.mk.inj h;rw[h1];simp
   ·rcases List.mem_cons.1 h with h|h
    ·obtain⟨rfl,rfl⟩:=Prod.mk.inj h;rw[h2];simp
    ·obtain⟨rfl,rfl⟩:=Prod.mk.inj (List.mem_singleton.1 h);rw[h5];simp
  have g3:eR 0 3 [(l,0),(lw,1),(l2,2)]=true:=by simp[eR,b1,b2,d1,d2,d3,d4];exact⟨⟨rfl,rfl⟩,rfl⟩
  have g5:∀i b,look [(0,aW.bld (some 2) s.length u),(1,.buf 1 (ws.map D.str)),(2,.row s)] i=some b→∃l' b',(l',i)∈[(l,0),(lw,1),(l2,2)]∧look m l'=some b'∧nZ 0 [(l,0),(lw,1),(l2,2)] b' b:=by
   intro i b h;simp only[look]at h;split at h
   ·rename_i e;subst e;obtain rfl:=Option.some.inj h;exact⟨l,_,.head _,h1,⟨2,by simp[kD,d3,d4],rfl⟩,rfl,rfl⟩
   ·split at h
    ·rename_i e;subst e;obtain rfl:=Option.some.inj h;exact⟨lw,_,.tail _ (.head _),h2,rfl,.inl ⟨rfl,hnl⟩⟩
    ·split at h
     ·rename_i e;subst e;obtain rfl:=Option.some.inj h;exact⟨l2,_,.tail _ (.tail _ (.head _)),h5,rfl⟩
     ·cases h
  refine yT (σi:=[(l,0),(lw,1),(l2,2)]) (cs:=[.ptr 0 2 0 0,.own 1 1 0 ws.length]) (fun q=>aO t key _ q) hmix hC rfl ?_ hnp g3 g4 g5 (hw _ (.inr ⟨2,u,rfl,rfl⟩) rfl) (fin _ _ g3 (.head _) g4 g5 ?_)
  ·intro i hi
   match i,hi with
   |0,_=>exact .inr (.inl (by simp[rQ,Ed,kD]))
   |1,_=>exact .inr (.inl (by simp[rQ,Ed,kD,b1]))
  ·intro l' b h hl;rw[uD hlw]at h;simp only[h1]at h;rw[dS]at h;split at h
   ·cases h
   ·rename_i hw2;rw[dS]at h;split at h
    ·cases h
    ·rename_i hw';refine⟨h,fun i hi=>?_⟩;rcases List.mem_cons.1 hi with hi|hi
     ·exact hl (Prod.mk.inj hi).1
     ·rcases List.mem_cons.1 hi with hi|hi
      ·exact hw' (Prod.mk.inj hi).1
      ·exact hw2 (Prod.mk.inj (List.mem_singleton.1 hi)).1
end
end Go.Abs
end
namespace Go.Abs
def sc {α:Type}{f:α→D}(hf:∀x y,f x=f y↔x=y):∀a b:List α,a.map f=b.map f↔a=b
 |[],[]=>by simp
 |[],_::_=>by simp
 |_::_,[]=>by simp
 |x::a,y::b=>by simp only[List.map_cons,List.cons.injEq,hf,sc hf a b]
def HO (a b:Nat):((a:Nat):Int)=(b:Nat)↔a=b:=by omega
def iU8 (x y:UInt8):((x.toNat:Nat):Int)=(y.toNat:Nat)↔x=y:=(HO _ _).trans UInt8.toNat_inj
def Db (a b:List ah):a.map D.str=b.map D.str↔a=b:=sc (fun _ _=>by simp) a b
def iInt (a b:List Int):a.map (D.int .i64)=b.map (D.int .i64)↔a=b:=sc (fun _ _=>by simp) a b
def iByt (a b:ah):(a.map fun c=>D.int .u8 c.toNat)=(b.map fun c=>D.int .u8 c.toNat)↔a=b:=sc (fun x y=>by rw[D.int.injEq,iU8];simp) a b
def iVer (a b:df):df.D a=df.D b↔a=b:=by cases a;cases b;simp[df.D]
def Jk (a b:aX):aX.D a=aX.D b↔a=b:=by cases a;cases b;simp[aX.D,Db]
def E7 (a b:List aX):a.map aX.D=b.map aX.D↔a=b:=sc Jk a b
def Jj (a b:aT):aT.D a=aT.D b↔a=b:=by cases a;cases b;simp[aT.D,E7]
def E6 (a b:List aT):a.map aT.D=b.map aT.D↔a=b:=sc Jj a b
def Ny (a b:fE):fE.D a=fE.D b↔a=b:=by cases a;cases b;simp[fE.D]
def Jg (a b:List fE):a.map fE.D=b.map fE.D↔a=b:=sc Ny a b
def Ji (a b:bj):bj.D a=bj.D b↔a=b:=by cases a;cases b;simp[bj.D,Db]
def E5 (a b:List bj):a.map bj.D=b.map bj.D↔a=b:=sc Ji a b
def iRec (a b:Rec):Rec.D a=Rec.D b↔a=b:=by
 obtain⟨n,⟨v1,v2,v3,v4,v5⟩,x,y,z⟩:=a;obtain⟨n',⟨w1,w2,w3,w4,w5⟩,x',y',z'⟩:=b;simp[Rec.D,E6,Jg,E5,and_assoc]
def Nz (a b:b7):b7.D a=b7.D b↔a=b:=by
 obtain⟨n,p,v1,v2,v3,v4,v5⟩:=a;obtain⟨n',p',w1,w2,w3,w4,w5⟩:=b;simp[b7.D]
def Jh (a b:List b7):a.map b7.D=b.map b7.D↔a=b:=sc Nz a b
def iNd (a b:Nd):Nd.D a=Nd.D b↔a=b:=by cases a;cases b;simp[Nd.D]
def NA (a b:List Nd):a.map Nd.D=b.map Nd.D↔a=b:=sc iNd a b
def Kx (a b:Alt):pe a=pe b↔a=b:=by simp[pe,Jh]
def iRng (a b:xd):ik a=ik b↔a=b:=by simp[ik,sc Kx]
def Nx (a b:List Alt):a.map pe=b.map pe↔a=b:=sc Kx a b
def iMrk (a b:I5):j3 a=j3 b↔a=b:=by simp[j3,NA]
def iLd (a b:Ld):Ld.D a=Ld.D b↔a=b:=by cases a;cases b;simp[Ld.D,Db,HO]
def iPr (w w':List ah)(x x':D)(b b':Bool):ek w x b=ek w' x' b'↔w=w'∧x=x'∧b=b':=by simp[ek,Db]
def bE {A:RT→Prop}(h:A (fun ds d=>A fun ds' d'=>ds'=ds→d=d'):=by
 (repeat' first|apply And.intro|intro _)
 all_goals rename_i e
 all_goals (try simp only[List.cons.injEq,D.str.injEq,D.int.injEq,D.bool.injEq,D.sl.injEq,D.ref.injEq,D.agg.injEq,Db,iInt,iByt,iVer,Jk,E7,Jj,E6,Ny,Jg,Ji,E5,iRec,Nz,Jh,iNd,NA,Kx,iRng,Nx,iMrk,iPr,iU8,UInt8.toNat_inj,HO,and_true,true_and,reduceCtorEq,and_false,false_and]at e)
 all_goals first|rfl|(simp only[e];done)|simp_all):MQ (xD A):=Kk h
def Hr {A:FT→Prop}(h:A (fun d ds v s=>A fun d' ds' v' s'=>d'=d→ds'=ds→v=v'∧s=s'):=by
 (repeat' first|apply And.intro|intro _)
 all_goals rename_i e' e
 all_goals (try simp only[List.cons.injEq,D.str.injEq,D.int.injEq,D.bool.injEq,D.sl.injEq,iLd,Db,iU8,UInt8.toNat_inj,HO,and_true,true_and]at e e')
 all_goals first|rfl|(simp only[e,e'];done)|simp_all):sX (ku A):=Hs h
end Go.Abs
section
namespace Go.Abs
open Go
end Go.Abs
end
section
namespace Go.Abs
open Go
end Go.Abs
end
namespace Go.Abs
end Go.Abs
section
namespace Go.Abs
open Go
end Go.Abs
end
namespace Go.Abs
end Go.Abs
section
namespace Go.Abs
section
variable [bX] {P:Program} {ν:List (Nat×Nat)} {bC:List Nat} {t:List (Nat×nS)} {fid n key u k:Nat} {af:aB} {VZ:List D} {nx:Nat} {m:List (Nat×aW)} {K:D→St→Prop}
def DZ {a:D}{k q i:Nat}{es:List D}{m1:List (Nat×aW)}(ha:a.aL=true)(hes:aI es=true)(hmix:P.follows .mixedOrders=true)(hC:Em P ν bC fid af)(hnp:1=af.np)
  (hl:look m1 q=some (.buf k es)) (hK:K (.own nx k 0 i) ⟨nx+1,(nx,.buf k es)::m⟩) (hw:bB ((under t key u).at 0) af.body (oe af (One (.own q k 0 i) m1)) (eI af [a]) ⟨0,[]⟩):ml P ν bC (under t key u) fid [a] ⟨nx,m⟩ K:=by
 refine yT (σi:=[]) (m0:=[]) (cs:=[a]) (fun q=>aO t key u q) hmix hC rfl ?_ hnp rfl (fun _ _ h=>by cases h) (fun _ _ h=>by cases h) hw ?_
 ·intro i hi
  match i,hi with
  |0,_=>exact .inl ⟨rfl,ha⟩
 ·rintro d m2 ⟨rfl,rfl⟩;refine⟨[(q,nx)],q+1,_,.own nx k 0 i,⟨rfl, ?_,Nat.le_succ _,(fun _ _ h=>by cases h), ?_,(fun _ _ h=>by cases h), ?_⟩,.inr (.inl (by simp[rQ,Ed,kD])),hK⟩
  ·simp[eR]
  ·intro i l h;obtain⟨rfl,rfl⟩:=Prod.mk.inj (List.mem_singleton.1 h);exact .inr (Nat.le_refl _)
  ·intro l bb h;simp only[look]at h;split at h
   ·rename_i e;subst e;obtain rfl:=Option.some.inj h;exact .inl ⟨q,_,.head _,hl,rfl,.inl ⟨rfl,hes⟩⟩
   ·rename_i hn;exact .inr ⟨by simp only[jM,if_neg hn],(fun _ h=>by cases h),h⟩
end
end Go.Abs
end
namespace Go.Abs
def gh (l:List Int)(i:Int):Int:=if i<0∨(l.length:Int)≤i then 0 else l[i.toNat]!
def Ip {v n:Int}(h:0<n)(h2:¬v.tmod n<0):v.tmod n=v%n:=by
 rw[Int.tmod_eq_emod];rw[Int.tmod_eq_emod]at h2;have h3:=Int.emod_nonneg v (show n≠0 by omega);have h4:=Int.emod_lt_of_pos v h;split at h2<;>split<;>first|omega|contradiction
def Io {v n:Int}(h:0<n)(h2:v.tmod n<0):v.tmod n+n=v%n:=by
 rw[Int.tmod_eq_emod]at h2⊢;have h3:=Int.emod_nonneg v (show n≠0 by omega);have h4:=Int.emod_lt_of_pos v h;have h5:(n.natAbs:Int)=n:=by omega
 split at h2<;>split<;>first|omega|contradiction
def cP (l:List Int)(i n:Int):Int:=gh l i%n
def cr (l:List Int)(i n:Int)(h:0<n):0≤cP l i n∧cP l i n<n:=⟨Int.emod_nonneg _ (by omega),Int.emod_lt_of_pos _ h⟩
def jz (v n:Int)(h:0<n):0≤v%n∧v%n<n:=⟨Int.emod_nonneg _ (by omega),Int.emod_lt_of_pos _ h⟩
def pz {α:Type} [Inhabited α]{q:α→D}(xs:List α){j:Nat}(h:j<xs.length):cut (xs.map q) (j*1) 1 false=q xs[j]! :=by
 show(xs.map q).getD (j*1) .any=_;rw[Nat.mul_one];exact getD_map h
def AQ {α:Type} [Inhabited α]{q:α→D}(xs:List α){j n:Nat}(h:j<xs.length)(hn:(1==n)=false):mf (.agg (xs.map q)) n 1 (0+j*1) false=q xs[j]! :=by
 have hc:(D.agg (xs.map q)).cells=xs.map q:=by
  rfl
 unfold mf;rw[hn,hc,Nat.zero_add];exact pz xs h
def FA:List ah:=[[97,112,112],[98],[99],[100],[101,45,50]]
def cI (n:Int):ah:=FA[(n%5).toNat]!
def IQ:List ah:=[[120],[121],[122],[119,95,49]]
def gR (n:Int):ah:=IQ[(n%4).toNat]!
def A5:List Int:=[9,7,6,3,1,2]
def r8 (l:List Int)(i:Int):b7:=⟨A5[(cP l i 6).toNat]!,3,⟨cP l (i+1) 3,cP l (i+2) 2,0,[],[]⟩⟩
def mN (l:List Int)(i:Int):ah:=if(r8 l i).op=9 then [42]else cV (r8 l i)
def vX:List ah:=[[111,115],[97,114,99,104],[97,98,105]]
def CN:List ah:=[[32,61,32],[32,33,61,32]]
def gP (l:List Int)(i:Int):ah:=if 2<cP l i 6 then []else vX[(cP l i 6).toNat]! ++CN[(cP l (i+1) 2).toNat]! ++gR (1+cP l (i+1) 3)
def uS:List ah:=[[120],[121]]
def kr (l:List Int)(i:Int)(alone:Bool):List ah:=if alone=true∧2<cP l (i+5) 5 then uS.take (cP l (i+5) 5-2).toNat else []
def gQ (l:List Int)(i own:Int)(alone:Bool):aX:=⟨cI (own+1+cP l i 4),mN l (i+1),kr l i alone,decide (cP l (i+4) 3=0)⟩
def dm (l:List Int)(i:Int):Nat:=if cP l i 5=1 then 2 else 1
def oF (l:List Int)(i own:Int)(k:Nat):List aX:=(List.range k).map fun(k:Nat)=>gQ l (i+1+6*(k:Nat)) own (decide ((dm l i:Int)=1))
def dQ (l:List Int)(i own:Int):aT:=⟨oF l i own (dm l i),gP l (i+14),if cP l (i+16) 4=1 then gR (gh l (i+17))else []⟩
def C0 (l:List Int)(i own:Int)(k:Nat):oF l i own (k+1)=oF l i own k++[gQ l (i+1+6*(k:Nat)) own (decide ((dm l i:Int)=1))]:=by
 unfold oF;rw[List.range_succ,List.map_append];rfl
def tI (l:List Int)(i:Int):dm l i≤2:=by
 unfold dm;split<;>omega
def ie (s:ah):List ah→Nat
 |[]=>0
 |a::r=>if Op.bytesLess a s=true then ie s r+1 else 0
def dL (l:List ah)(s:ah):List ah:=if ie s l<l.length∧l[ie s l]! =s then l else l.take (ie s l)++[s]++l.drop (ie s l)
def xM (s:ah):∀l:List ah,ie s l≤l.length
 |[]=>Nat.le_refl _
 |a::r=>by
  have:=xM s r;simp only[ie,List.length_cons];split<;>omega
def xN (s:ah):∀(l:List ah)(i:Nat),i<ie s l→Op.bytesLess l[i]! s=true
 |[],i,h=>by simp[ie]at h
 |a::r,i,h=>by
  simp only[ie]at h;split at h
  ·rename_i ha;cases i with
   |zero=>simpa using ha
   |succ i=>simpa using xN s r i (by omega)
  ·omega
def qV (s:ah):∀l:List ah,ie s l<l.length→Op.bytesLess l[ie s l]! s=false
 |[],h=>by simp at h
 |a::r,h=>by
  simp only[ie]at h⊢;split
  ·rename_i ha;rw[if_pos ha]at h;simpa using qV s r (by simpa using h)
  ·rename_i ha;simpa using ha
def Ar (n b:Int):Int:=IntKind.wrap .i64 (((BitVec.ofInt 64 (n.fdiv (2^(min b.toNat 64))))&&&(BitVec.ofInt 64 1)).toNat)
def jq:List ah:=[Jb,[120],[121],[122]]
def EW (r:Rec)(n:Int)(of:List ah)(j:Nat):List ah:=if ¬r.needs[j]!.option=[]∧Ar n (3+(j:Nat))=1 then dL of ([63]++r.needs[j]!.option)else of
def Jd (r:Rec)(n:Int)(of:List ah)(j:Nat):List ah:=if r.needs[j]!.any.length=1∧Ar n (5+(j:Nat))=1 then dL of (r.needs[j]!.any[0]!.name++[47]++[120])else of
def Je (r:Rec)(n:Int)(of:List ah)(j:Nat):List ah:=Jd r n (EW r n of j) j
def lW (r:Rec)(n:Int)(j:Nat):List ah:=(List.range j).foldl (Je r n) []
def HD (l:List Int)(i:Int)(n:Int)(k:Nat)(of:List ah):List ah:=if(k<3∧Ar n 7=1)∧¬gh l (i+(k:Nat)+1)%3=0 then dL of jq[k+1]! else of
def Ko (l:List Int)(i:Int)(r:Rec)(k:Nat):Option bj:=if gh l (i+(k:Nat))%3=0 then none else some ⟨jq[k]!,HD l i (gh l (i+(k:Nat))) k (lW r (gh l (i+(k:Nat))) (min r.needs.length 2))⟩
def EX (l:List Int)(i:Int)(r:Rec)(k:Nat):List bj:=(List.range k).filterMap (Ko l i r)
def fh (l:List Int)(i:Int)(r:Rec):List bj:=EX l i r 4
def kP (r:Rec)(n:Int)(j:Nat):lW r n (j+1)=Je r n (lW r n j) j:=by
 unfold lW;rw[List.range_succ,List.foldl_append];rfl
def Kq {l:List Int}{i:Int}{r:Rec}{k:Nat}(h:gh l (i+(k:Nat))%3=0):EX l i r (k+1)=EX l i r k:=by
 unfold EX;rw[List.range_succ,List.filterMap_append];simp[Ko,h]
def BM {l:List Int}{i:Int}{r:Rec}{k:Nat}{of:List ah}(h:¬gh l (i+(k:Nat))%3=0)(ho:HD l i (gh l (i+(k:Nat))) k (lW r (gh l (i+(k:Nat))) (min r.needs.length 2))=of):EX l i r (k+1)=EX l i r k++[⟨jq[k]!,of⟩]:=by
 unfold EX;rw[List.range_succ,List.filterMap_append];simp[Ko,h,ho]
def m4 (l:List ah)(s:ah):(dL l s).length≤l.length+1:=by
 unfold dL;split
 ·omega
 ·simp only[List.length_append,List.length_take,List.length_drop,List.length_cons,List.length_nil];omega
def HB (r:Rec)(n:Int)(of:List ah)(j:Nat):(EW r n of j).length≤of.length+1:=by
 unfold EW;split
 ·exact m4 _ _
 ·omega
def HC (r:Rec)(n:Int)(of:List ah)(j:Nat):(Jd r n of j).length≤of.length+1:=by
 unfold Jd;split
 ·exact m4 _ _
 ·omega
def xr (r:Rec)(n:Int):∀j,(lW r n j).length≤2*j
 |0=>by simp[lW]
 |j+1=>by
  have h1:=xr r n j;have h2:=HB r n (lW r n j) j;have h3:=HC r n (EW r n (lW r n j) j) j;rw[kP,Je];omega
def jt (n:Int):(cI n).length≤3:=by
 obtain⟨h1,h2⟩:=jz n 5 (by decide);unfold cI;have:(n%5).toNat<5:=by omega
 revert this;generalize (n%5).toNat=k;revert k;decide
def qH (n:Int):(gR n).length≤3:=by
 obtain⟨h1,h2⟩:=jz n 4 (by decide);unfold gR;have:(n%4).toNat<4:=by omega
 revert this;generalize (n%4).toNat=k;revert k;decide
def Df (k:Nat)(h:k<3):(vX[k]!).length≤4:=by
 revert k;decide
def EL (k:Nat)(h:k<2):(CN[k]!).length≤4:=by
 revert k;decide
def Hu (l:List Int)(i:Int):(r8 l i).v.sm:=⟨by simp[r8],by simp[r8]⟩
end Go.Abs
section
namespace Go.Abs
open Go
def AO:aB:=⟨2,5,[⟨2,none⟩],cv,(sq (r1 [gm bF] 2 0) (sq (r1 [gm s0,gm s1,gn (.bin .rem l0 l1),gm l2] 3 3) (sq (sq (r1 [gm s3,aV l0 bF] 4 1) (.cond s4 (r1 [gm s3,gm s1,ar l0 l1,gm l2] 3 3) .skip)) (sq (r1 [gm s3,gm l0] 2 1) .ret))))⟩
def w478 {Γ:Ctx}(hm:(Γ.at 0).bq)  (v:Int)(n:Int)  (hp0:0<n∧n≤9223372036854775807):dX Γ AO (.int .i64 (v%n)) [.int .i64 v,.int .i64 n]:=by
 show bB _ _ _ [⟨_,_⟩,⟨_,_⟩,_,_,_] _;refine ak ?_;refine aQ ?_;refine B8 (v.tmod n) (hn:=by intro _;omega) (hb:=fun _=>rfl) ?_;have ht:=Bo v n (by omega);refine bd ?_;refine cH (fun hc0=>?_) fun hc0=>?_
 ·refine gG ?_;refine il ?_;exact Io hp0.1 hc0
 refine aP ?_;refine il ?_;exact Ip hp0.1 hc0
def Eh (Γ:Ctx):Prop:=∀(v:Int)(n:Int),(0<n∧n≤9223372036854775807)→Γ.pre 478 [.int .i64 v,.int .i64 n]∧Γ.val 478 [.int .i64 v,.int .i64 n]=.int .i64 (v%n)
def H0:aB:=⟨2,4,[⟨2,none⟩],cv,(sq (r1 [gm bF] 2 0) (sq (sq (r1 [gm s1,aV l0 bF,gm l1,fj 2 s1,fj 2 s0,cb 2 (.len l4),cb 2 (yr l3 l5),eZ l2 l6] 3 7) (.cond s3 (sq (r1 [gm bF] 2 0) .ret) .skip)) (sq (r1 [gm s0,gm s1,ga 1 l0 l1,gd l2,gm l3] 2 4) .ret)))⟩
def w479 {Γ:Ctx}(hm:(Γ.at 0).bq)  (l:List Int)(i:Int)   :dX Γ H0 (.int .i64 (gh l i)) [.sl 1 (l.map (D.int .i64)),.int .i64 i]:=by
 show bB _ _ _ [⟨_,_⟩,⟨_,_⟩,_,_] _;refine ak ?_;refine dz ?_;refine lr ?_;refine az ?_;refine cH (fun hc0=>?_) fun hc0=>?_
 ·refine aQ ?_;refine il ?_;simp only[gh];rw[if_pos hc0]
 refine aA ?_;refine Ge ?_;refine aA ?_;refine il ?_;simp only[gh];rw[if_neg (by omega)]
def G5 (Γ:Ctx):Prop:=∀(l:List Int)(i:Int),Γ.pre 479 [.sl 1 (l.map (D.int .i64)),.int .i64 i]∧Γ.val 479 [.sl 1 (l.map (D.int .i64)),.int .i64 i]=.int .i64 (gh l i)
def Dg:aB:=⟨3,4,[⟨3,none⟩],cv,(sq (r1 [gm bF] 3 0) (sq (r1 [gm s0,gm s1,gx 479 [l0,l1] [[.sl 1 [.a]],[.a]],gm s2,gx 478 [l2,l3] je,gm l4] 3 5) .ret))⟩
def w228 {Γ:Ctx}(hm:(Γ.at 0).bq)(h478:Eh Γ)(h479:G5 Γ)(l:List Int)(i:Int)(n:Int)  (hp0:0<n∧n≤9223372036854775807):dX Γ Dg (.int .i64 (cP l i n)) [.sl 1 (l.map (D.int .i64)),.int .i64 i,.int .i64 n]:=by
 show bB _ _ _ [⟨_,_⟩,⟨_,_⟩,⟨_,_⟩,_] _;refine ak ?_;refine aQ ?_;refine aj (hc:=h479 l i) ?_;refine ay ?_;refine aj (hc:=h478 _ n hp0) ?_;refine az ?_;exact il rfl
def Ae (Γ:Ctx):Prop:=∀(l:List Int)(i:Int)(n:Int),(0<n∧n≤9223372036854775807)→Γ.pre 228 [.sl 1 (l.map (D.int .i64)),.int .i64 i,.int .i64 n]∧Γ.val 228 [.sl 1 (l.map (D.int .i64)),.int .i64 i,.int .i64 n]=.int .i64 (cP l i n)
def Dh:aB:=⟨1,2,kC,cv,(sq (r1 [gm cse] 1 0) (sq (r1 [gn (.build [.str [],.str [],.str [],.str [],.str []] [(0,1,(cs [97,112,112])),(1,1,(cs [98])),(2,1,(cs [99])),(3,1,(cs [100])),(4,1,(cs [101,45,50]))]),gm s0,gx 478 [l1,AJ] je,gn (.ixA 5 1 false l0 l2),gm l3] 1 4) .ret))⟩
def w227 {Γ:Ctx}(hm:(Γ.at 0).bq)(h478:Eh Γ)(n:Int)   :dX Γ Dh (.str (cI n)) [.int .i64 n]:=by
 show bB _ _ _ [⟨_,_⟩,_] _;refine ak ?_;refine az ?_;have hr:=jz n 5 (by decide);refine eX (FA.map D.str) ?_;refine ay ?_;refine aj (hc:=h478 n 5 (by decide)) ?_;refine B6 (n%5).toNat (.str FA[(n%5).toNat]!) (hj:=fun _=>by omega) (hb:=fun _=>by omega) (hv:=fun _=>pz FA (by show _<5;omega)) ?_;refine az ?_;exact cz rfl
def JG (Γ:Ctx):Prop:=∀(n:Int),Γ.pre 227 [.int .i64 n]∧Γ.val 227 [.int .i64 n]=.str (cI n)
def Dl:aB:=⟨1,2,kC,cv,(sq (r1 [gm cse] 1 0) (sq (r1 [gn (.build [.str [],.str [],.str [],.str []] [(0,1,(cs [120])),(1,1,(cs [121])),(2,1,(cs [122])),(3,1,(cs [119,95,49]))]),gm s0,gx 478 [l1,uU] je,gn (.ixA 4 1 false l0 l2),gm l3] 1 4) .ret))⟩
def w481 {Γ:Ctx}(hm:(Γ.at 0).bq)(h478:Eh Γ)(n:Int)   :dX Γ Dl (.str (gR n)) [.int .i64 n]:=by
 show bB _ _ _ [⟨_,_⟩,_] _;refine ak ?_;refine az ?_;have hr:=jz n 4 (by decide);refine eX (IQ.map D.str) ?_;refine ay ?_;refine aj (hc:=h478 n 4 (by decide)) ?_;refine B6 (n%4).toNat (.str IQ[(n%4).toNat]!) (hj:=fun _=>by omega) (hb:=fun _=>by omega) (hv:=fun _=>pz IQ (by show _<4;omega)) ?_;refine az ?_;exact cz rfl
def JP (Γ:Ctx):Prop:=∀(n:Int),Γ.pre 481 [.int .i64 n]∧Γ.val 481 [.int .i64 n]=.str (gR n)
def Fl:aB:=⟨2,6,[⟨2,none⟩],cv,(sq (r1 [gm cse] 2 0) (sq (r1 [gn (.build [.int .i64 0,.int .i64 0,.int .i64 0,.int .i64 0,.int .i64 0,.int .i64 0] [(0,1,BR),(1,1,Ky),(2,1,AK),(3,1,kI),(4,1,cd),(5,1,kS)]),gb 6 (.c (.agg [.int .i64 0,.int .i64 0,.int .i64 0,.int .i64 0,.int .i64 0,.int .i64 0])),gt 6 l1 l0] 3 1) (sq (r2 [gm s0,gm s1,gx 228 [l0,l1,AK] [[.sl 1 [.a]],[.a],[.a]],gn (.iaP 6 1 s3 l2),gd l3,gm s0,gm s1,ar l6 cd,gx 228 [l5,l7,kI] [[.sl 1 [.a]],[.a],[.a]],gm s0,gm s1,ar l10 kS,gx 228 [l9,jx,kS] [[.sl 1 [.a]],[.a],[.a]],gn (.build [.int .i64 0,.int .i64 0,.int .i64 0,.str [],.str []] [(0,1,l8),(1,1,kJ)]),gn (.build [.int .i64 0,.int .i64 0,.int .i64 0,.int .i64 0,.int .i64 0,.str [],.str []] [(0,1,l4),(1,1,kI),(2,5,me)]),gb 7 (.c (.agg [.int .i64 0,.int .i64 0,.int .i64 0,.int .i64 0,.int .i64 0,.str [],.str []])),gt 7 nV mV] 4 15) (sq (sq (r1 [gf 0 s4,gd l0,aF l1 BR] 5 2) (.cond s5 (sq (r1 [gm (cs [42])] 2 0) .ret) .skip)) (sq (r1 [gk 7 true s4,gx 482 [l0] Kv,gm l1] 2 2) .ret)))))⟩
def w230 {Γ:Ctx}(hm:(Γ.at 0).bq)(h228:Ae Γ)(h482:Mn Γ)(l:List Int)(i:Int)  (hp0:0≤i∧i≤4000000):dX Γ Fl (.str (mN l i)) [.sl 1 (l.map (D.int .i64)),.int .i64 i]:=by
 show bB _ _ _ [⟨_,_⟩,⟨_,_⟩,_,_,_,_] _;refine ak ?_;refine az ?_;refine eX (A5.map (D.int .i64)) ?_;refine ay ?_;refine aJ (.agg (A5.map (D.int .i64))) (he:=by exact rfl) ?_;refine ax ?_;have hr:=cr l i 6 (by decide);refine ax ?_;refine aj (hc:=h228 l (i) 6 (by decide)) ?_;refine xP (cP l i 6).toNat (hj:=fun _=>by omega) (hb:=fun _=>by omega) ?_;refine cu (v:=.int .i64 A5[(cP l i 6).toNat]!) (hv:=fun _=>AQ A5 (by show _<6;omega) rfl) (ho:=by omega) ?_;refine az ?_;refine aj (hc:=h228 l (i+1) 3 (by decide)) ?_;refine az ?_;refine aj (hc:=h228 l (i+2) 2 (by decide)) ?_;refine bx (df.D (r8 l i).v) ?_;refine bx (b7.D (r8 l i)) ?_;refine ay ?_;refine aJ (b7.D (r8 l i)) (he:=by exact rfl) ?_;refine aA ?_;refine cu (v:=.int .i64 (r8 l i).op) ?_;refine ax ?_;refine cH (fun hc0=>?_) fun hc0=>?_
 ·refine aQ ?_;refine cz ?_;unfold mN;rw[if_pos hc0]
 refine ax ?_;refine cD (d:=b7.D (r8 l i)) ?_;refine aj (hc:=h482 (r8 l i) (Hu l i)) ?_;refine az ?_;refine cz ?_;unfold mN;rw[if_neg hc0]
def JH (Γ:Ctx):Prop:=∀(l:List Int)(i:Int),(0≤i∧i≤4000000)→Γ.pre 230 [.sl 1 (l.map (D.int .i64)),.int .i64 i]∧Γ.val 230 [.sl 1 (l.map (D.int .i64)),.int .i64 i]=.str (mN l i)
def Dj:aB:=⟨2,5,[⟨2,none⟩],cv,(sq (r1 [gm cse] 2 0) (sq (r1 [gm s0,gm s1,gx 228 [l0,l1,AK] [[.sl 1 [.a]],[.a],[.a]],gm l2] 3 3) (sq (sq (r1 [gm s3,dH l0 kS] 4 1) (.cond s4 (sq (r1 [gm cse] 2 0) .ret) .skip)) (sq (r2 [gn (.build [.str [],.str [],.str []] [(0,1,(cs [111,115])),(1,1,(cs [97,114,99,104])),(2,1,(cs [97,98,105]))]),gm s3,gn (.ixA 3 1 false l0 l1),gn (.build [.str [],.str []] [(0,1,(cs [32,61,32])),(1,1,(cs [32,33,61,32]))]),gm s0,gm s1,ar l5 cd,gx 228 [l4,l6,kS] [[.sl 1 [.a]],[.a],[.a]],gn (.ixA 2 1 false l3 l7),ar l2 l8,gm s0,gm s1,ar jx cd,gx 228 [l10,kJ,kI] [[.sl 1 [.a]],[.a],[.a]],ar cd me,gx 481 [mV] cv,ar l9 nV,gm pP] 2 17) .ret))))⟩
def w231 {Γ:Ctx}(hm:(Γ.at 0).bq)(h228:Ae Γ)(h481:JP Γ)(l:List Int)(i:Int)  (hp0:0≤i∧i≤4000000):dX Γ Dj (.str (gP l i)) [.sl 1 (l.map (D.int .i64)),.int .i64 i]:=by
 show bB _ _ _ [⟨_,_⟩,⟨_,_⟩,_,_,_] _;refine ak ?_;refine aQ ?_;refine aj (hc:=h228 l (i) 6 (by decide)) ?_;refine bd ?_;refine aq (fun hc0=>?_) (fun hc0=>?_)
 ·try simp only[iA]at hc0
  refine aQ ?_;refine cz ?_;unfold gP;rw[if_pos hc0]
 simp only[decide_eq_false_iff_not]at hc0;have hr:=cr l i 6 (by decide);have hr2:=cr l (i+1) 2 (by decide);have hr3:=cr l (i+1) 3 (by decide);have hw:=qH (1+cP l (i+1) 3);have hk:=Df (cP l i 6).toNat (by omega);have he:=EL (cP l (i+1) 2).toNat (by omega);refine ax ?_;refine eX (vX.map D.str) ?_;refine ay ?_;refine B6 (cP l i 6).toNat (.str vX[(cP l i 6).toNat]!) (hj:=fun _=>by omega) (hb:=fun _=>by omega) (hv:=fun _=>pz vX (by show _<3;omega)) ?_;refine eX (CN.map D.str) ?_;refine az ?_;refine aj (hc:=h228 l (i+1) 2 (by decide)) ?_;refine B6 (cP l (i+1) 2).toNat (.str CN[(cP l (i+1) 2).toNat]!) (hj:=fun _=>by omega) (hb:=fun _=>by omega) (hv:=fun _=>pz CN (by show _<2;omega)) ?_;refine dc (hb:=fun _=>by omega) ?_;refine az ?_;refine aj (hc:=h228 l (i+1) 3 (by decide)) ?_;refine ay ?_;refine aj (hc:=h481 _) ?_;refine dc (hb:=fun _=>by simp only[List.length_append];omega) ?_;refine az ?_;refine cz ?_;unfold gP;rw[if_neg hc0]
def JI (Γ:Ctx):Prop:=∀(l:List Int)(i:Int),(0≤i∧i≤4000000)→Γ.pre 231 [.sl 1 (l.map (D.int .i64)),.int .i64 i]∧Γ.val 231 [.sl 1 (l.map (D.int .i64)),.int .i64 i]=.str (gP l i)
end Go.Abs
end
section
namespace Go.Abs
open Go
def Dk:aB:=⟨4,8,[⟨4,some (4,true)⟩],[[.a,.a,.sl 1 [.a],.a]],(sq (r1 [gb 4 (.c (.agg [.str [],.str [],.av,.bool false]))] 4 0) (sq (r1 [gm s2,ar l0 cd,gm s0,gm s1,gx 228 [l2,l3,uU] [[.sl 1 [.a]],[.a],[.a]],ar l1 l4,gx 227 [l5] cv,gm s0,gm s1,ar l8 cd,gx 230 [l7,l9] [[.sl 1 [.a]],[.a]],gm s0,gm s1,ar kJ uU,gx 228 [jx,me,kI] [[.sl 1 [.a]],[.a],[.a]],aF mV bF,gn (.build [.str [],.str [],.av,.bool false] [(0,1,l6),(1,1,l10),(3,1,nV)]),gb 4 (.c (.agg [.str [],.str [],.av,.bool false])),gt 4 tP pP] 7 17) (sq (sq (r1 [gm s0,gm s1,ar l1 AJ,gx 228 [l0,l2,AJ] [[.sl 1 [.a]],[.a],[.a]],gm l3] 5 4) (sq (r1 [gm s3,gm l0,gmt 1 s5,cG 1 (du l2 kS),fR l1 l3] 6 4) (.cond s6 (rg [gn (.bsl 1 (.str []) 2 [(0,(cs [120])),(1,(cs [121]))]),gm s5,fI l1 kS,gn (.slA 1 l0 none (some l2)),gf 2 s7,gt 1 l4 l3] []) .skip))) (sq (rg [gk 4 true s7,gt 4 s4 l0] []) .ret))))⟩
def w480 {Γ:Ctx}(hm:(Γ.at 0).bq)(h227:JG Γ)(h228:Ae Γ)(h230:JH Γ)(l:List Int)(i:Int)(own:Int)(alone:Bool)  (hp0:0≤i∧i≤3000000)(hp1:0≤own∧own≤1000000):dX Γ Dk (aX.D (gQ l i own alone)) [.sl 1 (l.map (D.int .i64)),.int .i64 i,.int .i64 own,.bool alone]:=by
 show bB _ _ _ [⟨_,_⟩,⟨_,_⟩,⟨_,_⟩,⟨_,_⟩,_,_,_,_] _;refine ak ?_;refine az ?_;have hr:=cr l i 4 (by decide);refine aA ?_;refine aj (hc:=h228 l (i) 4 (by decide)) ?_;refine ay ?_;refine aj (hc:=h227 (own+1+cP l i 4)) ?_;refine az ?_;refine aj (hc:=h230 l (i+1) (by omega)) ?_;refine az ?_;refine aj (hc:=h228 l (i+4) 3 (by decide)) ?_;refine ay ?_;refine bx (.agg [.str (cI (own+1+cP l i 4)),.str (mN l (i+1)),.av,.bool (decide (cP l (i+4) 3=0))]) ?_;refine ay ?_;refine aJ (.agg [.str (cI (own+1+cP l i 4)),.str (mN l (i+1)),.av,.bool (decide (cP l (i+4) 3=0))]) (he:=by exact rfl) ?_;refine aP ?_;refine aj (hc:=h228 l (i+5) 5 (by decide)) ?_;refine aA ?_;have hr5:=cr l (i+5) 5 (by decide);refine aP ?_;refine cH (fun hc0=>?_) fun hc0=>?_
 ·refine ay ?_;refine cy (uS.map D.str) ?_;refine ax ?_;refine zo (cP l (i+5) 5-2).toNat (hj:=fun _=>by omega) (hb:=fun _=>by omega) ?_;refine ay ?_;refine aJ (.agg [.str (cI (own+1+cP l i 4)),.str (mN l (i+1)),(.own 30 1 0 (cP l (i+5) 5-2).toNat),.bool (decide (cP l (i+4) 3=0))]) (he:=by exact rfl) ?_;refine ay ?_;have hk:(cP l (i+5) 5-2).toNat≤uS.length:=by show _≤2;omega
  refine eu 30 ?_ (he:=by simp only[lX,gI,kH,mL,oE,bO,Nat.reduceEqDiff,if_true,if_false,and_self,true_and,and_true,false_and,and_false,Nat.zero_add,List.length_map,Nat.le_refl,List.drop_zero,aK,reduceCtorEq,List.length_cons,List.length_nil,Nat.reduceAdd,Nat.reduceLeDiff,hk,←List.map_take];exact rfl) (hm:=by simp only[lX,gI,kH,mL,oE,bO,Nat.reduceEqDiff,if_true,if_false,and_self,true_and,and_true,false_and,and_false,Nat.zero_add,List.length_map,Nat.le_refl,List.drop_zero,aK,reduceCtorEq,List.length_cons,List.length_nil,Nat.reduceAdd,Nat.reduceLeDiff,hk,←List.map_take];exact rfl);refine ay ?_;refine cD (d:=(.agg [.str (cI (own+1+cP l i 4)),.str (mN l (i+1)),(.sl 1 ((uS.take (cP l (i+5) 5-2).toNat).map D.str)),.bool (decide (cP l (i+4) 3=0))])) ?_;refine aJ (.agg [.str (cI (own+1+cP l i 4)),.str (mN l (i+1)),(.sl 1 ((uS.take (cP l (i+5) 5-2).toNat).map D.str)),.bool (decide (cP l (i+4) 3=0))]) (he:=by exact rfl) ?_;refine ax ?_;refine cl (?_);simp only[aX.D,gQ,kr];rw[if_pos hc0];rfl
 refine ay ?_;have hf:kr l i alone=[]:=if_neg (by rintro⟨h1,h2⟩;rcases hc0 with h|h;rw[h]at h1;cases h1;exact h h2);refine ma [(0,.buf 4 [.agg [.str [],.str [],.av,.bool false]]),(18,.buf 4 [aX.D (gQ l i own alone)])] (.id ae (.bf ae (.cons (by simp only[aX.D,gQ,hf];exact .ag (.cons (.refl _) (.cons (.refl _) (.cons (.nil 1) (.cons (.refl _) .nil))))) .nil) .nil)) ?_;refine ay ?_;refine cD (d:=(aX.D (gQ l i own alone))) ?_;refine aJ (aX.D (gQ l i own alone)) (he:=by exact rfl) ?_;refine ax ?_;refine cl (?_);rfl
def Mm (Γ:Ctx):Prop:=∀(l:List Int)(i:Int)(own:Int)(alone:Bool),(0≤i∧i≤3000000)→(0≤own∧own≤1000000)→Γ.pre 480 [.sl 1 (l.map (D.int .i64)),.int .i64 i,.int .i64 own,.bool alone]∧Γ.val 480 [.sl 1 (l.map (D.int .i64)),.int .i64 i,.int .i64 own,.bool alone]=aX.D (gQ l i own alone)
end Go.Abs
end
section
namespace Go.Abs
open Go
def Di:aB:=⟨3,10,[⟨3,some (3,true)⟩],[[.sl 4 [.a,.a,.sl 1 [.a],.a],.a,.a]],(sq (r1 [gb 3 (.c (.agg [.av,.str [],.str []]))] 3 0) (sq (r1 [gb 3 (.c (.agg [.av,.str [],.str []]))] 8 0) (sq (r1 [gm cd] 6 0) (sq (sq (r1 [gm s0,gm s1,gx 228 [l0,l1,AJ] [[.sl 1 [.a]],[.a],[.a]],aF l2 cd] 4 3) (.cond s4 (r1 [gm kS] 6 0) .skip)) (sq (sq (r1 [gm bF] 5 0) (.block 0 (.loop (sq (sq (r1 [gm s5,gm s6,aV l0 l1] 7 2) (ir s7 0)) (sq (.block 1 (rt [gf 0 s8,gd l0,gm s0,gm s1,ar l3 cd,gm s5,gn (.bin .mul AK l5),ar l4 l6,gm s2,gm s6,aF l9 cd,gx 480 [l2,l7,l8,l10] [[.sl 1 [.a]],[.a],[.a],[.a]],gn (.bsl 4 (.agg [.str [],.str [],.av,.bool false]) 1 [(0,jx)]),gn (.app 4 l1 kJ),gf 0 s8,gt 1 mV me] [])) (r1 [gm s5,ar l0 cd,gm l1] 5 2)))))) (sq (rg [gm s0,gm s1,ar l1 (i6 14),gx 231 [l0,l2] [[.sl 1 [.a]],[.a]],gf 1 s8,gt 1 l4 l3] []) (sq (sq (r1 [gm s0,gm s1,ar l1 (i6 16),gx 228 [l0,l2,uU] [[.sl 1 [.a]],[.a],[.a]],aF l3 cd] 9 4) (.cond s9 (rg [gm s0,gm s1,ar l1 (i6 17),gx 479 [l0,l2] [[.sl 1 [.a]],[.a]],gx 481 [l3] cv,gf 2 s8,gt 1 l5 l4] []) .skip)) (sq (rg [gk 3 true s8,gt 3 s3 l0] []) .ret))))))))⟩
def w229 {Γ:Ctx}(hm:(Γ.at 0).bq)(h228:Ae Γ)(h231:JI Γ)(h479:G5 Γ)(h480:Mm Γ)(h481:JP Γ)(l:List Int)(i:Int)(own:Int)  (hp0:0≤i∧i≤2000000)(hp1:0≤own∧own≤1000000):dX Γ Di (aT.D (dQ l i own)) [.sl 1 (l.map (D.int .i64)),.int .i64 i,.int .i64 own]:=by
 show bB _ _ _ [⟨_,_⟩,⟨_,_⟩,⟨_,_⟩,_,_,_,_,_,_,_] _;refine ak ?_;refine iP ?_;refine aj (hc:=h228 l (i) 5 (by decide)) ?_;refine ax ?_;refine o9 hm (ι:=Unit) (fun _=>[⟨true,.sl 1 (l.map (D.int .i64))⟩,⟨true,.int .i64 i⟩,⟨true,.int .i64 own⟩,⟨true,.ptr 0 3 0 0⟩,.un,.un,⟨true,.int .i64 (dm l i:Nat)⟩,.un,⟨true,.ptr 1 3 0 0⟩,.un]) (fun _=>[(0,.buf 3 [.agg [.av,.str [],.str []]]),(1,.buf 3 [.agg [.av,.str [],.str []]])]) 20 (fun _=>True) ?_ ?_
 ·refine gv (fun hc0=>?_) fun hc0=>?_
  ·refine aA ?_;have hmn:((dm l i:Nat):Int)=2:=by simp[dm,hc0]
   exact⟨(),trivial,(aN.to [(0,0),(1,1)] ae ae (by repeat(first|exact c7.nil|refine c7.un ?_|refine c7.eq ae ?_|refine c7.nl (congrArg (D.int .i64) hmn) ae ?_)) zn)⟩
  refine ax ?_;have hmn:((dm l i:Nat):Int)=1:=by simp[dm,hc0]
  exact⟨(),trivial,(aN.to [(0,0),(1,1)] ae ae (by repeat(first|exact c7.nil|refine c7.un ?_|refine c7.eq ae ?_|refine c7.nl (congrArg (D.int .i64) hmn) ae ?_)) zn)⟩
 ·rintro _-
  have hml:=tI l i;refine aA ?_;refine bp hm (ι:=(Nat×List aX)) (fun p=>[⟨true,.sl 1 (l.map (D.int .i64))⟩,⟨true,.int .i64 i⟩,⟨true,.int .i64 own⟩,⟨true,.ptr 0 3 0 0⟩,.un,⟨true,.int .i64 (p.1:Nat)⟩,⟨true,.int .i64 (dm l i:Nat)⟩,.un,⟨true,.ptr 1 3 0 0⟩,.un]) (fun p=>[(0,.buf 3 [.agg [.av,.str [],.str []]]),(1,.buf 3 [(.agg [.own 2 4 0 p.2.length,.str [],.str []])]),(2,.buf 4 (p.2.map aX.D))]) 40 (fun p=>p.1≤dm l i∧p.2=oF l i own p.1) (fun p=>dm l i-p.1) (0,[]) ⟨by dsimp only;omega,rfl⟩ (aN.to [(0,0),(1,1)] ae ae lO (by(first|refine aC.de ae ae bY ?_|refine aC.mj ae ae ae ?_|refine aC.qb ae ae ae ae ?_);refine aC.ni 1 ae ae (by exact⟨_,_,rfl,⟨_,rfl,⟨_,_,rfl,Or.inr ⟨_,_,_,rfl⟩,⟨_,_,rfl,⟨rfl,rfl⟩,⟨_,_,rfl,⟨rfl,rfl⟩,rfl⟩⟩⟩⟩,rfl⟩) ?_;refine aC.mt ae ae ae ae ?_;exact aC.nil)) ?_;rintro⟨k,ws⟩ ⟨hk,hw⟩;dsimp only at hk hw⊢;have hwl:ws.length=k:=by rw[hw];simp[oF]
  refine aP ?_;refine aq (fun hc1=>?_) (fun hc1=>?_)
  ·try simp only[iA]at hc1
   refine dz ?_;refine sP ?_;refine aA ?_;refine aj (hc:=h480 l (i+1+6*(k:Nat)) own (decide ((dm l i:Int)=1)) (by omega) hp1) ?_;refine cy [aX.D (gQ l (i+1+6*(k:Nat)) own (decide ((dm l i:Int)=1)))] ?_;refine iY (q:=aX.D) (xs:=ws) (e:=gQ l (i+1+6*(k:Nat)) own (decide ((dm l i:Int)=1))) ?_;refine ay ?_;refine aJ (.agg [.own 56 4 0 (ws++[gQ l (i+1+6*(k:Nat)) own (decide ((dm l i:Int)=1))]).length,.str [],.str []]) (he:=by exact rfl) ?_;refine bT ?_;exact⟨(k+1,ws++[gQ l (i+1+6*(k:Nat)) own (decide ((dm l i:Int)=1))]),⟨by dsimp only;omega,by dsimp only;rw[C0,hw]⟩,by dsimp only;omega,(aN.to [(0,0),(1,1),(56,2)] ae ae lO (by(first|refine aC.de ae ae bY ?_|refine aC.mj ae ae ae ?_|refine aC.qb ae ae ae ae ?_);refine aC.mj ae ae ae ?_;refine aC.nl 56 ae ae rfl (bt (fun _=>rfl) _) ?_;exact aC.nil))⟩
  simp only[decide_eq_false_iff_not]at hc1;obtain rfl:k=dm l i:=by omega
  refine aP ?_;refine aj (hc:=h231 l (i+14) (by omega)) ?_;refine ay ?_;refine aJ (.agg [.own 2 4 0 ws.length,.str (gP l (i+14)),.str []]) (he:=by exact rfl) ?_;refine aP ?_;refine aj (hc:=h228 l (i+16) 4 (by decide)) ?_;refine ax ?_;refine cH (fun hc2=>?_) fun hc2=>?_
  ·refine aA ?_;refine aj (hc:=h479 l (i+17)) ?_;refine aj (hc:=h481 _) ?_;refine ay ?_;refine aJ (.agg [.own 2 4 0 ws.length,.str (gP l (i+14)),.str (gR (gh l (i+17)))]) (he:=by exact rfl) ?_;refine ay ?_;refine eu 2 ?_;refine ay ?_;refine cD (d:=(.agg [.sl 4 (ws.map aX.D),.str (gP l (i+14)),.str (gR (gh l (i+17)))])) ?_;refine aJ (.agg [.sl 4 (ws.map aX.D),.str (gP l (i+14)),.str (gR (gh l (i+17)))]) (he:=by exact rfl) ?_;refine ax ?_;refine cl (?_);simp only[aT.D,dQ];rw[if_pos hc2,←hw];rfl
  refine ay ?_;refine eu 2 ?_;refine ay ?_;refine cD (d:=(.agg [.sl 4 (ws.map aX.D),.str (gP l (i+14)),.str []])) ?_;refine aJ (.agg [.sl 4 (ws.map aX.D),.str (gP l (i+14)),.str []]) (he:=by exact rfl) ?_;refine ax ?_;refine cl (?_);simp only[aT.D,dQ];rw[if_neg hc2,←hw];rfl
def L0 (Γ:Ctx):Prop:=∀(l:List Int)(i:Int)(own:Int),(0≤i∧i≤2000000)→(0≤own∧own≤1000000)→Γ.pre 229 [.sl 1 (l.map (D.int .i64)),.int .i64 i,.int .i64 own]∧Γ.val 229 [.sl 1 (l.map (D.int .i64)),.int .i64 i,.int .i64 own]=aT.D (dQ l i own)
end Go.Abs
end
section
namespace Go.Abs
open Go
def Fm:aB:=⟨2,6,[⟨2,none⟩],[[.sl 1 [.a]]],(sq (r1 [gm (.c (.av))] 2 0) (sq (r1 [gm bF] 3 0) (sq (.block 0 (.loop (sq (sq (r1 [gm s3,gm s0,gl l1,aV l0 l2,gm l3,gmt 4 s0,gmt 4 s3,cG 4 (.ia 1 l5 l6),nF 4 l7,gmt 4 s1,cG 4 (ph l8 l9),fR l4 l10] 4 11) (ir s4 0)) (.block 1 (r1 [gm s3,ar l0 cd,gm l1] 3 2))))) (sq (sq (r1 [gm s3,gm s0,gl l1,aV l0 l2,gm l3,gmt 4 s0,gmt 4 s3,cG 4 (.ia 1 l5 l6),nF 4 l7,gmt 4 s1,cG 4 (cM l8 l9),fR l4 l10] 5 11) (.cond s5 (sq (r1 [gm s0,gm l0] 2 1) .ret) .skip)) (sq (r2 [gm s0,gm s3,gn (.slA 1 l0 none (some l1)),gn (.appN 1 l2),gm s1,gn (.bsl 1 (.str []) 1 [(0,l4)]),gn (.app 1 l3 l5),gm s0,gm s3,gn (.slA 1 l7 (some l8) none),gn (.app 1 l6 l9),gm l10] 2 11) .ret)))))⟩
def w483 {Γ:Ctx}(hm:(Γ.at 0).bq)  (l:List ah)(s:ah)  (hp0:l.length≤1000):dX Γ Fm (.sl 1 ((dL l s).map D.str)) [.sl 1 (l.map D.str),.str s]:=by
 show bB _ _ _ [⟨_,_⟩,⟨_,_⟩,_,_,_,_] _;refine ak ?_;refine aQ ?_;refine bp hm (ι:=Nat) (fun i=>[⟨true,.sl 1 (l.map D.str)⟩,⟨true,.str s⟩,.un,⟨true,.int .i64 (i:Nat)⟩,.un,.un]) (fun i=>[]) 2 (fun i=>i≤ie s l) (fun i=>l.length-i) 0 (Nat.zero_le _) (dR []) ?_;rintro i hi;have hpl:=xM s l;refine aQ ?_;intro u0;refine aA ?_;refine cJ i ?_;refine bV (v:=.str l[i]!) ?_;refine aA ?_;refine aq (fun hc0=>?_) (fun hc0=>?_)
 ·simp only[Bool.and_eq_true,decide_eq_true_eq]at hc0;have hip:i+1≤ie s l:=by
   by_cases he:i=ie s l
   ·have h1:=qV s l (by omega);rw[←he,hc0.2]at h1;cases h1
   ·omega
  refine dz ?_;exact⟨i+1,(by omega),by omega,(dR [])⟩
 simp only[Bool.and_eq_false_iff,decide_eq_false_iff_not]at hc0;obtain rfl:i=ie s l:=by
  by_cases he:i<ie s l
  ·have h1:=xN s l i he;rcases hc0 with h|h
   ·omega
   ·rw[h1]at h;cases h
  ·omega
 refine bd ?_;intro u1;refine aA ?_;refine cJ (ie s l) ?_;refine bV (v:=.str l[ie s l]!) ?_;refine aA ?_;refine cH (fun hc1=>?_) fun hc1=>?_
 ·refine aP ?_;refine cl (?_);rw[dL,if_pos ⟨by omega,hc1.2⟩];rfl
 refine aA ?_;refine ur (ie s l) ?_;refine Iu (he:=r0.sl) (n:=(l.take (ie s l)).length) (hn:=by simp) (hb:=by simp only[List.length_take];omega) ?_;refine ay ?_;refine cy [.str s] ?_;refine iY (q:=D.str) (xs:=l.take (ie s l)) (e:=s) (hb:=by simp only[List.length_take];omega) ?_;refine ax ?_;refine uu (ie s l) ?_;refine KY (xs:=l.take (ie s l)++[s]) (ys:=l.drop (ie s l)) (he:=r0.sl) (hb:=by simp only[List.length_append,List.length_take,List.length_drop,List.length_cons,List.length_nil];omega) ?_;refine ax ?_;refine eu 36 ?_;refine ay ?_;refine cl (?_);rw[dL,if_neg (by rintro⟨h1,h2⟩;rcases hc1 with h|h;omega;exact h h2)];rfl
def Mo (Γ:Ctx):Prop:=∀(l:List ah)(s:ah),(l.length≤1000)→Γ.pre 483 [.sl 1 (l.map D.str),.str s]∧Γ.val 483 [.sl 1 (l.map D.str),.str s]=.sl 1 ((dL l s).map D.str)
end Go.Abs
end
