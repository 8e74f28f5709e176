/- A part of the proofs of the statements: AbsK, AbsL, AbsE, AbsF, AbsS, AbsT. -/
import Derived.Scope
import Derived.Test.YtpdlhpamcaocgaaGreatDoorP02
set_option linter.all false
set_option maxRecDepth 4000
section
namespace Go.Abs
variable [bU]
section
variable {C:CC} {Γ:Ctx} {ρ:Src→aW} {m:List (Nat×aV)} {L:Nat}
def qF {i:aw}{l:Nat}(h:l∉i.wr ρ L):look (i.bA Γ ρ m L) l=look m l:=by
 cases i<;>simp only[aw.wr,List.mem_cons,List.not_mem_nil,or_false,not_or]at h<;>simp only[aw.bA]
 case box=>rw[bo,if_neg h]
 case mkB=>rw[bo,if_neg h]
 case bsl=>rw[bo,if_neg h]
 case mks=>rw[bo,if_neg h]
 case s2b x=>split<;>first|rw[bo,if_neg h]|rfl
 case appN k y=>rw[bo,if_neg h]
 case rng x=>split<;>first|rw[bo,if_neg h]|rfl
 case st n p v=>
  split
  ·rename_i hd;rw[hd]at h;rw[bo,if_neg (by simpa[bM]using h)]
  ·rfl
 case app k x y=>
  split
  ·rename_i hd;rw[hd]at h;rw[bo,if_neg h.1,dV,if_neg (by simpa[bM]using h.2)]
  ·rw[bo,if_neg h.1]
 case ve x=>
  split
  ·rename_i hd;rw[hd]at h;split
   ·rename_i s pos _;cases decide (pos<s.length)<;>simp only[cond_true,cond_false];rw[bo,if_neg (by simpa[bM]using h)]
   ·rfl
  ·rfl
 case callF n r args sh=>
  split
  ·rename_i hd;rw[hd]at h;rw[bo,if_neg (by simpa[bM]using h)]
  ·rfl
def iI {i:aw}(h:i.calm=true){l:Nat}(hl:l∈i.wr ρ L):l=L:=by
 cases i<;>simp_all[aw.calm,aw.wr]
def ef {l k n:Nat}(h:dE m l k n):look m l≠none:=by
 intro e;simp[dE,e]at h
def FQ {i:aw}(h:i.cE Γ ρ m){l:Nat}(hl:l∈i.wr ρ L):l=L∨look m l≠none:=by
 cases i<;>simp only[aw.wr,List.mem_cons,List.not_mem_nil,or_false]at hl<;>first
  |exact .inl hl
  |exact hl.elim
  |skip
 case st n p v=>
  right;obtain⟨_,_,_,h4⟩:=h;cases hd:(ρ p).d<;>simp only[hd,bM,List.mem_singleton]at h4 hl;subst hl;exact ef h4.1
 case app k x y=>
  rcases hl with hl|hl
  ·exact .inl hl
  ·right;obtain⟨_,_,_,h4⟩:=h;cases hd:(ρ x).d<;>simp only[hd,bM,List.mem_singleton,List.not_mem_nil]at h4 hl;subst hl;exact ef h4.2.1
 case ve x=>
  right;obtain⟨_,h4⟩:=h;cases hd:(ρ x).d<;>simp only[hd,bM,List.mem_singleton,List.not_mem_nil]at h4 hl;subst hl;intro e;simp[e]at h4
 case callF n r args sh=>
  right;obtain⟨_,_,_,h4⟩:=h;cases hd:(ρ r).d<;>simp only[hd,bM,List.mem_singleton,List.not_mem_nil]at h4 hl;subst hl;exact ef h4.2.2.1
def pJ {i:aw}(h:i.calm=true∨i.cE Γ ρ m){l:Nat}(hl:look (i.bA Γ ρ m L) l≠none):look m l≠none∨l=L:=by
 by_cases hw:l∈i.wr ρ L
 ·rcases h with h|h
  ·exact .inr (iI h hw)
  ·exact(FQ h hw).symm
 ·left;rwa [qF hw]at hl
omit [bU]in
theorem Gn {i:aw}(h:i.pure=true):i.bA Γ ρ m L=m:=by
 cases i<;>simp_all[aw.pure,aw.bA]
omit [bU]in
theorem DY {i:aw}(h:i.pure=true):i.calm=true:=by
 cases i<;>simp_all[aw.pure,aw.calm]
def Gp {i:aw}(h:i.pure=true):i.jF ρ=some []:=by
 cases i<;>simp_all[aw.pure,aw.jF]
def C8 {i:aw}(h:i.free=true):i.calm=true:=by
 cases i<;>simp_all[aw.free,aw.calm,aw.pure]
def HQ {i:aw}(h:i.free=true):i.wr ρ L=[]:=by
 cases i<;>simp_all[aw.free,aw.wr,aw.pure]
def E7 {i:aw}(h:i.free=true):i.bA Γ ρ m L=m:=by
 cases i<;>simp_all[aw.free,aw.bA,aw.pure]
def wy {sh:List Sh}(h:sh.all Sh.LR=true):∀{d:D},eN m sh d→d.aK=true:=by
 have hL:∀(sh:List Sh) (ds:List D),sh.all Sh.LR=true→jt m sh ds→aH ds=true:=by
  intro sh;induction sh with
  |nil=>intro ds _ h;simpa[jt]using h
  |cons s r ih=>
   intro ds h ho;cases ds with
   |nil=>rfl
   |cons d ds=>
    simp only[List.all_cons,Bool.and_eq_true]at h;simp only[jt]at ho;have hs:s=.a:=by cases s<;>simp_all[Sh.LR]
    subst hs;simp only[aH,Bool.and_eq_true];exact⟨by simpa[iV]using ho.1,ih ds h.2 ho.2⟩
 intro d ho;cases sh with
 |nil=>simpa[eN]using ho
 |cons s r=>
  have hs:s=.a:=by simp only[List.all_cons,Bool.and_eq_true]at h;cases s<;>simp_all[Sh.LR]
  cases d<;>simp only[eN]at ho<;>first
   |(subst hs;simpa[iV]using ho)
   |(rw[D.nO];exact hL _ _ h ho)
def ra:∀{ss:List (List Sh)}{ds:List D},ss.all (fun s=>s.all Sh.LR)=true→gh m ss ds→aH ds=true
 |ss,[],_,_=>by simp[aH]
 |[],d::r,h,ho=>by
  simp only[gh]at ho;simp only[aH,Bool.and_eq_true];exact⟨wy (sh:=[.a]) rfl ho.1,ra (ss:=[]) rfl ho.2⟩
 |s::ss,d::r,h,ho=>by
  simp only[gh]at ho;simp only[List.all_cons,Bool.and_eq_true]at h;simp only[aH,Bool.and_eq_true];exact⟨wy h.1 ho.1,ra h.2 ho.2⟩
def E8 {i:aw}(h:i.free=true)(ho:i.cE Γ ρ m):i.jF ρ=some []:=by
 cases i<;>simp only[aw.free]at h<;>try(exact Gp h)
 simp only[aw.jF,ra h ho.2.1,cond_true]
def uj {i:aw}(h:i.fZ=true):i.calm=true:=by
 cases i<;>simp_all[aw.fZ,aw.calm]
def DB {i:aw}(h:i.fZ=true):i.jF ρ=some []:=by
 cases i<;>simp_all[aw.fZ,aw.jF]
def qG {k:Nat}{d:D}(h:xt m k d){l:Nat}(hl:l∈bM d):look m l≠none:=by
 cases d<;>simp only[bM,List.mem_singleton,List.not_mem_nil,xt]at h hl;subst hl;exact ef h.2
def xO {i:aw}(h:i.cE Γ ρ m){ls:List Nat}(hls:i.jF ρ=some ls){l:Nat}(hl:l∈ls):look m l≠none:=by
 cases i<;>simp only[aw.jF,Option.some.injEq,reduceCtorEq]at hls<;>first
  |(subst hls;exact absurd hl List.not_mem_nil)
  |skip
 case ldU n ag p=>
  subst hls;obtain⟨_,h4⟩:=h;cases hd:(ρ p).d<;>simp only[hd,bM,List.mem_singleton,List.not_mem_nil]at h4 hl;subst hl;exact ef h4.1.1
 case ld n ag p=>
  subst hls;obtain⟨_,h4⟩:=h;cases hd:(ρ p).d<;>simp only[hd,bM,List.mem_singleton,List.not_mem_nil,Al]at h4 hl;subst hl;exact ef h4.1
 case st n p v=>
  subst hls;obtain⟨_,_,_,h4⟩:=h;cases hd:(ρ p).d<;>simp only[hd,bM,List.mem_singleton]at h4 hl;subst hl;exact ef h4.1
 case b2s x=>
  subst hls;exact qG h.2.2.1 hl
 case app k x y=>
  subst hls;obtain⟨_,_,h3,h4⟩:=h;rw[List.mem_append]at hl;rcases hl with hl|hl
  ·cases hd:(ρ x).d<;>simp only[hd,bM,List.mem_singleton,List.not_mem_nil]at h4 hl;subst hl;exact ef h4.2.1
  ·exact qG h3 hl
 case appN k y=>
  subst hls;exact qG h.2.1 hl
 case ve x=>
  subst hls;obtain⟨_,h4⟩:=h;cases hd:(ρ x).d<;>simp only[hd,bM,List.mem_singleton,List.not_mem_nil]at h4 hl;subst hl;intro e;simp[e]at h4
 case call f args sh=>
  cases hn:aH (fm ρ args)<;>simp only[hn,cond_true,cond_false,Option.some.injEq,reduceCtorEq]at hls;subst hls;exact absurd hl (by simp)
 case callv f args sh=>
  cases hd:(ρ f).d<;>simp only[hd,reduceCtorEq]at hls;rename_i n caps;cases hn:aH (fm ρ args++caps)<;>simp only[hn,cond_true,cond_false,Option.some.injEq,reduceCtorEq]at hls;subst hls;exact absurd hl (by simp)
 case callF n r args sh=>
  subst hls;obtain⟨_,_,_,h4⟩:=h;cases hd:(ρ r).d<;>simp only[hd,bM,List.mem_singleton,List.not_mem_nil]at h4 hl;subst hl;exact ef h4.2.2.1
omit [bU]in
theorem wz {draw:Bool}{i:aw}{g:Option (Nat×Bool)}{r:List GI}{env vs:List aW}{st:St}{K:List aW→St→Prop}(h:i.cb=false)(hf:i.rN draw g=true):
  fH Γ draw (⟨i,g⟩::r) env vs st K=(y0 vs g∧(flag vs g=true→i.cE Γ (Src.ev env vs) st.m∧
     fH Γ draw r env (vs++[⟨true,i.val Γ (Src.ev env vs) st.m (st.nx+vs.length)⟩]) {st with m:=i.bA Γ (Src.ev env vs) st.m (st.nx+vs.length)} K)∧
    (flag vs g=false→fH Γ draw r env (vs++[⟨false,.any⟩]) st K)):=by
 cases i<;>first
  |(simp[aw.cb]at h;done)
  |(simp only[fH];rw[if_pos hf])
omit [bU]in
theorem jL {draw:Bool}{i:aw}{g:Option (Nat×Bool)}{r:List GI}{env vs:List aW}{st:St}{K:List aW→St→Prop}(h:i.cb=false)(hf:i.rN draw g=false):
  fH Γ draw (⟨i,g⟩::r) env vs st K=(Fg vs i g∧(flag vs g=true→i.cE Γ (Src.ev env vs) st.m)∧
   ((flag vs g=true→i.Au draw (Src.ev env vs))→∃d,(flag vs g=true→i.val Γ (Src.ev env vs) st.m (st.nx+vs.length)=d)∧
     fH Γ draw r env (vs++[⟨flag vs g,d⟩]) {st with m:=i.bA Γ (Src.ev env vs) st.m (st.nx+vs.length)} K)):=by
 cases i<;>first
  |(simp[aw.cb]at h;done)
  |(simp only[fH];rw[if_neg (by rw[hf];simp)])
def RD.JE {ν:List (Nat×Nat)}{x:X}{v:Value}{d:D}(h:RD ν x v d):(∀k es,d=.sl k es→es.length≤9223372036854775807)∧(∀l k i n,d=.own l k i n→n≤9223372036854775807)∧(∀s,d=.str s→s.length≤9223372036854775807):=by
 cases h<;>refine⟨?_, ?_, ?_⟩<;>intros<;>simp_all[maxLen]<;>omega
def EH {i:aw}{draw:Bool}(h:∀s,(i=.len s∨i=.lenS s)→(draw=true→s.Fq=true)→(ρ s).ok=true→∃ν x v,RD ν x v (ρ s).d):i.Au draw ρ:=by
 cases i<;>simp only[aw.Au]
 case len s=>
  cases hb:(draw&& !s.Fq)<;>simp only[cond_true,cond_false];intro hok;obtain⟨ν,x,v,hr⟩:=h s (.inl rfl) (fun hd=>by simpa[hd]using hb) hok;obtain⟨a1,a2,a3⟩:=hr.JE;cases hd:(ρ s).d<;>simp only
  ·exact a1 _ _ hd
  ·exact a2 _ _ _ _ hd
 case lenS s=>
  cases hb:(draw&& !s.Fq)<;>simp only[cond_true,cond_false];intro hok;obtain⟨ν,x,v,hr⟩:=h s (.inr rfl) (fun hd=>by simpa[hd]using hb) hok;obtain⟨a1,a2,a3⟩:=hr.JE;cases hd:(ρ s).d<;>simp only;exact a3 _ hd
def Bc {defs:List (Option Nat)}{o:Oper}{s:Src}(hc:C.op defs o=some (.len s)∨C.op defs o=some (.lenS s)):∃p∈o.op.operands.toList,C.src defs p=some s:=by
 cases ho:o.op with
 |call c=>
  obtain⟨callee,args,argTypes⟩:=c;cases callee with
  |builtin bu=>
   cases bu with
   |len=>
    simp only[CC.op,ho]at hc;split at hc
    ·rename_i p t hargs htys;refine⟨p,by simp[Op.operands,Call.operands,hargs], ?_⟩;split at hc<;>simp_all
    ·simp at hc
   |append=>simp only[CC.op,ho]at hc;(repeat' split at hc)<;>simp_all
   |_=>simp[CC.op,ho]at hc
  |value f=>
   cases f with
   |func fid=>simp only[CC.op,ho]at hc;(repeat' split at hc)<;>simp_all
   |tmp t=>simp only[CC.op,ho]at hc;(repeat' split at hc)<;>simp_all
   |_=>simp[CC.op,ho]at hc
  |invoke r n=>simp[CC.op,ho]at hc
 |makeFunc fn fst caps=>cases fn<;>simp only[CC.op,ho]at hc<;>(repeat' split at hc)<;>simp_all
 |next it b=>cases b<;>simp[CC.op,ho]at hc
 |_=>
  simp only[CC.op,ho]at hc
  (try(repeat' split at hc))<;>simp at hc
def xS {defs:List (Option Nat)}{o:Oper}{n:Nat}{ss:List Src}(hc:C.op defs o=some (.callM n ss)):
  ∃fid args tys,o.op=.call {callee:=.value (.func fid),args,argTypes:=tys}∧c9 C.ν fid=some n∧C.bA.contains (2*n)=true∧C.ph defs args.toList=some ss:=by
 cases ho:o.op with
 |call c=>
  obtain⟨callee,args,argTypes⟩:=c;cases callee with
  |builtin bu=>
   cases bu with
   |len=>simp only[CC.op,ho]at hc;(repeat' split at hc)<;>simp_all
   |append=>simp only[CC.op,ho]at hc;(repeat' split at hc)<;>simp_all
   |_=>simp[CC.op,ho]at hc
  |value f=>
   cases f with
   |func fid=>
    simp only[CC.op,ho]at hc;split at hc
    ·rename_i n' ss' h1 h2;split at hc
     ·rename_i h3;simp only[Option.some.injEq,aw.callM.injEq]at hc;obtain⟨rfl,rfl⟩:=hc;exact⟨fid,args,argTypes,rfl,h1,h3,h2⟩
     ·(repeat' split at hc)<;>simp at hc
    ·cases hc
   |tmp t=>simp only[CC.op,ho]at hc;(repeat' split at hc)<;>simp_all
   |_=>simp[CC.op,ho]at hc
  |invoke r n=>simp[CC.op,ho]at hc
 |makeFunc fn fst caps=>cases fn<;>simp only[CC.op,ho]at hc<;>(repeat' split at hc)<;>simp_all
 |next it b=>cases b<;>simp[CC.op,ho]at hc
 |_=>
  simp only[CC.op,ho]at hc
  (try(repeat' split at hc))<;>simp at hc
def vv {defs:List (Option Nat)}{o:Oper}{fs:Src}{ss:List Src}(hc:C.op defs o=some (.callvM fs ss)):
  ∃t args tys,o.op=.call {callee:=.value (.tmp t),args,argTypes:=tys}∧C.src defs (.tmp t)=some fs∧C.ph defs args.toList=some ss:=by
 cases ho:o.op with
 |call c=>
  obtain⟨callee,args,argTypes⟩:=c;cases callee with
  |builtin bu=>
   cases bu with
   |len=>simp only[CC.op,ho]at hc;(repeat' split at hc)<;>simp_all
   |append=>simp only[CC.op,ho]at hc;(repeat' split at hc)<;>simp_all
   |_=>simp[CC.op,ho]at hc
  |value f=>
   cases f with
   |func fid=>simp only[CC.op,ho]at hc;(repeat' split at hc)<;>simp_all
   |tmp t=>
    simp only[CC.op,ho]at hc;split at hc
    ·rename_i s' ss' h1 h2;split at hc
     ·simp only[Option.some.injEq,aw.callvM.injEq]at hc;obtain⟨rfl,rfl⟩:=hc;exact⟨t,args,argTypes,rfl,h1,h2⟩
     ·simp at hc
    ·cases hc
   |_=>simp[CC.op,ho]at hc
  |invoke r n=>simp[CC.op,ho]at hc
 |makeFunc fn fst caps=>cases fn<;>simp only[CC.op,ho]at hc<;>(repeat' split at hc)<;>simp_all
 |next it b=>cases b<;>simp[CC.op,ho]at hc
 |_=>
  simp only[CC.op,ho]at hc
  (try(repeat' split at hc))<;>simp at hc
def zo {x:X}{defs:List (Option Nat)}{ev:Operand→Value}{o:Oper}{n:Nat}{ss:List Src}{st:St}{K:D→St→Prop}(hcst:∀d,ρ (.c d)=⟨true,d⟩)(hΓ:Ok C.P C.ν C.bA Γ)
  (hc:C.op defs o=some (.callM n ss)) (hρ:rA C defs ρ ev x o.op.operands.toList) (hok:uu ρ ss) (hs:dz C.ν x (look st.m)) (hfr:du st x) (htr:Γ.tr n (fm ρ ss) st K):
  fK C.P x (fun v x'=>∃d st',K d st'∧Step x x'∧RD C.ν x' v d∧dz C.ν x' (look st'.m)∧du st' x') ((execOp ev o).run C.P x.w):=by
 obtain⟨fid,args,tys,ho,h1,h3,h2⟩:=xS hc;have hv:=hρ (.func fid) (by simp[ho,Op.operands,Call.operands]) (.c (.fn n [])) (by simp[CC.src,h1]) (by rw[hcst]);rw[hcst]at hv;obtain⟨s1,s2,s3⟩:=ek hρ _ _ (fun o' ho'=>by simp only[ho,Op.operands,Call.operands];simp at ho'⊢;exact .inr ho') h2 hok;generalize hep:ev (.func fid)=vf at hv;cases hv with
 |cM=>exact absurd (hΓ.small _ _ h1) (by omega)
 |fn fid' _ cs _ hν hl _=>
  have hcs:cs=#[]:=by apply Array.ext';simpa using hl
  subst hcs;have hrun:(execOp ev o).run C.P x.w=(callFunc fid' (args.map ev)).run C.P x.w:=by
   simp[execOp,ho,resolve,Deferred.ofValue,invoke,hep]
  rw[hrun];refine hΓ.bA fid' n hν x _ (fm ρ ss) st K (by simp;simpa using s2.symm) (fun i hi=>?_) hs hfr htr;have:=s3 i hi
  rwa [←Array.toList_map,aZ]at this
def DT {x:X}{defs:List (Option Nat)}{ev:Operand→Value}{o:Oper}{fs:Src}{n:Nat}{caps:List D}{ss:List Src}{st:St}{K:D→St→Prop}(hΓ:Ok C.P C.ν C.bA Γ)
  (hc:C.op defs o=some (.callvM fs ss)) (hρ:rA C defs ρ ev x o.op.operands.toList) (hfo:(ρ fs).ok=true) (hd:(ρ fs).d=.fn n caps) (hok:uu ρ ss) (hs:dz C.ν x (look st.m)) (hfr:du st x) (htr:Γ.tr (xl n) (vj n (fm ρ ss) caps) st K):
  fK C.P x (fun v x'=>∃d st',K d st'∧Step x x'∧RD C.ν x' v d∧dz C.ν x' (look st'.m)∧du st' x') ((execOp ev o).run C.P x.w):=by
 obtain⟨t,args,tys,ho,h1,h2⟩:=vv hc;have hv:=hρ (.tmp t) (by simp[ho,Op.operands,Call.operands]) fs h1 hfo;rw[hd]at hv;obtain⟨s1,s2,s3⟩:=ek hρ _ _ (fun o' ho'=>by simp only[ho,Op.operands,Call.operands];simp at ho'⊢;exact .inr ho') h2 hok;have hsz:args.size=(fm ρ ss).length:=by simpa using s2.symm
 generalize hep:ev (.tmp t)=vf at hv;cases hv with
 |fn fid' _ cs _ hν hl hcs=>
  have hn:=hΓ.small _ _ hν;have e1:xl n=n:=by simp[xl,hn]
  have e2:vj n (fm ρ ss) caps=fm ρ ss++caps:=by simp[vj,hn]
  rw[e1,e2]at htr;have hrun:(execOp ev o).run C.P x.w=(callFunc fid' (args.map ev++cs)).run C.P x.w:=by
   simp[execOp,ho,resolve,Deferred.ofValue,invoke,hep]
  rw[hrun];refine hΓ.bA fid' n hν x _ (fm ρ ss++caps) st K (by simp[hl,hsz]) (fun i hi=>?_) hs hfr htr;rw[jA,bI];simp only[Array.size_map,hsz];split
  ·rename_i hlt;have:=s3 i hlt
   rwa [←Array.toList_map,aZ]at this
  ·exact hcs _ (by simp at hi;omega)
 |cM fid' n' cs _ hν hl hcs=>
  have e1:xl (n'+1000000)=n':=by unfold xl;rw[if_neg (by omega)];omega
  have e2:vj (n'+1000000) (fm ρ ss) caps=caps++fm ρ ss:=by unfold vj;rw[if_neg (by omega)]
  rw[e1,e2]at htr;have hrun:(execOp ev o).run C.P x.w=(callFunc fid' (cs++args.map ev)).run C.P x.w:=by
   simp[execOp,ho,resolve,Deferred.ofValue,invoke,hep]
  rw[hrun];refine hΓ.bA fid' n' hν x _ (caps++fm ρ ss) st K (by simp[hl,hsz]) (fun i hi=>?_) hs hfr htr;rw[jA,bI];rw[hl];split
  ·exact hcs i (by assumption)
  ·have:=s3 (i-caps.length) (by simp at hi;omega)
   rwa [←Array.toList_map,aZ]at this
end
end Go.Abs
end
section
namespace Go.Abs
variable [bU]
section
variable {C:CC} {Γ:Ctx}
def du.up {st:St}{x:X}(h:du st x){n:Nat}(hn:st.nx≤n):du ⟨n,st.m⟩ x:=
 ⟨fun l hl=>h.β l (Nat.le_trans hn hl),fun l hl=>Nat.lt_of_lt_of_le (h.m l hl) hn⟩
def tm.iff {env:List aW}{DD:List (Option Nat)}{VS:List aW}{D D':Nat→Prop}{a:Act}{x:X}(h:tm C env DD VS D a x)(hD:∀p,D' p↔D p):tm C env DD VS D' a x:=by
 have:D'=D:=funext fun p=>propext (hD p)
 subst this;exact h
def tm.ext {env:List aW}{DD:List (Option Nat)}{vs:List aW}{a:Act}{x:X}{k:Nat}(e:aW)(h:tm C env DD vs (· <k) a x)(hk:vs.length=k):tm C env DD (vs++[e]) (· <k) a x:=by
 have hg:∀p,p<k→(vs++[e]).getD p .un=vs.getD p .un:=fun p hp=>by rw[bI,if_pos (by omega)]
 exact⟨fun p t hp h1 h2=>by rw[hg p hp]at h2⊢;exact h.val p t hp h1 h2,fun p t hp h1 h2=>by rw[hg p hp]at h2;exact h.und p t hp h1 h2,h.old,h.size,h.defers⟩
def dz.eq {ν:List (Nat×Nat)}{x:X}{f f':Nat→Option aV}(h:dz ν x f)(e:∀l,f' l=f l):dz ν x f':=by
 have:f'=f:=funext e;subst this;exact h
def IZ {ops:Array Oper}{l:List GI}(hsp:Spec C ops.toList l)(hΓ:Ok C.P C.ν C.bA Γ){Q:Exit→Act→World→Prop}{env:List aW}{K:List aW→St→Prop}{x0:X}
  (hK:∀vs' st' a' x',K vs' st'→vs'.length=ops.size→tm C env (ops.toList.map (·.dst)) vs' (· <ops.size) a' x'→Step x0 x'→dz C.ν x' (look st'.m)→du st' x'→Q .normal a' x'.w):
  ∀(n k:Nat) (vs:List aW) (st:St) (x:X) (a:Act),k+n=ops.size→vs.length=k→tm C env (ops.toList.map (·.dst)) vs (· <k) a x→Step x0 x→dz C.ν x (look st.m)→du ⟨st.nx+k,st.m⟩ x→
   fH Γ false (l.drop k) env vs st K→wpOps C.P ops Q (List.range' k n) a x.w:=by
 intro n;induction n with
 |zero=>
  intro k vs st x a hkn hk hmid hst hs hf hw;have hlen:=hsp.len;have hd:l.drop k=[]:=List.drop_eq_nil_of_le (by simp at hlen;omega);rw[hd]at hw;simp only[fH]at hw;simp only[List.range'_zero,wpOps];obtain rfl:k=ops.size:=by omega
  exact hK vs _ a x hw hk hmid hst hs (by rw[hk];exact hf)
 |succ n ih=>
  intro k vs st x a hkn hk hmid hst hs hf hw;have hkl:k<ops.size:=by omega
  obtain⟨o,ho⟩:∃o,ops[k]? =some o:=⟨ops[k],by simp[hkl]⟩
  have ho':ops.toList[k]? =some o:=by simpa using ho
  obtain⟨g,hg1,hg2,hg3⟩:=hsp.op k o ho';have hlk:k<l.length:=by have:=hsp.len;simp at this;omega
  have hdrop:l.drop k=g::l.drop (k+1):=by
   rw[List.drop_eq_getElem_cons hlk];congr 1;exact(List.getElem?_eq_some_iff.1 hg1).2
  rw[hdrop]at hw;have hvt:vs.take k=vs:=List.take_of_length_le (by omega);have hρ:rA C ((ops.toList.map (·.dst)).take k) (Src.ev env vs) a.eval x o.op.operands.toList:=by
   have:=hmid.rho (i:=k) (os:=o.op.operands.toList) (fun t p _ _=>⟨fun h=>h,fun h=>by omega⟩)
   rwa [hvt]at this
  have hcst:∀d,Src.ev env vs (.c d)=⟨true,d⟩:=fun _=>rfl
  have hdst:(ops.toList.map (·.dst))[k]? =some o.dst:=by rw[List.getElem?_map,ho',Option.map_some]
  have hput:∀(e:aW) (v:Value) (x':X),Le x x'→(e.ok=true→RD C.ν x' v e.d)→(e.ok=false→v=undef)→tm C env (ops.toList.map (·.dst)) (vs++[e]) (· <k+1) (a.put o.dst v) x':=by
   intro e v x' hle h1 h2;have he:(vs++[e]).getD k .un=e:=by rw[bI,if_neg (by omega)];simp[hk]
   refine(hmid.ext e hk).put (i:=k) hle hdst (fun t ht=>⟨(hsp.dst k o t ho' ht).1,fun p hp e'=>hp (hsp.distinct (by rw[hdst,ht]) e')⟩) (by rw[he];exact h1) (by rw[he];exact h2) (fun p=>by omega)
  simp only[List.range'_succ,wpOps,ho];obtain⟨i,gd⟩:=g;by_cases hcm:i.cb=true
  ·cases i<;>simp only[aw.cb]at hcm<;>try cases hcm
   ·rename_i f ss;simp only[fH]at hw;obtain⟨w1,w2,w3⟩:=hw;have hfl:=ja (g:=⟨.callM f ss,gd⟩) hmid hg3 (fun j w _ h=>h) (by rw[hvt];exact w1);simp only[hvt]at hfl;rw[hfl];cases hfg:flag vs gd with
    |true=>
     rw[if_pos rfl];left;obtain⟨w4,w5⟩:=w2 hfg;rw[hk]at w5;refine(zo (st:=⟨st.nx+k,st.m⟩) hcst hΓ (by rcases hg2 with h|⟨_,_,_,h,_⟩|⟨_,_,h,_⟩|⟨_,_,_,_,h,_⟩|⟨_,_,_,h,_⟩;exact h;cases h;cases h;cases h;cases h) hρ w4 hs hf w5).wp (fun v x' hG=>?_);obtain⟨d,st',hK1,hst1,hrd,hs1,hf1⟩:=hG;obtain⟨hnx,hw'⟩:=hK1;refine ih (k+1) (vs++[⟨true,d⟩]) ⟨st'.nx-k,st'.m⟩ x' (a.put o.dst v) (by omega) (by simp[hk]) (hput ⟨true,d⟩ v x' hst1.le (fun _=>hrd) (fun h=>by cases h)) (hst.trans hst1) hs1 ?_ hw';exact hf1.up (by simp only;omega)
    |false=>
     rw[if_neg (by simp)];refine ih (k+1) (vs++[⟨false,.any⟩]) st x (a.put o.dst undef) (by omega) (by simp[hk]) (hput ⟨false,_⟩ undef x (Le.refl x) (fun h=>by cases h) (fun _=>rfl)) hst hs ?_ (w3 hfg);exact⟨fun l' hl'=>hf.β l' (by have hl'':st.nx+(k+1)≤l':=hl';show st.nx+k≤l';omega),fun l' hl'=>by have:=hf.m l' hl';simp only at this⊢;omega⟩
   ·rename_i f ss;simp only[fH]at hw;obtain⟨w1,w0,w2,w3⟩:=hw;have hgn:gd=none:=by
     cases gd with
     |none=>rfl
     |some jw=>obtain⟨j,w⟩:=jw;simp[Fg,aw.calm]at w1
    have hfl:Region.wanted o (yielded ops a.tmps)=true:=by
     rw[ja (g:=⟨.callvM f ss,gd⟩) hmid hg3 (fun j w _ h=>h) (by rw[hvt];exact Fh w1),hgn];rfl
    rw[if_pos hfl];left;rw[hk]at w3;cases hd:(Src.ev env vs f).d<;>simp only[hd]at w3;refine(DT (st:=⟨st.nx+k,st.m⟩) hΓ (by rcases hg2 with h|⟨_,_,_,h,_⟩|⟨_,_,h,_⟩|⟨_,_,_,_,h,_⟩|⟨_,_,_,h,_⟩;exact h;cases h;cases h;cases h;cases h) hρ w0 hd w2 hs hf w3).wp (fun v x' hG=>?_);obtain⟨d,st',hK1,hst1,hrd,hs1,hf1⟩:=hG;obtain⟨hnx,hw'⟩:=hK1;refine ih (k+1) (vs++[⟨true,d⟩]) ⟨st'.nx-k,st'.m⟩ x' (a.put o.dst v) (by omega) (by simp[hk]) (hput ⟨true,d⟩ v x' hst1.le (fun _=>hrd) (fun h=>by cases h)) (hst.trans hst1) hs1 ?_ hw';exact hf1.up (by simp only;omega)
  ·have hcm':i.cb=false:=by simpa using hcm
   have hL:x.β (st.nx+k)=none:=hf.β _ (Nat.le_refl _);have hlL:look st.m (st.nx+k)=none:=by
    cases hx:look st.m (st.nx+k)with
    |none=>rfl
    |some b=>have:=hf.m (st.nx+k) (by simp only;rw[hx];simp);simp only at this;omega
   by_cases hfk:i.rN false gd=true
   ·rw[wz hcm' hfk]at hw;obtain⟨w1,w2,w3⟩:=hw;have hfl:=ja (g:=⟨i,gd⟩) hmid hg3 (fun j w _ h=>h) (by rw[hvt];exact w1);simp only[hvt]at hfl;rw[hfl];rw[hk]at w2;cases hfg:flag vs gd with
    |true=>
     rw[if_pos rfl];left;obtain⟨hob,hw'⟩:=w2 hfg;have hag:yj (look st.m) st.m (i.jF (Src.ev env vs)):=by
      unfold yj;split<;>intros<;>rfl
     refine(xR (L:=st.nx+k) hg2 hcm' hΓ hρ hcst hob hs hag hL hlL).wp (fun v x' hG=>?_);obtain⟨g1,g2,g3,g4⟩:=hG;refine ih (k+1) (vs++[⟨true,_⟩]) _ x' (a.put o.dst v) (by omega) (by simp[hk]) (hput ⟨true,_⟩ v x' g1.le (fun _=>g2) (fun h=>by cases h)) (hst.trans g1) ?_ ?_ hw'
     ·refine g3.eq fun l'=>?_
      by_cases hlw:l'∈i.wr (Src.ev env vs) (st.nx+k)
      ·simp[fB,hlw]
      ·simp only[fB,hlw,if_false];exact qF hlw
     ·refine⟨fun l' hl'=>?_,fun l' hl'=>?_⟩
      ·have hl'':st.nx+(k+1)≤l':=hl';rw[g4 l' (by omega)];exact hf.β l' (by show st.nx+k≤l';omega)
      ·show l'<st.nx+(k+1);rcases pJ (.inr hob) hl' with h|h
       ·have:=hf.m l' h;simp only at this;omega
       ·omega
    |false=>
     rw[if_neg (by simp)];have hw':=w3 hfg;refine ih (k+1) (vs++[⟨false,.any⟩]) st x (a.put o.dst undef) (by omega) (by simp[hk]) (hput ⟨false,_⟩ undef x (Le.refl x) (fun h=>by cases h) (fun _=>rfl)) hst hs ?_ hw';exact⟨fun l' hl'=>hf.β l' (by have hl'':st.nx+(k+1)≤l':=hl';show st.nx+k≤l';omega),fun l' hl'=>by have:=hf.m l' hl';simp only at this⊢;omega⟩
   rw[jL hcm' (by simpa using hfk)]at hw;obtain⟨w1,w2,w3⟩:=hw;have hfl:=ja (g:=⟨i,gd⟩) hmid hg3 (fun j w _ h=>h) (by rw[hvt];exact Fh w1);simp only[hvt]at hfl;rw[hfl];rw[hk]at w3;cases hfg:flag vs gd with
   |true=>
    rw[if_pos rfl];left;have hob:=w2 hfg;have hasm:i.Au false (Src.ev env vs):=by
     refine EH fun s hs' _ hok=>?_
     obtain⟨p,hp1,hp2⟩:=Bc (C:=C) (o:=o) (s:=s) (defs:=(ops.toList.map (·.dst)).take k) (by rcases hs' with rfl|rfl<;>rcases hg2 with h|⟨_,_,_,h,_⟩|⟨_,_,h,_⟩|⟨_,_,_,_,h,_⟩|⟨_,_,_,h,_⟩<;>first|exact .inl h|exact .inr h|cases h);exact⟨_,_,_,hρ p hp1 s hp2 hok⟩
    obtain⟨dv,hdv,hw'⟩:=w3 (fun _=>hasm);replace hdv:=hdv hfg;have hag:yj (look st.m) st.m (i.jF (Src.ev env vs)):=by
     unfold yj;split<;>intros<;>rfl
    refine(xR (L:=st.nx+k) hg2 hcm' hΓ hρ hcst hob hs hag hL hlL).wp (fun v x' hG=>?_);obtain⟨g1,g2,g3,g4⟩:=hG;rw[hfg]at hw';rw[hdv]at g2;refine ih (k+1) (vs++[⟨true,_⟩]) _ x' (a.put o.dst v) (by omega) (by simp[hk]) (hput ⟨true,_⟩ v x' g1.le (fun _=>g2) (fun h=>by cases h)) (hst.trans g1) ?_ ?_ hw'
    ·refine g3.eq fun l'=>?_
     by_cases hlw:l'∈i.wr (Src.ev env vs) (st.nx+k)
     ·simp[fB,hlw]
     ·simp only[fB,hlw,if_false];exact qF hlw
    ·refine⟨fun l' hl'=>?_,fun l' hl'=>?_⟩
     ·have hl'':st.nx+(k+1)≤l':=hl';rw[g4 l' (by omega)];exact hf.β l' (by show st.nx+k≤l';omega)
     ·show l'<st.nx+(k+1);rcases pJ (.inr hob) hl' with h|h
      ·have:=hf.m l' h;simp only at this;omega
      ·omega
   |false=>
    rw[if_neg (by simp)];have hcalm:i.calm=true:=by
     cases gd with
     |none=>simp[flag]at hfg
     |some jw=>obtain⟨j,w⟩:=jw;exact w1.1
    obtain⟨dv,hdv,hw'⟩:=w3 (fun h=>by rw[hfg]at h;cases h);rw[hfg]at hw';refine ih (k+1) (vs++[⟨false,_⟩]) _ x (a.put o.dst undef) (by omega) (by simp[hk]) (hput ⟨false,_⟩ undef x (Le.refl x) (fun h=>by cases h) (fun _=>rfl)) hst ?_ ?_ hw'
    ·refine hs.less fun l'=>?_
     by_cases hlw:l'∈i.wr (Src.ev env vs) (st.nx+k)
     ·exact .inr (.inr (by rw[iI hcalm hlw];exact hL))
     ·exact .inl (qF hlw)
    ·refine⟨fun l' hl'=>hf.β l' (by have hl'':st.nx+(k+1)≤l':=hl';show st.nx+k≤l';omega),fun l' hl'=>?_⟩;show l'<st.nx+(k+1);rcases pJ (Γ:=Γ) (.inl hcalm) hl' with h|h
     ·have:=hf.m l' h;simp only at this;omega
     ·omega
end
end Go.Abs
end
section
namespace Go.Abs
variable [bU]
section
variable {C:CC} {Γ:Ctx}
structure Trace (Γ:Ctx)(l:List GI)(env:List aW)(nx:Nat)(VS:List aW)(M:Nat→List (Nat×aV)):Prop where
 step:∀(k:Nat) (g:GI),l[k]? =some g→M (k+1)=g.i.bA Γ (Src.ev env (VS.take k)) (M k) (nx+k)
 stop:∀k:Nat,l[k]? =none→M (k+1)=M k
 ent:∀(k:Nat) (g:GI),l[k]? =some g→(VS.getD k .un).ok=flag (VS.take k) g.g∧(flag (VS.take k) g.g=true→g.i.val Γ (Src.ev env (VS.take k)) (M k) (nx+k)=(VS.getD k .un).d)
 Fg:∀(k:Nat) (g:GI),l[k]? =some g→Fg (VS.take k) g.i g.g
 cE:∀(k:Nat) (g:GI),l[k]? =some g→flag (VS.take k) g.g=true→g.i.cE Γ (Src.ev env (VS.take k)) (M k)
 len:VS.length=l.length
 fresh0:∀l',look (M 0) l'≠none→l'<nx
def uI {env:List aW}{K:List aW→St→Prop}:∀(l:List GI)(vs:List aW)(st:St),(∀g∈l,g.i.cb=false)→(∀g∈l,∀vs',g.i.Au true (Src.ev env vs'))→fH Γ true l env vs st K→
  ∃(VS:List aW) (M:Nat→List (Nat×aV)),VS.take vs.length=vs∧VS.length=vs.length+l.length∧(∀k,k≤vs.length→M k=st.m)∧(∀k,vs.length+l.length≤k→M k=M (vs.length+l.length))∧
   (∀(k:Nat) (g:GI),l[k]? =some g→M (vs.length+k+1)=g.i.bA Γ (Src.ev env (VS.take (vs.length+k))) (M (vs.length+k)) (st.nx+(vs.length+k))∧
     ((VS.getD (vs.length+k) .un).ok=flag (VS.take (vs.length+k)) g.g∧(flag (VS.take (vs.length+k)) g.g=true→g.i.val Γ (Src.ev env (VS.take (vs.length+k))) (M (vs.length+k)) (st.nx+(vs.length+k))=(VS.getD (vs.length+k) .un).d))∧
     Fg (VS.take (vs.length+k)) g.i g.g∧(flag (VS.take (vs.length+k)) g.g=true→g.i.cE Γ (Src.ev env (VS.take (vs.length+k))) (M (vs.length+k))))∧
   K VS ⟨st.nx+(vs.length+l.length),M (vs.length+l.length)⟩
 |[],vs,st,_,_,h=>⟨vs,fun _=>st.m,by simp,by simp,fun _ _=>rfl,fun _ _=>rfl,fun k g h=>by simp at h,by simpa[fH]using h⟩
 |⟨i,g⟩::r,vs,st,hcm,hasm,h=>by
  rw[jL (hcm _ (.head _)) rfl]at h;obtain⟨w1,w2,w3⟩:=h;obtain⟨dv,hdv,w3⟩:=w3 fun _=>hasm _ (.head _) vs
  obtain⟨VS,M,a1,a2,a3,a4,a5,a6⟩:=uI r _ _ (fun g hg=>hcm g (.tail _ hg)) (fun g hg=>hasm g (.tail _ hg)) w3;simp only[List.length_append,List.length_cons,List.length_nil,Nat.zero_add]at a1 a2 a3 a4 a5 a6;have b1:VS.take vs.length=vs:=by
   have:=congrArg (List.take vs.length) a1;rw[List.take_take,Nat.min_eq_left (by omega)]at this;rw[this];simp
  have b2:VS.getD vs.length .un=⟨flag vs g,dv⟩:=by
   have:(VS.take (vs.length+1)).getD vs.length .un=VS.getD vs.length .un:=getD_take _ _ _ _ (by omega);rw[←this,a1,bI,if_neg (by omega)];simp
  refine⟨VS,fun k=>if k≤vs.length then st.m else M k,b1,by simp only[List.length_cons];omega,fun k hk=>by simp[hk],fun k hk=>?_,fun k gi hk=>?_, ?_⟩
  ·simp only[List.length_cons]at hk⊢;rw[if_neg (by omega),if_neg (by omega),a4 k (by omega),a4 (vs.length+(r.length+1)) (by omega)]
  ·cases k with
   |zero=>
    simp only[List.getElem?_cons_zero,Option.some.injEq]at hk;subst hk;simp only[Nat.add_zero];rw[if_neg (by omega),if_pos (by omega),b1,b2,a3 (vs.length+1) (by omega)];exact⟨rfl,⟨rfl,hdv⟩,w1,w2⟩
   |succ k=>
    simp only[List.getElem?_cons_succ]at hk;have:=a5 k gi hk;simp only[show vs.length+1+k=vs.length+(k+1)by omega]at this;simp only[show ¬(vs.length+(k+1)+1≤vs.length)by omega,show ¬(vs.length+(k+1)≤vs.length)by omega,if_false];exact this
  ·simp only[List.length_cons];rw[if_neg (by omega)];have e:vs.length+1+r.length=vs.length+(r.length+1):=by omega
   rw[e]at a6;exact a6
def rY {env:List aW}{K:List aW→St→Prop}{l:List GI}{st:St}(hcm:∀g∈l,g.i.cb=false)(hasm:∀g∈l,∀vs',g.i.Au true (Src.ev env vs'))(hf:∀l',look st.m l'≠none→l'<st.nx)
  (h:fH Γ true l env [] st K):∃VS M,Trace Γ l env st.nx VS M∧M 0=st.m∧K VS ⟨st.nx+l.length,M l.length⟩:=by
 obtain⟨VS,M,a1,a2,a3,a4,a5,a6⟩:=uI l [] st hcm hasm h;simp only[List.length_nil,Nat.zero_add]at a1 a2 a3 a4 a5 a6;refine⟨VS,M,⟨fun k g hk=>(a5 k g hk).1,fun k hk=>?_,fun k g hk=>(a5 k g hk).2.1,fun k g hk=>(a5 k g hk).2.2.1,fun k g hk=>(a5 k g hk).2.2.2,a2, ?_⟩,a3 0 (Nat.le_refl _),a6⟩
 ·rw[List.getElem?_eq_none_iff]at hk;rw[a4 (k+1) (by omega),a4 k hk]
 ·rw[a3 0 (Nat.le_refl _)];exact hf
section trace
variable {l:List GI} {env:List aW} {nx:Nat} {VS:List aW} {M:Nat→List (Nat×aV)}
def Trace.xn (h:Trace Γ l env nx VS M){k:Nat}{g:GI}(hg:l[k]? =some g):g.i.calm=true∨(g.g=none∧g.i.cE Γ (Src.ev env (VS.take k)) (M k)):=by
 cases hc:g.i.calm with
 |true=>exact .inl rfl
 |false=>
  right;have h1:=h.Fg k g hg;have hn:g.g=none:=by
   cases hgg:g.g with
   |none=>rfl
   |some jw=>obtain⟨j,w⟩:=jw;rw[hgg]at h1;have:=h1.1;rw[hc]at this;cases this
  exact⟨hn,h.cE k g hg (by rw[hn];rfl)⟩
def Trace.fresh (h:Trace Γ l env nx VS M):∀(k l':Nat),look (M k) l'≠none→l'<nx+k
 |0,l',hl=>h.fresh0 l' hl
 |k+1,l',hl=>by
  cases hg:l[k]? with
  |none=>
   rw[h.stop k hg]at hl;have:=Trace.fresh h k l' hl;omega
  |some g=>
   rw[h.step k g hg]at hl;have hco:g.i.calm=true∨g.i.cE Γ (Src.ev env (VS.take k)) (M k):=(h.xn hg).imp id (·.2);rcases pJ hco hl with h1|h1
   ·have:=Trace.fresh h k l' h1;omega
   ·omega
def Trace.gD (h:Trace Γ l env nx VS M){l':Nat}:∀(n u:Nat),(∀(q:Nat)(g:GI),u≤q→q<u+n→l[q]? =some g→l'∉g.i.wr (Src.ev env (VS.take q)) (nx+q))→look (M (u+n)) l'=look (M u) l'
 |0,u,_=>rfl
 |n+1,u,hq=>by
  rw[←Trace.gD h n u (fun q g h1 h2=>hq q g h1 (by omega))];rw[←Nat.add_assoc];cases hg:l[u+n]? with
  |none=>rw[h.stop _ hg]
  |some g=>rw[h.step _ g hg];exact qF (hq (u+n) g (by omega) (by omega) hg)
def Trace.same (h:Trace Γ l env nx VS M){l' u v:Nat}(hq:∀(q:Nat)(g:GI),min u v≤q→q<max u v→l[q]? =some g→l'∉g.i.wr (Src.ev env (VS.take q)) (nx+q)):look (M u) l'=look (M v) l':=by
 rcases Nat.le_total u v with huv|huv
 ·have:=h.gD (l':=l') (v-u) u (fun q g h1 h2=>hq q g (by omega) (by omega));rw[show u+(v-u)=v by omega]at this;exact this.symm
 ·have:=h.gD (l':=l') (u-v) v (fun q g h1 h2=>hq q g (by omega) (by omega));rw[show v+(u-v)=u by omega]at this;exact this
end trace
def ox (acc:List Nat)(p:Nat):∀(es:List Edge),(lW acc es).testBit p=true→∃e∈es,Region.binds .any e=true∧(p=e.on∨(acc.getD e.on 0).testBit p=true)
 |[],h=>by simp[lW]at h
 |e::r,h=>by
  simp only[lW]at h;split at h
  ·rename_i hb;rw[Nat.testBit_or,Bool.or_eq_true,Nat.testBit_or,Bool.or_eq_true]at h;rcases h with(h|h)|h
   ·refine⟨e,.head _,hb,.inl ?_⟩;rw[Nat.testBit_two_pow]at h;simpa using(of_decide_eq_true h).symm
   ·exact⟨e,.head _,hb,.inr h⟩
   ·obtain⟨e',h1,h2⟩:=ox acc p r h;exact⟨e',.tail _ h1,h2⟩
  ·obtain⟨e',h1,h2⟩:=ox acc p r h;exact⟨e',.tail _ h1,h2⟩
def vL:∀(ops:List Oper)(acc:List Nat),(kO acc ops).take acc.length=acc∧(kO acc ops).length=acc.length+ops.length∧
  ∀(j:Nat) (o:Oper),ops[j]? =some o→(kO acc ops).getD (acc.length+j) 0=lW ((kO acc ops).take (acc.length+j)) o.after.toList
 |[],acc=>⟨by simp[kO],by simp[kO],fun j o h=>by simp at h⟩
 |o::r,acc=>by
  obtain⟨a1,a2,a3⟩:=vL r (acc++[lW acc o.after.toList]);simp only[List.length_append,List.length_cons,List.length_nil,Nat.zero_add]at a1 a2 a3;have e:kO acc (o::r)=kO (acc++[lW acc o.after.toList]) r:=rfl;rw[e];have b1:(kO (acc++[lW acc o.after.toList]) r).take acc.length=acc:=by
   have:=congrArg (List.take acc.length) a1;rw[List.take_take,Nat.min_eq_left (by omega)]at this;rw[this];simp
  refine⟨b1,by simp only[List.length_cons];omega,fun j o' hj=>?_⟩;cases j with
  |zero=>
   simp only[List.getElem?_cons_zero,Option.some.injEq]at hj;subst hj;rw[Nat.add_zero,b1];have:((kO (acc++[lW acc o.after.toList]) r).take (acc.length+1)).getD acc.length 0=(kO (acc++[lW acc o.after.toList]) r).getD acc.length 0:=getD_take _ _ _ _ (by omega);rw[←this,a1,bI,if_neg (by omega)];simp
  |succ j=>
   simp only[List.getElem?_cons_succ]at hj;have:=a3 j o' hj
   rwa [show acc.length+1+j=acc.length+(j+1)by omega]at this
def pI:∀(ops:List Oper)(p:Nat),sN p ops=true→∀(j:Nat)(o:Oper),ops[j]? =some o→∀e∈o.after,Region.binds .any e=true→e.on<p+j
 |[],p,_,j,o,h=>by simp at h
 |o::r,p,h,j,o',hj=>by
  simp only[sN,Bool.and_eq_true,List.all_eq_true]at h;cases j with
  |zero=>
   simp only[List.getElem?_cons_zero,Option.some.injEq]at hj;subst hj;intro e he hb;have:=h.1 e (by simpa using he);simpa[hb]using this
  |succ j=>
   intro e he hb;have:=pI r (p+1) h.2 j o' (by simpa using hj) e he hb;omega
def qm (bs:List Nat)(i j:Nat):Prop:=(bs.getD (max j i) 0).testBit (min j i)=true
def ExU (l:List GI)(gj gi:aw)(j i:Nat):Prop:=gj.jB=true∧gi.pT=true∧i<j∧∀q g,i<q→q<j→l[q]? =some g→g.i.calm=true∨g.i.jB=true
structure Order (ops:List Oper)(l:List GI)(bs:List Nat):Prop where
 bef:∀(j:Nat) (o:Oper),ops[j]? =some o→∀p,(bs.getD j 0).testBit p=true→∃e∈o.after,Region.binds .any e=true∧(p=e.on∨(bs.getD e.on 0).testBit p=true)
 edge:∀(j:Nat) (o:Oper),ops[j]? =some o→∀e∈o.after,Region.binds .any e=true→e.on<j
 reads:∀(j p:Nat) (oj op:Oper) (t:Nat),ops[j]? =some oj→ops[p]? =some op→op.dst=some t→t∈tmpsOf ops oj→p=j∨qm bs p j
 effs:∀(j i:Nat) (gj gi:GI),l[j]? =some gj→l[i]? =some gi→gj.i.calm=false→gi.i.free=false→(gi.i.fZ=false∨gj.i.isApp=true)→i=j∨qm bs i j∨ExU l gj.i gi.i j i
def F9 {ops:List Oper}{l:List GI}(h:tF ops l=true):Order ops l (kO [] ops):=by
 simp only[tF,Bool.and_eq_true]at h;obtain⟨h1,h2,_,h4⟩:=h;obtain⟨b1,b2,b3⟩:=vL ops [];simp only[List.length_nil,Nat.zero_add]at b2 b3;refine⟨fun j o hj p hp=>?_,fun j o hj e he hb=>by simpa using pI ops 0 h4 j o hj e he hb,fun j p oj op t hj hp hd ht=>?_,fun j i gj gi hj hi hc hpu hmk=>?_⟩
 ·rw[b3 j o hj]at hp;obtain⟨e,e1,e2,e3⟩:=ox _ _ _ hp;refine⟨e,by simpa using e1,e2,e3.imp id fun h=>?_⟩;by_cases hlt:e.on<j
  ·rwa [getD_take _ _ _ _ hlt]at h
  ·simp only[List.getD,List.getElem?_take,hlt,if_false,Option.getD_none,Nat.zero_testBit]at h;cases h
 ·have hjl:j<ops.length:=(List.getElem?_eq_some_iff.1 hj).1;have hpl:p<ops.length:=(List.getElem?_eq_some_iff.1 hp).1;simp only[Cj,List.all_eq_true,List.mem_range]at h1;have:=h1 j hjl p hpl;simp only[hj,hp,hd,Bool.or_eq_true,beq_iff_eq,Bool.not_eq_true',List.contains_eq_mem,decide_eq_false_iff_not]at this;rcases this with(h|h)|h
  ·exact .inl h
  ·exact absurd ht h
  ·exact .inr h
 ·have hjl:j<l.length:=(List.getElem?_eq_some_iff.1 hj).1;have hil:i<l.length:=(List.getElem?_eq_some_iff.1 hi).1;simp only[Jr,List.all_eq_true,List.mem_range]at h2;have:=h2 j hjl i hil;have hm:(gi.i.fZ&& !gj.i.isApp)=false:=by rcases hmk with h|h<;>simp[h]
  simp only[hj,hi,hc,hpu,hm,Bool.false_or,Bool.or_eq_true,beq_iff_eq]at this;rcases this with(h|h)|h
  ·exact .inl h
  ·exact .inr (.inl h)
  ·right;right;simp only[exU,Bool.and_eq_true,decide_eq_true_eq,List.all_eq_true,List.mem_range,Bool.or_eq_true]at h;obtain⟨x1,x2,x3,x4⟩:=h;refine⟨x1,x2,x3,fun q g hq1 hq2 hg=>?_⟩;have:=x4 q hq2;rw[hg]at this;rcases this with h|h
   ·omega
   ·simpa using h
def K0 {ops:List Oper}{l:List GI}(h:tF ops l=true):(∀g∈l,g.i.cb=false)∨B3 l (kO [] ops)=true:=by
 simp only[tF,Bool.and_eq_true,Bool.or_eq_true]at h;refine h.2.2.1.imp (fun h g hg=>?_) id;simpa using List.all_eq_true.1 h g hg
def AW {l:List GI}{bs:List Nat}(h:B3 l bs=true):∃l' f args,l=l'++[⟨.callM f args,none⟩]∧(∀p,p<l'.length→(bs.getD l'.length 0).testBit p=true)∧∀g∈l',g.i.cb=false:=by
 unfold B3 at h;split at h
 ·rename_i f args hl;rcases List.eq_nil_or_concat l with rfl|⟨l',g,rfl⟩
  ·cases hl
  ·rw[List.concat_eq_append]at hl h⊢;rw[List.getLast?_append,List.getLast?_singleton]at hl;simp only[Option.some_or,Option.some.injEq]at hl;subst hl;simp only[List.length_append,List.length_cons,List.length_nil,Nat.zero_add,Nat.add_sub_cancel,List.dropLast_concat,Bool.and_eq_true,List.all_eq_true,List.mem_range,Bool.not_eq_true']at h;exact⟨l',f,args,rfl,fun p hp=>h.1 p hp,fun g hg=>h.2 g hg⟩
 ·cases h
def Order.pre {ops:List Oper}{o:Oper}{l:List GI}{g:GI}{bs:List Nat}(h:Order (ops++[o]) (l++[g]) bs):Order ops l bs:=by
 have ho:∀{j:Nat} {oj:Oper},ops[j]? =some oj→(ops++[o])[j]? =some oj:=fun hj=>by
  rw[List.getElem?_append_left (List.getElem?_eq_some_iff.1 hj).1];exact hj
 have hl:∀{j:Nat} {gj:GI},l[j]? =some gj→(l++[g])[j]? =some gj:=fun hj=>by
  rw[List.getElem?_append_left (List.getElem?_eq_some_iff.1 hj).1];exact hj
 refine⟨fun j oj hj=>h.bef j oj (ho hj),fun j oj hj=>h.edge j oj (ho hj),fun j p oj op t hj hp hd ht=>h.reads j p oj op t (ho hj) (ho hp) hd ?_,fun j i gj gi hj hi hc hf hm=>?_⟩
 ·unfold tmpsOf at ht⊢;rcases List.mem_append.1 ht with ht|ht
  ·exact List.mem_append_left _ ht
  ·refine List.mem_append_right _ ?_;split at ht
   ·rename_i q w hq;cases hx:ops[q]? with
    |none=>rw[hx]at ht;cases ht
    |some oq=>rw[ho hx];rw[hx]at ht;exact ht
   ·cases ht
 ·rcases h.effs j i gj gi (hl hj) (hl hi) hc hf hm with e|e|⟨e1,e2,e3,e4⟩
  ·exact .inl e
  ·exact .inr (.inl e)
  ·exact .inr (.inr ⟨e1,e2,e3,fun q gq hq1 hq2 hg=>e4 q gq hq1 hq2 (hl hg)⟩)
def zH {d:Bool}{env:List aW}{K:List aW→St→Prop}{b:List GI}:∀(a:List GI)(vs:List aW)(st:St),d=true→(∀g∈a,g.i.cb=false)→fH Γ d (a++b) env vs st K→fH Γ d a env vs st (fun vs' st'=>fH Γ d b env vs' ⟨st'.nx-vs'.length,st'.m⟩ K)
 |[],vs,st,_,_,h=>by
  simp only[fH,List.nil_append]at h⊢;rw[Nat.add_sub_cancel];exact h
 |⟨i,g⟩::r,vs,st,hd,hcm,h=>by
  subst hd;rw[List.cons_append,jL (hcm _ (.head _)) rfl]at h;rw[jL (hcm _ (.head _)) rfl];exact⟨h.1,h.2.1,fun ha=>(h.2.2 ha).imp fun _ h2=>⟨h2.1,zH r _ _ rfl (fun g hg=>hcm g (.tail _ hg)) h2.2⟩⟩
end
end Go.Abs
end
section
namespace Go.Abs
variable [bU]
section
variable {C:CC} {Γ:Ctx}
def filter_lt {p q:Nat→Bool}:∀(l:List Nat),(∀a∈l,q a=true→p a=true)→(∃a∈l,p a=true∧q a=false)→(l.filter q).length<(l.filter p).length
 |[],_,⟨a,h,_⟩=>by cases h
 |b::r,h1,⟨a,h2,h3,h4⟩=>by
  have hle:∀(l:List Nat),(∀a∈l,q a=true→p a=true)→(l.filter q).length≤(l.filter p).length:=by
   intro l;induction l with
   |nil=>intro _;simp
   |cons b r ih=>
    intro h;have:=ih fun a ha=>h a (.tail _ ha)
    have hb:=h b (.head _);rw[List.filter_cons,List.filter_cons];cases hq:q b<;>cases hp:p b<;>simp_all<;>omega
  have hr:=hle r fun a ha=>h1 a (.tail _ ha)
  rw[List.filter_cons,List.filter_cons];cases h2 with
  |head=>simp only[h3,h4,if_true];simp;omega
  |tail _ h2=>
   have ih:=filter_lt r (fun a ha=>h1 a (.tail _ ha)) ⟨a,h2,h3,h4⟩;have hb:=h1 b (.head _);cases hq:q b<;>cases hp:p b<;>simp_all<;>omega
def LP (n:Nat)(listed:Array Bool):Nat:=((List.range n).filter fun p=>!listed.getD p false).length
def eu {listed:Array Bool}{i p:Nat}(h:i<listed.size):(listed.setIfInBounds i true).getD p false=if p=i then true else listed.getD p false:=by
 by_cases e:p=i
 ·subst e;simp[h]
 ·rw[if_neg e];exact getD_set_ne false (Ne.symm e)
def HE {n i:Nat}{listed:Array Bool}(hs:listed.size=n)(hi:i<n)(hl:listed.getD i false=false):LP n (listed.setIfInBounds i true)<LP n listed:=by
 refine filter_lt _ (fun a _ ha=>?_) ⟨i,by simpa using hi,by rw[hl];rfl,by rw[eu (by omega),if_pos rfl];rfl⟩;rw[eu (by omega)]at ha;split at ha
 ·simp at ha
 ·exact ha
def K7 {defs:List (Option Nat)}{o:Oper}{i:aw}(hc:C.op defs o=some i)(h1:i.calm=false)(h2:i.isApp=false)(h3:i.cb=false):
  ∃s,(∃p∈o.op.operands.toList,C.src defs p=some s)∧(∀(ρ:Src→aW) (L:Nat),i.wr ρ L=bM (ρ s).d)∧∀(ρ:Src→aW) (m:List (Nat×aV)),i.cE Γ ρ m→(ρ s).ok=true∧((∃l k i o,(ρ s).d=.ptr l k i o)∨∃l,(ρ s).d=.it l):=by
 cases ho:o.op with
 |store t p q=>
  simp only[CC.op,ho]at hc;split at hc
  ·rename_i a b ha hb;split at hc
   ·cases hc
   ·simp only[Option.some.injEq]at hc;subst hc;refine⟨a,⟨p,by simp[Op.operands],ha⟩,fun _ _=>rfl,fun ρ m hob=>⟨hob.1,.inl ?_⟩⟩;have:=hob.2.2.2;cases hd:(ρ a).d<;>simp only[hd]at this;exact⟨_,_,_,_,rfl⟩
  ·cases hc
 |next it b=>
  cases b
  ·simp[CC.op,ho]at hc
  ·simp only[CC.op,ho,Option.map_eq_some_iff]at hc;obtain⟨s,hs,rfl⟩:=hc;refine⟨s,⟨it,by simp[Op.operands],hs⟩,fun _ _=>rfl,fun ρ m hob=>⟨hob.1,.inr ?_⟩⟩;have:=hob.2;cases hd:(ρ s).d<;>simp only[hd]at this;exact⟨_,rfl⟩
 |call c=>
  obtain⟨callee,args,argTypes⟩:=c;cases callee with
  |builtin bu=>
   cases bu with
   |len=>simp only[CC.op,ho]at hc;(repeat' split at hc)<;>simp only[Option.some.injEq,reduceCtorEq]at hc<;>subst hc<;>simp[aw.calm]at h1
   |append=>simp only[CC.op,ho]at hc;(repeat' split at hc)<;>simp only[Option.some.injEq,reduceCtorEq]at hc<;>subst hc<;>simp[aw.isApp]at h2
   |_=>simp[CC.op,ho]at hc
  |value f=>
   cases f with
   |func fid=>
    simp only[CC.op,ho]at hc;split at hc
    ·rename_i n ss k1 k2;split at hc
     ·simp only[Option.some.injEq]at hc;subst hc;simp[aw.cb]at h3
     ·split at hc
      ·split at hc
       ·rename_i r rest;simp only[Option.some.injEq]at hc;subst hc;have hr:∃p∈args.toList,C.src defs p=some r:=by
         cases hal:args.toList with
         |nil=>rw[hal]at k2;simp[CC.ph]at k2
         |cons q qs=>
          rw[hal]at k2;simp only[CC.ph]at k2;split at k2
          ·rename_i e1 e2;simp only[Option.some.injEq,List.cons.injEq]at k2;obtain⟨rfl,_⟩:=k2;exact⟨q,by simp,e1⟩
          ·cases k2
        obtain⟨p,hp1,hp2⟩:=hr;refine⟨r,⟨p,by simp only[Op.operands,Call.operands];simp at hp1⊢;exact .inr hp1,hp2⟩,fun _ _=>rfl,fun ρ m hob=>⟨hob.1,.inl ?_⟩⟩;have:=hob.2.2.2;cases hd:(ρ r).d<;>simp only[hd]at this;exact⟨_,_,_,_,rfl⟩
       ·cases hc
      ·simp only[Option.some.injEq]at hc;subst hc;simp[aw.calm]at h1
    ·cases hc
   |tmp t=>simp only[CC.op,ho]at hc;(repeat' split at hc)<;>simp only[Option.some.injEq,reduceCtorEq]at hc<;>subst hc<;>first|(simp[aw.calm]at h1;done)|(simp[aw.cb]at h3;done)
   |_=>simp[CC.op,ho]at hc
  |invoke r n=>simp[CC.op,ho]at hc
 |makeFunc fn fst caps=>cases fn<;>simp only[CC.op,ho]at hc<;>(repeat' split at hc)<;>(try simp only[Option.some.injEq,reduceCtorEq]at hc)<;>first
  |(subst hc;simp[aw.calm]at h1)
  |exact hc.elim
  |(simp only[Option.map_eq_some_iff]at hc;obtain⟨_,_,rfl⟩:=hc;simp[aw.calm]at h1)
 |_=>
  simp only[CC.op,ho]at hc
  (try cases hc)<;>(repeat' split at hc)<;>(try simp only[Option.some.injEq,reduceCtorEq,Option.map_eq_some_iff]at hc)<;>first
    |(subst hc;simp[aw.calm]at h1;done)
    |(obtain⟨s,hs,rfl⟩:=hc;simp[aw.calm]at h1;done)
    |exact hc.elim
    |cases hc
structure CH (C:CC)(ops:Array Oper)(l:List GI)(bs:List Nat)(env:List aW)(nx:Nat)(VS:List aW)(M:Nat→List (Nat×aV))(x0:X)(listed:Array Bool)(a:Act)(x:X)(f:Nat→Option aV)(c:Nat):Prop where
 Ik:tm C env (ops.toList.map (·.dst)) VS (fun p=>listed.getD p false=true) a x
 step:Step x0 x
 j9:dz C.ν x f
 size:listed.size=ops.size
 closed:∀j,listed.getD j false=true→∀p,(bs.getD j 0).testBit p=true→listed.getD p false=true
 β:∀l',nx≤l'→(∀p,listed.getD p false=true→l'≠nx+p)→x.β l'=none
 nc:∀(p:Nat) (g:GI),l[p]? =some g→g.i.calm=false→(listed.getD p false=true↔p<c)
 mem:∀l',x.β l'≠none→f l'=look (M (max c (l'+1-nx))) l'
 wrβ:∀(q:Nat) (g:GI),l[q]? =some g→g.i.calm=false→g.i.isApp=false→listed.getD q false=true→∀l'∈g.i.wr (Src.ev env (VS.take q)) (nx+q),x.β l'≠none
section
variable {ops:Array Oper} {l:List GI} {bs:List Nat} {env:List aW} {nx:Nat} {VS:List aW} {M:Nat→List (Nat×aV)} {x0:X} {listed:Array Bool} {a:Act} {x:X} {f:Nat→Option aV} {c:Nat}
def wg (hs:listed.size=ops.size){p:Nat}(h:listed.getD p false=true):p<ops.size:=by
 rcases Nat.lt_or_ge p listed.size with h1|h1
 ·omega
 ·simp[Array.getD,Nat.not_lt.2 h1]at h
def CH.fin (h:CH C ops l bs env nx VS M x0 listed a x f c)(hsp:Spec C ops.toList l)(tr:Trace Γ l env nx VS M)(hall:∀p,p<ops.size→listed.getD p false=true):
  tm C env (ops.toList.map (·.dst)) VS (· <ops.size) a x∧Step x0 x∧dz C.ν x (look (M l.length))∧du ⟨nx+l.length,M l.length⟩ x:=by
 have hlen:l.length=ops.size:=by simpa using hsp.len
 have hβ:∀l',nx+l.length≤l'→x.β l'=none:=fun l' hl'=>h.β l' (by omega) fun p hp=>by have:=wg h.size hp;omega
 refine⟨h.Ik.iff fun p=>⟨fun hp=>hall p hp,fun hp=>wg h.size hp⟩,h.step,h.j9.less fun l'=>?_,hβ,fun l' hl'=>tr.fresh _ _ hl'⟩;by_cases hb:x.β l'=none
 ·exact .inr (.inr hb)
 ·left;rw[h.mem l' hb];have hlt:l'<nx+l.length:=by
   rcases Nat.lt_or_ge l' (nx+l.length)with h1|h1
   ·exact h1
   ·exact absurd (hβ l' h1) hb
  refine tr.same fun q g h1 h2 hg hw=>?_
  have hq:q<l.length:=(List.getElem?_eq_some_iff.1 hg).1;cases hc:g.i.calm with
  |true=>
   have:=iI hc hw;omega
  |false=>
   have:=(h.nc q g hg hc).1 (hall q (by omega));omega
def CH.all (ho:Order ops.toList l bs)(hs:listed.size=ops.size)(hr:Region.ready .any ops listed=[]):∀p,p<ops.size→listed.getD p false=true:=by
 intro p;induction p using Nat.strongRecOn with
 |_ p ih=>
  intro hp;cases hd:listed.getD p false with
  |true=>rfl
  |false=>
   exfalso;have hm:p∈Region.ready .any ops listed:=by
    rw[mem_ready];refine⟨?_,ops[p],by simp[hp],fun e he hb=>?_⟩
    ·have:p<listed.size:=by omega
     simp only[Array.getD,this,dif_pos]at hd⊢;exact hd
    ·have:=ho.edge p ops[p] (by simp[hp]) e he hb;exact ih e.on this (by omega)
   rw[hr]at hm;cases hm
def vK (ho:Order ops.toList l bs)(h:CH C ops l bs env nx VS M x0 listed a x f c){i:Nat}{o:Oper}(hi:ops[i]? =some o)(hni:listed.getD i false=false)
  (hed:∀e∈o.after,Region.binds .any e=true→listed.getD e.on false=true) {p:Nat} (hb:qm bs p i) (hne:p≠i):(p<i→listed.getD p false=true)∧(i≤p→¬listed.getD p false=true):=by
 unfold qm at hb;refine⟨fun hlt=>?_,fun hle hp=>?_⟩
 ·rw[Nat.max_eq_left (by omega),Nat.min_eq_right (by omega)]at hb;obtain⟨e,e1,e2,e3⟩:=ho.bef i o (by simpa using hi) p hb;rcases e3 with rfl|e3
  ·exact hed e e1 e2
  ·exact h.closed _ (hed e e1 e2) p e3
 ·rw[Nat.max_eq_right (by omega),Nat.min_eq_left (by omega)]at hb;have:=h.closed p hp i hb;rw[hni]at this;cases this
def Trace.disU (tr:Trace Γ l env nx VS M){i n:Nat}{ag:Bool}{p:Src}{gd:Option (Nat×Bool)}(hi:l[i]? =some ⟨.ldU n ag p,gd⟩)(hf:flag (VS.take i) gd=true){l':Nat}(hl:l'∈bM (Src.ev env (VS.take i) p).d):
  ∀(j:Nat) (g:GI),i<j→l[j]? =some g→g.i.jB=true→(∀q g,i<q→q<j→l[q]? =some g→g.i.calm=true∨g.i.jB=true)→l'∉g.i.wr (Src.ev env (VS.take j)) (nx+j):=by
 intro j;induction j using Nat.strongRecOn with
 |_ j ih=>
  intro g hij hj hg hbt hw;obtain⟨k1,k2⟩:=tr.cE i _ hi hf;have hne:look (M i) l'≠none:=xO (Γ:=Γ) (i:=.ldU n ag p) ⟨k1,k2⟩ rfl hl;have hlt:=tr.fresh i l' hne;have hc:look (M j) l'=look (M i) l':=tr.same fun q gq q1 q2 hq hqw=>by
   rw[Nat.min_eq_right (by omega)]at q1;rw[Nat.max_eq_left (by omega)]at q2;rcases Nat.lt_or_ge i q with h1|h1
   ·rcases hbt q gq h1 q2 hq with h2|h2
    ·have:=iI h2 hqw;omega
    ·exact ih q q2 gq h1 hq h2 (fun q' g' a b c=>hbt q' g' a (by omega) c) hqw
   ·obtain rfl:q=i:=by omega
    rw[hi]at hq;obtain rfl:=Option.some.inj hq;cases hqw
  obtain⟨gi,gg⟩:=g;cases gi<;>simp only[aw.jB]at hg<;>try cases hg
  rename_i f r args sh;obtain⟨_,_,_,_,h4⟩:=(tr.xn hj).resolve_left (by simp[aw.calm]);cases hd:(Src.ev env (VS.take j) r).d<;>simp only[hd]at h4;rename_i l1 k1' i1 o1;simp only[aw.wr,hd,bM,List.mem_singleton]at hw;subst hw;cases hdp:(Src.ev env (VS.take i) p).d<;>simp only[hdp]at k2<;>rw[hdp]at hl<;>simp only[bM,List.mem_singleton,List.not_mem_nil]at hl;subst hl;have e1:aD (M j) l'=aD (M i) l':=by simp only[aD,hc]
  rw[e1]at h4;obtain⟨_,_,_,h5,h6,_⟩:=h4
  match hb:aD (M i) l',h5,h6,k2.2 with
  |[d],_,h6,h7=>
   simp only[List.getD_cons_zero]at h6;simp[aH,h6]at h7
def Kr {i:aw}{ρ:Src→aW}{L:Nat}(h:i.free=true∨i.pT=true):i.wr ρ L=[]:=by
 rcases h with h|h
 ·exact HQ h
 ·cases i<;>simp_all[aw.pT,aw.wr]
def NB {i:aw}{ρ:Src→aW}{m:List (Nat×aV)}{L:Nat}(h:i.free=true∨i.pT=true):i.bA Γ ρ m L=m:=by
 rcases h with h|h
 ·exact E7 h
 ·cases i<;>simp_all[aw.pT,aw.bA]
def Ko {i:aw}(h:i.pT=true):i.calm=true:=by cases i<;>simp_all[aw.pT,aw.calm]
def Kq {i:aw}(h:i.pT=true):i.free=false:=by cases i<;>simp_all[aw.pT,aw.free,aw.pure]
def U_mk {i:aw}(h:i.pT=true):i.fZ=false:=by cases i<;>simp_all[aw.pT,aw.fZ]
def Jn {i:aw}(h:i.pT=true):∃n ag p,i=.ldU n ag p:=by cases i<;>first|exact⟨_,_,_,rfl⟩|(simp only[aw.pT]at h;cases h)
def yM (hsp:Spec C ops.toList l)(ho:Order ops.toList l bs)(hnM:∀g∈l,g.i.cb=false)(hΓ:Ok C.P C.ν C.bA Γ)(tr:Trace Γ l env nx VS M){Q:Exit→Act→World→Prop}
  (hK:∀a' x',tm C env (ops.toList.map (·.dst)) VS (· <ops.size) a' x'→Step x0 x'→dz C.ν x' (look (M l.length))→du ⟨nx+l.length,M l.length⟩ x'→Q .normal a' x'.w):
  ∀(fuel:Nat) (listed:Array Bool) (a:Act) (x:X) (f:Nat→Option aV) (c:Nat),CH C ops l bs env nx VS M x0 listed a x f c→LP ops.size listed≤fuel→wpAny C.P .any ops Q fuel listed a x.w:=by
 intro fuel;have hlen:l.length=ops.size:=by simpa using hsp.len
 induction fuel with
 |zero=>
  intro listed a x f c h hc;have hall:∀p,p<ops.size→listed.getD p false=true:=by
   intro p hp;have h0:(List.range ops.size).filter (fun p=>!listed.getD p false)=[]:=List.eq_nil_of_length_eq_zero (Nat.le_zero.1 hc);rw[List.filter_eq_nil_iff]at h0;simpa using h0 p (by simpa using hp)
  refine⟨?_, ?_⟩
  ·rw[List.eq_nil_iff_forall_not_mem];intro j hj;obtain⟨h1,o,h2,_⟩:=mem_ready.1 hj;have hjl:j<ops.size:=(Array.getElem?_eq_some_iff.1 h2).1;have:=hall j hjl;have hjs:j<listed.size:=by rw[h.size];exact hjl
   simp only[Array.getD,hjs,dif_pos]at h1 this;rw[this]at h1;cases h1
  ·obtain⟨q1,q2,q3,q4⟩:=h.fin hsp tr hall;exact hK a x q1 q2 q3 q4
 |succ fuel ih=>
  intro listed a x f c h hc;refine⟨fun hr=>?_,fun i hi=>?_⟩
  ·obtain⟨q1,q2,q3,q4⟩:=h.fin hsp tr (CH.all ho h.size hr);exact hK a x q1 q2 q3 q4
  ·obtain⟨h1,o,h2,hed⟩:=mem_ready.1 hi;have hil:i<ops.size:=(Array.getElem?_eq_some_iff.1 h2).1;have his:i<listed.size:=by rw[h.size];exact hil
   have hni:listed.getD i false=false:=by simp only[Array.getD,his,dif_pos]at h1⊢;exact h1
   have ho':ops.toList[i]? =some o:=by simpa using h2
   obtain⟨⟨ins,gd⟩,hg1,hg2,hg3⟩:=hsp.op i o ho';simp only at hg2 hg3;have hdst:(ops.toList.map (·.dst))[i]? =some o.dst:=by rw[List.getElem?_map,ho',Option.map_some]
   have hcm:ins.cb=false:=hnM _ (List.mem_of_getElem? hg1);have hreads:∀t p,t∈tmpsOf ops.toList o→(ops.toList.map (·.dst))[p]? =some (some t)→(p<i→listed.getD p false=true)∧(i≤p→¬listed.getD p false=true):=by
    intro t p ht hp;rw[List.getElem?_map,Option.map_eq_some_iff]at hp;obtain⟨op,hp1,hp2⟩:=hp;rcases ho.reads i p o op t ho' hp1 hp2 ht with rfl|hb
    ·exact⟨fun h=>by omega,fun _=>by rw[hni];simp⟩
    ·by_cases hpi:p=i
     ·subst hpi;exact⟨fun h=>by omega,fun _=>by rw[hni];simp⟩
     ·exact vK ho h h2 hni hed hb hpi
   have hρ:rA C ((ops.toList.map (·.dst)).take i) (Src.ev env (VS.take i)) a.eval x o.op.operands.toList:=
    h.Ik.rho fun t p ht hp=>hreads t p (List.mem_append_left _ (List.mem_filterMap.2 ⟨.tmp t,ht,rfl⟩)) hp
   have hcst:∀d,Src.ev env (VS.take i) (.c d)=⟨true,d⟩:=fun _=>rfl
   have hgk:=tr.Fg i _ hg1;obtain⟨hent1,hent2⟩:=tr.ent i _ hg1;have hMs:=tr.step i _ hg1;simp only at hgk hent1 hent2 hMs;have hwant:Region.wanted o (yielded ops a.tmps)=flag (VS.take i) gd:=by
    refine ja (g:=⟨ins,gd⟩) h.Ik hg3 (fun j w hg hji=>?_) (Fh hgk)

    simp only[hg,CC.guard]at hg3;split at hg3
    ·rename_i t hj;rw[List.getElem?_take,if_pos hji]at hj;refine(hreads t j (List.mem_append_right _ ?_) hj).1 hji;rw[List.getElem?_map,Option.map_eq_some_iff]at hj;obtain⟨oj,hj1,hj2⟩:=hj;simp[hg,hj1,hj2]
    ·cases hg3
   have hput:∀(v:Value) (x':X),Le x x'→((VS.getD i .un).ok=true→RD C.ν x' v (VS.getD i .un).d)→((VS.getD i .un).ok=false→v=undef)→
     tm C env (ops.toList.map (·.dst)) VS (fun p=>(listed.setIfInBounds i true).getD p false=true) (a.put o.dst v) x':=by
    intro v x' hle e1 e2;refine h.Ik.put (i:=i) hle hdst (fun t ht=>⟨(hsp.dst i o t ho' ht).1,fun p hp e'=>hp (hsp.distinct (by rw[hdst,ht]) e')⟩) e1 e2 (fun p=>?_);rw[eu his];by_cases e:p=i
    ·simp[e]
    ·simp[e]
   have hclosed:∀j,(listed.setIfInBounds i true).getD j false=true→∀p,(bs.getD j 0).testBit p=true→(listed.setIfInBounds i true).getD p false=true:=by
    intro j hj p hp;rw[eu his]at hj⊢;by_cases e:p=i
    ·rw[if_pos e]
    ·rw[if_neg e];by_cases ej:j=i
     ·subst ej;obtain⟨e',e1,e2,e3⟩:=ho.bef j o ho' p hp;rcases e3 with rfl|e3
      ·exact hed e' e1 e2
      ·exact h.closed _ (hed e' e1 e2) p e3
     ·rw[if_neg ej]at hj;exact h.closed j hj p hp
   have hcnt:LP ops.size (listed.setIfInBounds i true)≤fuel:=by have:=HE h.size hil hni;omega
   have hsz:(listed.setIfInBounds i true).size=ops.size:=by simp[h.size]
   have hL:x.β (nx+i)=none:=h.β _ (by omega) fun p hp e=>by
    have:p=i:=by omega
    subst this;rw[hni]at hp;cases hp
   have hset:∀p,p≠i→((listed.setIfInBounds i true).getD p false=true↔listed.getD p false=true):=fun p hp=>by rw[eu his,if_neg hp]
   unfold wpOp;simp only[h2,hwant];cases hfg:flag (VS.take i) gd with
   |false=>
    rw[if_neg (by simp)];have hcalm:ins.calm=true:=by
     cases gd with
     |none=>simp[flag]at hfg
     |some jw=>obtain⟨j,w⟩:=jw;exact hgk.1
    refine ih _ _ x f c ⟨hput undef x (Le.refl x) (fun e=>by rw[hent1,hfg]at e;cases e) (fun _=>rfl),h.step,h.j9,hsz,hclosed,fun l' hl' hp=>h.β l' hl' fun p hp'=>?_,fun p g hp hpc=>?_,h.mem,fun p g hp hpc hpa hpl l' hl'=>?_⟩ hcnt
    ·refine hp p ?_;rw[eu his];split
     ·rfl
     ·exact hp'
    ·by_cases e:p=i
     ·subst e;rw[hg1]at hp;obtain rfl:=Option.some.inj hp;rw[hcalm]at hpc;cases hpc
     ·rw[hset p e];exact h.nc p g hp hpc
    ·by_cases e:p=i
     ·subst e;rw[hg1]at hp;obtain rfl:=Option.some.inj hp;rw[hcalm]at hpc;cases hpc
     ·exact h.wrβ p g hp hpc hpa ((hset p e).1 hpl) l' hl'
   |true=>
    rw[if_pos rfl];left;have hob:=tr.cE i _ hg1 hfg;simp only at hob

    have hf1:dz C.ν x (fun l'=>if x.β l'=none then look (M i) l' else f l'):=h.j9.less fun l'=>by
     by_cases hb:x.β l'=none
     ·exact .inr (.inr hb)
     ·left;simp[hb]

    have hnear0:ins.free=false→∀q g,l[q]? =some g→g.i.calm=false→(ins.fZ=false∨g.i.isApp=true)→q≠i→(q<i↔q<c)∨ExU l g.i ins q i:=by
     intro hpu q g hq hqc hmk hqi;rcases ho.effs q i g ⟨ins,gd⟩ hq hg1 hqc hpu hmk with e|hb|hx
     ·exact absurd e.symm hqi
     rotate_left
     ·exact .inr hx
     ·left;have hb':qm bs q i:=by unfold qm at hb⊢;rwa [Nat.max_comm,Nat.min_comm]
      obtain⟨b1,b2⟩:=vK ho h h2 hni hed hb' hqi;have hnc:=h.nc q g hq hqc;constructor
      ·intro hlt;exact hnc.1 (b1 hlt)
      ·intro hlt;rcases Nat.lt_or_ge q i with h3|h3
       ·exact h3
       ·exact absurd (hnc.2 hlt) (b2 h3)
    have hnear:ins.pT=false→ins.free=false→∀q g,l[q]? =some g→g.i.calm=false→(ins.fZ=false∨g.i.isApp=true)→q≠i→(q<i↔q<c):=by
     intro hu hpu q g hq hqc hmk hqi;exact(hnear0 hpu q g hq hqc hmk hqi).resolve_right fun hx=>by rw[hx.2.1]at hu;cases hu
    have hag:yj (fun l'=>if x.β l'=none then look (M i) l' else f l') (M i) (ins.jF (Src.ev env (VS.take i))):=by
     have key:ins.pT=false→ins.free=false→ins.fZ=false→∀l',look (M i) l'≠none→(if x.β l'=none then look (M i) l' else f l')=look (M i) l':=by
      intro hu hpu hmk l' hl';by_cases hb:x.β l'=none
      ·rw[if_pos hb]
      ·rw[if_neg hb,h.mem l' hb];have hlt:=tr.fresh i l' hl';refine tr.same fun q g q1 q2 hq hw=>?_
       by_cases hqi:q=i
       ·subst hqi;cases hqc:g.i.calm with
        |true=>have:=iI hqc hw;omega
        |false=>
         have h5:=h.nc q g hq hqc;rw[hni]at h5;have:¬q<c:=fun e=>by cases h5.2 e
         omega
       ·cases hqc:g.i.calm with
        |true=>have:=iI hqc hw;omega
        |false=>have:=hnear hu hpu q g hq hqc (.inl hmk) hqi;omega
     have keyU:ins.pT=true→∀ls,ins.jF (Src.ev env (VS.take i))=some ls→∀l'∈ls,(if x.β l'=none then look (M i) l' else f l')=look (M i) l':=by
      intro hu ls hls l' hl';have hl'':=xO hob hls hl';by_cases hb:x.β l'=none
      ·rw[if_pos hb]
      ·rw[if_neg hb,h.mem l' hb];have hlt:=tr.fresh i l' hl'';have hpu:=Kq hu;have hmk:=U_mk hu;refine tr.same fun q g q1 q2 hq hw=>?_
       by_cases hqi:q=i
       ·subst hqi;rw[hg1]at hq;obtain rfl:=Option.some.inj hq;rw[Kr (.inr hu)]at hw;cases hw
       ·cases hqc:g.i.calm with
        |true=>have:=iI hqc hw;omega
        |false=>
         rcases hnear0 hpu q g hq hqc (.inl hmk) hqi with h5|⟨h5,_,h6,h7⟩
         ·omega
         ·obtain⟨_,_,_,rfl⟩:=Jn hu;simp only[aw.jF,Option.some.injEq]at hls;subst hls;exact tr.disU hg1 hfg hl' q g h6 hq h5 h7 hw
     cases hu:ins.pT with
     |true=>
      cases htc:ins.jF (Src.ev env (VS.take i))with
      |none=>obtain⟨_,_,_,rfl⟩:=Jn hu;cases htc
      |some ls=>exact keyU hu ls htc
     |false=>
     cases hpu:ins.free with
     |true=>rw[E8 hpu hob];intro l' hl';cases hl'
     |false=>
      cases hmk:ins.fZ with
      |true=>rw[DB hmk];intro l' hl';cases hl'
      |false=>
       cases htc:ins.jF (Src.ev env (VS.take i))with
       |none=>exact key hu hpu hmk
       |some ls=>exact fun l' hl'=>key hu hpu hmk l' (xO hob htc hl')
    refine(xR (L:=nx+i) hg2 hcm hΓ hρ hcst hob hf1 hag hL (by
     show(if x.β (nx+i)=none then look (M i) (nx+i)else f (nx+i))=none;rw[if_pos hL];cases hx:look (M i) (nx+i)with
     |none=>rfl
     |some b=>have:=tr.fresh i (nx+i) (by rw[hx];simp);omega)).wp (fun v x' hG=>?_)
    obtain⟨g1,g2,g3,g4⟩:=hG;rw[←hMs]at g3;refine ih _ _ x' _ (if ins.free=true∨ins.fZ=true∨ins.pT=true then c else i+1) ⟨hput v x' g1.le (fun _=>by rw[←hent2 hfg];exact g2) (fun e=>by rw[hent1,hfg]at e;cases e),h.step.trans g1,g3,hsz,hclosed,fun l' hl' hp=>?_,fun p g hp hpc=>?_,fun l' hl'=>?_,fun p g hp hpc hpa hpl l' hl'=>?_⟩ hcnt
    ·have hne:l'≠nx+i:=hp i (by rw[eu his,if_pos rfl]);rw[g4 l' hne];refine h.β l' hl' fun p hp'=>hp p ?_
     rw[eu his];split
     ·rfl
     ·exact hp'
    ·by_cases e:p=i
     ·subst e;rw[hg1]at hp;obtain rfl:=Option.some.inj hp;have hpf:¬(ins.free=true∨ins.fZ=true∨ins.pT=true):=by
       rintro(hpu|hpu|hpu)
       ·have:=C8 hpu;simp only at hpc;rw[this]at hpc;cases hpc
       ·have:=uj hpu;simp only at hpc;rw[this]at hpc;cases hpc
       ·have:=Ko hpu;simp only at hpc;rw[this]at hpc;cases hpc
      rw[if_neg hpf,eu his,if_pos rfl];simp
     ·rw[hset p e];by_cases hpu:ins.free=true∨ins.fZ=true∨ins.pT=true
      ·rw[if_pos hpu];exact h.nc p g hp hpc
      ·rw[if_neg hpu];have hf0:ins.free=false:=by cases hh:ins.free with|false=>rfl|true=>exact absurd (.inl hh) hpu
       have hm0:ins.fZ=false:=by cases hh:ins.fZ with|false=>rfl|true=>exact absurd (.inr (.inl hh)) hpu
       have hu0:ins.pT=false:=by cases hh:ins.pT with|false=>rfl|true=>exact absurd (.inr (.inr hh)) hpu
       have h3:=hnear hu0 hf0 p g hp hpc (.inl hm0) e;have h4:=h.nc p g hp hpc;constructor
       ·intro h5;have:=h4.1 h5;omega
       ·intro h5;exact h4.2 (h3.1 (by omega))
    ·by_cases hlL:l'=nx+i
     ·
      subst hlL;have hMi:look (M i) (nx+i)=none:=by
       cases hx:look (M i) (nx+i)with
       |none=>rfl
       |some b=>have:=tr.fresh i (nx+i) (by rw[hx];simp);omega
      by_cases hst:ins.free=true∨ins.pT=true
      ·rw[if_pos (hst.elim .inl fun h=>.inr (.inr h)),Kr hst];rw[show fB (fun l'=>if x.β l'=none then look (M i) l' else f l') [] (M (i+1))=(fun l'=>if x.β l'=none then look (M i) l' else f l')from pw];simp only[if_pos hL];have hM1:M (i+1)=M i:=by rw[hMs];exact NB hst
       have:∀n,look (M (i+1+n)) (nx+i)=none:=by
        intro n;induction n with
        |zero=>rw[Nat.add_zero,hM1];exact hMi
        |succ n ihn=>
         rw[←Nat.add_assoc];cases hg:l[i+1+n]? with
         |none=>rw[tr.stop _ hg];exact ihn
         |some g=>
          cases hx:look (M (i+1+n+1)) (nx+i)with
          |none=>rfl
          |some b=>
           rw[tr.step _ g hg]at hx;have hco:g.i.calm=true∨g.i.cE Γ (Src.ev env (VS.take (i+1+n))) (M (i+1+n)):=(tr.xn hg).imp id (·.2);rcases pJ hco (l:=nx+i) (by rw[hx];simp)with e|e
           ·exact absurd ihn e
           ·omega
       have:=this (max c (nx+i+1-nx) -(i+1));rw[show i+1+(max c (nx+i+1-nx) -(i+1))=max c (nx+i+1-nx)by omega]at this;rw[this];exact hMi
      ·have hpu:ins.free=false:=by cases hh:ins.free with|false=>rfl|true=>exact absurd (.inl hh) hst
       have hu:ins.pT=false:=by cases hh:ins.pT with|false=>rfl|true=>exact absurd (.inr hh) hst
       have e0:fB (fun l'=>if x.β l'=none then look (M i) l' else f l') (ins.wr (Src.ev env (VS.take i)) (nx+i)) (M (i+1)) (nx+i)=look (M (i+1)) (nx+i):=by
        simp only[fB];split
        ·rfl
        ·rename_i hw;rw[hMs,qF hw]
       rw[e0];cases hmk:ins.fZ with
       |false=>rw[if_neg (by simp[hpu,hu]),show max (i+1) (nx+i+1-nx)=i+1 by omega]
       |true=>
        rw[if_pos (.inr (.inl rfl))];refine tr.same fun q g q1 q2 hq hqw=>?_
        cases hqc:g.i.calm with
        |true=>have:=iI hqc hqw;omega
        |false=>
         cases hqa:g.i.isApp with
         |true=>have:=hnear hu hpu q g hq hqc (.inr hqa) (by omega);omega
         |false=>exact h.wrβ q g hq hqc hqa ((h.nc q g hq hqc).2 (by omega)) _ hqw hL
     ·rw[g4 l' hlL]at hl';by_cases hst:ins.free=true∨ins.pT=true
      ·rw[if_pos (hst.elim .inl fun h=>.inr (.inr h)),Kr hst];rw[show fB (fun l'=>if x.β l'=none then look (M i) l' else f l') [] (M (i+1))=(fun l'=>if x.β l'=none then look (M i) l' else f l')from pw];simp only[if_neg hl'];exact h.mem l' hl'
      ·have hpu:ins.free=false:=by cases hh:ins.free with|false=>rfl|true=>exact absurd (.inl hh) hst
       have hu:ins.pT=false:=by cases hh:ins.pT with|false=>rfl|true=>exact absurd (.inr hh) hst
       cases hmk:ins.fZ with
       |true=>
        rw[if_pos (.inr (.inl rfl))];have hw:l'∉ins.wr (Src.ev env (VS.take i)) (nx+i):=fun hw=>hlL (iI (uj hmk) hw)
        simp only[fB,if_neg hw,if_neg hl'];exact h.mem l' hl'
       |false=>
       rw[if_neg (by simp[hpu,hu])];simp only[fB];split
       ·rename_i hw;rcases FQ hob hw with e|e
        ·exact absurd e hlL
        ·have:=tr.fresh i l' e;rw[show max (i+1) (l'+1-nx)=i+1 by omega]
       ·rename_i hw;rw[h.mem l' hl'];refine tr.same fun q g q1 q2 hq hqw=>?_
        by_cases hqi:q=i
        ·subst hqi;rw[hg1]at hq;obtain rfl:=Option.some.inj hq;exact hw hqw
        ·cases hqc:g.i.calm with
         |true=>have:=iI hqc hqw;omega
         |false=>have:=hnear hu hpu q g hq hqc (.inl hmk) hqi;omega
    ·by_cases e:p=i
     ·subst e;rw[hg1]at hp;obtain rfl:=Option.some.inj hp;rcases hg2 with hg2|⟨n',ag',s',rfl,_⟩|⟨k',y',rfl,_⟩|⟨k',z',n',ps',rfl,_⟩|⟨n',ag',s',rfl,_⟩
      ·obtain⟨s,⟨q,hq1,hq2⟩,hs2,hs3⟩:=K7 (Γ:=Γ) hg2 hpc hpa hcm;rw[hs2]at hl';obtain⟨hok,hd⟩:=hs3 _ _ hob;have hrd:=hρ q hq1 s hq2 hok;generalize a.eval q=vq at hrd;rcases hd with⟨l1,k1,i1,o1,hd⟩|⟨l1,hd⟩
       ·rw[hd]at hrd hl';simp only[bM,List.mem_singleton]at hl';subst hl';cases hrd with
        |ptr _ _ _ _ b base tot at_ hβ hat=>rw[g1.β _ _ hβ];simp
       ·rw[hd]at hrd hl';simp only[bM,List.mem_singleton]at hl';subst hl';cases hrd with
        |it _ b base tot hβ=>rw[g1.β _ _ hβ];simp
      ·cases hpc
      ·cases hpc
      ·cases hpc
      ·cases hpc
     ·have h7:=h.wrβ p g hp hpc hpa ((hset p e).1 hpl) l' hl';cases hb:x.β l' with
      |none=>exact absurd hb h7
      |some y=>rw[g1.β _ _ hb];simp
end
section
variable {ops:Array Oper} {l:List GI} {bs:List Nat}
def Fy (P:Program)(ops:Array Oper)(n:Nat)(Q:Exit→Act→World→Prop):Exit→Act→World→Prop:=fun e a w=>match e with
 | .normal=>wpOp P ops Q n (fun a w=>Q .normal a w) a w
 |e=>Q e a w
def G4 {P:Program}{n i:Nat}(hsz:ops.size=n+1)(hi:i<n)(hg:∀o,ops[i]? =some o→∀j w,o.guard=some (j,w)→j<n){Q:Exit→Act→World→Prop}{K:Act→World→Prop}{a:Act}{w:World}
  (h:wpOp P ops.pop (Fy P ops n Q) i K a w):wpOp P ops Q i K a w:=by
 have hp:∀j,j<n→ops.pop[j]? =ops[j]? :=fun j hj=>by rw[Array.getElem?_pop,if_pos (by omega)]
 unfold wpOp at h⊢;rw[hp i hi]at h;cases ho:ops[i]? with
 |none=>rw[ho]at h;exact h
 |some o=>
  rw[ho]at h;simp only at h⊢;have hw:Region.wanted o (yielded ops.pop a.tmps)=Region.wanted o (yielded ops a.tmps):=by
   unfold Region.wanted;cases hgd:o.guard with
   |none=>rfl
   |some jw=>obtain⟨j,b⟩:=jw;simp only[yielded,hp j (hg o ho j b hgd)]
  rw[hw]at h;split
  ·rename_i hw2;rw[if_pos hw2]at h;refine h.imp (fun h=>?_) (fun h=>⟨h.1,h.2⟩);unfold Oper.wp at h⊢;generalize (execOp a.eval o).run P w=r at h⊢;cases r with
   |ok nx w'=>cases nx<;>exact h
   |halt x w'=>cases x<;>exact h
  ·rename_i hw2;rw[if_neg hw2]at h;exact h
def EF {P:Program}{n:Nat}(hsz:ops.size=n+1)(ho:Order ops.toList l bs)(hfull:∀p,p<n→(bs.getD n 0).testBit p=true)(hg:∀(i:Nat)(o:Oper),ops[i]? =some o→∀j w,o.guard=some (j,w)→j<i){Q:Exit→Act→World→Prop}:
  ∀(fuel:Nat) (listed:Array Bool) (a:Act) (w:World),listed.size=n+1→listed.getD n false=false→(∀j,listed.getD j false=true→∀p,(bs.getD j 0).testBit p=true→listed.getD p false=true)→
   wpAny P .any ops.pop (Fy P ops n Q) fuel listed.pop a w→wpAny P .any ops Q (fuel+1) listed a w:=by
 have hp:∀j,j<n→ops.pop[j]? =ops[j]? :=fun j hj=>by rw[Array.getElem?_pop,if_pos (by omega)]
 have hlp:∀(listed:Array Bool),listed.size=n+1→∀j d,j<n→listed.pop.getD j d=listed.getD j d:=fun listed hl j d hj=>by
  simp only[Array.getD_eq_getD_getElem?,Array.getElem?_pop,if_pos (show j<listed.size-1 by omega)]

 have hrd:∀(listed:Array Bool),listed.size=n+1→∀i,i<n→(i∈Region.ready .any ops listed↔i∈Region.ready .any ops.pop listed.pop):=by
  intro listed hl i hi;rw[mem_ready,mem_ready,hp i hi,hlp listed hl i true hi];refine and_congr_right fun _=>exists_congr fun o=>and_congr_right fun ho'=>forall_congr' fun e=>imp_congr_right fun he=>imp_congr_right fun hb=>?_
  have:=ho.edge i o (by simpa using ho') e he hb;rw[hlp listed hl e.on false (by omega)]
 have hlast:∀(listed:Array Bool),listed.size=n+1→(∀j,listed.getD j false=true→∀p,(bs.getD j 0).testBit p=true→listed.getD p false=true)→n∈Region.ready .any ops listed→∀p,p<n→listed.getD p false=true:=by
  intro listed hl hcl hn p hpn;obtain⟨_,o,ho',hed⟩:=mem_ready.1 hn;obtain⟨e,e1,e2,e3⟩:=ho.bef n o (by simpa using ho') p (hfull p hpn);rcases e3 with rfl|e3
  ·exact hed e e1 e2
  ·exact hcl _ (hed e e1 e2) p e3
 have hdone:∀(fuel:Nat) (listed:Array Bool) (a:Act) (w:World),listed.size=n+1→(∀p,p<n+1→listed.getD p false=true)→Q .normal a w→wpAny P .any ops Q fuel listed a w:=by
  intro fuel listed a w hl hall hq;have hr:Region.ready .any ops listed=[]:=by
   rw[List.eq_nil_iff_forall_not_mem];intro j hj;obtain⟨h1,o,h2,_⟩:=mem_ready.1 hj;have hjl:j<n+1:=by have:=(Array.getElem?_eq_some_iff.1 h2).1;omega
   have h3:=hall j hjl;have hjs:j<listed.size:=by omega
   simp only[Array.getD,hjs,dif_pos]at h1 h3;rw[h3]at h1;cases h1
  cases fuel with
  |zero=>exact⟨hr,hq⟩
  |succ fuel=>exact⟨fun _=>hq,fun i hi=>by rw[hr]at hi;cases hi⟩
 have hrest:∀(fuel:Nat) (listed:Array Bool) (a:Act) (w:World),listed.size=n+1→listed.getD n false=false→(∀j,listed.getD j false=true→∀p,(bs.getD j 0).testBit p=true→listed.getD p false=true)→n∈Region.ready .any ops listed→
   Fy P ops n Q .normal a w→wpOp P ops Q n (wpAny P .any ops Q fuel (listed.setIfInBounds n true)) a w:=by
  intro fuel listed a w hl hn hcl hr hq;refine wpOp_mono (fun a w hq=>hdone fuel _ a w (by simp[hl]) (fun p hp'=>?_) hq) hq;rw[eu (by omega)];split
  ·rfl
  ·exact hlast listed hl hcl hr p (by omega)

 have hend:∀(listed:Array Bool),listed.size=n+1→listed.getD n false=false→Region.ready .any ops.pop listed.pop=[]→n∈Region.ready .any ops listed:=by
  intro listed hl hn hr;have hall:∀p,p<n→listed.getD p false=true:=by
   intro p;induction p using Nat.strongRecOn with
   |_ p ih=>
    intro hpn;cases hd:listed.getD p false with
    |true=>rfl
    |false=>
     exfalso;have hm:p∈Region.ready .any ops listed:=by
      rw[mem_ready];refine⟨?_,ops[p],by simp[show p<ops.size by omega],fun e he hb=>?_⟩
      ·have:p<listed.size:=by omega
       simp only[Array.getD,this,dif_pos]at hd⊢;exact hd
      ·have:=ho.edge p ops[p] (by simp[show p<ops.size by omega]) e he hb;exact ih e.on this (by omega)
     rw[hrd listed hl p hpn,hr]at hm;cases hm
  rw[mem_ready];refine⟨?_,ops[n],by simp[hsz],fun e he hb=>hall _ (ho.edge n ops[n] (by simp[hsz]) e he hb)⟩;have:n<listed.size:=by omega
  simp only[Array.getD,this,dif_pos]at hn⊢;exact hn
 intro fuel;induction fuel with
 |zero=>
  intro listed a w hl hn hcl h;obtain⟨h1,h2⟩:=h;refine⟨fun hr=>?_,fun i hi=>?_⟩
  ·have:=hend listed hl hn h1;rw[hr]at this;cases this
  ·have hin:i=n:=by
    rcases Nat.lt_or_ge i n with h3|h3
    ·rw[hrd listed hl i h3,h1]at hi;cases hi
    ·obtain⟨_,o,ho',_⟩:=mem_ready.1 hi;have:=(Array.getElem?_eq_some_iff.1 ho').1;omega
   subst hin;exact hrest 0 listed a w hl hn hcl hi h2
 |succ fuel ih=>
  intro listed a w hl hn hcl h;obtain⟨h1,h2⟩:=h;refine⟨fun hr=>?_,fun i hi=>?_⟩
  ·have hr':Region.ready .any ops.pop listed.pop=[]:=by
    rw[List.eq_nil_iff_forall_not_mem];intro j hj;have hjn:j<n:=by
     obtain⟨_,o,ho',_⟩:=mem_ready.1 hj;have:=(Array.getElem?_eq_some_iff.1 ho').1;simp only[Array.size_pop]at this;omega
    rw[←hrd listed hl j hjn,hr]at hj;cases hj
   have:=hend listed hl hn hr';rw[hr]at this;cases this
  ·rcases Nat.lt_or_ge i n with h3|h3
   ·have hi':=(hrd listed hl i h3).1 hi;have h4:=h2 i hi';obtain⟨_,o,ho',hed⟩:=mem_ready.1 hi;refine G4 hsz h3 (fun o' ho2 j b hj=>by have:=hg i o' ho2 j b hj;omega) (wpOp_mono (fun a w hh=>ih (listed.setIfInBounds i true) a w (by simp[hl]) ?_ ?_ ?_) h4)
    ·rw[eu (by omega),if_neg (by omega)];exact hn
    ·intro j hj p hp';rw[eu (by omega)]at hj⊢;by_cases e:p=i
     ·rw[if_pos e]
     ·rw[if_neg e];by_cases ej:j=i
      ·subst ej;obtain⟨e',e1,e2,e3⟩:=ho.bef j o (by simpa using ho') p hp';rcases e3 with rfl|e3
       ·exact hed e' e1 e2
       ·exact hcl _ (hed e' e1 e2) p e3
      ·rw[if_neg ej]at hj;exact hcl j hj p hp'
    ·have:(listed.setIfInBounds i true).pop=listed.pop.setIfInBounds i true:=by
      apply Array.ext
      ·simp
      ·intro q h5 h6;simp only[Array.size_pop,Array.size_setIfInBounds]at h5;rw[Array.getElem_pop,Array.getElem_setIfInBounds,Array.getElem_setIfInBounds,Array.getElem_pop]
       (first|exact(by simpa using h5)|omega)
     rw[this];exact hh
   ·have hin:i=n:=by
     obtain⟨_,o,ho',_⟩:=mem_ready.1 hi;have:=(Array.getElem?_eq_some_iff.1 ho').1;omega
    subst hin;have hr':Region.ready .any ops.pop listed.pop=[]:=by
     rw[List.eq_nil_iff_forall_not_mem];intro j hj;obtain⟨hj1,o,ho',_⟩:=mem_ready.1 hj;have hjn:j<i:=by
      have:=(Array.getElem?_eq_some_iff.1 ho').1;simp only[Array.size_pop]at this;omega
     rw[hlp listed hl j true hjn]at hj1;have:=hlast listed hl hcl hi j hjn;have hjs:j<listed.size:=by omega
     simp only[Array.getD,hjs,dif_pos]at hj1 this;rw[this]at hj1;cases hj1
    exact hrest _ listed a w hl hn hcl hi (h1 hr')
end
end
end Go.Abs
end
section
namespace Go.Abs
variable [bU]
section
variable {C:CC} {Γ:Ctx}
structure Inv (C:CC)(a:Act)(x:X)(env:List aW)(st:St):Prop where
 len:env.length=C.slots.length
 env:∀n t:Nat,C.slots[n]? =some t→(env.getD n .un).ok=true→RD C.ν x (a.tmps.getD t undef) (env.getD n .un).d
 size:a.tmps.size=C.ntmps
 defers:a.defers=[]
 j9:dz C.ν x (look st.m)
 fresh:du st x
def Inv.Ik {a:Act}{x:X}{env:List aW}{st:St}(h:Inv C a x env st)(DD:List (Option Nat))(VS:List aW){D:Nat→Prop}(hD:∀p,¬D p):tm C env DD VS D a x:=
 ⟨fun p t hp=>absurd hp (hD p),fun p t hp=>absurd hp (hD p),fun n t hn _ ho=>h.env n t hn ho,h.size,h.defers⟩
def tD (vs:List aW):∀(cm:List (Nat×Nat))(env:List aW),(eK env vs cm).length=env.length
 |[],env=>rfl
 |(s,p)::r,env=>by simp only[eK];rw[tD vs r];simp
def vY {α:Type}(l:List α)(i j:Nat)(v d:α)(h:i<l.length):(l.set i v).getD j d=if j=i then v else l.getD j d:=by
 simp only[List.getD,List.getElem?_set];by_cases e:i=j
 ·subst e;simp[h]
 ·simp[e,Ne.symm e]
def oG (hnd:C.slots.Nodup)(vs:List aW):∀(ops:List Oper)(p:Nat)(env:List aW)(n t:Nat),C.slots[n]? =some t→env.length=C.slots.length→
  ((∀(j:Nat) (o:Oper),ops[j]? =some o→o.dst≠some t)→(eK env vs (C.eF p ops)).getD n .un=env.getD n .un)∧
  (∀(j:Nat) (o:Oper),ops[j]? =some o→o.dst=some t→(∀(j':Nat) (o':Oper),ops[j']? =some o'→o'.dst=some t→j'=j)→(eK env vs (C.eF p ops)).getD n .un=vs.getD (p+j) .un)
 |[],p,env,n,t,hn,hl=>⟨fun _=>rfl,fun j o h=>by simp at h⟩
 |o::r,p,env,n,t,hn,hl=>by
  have hnl:n<C.slots.length:=(List.getElem?_eq_some_iff.1 hn).1;cases hb:o.dst.bind (sn C.slots)with
  |none=>
   have e:C.eF p (o::r)=C.eF (p+1) r:=by simp[CC.eF,hb]
   rw[e];obtain⟨a1,a2⟩:=oG hnd vs r (p+1) env n t hn hl;have hne:o.dst≠some t:=fun e=>by rw[e,Option.bind_some,xE _ _ _ hnd hn]at hb;cases hb
   refine⟨fun h=>a1 fun j o' hj=>h (j+1) o' (by simpa using hj),fun j o' hj hd hu=>?_⟩;cases j with
   |zero=>simp at hj;subst hj;exact absurd hd hne
   |succ j=>
    rw[show p+(j+1)=p+1+j by omega];exact a2 j o' (by simpa using hj) hd fun j' o'' hj' hd'=>by have:=hu (j'+1) o'' (by simpa using hj') hd';omega
  |some s=>
   have e:C.eF p (o::r)=(s,p)::C.eF (p+1) r:=by simp[CC.eF,hb]
   rw[e];simp only[eK];obtain⟨t',ht',hs⟩:=Option.bind_eq_some_iff.1 hb;have hsl:=kX _ _ _ hs;have hslen:s<env.length:=by rw[hl];exact(List.getElem?_eq_some_iff.1 hsl).1
   obtain⟨a1,a2⟩:=oG hnd vs r (p+1) (env.set s (vs.getD p .un)) n t hn (by simpa using hl);have hst:s=n↔t'=t:=by
    constructor
    ·rintro rfl;rw[hsl]at hn;exact Option.some.inj hn
    ·rintro rfl;have:=xE _ _ _ hnd hn;rw[hs]at this;exact Option.some.inj this
   refine⟨fun h=>?_,fun j o' hj hd hu=>?_⟩
   ·have hne:t'≠t:=fun e=>h 0 o (by simp) (by rw[ht',e])
    rw[a1 fun j o' hj=>h (j+1) o' (by simpa using hj),vY _ _ _ _ _ hslen,if_neg (fun e=>hne (hst.1 e.symm))]
   ·cases j with
    |zero=>
     simp at hj;subst hj;have ht:t'=t:=by rw[ht']at hd;exact Option.some.inj hd
     rw[a1 fun j o' hj hd'=>by have:=hu (j+1) o' (by simpa using hj) hd';omega,vY _ _ _ _ _ hslen,if_pos (hst.2 ht).symm];simp
    |succ j=>
     rw[show p+(j+1)=p+1+j by omega];exact a2 j o' (by simpa using hj) hd fun j' o'' hj' hd'=>by have:=hu (j'+1) o'' (by simpa using hj') hd';omega
def qR (hnd:C.slots.Nodup){ops:Array Oper}{l:List GI}(hsp:Spec C ops.toList l){env VS:List aW}{a:Act}{x:X}{st:St}(hlen:env.length=C.slots.length)(hm:tm C env (ops.toList.map (·.dst)) VS (· <ops.size) a x)
  (hs:dz C.ν x (look st.m)) (hf:du st x):Inv C a x (eK env VS (C.eF 0 ops.toList)) st:=by
 refine⟨by rw[tD];exact hlen,fun n t hn ho=>?_,hm.size,hm.defers,hs,hf⟩;obtain⟨c1,c2⟩:=oG hnd VS ops.toList 0 env n t hn hlen;by_cases hw:∃j:Nat,(ops.toList.map (·.dst))[j]? =some (some t)
 ·obtain⟨j,hj⟩:=hw;have hj':=hj;rw[List.getElem?_map,Option.map_eq_some_iff]at hj';obtain⟨o,ho1,ho2⟩:=hj';have e:=c2 j o ho1 ho2 fun j' o' h1 h2=>hsp.distinct hj (by rw[List.getElem?_map,h1,Option.map_some,h2])
  rw[Nat.zero_add]at e;rw[e]at ho⊢;have hjl:j<ops.size:=by simpa using(List.getElem?_eq_some_iff.1 ho1).1
  exact hm.val j t hjl hj ho
 ·have hw':∀j:Nat,(ops.toList.map (·.dst))[j]? ≠some (some t):=fun j e=>hw ⟨j,e⟩
  rw[c1 fun j o h1 h2=>hw' j (by rw[List.getElem?_map,h1,Option.map_some,h2])]at ho⊢;exact hm.old n t hn (fun p _=>hw' p) ho
def E0 {a:Act}{x:X}{env:List aW}{st:St}(h:Inv C a x env st){c:Operand}{s:Src}(hc:C.src [] c=some s)(hok:(s.ev env []).ok=true):RD C.ν x (a.eval c) (s.ev env []).d:=
 ((h.Ik [] [] (D:=fun _=>False) (fun _ h=>h)).rho (i:=0) (os:=[c]) (fun t p _ hp=>by simp at hp)) c (.head _) s (by simpa using hc) (by simpa using hok)
def Ex.of:Ex→Exit
 | .normal=>.normal
 | .exit id=>.exit id
 | .ret=>.ret
def Post (C:CC)(Q:Ex→List aW→St→Prop)(x0:X):Exit→Act→World→Prop:=fun e a w=>∃e' x' env' st',Ex.of e'=e∧x'.w=w∧Step x0 x'∧Inv C a x' env' st'∧Q e' env' st'
def Inv.weak {a:Act}{x:X}{env env':List aW}{nx:Nat}{m m':List (Nat×aV)}(h:Inv C a x env ⟨nx,m⟩)(hl:KS env env')(hm:GP m m'):Inv C a x env' ⟨nx,m'⟩:=by
 have hle:∀(e e':List aW),KS e e'→e'.length=e.length∧∀n,e'.getD n .un=e.getD n .un∨e'.getD n .un=.un:=by
  intro e;induction e with
  |nil=>intro e' h;cases e'<;>simp_all[KS]
  |cons b r ih=>
   intro e' h;cases e' with
   |nil=>simp[KS]at h
   |cons b' r'=>
    simp only[KS]at h;obtain⟨i1,i2⟩:=ih r' h.2;refine⟨by simp[i1],fun n=>?_⟩;cases n with
    |zero=>simpa using h.1
    |succ n=>simpa using i2 n
 have hsub:∀(m':List (Nat×aV)),GP m m'→∀l b,look m' l=some b→look m l=some b:=by
  intro m';induction m' with
  |nil=>intro _ l b h;simp[look]at h
  |cons p r ih=>
   obtain⟨l0,b0⟩:=p;intro hs l b h;simp only[GP]at hs;simp only[look]at h;split at h
   ·rename_i e;subst e;rw[hs.1];exact h
   ·exact ih hs.2 l b h
 obtain⟨l1,l2⟩:=hle env env' hl;refine⟨l1.trans h.len,fun n t hn ho=>?_,h.size,h.defers,h.j9.less fun l=>?_,h.fresh.β,fun l hl'=>?_⟩
 ·rcases l2 n with e|e
  ·rw[e]at ho⊢;exact h.env n t hn ho
  ·rw[e];exact .any _
 ·cases hl':look m' l with
  |none=>exact .inr (.inl rfl)
  |some b=>exact .inl (hsub m' hm l b hl').symm
 ·cases hl2:look m' l with
  |none=>exact absurd hl2 hl'
  |some b=>exact h.fresh.m l (by show look m l≠none;rw[hsub m' hm l b hl2];simp)
def sJ.cells {d d':D}(h:sJ d d'):d'.cells.length=d.cells.length∧∀j,sJ (d.cells.getD j .any) (d'.cells.getD j .any):=by
 cases h with
 |refl=>exact⟨rfl,fun j=>.refl _⟩
 |nil k=>exact⟨rfl,fun j=>by match j with
  |0=>exact .nil k
  |j+1=>exact .refl _⟩
 |agg a b hl h=>exact⟨hl,h⟩
 |sl k a b hl h=>exact⟨rfl,fun j=>by match j with
  |0=>exact .sl k a b hl h
  |j+1=>exact .refl _⟩
def sJ.aK {d d':D}(h:sJ d d')(hn:d.aK=true):d'.aK=true:=by
 induction h with
 |refl=>exact hn
 |nil k=>rfl
 |agg a b hl h ih=>exact m6 fun i _=>ih i (bS hn i)
 |sl k a b hl h ih=>rfl
def RD.wk {ν:List (Nat×Nat)}{x:X}{v:Value}{d d':D}(hv:RD ν x v d)(hw:sJ d d'):RD ν x v d':=by
 induction hv generalizing d' with
 |agg cs ds hl h1 h ih=>
  cases hw with
  |refl=>exact .agg cs ds hl h1 h
  |agg _ b hl2 h2=>exact .agg cs b (hl.trans hl2.symm) (fun i hi=>h1 i (by omega)) (fun i hi=>ih i (by omega) (h2 i))
 |sl a b off len cap k es c hlen ha hcap hm hk hn hc h1 h ih=>
  cases hw with
  |refl=>exact .sl a b off len cap k es c hlen ha hcap hm hk hn hc h1 h
  |sl _ _ es' hl2 h2=>
   refine .sl a b off len cap k es' c (hlen.trans hl2.symm) (ha.imp (fun e=>List.eq_nil_of_length_eq_zero (by rw[hl2,e];rfl)) id) hcap hm (fun i hi=>(h2 i).cells.1.trans (hk i hi)) (fun i hi=>(h2 i).aK (hn i hi)) hc h1 (fun i j hi hj=>ih i j hi hj ((h2 i).cells.2 j))
 |av=>
  cases hw with
  |refl=>exact .av
  |nil k=>exact .sl none 0 0 0 0 k [] (fun _ _=>undef) rfl (.inl rfl) (Nat.le_refl _) (Nat.zero_le _) (fun i hi=>by omega) (fun i hi=>by omega) (fun i j hi=>by omega) (fun i j hi=>by omega) (fun i j hi=>by omega)
 |any v=>cases hw;exact .any v
 |bool b=>cases hw;exact .bool b
 |int k n=>cases hw;exact .int k n
 |str s h=>cases hw;exact .str s h
 |tup cs ds hl h ih=>cases hw;exact .tup cs ds hl h
 |ref b off k i o at_ es c hI hat hk hn hc h1 h ih=>cases hw;exact .ref b off k i o at_ es c hI hat hk hn hc h1 h
 |ptr l k i o b base tot at_ hβ hat=>cases hw;exact .ptr l k i o b base tot at_ hβ hat
 |own l k i n b base tot cap a hβ ha hcap hm ht=>cases hw;exact .own l k i n b base tot cap a hβ ha hcap hm ht
 |own0 l k i=>cases hw;exact .own0 l k i
 |nilp=>cases hw;exact .nilp
 |fn fid n cs ds hν hl h ih=>cases hw;exact .fn fid n cs ds hν hl h
 |cM fid n fs ds hν hl h ih=>cases hw;exact .cM fid n fs ds hν hl h
 |nilf=>cases hw;exact .nilf
 |it l b base tot hβ=>cases hw;exact .it l b base tot hβ
def kt.wk {ν:List (Nat×Nat)}{x:X}{b base tot:Nat}{blk blk':aV}(h:kt ν x b base tot blk)(hw:LO blk blk'):kt ν x b base tot blk':=by
 match blk,blk',hw with
 | .buf k es,.buf k' es',hw=>
  obtain⟨rfl,hl,h2⟩:=hw;obtain⟨p1,p2,c,T,fr,p3,p4,p5,p6⟩:=h;refine⟨p1,by omega,c,T,fr,p3,p4,p5,fun i hi=>⟨(h2 i).cells.1.trans (p6 i (by omega)).1,fun j hj=>⟨((p6 i (by omega)).2 j hj).1,((p6 i (by omega)).2 j hj).2.wk ((h2 i).cells.2 j)⟩⟩⟩
 | .buf k es,.iter s p,hw=>cases hw
 | .buf k es,.row s,hw=>cases hw
 | .buf k es,.bld o n u,hw=>cases hw
 | .iter s p,b',hw=>simp only[LO]at hw;subst hw;exact h
 | .row s,b',hw=>simp only[LO]at hw;subst hw;exact h
 | .bld o n u,b',hw=>simp only[LO]at hw;subst hw;exact h
def Inv.nz {a:Act}{x:X}{env env':List aW}{nx:Nat}{m m':List (Nat×aV)}(h:Inv C a x env ⟨nx,m⟩)(hl:Jo env env')(hm:CM m m'):Inv C a x env' ⟨nx,m'⟩:=by
 have hle:∀(e e':List aW),Jo e e'→e'.length=e.length∧∀n,(e'.getD n .un).ok=(e.getD n .un).ok∧sJ (e.getD n .un).d (e'.getD n .un).d:=by
  intro e;induction e with
  |nil=>
   intro e' h;cases e' with
   |nil=>exact⟨rfl,fun n=>⟨rfl,.refl _⟩⟩
   |cons _ _=>exact h.elim
  |cons b r ih=>
   intro e' h;cases e' with
   |nil=>exact h.elim
   |cons b' r'=>
    obtain⟨i1,i2⟩:=ih r' h.2;refine⟨by simp[i1],fun n=>?_⟩;cases n with
    |zero=>simpa using h.1
    |succ n=>simpa using i2 n
 have hsub:∀(m':List (Nat×aV)),CM m m'→∀l b',look m' l=some b'→∃b,look m l=some b∧LO b b':=by
  intro m';induction m' with
  |nil=>intro _ l b h;simp[look]at h
  |cons p r ih=>
   obtain⟨l0,b0⟩:=p;intro hs l b h;simp only[look]at h;split at h
   ·rename_i e;subst e;obtain rfl:=Option.some.inj h;exact hs.1
   ·exact ih hs.2 l b h
 obtain⟨l1,l2⟩:=hle env env' hl;have live:∀l,look m' l≠none→look m l≠none:=fun l hl'=>by
  cases hl2:look m' l with
  |none=>exact absurd hl2 hl'
  |some b=>obtain⟨b0,q1,_⟩:=hsub m' hm l b hl2;rw[q1];simp
 refine⟨l1.trans h.len,fun n t hn ho=>?_,h.size,h.defers,⟨fun l blk b base tot e1 e2=>?_,fun l l' b base tot base' tot' e1 e2 e3 e4=>h.j9.inj l l' b base tot base' tot' (live l e1) (live l' e2) e3 e4,h.j9.imm,h.j9.cM,h.j9.gd⟩,h.fresh.β,fun l hl'=>h.fresh.m l (live l hl')⟩
 ·obtain⟨q1,q2⟩:=l2 n;rw[q1]at ho;exact(h.env n t hn ho).wk q2
 ·obtain⟨b0,q1,q2⟩:=hsub m' hm l blk e1;obtain⟨o1,o2⟩:=h.j9.own l b0 b base tot q1 e2;exact⟨o1,o2.wk q2⟩
def C9 (l k:Nat)(es:List D)(d:D):(gU l k es d).cells.length=d.cells.length∧∀j,(gU l k es d).cells.getD j .any=gU l k es (d.cells.getD j .any):=by
 cases d
 case agg cs=>exact⟨by simp[gU,D.cells,e7],fun j=>by simp only[gU,D.cells];exact jS l k es cs j⟩
 case own l' k' i n=>
  simp only[gU];split
  ·rename_i h;exact⟨rfl,fun j=>by cases j<;>simp[D.cells,gU,h]⟩
  ·rename_i h;exact⟨rfl,fun j=>by cases j<;>simp[D.cells,gU,h]⟩
 case ptr l' k' i o=>
  simp only[gU];split
  ·rename_i h;exact⟨rfl,fun j=>by cases j<;>simp[D.cells,gU,h]⟩
  ·rename_i h;exact⟨rfl,fun j=>by cases j<;>simp[D.cells,gU,h]⟩
 all_goals exact⟨by simp[gU,D.cells],fun j=>by cases j<;>simp[gU,D.cells]⟩
def BU (l k:Nat)(es:List D):∀e:List aW,(lY l k es e).length=e.length
 |[]=>rfl
 |⟨ok,d⟩::r=>by simp[lY,BU l k es r]
def yT (l k:Nat)(es:List D):∀(e:List aW)(i:Nat),(lY l k es e).getD i .un=⟨(e.getD i .un).ok,gU l k es (e.getD i .un).d⟩
 |[],i=>by simp[lY,gU,aW.un]
 |⟨ok,d⟩::r,0=>by simp[lY]
 |⟨ok,d⟩::r,i+1=>by simpa[lY]using yT l k es r i
def zf (l k:Nat)(es:List D)(l':Nat):∀m:List (Nat×aV),look (mQ l k es m) l'=(look m l').map (oL l k es)
 |[]=>rfl
 |(a,b)::r=>by
  simp only[mQ,look];split
  ·rfl
  ·exact zf l k es l' r
def Inv.En {a:Act}{x:X}{env:List aW}{nx:Nat}{m:List (Nat×aV)}(h:Inv C a x env ⟨nx,m⟩)(l:Nat):∃x':X,x'.w=x.w∧Step x x'∧Inv C a x' (Abs.En l (env,m)).1 ⟨nx,(Abs.En l (env,m)).2⟩:=by
 have hsame:∃x':X,x'.w=x.w∧Step x x'∧Inv C a x' env ⟨nx,m⟩:=⟨x,rfl,.refl x,h⟩
 simp only[Abs.En];split
 ·rename_i k es hlk;cases hn:aH es with
  |false=>exact hsame
  |true=>
   simp only[cond_true]
   let x':X:=⟨x.w,fun b=>x.I b∨∃p,x.β l=some p∧p.1=b,x.β⟩
   have hle:Le x x':=⟨fun _ h=>.inl h,fun _ _=>rfl,fun _ _ h=>h⟩;have ho:∀b base tot,x.β l=some (b,base,tot)→x'.I b∧(∀i,i<es.length→(es.getD i .any).cells.length=k)∧∃c:Nat→Nat→Value,∀i j,i<es.length→j<k→
     x'.w.cell? ⟨b,base+i*k+j,none⟩=some (c i j)∧(c i j).oneCell'=true∧RD C.ν x' (c i j) ((es.getD i .any).cells.getD j .any):=by
    intro b base tot hβ;obtain⟨o1,o2,o3,c,T,fr,o4,o5,o6,o7⟩:=h.j9.own l _ b base tot hlk hβ;refine⟨.inr ⟨_,hβ,rfl⟩,fun i hi=>(o7 i hi).1,fun i j=>c.getD (base+i*k+j) undef,fun i j hi hj=>⟨?_,((o7 i hi).2 j hj).1,((o7 i hi).2 j hj).2.mono hle⟩⟩;exact cell_of_heap o4 (by have:=fu (tot:=tot) (show i<tot by omega) hj;omega)
   have hrd:∀{v:Value} {d:D},RD C.ν x v d→RD C.ν x' v (gU l k es d):=fun hv=>hv.fz hle hn ho
   refine⟨x',rfl,⟨rfl,rfl,rfl,Nat.le_refl _,fun _ h=>.inl h,fun _ _=>rfl,fun _ _ h=>h,fun _ _ _=>rfl,fun b hb=>?_,fun _ _ h=>.inl h⟩, ?_⟩
   ·rcases hb with hb|⟨p,h1,h2⟩
    ·exact .inl hb
    ·exact .inr (.inr ⟨l,p,h1,h2⟩)
   ·have hlook:∀l',look (mQ l k es (bN m l)) l'=if l'=l then none else(look m l').map (oL l k es):=fun l'=>by
     rw[zf,dV];split<;>rfl
    refine⟨by rw[BU];exact h.len,fun n t hn' hok=>?_,h.size,h.defers,⟨fun l' blk b base tot e1 e2=>?_,fun l1 l2 b base tot base' tot' e1 e2 e3 e4=>?_,fun b hb=>?_,h.j9.cM,mW hle h.j9.gd⟩,⟨h.fresh.β,fun l' hl'=>?_⟩⟩
    ·rw[yT]at hok⊢;exact hrd (h.env n t hn' hok)
    ·simp only[hlook]at e1;split at e1
     ·cases e1
     ·rename_i hne;rw[Option.map_eq_some_iff]at e1;obtain⟨blk0,e3,rfl⟩:=e1;obtain⟨o1,o2⟩:=h.j9.own l' blk0 b base tot e3 e2;refine⟨?_, ?_⟩
      ·rintro(hb|⟨⟨b',base',tot'⟩,h1,h2⟩)
       ·exact o1 hb
       ·simp only at h2;subst h2;exact hne (h.j9.inj l' l b' base tot base' tot' (by simp only;rw[e3];simp) (by simp only;rw[hlk];simp) e2 h1)
      ·cases blk0 with
       |iter s pos=>exact o2
       |row s=>exact o2
       |bld o n u=>exact o2
       |buf k' es'=>
        obtain⟨p1,p2,c,T,fr,p3,p4,p5,p6⟩:=o2;refine⟨p1,by rw[e7];exact p2,c,T,fr,p3,p4,p5,fun i hi=>?_⟩;rw[e7]at hi;obtain⟨q1,q2⟩:=C9 l k es (es'.getD i .any);rw[jS,q1];refine⟨(p6 i hi).1,fun j hj=>⟨((p6 i hi).2 j hj).1, ?_⟩⟩;rw[q2];exact hrd ((p6 i hi).2 j hj).2
    ·simp only[hlook]at e1 e2;refine h.j9.inj l1 l2 b base tot base' tot' ?_ ?_ e3 e4
     ·intro e;simp[e]at e1
     ·intro e;simp[e]at e2
    ·rcases hb with hb|⟨⟨b',base',tot'⟩,h1,h2⟩
     ·exact h.j9.imm b hb
     ·simp only at h2;subst h2;exact h.j9.cM l _ _ _ h1
    ·simp only[hlook]at hl';refine h.fresh.m l' ?_;intro e;simp only at e;simp[e]at hl'
 ·exact hsame
def iX {lo:Nat}{σ:List (Nat×Nat)}:∀{ds ds':List D},qc lo σ ds=some ds'→ds'.length=ds.length∧∀i,i<ds.length→rZ lo σ (ds.getD i .any)=some (ds'.getD i .any)
 |[],ds',h=>by simp[qc]at h;subst h;exact⟨rfl,fun i hi=>by simp at hi⟩
 |d::r,ds',h=>by
  simp only[qc]at h;split at h
  ·rename_i d' r' h1 h2;simp only[Option.some.injEq]at h;subst h;obtain⟨a1,a2⟩:=iX h2;refine⟨by simp[a1],fun i hi=>?_⟩;cases i with
   |zero=>simpa using h1
   |succ i=>simpa using a2 i (by simpa using hi)
  ·cases h
def j5 {lo:Nat}{σ:List (Nat×Nat)}{l:Nat}{f:Nat→D}{d:D}(h:Ep lo σ l f=some d):∃l',kG lo σ l=some l'∧d=f l':=by
 unfold Ep at h;split at h
 ·rename_i l' h1;exact⟨l',h1,(Option.some.inj h).symm⟩
 ·cases h
def qd {lo c:Nat}:∀{σ:List (Nat×Nat)}{l l':Nat},eW lo c σ=true→kG lo σ l=some l'→l'<c∧(l<lo∧l'=l∨lo≤l'∧(l,l')∈σ)
 |[],l,l',h0,h=>by
  unfold kG at h;simp only[eW,Nat.ble_eq]at h0;cases hb:Nat.blt l lo<;>simp only[hb,cond_true,cond_false,reduceCtorEq,Option.some.injEq]at h;have:l<lo:=by simp[Nat.blt]at hb;omega
  subst h;exact⟨by omega,.inl ⟨this,rfl⟩⟩
 |(a,b)::r,l,l',h0,h=>by
  unfold kG at h;simp only[eW,Bool.and_eq_true,Nat.ble_eq]at h0;obtain⟨p2,p3,p4,p5⟩:=h0;have p3:b<c:=by simp[Nat.blt]at p3;omega
  cases hq:Nat.beq a l<;>simp only[hq,cond_true,cond_false,Option.some.injEq]at h
  ·obtain⟨q1,q2⟩:=qd p5 h;refine⟨q1, ?_⟩;rcases q2 with q|⟨q3,q4⟩
   ·exact .inl q
   ·exact .inr ⟨q3,.tail _ q4⟩
  ·have:=Nat.eq_of_beq_eq_true hq;subst this;subst h;exact⟨p3,.inr ⟨p2,.head _⟩⟩
def nA {lo c:Nat}:∀{σ:List (Nat×Nat)}{a b:Nat},eW lo c σ=true→(a,b)∈σ→b<c
 |[],a,b,_,h=>by cases h
 |p::r,a,b,h0,h=>by
  simp only[eW,Bool.and_eq_true,Nat.blt,Nat.ble_eq]at h0;rcases List.mem_cons.1 h with rfl|h
  ·have:=h0.2.1;simp only at this;omega
  ·exact nA h0.2.2.2 h
def yr {lo c:Nat}:∀{σ:List (Nat×Nat)}{a a' b b':Nat},eW lo c σ=true→(a,b)∈σ→(a',b')∈σ→(b=b'→a=a')
 |[],a,a',b,b',_,h,_=>by cases h
 |(a0,b0)::r,a,a',b,b',h0,h1,h2=>by
  simp only[eW,Bool.and_eq_true,List.all_eq_true,Bool.not_eq_true']at h0;obtain⟨_,_,p4,p5⟩:=h0;intro e;rcases List.mem_cons.1 h1 with h1|h1<;>rcases List.mem_cons.1 h2 with h2|h2
  ·simp only[Prod.mk.injEq]at h1 h2;omega
  ·have:=(p4 _ h2).2;simp only[Prod.mk.injEq]at h1;obtain⟨rfl,rfl⟩:=h1;subst e;simp at this
  ·have:=(p4 _ h1).2;simp only[Prod.mk.injEq]at h2;obtain⟨rfl,rfl⟩:=h2;subst e;simp at this
  ·exact yr p5 h1 h2 e
def jU:List (Nat×Nat)→Nat→Option Nat
 |[],_=>none
 |(a,b)::r,l=>if b=l then some a else jU r l
def iR:∀{σ:List (Nat×Nat)}{l a:Nat},jU σ l=some a→(a,l)∈σ
 |[],l,a,h=>by cases h
 |(a0,b0)::r,l,a,h=>by
  simp only[jU]at h;split at h
  ·rename_i e;subst e;obtain rfl:=Option.some.inj h;exact .head _
  ·exact .tail _ (iR h)
def sT {lo c:Nat}:∀{σ:List (Nat×Nat)}{l a:Nat},eW lo c σ=true→(a,l)∈σ→jU σ l=some a
 |[],l,a,_,h=>by cases h
 |(a0,b0)::r,l,a,h0,h=>by
  simp only[jU];split
  ·rename_i e;subst e;rw[yr h0 (.head _) h rfl]
  ·rename_i e;rcases List.mem_cons.1 h with h|h
   ·simp only[Prod.mk.injEq]at h;exact absurd h.2.symm e
   ·simp only[eW,Bool.and_eq_true]at h0;exact sT h0.2.2.2 h
def wB {lo:Nat}{σ:List (Nat×Nat)}{d d':D}(h:rZ lo σ d=some d'):d'.cells.length=d.cells.length∧∀j,j<d.cells.length→rZ lo σ (d.cells.getD j .any)=some (d'.cells.getD j .any):=by
 cases d
 case agg cs=>
  simp only[rZ]at h;split at h
  ·rename_i cs' h1;obtain rfl:=Option.some.inj h;exact iX h1
  ·cases h
 case tup cs=>
  simp only[rZ]at h;split at h
  ·obtain rfl:=Option.some.inj h;exact⟨rfl,fun j hj=>by simp[D.cells]at hj⟩
  ·cases h
 case fn f cs=>
  have h0:=h;simp only[rZ]at h;split at h
  ·obtain rfl:=Option.some.inj h;exact⟨rfl,fun j hj=>by simp[D.cells]at hj;subst hj;simpa[D.cells]using h0⟩
  ·cases h
 case own l k i n=>
  have h0:=h;simp only[rZ]at h;obtain⟨l',_,rfl⟩:=j5 h;exact⟨rfl,fun j hj=>by simp[D.cells]at hj;subst hj;simpa[D.cells]using h0⟩
 case ptr l k i n=>
  have h0:=h;simp only[rZ]at h;obtain⟨l',_,rfl⟩:=j5 h;exact⟨rfl,fun j hj=>by simp[D.cells]at hj;subst hj;simpa[D.cells]using h0⟩
 case it l=>
  have h0:=h;simp only[rZ]at h;obtain⟨l',_,rfl⟩:=j5 h;exact⟨rfl,fun j hj=>by simp[D.cells]at hj;subst hj;simpa[D.cells]using h0⟩
 all_goals
  have h0:=h;simp only[rZ,Option.some.injEq]at h;subst h;exact⟨rfl,fun j hj=>by simp[D.cells]at hj<;>(subst hj;simpa[D.cells]using h0)⟩
def RD.rn {ν:List (Nat×Nat)}{x x':X}{lo:Nat}{σ:List (Nat×Nat)}(hw:x'.w=x.w)(hI:x'.I=x.I)(hβ:∀l l',kG lo σ l=some l'→x'.β l'=x.β l){v:Value}{d:D}(h:RD ν x v d):∀d',rZ lo σ d=some d'→RD ν x' v d':=by
 have hk:∀b,x.I b→x'.w.heap[b]? =x.w.heap[b]? :=fun _ _=>by rw[hw]
 have hI':∀b,x.I b→x'.I b:=fun b h=>by rw[hI];exact h
 induction h with
 |any v=>intro d' h;obtain rfl:=Option.some.inj h;exact .any v
 |bool b=>intro d' h;obtain rfl:=Option.some.inj h;exact .bool b
 |int k n=>intro d' h;obtain rfl:=Option.some.inj h;exact .int k n
 |str s h0=>intro d' h;obtain rfl:=Option.some.inj h;exact .str s h0
 |av=>intro d' h;obtain rfl:=Option.some.inj h;exact .av
 |nilp=>intro d' h;obtain rfl:=Option.some.inj h;exact .nilp
 |nilf=>intro d' h;obtain rfl:=Option.some.inj h;exact .nilf
 |sl a b off len cap k' es' c hlen ha hcap hm hk' hn' hc h1 h _=>
  intro d' h2;obtain rfl:=Option.some.inj h2;exact(RD.sl a b off len cap k' es' c hlen ha hcap hm hk' hn' hc h1 h).aK rfl hI' hk
 |ref b off k' i o at_ es' c hI0 hat hk' hn' hc h1 h _=>
  intro d' h2;obtain rfl:=Option.some.inj h2;exact(RD.ref b off k' i o at_ es' c hI0 hat hk' hn' hc h1 h).aK rfl hI' hk
 |agg cs ds hl' h1 _ ih=>
  intro d' h;simp only[rZ]at h;split at h
  ·rename_i cs' h2;obtain rfl:=Option.some.inj h;obtain⟨a1,a2⟩:=iX h2;exact .agg cs cs' (by omega) (fun i hi=>h1 i (by omega)) fun i hi=>ih i (by omega) _ (a2 i (by omega))
  ·cases h
 |tup cs ds hl' _ ih=>
  intro d' h;simp only[rZ]at h;split at h
  ·rename_i cs' h2;obtain rfl:=Option.some.inj h;obtain⟨a1,a2⟩:=iX h2;exact .tup cs cs' (by omega) fun i hi=>ih i (by omega) _ (a2 i (by omega))
  ·cases h
 |fn fid n cs ds hν hl' _ ih=>
  intro d' h;simp only[rZ]at h;split at h
  ·rename_i cs' h2;obtain rfl:=Option.some.inj h;obtain⟨a1,a2⟩:=iX h2;exact .fn fid n cs cs' hν (by omega) fun i hi=>ih i (by omega) _ (a2 i (by omega))
  ·cases h
 |cM fid n cs ds hν hl' _ ih=>
  intro d' h;simp only[rZ]at h;split at h
  ·rename_i cs' h2;obtain rfl:=Option.some.inj h;obtain⟨a1,a2⟩:=iX h2;exact .cM fid n cs cs' hν (by omega) fun i hi=>ih i (by omega) _ (a2 i (by omega))
  ·cases h
 |ptr l k i o b base tot at_ hb hat=>
  intro d' h;obtain⟨l',h1,rfl⟩:=j5 h;exact .ptr l' k i o b base tot at_ ((hβ _ _ h1).trans hb) hat
 |own l k i n b base tot cap a hb ha hcap hm ht=>
  intro d' h;obtain⟨l',h1,rfl⟩:=j5 h;exact .own l' k i n b base tot cap a ((hβ _ _ h1).trans hb) ha hcap hm ht
 |own0 l k i=>
  intro d' h;obtain⟨l',h1,rfl⟩:=j5 h;exact .own0 l' k i
 |it l b base tot hb=>
  intro d' h;obtain⟨l',h1,rfl⟩:=j5 h;exact .it l' b base tot ((hβ _ _ h1).trans hb)
def mA:∀{ds ds':List D},Ap ds ds'→ds'.length=ds.length∧∀i,i<ds.length→qo (ds.getD i .any) (ds'.getD i .any)
 |[],ds',h=>by simp only[Ap]at h;subst h;exact⟨rfl,fun i hi=>by simp at hi⟩
 |d::r,ds',h=>by
  simp only[Ap]at h;obtain⟨d',r',rfl,h1,h2⟩:=h;obtain⟨a1,a2⟩:=mA h2;refine⟨by simp[a1],fun i hi=>?_⟩;cases i with
  |zero=>simpa using h1
  |succ i=>simpa using a2 i (by simpa using hi)
def vF {d d':D}(h:qo d d'):d'.cells.length=d.cells.length∧∀j,j<d.cells.length→qo (d.cells.getD j .any) (d'.cells.getD j .any):=by
 cases d
 case agg a=>
  simp only[qo]at h;obtain⟨b,rfl,h⟩:=h;exact mA h
 case av=>
  have h0:=h;simp only[qo]at h;rcases h with rfl|⟨l,k,i,rfl⟩
  ·exact⟨rfl,fun j hj=>by simp[D.cells]at hj;subst hj;simpa[D.cells]using h0⟩
  ·exact⟨rfl,fun j hj=>by simp[D.cells]at hj;subst hj;simpa[D.cells]using h0⟩
 all_goals
  have h0:=h;simp only[qo]at h;obtain⟨rfl,hn⟩:=h;refine⟨rfl,fun j hj=>?_⟩;simp[D.cells]at hj;try(subst hj;simpa[D.cells]using h0)
def RD.nl {ν:List (Nat×Nat)}{x x':X}(hw:x'.w=x.w)(hI:x'.I=x.I){v:Value}{d:D}(h:RD ν x v d):∀d',qo d d'→RD ν x' v d':=by
 have hk:∀b,x.I b→x'.w.heap[b]? =x.w.heap[b]? :=fun _ _=>by rw[hw]
 have hI':∀b,x.I b→x'.I b:=fun b h=>by rw[hI];exact h
 induction h with
 |av=>
  intro d' h2;simp only[qo]at h2;rcases h2 with rfl|⟨l,k,i,rfl⟩
  ·exact .av
  ·exact .own0 l k i
 |agg cs ds hl' h1 _ ih=>
  intro d' h;simp only[qo]at h;obtain⟨b,rfl,h⟩:=h;obtain⟨a1,a2⟩:=mA h;exact .agg cs b (by omega) (fun i hi=>h1 i (by omega)) fun i hi=>ih i (by omega) _ (a2 i (by omega))
 |any v=>intro d' h;simp only[qo]at h;rw[h.1];exact .any v
 |bool b=>intro d' h;simp only[qo]at h;rw[h.1];exact .bool b
 |int k n=>intro d' h;simp only[qo]at h;rw[h.1];exact .int k n
 |str s h0=>intro d' h;simp only[qo]at h;rw[h.1];exact .str s h0
 |tup cs ds hl' h0 _=>intro d' h;simp only[qo]at h;rw[h.1];exact(RD.tup cs ds hl' h0).aK h.2 hI' hk
 |sl a b off len cap k' es' c hlen ha hcap hm hk' hn' hc h1 h0 _=>
  intro d' h2;simp only[qo]at h2;rw[h2.1];exact(RD.sl a b off len cap k' es' c hlen ha hcap hm hk' hn' hc h1 h0).aK h2.2 hI' hk
 |ref b off k' i o at_ es' c hI0 hat hk' hn' hc h1 h0 _=>
  intro d' h2;simp only[qo]at h2;rw[h2.1];exact(RD.ref b off k' i o at_ es' c hI0 hat hk' hn' hc h1 h0).aK h2.2 hI' hk
 |nilp=>intro d' h;simp only[qo]at h;rw[h.1];exact .nilp
 |nilf=>intro d' h;simp only[qo]at h;rw[h.1];exact .nilf
 |fn fid n cs ds hν hl' h0 _=>intro d' h;simp only[qo]at h;rw[h.1];exact(RD.fn fid n cs ds hν hl' h0).aK h.2 hI' hk
 |cM fid n cs ds hν hl' h0 _=>intro d' h;simp only[qo]at h;rw[h.1];exact(RD.cM fid n cs ds hν hl' h0).aK h.2 hI' hk
 |ptr=>intro d' h;simp only[qo]at h;simp[D.aK]at h
 |own=>intro d' h;simp only[qo]at h;simp[D.aK]at h
 |own0=>intro d' h;simp only[qo]at h;simp[D.aK]at h
 |it=>intro d' h;simp only[qo]at h;simp[D.aK]at h
def yp {lo:Nat}{σ:List (Nat×Nat)}:∀{e e':List aW},c8 lo σ e e'→e'.length=e.length∧∀n,(e'.getD n .un).ok=(e.getD n .un).ok∧Hb lo σ (e.getD n .un).d (e'.getD n .un).d∨e'.getD n .un=.un
 |[],[],_=>⟨rfl,fun n=>.inr (by simp)⟩
 |[],_::_,h=>h.elim
 |_::_,[],h=>h.elim
 |a::r,b::s,h=>by
  simp only[c8]at h;obtain⟨i1,i2⟩:=yp h.2;refine⟨by simp[i1],fun n=>?_⟩;cases n with
  |zero=>simpa using h.1
  |succ n=>simpa using i2 n
def yq {lo c:Nat}{σ:List (Nat×Nat)}{m:List (Nat×aV)}:∀{m':List (Nat×aV)},aC lo c σ m m'→∀l' b',look m' l'=some b'→(∃l b,kG lo σ l=some l'∧look m l=some b∧n9 lo σ b b')∨(Nat.ble lo l'=true∧Nat.blt l' c=true∧σ.all (fun p=>!Nat.beq p.2 l')=true∧∃k,b'=.buf k [])
 |[],_,l',b',h=>by simp[look]at h
 |(l0,b0)::r,hh,l',b',h=>by
  simp only[aC]at hh;simp only[look]at h;split at h
  ·rename_i e;subst e;obtain rfl:=Option.some.inj h;exact hh.1
  ·exact yq hh.2 l' b' h
def v7:∀{σ:List (Nat×Nat)}{l:Nat},σ.all (fun p=>!Nat.beq p.2 l)=true→jU σ l=none
 |[],l,_=>rfl
 |(a,b)::r,l,h=>by
  simp only[List.all_cons,Bool.and_eq_true,Bool.not_eq_true']at h;simp only[jU];rw[if_neg (fun e=>by subst e;simp at h),v7 h.2]
def Inv.ren {a:Act}{x0 x:X}{env env':List aW}{nx:Nat}{m m':List (Nat×aV)}{lo c:Nat}{σ:List (Nat×Nat)}(h:Inv C a x env ⟨nx,m⟩)(hs:Step x0 x)(hlo:∀l,lo≤l→x0.β l=none)(hok:eW lo c σ=true)(he:c8 lo σ env env')(hm:aC lo c σ m m'):
  ∃x':X,x'.w=x.w∧Step x0 x'∧Inv C a x' env' ⟨c,m'⟩:=by
 let x':X:=⟨x.w,x.I,fun l'=>if l'<lo then x.β l' else(jU σ l').bind x.β⟩
 have hβ:∀l l',kG lo σ l=some l'→x'.β l'=x.β l:=by
  intro l l' e;obtain⟨p1,p2⟩:=qd hok e;rcases p2 with⟨p2,rfl⟩|⟨p3,p4⟩
  ·simp only[x',if_pos p2]
  ·simp only[x',if_neg (Nat.not_lt.2 p3),sT hok p4,Option.bind_some]
 have hβi:∀l' p,x'.β l'=some p→∃l,x.β l=some p:=by
  intro l' p e;simp only[x']at e;split at e
  ·exact⟨l',e⟩
  ·obtain⟨l,_,h2⟩:=Option.bind_eq_some_iff.1 e;exact⟨l,h2⟩
 have hrd:∀{v:Value} {d d':D},RD C.ν x v d→Hb lo σ d d'→RD C.ν x' v d':=by
  intro v d d' hv hd;rcases hd with⟨rfl,hn⟩|hd|hd
  ·exact hv.aK hn (fun _ h=>h) (fun _ _=>rfl)
  rotate_left
  ·exact RD.nl (x:=x) (x':=x') rfl rfl hv _ hd
  ·exact RD.rn (x:=x) (x':=x') rfl rfl hβ hv _ hd
 obtain⟨e1,e2⟩:=yp he;have hm1:=yq hm;have hm2:∀l' b' p,look m' l'=some b'→x'.β l'=some p→∃l b,kG lo σ l=some l'∧look m l=some b∧n9 lo σ b b':=by
  intro l' b' p h1 h2;rcases hm1 l' b' h1 with h3|⟨q1,q2,q3,q4⟩
  ·exact h3
  ·have q1:lo≤l':=by simpa using q1
   simp only[x',if_neg (show ¬l'<lo by omega),v7 q3,Option.bind_none]at h2;cases h2
 refine⟨x',rfl,⟨hs.os,hs.tape,hs.output,hs.size,hs.I,hs.lJ,fun l p hp=>?_,hs.old,hs.newI,fun l' p hp=>?_⟩,⟨e1.trans h.len,fun n t hn ho=>?_,h.size,h.defers,⟨fun l' blk b base tot e3 e4=>?_,fun l1 l2 b base tot base' tot' e3 e4 e5 e6=>?_,h.j9.imm,fun l' b base tot e=>?_,bU.le x _ (fun _ h=>h) (fun _ _=>rfl) h.j9.gd⟩,⟨fun l' hl'=>?_,fun l' hl'=>?_⟩⟩⟩
 ·have hl:l<lo:=by
   rcases Nat.lt_or_ge l lo with h1|h1
   ·exact h1
   ·rw[hlo l h1]at hp;cases hp
  simp only[x',if_pos hl];exact hs.β l p hp
 ·obtain⟨l,hl⟩:=hβi l' p hp;rcases hs.newβ l p hl with h1|h1|h1
  ·exact .inr (.inr ⟨l,p,h1,rfl⟩)
  ·exact .inr (.inl h1)
  ·exact .inr (.inr h1)
 ·rcases e2 n with⟨q1,q2⟩|q
  ·rw[q1]at ho;exact hrd (h.env n t hn ho) q2
  ·rw[q];exact .any _
 ·obtain⟨l,b0,q1,q2,q3⟩:=hm2 l' blk _ e3 e4;rw[hβ l l' q1]at e4;obtain⟨o1,o2⟩:=h.j9.own l b0 b base tot q2 e4;refine⟨o1, ?_⟩;cases b0 with
  |iter s p=>
   cases blk with
   |iter s' p'=>simp only[n9]at q3;obtain⟨rfl,rfl⟩:=q3;exact o2
   |_=>simp[n9]at q3
  |row s=>
   cases blk with
   |row s'=>simp only[n9]at q3;subst q3;exact o2
   |_=>simp[n9]at q3
  |bld o n u=>
   cases blk with
   |bld o' n' u'=>
    simp only[n9]at q3;obtain⟨q3,rfl,rfl⟩:=q3;obtain⟨p1,v,p2,p3⟩:=o2;refine⟨p1,v,p2, ?_⟩;cases o with
    |none=>simp only at q3;subst q3;exact p3
    |some l0=>
     obtain⟨l1,q4,rfl⟩:=q3;obtain⟨g,t,p4,p5,p6⟩:=p3;exact⟨g,t,p4,p5,by rw[hβ l0 l1 q4];exact p6⟩
   |_=>simp[n9]at q3
  |buf k es=>
   cases blk with
   |iter s' p'=>simp[n9]at q3
   |row s'=>simp[n9]at q3
   |bld o' n' u'=>simp[n9]at q3
   |buf k' es'=>
    simp only[n9]at q3;obtain⟨rfl,q3⟩:=q3;obtain⟨p1,p2,cc,T,fr,p3,p4,p5,p6⟩:=o2;rcases q3 with⟨rfl,hn⟩|q3|q3
    ·exact⟨p1,p2,cc,T,fr,p3,p4,p5,fun i hi=>⟨(p6 i hi).1,fun j hj=>⟨((p6 i hi).2 j hj).1,((p6 i hi).2 j hj).2.aK (iA (bS hn i) j) (fun _ h=>h) (fun _ _=>rfl)⟩⟩⟩
    rotate_left
    ·obtain⟨r1,r2⟩:=mA q3;refine⟨p1,by omega,cc,T,fr,p3,p4,p5,fun i hi=>?_⟩;have hi':i<es.length:=by omega
     obtain⟨s1,s2⟩:=vF (r2 i hi');refine⟨s1.trans (p6 i hi').1,fun j hj=>⟨((p6 i hi').2 j hj).1,hrd ((p6 i hi').2 j hj).2 (.inr (.inr (s2 j (by rw[(p6 i hi').1];exact hj))))⟩⟩
    ·obtain⟨r1,r2⟩:=iX q3;refine⟨p1,by omega,cc,T,fr,p3,p4,p5,fun i hi=>?_⟩;have hi':i<es.length:=by omega
     obtain⟨s1,s2⟩:=wB (r2 i hi');refine⟨s1.trans (p6 i hi').1,fun j hj=>⟨((p6 i hi').2 j hj).1,hrd ((p6 i hi').2 j hj).2 (.inr (.inl (s2 j (by rw[(p6 i hi').1];exact hj))))⟩⟩
 ·cases f1:look m' l1 with
  |none=>simp only at e3;exact absurd f1 e3
  |some b1=>
   cases f2:look m' l2 with
   |none=>simp only at e4;exact absurd f2 e4
   |some b2=>
    obtain⟨l1',b1',q1,q2,_⟩:=hm2 l1 b1 _ f1 e5;obtain⟨l2',b2',r1,r2,_⟩:=hm2 l2 b2 _ f2 e6;rw[hβ _ _ q1]at e5;rw[hβ _ _ r1]at e6;have:=h.j9.inj l1' l2' b base tot base' tot' (by simp only;rw[q2];simp) (by simp only;rw[r2];simp) e5 e6;subst this;rw[q1]at r1;exact Option.some.inj r1
 ·obtain⟨l,hl⟩:=hβi l' _ e;exact h.j9.cM l b base tot hl
 ·have hc:lo≤c:=by
   clear hβ hrd e2 hm2 he hm;induction σ with
   |nil=>simpa[eW]using hok
   |cons p r ih=>simp only[eW,Bool.and_eq_true,Nat.ble_eq,Nat.blt]at hok;omega
  have hl'':c≤l':=hl';simp only[x',if_neg (show ¬l'<lo by omega)];cases hi:jU σ l' with
  |none=>rfl
  |some l=>
   have hmem:=iR hi;have:=nA hok hmem;omega
 ·cases f1:look m' l' with
  |none=>simp only at hl';exact absurd f1 hl'
  |some b1=>
   rcases hm1 l' b1 f1 with⟨l,b,q1,_⟩|⟨_,q2,_⟩
   ·exact(qd hok q1).1
   ·simp only;simp[Nat.blt]at q2;omega
def Inv.ghost {a:Act}{x0:X}{lo:Nat}{env env':List aW}{st st':St}(hlo:∀l,lo≤l→x0.β l=none)(g:aN lo env st env' st'):∀{x:X},Inv C a x env st→Step x0 x→∃x':X,x'.w=x.w∧Step x0 x'∧Inv C a x' env' st':=by
 induction g with
 |refl env st=>intro x h hs;exact⟨x,rfl,hs,h⟩
 |En l env st=>
  intro x h hs;obtain⟨x',a1,a2,a3⟩:=Inv.En (nx:=st.nx) (m:=st.m) h l;exact⟨x',a1,hs.trans a2,a3⟩
 |ren σ c env env' nx m m' h0 he hm=>intro x h hs;exact h.ren hs hlo h0 he hm
 |wk env env' nx m m' he hm=>intro x h hs;exact⟨x,rfl,hs,h.weak he hm⟩
 |nz env env' nx m m' he hm=>intro x h hs;exact⟨x,rfl,hs,h.nz he hm⟩
 |trans env1 env2 env3 st1 st2 st3 g1 g2 ih1 ih2=>
  intro x h hs;obtain⟨x1,a1,a2,a3⟩:=ih1 h hs;obtain⟨x2,b1,b2,b3⟩:=ih2 a3 a2;exact⟨x2,b1.trans a1,b2,b3⟩
def least {p:Nat→Prop}(h:∃n,p n):∃n,p n∧∀m,p m→n≤m:=by
 obtain⟨n,hn⟩:=h;induction n using Nat.strongRecOn with
 |_ n ih=>
  by_cases h:∃m,m<n∧p m
  ·obtain⟨m,h1,h2⟩:=h;exact ih m h1 h2
  ·exact⟨n,hn,fun m hm=>by
    rcases Nat.lt_or_ge m n with h1|h1
    ·exact absurd ⟨m,h1,hm⟩ h
    ·exact h1⟩
def oF (hΓ:Ok C.P C.ν C.bA Γ)(hnd:C.slots.Nodup)(hmix:C.P.follows .mixedOrders=true)(x0:X)(hlo:∀l,Γ.lo≤l→x0.β l=none):∀(c:Code)(ac:AC),C.code c=some ac→∀(Q:Ex→List aW→St→Prop)(env:List aW)(st:St)(a:Act)(x:X),
  bB Γ ac Q env st→Inv C a x env st→Step x0 x→c.wp C.P (Post C Q x0) a x.w:=by
 intro c;induction c with
 |skip=>
  intro ac hc Q env st a x hw hi hs;simp only[CC.code,Option.some.injEq]at hc;subst hc;obtain⟨env,st,hgh,hw⟩:=hw;obtain⟨x,hxf,hs,hi⟩:=Inv.ghost hlo hgh hi hs;rw[←hxf];exact wp_skip ⟨.normal,x,env,st,rfl,rfl,hs,hi,hw⟩
 |region id ops draw=>
  intro ac hc Q env st a x hw hi hs;simp only[CC.code]at hc;split at hc
  ·rename_i l0 hl;cases draw with
   |false=>
    ·simp only[Bool.false_eq_true,if_false,Option.some.injEq]at hc;subst hc;have hsp:=Spec.start hl;simp only[bB]at hw;obtain⟨env,st,hgh,hw⟩:=hw;obtain⟨x,hxf,hs,hi⟩:=Inv.ghost hlo hgh hi hs;rw[←hxf];refine wp_region ?_;rw[List.range_eq_range'];refine IZ hsp hΓ (x0:=x0) (K:=fun vs st'=>Q .normal (eK env vs (C.eF 0 ops.toList)) st') (fun vs' st' a' x' hk _ hm hst hsm hfr=>?_) ops.size 0 [] st x a (by omega) rfl (hi.Ik _ _ (fun p h=>by omega)) hs hi.j9 hi.fresh hw;exact⟨.normal,x',_,st',rfl,rfl,hst,qR hnd hsp hi.len hm hsm hfr,hk⟩
   |true=>
    simp only[if_true]at hc;split at hc
    ·rename_i hdo;simp only[Option.some.injEq]at hc;subst hc;have hsp:=(Spec.start hl).jg (kO [] ops.toList);generalize jg (kO [] ops.toList) l0 0 l0=l at hsp hdo hw;simp only[bB]at hw;obtain⟨env,st,hgh,hw⟩:=hw;obtain⟨x,hxf,hs,hi⟩:=Inv.ghost hlo hgh hi hs;rw[←hxf];have ho:=F9 hdo;have hasm:∀g∈l,∀vs',g.i.Au true (Src.ev env vs'):=by
      intro g hg vs';refine EH fun s _ hS hok=>?_
      have:=hS rfl;obtain⟨n,rfl⟩:∃n,s=.s n:=by
       cases s<;>simp only[Src.Fq]at this<;>first
        |exact⟨_,rfl⟩
        |cases this
      simp only[Src.ev]at hok⊢;by_cases hn:n<C.slots.length
      ·exact⟨_,_,_,hi.env n C.slots[n] (by simp[hn]) hok⟩
      ·refine⟨C.ν,x,undef, ?_⟩;have:env.getD n .un=.un:=by simp[List.getD,List.getElem?_eq_none (show env.length≤n by rw[hi.len];omega)]
       rw[this];exact .any _
     rcases K0 hdo with hnM|hlm
     ·obtain⟨VS,M,tr,hM0,hk⟩:=rY hnM hasm hi.fresh.m hw;have hg:dZ x.w {x.w with drawn:=x.w.drawn+1}:=⟨rfl,rfl,rfl,Nat.le_refl _,fun _ _=>rfl⟩
      let x1:X:=⟨{x.w with drawn:=x.w.drawn+1},x.I,x.β⟩
      have hst1:Step x x1:=Step.grow hg hi.j9.imm;have hs1:dz C.ν x1 (look st.m):=hi.j9.grow hg;refine wp_region_any hmix ?_;refine yM hsp ho hnM hΓ tr (x0:=x0) (fun a' x' hm hst hsm hfr=>?_) ops.size _ a x1 (look st.m) 0 ?_ ?_
      ·exact⟨.normal,x',_,_,rfl,rfl,hst,qR hnd hsp hi.len hm hsm hfr,hk⟩
      ·have hno:∀p,¬(Array.replicate ops.size false).getD p false=true:=fun p=>by
        simp[Array.getElem?_replicate];split<;>simp
       refine⟨?_,hs.trans hst1,hs1,by simp,fun j hj=>absurd hj (hno j),fun l' hl' _=>hi.fresh.β l' hl',fun p g _ _=>⟨fun h=>absurd h (hno p),fun h=>by omega⟩,fun l' hl'=>?_,fun q g _ _ _ h=>absurd h (hno q)⟩
       ·have:=hi.Ik (ops.toList.map (·.dst)) VS (D:=fun p=>(Array.replicate ops.size false).getD p false=true) hno;exact⟨fun p t hp=>absurd hp (hno p),fun p t hp=>absurd hp (hno p),fun n t hn h1 h2=>(this.old n t hn h1 h2).mono hst1.le,this.size,this.defers⟩
       ·have hlt:l'<st.nx:=by
         rcases Nat.lt_or_ge l' st.nx with h1|h1
         ·exact h1
         ·exact absurd (hi.fresh.β l' h1) hl'
        rw[show max 0 (l'+1-st.nx)=0 by omega,hM0]
      ·unfold LP;exact Nat.le_trans (List.length_filter_le _ _) (by simp)
     ·obtain⟨l',f,VM,rfl,hfull,hnM⟩:=AW hlm;have hlen:l'.length+1=ops.size:=by have:=hsp.len;simpa using this
      have hsz:ops.size=l'.length+1:=hlen.symm;obtain⟨o,ho1⟩:∃o,ops[l'.length]? =some o:=⟨ops[l'.length],by simp[hsz]⟩
      have hops:ops.toList=ops.pop.toList++[o]:=by
       apply List.ext_getElem?;intro q;rw[Array.toList_pop,List.dropLast_eq_take];rcases Nat.lt_trichotomy q l'.length with h1|h1|h1
       ·rw[List.getElem?_append_left (by simp;omega),List.getElem?_take,if_pos (by simp;omega)]
       ·subst h1;rw[List.getElem?_append_right (by simp;omega)];simp[hsz];simpa[hsz]using ho1
       ·rw[List.getElem?_eq_none (by simp;omega),List.getElem?_eq_none (by simp;omega)]
      have hpop:∀j,j<l'.length→ops.pop.toList[j]? =ops.toList[j]? :=fun j hj=>by
       conv=>rhs;rw[hops]
       rw[List.getElem?_append_left (by simp;omega)]
      have hdd:∀j,j<l'.length→(ops.pop.toList.map (·.dst))[j]? =(ops.toList.map (·.dst))[j]? :=fun j hj=>by
       rw[List.getElem?_map,List.getElem?_map,hpop j hj]
      have htk:∀j,j≤l'.length→(ops.pop.toList.map (·.dst)).take j=(ops.toList.map (·.dst)).take j:=fun j hj=>by
       conv=>rhs;rw[hops]
       rw[List.map_append,List.take_append_of_le_length (by simp;omega)]
      have hsp':Spec C ops.pop.toList l':=by
       refine⟨by simp;omega,fun i oi hoi=>?_,fun i oi d hoi hd=>?_⟩
       ·have hi':i<l'.length:=by have:=(List.getElem?_eq_some_iff.1 hoi).1;simp at this;omega
        rw[hpop i hi']at hoi;obtain⟨g,g1,g2,g3⟩:=hsp.op i oi hoi;rw[List.getElem?_append_left hi']at g1;exact⟨g,g1,by rw[htk i (by omega)];exact g2,by rw[htk i (by omega)];exact g3⟩
       ·have hi':i<l'.length:=by have:=(List.getElem?_eq_some_iff.1 hoi).1;simp at this;omega
        rw[hpop i hi']at hoi;obtain⟨h1,h2⟩:=hsp.dst i oi d hoi hd;exact⟨h1,fun p hp=>by rw[hdd p (by omega)];exact h2 p hp⟩
      have ho':Order ops.pop.toList l' (kO [] ops.toList):=Order.pre (o:=o) (g:=⟨.callM f VM,none⟩) (by rw[←hops];exact ho);have hgd:∀(i:Nat) (o:Oper),ops[i]? =some o→∀j w,o.guard=some (j,w)→j<i:=by
       intro i oi hoi j w hj;obtain⟨g,_,_,g3⟩:=hsp.op i oi (by simpa using hoi);rw[hj]at g3;simp only[CC.guard]at g3;split at g3
       ·rename_i t ht;have:=(List.getElem?_eq_some_iff.1 ht).1;simp only[List.length_take]at this;omega
       ·cases g3
      have hw':=zH l' [] st rfl hnM hw;obtain⟨VS,M,tr,hM0,hk⟩:=rY hnM (fun g hg=>hasm g (List.mem_append_left _ hg)) hi.fresh.m hw';have hVS:VS.length=l'.length:=tr.len;have hg:dZ x.w {x.w with drawn:=x.w.drawn+1}:=⟨rfl,rfl,rfl,Nat.le_refl _,fun _ _=>rfl⟩
      let x1:X:=⟨{x.w with drawn:=x.w.drawn+1},x.I,x.β⟩
      have hst1:Step x x1:=Step.grow hg hi.j9.imm;have hs1:dz C.ν x1 (look st.m):=hi.j9.grow hg;refine wp_region_any hmix ?_;have hrp:(Array.replicate ops.size false).pop=Array.replicate ops.pop.size false:=by
       apply Array.ext
       ·simp
       ·intro q h5 h6;simp
      have hno:∀(n p:Nat),¬(Array.replicate n false).getD p false=true:=fun n p=>by
       simp[Array.getElem?_replicate];split<;>simp
      rw[hsz];refine EF hsz ho hfull hgd l'.length _ a x1.w (by simp) (by simp[Array.getElem?_replicate]) (fun j hj=>absurd hj (hno _ j)) ?_;have hsz':ops.pop.size=l'.length:=by simp;omega
      rw[show(Array.replicate (l'.length+1) false).pop=Array.replicate ops.pop.size false by rw[←hrp,hsz]];refine yM hsp' ho' hnM hΓ tr (x0:=x0) (fun a' x' hm hst hsm hfr=>?_) l'.length _ a x1 (look st.m) 0 ?_ ?_
      ·
       show wpOp C.P ops _ l'.length _ a' x'.w;simp only[fH]at hk;have hnx:st.nx+l'.length-VS.length=st.nx:=by omega
       rw[hnx]at hk;obtain⟨_,hk,_⟩:=hk;obtain⟨k1,k2⟩:=hk rfl;have hop:=hsp.op l'.length o (by simpa using ho1);obtain⟨g,g1,g2,g3⟩:=hop;rw[List.getElem?_append_right (Nat.le_refl _),Nat.sub_self,List.getElem?_cons_zero]at g1;obtain rfl:=Option.some.inj g1;have hmid:tm C env (ops.toList.map (·.dst)) VS (· <l'.length) a' x':=by
        refine⟨fun p t hp h1 h2=>hm.val p t (by rw[hsz'];exact hp) (by rw[hdd p hp];exact h1) h2,fun p t hp h1 h2=>hm.und p t (by rw[hsz'];exact hp) (by rw[hdd p hp];exact h1) h2,fun n t hn h1 h2=>hm.old n t hn (fun p hp=>?_) h2,hm.size,hm.defers⟩;have hp':p<l'.length:=by have hp:p<ops.pop.size:=hp;omega
        rw[hdd p hp'];exact h1 p hp'
       unfold wpOp;rw[ho1];simp only;have hgn:o.guard=none:=by
        cases hgg:o.guard with
        |none=>rfl
        |some jw=>obtain⟨j,w⟩:=jw;rw[hgg]at g3;simp only[CC.guard]at g3;split at g3<;>cases g3
       have hfl:Region.wanted o (yielded ops a'.tmps)=true:=by simp only[Region.wanted,hgn]
       rw[if_pos hfl];left;have hvt:VS.take l'.length=VS:=List.take_of_length_le (by omega);have hρ:rA C ((ops.toList.map (·.dst)).take l'.length) (Src.ev env VS) a'.eval x' o.op.operands.toList:=by
        have:=hmid.rho (i:=l'.length) (os:=o.op.operands.toList) (fun t p _ _=>⟨fun h=>h,fun h=>by omega⟩)
        rwa [hvt]at this
       refine(zo (st:=⟨st.nx+VS.length,M l'.length⟩) (fun d=>rfl) hΓ (by rcases g2 with h|⟨_,_,_,h,_⟩|⟨_,_,h,_⟩|⟨_,_,_,_,h,_⟩|⟨_,_,_,h,_⟩;exact h;cases h;cases h;cases h;cases h) hρ k1 hsm (by rw[hVS];exact hfr) k2).wp (fun v x2 hG=>?_);obtain⟨d,st',hK1,hst2,hrd,hs2,hf2⟩:=hG;obtain⟨hnx2,hK2⟩:=hK1;simp only[List.length_append,List.length_cons,List.length_nil]at hK2;have hdst:(ops.toList.map (·.dst))[l'.length]? =some o.dst:=by rw[List.getElem?_map];simp[ho1]
       have he:(VS++[(⟨true,d⟩:aW)]).getD l'.length .un=(⟨true,d⟩:aW):=by rw[bI,if_neg (by omega)];simp[hVS]
       have hmid2:tm C env (ops.toList.map (·.dst)) (VS++[⟨true,d⟩]) (· <ops.size) (a'.put o.dst v) x2:=by
        refine(hmid.ext ⟨true,d⟩ hVS).put (i:=l'.length) hst2.le hdst (fun t ht=>⟨(hsp.dst _ o t (by simpa using ho1) ht).1,fun p hp e'=>hp (hsp.distinct (by rw[hdst,ht]) e')⟩) (by rw[he];exact fun _=>hrd) (by rw[he];intro h;cases h) (fun p=>by omega)
       have hst3:=hst.trans hst2;refine⟨.normal,x2,_,_,rfl,rfl,hst3,qR (st:=⟨st'.nx-VS.length+(VS.length+(0+1)),st'.m⟩) hnd hsp hi.len hmid2 hs2 ?_,hK2⟩;exact hf2.up (by omega)
      ·refine⟨?_,hs.trans hst1,hs1,by simp,fun j hj=>absurd hj (hno _ j),fun l' hl' _=>hi.fresh.β l' hl',fun p g _ _=>⟨fun h=>absurd h (hno _ p),fun h=>by omega⟩,fun l' hl'=>?_,fun q g _ _ _ h=>absurd h (hno _ q)⟩
       ·have:=hi.Ik (ops.pop.toList.map (·.dst)) VS (D:=fun p=>(Array.replicate ops.pop.size false).getD p false=true) (hno _);exact⟨fun p t hp=>absurd hp (hno _ p),fun p t hp=>absurd hp (hno _ p),fun n t hn h1 h2=>(this.old n t hn h1 h2).mono hst1.le,this.size,this.defers⟩
       ·have hlt:l'<st.nx:=by
         rcases Nat.lt_or_ge l' st.nx with h1|h1
         ·exact h1
         ·exact absurd (hi.fresh.β l' h1) hl'
        rw[show max 0 (l'+1-st.nx)=0 by omega,hM0]
      ·unfold LP;refine Nat.le_trans (List.length_filter_le _ _) (by simp;omega)
    ·cases hc
  ·cases hc
 |seq c1 c2 ih1 ih2=>
  intro ac hc Q env st a x hw hi hs;simp only[CC.code]at hc;split at hc
  ·rename_i a1 a2 h1 h2;simp only[Option.some.injEq]at hc;subst hc;simp only[bB]at hw;obtain⟨env,st,hgh,hw⟩:=hw;obtain⟨x,hxf,hs,hi⟩:=Inv.ghost hlo hgh hi hs;rw[←hxf];refine wp_seq (wp_mono (ih1 a1 h1 _ env st a x hw hi hs) fun e a' w' hp=>?_);obtain⟨e',x',env',st',he,hxw,hst,hi',hq⟩:=hp;subst hxw;cases e' with
   |normal=>subst he;exact ih2 a2 h2 Q env' st' a' x' hq hi' hst
   |exit id=>subst he;exact⟨.exit id,x',env',st',rfl,rfl,hst,hi',hq⟩
   |ret=>subst he;exact⟨.ret,x',env',st',rfl,rfl,hst,hi',hq⟩
  ·cases hc
 |cond c c1 c2 ih1 ih2=>
  intro ac hc Q env st a x hw hi hs;simp only[CC.code]at hc;split at hc
  ·rename_i s a1 a2 h0 h1 h2;simp only[Option.some.injEq]at hc;subst hc;simp only[bB]at hw;obtain⟨env,st,hgh,hw⟩:=hw;obtain⟨x,hxf,hs,hi⟩:=Inv.ghost hlo hgh hi hs;rw[←hxf];obtain⟨hok,hw⟩:=hw;have hv:=E0 hi h0 hok;cases hd:(s.ev env []).d<;>simp only[hd]at hw;rename_i t;rw[hd]at hv;cases t with
   |true=>exact wp_cond_true hv.fD (ih1 a1 h1 Q env st a x (hw.1 rfl) hi hs)
   |false=>exact wp_cond_false hv.fD (ih2 a2 h2 Q env st a x (hw.2 rfl) hi hs)
  ·cases hc
 |block id c1 ih=>
  intro ac hc Q env st a x hw hi hs;simp only[CC.code,Option.map_eq_some_iff]at hc;obtain⟨a1,h1,rfl⟩:=hc;simp only[bB]at hw;obtain⟨env,st,hgh,hw⟩:=hw;obtain⟨x,hxf,hs,hi⟩:=Inv.ghost hlo hgh hi hs;rw[←hxf];refine wp_block (wp_mono (ih a1 h1 _ env st a x hw hi hs) fun e a' w' hp=>?_);obtain⟨e',x',env',st',he,hxw,hst,hi',hq⟩:=hp;subst hxw;cases e' with
  |normal=>subst he;exact⟨.normal,x',env',st',rfl,rfl,hst,hi',hq⟩
  |exit j=>
   subst he;simp only[Ex.of,Exit.inBlock];by_cases hj:j=id
   ·rw[if_pos hj];simp only[hj,if_true]at hq;exact⟨.normal,x',env',st',rfl,rfl,hst,hi',hq⟩
   ·rw[if_neg hj];simp only[hj,if_false]at hq;exact⟨.exit j,x',env',st',rfl,rfl,hst,hi',hq⟩
  |ret=>subst he;exact⟨.ret,x',env',st',rfl,rfl,hst,hi',hq⟩
 |loop c1 ih=>
  intro ac hc Q env st a x hw hi hs;simp only[CC.code,Option.map_eq_some_iff]at hc;obtain⟨a1,h1,rfl⟩:=hc;simp only[bB]at hw;obtain⟨env,st,hgh,hw⟩:=hw;obtain⟨x,hxf,hs,hi⟩:=Inv.ghost hlo hgh hi hs;rw[←hxf];obtain⟨I,μ,hI,hround⟩:=hw
  let W:Act→World→Nat→Prop:=fun a w n=>∃env st x,x.w=w∧Step x0 x∧Inv C a x env st∧I env st∧μ env st=n
  open Classical in
  let μ':Act→World→Nat:=fun a w=>if h:∃n,W a w n then Classical.choose (least h)else 0
  refine wp_loop (fun a w=>∃n,W a w n) μ' ⟨_,env,st,x,rfl,hs,hi,hI,rfl⟩ fun a w hIn=>?_
  have hμ:μ' a w=Classical.choose (least hIn):=dif_pos hIn;obtain⟨env2,st2,x2,hxw,hst2,hi2,hI2,hmu⟩:=(Classical.choose_spec (least hIn)).1;subst hxw;refine wp_mono (ih a1 h1 _ env2 st2 a x2 (hround env2 st2 hI2) hi2 hst2) fun e a' w' hp=>?_
  obtain⟨e',x',env',st',he,hxw,hst,hi',hq⟩:=hp;subst hxw;cases e' with
  |normal=>
   subst he;obtain⟨env3,st3,hgh3,hI3,hlt⟩:=hq;obtain⟨x',hxf',hst,hi'⟩:=Inv.ghost hlo hgh3 hi' hst;rw[←hxf'];have hW:W a' x'.w (μ env3 st3):=⟨env3,st3,x',rfl,hst,hi',hI3,rfl⟩;refine⟨⟨_,hW⟩, ?_⟩;have h2:μ' a' x'.w=Classical.choose (least (⟨_,hW⟩:∃n,W a' x'.w n)):=dif_pos ⟨_,hW⟩;rw[h2,hμ];exact Nat.lt_of_le_of_lt ((Classical.choose_spec (least (⟨_,hW⟩:∃n,W a' x'.w n))).2 _ hW) (by rw[←hmu];exact hlt)
  |exit id=>subst he;exact⟨.exit id,x',env',st',rfl,rfl,hst,hi',hq⟩
  |ret=>subst he;exact⟨.ret,x',env',st',rfl,rfl,hst,hi',hq⟩
 |exit id=>
  intro ac hc Q env st a x hw hi hs;simp only[CC.code,Option.some.injEq]at hc;subst hc;obtain⟨env,st,hgh,hw⟩:=hw;obtain⟨x,hxf,hs,hi⟩:=Inv.ghost hlo hgh hi hs;rw[←hxf];exact wp_exit ⟨.exit id,x,env,st,rfl,rfl,hs,hi,hw⟩
 |ret=>
  intro ac hc Q env st a x hw hi hs;simp only[CC.code,Option.some.injEq]at hc;subst hc;obtain⟨env,st,hgh,hw⟩:=hw;obtain⟨x,hxf,hs,hi⟩:=Inv.ghost hlo hgh hi hs;rw[←hxf];exact wp_ret ⟨.ret,x,env,st,rfl,rfl,hs,hi,hw⟩
 |scope c1 ih=>
  intro ac hc Q env st a x hw hi hs;simp only[CC.code]at hc;refine wp_scope_straight (wp_mono (ih ac hc Q env st a x hw hi hs) fun e a' w' hp=>?_);obtain⟨e',x',env',st',he,hxw,hst,hi',hq⟩:=hp;subst he;cases e'<;>exact⟨_,x',env',st',rfl,hxw,hst,hi',hq⟩
 |label l=>
  intro ac hc Q env st a x hw hi hs;simp only[CC.code,Option.some.injEq]at hc;subst hc;obtain⟨env,st,hgh,hw⟩:=hw;obtain⟨x,hxf,hs,hi⟩:=Inv.ghost hlo hgh hi hs;rw[←hxf];exact wp_label ⟨.normal,x,env,st,rfl,rfl,hs,hi,hw⟩
 |_=>intro ac hc;simp[CC.code]at hc
end
end Go.Abs
end
section
namespace Go.Abs
variable [bU]
section
variable {C:CC} {Γ:Ctx}
def FB {P:Program}{ν:List (Nat×Nat)}{x:X}{f:Nat→Option aV}{m:List (Nat×aV)}{t:TypeId}{v:Value}{d:D}(hn0:P.cellsOf t≠0)(hu:(P.underlying t).isNone=false)(h1':bh P t=false→P.cellsOf t=1)
  (hv:RD ν x v d) (k2:Al m (P.cellsOf t) d) (hs:dz ν x f) (hag:∀l,look m l≠none→f l=look m l):
  ∃ad u,v=.pointer (some ad)∧(loadVar t ad).run P x.w=.ok u x.w∧RD ν x u (zd m (P.cellsOf t) (bh P t) d):=by
 cases d<;>simp only[Al]at k2
 ·rename_i k es i o';cases hv with
  |ref b off _ _ _ at_ _ c hI hat hk hn hcc hone hh=>
   obtain⟨v,r1,r2⟩:=sU (P:=P) (ν:=ν) (x:=x) (e:=es.getD i .any) (k:=k) (n:=P.cellsOf t) (o:=o') (b:=b) (at0:=off+i*k) (ag:=bh P t) (ty:=t) (c:=c i) (hk i k2.1) k2.2
    (fun j hj=>⟨hcc i j k2.1 hj,hone i j k2.1 hj,hh i j k2.1 hj⟩) rfl hn0 hu rfl h1'
   exact⟨_,v,rfl,by rw[hat];exact r1,by simp only[zd];exact r2⟩
 ·rename_i l k i o';cases hv with
  |ptr _ _ _ _ b base tot at_ hβ hat=>
   obtain⟨g1,g2,hnI,hk0,ht,c,T,fr,q1,q2,q3,q4⟩:=tw hs hag k2.1 hβ;have hi:i<(aD m l).length:=by omega
   obtain⟨v,r1,r2⟩:=sU (P:=P) (ν:=ν) (x:=x) (e:=(aD m l).getD i .any) (k:=k) (n:=P.cellsOf t) (o:=o') (b:=b) (at0:=base+i*k) (ag:=bh P t) (ty:=t) (c:=fun j=>c.getD (base+i*k+j) undef)
    ((q4 i hi).1) k2.2
    (fun j hj=>⟨cell_of_heap q1 (by have:=fu (tot:=tot) (show i<tot by omega) hj;omega),((q4 i hi).2 j hj).1,((q4 i hi).2 j hj).2⟩) rfl hn0 hu rfl h1'
   exact⟨_,v,rfl,by rw[hat];exact r1,by simp only[zd];exact r2⟩
def uJ (a:Act):ResultVar→Sem Value
 | .tmp t=>pure (a.tmps.getD t undef)
 | .cell ad t=>do loadVar t (←asAddr (a.tmps.getD ad undef))
def nr {a:Act}{x:X}{env:List aW}{st:St}(hi:Inv C a x env st):∀(rs:List ResultVar)(ars:List Am),qb C.P C.slots rs=some ars→mn st.m env ars→
  ∃vs,(rs.mapM (uJ a)).run C.P x.w=.ok vs x.w∧vs.length=ars.length∧(mq st.m env ars).length=ars.length∧∀i,i<ars.length→RD C.ν x (vs.getD i undef) ((mq st.m env ars).getD i .any)
 |[],ars,h,_=>by simp[qb]at h;subst h;exact⟨[],by simp,rfl,by simp[mq],fun i hi=>by simp at hi⟩
 | .tmp t::r,ars,h,ho=>by
  simp only[qb]at h;split at h
  ·rename_i s l h1 h2;simp only[Option.some.injEq]at h;subst h;simp only[mn]at ho;obtain⟨vs,b1,b2,b4,b3⟩:=nr hi r l h2 ho.2.2;refine⟨a.tmps.getD t undef::vs,by simp[uJ,b1],by simp[b2],by simp[mq,b4],fun i hil=>?_⟩;cases i with
   |zero=>simpa[mq,zI]using hi.env s t (kX _ _ _ h1) ho.1
   |succ i=>simpa[mq]using b3 i (by simpa using hil)
  ·cases h
 | .cell t ty::r,ars,h,ho=>by
  simp only[qb]at h;split at h
  ·rename_i s l h1 h2;split at h
   ·cases h
   rename_i hce;simp only[Option.some.injEq]at h;subst h;simp only[mn]at ho;obtain⟨vs,b1,b2,b4,b3⟩:=nr hi r l h2 ho.2.2;have hu:(C.P.underlying ty).isNone=false:=by cases hn:(C.P.underlying ty).isNone with|false=>rfl|true=>exact absurd (.inr (.inl hn)) hce
   have h1':bh C.P ty=false→C.P.cellsOf ty=1:=fun e=>by
    rcases Nat.decEq (C.P.cellsOf ty) 1 with h|h
    ·exact absurd (.inr (.inr ⟨e,h⟩)) hce
    ·exact h
   obtain⟨ad,u,c1,c2,c3⟩:=FB (fun e=>hce (.inl e)) hu h1' (hi.env s t (kX _ _ _ h1) ho.1) ho.2.1 hi.j9 (fun _ _=>rfl);refine⟨u::vs, ?_,by simp[b2],by simp[mq,b4],fun i hil=>?_⟩
   ·have e:(uJ a (.cell t ty)).run C.P x.w=.ok u x.w:=by simp only[uJ,c1];simp[asAddr,c2]
    simp[List.mapM_cons,e,b1]
   ·cases i with
    |zero=>simpa[mq,zI]using c3
    |succ i=>simpa[mq]using b3 i (by simpa using hil)
  ·cases h
def Bn (fn:Func)(a:Act):results fn a.tmps=(do
  let vs ←fn.results.mapM (uJ a)
  pure (if h:vs.size=1 then vs[0]else .tuple vs)):=by
 unfold results;congr 1
def nq {a:Act}{x:X}{env:List aW}{st:St}(hi:Inv C a x env st){fn:Func}{af:aB}(hr:qb C.P C.slots fn.results.toList=some af.res)(ho:mn st.m env af.res):
  ∃v,(results fn a.tmps).run C.P x.w=.ok v x.w∧RD C.ν x v (iF af env st)∧(af.res.length≠1→∃cs,v=.tuple cs):=by
 obtain⟨vs,b1,b2,b4,b3⟩:=nr hi _ _ hr ho;have hrun:(results fn a.tmps).run C.P x.w=.ok (if h:vs.length=1 then vs[0]else .tuple vs.toArray) x.w:=by
  rw[Bn,Sem.run_bind,Array.mapM_eq_mapM_toList,Sem.run_map,b1];simp[Result.andThen]
 rcases hres:af.res with _|⟨r,_|⟨r2,rs⟩⟩
 ·rw[hres]at b2 b3 b4;have h0:vs.length≠1:=by rw[b2];simp
  rw[dif_neg h0]at hrun;refine⟨_,hrun, ?_,fun _=>⟨_,rfl⟩⟩;simp only[iF,hres];refine .tup _ _ (by simp[b2,b4]) fun i hi=>?_
  have:=b3 i (by omega)
  rwa [←aZ]
 ·rw[hres]at b2 b3 b4;have h0:vs.length=1:=by rw[b2];rfl
  rw[dif_pos h0]at hrun;refine⟨_,hrun, ?_,fun h=>absurd rfl h⟩;simp only[iF,hres];have:=b3 0 (by simp);simp only[mq,List.getD_cons_zero]at this
  rwa [kg _ _ _ (by omega)]at this
 ·rw[hres]at b2 b3 b4;have h0:vs.length≠1:=by rw[b2];simp
  rw[dif_neg h0]at hrun;refine⟨_,hrun, ?_,fun _=>⟨_,rfl⟩⟩;simp only[iF,hres];refine .tup _ _ (by simp[b2,b4]) fun i hi=>?_
  have:=b3 i (by omega)
  rwa [←aZ]
def qD:∀(l acc:List Nat),∃r,dedup acc l=acc.reverse++r
 |[],acc=>⟨[],by simp[dedup]⟩
 |a::l,acc=>by
  simp only[dedup];split
  ·exact qD l acc
  ·obtain⟨r,h⟩:=qD l (a::acc);exact⟨a::r,by rw[h];simp⟩
def mI:∀(l acc:List Nat),acc.Nodup→(dedup acc l).Nodup
 |[],acc,h=>by simp only[dedup];exact List.pairwise_reverse.2 (h.imp fun h=>Ne.symm h)
 |a::l,acc,h=>by
  simp only[dedup];split
  ·exact mI l acc h
  ·rename_i hn;exact mI l (a::acc) (List.nodup_cons.2 ⟨by simpa using hn,h⟩)
def rH (rest:List Nat):∀(n j:Nat),dedup (List.range j).reverse (List.range' j n++rest)=dedup (List.range (j+n)).reverse rest
 |0,j=>by simp
 |n+1,j=>by
  rw[List.range'_succ,List.cons_append];simp only[dedup];rw[if_neg (by simp)];have e:j::(List.range j).reverse=(List.range (j+1)).reverse:=by rw[List.range_succ];simp
  rw[e,rH rest n (j+1)];congr 2;congr 1;omega
def ko (fn:Func):(slotsOf fn).Nodup∧fn.params.size+fn.nfree≤(slotsOf fn).length∧∀n,n<fn.params.size+fn.nfree→(slotsOf fn)[n]? =some n:=by
 refine⟨mI _ _ List.nodup_nil, ?_⟩;have e:slotsOf fn=dedup (List.range (fn.params.size+fn.nfree)).reverse (nS fn.results.toList++uU (fn.body.getD .skip)):=by
  have:=rH (nS fn.results.toList++uU (fn.body.getD .skip)) (fn.params.size+fn.nfree) 0;simp only[List.range_zero,List.reverse_nil,Nat.zero_add]at this;unfold slotsOf;rw[List.append_assoc,List.range_eq_range'];rw[this,List.range_eq_range']
 obtain⟨r,h⟩:=qD (nS fn.results.toList++uU (fn.body.getD .skip)) (List.range (fn.params.size+fn.nfree)).reverse;rw[e,h];refine⟨by simp,fun n hn=>?_⟩;rw[List.reverse_reverse,List.getElem?_append_left (by simpa using hn)];simp[hn]
end
end Go.Abs
end
