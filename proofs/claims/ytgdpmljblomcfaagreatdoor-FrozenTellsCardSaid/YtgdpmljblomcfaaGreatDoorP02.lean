/- A part of the proofs. -/
import Derived.IntWalk
import Derived.KernelRfl
import Derived.Lib.SliceRun
import Derived.Lib.TrimUEq
import Derived.Scope
import Derived.WalkSpells
import Derived.Test.YtgdpmljblomcfaaGreatDoorP01
set_option linter.all false
set_option maxRecDepth 60000
set_option maxHeartbeats 2000000
namespace Go.Abs
section
variable [cN]
section
variable {C:CC} {Y:Ctx} {J:Src->aX} {m:List (Nat×bm)} {L:Nat}
theorem yP {i:ax}{l:Nat}(h:l∉i.wr J L):look (i.bP Y J m L) l=look m l:=by
 cases i<;>simp only[ax.wr,b9,cV,or_false,not_or]at h<;>simp only[ax.bP]
 case box=>rw[bJ,ai h]
 case mkB=>rw[bJ,ai h]
 case mkM=>rw[bJ,ai h]
 case upM x k v=>
  split
  .rename_i hd;rw[hd]at h;rw[bJ,ai (by simpa[CU]using h)]
  .rfl
 case bsl=>rw[bJ,ai h]
 case mks=>rw[bJ,ai h]
 case s2b x=>split<;>first|rw[bJ,ai h]|rfl
 case appN k y=>rw[bJ,ai h]
 case rng x=>split<;>first|rw[bJ,ai h]|rfl
 case st n p v=>
  split
  .rename_i hd;rw[hd]at h;rw[bJ,ai (by simpa[cq]using h)]
  .rfl
 case stU n p v qs=>
  split
  .rename_i hd;rw[hd]at h;rw[bJ,ai (by simpa[cq]using h)]
  .rfl
 case app k x y=>
  split
  .rename_i hd;rw[hd]at h;rw[bJ,ai h.1,eY,ai (by simpa[cq]using h.2)]
  .rw[bJ,ai h.1]
 case aS x=>
  grind [bJ,cq]
 case callF n r args sh=>
  split
  .rename_i hd;rw[hd]at h;rw[bJ,ai (by simpa[cq]using h)]
  .rfl
theorem kB {i:ax}(h:i.calm=true){l:Nat}(hl:l∈i.wr J L):l=L:=by
 cases i<;>simp_all[ax.calm,ax.wr]
theorem fe {l k n:Nat}(h:dW m l k n):look m l≠none:=by
 intro e;simp[dW,e]at h
theorem OJ {i:ax}(h:i.ey Y J m){l:Nat}(hl:l∈i.wr J L):l=L\/look m l≠none:=by
 cases i<;>simp only[ax.wr,b9,cV,or_false]at hl<;>first
  |exact .inl hl
  |exact hl.elim
  |skip
 case upM x k v=>
  right;obtain⟨l0,kvs,hd,hl0,_⟩:=tq h.2.2.2.1;simp only[hd,CU,aC]at hl;subst hl;rw[hl0];simp
 case st n p v=>
  right;obtain⟨_,_,_,h4⟩:=h;cases hd:(J p).d<;>simp only[hd,cq,aC]at h4 hl;subst hl;exact fe h4.1
 case stU n p v qs=>
  right;obtain⟨_,_,_,h4⟩:=h;cases hd:(J p).d<;>simp only[hd,cq,aC]at h4 hl;subst hl;exact fe h4.1
 case app k x y=>
  rcases hl with hl|hl
  .exact .inl hl
  .right;obtain⟨_,_,_,h4⟩:=h;cases hd:(J x).d<;>simp only[hd,cq,aC,cV]at h4 hl;subst hl;exact fe h4.2.1
 case aS x=>
  right;obtain⟨_,h4⟩:=h;cases hd:(J x).d<;>simp only[hd,cq,aC,cV]at h4 hl;subst hl;intro e;simp[e]at h4
 case callF n r args sh=>
  right;obtain⟨_,_,_,h4⟩:=h;cases hd:(J r).d<;>simp only[hd,cq,aC,cV]at h4 hl;subst hl;exact fe h4.2.2.1
def th {i:ax}(h:i.calm=true\/i.ey Y J m){l:Nat}(hl:look (i.bP Y J m L) l≠none):look m l≠none\/l=L:=by
 grind [kB,OJ,yP]
omit [cN]in
theorem Yr {i:ax}(h:i.pure=true):i.bP Y J m L=m:=by
 cases i<;>simp_all[ax.pure,ax.bP]
omit [cN]in
theorem T3 {i:ax}(h:i.pure=true):i.calm=true:=by
 cases i<;>simp_all[ax.pure,ax.calm]
def Ys {i:ax}(h:i.pure=true):i.mX J=some []:=by
 cases i<;>simp_all[ax.pure,ax.mX]
def Tk {i:ax}(h:i.free=true):i.calm=true:=by
 cases i<;>simp_all[ax.free,ax.calm,ax.pure]
def aci {i:ax}(h:i.free=true):i.wr J L=[]:=by
 cases i<;>simp_all[ax.free,ax.wr,ax.pure]
def WB {i:ax}(h:i.free=true):i.bP Y J m L=m:=by
 cases i<;>simp_all[ax.free,ax.bP,ax.pure]
def FP {sh:List Sh}(h:sh.all Sh.isA=true):∀{d:D},gL m sh d->d.aR=true:=by
 have hL:∀(sh:List Sh) (ds:List D),sh.all Sh.isA=true->kf m sh ds->aL ds=true:=by
  intro sh;induction sh with
  |nil=>intro ds _ h;simpa[kf]using h
  |cons s r ih=>
   intro ds h ho;cases ds with
   |nil=>rfl
   |cons d ds=>
    grind [kf,Sh.isA,aL,iv]
 intro d ho;cases sh with
 |nil=>simpa[gL]using ho
 |cons s r=>
  have hs:s=.a:=by simp only[List.all_cons,aN]at h;cases s<;>simp_all[Sh.isA]
  cases d<;>simp only[gL]at ho<;>first
   |(subst hs;simpa[iv]using ho)
   |(rw[D.tt];exact hL _ _ h ho)
def ze:∀{ss:List (List Sh)}{ds:List D},ss.all (fun s=>s.all Sh.isA)=true->je m ss ds->aL ds=true
 |ss,[],_,_=>by simp[aL]
 |[],d::r,h,ho=>by
  simp only[je]at ho;simp only[aL,aN];exact⟨FP (sh:=[.a]) rfl ho.1,ze (ss:=[]) rfl ho.2⟩
 |s::ss,d::r,h,ho=>by
  simp only[je]at ho;simp only[List.all_cons,aN]at h;simp only[aL,aN];exact⟨FP h.1 ho.1,ze h.2 ho.2⟩
def WC {i:ax}(h:i.free=true)(ho:i.ey Y J m):i.mX J=some []:=by
 cases i<;>simp only[ax.free]at h<;>try(exact Ys h)
 simp only[ax.mX,ze h ho.2.1,cond_true]
def CV {i:ax}(h:i.jN=true):i.calm=true:=by
 cases i<;>simp_all[ax.jN,ax.calm]
def TI {i:ax}(h:i.jN=true):i.mX J=some []:=by
 cases i<;>simp_all[ax.jN,ax.mX]
theorem yQ {k:Nat}{d:D}(h:Cc m k d){l:Nat}(hl:l∈cq d):look m l≠none:=by
 cases d<;>simp only[cq,aC,cV,Cc]at h hl;subst hl;exact fe h.2
def BH {i:ax}(h:i.ey Y J m){ls:List Nat}(hls:i.mX J=some ls){l:Nat}(hl:l∈ls):look m l≠none:=by
 cases i<;>simp only[ax.mX,aD,reduceCtorEq]at hls<;>first
  |(subst hls;exact absurd hl cV)
  |skip
 case upM x k v=>
  subst hls;obtain⟨l0,kvs,hd,hl0,_⟩:=tq h.2.2.2.1;simp only[hd,CU,aC]at hl;subst hl;rw[hl0];simp
 case lkM z x k=>
  subst hls;obtain⟨l0,kvs,hd,hl0,_⟩:=tq h.2.2.1;simp only[hd,CU,aC]at hl;subst hl;rw[hl0];simp
 case ldU n ag p=>
  subst hls;obtain⟨_,h4⟩:=h;cases hd:(J p).d<;>simp only[hd,cq,aC,cV]at h4 hl;subst hl;exact fe h4.1.1
 case ldW n ag p=>
  subst hls;obtain⟨_,h4⟩:=h;cases hd:(J p).d<;>simp only[hd,cq,aC,cV]at h4 hl;subst hl;exact fe h4.1.1
 case ld n ag p=>
  subst hls;obtain⟨_,h4⟩:=h;cases hd:(J p).d<;>simp only[hd,cq,aC,cV,Lm]at h4 hl;subst hl;exact fe h4.1
 case st n p v=>
  subst hls;obtain⟨_,_,_,h4⟩:=h;cases hd:(J p).d<;>simp only[hd,cq,aC]at h4 hl;subst hl;exact fe h4.1
 case stU n p v qs=>
  subst hls;obtain⟨_,_,_,h4⟩:=h;cases hd:(J p).d<;>simp only[hd,cq,aC]at h4 hl;subst hl;exact fe h4.1
 case b2s x=>
  subst hls;exact yQ h.2.2.1 hl
 case app k x y=>
  subst hls;obtain⟨_,_,h3,h4⟩:=h
  grind [cq,fe,yQ]
 case appN k y=>
  subst hls;exact yQ h.2.1 hl
 case aS x=>
  subst hls;obtain⟨_,h4⟩:=h;cases hd:(J x).d<;>simp only[hd,cq,aC,cV]at h4 hl;subst hl;intro e;simp[e]at h4
 case call f args sh=>
  cases hn:aL (iM J args)<;>simp only[hn,cond_true,cond_false,aD,reduceCtorEq]at hls;subst hls;exact absurd hl aG
 case callv f args sh=>
  grind
 case callF n r args sh=>
  subst hls;obtain⟨_,_,_,h4⟩:=h;cases hd:(J r).d<;>simp only[hd,cq,aC,cV]at h4 hl;subst hl;exact fe h4.2.2.1
omit [cN]in
theorem zo {draw:Bool}{i:ax}{g:Option (Nat×Bool)}{r:List GI}{env vs:List aX}{st:St}{K:List aX->St->Prop}(h:i.cO=false)(hf:i.k9 draw g=true):
  eM Y draw (⟨i,g⟩::r) env vs st K=(yT vs g/\(flag vs g=true->i.ey Y (Src.ev env vs) st.m/\
     eM Y draw r env (vs++[⟨true,i.val Y (Src.ev env vs) st.m (st.nx+vs.length)⟩]) {st with m:=i.bP Y (Src.ev env vs) st.m (st.nx+vs.length)} K)/\
    (flag vs g=false->eM Y draw r env (vs++[⟨false,.any⟩]) st K)):=by
 cases i<;>first
  |(simp[ax.cO]at h;done)
  |(simp only[eM];rw[ak hf])
omit [cN]in
theorem nH {draw:Bool}{i:ax}{g:Option (Nat×Bool)}{r:List GI}{env vs:List aX}{st:St}{K:List aX->St->Prop}(h:i.cO=false)(hf:i.k9 draw g=false):
  eM Y draw (⟨i,g⟩::r) env vs st K=(UT vs i g/\(flag vs g=true->i.ey Y (Src.ev env vs) st.m)/\
   ((flag vs g=true->i.Kn draw (Src.ev env vs))->∃d,(flag vs g=true->i.val Y (Src.ev env vs) st.m (st.nx+vs.length)=d)/\
     eM Y draw r env (vs++[⟨flag vs g,d⟩]) {st with m:=i.bP Y (Src.ev env vs) st.m (st.nx+vs.length)} K)):=by
 cases i<;>first
  |(simp[ax.cO]at h;done)
  |(simp only[eM];rw[ai (by rw[hf];simp)])
def RD.aeV {ν:List (Nat×Nat)}{x:X}{v:Value}{d:D}(h:RD ν x v d):(∀k es,d=.sl k es->es.length<=9223372036854775807)/\(∀l k i n,d=.own l k i n->n<=9223372036854775807)/\(∀s,d=.str s->s.length<=9223372036854775807):=by
 cases h<;>refine⟨?_, ?_, ?_⟩<;>intros<;>simp_all[maxLen]<;>omega
def VE {i:ax}{draw:Bool}(h:∀s,(i=.len s\/i=.lenS s)->(draw=true->s.Fx=true)->(J s).ok=true->∃ν x v,RD ν x v (J s).d):i.Kn draw J:=by
 cases i<;>simp only[ax.Kn]
 case len s=>
  cases hb:(draw&& !s.Fx)<;>simp only[cond_true,cond_false];intro hok;obtain⟨ν,x,v,hr⟩:=h s (.inl rfl) (fun hd=>by simpa[hd]using hb) hok;obtain⟨a1,a2,a3⟩:=hr.aeV
  grind
 case lenS s=>
  cases hb:(draw&& !s.Fx)<;>simp only[cond_true,cond_false];intro hok;obtain⟨ν,x,v,hr⟩:=h s (.inr rfl) (fun hd=>by simpa[hd]using hb) hok;obtain⟨a1,a2,a3⟩:=hr.aeV
  grind
def ON {defs:List (Option Nat)}{o:Oper}{s:Src}(hc:C.op defs o=some (.len s)\/C.op defs o=some (.lenS s)):∃p∈o.op.operands.toList,C.src defs p=some s:=by
 cases ho:o.op with
 |call c=>
  obtain⟨callee,args,argTypes⟩:=c;cases callee with
  |builtin bu=>
   cases bu with
   |len=>
    simp only[CC.op,ho]at hc;split at hc
    .rename_i p t hargs htys;refine⟨p,by simp[Op.operands,Call.operands,hargs], ?_⟩;split at hc<;>simp_all
    .simp at hc
   |min=>simp only[CC.op,ho]at hc;(repeat' split at hc)<;>simp_all
   |max=>simp only[CC.op,ho]at hc;(repeat' split at hc)<;>simp_all
   |append=>simp only[CC.op,ho]at hc;(repeat' split at hc)<;>simp_all
   |_=>simp[CC.op,ho]at hc
  |value f=>
   grind [CC.op]
  |invoke r n=>simp only[CC.op,ho]at hc;(repeat' split at hc)<;>simp at hc
 |makeFunc fn fst caps=>cases fn<;>simp only[CC.op,ho]at hc<;>(repeat' split at hc)<;>simp_all
 |next it b=>cases b<;>simp[CC.op,ho]at hc
 |typeAssert p xt t ok=>cases ok<;>simp only[CC.op,ho]at hc<;>(try(repeat' split at hc))<;>simp at hc
 |lookup t p q ok=>
  cases ok with
  |true=>simp only[CC.op,ho]at hc;(repeat' split at hc)<;>simp_all
  |false=>simp only[CC.op,ho]at hc;(repeat' split at hc)<;>simp_all
 |makeMap t r=>cases r<;>simp only[CC.op,ho]at hc<;>(try(repeat' split at hc))<;>simp_all
 |_=>
  simp only[CC.op,ho]at hc
  (try(repeat' split at hc))<;>simp at hc
def Hs {defs:List (Option Nat)}{o:Oper}{n:Nat}{ss:List Src}(hc:C.op defs o=some (.callM n ss)):
  ∃fid args tys,o.op=.call {callee:=.value (.func fid),args,argTypes:=tys}/\dY C.ν fid=some n/\C.bP.contains (2*n)=true/\C.wj defs args.toList=some ss:=by
 cases ho:o.op with
 |call c=>
  obtain⟨callee,args,argTypes⟩:=c;cases callee with
  |invoke r n=>simp only[CC.op,ho]at hc;(repeat' split at hc)<;>simp at hc
  |builtin b=>grind [CC.op]
  |value v=>grind [CC.op]
 |makeFunc fn fst caps=>cases fn<;>simp only[CC.op,ho]at hc<;>(repeat' split at hc)<;>simp_all
 |next it b=>cases b<;>simp[CC.op,ho]at hc
 |typeAssert p xt t ok=>cases ok<;>simp only[CC.op,ho]at hc<;>(try(repeat' split at hc))<;>simp at hc
 |lookup t p q ok=>
  cases ok with
  |true=>simp only[CC.op,ho]at hc;(repeat' split at hc)<;>simp_all
  |false=>simp only[CC.op,ho]at hc;(repeat' split at hc)<;>simp_all
 |makeMap t r=>cases r<;>simp only[CC.op,ho]at hc<;>(try(repeat' split at hc))<;>simp_all
 |_=>
  simp only[CC.op,ho]at hc
  (try(repeat' split at hc))<;>simp at hc
def EX {defs:List (Option Nat)}{o:Oper}{fs:Src}{ss:List Src}(hc:C.op defs o=some (.callvM fs ss)):
  ∃t args tys,o.op=.call {callee:=.value (.tmp t),args,argTypes:=tys}/\C.src defs (.tmp t)=some fs/\C.wj defs args.toList=some ss:=by
 cases ho:o.op with
 |call c=>
  obtain⟨callee,args,argTypes⟩:=c;cases callee with
  |invoke r n=>simp only[CC.op,ho]at hc;(repeat' split at hc)<;>simp at hc
  |builtin b=>grind [CC.op]
  |value v=>grind [CC.op]
 |makeFunc fn fst caps=>cases fn<;>simp only[CC.op,ho]at hc<;>(repeat' split at hc)<;>simp_all
 |next it b=>cases b<;>simp[CC.op,ho]at hc
 |typeAssert p xt t ok=>cases ok<;>simp only[CC.op,ho]at hc<;>(try(repeat' split at hc))<;>simp at hc
 |lookup t p q ok=>
  cases ok with
  |true=>simp only[CC.op,ho]at hc;(repeat' split at hc)<;>simp_all
  |false=>simp only[CC.op,ho]at hc;(repeat' split at hc)<;>simp_all
 |makeMap t r=>cases r<;>simp only[CC.op,ho]at hc<;>(try(repeat' split at hc))<;>simp_all
 |_=>
  simp only[CC.op,ho]at hc
  (try(repeat' split at hc))<;>simp at hc
def XS {x:X}{defs:List (Option Nat)}{ev:Operand->Value}{o:Oper}{n:Nat}{ss:List Src}{st:St}{K:D->St->Prop}(hcst:∀d,J (.c d)=⟨true,d⟩)(hΓ:Ok C.P C.ν C.bP Y)
  (hc:C.op defs o=some (.callM n ss)) (hρ:vu C defs J ev x o.op.operands.toList) (hok:BJ J ss) (hs:fm C.ν x (look st.m)) (hfr:eW st x) (htr:Y.tr n (iM J ss) st K):
  jG C.P x (fun v x'=>∃d st',K d st'/\Step x x'/\RD C.ν x' v d/\fm C.ν x' (look st'.m)/\eW st' x') ((execOp ev o).run C.P x.w):=by
 obtain⟨fid,args,tys,ho,h1,h3,h2⟩:=Hs hc;have hv:=hρ (.func fid) dw (.c (.fn n [])) (by simp[CC.src,h1]) (by rw[hcst]);rw[hcst]at hv;obtain⟨s1,s2,s3⟩:=iC hρ _ _ (fun o' ho'=>Ev) h2 hok;generalize hep:ev (.func fid)=vf at hv;cases hv with
 |dZ=>exact absurd (hΓ.small _ _ h1) ae
 |bx=>exact absurd (hΓ.small _ _ h1) ae
 |mpn=>exact absurd (hΓ.small _ _ h1) ae
 |fn fid' _ cs _ hν hl _=>
  have hcs:cs=#[]:=by apply Array.ext';simpa using hl
  subst hcs;have hrun:(execOp ev o).run C.P x.w=(callFunc fid' (args.map ev)).run C.P x.w:=by
   simp[execOp,ho,resolve,Deferred.ofValue,invoke,hep]
  rw[hrun];refine hΓ.bP fid' n hν x _ (iM J ss) st K (by simp;simpa using s2.symm) (fun i hi=>?_) hs hfr htr;have:=s3 i hi
  rwa [<-Array.toList_map,bT]at this
def ac7 {x:X}{defs:List (Option Nat)}{ev:Operand->Value}{o:Oper}{s:Src}{ng:Bool}(hcst:∀d,J (.c d)=⟨true,d⟩)
  (hc:C.op defs o=some (.isNl s ng)) (hρ:vu C defs J ev x o.op.operands.toList) (hok:(J s).ok=true) (hsl:slB (J s).d):
  ∃b,nlB (J s).d b/\(execOp ev o).run C.P x.w=.ok (.value (.bool (bif ng then !b else b))) x.w:=by
 obtain⟨t,p,q,u,e,ho,h1,h2,hu⟩:∃t p q u e,o.op=.binOp (if ng then .neq else .eql) t p q u/\C.src defs p=some s/\C.src defs q=some (.c .aJ)/\C.P.underlying t=some (.slice e):=by
  cases ho:o.op with
  |binOp op t p q u=>
   simp only[CC.op,ho]at hc
   (repeat' split at hc)<;>simp only[aD,reduceCtorEq,ax.isNl.injEq]at hc
   all_goals
    obtain⟨rfl,rfl⟩:=hc;exact⟨t,p,q,u,_,rfl,by assumption,by assumption,by assumption⟩
  |call c=>
   obtain⟨callee,args,argTypes⟩:=c;cases callee with
   |invoke r n=>simp only[CC.op,ho]at hc;(repeat' split at hc)<;>simp at hc
   |builtin b=>grind [CC.op]
   |value v=>grind [CC.op]
  |typeAssert p xt t ok=>cases ok<;>simp only[CC.op,ho]at hc<;>(try(repeat' split at hc))<;>simp at hc
  |makeFunc fn fst caps=>cases fn<;>simp only[CC.op,ho]at hc<;>(repeat' split at hc)<;>simp_all
  |next it b=>cases b<;>simp[CC.op,ho]at hc
  |lookup t p q ok=>
   cases ok with
   |true=>simp only[CC.op,ho]at hc;(repeat' split at hc)<;>simp_all
   |false=>simp only[CC.op,ho]at hc;(repeat' split at hc)<;>simp_all
  |makeMap t r=>cases r<;>simp only[CC.op,ho]at hc<;>(try(repeat' split at hc))<;>simp_all
  |_=>
   simp only[CC.op,ho]at hc
   (try(repeat' split at hc))<;>simp at hc
 have hv:=hρ p rb s h1 hok;have hq:ev q=.slice none 0 0:=by
  have:=hρ q rb (.c .aJ) h2 (by rw[hcst]);rw[hcst]at this;generalize ev q=vq at this;cases this;rfl
 obtain⟨a,n,c,he,hb⟩:∃a n c,ev p=.slice a n c/\nlB (J s).d a.isNone:=by
  generalize (J s).d=d at hv hsl⊢;generalize ev p=vp at hv⊢;cases hv<;>simp only[slB]at hsl
  case aJ=>exact⟨_,_,_,rfl,rfl⟩
  case sl ha _ _ _ _ _ _ _=>exact⟨_,_,_,rfl,fun hn=>ha.elim id fun h=>by rw[h.1]at hn;cases hn⟩
  case own=>exact⟨_,_,_,rfl,fun hn=>by cases hn⟩
  case own0=>exact⟨_,_,_,rfl,fun _=>rfl⟩
 refine⟨_,hb,r9 (ev:=ev) ho (oI _ _ _ _ (by rw[he];exact⟨aG,aG⟩) _) ?_⟩;rw[he,hq];cases ng
 .simpa using Lib.run_eql_slice_nil x.w t e a n c 0 0 hu
 .simpa using run_neq_slice_nil_any (P:=C.P) x.w t e a n c 0 0 hu
def TV {x:X}{defs:List (Option Nat)}{ev:Operand->Value}{o:Oper}{fs:Src}{n:Nat}{caps:List D}{ss:List Src}{st:St}{K:D->St->Prop}(hΓ:Ok C.P C.ν C.bP Y)
  (hc:C.op defs o=some (.callvM fs ss)) (hρ:vu C defs J ev x o.op.operands.toList) (hfo:(J fs).ok=true) (hd:(J fs).d=.fn n caps) (hn2:n<2000000) (hok:BJ J ss) (hs:fm C.ν x (look st.m)) (hfr:eW st x) (htr:Y.tr (NP n) (NO n (iM J ss) caps) st K):
  jG C.P x (fun v x'=>∃d st',K d st'/\Step x x'/\RD C.ν x' v d/\fm C.ν x' (look st'.m)/\eW st' x') ((execOp ev o).run C.P x.w):=by
 obtain⟨t,args,tys,ho,h1,h2⟩:=EX hc;have hv:=hρ (.tmp t) dw fs h1 hfo;rw[hd]at hv;obtain⟨s1,s2,s3⟩:=iC hρ _ _ (fun o' ho'=>Ev) h2 hok;have hsz:args.size=(iM J ss).length:=by simpa using s2.symm
 generalize hep:ev (.tmp t)=vf at hv;cases hv with
 |bx=>exact absurd hn2 ae
 |mpn=>exact absurd hn2 ae
 |im=>exact absurd hn2 ae
 |fn fid' _ cs _ hν hl hcs=>
  have hn:=hΓ.small _ _ hν;have e1:NP n=n:=by simp[NP,hn]
  have e2:NO n (iM J ss) caps=iM J ss++caps:=by simp[NO,hn]
  rw[e1,e2]at htr;have hrun:(execOp ev o).run C.P x.w=(callFunc fid' (args.map ev++cs)).run C.P x.w:=by
   simp[execOp,ho,resolve,Deferred.ofValue,invoke,hep]
  rw[hrun];refine hΓ.bP fid' n hν x _ (iM J ss++caps) st K (by simp[hl,hsz]) (fun i hi=>?_) hs hfr htr;rw[nk,cX];simp only[Array.size_map,hsz];split
  .rename_i hlt;have:=s3 i hlt
   rwa [<-Array.toList_map,bT]at this
  .exact hcs _ (by simp at hi;omega)
 |dZ fid' n' cs _ hν hl hcs=>
  have e1:NP (n'+1000000)=n':=by unfold NP;rw[ai ae];omega
  have e2:NO (n'+1000000) (iM J ss) caps=caps++iM J ss:=by unfold NO;rw[ai ae]
  rw[e1,e2]at htr;have hrun:(execOp ev o).run C.P x.w=(callFunc fid' (cs++args.map ev)).run C.P x.w:=by
   simp[execOp,ho,resolve,Deferred.ofValue,invoke,hep]
  rw[hrun];refine hΓ.bP fid' n' hν x _ (caps++iM J ss) st K (by simp[hl,hsz]) (fun i hi=>?_) hs hfr htr;rw[nk,cX];rw[hl];split
  .exact hcs i (by assumption)
  .have:=s3 (i-caps.length) (by simp at hi;omega)
   rwa [<-Array.toList_map,bT]at this
end
end
section
variable [cN]
section
variable {C:CC} {Y:Ctx}
def eW.up {st:St}{x:X}(h:eW st x){n:Nat}(hn:st.nx<=n):eW ⟨n,st.m⟩ x:=
 ⟨fun l hl=>h.β l (eJ hn hl),fun l hl=>jj (h.m l hl) hn⟩
def AU.iff {env:List aX}{DD:List (Option Nat)}{VS:List aX}{D D':Nat->Prop}{a:Act}{x:X}(h:AU C env DD VS D a x)(hD:∀p,D' p↔D p):AU C env DD VS D' a x:=by
 have:D'=D:=funext fun p=>propext (hD p)
 subst this;exact h
def AU.ext {env:List aX}{DD:List (Option Nat)}{vs:List aX}{a:Act}{x:X}{k:Nat}(e:aX)(h:AU C env DD vs (· <k) a x)(hk:vs.length=k):AU C env DD (vs++[e]) (· <k) a x:=by
 have hg:∀p,p<k->(vs++[e]).getD p .un=vs.getD p .un:=fun p hp=>by rw[cX,ak ae]
 exact⟨fun p t hp h1 h2=>by rw[hg p hp]at h2⊢;exact h.val p t hp h1 h2,fun p t hp h1 h2=>by rw[hg p hp]at h2;exact h.und p t hp h1 h2,h.old,h.size,h.defers⟩
def fm.eq {ν:List (Nat×Nat)}{x:X}{f f':Nat->Option bm}(h:fm ν x f)(e:∀l,f' l=f l):fm ν x f':=by
 have:f'=f:=funext e;subst this;exact h
def Zj {ops:Array Oper}{l:List GI}(hsp:Spec C ops.toList l)(hΓ:Ok C.P C.ν C.bP Y){Q:Exit->Act->World->Prop}{Kc:Act->World->Prop}{env:List aX}{K:List aX->St->Prop}{D:Nat->Prop}{k:Nat}{vs:List aX}{st:St}{x:X}{a:Act}{o:Oper}{g:GI}{r:List GI}
  (ho:ops[k]? =some o) (hg1:l[k]? =some g) (hg2:OpX C ((ops.toList.map (·.dst)).take k) o g.i) (hg3:CC.guard ((ops.toList.map (·.dst)).take k) o.guard=some g.g) (hk:vs.length=k) (hDlt:∀p,D p->p<k)
  (hreads:∀t p,Operand.tmp t∈o.op.operands.toList->(ops.toList.map (·.dst))[p]? =some (some t)->(p<k->D p)/\(k<=p->¬D p)) (hgd:∀j w,o.guard=some (j,w)->j<k->D j)
  (hmid:AU C env (ops.toList.map (·.dst)) vs D a x) (hs:fm C.ν x (look st.m)) (hf:eW ⟨st.nx+k,st.m⟩ x) (hw:eM Y false (g::r) env vs st K)
  (hK:∀e st' x' a',AU C env (ops.toList.map (·.dst)) (vs++[e]) (fun p=>D p\/p=k) a' x'->Step x x'->fm C.ν x' (look st'.m)->eW ⟨st'.nx+(k+1),st'.m⟩ x'->eM Y false r env (vs++[e]) st' K->Kc a' x'.w):wpOp C.P ops Q k Kc a x.w:=by
 have ho':ops.toList[k]? =some o:=by simpa using ho
 have hvt:vs.take k=vs:=eU ae;have hρ:vu C ((ops.toList.map (·.dst)).take k) (Src.ev env vs) a.eval x o.op.operands.toList:=by
  have:=hmid.rho (i:=k) (os:=o.op.operands.toList) hreads
  rwa [hvt]at this
 have hcst:∀d,Src.ev env vs (.c d)=⟨true,d⟩:=fun _=>rfl
 have hdst:(ops.toList.map (·.dst))[k]? =some o.dst:=by rw[List.getElem?_map,ho',Option.map_some]
 have hput:∀(e:aX) (v:Value) (x':X),Le x x'->(e.ok=true->RD C.ν x' v e.d)->(e.ok=false->v=undef)->AU C env (ops.toList.map (·.dst)) (vs++[e]) (fun p=>D p\/p=k) (a.put o.dst v) x':=by
  intro e v x' hle h1 h2;have he:(vs++[e]).getD k .un=e:=by rw[cX,ai ae];simp[hk]
  have hext:AU C env (ops.toList.map (·.dst)) (vs++[e]) D a x:=by
   have hg:∀p,D p->(vs++[e]).getD p .un=vs.getD p .un:=fun p hp=>by rw[cX,ak (by have:=hDlt p hp;omega)]
   exact⟨fun p t hp h1 h2=>by rw[hg p hp]at h2⊢;exact hmid.val p t hp h1 h2,fun p t hp h1 h2=>by rw[hg p hp]at h2;exact hmid.und p t hp h1 h2,hmid.old,hmid.size,hmid.defers⟩
  exact hext.put (i:=k) hle hdst (fun t ht=>⟨(hsp.dst k o t ho' ht).1,fun p hp e'=>hp (hsp.distinct (by rw[hdst,ht]) e')⟩) (by rw[he];exact h1) (by rw[he];exact h2) (fun p=>Iff.rfl)
 unfold wpOp;simp only[ho];obtain⟨i,gd⟩:=g;by_cases hcm:i.cO=true
 .cases i<;>simp only[ax.cO]at hcm<;>try cases hcm
  .rename_i f ss;simp only[eM]at hw;obtain⟨w1,w2,w3⟩:=hw;have hfl:=kj (g:=⟨.callM f ss,gd⟩) hmid hg3 hgd (by rw[hvt];exact w1);simp only[hvt]at hfl;rw[hfl];cases hfg:flag vs gd with
   |true=>
    rw[ak rfl];left;obtain⟨w4,w5⟩:=w2 hfg;rw[hk]at w5;refine(XS (st:=⟨st.nx+k,st.m⟩) hcst hΓ Qc hρ w4 hs hf w5).wp (fun v x' hG=>?_);obtain⟨d,st',hK1,hst1,hrd,hs1,hf1⟩:=hG;obtain⟨hnx,hw'⟩:=hK1;refine hK ⟨true,d⟩ ⟨st'.nx-k,st'.m⟩ x' (a.put o.dst v) (hput ⟨true,d⟩ v x' hst1.le (fun _=>hrd) (fun h=>ca)) hst1 hs1 ?_ hw';exact hf1.up rh
   |false=>
    rw[ai aG];refine hK ⟨false,.any⟩ st x (a.put o.dst undef) (hput ⟨false,_⟩ undef x (Le.refl x) (fun h=>ca) (fun _=>rfl)) (.refl _) hs ?_ (w3 hfg);exact⟨fun l' hl'=>hf.β l' zI,fun l' hl'=>Ey⟩
  .rename_i f ss;simp only[eM]at hw;obtain⟨w1,w2,w3⟩:=hw;have hfl:=kj (g:=⟨.callvM f ss,gd⟩) hmid hg3 hgd (by rw[hvt];exact w1);simp only[hvt]at hfl;rw[hfl];cases hfg:flag vs gd with
   |true=>
    rw[ak rfl];left;obtain⟨w0,w4,w5⟩:=w2 hfg;rw[hk]at w5;cases hd:(Src.ev env vs f).d<;>simp only[hd]at w5;refine(TV (st:=⟨st.nx+k,st.m⟩) hΓ Qc hρ w0 hd w5.1 w4 hs hf w5.2).wp (fun v x' hG=>?_);obtain⟨d,st',hK1,hst1,hrd,hs1,hf1⟩:=hG;obtain⟨hnx,hw'⟩:=hK1;refine hK ⟨true,d⟩ ⟨st'.nx-k,st'.m⟩ x' (a.put o.dst v) (hput ⟨true,d⟩ v x' hst1.le (fun _=>hrd) (fun h=>ca)) hst1 hs1 ?_ hw';exact hf1.up rh
   |false=>
    rw[ai aG];refine hK ⟨false,.any⟩ st x (a.put o.dst undef) (hput ⟨false,_⟩ undef x (Le.refl x) (fun h=>ca) (fun _=>rfl)) (.refl _) hs ?_ (w3 hfg);exact⟨fun l' hl'=>hf.β l' zI,fun l' hl'=>Ey⟩
  .rename_i s ng;simp only[eM]at hw;obtain⟨w1,w2,w3⟩:=hw;have hfl:=kj (g:=⟨.isNl s ng,gd⟩) hmid hg3 hgd (by rw[hvt];exact w1);simp only[hvt]at hfl;rw[hfl];cases hfg:flag vs gd with
   |true=>
    rw[ak rfl];left;obtain⟨w0,w1,w2⟩:=w2 hfg;obtain⟨b,hb,hrun⟩:=ac7 hcst Qc hρ w0 w1;refine jG.wp (G:=fun v x'=>v=.bool (bif ng then !b else b)/\x'=x) (.inl ⟨_,x,.inl hrun,rfl,rfl⟩) (fun v x' hG=>?_);obtain⟨rfl,rfl⟩:=hG;refine hK ⟨true,.bool (bif ng then !b else b)⟩ st _ _ (hput ⟨true,_⟩ _ _ (Le.refl _) (fun _=>.bool _) (fun h=>ca)) (.refl _) hs ?_ (w2 b hb);exact⟨fun l' hl'=>hf.β l' zI,fun l' hl'=>Ey⟩
   |false=>
    rw[ai aG];refine hK ⟨false,.any⟩ st x (a.put o.dst undef) (hput ⟨false,_⟩ undef x (Le.refl x) (fun h=>ca) (fun _=>rfl)) (.refl _) hs ?_ (w3 hfg);exact⟨fun l' hl'=>hf.β l' zI,fun l' hl'=>Ey⟩
 .have hcm':i.cO=false:=by simpa using hcm
  have hL:x.β (st.nx+k)=none:=hf.β _ (aP _);have hlL:look st.m (st.nx+k)=none:=by
   cases hx:look st.m (st.nx+k)with
   |none=>rfl
   |some b=>have:=hf.m (st.nx+k) (by simp only;rw[hx];simp);simp only at this;omega
  by_cases hfk:i.k9 false gd=true
  .rw[zo hcm' hfk]at hw;obtain⟨w1,w2,w3⟩:=hw;have hfl:=kj (g:=⟨i,gd⟩) hmid hg3 hgd (by rw[hvt];exact w1);simp only[hvt]at hfl;rw[hfl];rw[hk]at w2;cases hfg:flag vs gd with
   |true=>
    rw[ak rfl];left;obtain⟨hob,hw'⟩:=w2 hfg;have hag:EC (look st.m) st.m (i.mX (Src.ev env vs)):=by
     unfold EC;split<;>intros<;>rfl
    refine(Hr (L:=st.nx+k) hg2 hcm' hΓ hρ hcst hob hs hag hL hlL (fun _=>rfl)).wp (fun v x' hG=>?_);obtain⟨g1,g2,g3,g4⟩:=hG;refine hK ⟨true,_⟩ _ x' (a.put o.dst v) (hput ⟨true,_⟩ v x' g1.le (fun _=>g2) (fun h=>ca)) g1 ?_ ?_ hw'
    .refine g3.eq fun l'=>?_
     by_cases hlw:l'∈i.wr (Src.ev env vs) (st.nx+k)
     .simp[iY,hlw]
     .simp only[iY,hlw,aU];exact yP hlw
    .refine⟨fun l' hl'=>?_,fun l' hl'=>?_⟩
     .have hl'':st.nx+(k+1)<=l':=hl';rw[g4 l' ae];exact hf.β l' (by show st.nx+k<=l';omega)
     .show l'<st.nx+(k+1);rcases th (.inr hob) hl' with h|h
      .have:=hf.m l' h;simp only at this;omega
      .omega
   |false=>
    rw[ai aG];have hw':=w3 hfg;refine hK ⟨false,.any⟩ st x (a.put o.dst undef) (hput ⟨false,_⟩ undef x (Le.refl x) (fun h=>ca) (fun _=>rfl)) (.refl _) hs ?_ hw';exact⟨fun l' hl'=>hf.β l' zI,fun l' hl'=>Ey⟩
  rw[nH hcm' (by simpa using hfk)]at hw;obtain⟨w1,w2,w3⟩:=hw;have hfl:=kj (g:=⟨i,gd⟩) hmid hg3 hgd (by rw[hvt];exact aeH w1);simp only[hvt]at hfl;rw[hfl];rw[hk]at w3;cases hfg:flag vs gd with
  |true=>
   rw[ak rfl];left;have hob:=w2 hfg;have hasm:i.Kn false (Src.ev env vs):=by
    refine VE fun s hs' _ hok=>?_
    obtain⟨p,hp1,hp2⟩:=ON (C:=C) (o:=o) (s:=s) (defs:=(ops.toList.map (·.dst)).take k) (by rcases hs' with rfl|rfl<;>rcases hg2 with h|⟨_,_,_,h,_⟩|⟨_,_,h,_⟩|⟨_,_,_,_,h,_⟩|⟨_,_,_,h|h,_⟩|⟨_,_,_,_,h,_⟩<;>first|exact .inl h|exact .inr h|cases h);exact⟨_,_,_,hρ p hp1 s hp2 hok⟩
   obtain⟨dv,hdv,hw'⟩:=w3 (fun _=>hasm);replace hdv:=hdv hfg;have hag:EC (look st.m) st.m (i.mX (Src.ev env vs)):=by
    unfold EC;split<;>intros<;>rfl
   refine(Hr (L:=st.nx+k) hg2 hcm' hΓ hρ hcst hob hs hag hL hlL (fun _=>rfl)).wp (fun v x' hG=>?_);obtain⟨g1,g2,g3,g4⟩:=hG;rw[hfg]at hw';rw[hdv]at g2;refine hK ⟨true,_⟩ _ x' (a.put o.dst v) (hput ⟨true,_⟩ v x' g1.le (fun _=>g2) (fun h=>ca)) g1 ?_ ?_ hw'
   .refine g3.eq fun l'=>?_
    by_cases hlw:l'∈i.wr (Src.ev env vs) (st.nx+k)
    .simp[iY,hlw]
    .simp only[iY,hlw,aU];exact yP hlw
   .refine⟨fun l' hl'=>?_,fun l' hl'=>?_⟩
    .have hl'':st.nx+(k+1)<=l':=hl';rw[g4 l' ae];exact hf.β l' (by show st.nx+k<=l';omega)
    .show l'<st.nx+(k+1);rcases th (.inr hob) hl' with h|h
     .have:=hf.m l' h;simp only at this;omega
     .omega
  |false=>
   rw[ai aG];have hcalm:i.calm=true:=by
    cases gd with
    |none=>simp[flag]at hfg
    |some jw=>obtain⟨j,w⟩:=jw;exact w1.1
   obtain⟨dv,hdv,hw'⟩:=w3 (fun h=>by rw[hfg]at h;cases h);rw[hfg]at hw';refine hK ⟨false,_⟩ _ x (a.put o.dst undef) (hput ⟨false,_⟩ undef x (Le.refl x) (fun h=>ca) (fun _=>rfl)) (.refl _) ?_ ?_ hw'
   .refine hs.less fun l'=>?_
    by_cases hlw:l'∈i.wr (Src.ev env vs) (st.nx+k)
    .exact .inr (.inr (by rw[kB hcalm hlw];exact hL))
    .exact .inl (yP hlw)
   .refine⟨fun l' hl'=>hf.β l' zI,fun l' hl'=>?_⟩;show l'<st.nx+(k+1);rcases th (Y:=Y) (.inl hcalm) hl' with h|h
    .have:=hf.m l' h;simp only at this;omega
    .omega
def R6 {ops:Array Oper}{l:List GI}(hsp:Spec C ops.toList l)(hΓ:Ok C.P C.ν C.bP Y){Q:Exit->Act->World->Prop}{env:List aX}{K:List aX->St->Prop}{x0:X}
  (hK:∀vs' st' a' x',K vs' st'->vs'.length=ops.size->AU C env (ops.toList.map (·.dst)) vs' (· <ops.size) a' x'->Step x0 x'->fm C.ν x' (look st'.m)->eW st' x'->Q .normal a' x'.w):
  ∀(n k:Nat) (vs:List aX) (st:St) (x:X) (a:Act),k+n=ops.size->vs.length=k->AU C env (ops.toList.map (·.dst)) vs (· <k) a x->Step x0 x->fm C.ν x (look st.m)->eW ⟨st.nx+k,st.m⟩ x->
   eM Y false (l.drop k) env vs st K->wpOps C.P ops Q (List.range' k n) a x.w:=by
 intro n;induction n with
 |zero=>
  intro k vs st x a hkn hk hmid hst hs hf hw;have hlen:=hsp.len;have hd:l.drop k=[]:=j4 (by simp at hlen;omega);rw[hd]at hw;simp only[eM]at hw;simp only[List.range'_zero,wpOps];obtain rfl:k=ops.size:=ae;exact hK vs _ a x hw hk hmid hst hs (by rw[hk];exact hf)
 |succ n ih=>
  intro k vs st x a hkn hk hmid hst hs hf hw;have hkl:k<ops.size:=ae;obtain⟨o,ho⟩:∃o,ops[k]? =some o:=⟨ops[k],by simp[hkl]⟩
  obtain⟨g,hg1,hg2,hg3⟩:=hsp.op k o (by simpa using ho);have hlk:k<l.length:=by have:=hsp.len;simp at this;omega
  have hdrop:l.drop k=g::l.drop (k+1):=by
   rw[eV hlk];congr 1;exact(List.getElem?_eq_some_iff.1 hg1).2
  rw[hdrop]at hw;rw[List.range'_succ,wpOps_cons];exact Zj hsp hΓ ho hg1 hg2 hg3 hk (fun _ h=>h) (fun t p _ _=>⟨fun h=>h,fun h=>ae⟩) (fun j w _ h=>h) hmid hs hf hw
   (fun e st' x' a' h1 h2 h3 h4 h5=>ih (k+1) _ st' x' a' ae (by simp[hk]) (h1.iff fun p=>ae) (hst.trans h2) h3 h4 h5)
end
end
section
variable [cN]
section
variable {C:CC} {Y:Ctx}
structure Trace (Y:Ctx)(l:List GI)(env:List aX)(nx:Nat)(VS:List aX)(M:Nat->List (Nat×bm)):Prop where
 step:∀(k:Nat) (g:GI),l[k]? =some g->M (k+1)=g.i.bP Y (Src.ev env (VS.take k)) (M k) (nx+k)
 stop:∀k:Nat,l[k]? =none->M (k+1)=M k
 ent:∀(k:Nat) (g:GI),l[k]? =some g->(VS.getD k .un).ok=flag (VS.take k) g.g/\(flag (VS.take k) g.g=true->g.i.val Y (Src.ev env (VS.take k)) (M k) (nx+k)=(VS.getD k .un).d)
 UT:∀(k:Nat) (g:GI),l[k]? =some g->UT (VS.take k) g.i g.g
 ey:∀(k:Nat) (g:GI),l[k]? =some g->flag (VS.take k) g.g=true->g.i.ey Y (Src.ev env (VS.take k)) (M k)
 len:VS.length=l.length
 fresh0:∀l',look (M 0) l'≠none->l'<nx
def DL {env:List aX}{K:List aX->St->Prop}:∀(l:List GI) (vs:List aX) (st:St),(∀g∈l,g.i.cO=false)->(∀g∈l,∀vs',g.i.Kn true (Src.ev env vs'))->eM Y true l env vs st K->
  ∃(VS:List aX) (M:Nat->List (Nat×bm)),VS.take vs.length=vs/\VS.length=vs.length+l.length/\(∀k,k<=vs.length->M k=st.m)/\(∀k,vs.length+l.length<=k->M k=M (vs.length+l.length))/\
   (∀(k:Nat) (g:GI),l[k]? =some g->M (vs.length+k+1)=g.i.bP Y (Src.ev env (VS.take (vs.length+k))) (M (vs.length+k)) (st.nx+(vs.length+k))/\
     ((VS.getD (vs.length+k) .un).ok=flag (VS.take (vs.length+k)) g.g/\(flag (VS.take (vs.length+k)) g.g=true->g.i.val Y (Src.ev env (VS.take (vs.length+k))) (M (vs.length+k)) (st.nx+(vs.length+k))=(VS.getD (vs.length+k) .un).d))/\
     UT (VS.take (vs.length+k)) g.i g.g/\(flag (VS.take (vs.length+k)) g.g=true->g.i.ey Y (Src.ev env (VS.take (vs.length+k))) (M (vs.length+k))))/\
   K VS ⟨st.nx+(vs.length+l.length),M (vs.length+l.length)⟩
 |[],vs,st,_,_,h=>⟨vs,fun _=>st.m,aG,aG,fun _ _=>rfl,fun _ _=>rfl,fun k g h=>e8,by simpa[eM]using h⟩
 |⟨i,g⟩::r,vs,st,hcm,hasm,h=>by
  rw[nH (hcm _ (.head _)) rfl]at h;obtain⟨w1,w2,w3⟩:=h;obtain⟨dv,hdv,w3⟩:=w3 fun _=>hasm _ (.head _) vs
  obtain⟨VS,M,a1,a2,a3,a4,a5,a6⟩:=DL r _ _ (fun g hg=>hcm g (.tail _ hg)) (fun g hg=>hasm g (.tail _ hg)) w3;simp only[ct,bE,b7,b8]at a1 a2 a3 a4 a5 a6;have b1:VS.take vs.length=vs:=by
   have:=aw (List.take vs.length) a1;rw[List.take_take,Nat.min_eq_left ae]at this;rw[this];simp
  have b2:VS.getD vs.length .un=⟨flag vs g,dv⟩:=by
   have:(VS.take (vs.length+1)).getD vs.length .un=VS.getD vs.length .un:=getD_take _ _ _ _ ae;rw[<-this,a1,cX,ai ae];simp
  refine⟨VS,fun k=>if k<=vs.length then st.m else M k,b1,uw,fun k hk=>by simp[hk],fun k hk=>?_,fun k gi hk=>?_, ?_⟩
  .simp only[bE]at hk⊢;rw[ai ae,ai ae,a4 k ae,a4 (vs.length+(r.length+1)) ae]
  .cases k with
   |zero=>
    simp only[List.getElem?_cons_zero,aD]at hk;subst hk;simp only[Nat.add_zero];rw[ai ae,ak ae,b1,b2,a3 (vs.length+1) ae];exact⟨rfl,⟨rfl,hdv⟩,w1,w2⟩
   |succ k=>
    grind
  .simp only[bE];rw[ai ae];have e:vs.length+1+r.length=vs.length+(r.length+1):=ae;rw[e]at a6;exact a6
def AK {env:List aX}{K:List aX->St->Prop}{l:List GI}{st:St}(hcm:∀g∈l,g.i.cO=false)(hasm:∀g∈l,∀vs',g.i.Kn true (Src.ev env vs'))(hf:∀l',look st.m l'≠none->l'<st.nx)
  (h:eM Y true l env [] st K):∃VS M,Trace Y l env st.nx VS M/\M 0=st.m/\K VS ⟨st.nx+l.length,M l.length⟩:=by
 obtain⟨VS,M,a1,a2,a3,a4,a5,a6⟩:=DL l [] st hcm hasm h;simp only[b7,b8]at a1 a2 a3 a4 a5 a6;refine⟨VS,M,⟨fun k g hk=>(a5 k g hk).1,fun k hk=>?_,fun k g hk=>(a5 k g hk).2.1,fun k g hk=>(a5 k g hk).2.2.1,fun k g hk=>(a5 k g hk).2.2.2,a2, ?_⟩,a3 0 (aP _),a6⟩
 .grind
 .rw[a3 0 (aP _)];exact hf
section trace
variable {l:List GI} {env:List aX} {nx:Nat} {VS:List aX} {M:Nat->List (Nat×bm)}
def Trace.qv (h:Trace Y l env nx VS M){k:Nat}{g:GI}(hg:l[k]? =some g):g.i.calm=true\/(g.g=none/\g.i.ey Y (Src.ev env (VS.take k)) (M k)):=by
 cases hc:g.i.calm with
 |true=>exact .inl rfl
 |false=>
  right;have h1:=h.UT k g hg;have hn:g.g=none:=by
   cases hgg:g.g with
   |none=>rfl
   |some jw=>obtain⟨j,w⟩:=jw;rw[hgg]at h1;have:=h1.1;rw[hc]at this;cases this
  exact⟨hn,h.ey k g hg (by rw[hn];rfl)⟩
def Trace.fresh (h:Trace Y l env nx VS M):∀(k l':Nat),look (M k) l'≠none->l'<nx+k
 |0,l',hl=>h.fresh0 l' hl
 |k+1,l',hl=>by
  cases hg:l[k]? with
  |none=>
   rw[h.stop k hg]at hl;have:=Trace.fresh h k l' hl;omega
  |some g=>
   rw[h.step k g hg]at hl;have hco:g.i.calm=true\/g.i.ey Y (Src.ev env (VS.take k)) (M k):=(h.qv hg).imp id (·.2);rcases th hco hl with h1|h1
   .have:=Trace.fresh h k l' h1;omega
   .omega
def Trace.lL (h:Trace Y l env nx VS M){l':Nat}:∀(n u:Nat),(∀(q:Nat) (g:GI),u<=q->q<u+n->l[q]? =some g->l'∉g.i.wr (Src.ev env (VS.take q)) (nx+q))->look (M (u+n)) l'=look (M u) l'
 |0,u,_=>rfl
 |n+1,u,hq=>by
  rw[<-Trace.lL h n u (fun q g h1 h2=>hq q g h1 ae)];rw[<-Nat.add_assoc];cases hg:l[u+n]? with
  |none=>rw[h.stop _ hg]
  |some g=>rw[h.step _ g hg];exact yP (hq (u+n) g ae ae hg)
def Trace.same (h:Trace Y l env nx VS M){l' u v:Nat}(hq:∀(q:Nat)(g:GI),min u v<=q->q<max u v->l[q]? =some g->l'∉g.i.wr (Src.ev env (VS.take q)) (nx+q)):look (M u) l'=look (M v) l':=by
 rcases Nat.le_total u v with huv|huv
 .have:=h.lL (l':=l') (v-u) u (fun q g h1 h2=>hq q g ae ae)
  grind
 .have:=h.lL (l':=l') (u-v) v (fun q g h1 h2=>hq q g ae ae)
  grind
end trace
def vv (acc:List Nat)(p:Nat):∀(es:List Edge),(ri acc es).testBit p=true->∃e∈es,Region.binds .any e=true/\(p=e.on\/(acc.getD e.on 0).testBit p=true)
 |[],h=>by simp[ri]at h
 |e::r,h=>by
  simp only[ri]at h;split at h
  .rename_i hb;rw[Nat.testBit_or,dI,Nat.testBit_or,dI]at h;rcases h with(h|h)|h
   .grind
   .exact⟨e,.head _,hb,.inr h⟩
   .obtain⟨e',h1,h2⟩:=vv acc p r h;exact⟨e',.tail _ h1,h2⟩
  .obtain⟨e',h1,h2⟩:=vv acc p r h;exact⟨e',.tail _ h1,h2⟩
def Fh:∀(ops:List Oper) (acc:List Nat),(pF acc ops).take acc.length=acc/\(pF acc ops).length=acc.length+ops.length/\
  ∀(j:Nat) (o:Oper),ops[j]? =some o->(pF acc ops).getD (acc.length+j) 0=ri ((pF acc ops).take (acc.length+j)) o.after.toList
 |[],acc=>⟨by simp[pF],by simp[pF],fun j o h=>e8⟩
 |o::r,acc=>by
  obtain⟨a1,a2,a3⟩:=Fh r (acc++[ri acc o.after.toList]);simp only[ct,bE,b7,b8]at a1 a2 a3;have e:pF acc (o::r)=pF (acc++[ri acc o.after.toList]) r:=rfl;rw[e];have b1:(pF (acc++[ri acc o.after.toList]) r).take acc.length=acc:=by
   have:=aw (List.take acc.length) a1;rw[List.take_take,Nat.min_eq_left ae]at this;rw[this];simp
  refine⟨b1,uw,fun j o' hj=>?_⟩;cases j with
  |zero=>
   simp only[List.getElem?_cons_zero,aD]at hj;subst hj;rw[Nat.add_zero,b1];have:((pF (acc++[ri acc o.after.toList]) r).take (acc.length+1)).getD acc.length 0=(pF (acc++[ri acc o.after.toList]) r).getD acc.length 0:=getD_take _ _ _ _ ae;rw[<-this,a1,cX,ai ae];simp
  |succ j=>
   grind
def wX:∀(ops:List Oper) (p:Nat),Bz p ops=true->∀(j:Nat) (o:Oper),ops[j]? =some o->∀e∈o.after,Region.binds .any e=true->e.on<p+j
 |[],p,_,j,o,h=>by simp at h
 |o::r,p,h,j,o',hj=>by
  simp only[Bz,aN,List.all_eq_true]at h;cases j with
  |zero=>
   grind
  |succ j=>
   intro e he hb;have:=wX r (p+1) h.2 j o' nE e he hb;omega
def yF (bs:List Nat)(i j:Nat):Prop:=(bs.getD (max j i) 0).testBit (min j i)=true
def ExU (l:List GI)(gj gi:ax)(j i:Nat):Prop:=gi.nt=true/\((gj.isApp=true/\j<i)\/(gi.isUU=true/\gj.nr=true/\i<j/\∀q g,i<q->q<j->l[q]? =some g->g.i.calm=true\/g.i.nr=true)\/(gi.isW=true/\gj.narrow gi.Ra=true/\i<j/\∀q g,i<q->q<j->l[q]? =some g->g.i.calm=true\/g.i.narrow gi.Ra=true))
structure Order (ops:List Oper)(l:List GI)(bs:List Nat):Prop where
 bef:∀(j:Nat) (o:Oper),ops[j]? =some o->∀p,(bs.getD j 0).testBit p=true->∃e∈o.after,Region.binds .any e=true/\(p=e.on\/(bs.getD e.on 0).testBit p=true)
 edge:∀(j:Nat) (o:Oper),ops[j]? =some o->∀e∈o.after,Region.binds .any e=true->e.on<j
 reads:∀(j p:Nat) (oj op:Oper) (t:Nat),ops[j]? =some oj->ops[p]? =some op->op.dst=some t->t∈tmpsOf ops oj->p=j\/yF bs p j
 effs:∀(j i:Nat) (gj gi:GI),l[j]? =some gj->l[i]? =some gi->gj.i.calm=false->gi.i.free=false->(gi.i.jN=false\/(gj.i.isApp=true/\i<j))->i=j\/yF bs i j\/ExU l gj.i gi.i j i
def X4 {ops:List Oper}{l:List GI}(h:Cb ops l=true):Order ops l (pF [] ops):=by
 simp only[Cb,aN]at h;obtain⟨h1,h2,_,h4⟩:=h;obtain⟨b1,b2,b3⟩:=Fh ops [];simp only[b7,b8]at b2 b3;refine⟨fun j o hj p hp=>?_,fun j o hj e he hb=>by simpa using wX ops 0 h4 j o hj e he hb,fun j p oj op t hj hp hd ht=>?_,fun j i gj gi hj hi hc hpu hmk=>?_⟩
 .rw[b3 j o hj]at hp;obtain⟨e,e1,e2,e3⟩:=vv _ _ _ hp;refine⟨e,by simpa using e1,e2,e3.imp id fun h=>?_⟩;by_cases hlt:e.on<j
  .rwa [getD_take _ _ _ _ hlt]at h
  .simp only[List.getD,List.getElem?_take,hlt,aU,Option.getD_none,Nat.zero_testBit]at h;cases h
 .have hjl:j<ops.length:=(List.getElem?_eq_some_iff.1 hj).1;have hpl:p<ops.length:=(List.getElem?_eq_some_iff.1 hp).1;simp only[RW,List.all_eq_true,List.mem_range]at h1;have:=h1 j hjl p hpl;simp only[hj,hp,hd,dI,beq_iff_eq,cG,List.contains_eq_mem,cK]at this;rcases this with(h|h)|h
  .exact .inl h
  .exact absurd ht h
  .exact .inr h
 .have hjl:j<l.length:=(List.getElem?_eq_some_iff.1 hj).1;have hil:i<l.length:=(List.getElem?_eq_some_iff.1 hi).1;simp only[aeE,List.all_eq_true,List.mem_range]at h2;have:=h2 j hjl i hil;have hm:(gi.i.jN&&(!gj.i.isApp ||decide (j<i)))=false:=by
   rcases hmk with h|⟨h,h3⟩
   .simp[h]
   .simp[h,show ¬j<i by omega]
  simp only[hj,hi,hc,hpu,hm,Bool.false_or,dI,beq_iff_eq]at this;rcases this with(h|h)|h
  .exact .inl h
  .exact .inr (.inl h)
  .right;right;simp only[exU,aN,bn,List.all_eq_true,List.mem_range,dI]at h;obtain⟨x2,(h|⟨x0,x1,x3,x4⟩)|⟨x0,x1,x3,x4⟩⟩:=h
   .exact⟨x2,.inl h⟩
   .refine⟨x2,.inr (.inl ⟨x0,x1,x3,fun q g hq1 hq2 hg=>?_⟩)⟩;have:=x4 q hq2;rw[hg]at this;rcases this with h|h
    .omega
    .simpa using h
   .refine⟨x2,.inr (.inr ⟨x0,x1,x3,fun q g hq1 hq2 hg=>?_⟩)⟩;have:=x4 q hq2;rw[hg]at this;rcases this with h|h
    .omega
    .simpa using h
def ajj {ops:List Oper}{l:List GI}(h:Cb ops l=true):(∀g∈l,g.i.cO=false)\/Q9 ops l (pF [] ops)=true:=by
 grind [Cb]
def Nt (ops:List Oper)(bs:List Nat)(n p:Nat):Prop:=(bs.getD n 0).testBit p=true\/∃o o',ops[n]? =some o/\ops[p]? =some o'/\Oc o o'=true
def Oh {ops:List Oper}{l:List GI}{bs:List Nat}(h:Q9 ops l bs=true):∃l' suf,l=l'++suf/\Sa suf=true/\(∀q,q<suf.length->∀p,p<l'.length+q->Nt ops bs (l'.length+q) p)/\∀g∈l',g.i.cO=false:=by
 unfold Q9 at h;simp only at h;generalize List.findIdx (fun g:GI=>g.i.cO) l=n at h;simp only[aN,List.all_eq_true,List.mem_range,cG,dI]at h;obtain⟨h1,h2,h3⟩:=h;have hn:n<l.length:=by
  rcases eh n l.length with h|h
  .exact h
  .rw[j4 h]at h1;cases h1
 have hl:(l.take n).length=n:=dN;refine⟨l.take n,l.drop n,(List.take_append_drop n l).symm,h1,fun q hq p hp=>?_,h2⟩;rw[hl]at hp⊢;refine(h3 q (by simpa using hq) p hp).imp id fun h=>?_
 split at h
 .rename_i o o' h4 h5;exact⟨o,o',h4,h5,h⟩
 .cases h
def Order.pre {ops os:List Oper}{l ls:List GI}{bs:List Nat}(h:Order (ops++os) (l++ls) bs):Order ops l bs:=by
 have ho:∀{j:Nat} {oj:Oper},ops[j]? =some oj->(ops++os)[j]? =some oj:=fun hj=>by
  rw[List.getElem?_append_left (List.getElem?_eq_some_iff.1 hj).1];exact hj
 have hl:∀{j:Nat} {gj:GI},l[j]? =some gj->(l++ls)[j]? =some gj:=fun hj=>by
  rw[List.getElem?_append_left (List.getElem?_eq_some_iff.1 hj).1];exact hj
 refine⟨fun j oj hj=>h.bef j oj (ho hj),fun j oj hj=>h.edge j oj (ho hj),fun j p oj op t hj hp hd ht=>h.reads j p oj op t (ho hj) (ho hp) hd ?_,fun j i gj gi hj hi hc hf hm=>?_⟩
 .grind [tmpsOf]
 .rcases h.effs j i gj gi (hl hj) (hl hi) hc hf hm with e|e|⟨e1,e2|⟨e0,e2,e3,e4⟩|⟨e0,e2,e3,e4⟩⟩
  .exact .inl e
  .exact .inr (.inl e)
  .exact .inr (.inr ⟨e1,.inl e2⟩)
  .exact .inr (.inr ⟨e1,.inr (.inl ⟨e0,e2,e3,fun q gq hq1 hq2 hg=>e4 q gq hq1 hq2 (hl hg)⟩)⟩)
  .exact .inr (.inr ⟨e1,.inr (.inr ⟨e0,e2,e3,fun q gq hq1 hq2 hg=>e4 q gq hq1 hq2 (hl hg)⟩)⟩)
def DK {env:List aX}{K:List aX->St->Prop}:∀(r:List GI) (vs:List aX) (st:St),(∀g∈r,sufG g=true)->eM Y true r env vs st K=eM Y false r env vs st K
 |[],_,_,_=>by simp only[eM]
 |g::r,vs,st,h=>by
  have hg:=h g (.head _);have ih:=fun vs st=>DK (env:=env) (K:=K) r vs st fun g hg=>h g (.tail _ hg)
  unfold sufG at hg;split at hg
  .simp only[eM,ax.k9,ax.calm,Bool.not_true,Bool.not_false,Bool.false_and,Bool.and_false,iD,aU,ax.Kn,ih]
  .simp only[eM,ax.k9,ax.calm,Bool.not_true,Bool.not_false,Bool.false_and,Bool.and_false,iD,aU,ax.Kn,ih]
  .simp only[eM,ax.k9,ax.calm,Bool.not_true,Bool.not_false,Bool.false_and,Bool.and_false,iD,aU,ax.Kn,ih]
  .simp only[eM,ax.k9,ax.calm,Bool.not_true,Bool.not_false,Bool.false_and,Bool.and_false,iD,aU,ax.Kn,ih]
  .cases hg
def Za {env:List aX}{K:List aX->St->Prop}{suf:List GI}(h:Sa suf=true){vs:List aX}{st:St}(hw:eM Y true suf env vs st K):eM Y false suf env vs st K:=by
 unfold Sa at h;split at h
 .simp only[List.all_eq_true]at h;simp only[eM]at hw⊢;simpa only[DK _ _ _ h]using hw
 .simp only[List.all_eq_true]at h;simp only[eM]at hw⊢;simpa only[DK _ _ _ h]using hw
 .cases h
def MA {d:Bool}{env:List aX}{K:List aX->St->Prop}{b:List GI}:∀(a:List GI) (vs:List aX) (st:St),d=true->(∀g∈a,g.i.cO=false)->eM Y d (a++b) env vs st K->eM Y d a env vs st (fun vs' st'=>eM Y d b env vs' ⟨st'.nx-vs'.length,st'.m⟩ K)
 |[],vs,st,_,_,h=>by
  simp only[eM,qZ]at h⊢;rw[Nat.add_sub_cancel];exact h
 |⟨i,g⟩::r,vs,st,hd,hcm,h=>by
  subst hd;rw[sX,nH (hcm _ (.head _)) rfl]at h;rw[nH (hcm _ (.head _)) rfl];exact⟨h.1,h.2.1,fun ha=>(h.2.2 ha).imp fun _ h2=>⟨h2.1,MA r _ _ rfl (fun g hg=>hcm g (.tail _ hg)) h2.2⟩⟩
end
end
section
variable [cN]
section
variable {C:CC} {Y:Ctx}
def filter_lt {p q:Nat->Bool}:∀(l:List Nat),(∀a∈l,q a=true->p a=true)->(∃a∈l,p a=true/\q a=false)->(l.filter q).length<(l.filter p).length
 |[],_,⟨a,h,_⟩=>by cases h
 |b::r,h1,⟨a,h2,h3,h4⟩=>by
  have hle:∀(l:List Nat),(∀a∈l,q a=true->p a=true)->(l.filter q).length<=(l.filter p).length:=by
   intro l;induction l with
   |nil=>intro _;simp
   |cons b r ih=>
    grind
  have hr:=hle r fun a ha=>h1 a (.tail _ ha)
  rw[List.filter_cons,List.filter_cons];cases h2 with
  |head=>simp only[h3,h4,aZ];simp;omega
  |tail _ h2=>
   have ih:=filter_lt r (fun a ha=>h1 a (.tail _ ha)) ⟨a,h2,h3,h4⟩
   grind
def cnt (n:Nat)(listed:Array Bool):Nat:=((List.range n).filter fun p=>!listed.getD p false).length
def tm {listed:Array Bool}{i p:Nat}{d:Bool}(h:i<listed.size):(listed.setIfInBounds i true).getD p d=if p=i then true else listed.getD p d:=by
 by_cases e:p=i
 .subst e;simp[h]
 .rw[ai e];exact getD_set_ne d (Ne.symm e)
theorem gH {listed:Array Bool}{i p:Nat}(h:i<listed.size):(listed.setIfInBounds i true).getD p false=if p=i then true else listed.getD p false:=tm h
def abJ {n i:Nat}{listed:Array Bool}(hs:listed.size=n)(hi:i<n)(hl:listed.getD i false=false):cnt n (listed.setIfInBounds i true)<cnt n listed:=by
 refine filter_lt _ (fun a _ ha=>?_) ⟨i,lR,by rw[hl];rfl,by rw[gH ae,ak rfl];rfl⟩
 grind [gH]
def ajy {defs:List (Option Nat)}{o:Oper}{i:ax}(hc:C.op defs o=some i)(h1:i.calm=false)(h2:i.isApp=false)(h3:i.cO=false):
  ∃s,(∃p∈o.op.operands.toList,C.src defs p=some s)/\∀(J:Src->aX) (m:List (Nat×bm)) (L:Nat),i.ey Y J m->(J s).ok=true/\∃l,i.wr J L=[l]/\((∃k i o,(J s).d=.ptr l k i o)\/(J s).d=.it l\/(J s).d=.fn 5000000 [.it l]):=by
 cases ho:o.op with
 |store t p q=>
  simp only[CC.op,ho]at hc;split at hc
  .rename_i a b ha hb;split at hc
   .cases hc
   .simp only[aD]at hc;subst hc;refine⟨a,⟨p,by simp[Op.operands],ha⟩,fun J m L hob=>⟨hob.1, ?_⟩⟩;have:=hob.2.2.2;cases hd:(J a).d<;>simp only[hd]at this;exact⟨_,by simp only[ax.wr,hd,cq],.inl ⟨_,_,_,rfl⟩⟩
  .cases hc
 |next it b=>
  cases b
  .simp[CC.op,ho]at hc
  .simp only[CC.op,ho,dd]at hc;obtain⟨s,hs,rfl⟩:=hc;refine⟨s,⟨it,by simp[Op.operands],hs⟩,fun J m L hob=>⟨hob.1, ?_⟩⟩;have:=hob.2;cases hd:(J s).d<;>simp only[hd]at this;exact⟨_,by simp only[ax.wr,hd,cq],.inr (.inl rfl)⟩
 |call c=>
  obtain⟨callee,args,argTypes⟩:=c;cases callee with
  |builtin bu=>
   cases bu with
   |len=>simp only[CC.op,ho]at hc;(repeat' split at hc)<;>simp only[aD,reduceCtorEq]at hc<;>subst hc<;>simp[ax.calm]at h1
   |min=>simp only[CC.op,ho]at hc;(repeat' split at hc)<;>simp only[aD,reduceCtorEq]at hc<;>subst hc<;>simp[ax.calm]at h1
   |max=>simp only[CC.op,ho]at hc;(repeat' split at hc)<;>simp only[aD,reduceCtorEq]at hc<;>subst hc<;>simp[ax.calm]at h1
   |append=>simp only[CC.op,ho]at hc;(repeat' split at hc)<;>simp only[aD,reduceCtorEq]at hc<;>subst hc<;>simp[ax.isApp]at h2
   |_=>simp[CC.op,ho]at hc
  |value f=>
   cases f with
   |func fid=>
    simp only[CC.op,ho]at hc;split at hc
    .rename_i n ss k1 k2;split at hc
     .simp only[aD]at hc;subst hc;simp[ax.cO]at h3
     .split at hc
      .split at hc
       .rename_i r rest;simp only[aD]at hc;subst hc;have hr:∃p∈args.toList,C.src defs p=some r:=by
         cases hal:args.toList with
         |nil=>rw[hal]at k2;simp[CC.wj]at k2
         |cons q qs=>
          rw[hal]at k2;simp only[CC.wj]at k2;split at k2
          .rename_i e1 e2;simp only[aD,sY]at k2;obtain⟨rfl,_⟩:=k2;exact⟨q,aG,e1⟩
          .cases k2
        obtain⟨p,hp1,hp2⟩:=hr;refine⟨r,⟨p,by simp only[Op.operands,Call.operands];simp at hp1⊢;exact .inr hp1,hp2⟩,fun J m L hob=>⟨hob.1, ?_⟩⟩;have:=hob.2.2.2;cases hd:(J r).d<;>simp only[hd]at this;exact⟨_,by simp only[ax.wr,hd,cq],.inl ⟨_,_,_,rfl⟩⟩
       .cases hc
      .simp only[aD]at hc;subst hc;simp[ax.calm]at h1
    .cases hc
   |tmp t=>simp only[CC.op,ho]at hc;(repeat' split at hc)<;>simp only[aD,reduceCtorEq]at hc<;>subst hc<;>first|(simp[ax.calm]at h1;done)|(simp[ax.cO]at h3;done)
   |_=>simp[CC.op,ho]at hc
  |invoke r n=>simp only[CC.op,ho]at hc;(repeat' split at hc)<;>(try simp only[dd,reduceCtorEq]at hc)<;>first|(obtain⟨_,_,rfl⟩:=hc;simp[ax.calm]at h1;done)|exact hc.elim|cases hc
 |typeAssert p xt t ok=>cases ok<;>simp only[CC.op,ho]at hc<;>(try(repeat' split at hc))<;>(try simp only[aD,reduceCtorEq]at hc)<;>first|(subst hc;simp[ax.calm]at h1;done)|exact hc.elim|cases hc
 |makeMap t r=>cases r<;>simp only[CC.op,ho]at hc<;>(try cases hc)<;>(repeat' split at hc)<;>simp only[aD,reduceCtorEq]at hc<;>(subst hc;simp[ax.calm]at h1)
 |mapUpdate t p q r=>
  simp only[CC.op,ho]at hc;split at hc
  .rename_i a b c ha hb hc'
   (repeat' split at hc)<;>simp only[aD,reduceCtorEq]at hc
   subst hc;refine⟨a,⟨p,by simp[Op.operands],ha⟩,fun J m L hob=>⟨hob.1, ?_⟩⟩;obtain⟨l,kvs,hd,_,_⟩:=tq hob.2.2.2.1;exact⟨l,by simp only[ax.wr,hd,CU],.inr (.inr hd)⟩
  .cases hc
 |lookup t p q ok=>
  cases ok with
  |true=>simp only[CC.op,ho]at hc;(repeat' split at hc)<;>simp only[aD,reduceCtorEq]at hc;subst hc;simp[ax.calm]at h1
  |false=>simp[CC.op,ho]at hc
 |makeFunc fn fst caps=>cases fn<;>simp only[CC.op,ho]at hc<;>(repeat' split at hc)<;>(try simp only[aD,reduceCtorEq]at hc)<;>first
  |(subst hc;simp[ax.calm]at h1)
  |exact hc.elim
  |(simp only[dd]at hc;obtain⟨_,_,rfl⟩:=hc;simp[ax.calm]at h1)
 |_=>
  simp only[CC.op,ho]at hc
  (try cases hc)<;>(repeat' split at hc)<;>(try simp only[aD,reduceCtorEq,dd]at hc)<;>first
    |(subst hc;simp[ax.calm]at h1;done)
    |(subst hc;simp[ax.cO]at h3;done)
    |(obtain⟨s,hs,rfl⟩:=hc;simp[ax.calm]at h1;done)
    |exact hc.elim
    |cases hc
structure SQ (C:CC)(ops:Array Oper)(l:List GI)(bs:List Nat)(env:List aX)(nx:Nat)(VS:List aX)(M:Nat->List (Nat×bm))(x0:X)(listed:Array Bool)(a:Act)(x:X)(f:Nat->Option bm)(c:Nat):Prop where
 mid:AU C env (ops.toList.map (·.dst)) VS (fun p=>listed.getD p false=true) a x
 step:Step x0 x
 oy:fm C.ν x f
 size:listed.size=ops.size
 closed:∀j,listed.getD j false=true->∀p,(bs.getD j 0).testBit p=true->listed.getD p false=true
 β:∀l',nx<=l'->(∀p,listed.getD p false=true->l'≠nx+p)->x.β l'=none
 nc:∀(p:Nat) (g:GI),l[p]? =some g->g.i.calm=false->(listed.getD p false=true↔p<c)
 mem:∀l',x.β l'≠none->f l'=look (M (max c (l'+1-nx))) l'
 wrβ:∀(q:Nat) (g:GI),l[q]? =some g->g.i.calm=false->g.i.isApp=false->listed.getD q false=true->∀l'∈g.i.wr (Src.ev env (VS.take q)) (nx+q),x.β l'≠none
section
variable {ops:Array Oper} {l:List GI} {bs:List Nat} {env:List aX} {nx:Nat} {VS:List aX} {M:Nat->List (Nat×bm)} {x0:X} {listed:Array Bool} {a:Act} {x:X} {f:Nat->Option bm} {c:Nat}
def FB (hs:listed.size=ops.size){p:Nat}(h:listed.getD p false=true):p<ops.size:=by
 grind
def SQ.fin (h:SQ C ops l bs env nx VS M x0 listed a x f c)(hsp:Spec C ops.toList l)(tr:Trace Y l env nx VS M)(hall:∀p,p<ops.size->listed.getD p false=true):
  AU C env (ops.toList.map (·.dst)) VS (· <ops.size) a x/\Step x0 x/\fm C.ν x (look (M l.length))/\eW ⟨nx+l.length,M l.length⟩ x:=by
 have hlen:l.length=ops.size:=by simpa using hsp.len
 have hβ:∀l',nx+l.length<=l'->x.β l'=none:=fun l' hl'=>h.β l' ae fun p hp=>by have:=FB h.size hp;omega
 refine⟨h.mid.iff fun p=>⟨fun hp=>hall p hp,fun hp=>FB h.size hp⟩,h.step,h.oy.less fun l'=>?_,hβ,fun l' hl'=>tr.fresh _ _ hl'⟩;by_cases hb:x.β l'=none
 .exact .inr (.inr hb)
 .left;rw[h.mem l' hb];have hlt:l'<nx+l.length:=by
   grind
  refine tr.same fun q g h1 h2 hg hw=>?_
  have hq:q<l.length:=(List.getElem?_eq_some_iff.1 hg).1;cases hc:g.i.calm with
  |true=>
   have:=kB hc hw;omega
  |false=>
   have:=(h.nc q g hg hc).1 (hall q ae);omega
def SQ.all (ho:Order ops.toList l bs)(hs:listed.size=ops.size)(hr:Region.ready .any ops listed=[]):∀p,p<ops.size->listed.getD p false=true:=by
 intro p;induction p using Nat.strongRecOn with
 |_ p ih=>
  intro hp;cases hd:listed.getD p false with
  |true=>rfl
  |false=>
   exfalso;have hm:p∈Region.ready .any ops listed:=by
    rw[mem_ready];refine⟨?_,ops[p],by simp[hp],fun e he hb=>?_⟩
    .grind
    .have:=ho.edge p ops[p] (by simp[hp]) e he hb;exact ih e.on this ae
   rw[hr]at hm;cases hm
def Fg (ho:Order ops.toList l bs)(h:SQ C ops l bs env nx VS M x0 listed a x f c){i:Nat}{o:Oper}(hi:ops[i]? =some o)(hni:listed.getD i false=false)
  (hed:∀e∈o.after,Region.binds .any e=true->listed.getD e.on false=true) {p:Nat} (hb:yF bs p i) (hne:p≠i):(p<i->listed.getD p false=true)/\(i<=p->¬listed.getD p false=true):=by
 unfold yF at hb;refine⟨fun hlt=>?_,fun hle hp=>?_⟩
 .rw[Nat.max_eq_left ae,Nat.min_eq_right ae]at hb;obtain⟨e,e1,e2,e3⟩:=ho.bef i o lR p hb;rcases e3 with rfl|e3
  .exact hed e e1 e2
  .exact h.closed _ (hed e e1 e2) p e3
 .rw[Nat.max_eq_right ae,Nat.min_eq_left ae]at hb;have:=h.closed p hp i hb;rw[hni]at this;cases this
def Trace.disU (tr:Trace Y l env nx VS M){i n:Nat}{ag:Bool}{p:Src}{gd:Option (Nat×Bool)}(hi:l[i]? =some ⟨.ldU n ag p,gd⟩)(hf:flag (VS.take i) gd=true){l':Nat}(hl:l'∈cq (Src.ev env (VS.take i) p).d):
  ∀(j:Nat) (g:GI),i<j->l[j]? =some g->g.i.nr=true->(∀q g,i<q->q<j->l[q]? =some g->g.i.calm=true\/g.i.nr=true)->l'∉g.i.wr (Src.ev env (VS.take j)) (nx+j):=by
 intro j;induction j using Nat.strongRecOn with
 |_ j ih=>
  intro g hij hj hg hbt hw;obtain⟨k1,k2⟩:=tr.ey i _ hi hf;have hne:look (M i) l'≠none:=BH (Y:=Y) (i:=.ldU n ag p) ⟨k1,k2⟩ rfl hl;have hlt:=tr.fresh i l' hne;have hc:look (M j) l'=look (M i) l':=tr.same fun q gq q1 q2 hq hqw=>by
   rw[Nat.min_eq_right ae]at q1;rw[Nat.max_eq_left ae]at q2;rcases eh i q with h1|h1
   .rcases hbt q gq h1 q2 hq with h2|h2
    .have:=kB h2 hqw;omega
    .exact ih q q2 gq h1 hq h2 (fun q' g' a b c=>hbt q' g' a ae c) hqw
   .obtain rfl:q=i:=ae;rw[hi]at hq;obtain rfl:=aW hq;cases hqw
  obtain⟨gi,gg⟩:=g;cases gi<;>simp only[ax.nr]at hg<;>try cases hg
  rename_i f r args sh;obtain⟨_,_,_,_,h4⟩:=(tr.qv hj).resolve_left (by simp[ax.calm]);cases hd:(Src.ev env (VS.take j) r).d<;>simp only[hd]at h4;rename_i l1 k1' i1 o1;simp only[ax.wr,hd,cq,aC]at hw;subst hw;cases hdp:(Src.ev env (VS.take i) p).d<;>simp only[hdp]at k2<;>rw[hdp]at hl<;>simp only[cq,aC,cV]at hl;subst hl;have e1:aH (M j) l'=aH (M i) l':=by simp only[aH,hc]
  rw[e1]at h4;obtain⟨_,_,_,h5,h6,_⟩:=h4
  match hb:aH (M i) l',h5,h6,k2.2 with
  |[d],_,h6,h7=>
   simp only[iQ]at h6;simp[aL,h6]at h7
def Src.adC {p q:Src}(h:p.same q=true):p=q:=by
 cases p<;>cases q<;>simp only[Src.same]at h<;>first
  |cases h
  |rw[Nat.eq_of_beq_eq_true h]
def Trace.disW (tr:Trace Y l env nx VS M){i n:Nat}{ag:Bool}{p:Src}{gd:Option (Nat×Bool)}(hi:l[i]? =some ⟨.ldW n ag p,gd⟩)(hf:flag (VS.take i) gd=true){l':Nat}(hl:l'∈cq (Src.ev env (VS.take i) p).d):
  ∀(j:Nat) (g:GI),i<j->l[j]? =some g->g.i.narrow p=true->(∀q g,i<q->q<j->l[q]? =some g->g.i.calm=true\/g.i.narrow p=true)->l'∉g.i.wr (Src.ev env (VS.take j)) (nx+j):=by
 intro j;induction j using Nat.strongRecOn with
 |_ j ih=>
  intro g hij hj hg hbt hw;obtain⟨k1,k2⟩:=tr.ey i _ hi hf;have hne:look (M i) l'≠none:=BH (Y:=Y) (i:=.ldW n ag p) ⟨k1,k2⟩ rfl hl;have hlt:=tr.fresh i l' hne;have hc:look (M j) l'=look (M i) l':=tr.same fun q gq q1 q2 hq hqw=>by
   rw[Nat.min_eq_right ae]at q1;rw[Nat.max_eq_left ae]at q2;rcases eh i q with h1|h1
   .rcases hbt q gq h1 q2 hq with h2|h2
    .have:=kB h2 hqw;omega
    .exact ih q q2 gq h1 hq h2 (fun q' g' a b c=>hbt q' g' a ae c) hqw
   .obtain rfl:q=i:=ae;rw[hi]at hq;obtain rfl:=aW hq;cases hqw
  cases hdp:(Src.ev env (VS.take i) p).d<;>simp only[hdp]at k2<;>rw[hdp]at hl<;>simp only[cq,aC,cV]at hl;subst hl;rename_i k2' i2 o2;have e2:=k2.1.1;have e3:=k2.2;obtain⟨gi,gg⟩:=g;cases gi<;>simp only[ax.narrow]at hg<;>try cases hg
  .rename_i n' x y qs;obtain⟨_,_,_,_,h4⟩:=(tr.qv hj).resolve_left (by simp[ax.calm]);simp only[ax.wr]at hw;cases hd:(Src.ev env (VS.take j) x).d<;>simp only[hd]at h4<;>rw[hd]at hw<;>simp only[cq,aC,cV]at hw;subst hw;rcases h4.2.2 with h42|h42
   rotate_left
   .obtain⟨q,hq1,hq2⟩:=List.any_eq_true.1 hg;obtain rfl:=Src.adC hq2;refine h42 _ hq1 ?_;have he:Src.ev env (VS.take j) p=Src.ev env (VS.take i) p:=by
     cases p with
     |s n=>rfl
     |c d=>rfl
     |l q'=>
      simp only[Src.ev]at hdp⊢;have hq':q'<i:=by
       rcases eh q' i with h|h
       .exact h
       .rw[List.getD_eq_getElem?_getD,List.getElem?_take,ai ae]at hdp;exact absurd hdp (by simp[aX.un])
      simp only[List.getD_eq_getElem?_getD,List.getElem?_take,hq',show q'<j by omega,aZ]
    rw[he,hdp];simp[cq]
   have e1:=h4.1;simp only[dW,hc]at e1;simp only[dW]at e2;split at e2
   .rename_i kk es he;rw[he]at e1;simp only at e1;have:=e1.1.trans e2.1.symm;have:=h42;omega
   .exact e2
  .rename_i k x y;obtain⟨_,_,_,h3,h4⟩:=(tr.qv hj).resolve_left (by simp[ax.calm]);simp only[ax.wr,b9]at hw;have hw:=hw.resolve_left ae;cases hd:(Src.ev env (VS.take j) x).d<;>simp only[hd]at h4<;>rw[hd]at hw<;>simp only[cq,aC,cV]at hw;subst hw;have e1:=h4.2.1;simp only[dW,hc]at e1;simp only[dW]at e2;split at e2
   .rename_i kk es he;rw[he]at e1;simp only at e1;have:=e1.1.trans e2.1.symm;have:=Nat.le_of_ble_eq_true hg;omega
   .exact e2
def Trace.disA (tr:Trace Y l env nx VS M){q:Nat}{g:GI}(hq:l[q]? =some g)(hg:g.i.isApp=true){l':Nat}(hw:l'∈g.i.wr (Src.ev env (VS.take q)) (nx+q))(hne:l'≠nx+q):∀k,look (M (q+1+k)) l'=none:=by
 have hc:g.i.calm=false:=by cases g with|mk i gd=>cases i<;>simp_all[ax.isApp,ax.calm]
 obtain⟨_,hob⟩:=(tr.qv hq).resolve_left (by simp[hc]);have hlt:l'<nx+q:=by
  rcases OJ hob hw with e|e
  .exact absurd e hne
  .exact tr.fresh q l' e
 intro k;induction k with
 |zero=>
  rw[Nat.add_zero,tr.step q g hq];obtain⟨gi,gg⟩:=g;obtain⟨k,x,y,rfl⟩:∃k x y,gi=.app k x y:=by
   cases gi<;>first|exact⟨_,_,_,rfl⟩|(simp only[ax.isApp]at hg;cases hg)
  simp only[ax.wr,b9]at hw;have hw:=hw.resolve_left hne;simp only[ax.bP];cases hd:(Src.ev env (VS.take q) x).d<;>rw[hd]at hw<;>simp only[cq,aC,cV]at hw;all_goals first
   |(subst hw;simp only;rw[bJ,ai hne,eY,ak rfl])
   |(exfalso;simp only[ax.ey,hd]at hob;simp at hob)
 |succ k ih=>
  rw[show q+1+(k+1)=q+1+k+1 by omega];cases hg2:l[q+1+k]? with
  |none=>rw[tr.stop _ hg2];exact ih
  |some g2=>
   cases hx:look (M (q+1+k+1)) l' with
   |none=>rfl
   |some b=>
    rw[tr.step _ g2 hg2]at hx;have hco:g2.i.calm=true\/g2.i.ey Y (Src.ev env (VS.take (q+1+k))) (M (q+1+k)):=(tr.qv hg2).imp id (·.2);rcases th hco (l:=l') (by rw[hx];simp)with e|e
    .exact absurd ih e
    .omega
def U_wr {i:ax}{J:Src->aX}{L:Nat}(h:i.free=true\/i.nt=true):i.wr J L=[]:=by
 rcases h with h|h
 .exact aci h
 .cases i<;>simp_all[ax.nt,ax.wr]
def U_eff {i:ax}{J:Src->aX}{m:List (Nat×bm)}{L:Nat}(h:i.free=true\/i.nt=true):i.bP Y J m L=m:=by
 rcases h with h|h
 .exact WB h
 .cases i<;>simp_all[ax.nt,ax.bP]
def agF {i:ax}(h:i.nt=true):i.calm=true:=by cases i<;>simp_all[ax.nt,ax.calm]
def agG {i:ax}(h:i.nt=true):i.free=false:=by cases i<;>simp_all[ax.nt,ax.free,ax.pure]
def U_mk {i:ax}(h:i.nt=true):i.jN=false:=by cases i<;>simp_all[ax.nt,ax.jN]
def U_inv {i:ax}(h:i.isUU=true):∃n ag p,i=.ldU n ag p:=by cases i<;>first|exact⟨_,_,_,rfl⟩|(simp only[ax.isUU]at h;cases h)
def aeu {i:ax}(h:i.nt=true):(∃n ag p,i=.ldU n ag p)\/∃n ag p,i=.ldW n ag p:=by
 cases i<;>first|exact .inl ⟨_,_,_,rfl⟩|exact .inr ⟨_,_,_,rfl⟩|(simp only[ax.nt]at h;cases h)
def KU (hsp:Spec C ops.toList l)(ho:Order ops.toList l bs)(hnM:∀g∈l,g.i.cO=false)(hΓ:Ok C.P C.ν C.bP Y)(tr:Trace Y l env nx VS M){Q:Exit->Act->World->Prop}
  (hK:∀a' x',AU C env (ops.toList.map (·.dst)) VS (· <ops.size) a' x'->Step x0 x'->fm C.ν x' (look (M l.length))->eW ⟨nx+l.length,M l.length⟩ x'->Q .normal a' x'.w):
  ∀(fuel:Nat) (listed:Array Bool) (a:Act) (x:X) (f:Nat->Option bm) (c:Nat),SQ C ops l bs env nx VS M x0 listed a x f c->cnt ops.size listed<=fuel->wpAny C.P .any ops Q fuel listed a x.w:=by
 intro fuel;have hlen:l.length=ops.size:=by simpa using hsp.len
 induction fuel with
 |zero=>
  intro listed a x f c h hc;have hall:∀p,p<ops.size->listed.getD p false=true:=by
   intro p hp;have h0:(List.range ops.size).filter (fun p=>!listed.getD p false)=[]:=lI (Nat.le_zero.1 hc);rw[List.filter_eq_nil_iff]at h0;simpa using h0 p (by simpa using hp)
  refine⟨?_, ?_⟩
  .rw[List.eq_nil_iff_forall_not_mem];intro j hj;obtain⟨h1,o,h2,_⟩:=mem_ready.1 hj;have hjl:j<ops.size:=(Array.getElem?_eq_some_iff.1 h2).1;have:=hall j hjl;have hjs:j<listed.size:=by rw[h.size];exact hjl
   simp only[Array.getD,hjs,dif_pos]at h1 this;rw[this]at h1;cases h1
  .obtain⟨q1,q2,q3,q4⟩:=h.fin hsp tr hall;exact hK a x q1 q2 q3 q4
 |succ fuel ih=>
  intro listed a x f c h hc;refine⟨fun hr=>?_,fun i hi=>?_⟩
  .obtain⟨q1,q2,q3,q4⟩:=h.fin hsp tr (SQ.all ho h.size hr);exact hK a x q1 q2 q3 q4
  .obtain⟨h1,o,h2,hed⟩:=mem_ready.1 hi;have hil:i<ops.size:=(Array.getElem?_eq_some_iff.1 h2).1;have his:i<listed.size:=by rw[h.size];exact hil
   have hni:listed.getD i false=false:=by simp only[Array.getD,his,dif_pos]at h1⊢;exact h1
   have ho':ops.toList[i]? =some o:=by simpa using h2
   obtain⟨⟨ins,gd⟩,hg1,hg2,hg3⟩:=hsp.op i o ho';simp only at hg2 hg3;have hdst:(ops.toList.map (·.dst))[i]? =some o.dst:=by rw[List.getElem?_map,ho',Option.map_some]
   have hcm:ins.cO=false:=hnM _ (List.mem_of_getElem? hg1);have hreads:∀t p,t∈tmpsOf ops.toList o->(ops.toList.map (·.dst))[p]? =some (some t)->(p<i->listed.getD p false=true)/\(i<=p->¬listed.getD p false=true):=by
    intro t p ht hp;rw[List.getElem?_map,dd]at hp;obtain⟨op,hp1,hp2⟩:=hp;rcases ho.reads i p o op t ho' hp1 hp2 ht with rfl|hb
    .exact⟨fun h=>ae,fun _=>by rw[hni];simp⟩
    .by_cases hpi:p=i
     .subst hpi;exact⟨fun h=>ae,fun _=>by rw[hni];simp⟩
     .exact Fg ho h h2 hni hed hb hpi
   have hρ:vu C ((ops.toList.map (·.dst)).take i) (Src.ev env (VS.take i)) a.eval x o.op.operands.toList:=
    h.mid.rho fun t p ht hp=>hreads t p (List.mem_append_left _ (List.mem_filterMap.2 ⟨.tmp t,ht,rfl⟩)) hp
   have hcst:∀d,Src.ev env (VS.take i) (.c d)=⟨true,d⟩:=fun _=>rfl
   have hgk:=tr.UT i _ hg1;obtain⟨hent1,hent2⟩:=tr.ent i _ hg1;have hMs:=tr.step i _ hg1;simp only at hgk hent1 hent2 hMs;have hwant:Region.wanted o (yielded ops a.tmps)=flag (VS.take i) gd:=by
    refine kj (g:=⟨ins,gd⟩) h.mid hg3 (fun j w hg hji=>?_) (aeH hgk)

    simp only[hg,CC.guard]at hg3;split at hg3
    .rename_i t hj;rw[List.getElem?_take,ak hji]at hj;refine(hreads t j (List.mem_append_right _ ?_) hj).1 hji;rw[List.getElem?_map,dd]at hj;obtain⟨oj,hj1,hj2⟩:=hj;simp[hg,hj1,hj2]
    .cases hg3
   have hput:∀(v:Value) (x':X),Le x x'->((VS.getD i .un).ok=true->RD C.ν x' v (VS.getD i .un).d)->((VS.getD i .un).ok=false->v=undef)->
     AU C env (ops.toList.map (·.dst)) VS (fun p=>(listed.setIfInBounds i true).getD p false=true) (a.put o.dst v) x':=by
    intro v x' hle e1 e2;refine h.mid.put (i:=i) hle hdst (fun t ht=>⟨(hsp.dst i o t ho' ht).1,fun p hp e'=>hp (hsp.distinct (by rw[hdst,ht]) e')⟩) e1 e2 (fun p=>?_);rw[gH his];by_cases e:p=i
    .simp[e]
    .simp[e]
   have hclosed:∀j,(listed.setIfInBounds i true).getD j false=true->∀p,(bs.getD j 0).testBit p=true->(listed.setIfInBounds i true).getD p false=true:=by
    intro j hj p hp;rw[gH his]at hj⊢;by_cases e:p=i
    .rw[ak e]
    .rw[ai e];by_cases ej:j=i
     .subst ej;obtain⟨e',e1,e2,e3⟩:=ho.bef j o ho' p hp;rcases e3 with rfl|e3
      .exact hed e' e1 e2
      .exact h.closed _ (hed e' e1 e2) p e3
     .rw[ai ej]at hj;exact h.closed j hj p hp
   have hcnt:cnt ops.size (listed.setIfInBounds i true)<=fuel:=by have:=abJ h.size hil hni;omega
   have hsz:(listed.setIfInBounds i true).size=ops.size:=by simp[h.size]
   have hL:x.β (nx+i)=none:=h.β _ ae fun p hp e=>by
    have:p=i:=ae;subst this;rw[hni]at hp;cases hp
   have hset:∀p,p≠i->((listed.setIfInBounds i true).getD p false=true↔listed.getD p false=true):=fun p hp=>by rw[gH his,ai hp]
   unfold wpOp;simp only[h2,hwant];cases hfg:flag (VS.take i) gd with
   |false=>
    rw[ai aG];have hcalm:ins.calm=true:=by
     cases gd with
     |none=>simp[flag]at hfg
     |some jw=>obtain⟨j,w⟩:=jw;exact hgk.1
    refine ih _ _ x f c ⟨hput undef x (Le.refl x) (fun e=>by rw[hent1,hfg]at e;cases e) (fun _=>rfl),h.step,h.oy,hsz,hclosed,fun l' hl' hp=>h.β l' hl' fun p hp'=>?_,fun p g hp hpc=>?_,h.mem,fun p g hp hpc hpa hpl l' hl'=>?_⟩ hcnt
    .refine hp p ?_;rw[gH his];split
     .rfl
     .exact hp'
    .by_cases e:p=i
     .subst e;rw[hg1]at hp;obtain rfl:=aW hp;rw[hcalm]at hpc;cases hpc
     .rw[hset p e];exact h.nc p g hp hpc
    .by_cases e:p=i
     .subst e;rw[hg1]at hp;obtain rfl:=aW hp;rw[hcalm]at hpc;cases hpc
     .exact h.wrβ p g hp hpc hpa ((hset p e).1 hpl) l' hl'
   |true=>
    rw[ak rfl];left;have hob:=tr.ey i _ hg1 hfg;simp only at hob

    have hf1:fm C.ν x (fun l'=>if x.β l'=none then look (M i) l' else f l'):=h.oy.less fun l'=>by
     by_cases hb:x.β l'=none
     .exact .inr (.inr hb)
     .left;simp[hb]

    have hnear0:ins.free=false->∀q g,l[q]? =some g->g.i.calm=false->(ins.jN=false\/(g.i.isApp=true/\i<q))->q≠i->(q<i↔q<c)\/ExU l g.i ins q i:=by
     intro hpu q g hq hqc hmk hqi;rcases ho.effs q i g ⟨ins,gd⟩ hq hg1 hqc hpu hmk with e|hb|hx
     .exact absurd e.symm hqi
     rotate_left
     .exact .inr hx
     .left;have hb':yF bs q i:=by unfold yF at hb⊢;rwa [Nat.max_comm,Nat.min_comm]
      obtain⟨b1,b2⟩:=Fg ho h h2 hni hed hb' hqi;have hnc:=h.nc q g hq hqc;constructor
      .intro hlt;exact hnc.1 (b1 hlt)
      .intro hlt;rcases eh q i with h3|h3
       .exact h3
       .exact absurd (hnc.2 hlt) (b2 h3)
    have hnear:ins.nt=false->ins.free=false->∀q g,l[q]? =some g->g.i.calm=false->(ins.jN=false\/(g.i.isApp=true/\i<q))->q≠i->(q<i↔q<c):=by
     intro hu hpu q g hq hqc hmk hqi;exact(hnear0 hpu q g hq hqc hmk hqi).resolve_right fun hx=>by rw[hx.1]at hu;cases hu
    have hag:EC (fun l'=>if x.β l'=none then look (M i) l' else f l') (M i) (ins.mX (Src.ev env (VS.take i))):=by
     have key:ins.nt=false->ins.free=false->ins.jN=false->∀l',look (M i) l'≠none->(if x.β l'=none then look (M i) l' else f l')=look (M i) l':=by
      intro hu hpu hmk l' hl';by_cases hb:x.β l'=none
      .rw[ak hb]
      .rw[ai hb,h.mem l' hb];have hlt:=tr.fresh i l' hl';refine tr.same fun q g q1 q2 hq hw=>?_
       by_cases hqi:q=i
       .subst hqi;cases hqc:g.i.calm with
        |true=>have:=kB hqc hw;omega
        |false=>
         have h5:=h.nc q g hq hqc;rw[hni]at h5;have:¬q<c:=fun e=>by cases h5.2 e
         omega
       .cases hqc:g.i.calm with
        |true=>have:=kB hqc hw;omega
        |false=>have:=hnear hu hpu q g hq hqc (.inl hmk) hqi;omega
     have keyU:ins.nt=true->∀ls,ins.mX (Src.ev env (VS.take i))=some ls->∀l'∈ls,(if x.β l'=none then look (M i) l' else f l')=look (M i) l':=by
      intro hu ls hls l' hl';have hl'':=BH hob hls hl';by_cases hb:x.β l'=none
      .rw[ak hb]
      .rw[ai hb,h.mem l' hb];have hlt:=tr.fresh i l' hl'';have hpu:=agG hu;have hmk:=U_mk hu;refine tr.same fun q g q1 q2 hq hw=>?_
       by_cases hqi:q=i
       .subst hqi;rw[hg1]at hq;obtain rfl:=aW hq;rw[U_wr (.inr hu)]at hw;cases hw
       .cases hqc:g.i.calm with
        |true=>have:=kB hqc hw;omega
        |false=>
         rcases hnear0 hpu q g hq hqc (.inl hmk) hqi with h5|⟨_,⟨h5,h6⟩|⟨h8,h5,h6,h7⟩|⟨h8,h5,h6,h7⟩⟩
         .omega
         .have:=tr.disA hq h5 hw ae (i-(q+1));rw[show q+1+(i-(q+1))=i by omega]at this;exact hl'' this
         .obtain⟨_,_,_,rfl⟩:=U_inv h8;simp only[ax.mX,aD]at hls;subst hls;exact tr.disU hg1 hfg hl' q g h6 hq h5 h7 hw
         .rcases aeu hu with⟨_,_,_,rfl⟩|⟨_,_,_,rfl⟩
          .cases h8
          simp only[ax.mX,aD]at hls;subst hls;exact tr.disW hg1 hfg hl' q g h6 hq h5 h7 hw
     cases hu:ins.nt with
     |true=>
      cases htc:ins.mX (Src.ev env (VS.take i))with
      |none=>rcases aeu hu with⟨_,_,_,rfl⟩|⟨_,_,_,rfl⟩<;>cases htc
      |some ls=>exact keyU hu ls htc
     |false=>
     cases hpu:ins.free with
     |true=>rw[WC hpu hob];intro l' hl';cases hl'
     |false=>
      cases hmk:ins.jN with
      |true=>rw[TI hmk];intro l' hl';cases hl'
      |false=>
       cases htc:ins.mX (Src.ev env (VS.take i))with
       |none=>exact key hu hpu hmk
       |some ls=>exact fun l' hl'=>key hu hpu hmk l' (BH hob htc hl')
    refine(Hr (L:=nx+i) hg2 hcm hΓ hρ hcst hob hf1 hag hL (by
     show(if x.β (nx+i)=none then look (M i) (nx+i)else f (nx+i))=none;rw[ak hL];cases hx:look (M i) (nx+i)with
     |none=>rfl
     |some b=>have:=tr.fresh i (nx+i) (by rw[hx];simp);omega) (fun _=>rfl)).wp (fun v x' hG=>?_)
    obtain⟨g1,g2,g3,g4⟩:=hG;rw[<-hMs]at g3;refine ih _ _ x' _ (if ins.free=true\/ins.jN=true\/ins.nt=true then c else i+1) ⟨hput v x' g1.le (fun _=>by rw[<-hent2 hfg];exact g2) (fun e=>by rw[hent1,hfg]at e;cases e),h.step.trans g1,g3,hsz,hclosed,fun l' hl' hp=>?_,fun p g hp hpc=>?_,fun l' hl'=>?_,fun p g hp hpc hpa hpl l' hl'=>?_⟩ hcnt
    .have hne:l'≠nx+i:=hp i (by rw[gH his,ak rfl]);rw[g4 l' hne];refine h.β l' hl' fun p hp'=>hp p ?_
     rw[gH his];split
     .rfl
     .exact hp'
    .by_cases e:p=i
     .subst e;rw[hg1]at hp;obtain rfl:=aW hp;have hpf:¬(ins.free=true\/ins.jN=true\/ins.nt=true):=by
       rintro(hpu|hpu|hpu)
       .have:=Tk hpu;simp only at hpc;rw[this]at hpc;cases hpc
       .have:=CV hpu;simp only at hpc;rw[this]at hpc;cases hpc
       .have:=agF hpu;simp only at hpc;rw[this]at hpc;cases hpc
      rw[ai hpf,gH his,ak rfl];simp
     .rw[hset p e];by_cases hpu:ins.free=true\/ins.jN=true\/ins.nt=true
      .rw[ak hpu];exact h.nc p g hp hpc
      .rw[ai hpu];have hf0:ins.free=false:=by cases hh:ins.free with|false=>rfl|true=>exact absurd (.inl hh) hpu
       have hm0:ins.jN=false:=by cases hh:ins.jN with|false=>rfl|true=>exact absurd (.inr (.inl hh)) hpu
       have hu0:ins.nt=false:=by cases hh:ins.nt with|false=>rfl|true=>exact absurd (.inr (.inr hh)) hpu
       have h3:=hnear hu0 hf0 p g hp hpc (.inl hm0) e;have h4:=h.nc p g hp hpc;constructor
       .intro h5;have:=h4.1 h5;omega
       .intro h5;exact h4.2 (h3.1 ae)
    .by_cases hlL:l'=nx+i
     ·
      subst hlL;have hMi:look (M i) (nx+i)=none:=by
       cases hx:look (M i) (nx+i)with
       |none=>rfl
       |some b=>have:=tr.fresh i (nx+i) (by rw[hx];simp);omega
      by_cases hst:ins.free=true\/ins.nt=true
      .rw[ak (hst.elim .inl fun h=>.inr (.inr h)),U_wr hst];rw[show iY (fun l'=>if x.β l'=none then look (M i) l' else f l') [] (M (i+1))=(fun l'=>if x.β l'=none then look (M i) l' else f l')from wH];simp only[ak hL];have hM1:M (i+1)=M i:=by rw[hMs];exact U_eff hst
       have:∀n,look (M (i+1+n)) (nx+i)=none:=by
        intro n;induction n with
        |zero=>rw[Nat.add_zero,hM1];exact hMi
        |succ n ihn=>
         rw[<-Nat.add_assoc];cases hg:l[i+1+n]? with
         |none=>rw[tr.stop _ hg];exact ihn
         |some g=>
          cases hx:look (M (i+1+n+1)) (nx+i)with
          |none=>rfl
          |some b=>
           rw[tr.step _ g hg]at hx;have hco:g.i.calm=true\/g.i.ey Y (Src.ev env (VS.take (i+1+n))) (M (i+1+n)):=(tr.qv hg).imp id (·.2);rcases th hco (l:=nx+i) (by rw[hx];simp)with e|e
           .exact absurd ihn e
           .omega
       have:=this (max c (nx+i+1-nx) -(i+1));rw[show i+1+(max c (nx+i+1-nx) -(i+1))=max c (nx+i+1-nx)by omega]at this;rw[this];exact hMi
      .have hpu:ins.free=false:=by cases hh:ins.free with|false=>rfl|true=>exact absurd (.inl hh) hst
       have hu:ins.nt=false:=by cases hh:ins.nt with|false=>rfl|true=>exact absurd (.inr hh) hst
       have e0:iY (fun l'=>if x.β l'=none then look (M i) l' else f l') (ins.wr (Src.ev env (VS.take i)) (nx+i)) (M (i+1)) (nx+i)=look (M (i+1)) (nx+i):=by
        simp only[iY];split
        .rfl
        .rename_i hw;rw[hMs,yP hw]
       rw[e0];cases hmk:ins.jN with
       |false=>rw[ai (by simp[hpu,hu]),show max (i+1) (nx+i+1-nx)=i+1 by omega]
       |true=>
        rw[ak (.inr (.inl rfl))];refine tr.same fun q g q1 q2 hq hqw=>?_
        cases hqc:g.i.calm with
        |true=>have:=kB hqc hqw;omega
        |false=>
         cases hqa:g.i.isApp with
         |true=>have:=hnear hu hpu q g hq hqc (.inr ⟨hqa,ae⟩) ae;omega
         |false=>exact h.wrβ q g hq hqc hqa ((h.nc q g hq hqc).2 ae) _ hqw hL
     .rw[g4 l' hlL]at hl';by_cases hst:ins.free=true\/ins.nt=true
      .rw[ak (hst.elim .inl fun h=>.inr (.inr h)),U_wr hst];rw[show iY (fun l'=>if x.β l'=none then look (M i) l' else f l') [] (M (i+1))=(fun l'=>if x.β l'=none then look (M i) l' else f l')from wH];simp only[ai hl'];exact h.mem l' hl'
      .have hpu:ins.free=false:=by cases hh:ins.free with|false=>rfl|true=>exact absurd (.inl hh) hst
       have hu:ins.nt=false:=by cases hh:ins.nt with|false=>rfl|true=>exact absurd (.inr hh) hst
       cases hmk:ins.jN with
       |true=>
        rw[ak (.inr (.inl rfl))];have hw:l'∉ins.wr (Src.ev env (VS.take i)) (nx+i):=fun hw=>hlL (kB (CV hmk) hw)
        simp only[iY,ai hw,ai hl'];exact h.mem l' hl'
       |false=>
       rw[ai (by simp[hpu,hu])];simp only[iY];split
       .rename_i hw;rcases OJ hob hw with e|e
        .exact absurd e hlL
        .have:=tr.fresh i l' e;rw[show max (i+1) (l'+1-nx)=i+1 by omega]
       .rename_i hw;rw[h.mem l' hl'];refine tr.same fun q g q1 q2 hq hqw=>?_
        by_cases hqi:q=i
        .subst hqi;rw[hg1]at hq;obtain rfl:=aW hq;exact hw hqw
        .cases hqc:g.i.calm with
         |true=>have:=kB hqc hqw;omega
         |false=>have:=hnear hu hpu q g hq hqc (.inl hmk) hqi;omega
    .by_cases e:p=i
     .subst e;rw[hg1]at hp;obtain rfl:=aW hp;have hX:∃i0:ax,C.op ((ops.toList.map (·.dst)).take p) o=some i0/\i0.calm=false/\i0.isApp=false/\i0.cO=false/\i0.ey Y (Src.ev env (VS.take p)) (M p)/\∀L,i0.wr (Src.ev env (VS.take p)) L=ins.wr (Src.ev env (VS.take p)) L:=by
       rcases hg2 with hg2|⟨n',ag',s',rfl,_⟩|⟨k',y',rfl,_⟩|⟨k',z',n',ps',rfl,_⟩|⟨n',ag',s',rfl|rfl,_⟩|⟨n',s',v',qs',rfl,hg2⟩
       .exact⟨_,hg2,hpc,hpa,hcm,hob,fun _=>rfl⟩
       .cases hpc
       .cases hpc
       .cases hpc
       .cases hpc
       .cases hpc
       .obtain⟨o1,o2,o3,o4⟩:=hob;refine⟨_,hg2,rfl,rfl,rfl,⟨o1,o2,o3, ?_⟩,fun _=>rfl⟩;cases hd:(Src.ev env (VS.take p) s').d<;>simp only[hd]at o4;exact⟨o4.1,o4.2.1⟩
      obtain⟨i0,hX1,hX2,hX3,hX4,hX5,hX6⟩:=hX;obtain⟨s,⟨q,hq1,hq2⟩,hs3⟩:=ajy (Y:=Y) hX1 hX2 hX3 hX4;obtain⟨hok,l1,hwr,hd⟩:=hs3 _ _ (nx+p) hX5;simp only at hl';rw[<-hX6,hwr]at hl';obtain rfl:=aC.1 hl';have hrd:=hρ q hq1 s hq2 hok;generalize a.eval q=vq at hrd;rcases hd with⟨k1,i1,o1,hd⟩|hd|hd
      .rw[hd]at hrd;cases hrd with
       |ptr _ _ _ _ b base tot at_ hβ hat=>rw[g1.β _ _ hβ];simp
      .rw[hd]at hrd;cases hrd with
       |it _ b base tot hβ=>rw[g1.β _ _ hβ];simp
      .rw[hd]at hrd;obtain⟨b,base,tot,_,hβ⟩:=hrd.Hf hΓ.small;rw[g1.β _ _ hβ];simp
     .have h7:=h.wrβ p g hp hpc hpa ((hset p e).1 hpl) l' hl';cases hb:x.β l' with
      |none=>exact absurd hb h7
      |some y=>rw[g1.β _ _ hb];simp
end
section
variable {ops:Array Oper} {l:List GI} {bs:List Nat}
def z8 (P:Program)(ops:Array Oper)(n:Nat)(Q:Exit->Act->World->Prop):Exit->Act->World->Prop:=fun e a w=>match e with
 | .normal=>wpOp P ops Q n (fun a w=>Q .normal a w) a w
 |e=>Q e a w
def Nj {P:Program}{n i:Nat}(hsz:ops.size=n+1)(hi:i<n)(hg:∀o,ops[i]? =some o->∀j w,o.guard=some (j,w)->j<n){Q:Exit->Act->World->Prop}{K:Act->World->Prop}{a:Act}{w:World}
  (h:wpOp P ops.pop (z8 P ops n Q) i K a w):wpOp P ops Q i K a w:=by
 have hp:∀j,j<n->ops.pop[j]? =ops[j]? :=fun j hj=>by rw[Array.getElem?_pop,ak ae]
 unfold wpOp at h⊢;rw[hp i hi]at h;cases ho:ops[i]? with
 |none=>rw[ho]at h;exact h
 |some o=>
  rw[ho]at h;simp only at h⊢;have hw:Region.wanted o (yielded ops.pop a.tmps)=Region.wanted o (yielded ops a.tmps):=by
   unfold Region.wanted;cases hgd:o.guard with
   |none=>rfl
   |some jw=>obtain⟨j,b⟩:=jw;simp only[yielded,hp j (hg o ho j b hgd)]
  rw[hw]at h;split
  .rename_i hw2;rw[ak hw2]at h;refine h.imp (fun h=>?_) (fun h=>⟨h.1,h.2⟩);unfold Oper.wp at h⊢;generalize (execOp a.eval o).run P w=r at h⊢;cases r with
   |ok nx w'=>cases nx<;>exact h
   |halt x w'=>cases x<;>exact h
  .rename_i hw2;rw[ai hw2]at h;exact h
def Bj (o:Oper)(J:Operand->Value):Option Value:=match o.op with
 | .move x=>some (J x)
 | .assign x=>some (J x)
 | .extract x i=>(match J x with
  | .tuple vs=>vs[i]?
  |_=>none)
 |_=>none
def tC {P:Program}{i:Nat}{o:Oper}{x:Operand}(ho:ops[i]? =some o)(hx:Ak o=some x){Q:Exit->Act->World->Prop}{K:Act->World->Prop}{a:Act}{w:World}:wpOp P ops Q i K a w↔∃v,Bj o a.eval=some v/\K (a.put o.dst v) w:=by
 have key:∀r:Sem Next,execOp a.eval o=r->o.guard=none->((∃v,Bj o a.eval=some v/\r=.pure (.value v))\/(Bj o a.eval=none/\∃s,r=.halt (.stuck s)))->((if Region.wanted o (yielded ops a.tmps)=true then o.wp P a w K Q\/o.asks P a w/\LetsOut Q else K (a.put o.dst undef) w)↔∃v,Bj o a.eval=some v/\K (a.put o.dst v) w):=by
  intro r hr hg h;have hw:Region.wanted o (yielded ops a.tmps)=true:=by unfold Region.wanted;rw[hg]
  rw[ak hw];unfold Oper.wp Oper.asks;rw[hr];rcases h with⟨v,hv,rfl⟩|⟨hv,s,rfl⟩
  .rw[hv];constructor
   .rintro(h|⟨⟨h,_⟩,_⟩)
    .exact⟨v,rfl,h⟩
    .exact absurd (show noRoomEvent∈(#[]:Array Event)from h) aG
   .rintro⟨u,hu,h⟩;cases hu;exact .inl h
  .rw[hv];constructor
   .rintro(h|⟨⟨h,_⟩,_⟩)
    .exact False.elim h
    .exact absurd (show noRoomEvent∈(#[]:Array Event)from h) aG
   .rintro⟨u,hu,_⟩;cases hu
 unfold wpOp;rw[ho];unfold Ak at hx;simp only;split at hx
 .rename_i y h1 h2;exact key _ rfl h2 (.inl ⟨a.eval y,by unfold Bj;rw[h1],by unfold execOp;rw[h1];rfl⟩)
 .rename_i y h1 h2;exact key _ rfl h2 (.inl ⟨a.eval y,by unfold Bj;rw[h1],by unfold execOp;rw[h1];rfl⟩)
 .rename_i y i h1 h2;refine key _ rfl h2 ?_;unfold Bj execOp;rw[h1];simp only;unfold Instr.extract;cases a.eval y with
  |tuple vs=>
   simp only;cases hvs:vs[i]? with
   |some v=>exact .inl ⟨v,rfl,rfl⟩
   |none=>exact .inr ⟨rfl,_,rfl⟩
  |_=>exact .inr ⟨rfl,_,rfl⟩
 .cases hx
def Wl {a:Act}{x:Operand}{d:Option Nat}{v:Value}(h:OL x d=true):(a.put d v).eval x=a.eval x:=by
 cases d with
 |none=>rfl
 |some d=>
  cases x with
  |tmp t=>
   simp only[OL,bne_iff_ne,ne_eq]at h;simp only[Act.put,Act.eval,Array.getD_eq_getD_getElem?];rw[Array.getElem?_setIfInBounds_ne (fun e=>h e.symm)]
  |_=>rfl
def M7 {o:Oper}{x:Operand}(hx:Ak o=some x){a:Act}{d:Option Nat}{v:Value}(h:OL x d=true):Bj o (a.put d v).eval=Bj o a.eval:=by
 unfold Ak at hx;unfold Bj;split at hx<;>first
  |(rename_i y h1 h2;cases hx;simp only[h1,Wl h])
  |cases hx
def put_comm {a:Act}{d e:Option Nat}{u v:Value}(h:(match d,e with
  |some a,some b=>a !=b
  |_,_=>true)=true):(a.put d u).put e v=(a.put e v).put d u:=by
 cases d with
 |none=>rfl
 |some d=>
  cases e with
  |none=>rfl
  |some e=>
   simp only[bne_iff_ne,ne_eq]at h;simp only[Act.put];rw[Array.setIfInBounds_comm _ _ h]
def VB {P:Program}{n:Nat}(hsz:ops.size=n+1)(ho:Order ops.toList l bs)(hfull:∀p,p<n->Nt ops.toList bs n p)(hg:∀(i:Nat)(o:Oper),ops[i]? =some o->∀j w,o.guard=some (j,w)->j<i){Q:Exit->Act->World->Prop}:
  ∀(fuel:Nat) (listed:Array Bool) (a:Act) (w:World),listed.size=n+1->listed.getD n false=false->(∀j,listed.getD j false=true->∀p,(bs.getD j 0).testBit p=true->listed.getD p false=true)->
   wpAny P .any ops.pop (z8 P ops n Q) fuel listed.pop a w->wpAny P .any ops Q (fuel+1) listed a w:=by
 have hp:∀j,j<n->ops.pop[j]? =ops[j]? :=fun j hj=>by rw[Array.getElem?_pop,ak ae]
 have hlp:∀(listed:Array Bool),listed.size=n+1->∀j d,j<n->listed.pop.getD j d=listed.getD j d:=fun listed hl j d hj=>by
  simp only[Array.getD_eq_getD_getElem?,Array.getElem?_pop,ak (show j<listed.size-1 by omega)]

 have hrd:∀(listed:Array Bool),listed.size=n+1->∀i,i<n->(i∈Region.ready .any ops listed↔i∈Region.ready .any ops.pop listed.pop):=by
  intro listed hl i hi;rw[mem_ready,mem_ready,hp i hi,hlp listed hl i true hi];refine and_congr_right fun _=>exists_congr fun o=>and_congr_right fun ho'=>forall_congr' fun e=>imp_congr_right fun he=>imp_congr_right fun hb=>?_
  have:=ho.edge i o (by simpa using ho') e he hb;rw[hlp listed hl e.on false ae]
 have hlast:∀(listed:Array Bool),(∀j,listed.getD j false=true->∀p,(bs.getD j 0).testBit p=true->listed.getD p false=true)->n∈Region.ready .any ops listed->∀p,p<n->(bs.getD n 0).testBit p=true->listed.getD p false=true:=by
  intro listed hcl hn p hpn hb;obtain⟨_,o,ho',hed⟩:=mem_ready.1 hn;obtain⟨e,e1,e2,e3⟩:=ho.bef n o (by simpa using ho') p hb;rcases e3 with rfl|e3
  .exact hed e e1 e2
  .exact hcl _ (hed e e1 e2) p e3
 have hdone:∀(fuel:Nat) (listed:Array Bool) (a:Act) (w:World),listed.size=n+1->(∀p,p<n+1->listed.getD p false=true)->Q .normal a w->wpAny P .any ops Q fuel listed a w:=by
  intro fuel listed a w hl hall hq;have hr:Region.ready .any ops listed=[]:=by
   rw[List.eq_nil_iff_forall_not_mem];intro j hj;obtain⟨h1,o,h2,_⟩:=mem_ready.1 hj;have hjl:j<n+1:=by have:=(Array.getElem?_eq_some_iff.1 h2).1;omega
   have h3:=hall j hjl;have hjs:j<listed.size:=ae;simp only[Array.getD,hjs,dif_pos]at h1 h3;rw[h3]at h1;cases h1
  cases fuel with
  |zero=>exact⟨hr,hq⟩
  |succ fuel=>exact⟨fun _=>hq,fun i hi=>by rw[hr]at hi;cases hi⟩
 have hall:∀(listed:Array Bool),listed.size=n+1->Region.ready .any ops.pop listed.pop=[]->∀p,p<n->listed.getD p false=true:=by
  intro listed hl hr p;induction p using Nat.strongRecOn with
  |_ p ih=>
   intro hpn;cases hd:listed.getD p false with
   |true=>rfl
   |false=>
    exfalso;have hm:p∈Region.ready .any ops listed:=by
     rw[mem_ready];refine⟨?_,ops[p],by simp[show p<ops.size by omega],fun e he hb=>?_⟩
     .have:p<listed.size:=ae;simp only[Array.getD,this,dif_pos]at hd⊢;exact hd
     .have:=ho.edge p ops[p] (by simp[show p<ops.size by omega]) e he hb;exact ih e.on this ae
    rw[hrd listed hl p hpn,hr]at hm;cases hm
 have hrest:∀(fuel:Nat) (listed:Array Bool) (a:Act) (w:World),listed.size=n+1->Region.ready .any ops.pop listed.pop=[]->
   z8 P ops n Q .normal a w->wpOp P ops Q n (wpAny P .any ops Q fuel (listed.setIfInBounds n true)) a w:=by
  intro fuel listed a w hl hr hq;refine wpOp_mono (fun a w hq=>hdone fuel _ a w (by simp[hl]) (fun p hp'=>?_) hq) hq;rw[gH ae];split
  .rfl
  .exact hall listed hl hr p ae

 have hend:∀(listed:Array Bool),listed.size=n+1->listed.getD n false=false->Region.ready .any ops.pop listed.pop=[]->n∈Region.ready .any ops listed:=by
  intro listed hl hn hr;rw[mem_ready];refine⟨?_,ops[n],by simp[hsz],fun e he hb=>hall listed hl hr _ (ho.edge n ops[n] (by simp[hsz]) e he hb)⟩;have:n<listed.size:=ae;simp only[Array.getD,this,dif_pos]at hn⊢;exact hn

 have hclS:∀(listed:Array Bool),listed.size=n+1->(∀j,listed.getD j false=true->∀p,(bs.getD j 0).testBit p=true->listed.getD p false=true)->∀i,i∈Region.ready .any ops listed->i<n->∀j,(listed.setIfInBounds i true).getD j false=true->∀p,(bs.getD j 0).testBit p=true->(listed.setIfInBounds i true).getD p false=true:=by
  intro listed hl hcl i hi h3 j hj p hp';obtain⟨_,o,ho',hed⟩:=mem_ready.1 hi;rw[gH ae]at hj⊢;by_cases e:p=i
  .rw[ak e]
  .rw[ai e];by_cases ej:j=i
   .subst ej;obtain⟨e',e1,e2,e3⟩:=ho.bef j o (by simpa using ho') p hp';rcases e3 with rfl|e3
    .exact hed e' e1 e2
    .exact hcl _ (hed e' e1 e2) p e3
   .rw[ai ej]at hj;exact hcl j hj p hp'
 have hpopS:∀(listed:Array Bool) (i:Nat),listed.size=n+1->i<n->(listed.setIfInBounds i true).pop=listed.pop.setIfInBounds i true:=by
  intro listed i hl h3;apply Array.ext
  .simp
  .intro q h5 h6;simp only[Array.size_pop,Array.size_setIfInBounds]at h5;rw[Array.getElem_pop,Array.getElem_setIfInBounds,Array.getElem_setIfInBounds,Array.getElem_pop]
   (first|exact(by simpa using h5)|omega)

 have hcomm:∀(fuel:Nat) (listed:Array Bool) (a:Act) (w:World),listed.size=n+1->(∀j,listed.getD j false=true->∀p,(bs.getD j 0).testBit p=true->listed.getD p false=true)->n∈Region.ready .any ops listed->
   wpAny P .any ops.pop (z8 P ops n Q) fuel listed.pop a w->wpOp P ops Q n (wpAny P .any ops Q fuel (listed.setIfInBounds n true)) a w:=by
  intro fuel;induction fuel with
  |zero=>intro listed a w hl hcl hn h;exact hrest 0 listed a w hl h.1 h.2
  |succ fuel ih=>
   intro listed a w hl hcl hn h;obtain⟨h1,h2⟩:=h;cases hr:Region.ready .any ops.pop listed.pop with
   |nil=>exact hrest _ listed a w hl hr (h1 hr)
   |cons i0 rest=>
    have hlt:∀i∈Region.ready .any ops.pop listed.pop,i<n:=by
     intro i hi;obtain⟨_,o,ho',_⟩:=mem_ready.1 hi;have:=(Array.getElem?_eq_some_iff.1 ho').1;simp only[Array.size_pop]at this;omega
    have hpair:∀i∈Region.ready .any ops.pop listed.pop,∃on oi xn xi,ops[n]? =some on/\ops[i]? =some oi/\Ak on=some xn/\Ak oi=some xi/\OL xn oi.dst=true/\OL xi on.dst=true/\(match on.dst,oi.dst with
      |some a,some b=>a !=b
      |_,_=>true)=true:=by
     intro i hi;have hin:=hlt i hi;rcases hfull i hin with h|⟨o,o',e1,e2,e3⟩
     .have h5:=hlast listed hcl hn i hin h;have h6:=(mem_ready.1 ((hrd listed hl i hin).2 hi)).1;have h7:i<listed.size:=ae;simp only[Array.getD,h7,dif_pos]at h5 h6;rw[h5]at h6;cases h6
     .unfold Oc at e3;split at e3
      .rename_i x y hx hy;simp only[aN]at e3;exact⟨o,o',x,y,by simpa using e1,by simpa using e2,hx,hy,e3.1,e3.2.1,e3.2.2⟩
      .cases e3
    have hstep:∀i∈Region.ready .any ops.pop listed.pop,∀on oi,ops[n]? =some on->ops[i]? =some oi->∃v u,Bj on a.eval=some v/\Bj oi (a.put on.dst v).eval=some u/\wpAny P .any ops Q fuel ((listed.setIfInBounds n true).setIfInBounds i true) ((a.put on.dst v).put oi.dst u) w:=by
     intro i hi on oi hon hoi;have hin:=hlt i hi;obtain⟨on',oi',xn,xi,p1,p2,p3,p4,p5,p6,p7⟩:=hpair i hi;obtain rfl:on'=on:=by rw[hon]at p1;cases p1;rfl
     obtain rfl:oi'=oi:=by rw[hoi]at p2;cases p2;rfl
     have hio:=(hrd listed hl i hin).2 hi;have h4:=Nj hsz hin (fun o' ho2 j b hj=>by have:=hg i o' ho2 j b hj;omega) (h2 i hi);have h5:=wpOp_mono (K':=wpOp P ops Q n (wpAny P .any ops Q fuel ((listed.setIfInBounds i true).setIfInBounds n true))) (fun a w hh=>by
      refine ih (listed.setIfInBounds i true) a w (by simp[hl]) (hclS listed hl hcl i hio hin) ?_ (by rw[hpopS listed i hl hin];exact hh);rw[mem_ready]at hn⊢;obtain⟨n1,o,n2,n3⟩:=hn;refine⟨by rw[tm ae,ai ae];exact n1,o,n2,fun e he hb=>?_⟩;rw[gH ae];split
      .rfl
      .exact n3 e he hb) h4
     rw[tC hoi p4]at h5;obtain⟨u,hu,h5⟩:=h5;rw[tC hon p3]at h5;obtain⟨v,hv,h5⟩:=h5;rw[M7 p3 p5]at hv;refine⟨v,u,hv,by rw[M7 p4 p6];exact hu, ?_⟩;rw[put_comm p7,Array.setIfInBounds_comm _ _ (show n≠i by omega)];exact h5
    obtain⟨on,oi0,xn,_,hon,hoi0,hxn,_⟩:=hpair i0 (by rw[hr];exact .head _);obtain⟨v,_,hv,_⟩:=hstep i0 (by rw[hr];exact .head _) on oi0 hon hoi0;rw[tC hon hxn];have hup:∀j,j<n->(j∈Region.ready .any ops (listed.setIfInBounds n true)↔j∈Region.ready .any ops.pop listed.pop):=by
     intro j hj;rw[<-hrd listed hl j hj,mem_ready,mem_ready,tm ae,ai ae];refine and_congr_right fun _=>exists_congr fun o=>and_congr_right fun ho'=>forall_congr' fun e=>imp_congr_right fun he=>imp_congr_right fun hb=>?_
     have:=ho.edge j o (by simpa using ho') e he hb;rw[gH ae,ai ae]
    refine⟨v,hv,fun hz=>?_,fun j hj=>?_⟩
    .exfalso;have:=(hup i0 (hlt i0 (by rw[hr];exact .head _))).2 (by rw[hr];exact .head _);rw[hz]at this;cases this
    .have hjn:j<n:=by
      obtain⟨k1,o,ho',_⟩:=mem_ready.1 hj;have h8:=(Array.getElem?_eq_some_iff.1 ho').1;rcases eh j n with h9|h9
      .exact h9
      .obtain rfl:j=n:=ae;rw[tm ae,ak rfl]at k1;cases k1
     have hj':=(hup j hjn).1 hj;obtain⟨_,oj,_,xj,_,hoj,_,hxj,_⟩:=hpair j hj';rw[tC hoj hxj];obtain⟨v',u,hv',hu,h⟩:=hstep j hj' on oj hon hoj;obtain rfl:v'=v:=by rw[hv]at hv';cases hv';rfl
     exact⟨u,hu,h⟩
 intro fuel;induction fuel with
 |zero=>
  intro listed a w hl hn hcl h;obtain⟨h1,h2⟩:=h;refine⟨fun hr=>?_,fun i hi=>?_⟩
  .have:=hend listed hl hn h1;rw[hr]at this;cases this
  .have hin:i=n:=by
    rcases eh i n with h3|h3
    .rw[hrd listed hl i h3,h1]at hi;cases hi
    .obtain⟨_,o,ho',_⟩:=mem_ready.1 hi;have:=(Array.getElem?_eq_some_iff.1 ho').1;omega
   subst hin;exact hrest 0 listed a w hl h1 h2
 |succ fuel ih=>
  intro listed a w hl hn hcl h;obtain⟨h1,h2⟩:=h;refine⟨fun hr=>?_,fun i hi=>?_⟩
  .have hr':Region.ready .any ops.pop listed.pop=[]:=by
    rw[List.eq_nil_iff_forall_not_mem];intro j hj;have hjn:j<n:=by
     obtain⟨_,o,ho',_⟩:=mem_ready.1 hj;have:=(Array.getElem?_eq_some_iff.1 ho').1;simp only[Array.size_pop]at this;omega
    rw[<-hrd listed hl j hjn,hr]at hj;cases hj
   have:=hend listed hl hn hr';rw[hr]at this;cases this
  .rcases eh i n with h3|h3
   .have h4:=h2 i ((hrd listed hl i h3).1 hi);refine Nj hsz h3 (fun o' ho2 j b hj=>by have:=hg i o' ho2 j b hj;omega) (wpOp_mono (fun a w hh=>ih (listed.setIfInBounds i true) a w (by simp[hl]) (by rw[gH ae,ai ae];exact hn) (hclS listed hl hcl i hi h3) (by rw[hpopS listed i hl h3];exact hh)) h4)
   .have hin:i=n:=by
     obtain⟨_,o,ho',_⟩:=mem_ready.1 hi;have:=(Array.getElem?_eq_some_iff.1 ho').1;omega
    subst hin;exact hcomm _ listed a w hl hcl hi ⟨h1,h2⟩
def UO {P:Program}{n i:Nat}(hsz:ops.size=n+1)(hi:i<n)(hg:∀o,ops[i]? =some o->∀j w,o.guard=some (j,w)->j<n){Q:Exit->Act->World->Prop}{K:Act->World->Prop}{a:Act}{w:World}
  (h:wpOp P ops Q i K a w):wpOp P ops.pop (z8 P ops n Q) i K a w:=by
 have hp:∀j,j<n->ops.pop[j]? =ops[j]? :=fun j hj=>by rw[Array.getElem?_pop,ak ae]
 unfold wpOp at h⊢;rw[hp i hi];cases ho:ops[i]? with
 |none=>rw[ho]at h;exact h
 |some o=>
  rw[ho]at h;simp only at h⊢;have hw:Region.wanted o (yielded ops.pop a.tmps)=Region.wanted o (yielded ops a.tmps):=by
   unfold Region.wanted;cases hgd:o.guard with
   |none=>rfl
   |some jw=>obtain⟨j,b⟩:=jw;simp only[yielded,hp j (hg o ho j b hgd)]
  rw[hw];split
  .rename_i hw2;rw[ak hw2]at h;refine h.imp (fun h=>?_) (fun h=>⟨h.1,h.2⟩);unfold Oper.wp at h⊢;generalize (execOp a.eval o).run P w=r at h⊢;cases r with
   |ok nx w'=>cases nx<;>exact h
   |halt x w'=>cases x<;>exact h
  .rename_i hw2;rw[ai hw2]at h;exact h
def Gt {P:Program}{n:Nat}(hsz:ops.size=n+1)(hg:∀(i:Nat)(o:Oper),ops[i]? =some o->∀j w,o.guard=some (j,w)->j<i){Q:Exit->Act->World->Prop}:
  ∀(t k:Nat) (a:Act) (w:World),k+t=n->wpOps P ops Q (List.range' k (t+1)) a w->wpOps P ops.pop (z8 P ops n Q) (List.range' k t) a w
 |0,k,a,w,hk,h=>by
  obtain rfl:k=n:=ae;rw[List.range'_succ,wpOps_cons]at h;exact h
 |t+1,k,a,w,hk,h=>by
  rw[List.range'_succ,wpOps_cons]at h⊢;exact UO hsz ae (fun o ho j b hj=>by have:=hg k o ho j b hj;omega) (wpOp_mono (fun a w h=>Gt hsz hg t (k+1) a w ae h) h)
def Gq (N:Act->World->Prop)(Q:Exit->Act->World->Prop):Exit->Act->World->Prop:=fun e a w=>match e with
 | .normal=>N a w
 |e=>Q e a w
def Oi (P:Program)(ops:Array Oper)(n t:Nat)(Q:Exit->Act->World->Prop):Exit->Act->World->Prop:=Gq (wpOps P ops Q (List.range' n t)) Q
def adZ {P:Program}{i:Nat}{N N':Act->World->Prop}{Q:Exit->Act->World->Prop}{K:Act->World->Prop}{a:Act}{w:World}(h:wpOp P ops (Gq N Q) i K a w):wpOp P ops (Gq N' Q) i K a w:=by
 unfold wpOp at h⊢;split at h
 .exact h
 .rename_i o ho;split at h
  .rename_i hw;rw[ak hw];refine h.imp (fun h=>?_) (fun h=>⟨h.1,h.2⟩);unfold Oper.wp at h⊢;generalize (execOp a.eval o).run P w=r at h⊢;cases r with
   |ok nx w'=>cases nx<;>exact h
   |halt x w'=>cases x<;>exact h
  .rename_i hw;rw[ai hw];exact h
def Ni {P:Program}{N N':Act->World->Prop}{Q:Exit->Act->World->Prop}(hn:∀a w,N a w->N' a w):
  ∀(fuel:Nat) (listed:Array Bool) (a:Act) (w:World),wpAny P .any ops (Gq N Q) fuel listed a w->wpAny P .any ops (Gq N' Q) fuel listed a w
 |0,_,_,_,h=>⟨h.1,hn _ _ h.2⟩
 |fuel+1,_,_,_,h=>⟨fun hr=>hn _ _ (h.1 hr),fun i hi=>adZ (wpOp_mono (fun _ _ h=>Ni hn fuel _ _ _ h) (h.2 i hi))⟩
def Fc {P:Program}:∀(t:Nat){ops:Array Oper}{l:List GI}{n:Nat}{Q:Exit->Act->World->Prop},ops.size=n+t->l.length=n+t->Order ops.toList l bs->(∀q,q<t->∀p,p<n+q->Nt ops.toList bs (n+q) p)->
  (∀(i:Nat) (o:Oper),ops[i]? =some o->∀j w,o.guard=some (j,w)->j<i)->∀(a:Act) (w:World),wpAny P .any (ops.extract 0 n) (Oi P ops n t Q) n (Array.replicate n false) a w->wpAny P .any ops Q (n+t) (Array.replicate (n+t) false) a w
 |0,ops,l,n,Q,hsz,_,_,_,_,a,w,h=>by
  rw[show ops.extract 0 n=ops by rw[show n=ops.size by omega];simp]at h;rw[show Oi P ops n 0 Q=Q by funext e a w;cases e<;>rfl]at h;exact h
 |t+1,ops,l,n,Q,hsz,hll,ho,hfull,hg,a,w,h=>by
  obtain⟨o,ho1⟩:∃o,ops[n+t]? =some o:=⟨ops[n+t],by simp[show n+t<ops.size by omega]⟩
  have hops:ops.toList=ops.pop.toList++[o]:=by
   apply List.ext_getElem?;intro q;rw[Array.toList_pop,List.dropLast_eq_take];rcases Nat.lt_trichotomy q (n+t)with h1|h1|h1
   .rw[List.getElem?_append_left dN,List.getElem?_take,ak dN]
   .subst h1;rw[List.getElem?_append_right dN];simp only[eg,Array.length_toList];rw[show n+t-min (ops.size-1) ops.size=0 by omega];simpa using ho1
   .rw[List.getElem?_eq_none dN,List.getElem?_eq_none dN]
  obtain⟨l',g,rfl⟩:∃l' g,l=l'++[g]:=by
   rcases List.eq_nil_or_concat l with rfl|⟨l',g,rfl⟩
   .simp at hll
   .exact⟨l',g,aG⟩
  have ho':Order ops.pop.toList l' bs:=Order.pre (os:=[o]) (ls:=[g]) (by rw[<-hops];exact ho);have hgp:∀(i:Nat) (o:Oper),ops.pop[i]? =some o->∀j w,o.guard=some (j,w)->j<i:=fun i o hi=>by
   rw[Array.getElem?_pop]at hi;split at hi
   .exact hg i o hi
   .cases hi
  have hno:∀(k p:Nat),¬(Array.replicate k false).getD p false=true:=fun k p=>by
   simp[Array.getElem?_replicate];split<;>simp
  refine VB (n:=n+t) hsz ho (hfull t ae) hg (n+t) _ a w dN (by simp[Array.getElem?_replicate]) (fun j hj=>absurd hj (hno _ j)) ?_;rw[show(Array.replicate (n+(t+1)) false).pop=Array.replicate (n+t) false by
   apply Array.ext
   .simp
   .intro q h5 h6;simp]
  have hbp:∀j,j<n+t->ops.pop.toList[j]? =ops.toList[j]? :=fun j hj=>by rw[Array.getElem?_toList,Array.getElem?_toList,Array.getElem?_pop,ak ae]
  refine Fc t (ops:=ops.pop) (l:=l') dN (by simp at hll;omega) ho' (fun q hq p hp=>(hfull q ae p hp).imp id fun⟨o,o',e1,e2,e3⟩=>⟨o,o',by rw[hbp _ ae];exact e1,by rw[hbp _ ae];exact e2,e3⟩) hgp a w ?_;rw[show ops.pop.extract 0 n=ops.extract 0 n by
   apply Array.ext
   .simp;omega
   .intro q h5 h6;simp]
  rw[show Oi P ops.pop n t (z8 P ops (n+t) Q)=Gq (wpOps P ops.pop (z8 P ops (n+t) Q) (List.range' n t)) Q by funext e a w;cases e<;>rfl];exact Ni (fun a w h=>Gt hsz hg t n a w rfl h) _ _ _ _ h
end
end
end
section
variable [cN]
section
variable {C:CC} {Y:Ctx}
structure Inv (C:CC)(a:Act)(x:X)(env:List aX)(st:St):Prop where
 len:env.length=C.slots.length
 env:∀n t:Nat,C.slots[n]? =some t->(env.getD n .un).ok=true->RD C.ν x (a.tmps.getD t undef) (env.getD n .un).d
 size:a.tmps.size=C.ntmps
 defers:a.defers=[]
 oy:fm C.ν x (look st.m)
 fresh:eW st x
def Inv.mid {a:Act}{x:X}{env:List aX}{st:St}(h:Inv C a x env st)(DD:List (Option Nat))(VS:List aX){D:Nat->Prop}(hD:∀p,¬D p):AU C env DD VS D a x:=
 ⟨fun p t hp=>absurd hp (hD p),fun p t hp=>absurd hp (hD p),fun n t hn _ ho=>h.env n t hn ho,h.size,h.defers⟩
def B8 (vs:List aX):∀(cm:List (Nat×Nat)) (env:List aX),(iy env vs cm).length=env.length
 |[],env=>rfl
 |(s,p)::r,env=>by simp only[iy];rw[B8 vs r];simp
def Ft {α:Type}(l:List α)(i j:Nat)(v d:α)(h:i<l.length):(l.set i v).getD j d=if j=i then v else l.getD j d:=by
 grind
def vA (hnd:C.slots.Nodup)(vs:List aX):∀(ops:List Oper) (p:Nat) (env:List aX) (n t:Nat),C.slots[n]? =some t->env.length=C.slots.length->
  ((∀(j:Nat) (o:Oper),ops[j]? =some o->o.dst≠some t)->(iy env vs (C.iz p ops)).getD n .un=env.getD n .un)/\
  (∀(j:Nat) (o:Oper),ops[j]? =some o->o.dst=some t->(∀(j':Nat) (o':Oper),ops[j']? =some o'->o'.dst=some t->j'=j)->(iy env vs (C.iz p ops)).getD n .un=vs.getD (p+j) .un)
 |[],p,env,n,t,hn,hl=>⟨fun _=>rfl,fun j o h=>e8⟩
 |o::r,p,env,n,t,hn,hl=>by
  have hnl:n<C.slots.length:=(List.getElem?_eq_some_iff.1 hn).1;cases hb:o.dst.bind (A3 C.slots)with
  |none=>
   have e:C.iz p (o::r)=C.iz (p+1) r:=by simp[CC.iz,hb]
   rw[e];obtain⟨a1,a2⟩:=vA hnd vs r (p+1) env n t hn hl;have hne:o.dst≠some t:=fun e=>by rw[e,Option.bind_some,G5 _ _ _ hnd hn]at hb;cases hb
   refine⟨fun h=>a1 fun j o' hj=>h (j+1) o' nE,fun j o' hj hd hu=>?_⟩;cases j with
   |zero=>simp at hj;subst hj;exact absurd hd hne
   |succ j=>
    rw[show p+(j+1)=p+1+j by omega];exact a2 j o' nE hd fun j' o'' hj' hd'=>by have:=hu (j'+1) o'' (by simpa using hj') hd';omega
  |some s=>
   have e:C.iz p (o::r)=(s,p)::C.iz (p+1) r:=by simp[CC.iz,hb]
   rw[e];simp only[iy];obtain⟨t',ht',hs⟩:=Option.bind_eq_some_iff.1 hb;have hsl:=pO _ _ _ hs;have hslen:s<env.length:=by rw[hl];exact(List.getElem?_eq_some_iff.1 hsl).1
   obtain⟨a1,a2⟩:=vA hnd vs r (p+1) (env.set s (vs.getD p .un)) n t hn (by simpa using hl);have hst:s=n↔t'=t:=by
    constructor
    .rintro rfl;rw[hsl]at hn;exact aW hn
    .rintro rfl;have:=G5 _ _ _ hnd hn;rw[hs]at this;exact aW this
   refine⟨fun h=>?_,fun j o' hj hd hu=>?_⟩
   .have hne:t'≠t:=fun e=>h 0 o aG (by rw[ht',e])
    rw[a1 fun j o' hj=>h (j+1) o' nE,Ft _ _ _ _ _ hslen,ai (fun e=>hne (hst.1 e.symm))]
   .cases j with
    |zero=>
     simp at hj;subst hj;have ht:t'=t:=by rw[ht']at hd;exact aW hd
     rw[a1 fun j o' hj hd'=>by have:=hu (j+1) o' nE hd';omega,Ft _ _ _ _ _ hslen,ak (hst.2 ht).symm];simp
    |succ j=>
     rw[show p+(j+1)=p+1+j by omega];exact a2 j o' nE hd fun j' o'' hj' hd'=>by have:=hu (j'+1) o'' (by simpa using hj') hd';omega
def yU (hnd:C.slots.Nodup){ops:Array Oper}{l:List GI}(hsp:Spec C ops.toList l){env VS:List aX}{a:Act}{x:X}{st:St}(hlen:env.length=C.slots.length)(hm:AU C env (ops.toList.map (·.dst)) VS (· <ops.size) a x)
  (hs:fm C.ν x (look st.m)) (hf:eW st x):Inv C a x (iy env VS (C.iz 0 ops.toList)) st:=by
 refine⟨by rw[B8];exact hlen,fun n t hn ho=>?_,hm.size,hm.defers,hs,hf⟩;obtain⟨c1,c2⟩:=vA hnd VS ops.toList 0 env n t hn hlen;by_cases hw:∃j:Nat,(ops.toList.map (·.dst))[j]? =some (some t)
 .obtain⟨j,hj⟩:=hw;have hj':=hj;rw[List.getElem?_map,dd]at hj';obtain⟨o,ho1,ho2⟩:=hj';have e:=c2 j o ho1 ho2 fun j' o' h1 h2=>hsp.distinct hj (by rw[List.getElem?_map,h1,Option.map_some,h2])
  rw[b8]at e;rw[e]at ho⊢;have hjl:j<ops.size:=by simpa using(List.getElem?_eq_some_iff.1 ho1).1
  exact hm.val j t hjl hj ho
 .have hw':∀j:Nat,(ops.toList.map (·.dst))[j]? ≠some (some t):=fun j e=>hw ⟨j,e⟩
  rw[c1 fun j o h1 h2=>hw' j (by rw[List.getElem?_map,h1,Option.map_some,h2])]at ho⊢;exact hm.old n t hn (fun p _=>hw' p) ho
def Wk {a:Act}{x:X}{env:List aX}{st:St}(h:Inv C a x env st){c:Operand}{s:Src}(hc:C.src [] c=some s)(hok:(s.ev env []).ok=true):RD C.ν x (a.eval c) (s.ev env []).d:=
 ((h.mid [] [] (D:=fun _=>False) (fun _ h=>h)).rho (i:=0) (os:=[c]) (fun t p _ hp=>by simp at hp)) c (.head _) s (by simpa using hc) (by simpa using hok)
def Ex.of:Ex->Exit
 | .normal=>.normal
 | .exit id=>.exit id
 | .ret=>.ret
def Post (C:CC)(Q:Ex->List aX->St->Prop)(x0:X):Exit->Act->World->Prop:=fun e a w=>∃e' x' env' st',Ex.of e'=e/\x'.w=w/\Step x0 x'/\Inv C a x' env' st'/\Q e' env' st'
def Inv.weak {a:Act}{x:X}{env env':List aX}{nx:Nat}{m m':List (Nat×bm)}(h:Inv C a x env ⟨nx,m⟩)(hl:leE env env')(hm:Zv m m'):Inv C a x env' ⟨nx,m'⟩:=by
 have hle:∀(e e':List aX),leE e e'->e'.length=e.length/\∀n,e'.getD n .un=e.getD n .un\/e'.getD n .un=.un:=by
  intro e;induction e with
  |nil=>intro e' h;cases e'<;>simp_all[leE]
  |cons b r ih=>
   intro e' h;cases e' with
   |nil=>simp[leE]at h
   |cons b' r'=>
    simp only[leE]at h;obtain⟨i1,i2⟩:=ih r' h.2;refine⟨by simp[i1],fun n=>?_⟩;cases n with
    |zero=>simpa using h.1
    |succ n=>simpa using i2 n
 have hsub:∀(m':List (Nat×bm)),Zv m m'->∀l b,look m' l=some b->look m l=some b:=by
  intro m';induction m' with
  |nil=>intro _ l b h;simp[look]at h
  |cons p r ih=>
   grind [Zv,look]
 obtain⟨l1,l2⟩:=hle env env' hl;refine⟨l1.trans h.len,fun n t hn ho=>?_,h.size,h.defers,h.oy.less fun l=>?_,h.fresh.β,fun l hl'=>?_⟩
 .rcases l2 n with e|e
  .rw[e]at ho⊢;exact h.env n t hn ho
  .rw[e];exact .any _
 .cases hl':look m' l with
  |none=>exact .inr (.inl rfl)
  |some b=>exact .inl (hsub m' hm l b hl').symm
 .cases hl2:look m' l with
  |none=>exact absurd hl2 hl'
  |some b=>exact h.fresh.m l (by show look m l≠none;rw[hsub m' hm l b hl2];simp)
theorem EB.cells {d d':D}(h:EB d d'):d'.cells.length=d.cells.length/\∀j,EB (d.cells.getD j .any) (d'.cells.getD j .any):=by
 cases h with
 |refl=>exact⟨rfl,fun j=>.refl _⟩
 |nil k=>exact⟨rfl,fun j=>by match j with
  |0=>exact .nil k
  |j+1=>exact .refl _⟩
 |agg a b hl h=>exact⟨hl,h⟩
 |sl k a b hl h=>exact⟨rfl,fun j=>by match j with
  |0=>exact .sl k a b hl h
  |j+1=>exact .refl _⟩
def EB.aR {d d':D}(h:EB d d')(hn:d.aR=true):d'.aR=true:=by
 induction h with
 |refl=>exact hn
 |nil k=>rfl
 |agg a b hl h ih=>exact sA fun i _=>ih i (cY hn i)
 |sl k a b hl h ih=>rfl
def RD.wk {ν:List (Nat×Nat)}{x:X}{v:Value}{d d':D}(hv:RD ν x v d)(hw:EB d d'):RD ν x v d':=by
 induction hv generalizing d' with
 |agg cs ds hl h1 h ih=>
  cases hw with
  |refl=>exact .agg cs ds hl h1 h
  |agg _ b hl2 h2=>exact .agg cs b (hl.trans hl2.symm) (fun i hi=>h1 i ae) (fun i hi=>ih i ae (h2 i))
 |sl a b off len cap k es c hlen ha hcap hm hk hn hc h1 h ih=>
  cases hw with
  |refl=>exact .sl a b off len cap k es c hlen ha hcap hm hk hn hc h1 h
  |sl _ _ es' hl2 h2=>
   refine .sl a b off len cap k es' c (hlen.trans hl2.symm) (ha.imp (fun e=>lI (by rw[hl2,e];rfl)) id) hcap hm (fun i hi=>(h2 i).cells.1.trans (hk i hi)) (fun i hi=>(h2 i).aR (hn i hi)) hc h1 (fun i j hi hj=>ih i j hi hj ((h2 i).cells.2 j))
 |aJ=>
  cases hw with
  |refl=>exact .aJ
  |nil k=>exact .sl none 0 0 0 0 k [] (fun _ _=>undef) rfl (.inl rfl) (aP _) (Nat.zero_le _) (fun i hi=>ae) (fun i hi=>ae) (fun i j hi=>ae) (fun i j hi=>ae) (fun i j hi=>ae)
 |any v=>cases hw;exact .any v
 |bool b=>cases hw;exact .bool b
 |int k n=>cases hw;exact .int k n
 |str s h=>cases hw;exact .str s h
 |tup cs ds hl h ih=>cases hw;exact .tup cs ds hl h
 |ref b off k i o at_ es c hI hat hk hn hc h1 h ih=>cases hw;exact .ref b off k i o at_ es c hI hat hk hn hc h1 h
 |ptr l k i o b base tot at_ hβ hat=>cases hw;exact .ptr l k i o b base tot at_ hβ hat
 |own l k i n b base tot cap a hβ ha hcap hm ht=>cases hw;exact .own l k i n b base tot cap a hβ ha hcap hm ht
 |own0 l k i a=>cases hw;exact .own0 l k i a
 |nilp=>cases hw;exact .nilp
 |fn fid n cs ds hν hl h ih=>cases hw;exact .fn fid n cs ds hν hl h
 |dZ fid n fs ds hν hl h ih=>cases hw;exact .dZ fid n fs ds hν hl h
 |bx b at_ ds v hI hc h1 hl h ih=>cases hw;exact .bx b at_ ds v hI hc h1 hl h
 |mpn=>cases hw;exact .mpn
 |nilf=>cases hw;exact .nilf
 |im l b base tot hβ=>cases hw;exact .im l b base tot hβ
 |it l b base tot hβ=>cases hw;exact .it l b base tot hβ
def oX.wk {ν:List (Nat×Nat)}{x:X}{b base tot:Nat}{blk blk':bm}(h:oX ν x b base tot blk)(hw:WkB blk blk'):oX ν x b base tot blk':=by
 match blk,blk',hw with
 | .buf k es,.buf k' es',hw=>
  obtain⟨rfl,hl,h2⟩:=hw;obtain⟨p1,p2,c,T,fr,p3,p4,p5,p6⟩:=h;refine⟨p1,ae,c,T,fr,p3,p4,p5,fun i hi=>⟨(h2 i).cells.1.trans (p6 i ae).1,fun j hj=>⟨((p6 i ae).2 j hj).1,((p6 i ae).2 j hj).2.wk ((h2 i).cells.2 j)⟩⟩⟩
 | .buf k es,.iter s p,hw=>cases hw
 | .buf k es,.row s,hw=>cases hw
 | .buf k es,.bld o n u,hw=>cases hw
 | .buf k es,.mpb s,hw=>cases hw
 | .iter s p,b',hw=>simp only[WkB]at hw;subst hw;exact h
 | .row s,b',hw=>simp only[WkB]at hw;subst hw;exact h
 | .bld o n u,b',hw=>simp only[WkB]at hw;subst hw;exact h
 | .mpb s,b',hw=>simp only[WkB]at hw;subst hw;exact h
def Inv.nz {a:Act}{x:X}{env env':List aX}{nx:Nat}{m m':List (Nat×bm)}(h:Inv C a x env ⟨nx,m⟩)(hl:WkE env env')(hm:Qt m m'):Inv C a x env' ⟨nx,m'⟩:=by
 have hle:∀(e e':List aX),WkE e e'->e'.length=e.length/\∀n,(e'.getD n .un).ok=(e.getD n .un).ok/\EB (e.getD n .un).d (e'.getD n .un).d:=by
  intro e;induction e with
  |nil=>
   intro e' h;cases e' with
   |nil=>exact⟨rfl,fun n=>⟨rfl,.refl _⟩⟩
   |cons _ _=>exact h.elim
  |cons b r ih=>
   intro e' h;cases e' with
   |nil=>exact h.elim
   |cons b' r'=>
    obtain⟨i1,i2⟩:=ih r' h.2;refine⟨by simp[i1],fun n=>?_⟩;cases n with
    |zero=>simpa using h.1
    |succ n=>simpa using i2 n
 have hsub:∀(m':List (Nat×bm)),Qt m m'->∀l b',look m' l=some b'->∃b,look m l=some b/\WkB b b':=by
  intro m';induction m' with
  |nil=>intro _ l b h;simp[look]at h
  |cons p r ih=>
   obtain⟨l0,b0⟩:=p;intro hs l b h;simp only[look]at h;split at h
   .rename_i e;subst e;obtain rfl:=aW h;exact hs.1
   .exact ih hs.2 l b h
 obtain⟨l1,l2⟩:=hle env env' hl;have live:∀l,look m' l≠none->look m l≠none:=fun l hl'=>by
  cases hl2:look m' l with
  |none=>exact absurd hl2 hl'
  |some b=>obtain⟨b0,q1,_⟩:=hsub m' hm l b hl2;rw[q1];simp
 refine⟨l1.trans h.len,fun n t hn ho=>?_,h.size,h.defers,⟨fun l blk b base tot e1 e2=>?_,fun l l' b base tot base' tot' e1 e2 e3 e4=>h.oy.inj l l' b base tot base' tot' (live l e1) (live l' e2) e3 e4,h.oy.imm,h.oy.dZ,h.oy.gd⟩,h.fresh.β,fun l hl'=>h.fresh.m l (live l hl')⟩
 .obtain⟨q1,q2⟩:=l2 n;rw[q1]at ho;exact(h.env n t hn ho).wk q2
 .obtain⟨b0,q1,q2⟩:=hsub m' hm l blk e1;obtain⟨o1,o2⟩:=h.oy.own l b0 b base tot q1 e2;exact⟨o1,o2.wk q2⟩
def Tl (l k:Nat)(es:List D)(d:D):(iA l k es d).cells.length=d.cells.length/\∀j,(iA l k es d).cells.getD j .any=iA l k es (d.cells.getD j .any):=by
 cases d
 case agg cs=>exact⟨by simp[iA,D.cells,tl],fun j=>by simp only[iA,D.cells];exact lX l k es cs j⟩
 case own l' k' i n=>
  grind [iA,D.cells]
 case ptr l' k' i o=>
  grind [iA,D.cells]
 all_goals exact⟨by simp[iA,D.cells],fun j=>by cases j<;>simp[iA,D.cells]⟩
def QZ (l k:Nat)(es:List D):∀e:List aX,(uR l k es e).length=e.length
 |[]=>rfl
 |⟨ok,d⟩::r=>by simp[uR,QZ l k es r]
def K4 (l k:Nat)(es:List D):∀(e:List aX) (i:Nat),(uR l k es e).getD i .un=⟨(e.getD i .un).ok,iA l k es (e.getD i .un).d⟩
 |[],i=>by simp[uR,iA,aX.un]
 |⟨ok,d⟩::r,0=>by simp[uR]
 |⟨ok,d⟩::r,i+1=>by simpa[uR]using K4 l k es r i
def Lr (l k:Nat)(es:List D)(l':Nat):∀m:List (Nat×bm),look (xg l k es m) l'=(look m l').map (A1 l k es)
 |[]=>rfl
 |(a,b)::r=>by
  simp only[xg,look];split
  .rfl
  .exact Lr l k es l' r
def Inv.UQ {a:Act}{x:X}{env:List aX}{nx:Nat}{m:List (Nat×bm)}(h:Inv C a x env ⟨nx,m⟩)(l:Nat):∃x':X,x'.w=x.w/\Step x x'/\Inv C a x' (Abs.UQ l (env,m)).1 ⟨nx,(Abs.UQ l (env,m)).2⟩:=by
 have hsame:∃x':X,x'.w=x.w/\Step x x'/\Inv C a x' env ⟨nx,m⟩:=⟨x,rfl,.refl x,h⟩
 simp only[Abs.UQ];split
 .rename_i k es hlk;cases hn:aL es with
  |false=>exact hsame
  |true=>
   simp only[cond_true]
   let x':X:=⟨x.w,fun b=>x.I b\/∃p,x.β l=some p/\p.1=b,x.β⟩
   have hle:Le x x':=⟨fun _ h=>.inl h,fun _ _=>rfl,fun _ _ h=>h⟩;have ho:∀b base tot,x.β l=some (b,base,tot)->x'.I b/\(∀i,i<es.length->(es.getD i .any).cells.length=k)/\∃c:Nat->Nat->Value,∀i j,i<es.length->j<k->
     x'.w.cell? ⟨b,base+i*k+j,none⟩=some (c i j)/\(c i j).oneCell'=true/\RD C.ν x' (c i j) ((es.getD i .any).cells.getD j .any):=by
    intro b base tot hβ;obtain⟨o1,o2,o3,c,T,fr,o4,o5,o6,o7⟩:=h.oy.own l _ b base tot hlk hβ;refine⟨.inr ⟨_,hβ,rfl⟩,fun i hi=>(o7 i hi).1,fun i j=>c.getD (base+i*k+j) undef,fun i j hi hj=>⟨?_,((o7 i hi).2 j hj).1,((o7 i hi).2 j hj).2.mono hle⟩⟩;exact cell_of_heap o4 Kg
   have hrd:∀{v:Value} {d:D},RD C.ν x v d->RD C.ν x' v (iA l k es d):=fun hv=>hv.fz hle hn ho
   refine⟨x',rfl,⟨rfl,rfl,rfl,aP _,fun _ h=>.inl h,fun _ _=>rfl,fun _ _ h=>h,fun _ _ _=>rfl,fun b hb=>?_,fun _ _ h=>.inl h⟩, ?_⟩
   .rcases hb with hb|⟨p,h1,h2⟩
    .exact .inl hb
    .exact .inr (.inr ⟨l,p,h1,h2⟩)
   .have hlook:∀l',look (xg l k es (cQ m l)) l'=if l'=l then none else(look m l').map (A1 l k es):=fun l'=>by
     rw[Lr,eY];split<;>rfl
    refine⟨by rw[QZ];exact h.len,fun n t hn' hok=>?_,h.size,h.defers,⟨fun l' blk b base tot e1 e2=>?_,fun l1 l2 b base tot base' tot' e1 e2 e3 e4=>?_,fun b hb=>?_,h.oy.dZ,rp hle h.oy.gd⟩,⟨h.fresh.β,fun l' hl'=>?_⟩⟩
    .rw[K4]at hok⊢;exact hrd (h.env n t hn' hok)
    .simp only[hlook]at e1;split at e1
     .cases e1
     .rename_i hne;rw[dd]at e1;obtain⟨blk0,e3,rfl⟩:=e1;obtain⟨o1,o2⟩:=h.oy.own l' blk0 b base tot e3 e2;refine⟨?_, ?_⟩
      .rintro(hb|⟨⟨b',base',tot'⟩,h1,h2⟩)
       .exact o1 hb
       .simp only at h2;subst h2;exact hne (h.oy.inj l' l b' base tot base' tot' (by simp only;rw[e3];simp) (by simp only;rw[hlk];simp) e2 h1)
      .cases blk0 with
       |iter s pos=>exact o2
       |row s=>exact o2
       |bld o n u=>exact o2
       |mpb kvs=>
        obtain⟨p1,es2,cl,p2,p3,p4,p5⟩:=o2;exact⟨p1,es2,cl,p2,p3,p4,fun i hi=>(p5 i hi).mono hle⟩
       |buf k' es'=>
        obtain⟨p1,p2,c,T,fr,p3,p4,p5,p6⟩:=o2;refine⟨p1,by rw[tl];exact p2,c,T,fr,p3,p4,p5,fun i hi=>?_⟩;rw[tl]at hi;obtain⟨q1,q2⟩:=Tl l k es (es'.getD i .any);rw[lX,q1];refine⟨(p6 i hi).1,fun j hj=>⟨((p6 i hi).2 j hj).1, ?_⟩⟩;rw[q2];exact hrd ((p6 i hi).2 j hj).2
    .simp only[hlook]at e1 e2;refine h.oy.inj l1 l2 b base tot base' tot' ?_ ?_ e3 e4
     .intro e;simp[e]at e1
     .intro e;simp[e]at e2
    .rcases hb with hb|⟨⟨b',base',tot'⟩,h1,h2⟩
     .exact h.oy.imm b hb
     .simp only at h2;subst h2;exact h.oy.dZ l _ _ _ h1
    .simp only[hlook]at hl';refine h.fresh.m l' ?_;intro e;simp only at e;simp[e]at hl'
 .exact hsame
theorem jP {lo:Nat}{σ:List (Nat×Nat)}:∀{ds ds':List D},oo lo σ ds=some ds'->ds'.length=ds.length/\∀i,i<ds.length->rN lo σ (ds.getD i .any)=some (ds'.getD i .any)
 |[],ds',h=>by simp[oo]at h;subst h;exact⟨rfl,fun i hi=>by simp at hi⟩
 |d::r,ds',h=>by
  simp only[oo]at h;split at h
  .rename_i d' r' h1 h2;simp only[aD]at h;subst h;obtain⟨a1,a2⟩:=jP h2
   grind
  .cases h
theorem mf {lo:Nat}{σ:List (Nat×Nat)}{l:Nat}{f:Nat->D}{d:D}(h:R0 lo σ l f=some d):∃l',mz lo σ l=some l'/\d=f l':=by
 grind [R0]
def yn {lo c:Nat}:∀{σ:List (Nat×Nat)}{l l':Nat},fX lo c σ=true->mz lo σ l=some l'->l'<c/\(l<lo/\l'=l\/lo<=l'/\(l,l')∈σ)
 |[],l,l',h0,h=>by
  unfold mz at h;simp only[fX,Nat.ble_eq]at h0;cases hb:Nat.blt l lo<;>simp only[hb,cond_true,cond_false,reduceCtorEq,aD]at h;have:l<lo:=by simp[Nat.blt]at hb;omega
  subst h;exact⟨ae,.inl ⟨this,rfl⟩⟩
 |(a,b)::r,l,l',h0,h=>by
  unfold mz at h;simp only[fX,aN,Nat.ble_eq]at h0;obtain⟨p2,p3,p4,p5⟩:=h0;have p3:b<c:=by simp[Nat.blt]at p3;omega
  cases hq:Nat.beq a l<;>simp only[hq,cond_true,cond_false,aD]at h
  .obtain⟨q1,q2⟩:=yn p5 h
   grind
  .have:=Nat.eq_of_beq_eq_true hq;subst this;subst h;exact⟨p3,.inr ⟨p2,.head _⟩⟩
def tc {lo c:Nat}:∀{σ:List (Nat×Nat)}{a b:Nat},fX lo c σ=true->(a,b)∈σ->b<c
 |[],a,b,_,h=>by cases h
 |p::r,a,b,h0,h=>by
  simp only[fX,aN,Nat.blt,Nat.ble_eq]at h0;rcases b9.1 h with rfl|h
  .have:=h0.2.1;simp only at this;omega
  .exact tc h0.2.2.2 h
theorem KD {lo c:Nat}:∀{σ:List (Nat×Nat)}{a a' b b':Nat},fX lo c σ=true->(a,b)∈σ->(a',b')∈σ->(b=b'->a=a')
 |[],a,a',b,b',_,h,_=>by cases h
 |(a0,b0)::r,a,a',b,b',h0,h1,h2=>by
  simp only[fX,aN,List.all_eq_true,cG]at h0;obtain⟨_,_,p4,p5⟩:=h0;intro e;rcases b9.1 h1 with h1|h1<;>rcases b9.1 h2 with h2|h2
  .simp only[di]at h1 h2;omega
  .have:=(p4 _ h2).2;simp only[di]at h1;obtain⟨rfl,rfl⟩:=h1;subst e;simp at this
  .have:=(p4 _ h1).2;simp only[di]at h2;obtain⟨rfl,rfl⟩:=h2;subst e;simp at this
  .exact KD p5 h1 h2 e
def nq:List (Nat×Nat)->Nat->Option Nat
 |[],_=>none
 |(a,b)::r,l=>if b=l then some a else nq r l
def lY:∀{σ:List (Nat×Nat)}{l a:Nat},nq σ l=some a->(a,l)∈σ
 |[],l,a,h=>by cases h
 |(a0,b0)::r,l,a,h=>by
  simp only[nq]at h;split at h
  .grind
  .exact .tail _ (lY h)
def BC {lo c:Nat}:∀{σ:List (Nat×Nat)}{l a:Nat},fX lo c σ=true->(a,l)∈σ->nq σ l=some a
 |[],l,a,_,h=>by cases h
 |(a0,b0)::r,l,a,h0,h=>by
  simp only[nq];split
  .grind [KD]
  .rename_i e;rcases b9.1 h with h|h
   .grind
   .simp only[fX,aN]at h0;exact BC h0.2.2.2 h
def F0 {lo:Nat}{σ:List (Nat×Nat)}{d d':D}(h:rN lo σ d=some d'):d'.cells.length=d.cells.length/\∀j,j<d.cells.length->rN lo σ (d.cells.getD j .any)=some (d'.cells.getD j .any):=by
 cases d
 case agg cs=>
  simp only[rN]at h;split at h
  .rename_i cs' h1;obtain rfl:=aW h;exact jP h1
  .cases h
 case tup cs=>
  simp only[rN]at h;split at h
  .obtain rfl:=aW h;exact⟨rfl,fun j hj=>by simp[D.cells]at hj⟩
  .cases h
 case fn f cs=>
  grind [rN,D.cells]
 case own l k i n=>
  grind [rN,mf,D.cells]
 case ptr l k i n=>
  grind [rN,mf,D.cells]
 case it l=>
  grind [rN,mf,D.cells]
 all_goals
  have h0:=h;simp only[rN,aD]at h;subst h;exact⟨rfl,fun j hj=>by simp[D.cells]at hj<;>(subst hj;simpa[D.cells]using h0)⟩
theorem RD.rn {ν:List (Nat×Nat)}{x x':X}{lo:Nat}{σ:List (Nat×Nat)}(hw:x'.w=x.w)(hI:x'.I=x.I)(hβ:∀l l',mz lo σ l=some l'->x'.β l'=x.β l){v:Value}{d:D}(h:RD ν x v d):∀d',rN lo σ d=some d'->RD ν x' v d':=by
 have hk:∀b,x.I b->x'.w.heap[b]? =x.w.heap[b]? :=fun _ _=>by rw[hw]
 have hI':∀b,x.I b->x'.I b:=fun b h=>by rw[hI];exact h
 induction h with
 |any v=>intro d' h;obtain rfl:=aW h;exact .any v
 |bool b=>intro d' h;obtain rfl:=aW h;exact .bool b
 |int k n=>intro d' h;obtain rfl:=aW h;exact .int k n
 |str s h0=>intro d' h;obtain rfl:=aW h;exact .str s h0
 |aJ=>intro d' h;obtain rfl:=aW h;exact .aJ
 |nilp=>intro d' h;obtain rfl:=aW h;exact .nilp
 |nilf=>intro d' h;obtain rfl:=aW h;exact .nilf
 |sl a b off len cap k' es' c hlen ha hcap hm hk' hn' hc h1 h _=>
  intro d' h2;obtain rfl:=aW h2;exact(RD.sl a b off len cap k' es' c hlen ha hcap hm hk' hn' hc h1 h).aR rfl hI' hk
 |ref b off k' i o at_ es' c hI0 hat hk' hn' hc h1 h _=>
  intro d' h2;obtain rfl:=aW h2;exact(RD.ref b off k' i o at_ es' c hI0 hat hk' hn' hc h1 h).aR rfl hI' hk
 |agg cs ds hl' h1 _ ih=>
  intro d' h;simp only[rN]at h;split at h
  .rename_i cs' h2;obtain rfl:=aW h;obtain⟨a1,a2⟩:=jP h2;exact .agg cs cs' ae (fun i hi=>h1 i ae) fun i hi=>ih i ae _ (a2 i ae)
  .cases h
 |tup cs ds hl' _ ih=>
  intro d' h;simp only[rN]at h;split at h
  .rename_i cs' h2;obtain rfl:=aW h;obtain⟨a1,a2⟩:=jP h2;exact .tup cs cs' ae fun i hi=>ih i ae _ (a2 i ae)
  .cases h
 |fn fid n cs ds hν hl' _ ih=>
  intro d' h;simp only[rN]at h;split at h
  .rename_i cs' h2;obtain rfl:=aW h;obtain⟨a1,a2⟩:=jP h2;exact .fn fid n cs cs' hν ae fun i hi=>ih i ae _ (a2 i ae)
  .cases h
 |dZ fid n cs ds hν hl' _ ih=>
  grind [rN,jP,dZ]
 |bx b at_ ds v hI0 hc h1 hl' _ ih=>
  intro d' h;simp only[rN]at h;split at h
  .rename_i cs' h2;obtain rfl:=aW h;obtain⟨a1,a2⟩:=jP h2;exact .bx b at_ cs' v (hI' _ hI0) (iI (hk _ hI0) hc) h1 ae fun i hi=>ih i ae _ (a2 i ae)
  .cases h
 |mpn=>intro d' h;simp only[rN,oo,aD]at h;subst h;exact .mpn
 |ptr l k i o b base tot at_ hb hat=>
  intro d' h;obtain⟨l',h1,rfl⟩:=mf h;exact .ptr l' k i o b base tot at_ ((hβ _ _ h1).trans hb) hat
 |own l k i n b base tot cap a hb ha hcap hm ht=>
  intro d' h;obtain⟨l',h1,rfl⟩:=mf h;exact .own l' k i n b base tot cap a ((hβ _ _ h1).trans hb) ha hcap hm ht
 |own0 l k i a=>
  intro d' h;obtain⟨l',h1,rfl⟩:=mf h;exact .own0 l' k i a
 |im l b base tot hb=>
  intro d' h;simp only[rN]at h;split at h
  .rename_i cs' h2;obtain rfl:=aW h;obtain⟨a1,a2⟩:=jP h2;have a3:=a2 0 aG;obtain⟨l',h1,h3⟩:=mf (show rN lo σ (.it l)=some (cs'.getD 0 .any)from a3)
   match cs',a1,h3 with
   |[c],_,h3=>
    obtain rfl:c=.it l':=h3;exact .im l' b base tot ((hβ _ _ h1).trans hb)
  .cases h
 |it l b base tot hb=>
  intro d' h;obtain⟨l',h1,rfl⟩:=mf h;exact .it l' b base tot ((hβ _ _ h1).trans hb)
def rQ:∀{ds ds':List D},NC ds ds'->ds'.length=ds.length/\∀i,i<ds.length->wy (ds.getD i .any) (ds'.getD i .any)
 |[],ds',h=>by simp only[NC]at h;subst h;exact⟨rfl,fun i hi=>by simp at hi⟩
 |d::r,ds',h=>by
  simp only[NC]at h;obtain⟨d',r',rfl,h1,h2⟩:=h;obtain⟨a1,a2⟩:=rQ h2
  grind
def Fb {d d':D}(h:wy d d'):d'.cells.length=d.cells.length/\∀j,j<d.cells.length->wy (d.cells.getD j .any) (d'.cells.getD j .any):=by
 cases d
 case agg a=>
  simp only[wy]at h;obtain⟨b,rfl,h⟩:=h;exact rQ h
 case aJ=>
  grind [wy,D.cells]
 all_goals
  have h0:=h;simp only[wy]at h;obtain⟨rfl,hn⟩:=h;refine⟨rfl,fun j hj=>?_⟩;simp[D.cells]at hj;try(subst hj;simpa[D.cells]using h0)
theorem RD.nl {ν:List (Nat×Nat)}{x x':X}(hw:x'.w=x.w)(hI:x'.I=x.I){v:Value}{d:D}(h:RD ν x v d):∀d',wy d d'->RD ν x' v d':=by
 have hk:∀b,x.I b->x'.w.heap[b]? =x.w.heap[b]? :=fun _ _=>by rw[hw]
 have hI':∀b,x.I b->x'.I b:=fun b h=>by rw[hI];exact h
 induction h with
 |aJ=>
  intro d' h2;simp only[wy]at h2;rcases h2 with rfl|⟨l,k,i,rfl⟩
  .exact .aJ
  .exact .own0 l k i _
 |agg cs ds hl' h1 _ ih=>
  intro d' h;simp only[wy]at h;obtain⟨b,rfl,h⟩:=h;obtain⟨a1,a2⟩:=rQ h;exact .agg cs b ae (fun i hi=>h1 i ae) fun i hi=>ih i ae _ (a2 i ae)
 |any v=>intro d' h;simp only[wy]at h;rw[h.1];exact .any v
 |bool b=>intro d' h;simp only[wy]at h;rw[h.1];exact .bool b
 |int k n=>intro d' h;simp only[wy]at h;rw[h.1];exact .int k n
 |str s h0=>intro d' h;simp only[wy]at h;rw[h.1];exact .str s h0
 |tup cs ds hl' h0 _=>intro d' h;simp only[wy]at h;rw[h.1];exact(RD.tup cs ds hl' h0).aR h.2 hI' hk
 |sl a b off len cap k' es' c hlen ha hcap hm hk' hn' hc h1 h0 _=>
  intro d' h2;simp only[wy]at h2;rw[h2.1];exact(RD.sl a b off len cap k' es' c hlen ha hcap hm hk' hn' hc h1 h0).aR h2.2 hI' hk
 |ref b off k' i o at_ es' c hI0 hat hk' hn' hc h1 h0 _=>
  intro d' h2;simp only[wy]at h2;rw[h2.1];exact(RD.ref b off k' i o at_ es' c hI0 hat hk' hn' hc h1 h0).aR h2.2 hI' hk
 |nilp=>intro d' h;simp only[wy]at h;rw[h.1];exact .nilp
 |nilf=>intro d' h;simp only[wy]at h;rw[h.1];exact .nilf
 |fn fid n cs ds hν hl' h0 _=>intro d' h;simp only[wy]at h;rw[h.1];exact(RD.fn fid n cs ds hν hl' h0).aR h.2 hI' hk
 |dZ fid n cs ds hν hl' h0 _=>intro d' h;simp only[wy]at h;rw[h.1];exact(RD.dZ fid n cs ds hν hl' h0).aR h.2 hI' hk
 |bx b at_ ds v hI hc h1 hl' h0 _=>intro d' h;simp only[wy]at h;rw[h.1];exact(RD.bx b at_ ds v hI hc h1 hl' h0).aR h.2 hI' hk
 |mpn=>intro d' h;simp only[wy]at h;rw[h.1];exact .mpn
 |ptr=>intro d' h;simp only[wy]at h;simp[D.aR]at h
 |own=>intro d' h;simp only[wy]at h;simp[D.aR]at h
 |own0=>intro d' h;simp only[wy]at h;simp[D.aR]at h
 |im=>intro d' h;simp only[wy]at h;simp[D.aR,aL]at h
 |it=>intro d' h;simp only[wy]at h;simp[D.aR]at h
def KB {lo:Nat}{σ:List (Nat×Nat)}:∀{e e':List aX},fk lo σ e e'->e'.length=e.length/\∀n,(e'.getD n .un).ok=(e.getD n .un).ok/\RnD lo σ (e.getD n .un).d (e'.getD n .un).d\/e'.getD n .un=.un
 |[],[],_=>⟨rfl,fun n=>.inr aG⟩
 |[],_::_,h=>h.elim
 |_::_,[],h=>h.elim
 |a::r,b::s,h=>by
  simp only[fk]at h;obtain⟨i1,i2⟩:=KB h.2;refine⟨by simp[i1],fun n=>?_⟩;cases n with
  |zero=>simpa using h.1
  |succ n=>simpa using i2 n
def KC {lo c:Nat}{σ:List (Nat×Nat)}{m:List (Nat×bm)}:∀{m':List (Nat×bm)},bo lo c σ m m'->∀l' b',look m' l'=some b'->(∃l b,mz lo σ l=some l'/\look m l=some b/\pB lo σ b b')\/(Nat.ble lo l'=true/\Nat.blt l' c=true/\σ.all (fun p=>!Nat.beq p.2 l')=true/\∃k,b'=.buf k [])
 |[],_,l',b',h=>by simp[look]at h
 |(l0,b0)::r,hh,l',b',h=>by
  simp only[bo]at hh;simp only[look]at h;split at h
  .grind
  .exact KC hh.2 l' b' h
def Fw:∀{σ:List (Nat×Nat)}{l:Nat},σ.all (fun p=>!Nat.beq p.2 l)=true->nq σ l=none
 |[],l,_=>rfl
 |(a,b)::r,l,h=>by
  simp only[List.all_cons,aN,cG]at h;simp only[nq];rw[ai (fun e=>by subst e;simp at h),Fw h.2]
def Inv.ren {a:Act}{x0 x:X}{env env':List aX}{nx:Nat}{m m':List (Nat×bm)}{lo c:Nat}{σ:List (Nat×Nat)}(h:Inv C a x env ⟨nx,m⟩)(hs:Step x0 x)(hlo:∀l,lo<=l->x0.β l=none)(hok:fX lo c σ=true)(he:fk lo σ env env')(hm:bo lo c σ m m'):
  ∃x':X,x'.w=x.w/\Step x0 x'/\Inv C a x' env' ⟨c,m'⟩:=by
 let x':X:=⟨x.w,x.I,fun l'=>if l'<lo then x.β l' else(nq σ l').bind x.β⟩
 have hβ:∀l l',mz lo σ l=some l'->x'.β l'=x.β l:=by
  intro l l' e;obtain⟨p1,p2⟩:=yn hok e;rcases p2 with⟨p2,rfl⟩|⟨p3,p4⟩
  .simp only[x',ak p2]
  .simp only[x',ai (Nat.not_lt.2 p3),BC hok p4,Option.bind_some]
 have hβi:∀l' p,x'.β l'=some p->∃l,x.β l=some p:=by
  intro l' p e;simp only[x']at e;split at e
  .exact⟨l',e⟩
  .obtain⟨l,_,h2⟩:=Option.bind_eq_some_iff.1 e;exact⟨l,h2⟩
 have hrd:∀{v:Value} {d d':D},RD C.ν x v d->RnD lo σ d d'->RD C.ν x' v d':=by
  intro v d d' hv hd;rcases hd with⟨rfl,hn⟩|hd|hd
  .exact hv.aR hn (fun _ h=>h) (fun _ _=>rfl)
  rotate_left
  .exact RD.nl (x:=x) (x':=x') rfl rfl hv _ hd
  .exact RD.rn (x:=x) (x':=x') rfl rfl hβ hv _ hd
 obtain⟨e1,e2⟩:=KB he;have hm1:=KC hm;have hm2:∀l' b' p,look m' l'=some b'->x'.β l'=some p->∃l b,mz lo σ l=some l'/\look m l=some b/\pB lo σ b b':=by
  intro l' b' p h1 h2;rcases hm1 l' b' h1 with h3|⟨q1,q2,q3,q4⟩
  .exact h3
  .have q1:lo<=l':=by simpa using q1
   simp only[x',ai (show ¬l'<lo by omega),Fw q3,Option.bind_none]at h2;cases h2
 refine⟨x',rfl,⟨hs.os,hs.tape,hs.output,hs.size,hs.I,hs.pd,fun l p hp=>?_,hs.old,hs.newI,fun l' p hp=>?_⟩,⟨e1.trans h.len,fun n t hn ho=>?_,h.size,h.defers,⟨fun l' blk b base tot e3 e4=>?_,fun l1 l2 b base tot base' tot' e3 e4 e5 e6=>?_,h.oy.imm,fun l' b base tot e=>?_,cN.le x _ (fun _ h=>h) (fun _ _=>rfl) h.oy.gd⟩,⟨fun l' hl'=>?_,fun l' hl'=>?_⟩⟩⟩
 .have hl:l<lo:=by
   rcases eh l lo with h1|h1
   .exact h1
   .rw[hlo l h1]at hp;cases hp
  simp only[x',ak hl];exact hs.β l p hp
 .obtain⟨l,hl⟩:=hβi l' p hp;rcases hs.newβ l p hl with h1|h1|h1
  .exact .inr (.inr ⟨l,p,h1,rfl⟩)
  .exact .inr (.inl h1)
  .exact .inr (.inr h1)
 .rcases e2 n with⟨q1,q2⟩|q
  .rw[q1]at ho;exact hrd (h.env n t hn ho) q2
  .rw[q];exact .any _
 .obtain⟨l,b0,q1,q2,q3⟩:=hm2 l' blk _ e3 e4;rw[hβ l l' q1]at e4;obtain⟨o1,o2⟩:=h.oy.own l b0 b base tot q2 e4;refine⟨o1, ?_⟩;cases b0 with
  |iter s p=>
   cases blk with
   |iter s' p'=>simp only[pB]at q3;obtain⟨rfl,rfl⟩:=q3;exact o2
   |_=>simp[pB]at q3
  |row s=>
   cases blk with
   |row s'=>simp only[pB]at q3;subst q3;exact o2
   |_=>simp[pB]at q3
  |mpb s=>
   cases blk with
   |mpb s'=>
    simp only[pB]at q3;subst q3;obtain⟨p1,es2,cl,p2,p3,p4,p5⟩:=o2;exact⟨p1,es2,cl,p2,p3,p4,fun i hi=>(p5 i hi).aR (cY p1 i) (fun _ h=>h) (fun _ _=>rfl)⟩
   |_=>simp[pB]at q3
  |bld o n u=>
   cases blk with
   |bld o' n' u'=>
    simp only[pB]at q3;obtain⟨q3,rfl,rfl⟩:=q3;obtain⟨p1,v,p2,p3⟩:=o2;refine⟨p1,v,p2, ?_⟩;cases o with
    |none=>simp only at q3;subst q3;exact p3
    |some l0=>
     obtain⟨l1,q4,rfl⟩:=q3;obtain⟨g,t,p4,p5,p6⟩:=p3;exact⟨g,t,p4,p5,by rw[hβ l0 l1 q4];exact p6⟩
   |_=>simp[pB]at q3
  |buf k es=>
   cases blk with
   |iter s' p'=>simp[pB]at q3
   |row s'=>simp[pB]at q3
   |bld o' n' u'=>simp[pB]at q3
   |mpb s'=>simp[pB]at q3
   |buf k' es'=>
    simp only[pB]at q3;obtain⟨rfl,q3⟩:=q3;obtain⟨p1,p2,cc,T,fr,p3,p4,p5,p6⟩:=o2;rcases q3 with⟨rfl,hn⟩|q3|q3
    .exact⟨p1,p2,cc,T,fr,p3,p4,p5,fun i hi=>⟨(p6 i hi).1,fun j hj=>⟨((p6 i hi).2 j hj).1,((p6 i hi).2 j hj).2.aR (lC (cY hn i) j) (fun _ h=>h) (fun _ _=>rfl)⟩⟩⟩
    rotate_left
    .obtain⟨r1,r2⟩:=rQ q3;refine⟨p1,ae,cc,T,fr,p3,p4,p5,fun i hi=>?_⟩;have hi':i<es.length:=ae;obtain⟨s1,s2⟩:=Fb (r2 i hi');refine⟨s1.trans (p6 i hi').1,fun j hj=>⟨((p6 i hi').2 j hj).1,hrd ((p6 i hi').2 j hj).2 (.inr (.inr (s2 j (by rw[(p6 i hi').1];exact hj))))⟩⟩
    .obtain⟨r1,r2⟩:=jP q3;refine⟨p1,ae,cc,T,fr,p3,p4,p5,fun i hi=>?_⟩;have hi':i<es.length:=ae;obtain⟨s1,s2⟩:=F0 (r2 i hi');refine⟨s1.trans (p6 i hi').1,fun j hj=>⟨((p6 i hi').2 j hj).1,hrd ((p6 i hi').2 j hj).2 (.inr (.inl (s2 j (by rw[(p6 i hi').1];exact hj))))⟩⟩
 .cases f1:look m' l1 with
  |none=>simp only at e3;exact absurd f1 e3
  |some b1=>
   cases f2:look m' l2 with
   |none=>simp only at e4;exact absurd f2 e4
   |some b2=>
    obtain⟨l1',b1',q1,q2,_⟩:=hm2 l1 b1 _ f1 e5;obtain⟨l2',b2',r1,r2,_⟩:=hm2 l2 b2 _ f2 e6;rw[hβ _ _ q1]at e5;rw[hβ _ _ r1]at e6;have:=h.oy.inj l1' l2' b base tot base' tot' (by simp only;rw[q2];simp) (by simp only;rw[r2];simp) e5 e6;subst this;rw[q1]at r1;exact aW r1
 .obtain⟨l,hl⟩:=hβi l' _ e;exact h.oy.dZ l b base tot hl
 .have hc:lo<=c:=by
   clear hβ hrd e2 hm2 he hm;induction σ with
   |nil=>simpa[fX]using hok
   |cons p r ih=>simp only[fX,aN,Nat.ble_eq,Nat.blt]at hok;omega
  have hl'':c<=l':=hl';simp only[x',ai (show ¬l'<lo by omega)];cases hi:nq σ l' with
  |none=>rfl
  |some l=>
   have hmem:=lY hi;have:=tc hok hmem;omega
 .cases f1:look m' l' with
  |none=>simp only at hl';exact absurd f1 hl'
  |some b1=>
   rcases hm1 l' b1 f1 with⟨l,b,q1,_⟩|⟨_,q2,_⟩
   .exact(yn hok q1).1
   .simp only;simp[Nat.blt]at q2;omega
def Inv.ghost {a:Act}{x0:X}{lo:Nat}{env env':List aX}{st st':St}(hlo:∀l,lo<=l->x0.β l=none)(g:aV lo env st env' st'):∀{x:X},Inv C a x env st->Step x0 x->∃x':X,x'.w=x.w/\Step x0 x'/\Inv C a x' env' st':=by
 induction g with
 |refl env st=>intro x h hs;exact⟨x,rfl,hs,h⟩
 |UQ l env st=>
  intro x h hs;obtain⟨x',a1,a2,a3⟩:=Inv.UQ (nx:=st.nx) (m:=st.m) h l;exact⟨x',a1,hs.trans a2,a3⟩
 |ren σ c env env' nx m m' h0 he hm=>intro x h hs;exact h.ren hs hlo h0 he hm
 |wk env env' nx m m' he hm=>intro x h hs;exact⟨x,rfl,hs,h.weak he hm⟩
 |nz env env' nx m m' he hm=>intro x h hs;exact⟨x,rfl,hs,h.nz he hm⟩
 |trans env1 env2 env3 st1 st2 st3 g1 g2 ih1 ih2=>
  grind
def least {p:Nat->Prop}(h:∃n,p n):∃n,p n/\∀m,p m->n<=m:=by
 obtain⟨n,hn⟩:=h;induction n using Nat.strongRecOn with
 |_ n ih=>
  grind
def qw (hΓ:Ok C.P C.ν C.bP Y)(hnd:C.slots.Nodup)(hmix:C.P.follows .mixedOrders=true)(x0:X)(hlo:∀l,Y.lo<=l->x0.β l=none):∀(c:Code) (ac:AC),C.code c=some ac->∀(Q:Ex->List aX->St->Prop) (env:List aX) (st:St) (a:Act) (x:X),
  dp Y ac Q env st->Inv C a x env st->Step x0 x->c.wp C.P (Post C Q x0) a x.w:=by
 intro c;induction c with
 |skip=>
  intro ac hc Q env st a x hw hi hs;simp only[CC.code,aD]at hc;subst hc;obtain⟨env,st,hgh,hw⟩:=hw;obtain⟨x,hxf,hs,hi⟩:=Inv.ghost hlo hgh hi hs;rw[<-hxf];exact wp_skip ⟨.normal,x,env,st,rfl,rfl,hs,hi,hw⟩
 |region id ops draw=>
  intro ac hc Q env st a x hw hi hs;simp only[CC.code]at hc;split at hc
  .rename_i l0 hl;cases draw with
   |false=>
    .simp only[iD,aU,aD]at hc;subst hc;have hsp:=(Spec.start hl).ice C.bP;simp only[dp]at hw;obtain⟨env,st,hgh,hw⟩:=hw;obtain⟨x,hxf,hs,hi⟩:=Inv.ghost hlo hgh hi hs;rw[<-hxf];refine wp_region ?_;rw[List.range_eq_range'];refine R6 hsp hΓ (x0:=x0) (K:=fun vs st'=>Q .normal (iy env vs (C.iz 0 ops.toList)) st') (fun vs' st' a' x' hk _ hm hst hsm hfr=>?_) ops.size 0 [] st x a ae rfl (hi.mid _ _ (fun p h=>ae)) hs hi.oy hi.fresh hw;exact⟨.normal,x',_,st',rfl,rfl,hst,yU hnd hsp hi.len hm hsm hfr,hk⟩
   |true=>
    simp only[aZ]at hc;split at hc
    .rename_i hdo;simp only[aD]at hc;subst hc;have hsp:=(Spec.start hl).mD (pF [] ops.toList);generalize mD (pF [] ops.toList) l0 0 l0=l at hsp hdo hw;simp only[dp]at hw;obtain⟨env,st,hgh,hw⟩:=hw;obtain⟨x,hxf,hs,hi⟩:=Inv.ghost hlo hgh hi hs;rw[<-hxf];have ho:=X4 hdo;have hasm:∀g∈l,∀vs',g.i.Kn true (Src.ev env vs'):=by
      intro g hg vs';refine VE fun s _ hS hok=>?_
      have:=hS rfl;obtain⟨n,rfl⟩:∃n,s=.s n:=by
       cases s<;>simp only[Src.Fx]at this<;>first
        |exact⟨_,rfl⟩
        |cases this
      simp only[Src.ev]at hok⊢;by_cases hn:n<C.slots.length
      .exact⟨_,_,_,hi.env n C.slots[n] (by simp[hn]) hok⟩
      .refine⟨C.ν,x,undef, ?_⟩;have:env.getD n .un=.un:=by simp[List.getD,List.getElem?_eq_none (show env.length<=n by rw[hi.len];omega)]
       rw[this];exact .any _
     rcases ajj hdo with hnM|hlm
     .obtain⟨VS,M,tr,hM0,hk⟩:=AK hnM hasm hi.fresh.m hw;have hg:iw x.w {x.w with drawn:=x.w.drawn+1}:=⟨rfl,rfl,rfl,aP _,fun _ _=>rfl⟩
      let x1:X:=⟨{x.w with drawn:=x.w.drawn+1},x.I,x.β⟩
      have hst1:Step x x1:=Step.grow hg hi.oy.imm;have hs1:fm C.ν x1 (look st.m):=hi.oy.grow hg;refine wp_region_any hmix ?_;refine KU hsp ho hnM hΓ tr (x0:=x0) (fun a' x' hm hst hsm hfr=>?_) ops.size _ a x1 (look st.m) 0 ?_ ?_
      .exact⟨.normal,x',_,_,rfl,rfl,hst,yU hnd hsp hi.len hm hsm hfr,hk⟩
      .have hno:∀p,¬(Array.replicate ops.size false).getD p false=true:=fun p=>by
        simp[Array.getElem?_replicate];split<;>simp
       refine⟨?_,hs.trans hst1,hs1,aG,fun j hj=>absurd hj (hno j),fun l' hl' _=>hi.fresh.β l' hl',fun p g _ _=>⟨fun h=>absurd h (hno p),fun h=>ae⟩,fun l' hl'=>?_,fun q g _ _ _ h=>absurd h (hno q)⟩
       .have:=hi.mid (ops.toList.map (·.dst)) VS (D:=fun p=>(Array.replicate ops.size false).getD p false=true) hno;exact⟨fun p t hp=>absurd hp (hno p),fun p t hp=>absurd hp (hno p),fun n t hn h1 h2=>(this.old n t hn h1 h2).mono hst1.le,this.size,this.defers⟩
       .have hlt:l'<st.nx:=by
         rcases eh l' st.nx with h1|h1
         .exact h1
         .exact absurd (hi.fresh.β l' h1) hl'
        rw[show max 0 (l'+1-st.nx)=0 by omega,hM0]
      .unfold cnt;exact eJ (List.length_filter_le _ _) aG
     .obtain⟨l',suf,rfl,hsuf,hfull,hnM⟩:=Oh hlm;have hlen:l'.length+suf.length=ops.size:=by have:=hsp.len;simpa using this
      have hsz:ops.size=l'.length+suf.length:=hlen.symm;have hpl:(ops.extract 0 l'.length).toList=ops.toList.take l'.length:=aG;have hpz:(ops.extract 0 l'.length).size=l'.length:=dN;have hops:ops.toList=(ops.extract 0 l'.length).toList++ops.toList.drop l'.length:=by rw[hpl,List.take_append_drop]
      generalize ops.extract 0 l'.length=ps at hpl hpz hops;have hpop:∀j,j<l'.length->ps.toList[j]? =ops.toList[j]? :=fun j hj=>by rw[hpl,List.getElem?_take,ak hj]
      have hdd:∀j,j<l'.length->(ps.toList.map (·.dst))[j]? =(ops.toList.map (·.dst))[j]? :=fun j hj=>by
       rw[List.getElem?_map,List.getElem?_map,hpop j hj]
      have htk:∀j,j<=l'.length->(ps.toList.map (·.dst)).take j=(ops.toList.map (·.dst)).take j:=fun j hj=>by
       rw[hpl,List.map_take,List.take_take,Nat.min_eq_left hj]
      have hsp':Spec C ps.toList l':=by
       refine⟨by simpa using hpz.symm,fun i oi hoi=>?_,fun i oi d hoi hd=>?_⟩
       .have hi':i<l'.length:=by have:=(List.getElem?_eq_some_iff.1 hoi).1;simp at this;omega
        rw[hpop i hi']at hoi;obtain⟨g,g1,g2,g3⟩:=hsp.op i oi hoi;rw[List.getElem?_append_left hi']at g1;exact⟨g,g1,by rw[htk i ae];exact g2,by rw[htk i ae];exact g3⟩
       .have hi':i<l'.length:=by have:=(List.getElem?_eq_some_iff.1 hoi).1;simp at this;omega
        rw[hpop i hi']at hoi;obtain⟨h1,h2⟩:=hsp.dst i oi d hoi hd;exact⟨h1,fun p hp=>by rw[hdd p ae];exact h2 p hp⟩
      have ho':Order ps.toList l' (pF [] ops.toList):=Order.pre (os:=ops.toList.drop l'.length) (ls:=suf) (by rw[<-hops];exact ho);have hgd:∀(i:Nat) (o:Oper),ops[i]? =some o->∀j w,o.guard=some (j,w)->j<i:=by
       intro i oi hoi j w hj;obtain⟨g,_,_,g3⟩:=hsp.op i oi (by simpa using hoi);rw[hj]at g3;simp only[CC.guard]at g3;split at g3
       .rename_i t ht;have:=(List.getElem?_eq_some_iff.1 ht).1;simp only[eg]at this;omega
       .cases g3
      have hw':=MA l' [] st rfl hnM hw;obtain⟨VS,M,tr,hM0,hk⟩:=AK hnM (fun g hg=>hasm g (List.mem_append_left _ hg)) hi.fresh.m hw';have hVS:VS.length=l'.length:=tr.len;have hg:iw x.w {x.w with drawn:=x.w.drawn+1}:=⟨rfl,rfl,rfl,aP _,fun _ _=>rfl⟩
      let x1:X:=⟨{x.w with drawn:=x.w.drawn+1},x.I,x.β⟩
      have hst1:Step x x1:=Step.grow hg hi.oy.imm;have hs1:fm C.ν x1 (look st.m):=hi.oy.grow hg;refine wp_region_any hmix ?_;have hno:∀(n p:Nat),¬(Array.replicate n false).getD p false=true:=fun n p=>by
       simp[Array.getElem?_replicate];split<;>simp
      rw[hsz];refine Fc suf.length hsz aG ho hfull hgd a x1.w ?_;rw[show ops.extract 0 l'.length=ps by apply Array.ext';rw[hpl];simp];refine KU hsp' ho' hnM hΓ tr (x0:=x0) (fun a' x' hm hst hsm hfr=>?_) l'.length _ a x1 (look st.m) 0 ?_ ?_
      ·
       show wpOps C.P ops _ (List.range' l'.length suf.length) a' x'.w;have hk2:=Za hsuf hk;simp only at hk2;rw[show st.nx+l'.length-VS.length=st.nx by omega]at hk2;have hmid:AU C env (ops.toList.map (·.dst)) VS (· <l'.length) a' x':=by
        refine⟨fun p t hp h1 h2=>hm.val p t (by rw[hpz];exact hp) (by rw[hdd p hp];exact h1) h2,fun p t hp h1 h2=>hm.und p t (by rw[hpz];exact hp) (by rw[hdd p hp];exact h1) h2,fun n t hn h1 h2=>hm.old n t hn (fun p hp=>?_) h2,hm.size,hm.defers⟩;have hp':p<l'.length:=by have hp:p<ps.size:=hp;omega
        rw[hdd p hp'];exact h1 p hp'
       exact R6 hsp hΓ (x0:=x0) (K:=fun vs st'=>Q .normal (iy env vs (C.iz 0 ops.toList)) st') (fun vs' st' a' x' hk _ hm hst hsm hfr=>⟨.normal,x',_,st',rfl,rfl,hst,yU hnd hsp hi.len hm hsm hfr,hk⟩) suf.length l'.length VS ⟨st.nx,M l'.length⟩ x' a' hlen hVS hmid hst hsm hfr (by rw[List.drop_left];exact hk2)
      .refine⟨?_,hs.trans hst1,hs1,by simp[hpz],fun j hj=>absurd hj (hno _ j),fun l' hl' _=>hi.fresh.β l' hl',fun p g _ _=>⟨fun h=>absurd h (hno _ p),fun h=>ae⟩,fun l' hl'=>?_,fun q g _ _ _ h=>absurd h (hno _ q)⟩
       .have:=hi.mid (ps.toList.map (·.dst)) VS (D:=fun p=>(Array.replicate l'.length false).getD p false=true) (hno _);exact⟨fun p t hp=>absurd hp (hno _ p),fun p t hp=>absurd hp (hno _ p),fun n t hn h1 h2=>(this.old n t hn h1 h2).mono hst1.le,this.size,this.defers⟩
       .have hlt:l'<st.nx:=by
         rcases eh l' st.nx with h1|h1
         .exact h1
         .exact absurd (hi.fresh.β l' h1) hl'
        rw[show max 0 (l'+1-st.nx)=0 by omega,hM0]
      .unfold cnt;refine eJ (List.length_filter_le _ _) (by simp[hpz])
    .cases hc
  .cases hc
 |seq c1 c2 ih1 ih2=>
  intro ac hc Q env st a x hw hi hs;simp only[CC.code]at hc;split at hc
  .rename_i a1 a2 h1 h2;simp only[aD]at hc;subst hc;simp only[dp]at hw;obtain⟨env,st,hgh,hw⟩:=hw;obtain⟨x,hxf,hs,hi⟩:=Inv.ghost hlo hgh hi hs;rw[<-hxf];refine wp_seq (wp_mono (ih1 a1 h1 _ env st a x hw hi hs) fun e a' w' hp=>?_);obtain⟨e',x',env',st',he,hxw,hst,hi',hq⟩:=hp;subst hxw;cases e' with
   |normal=>subst he;exact ih2 a2 h2 Q env' st' a' x' hq hi' hst
   |exit id=>subst he;exact⟨.exit id,x',env',st',rfl,rfl,hst,hi',hq⟩
   |ret=>subst he;exact⟨.ret,x',env',st',rfl,rfl,hst,hi',hq⟩
  .cases hc
 |cond c c1 c2 ih1 ih2=>
  intro ac hc Q env st a x hw hi hs;simp only[CC.code]at hc;split at hc
  .rename_i s a1 a2 h0 h1 h2;simp only[aD]at hc;subst hc;simp only[dp]at hw;obtain⟨env,st,hgh,hw⟩:=hw;obtain⟨x,hxf,hs,hi⟩:=Inv.ghost hlo hgh hi hs;rw[<-hxf];obtain⟨hok,hw⟩:=hw;have hv:=Wk hi h0 hok;cases hd:(s.ev env []).d<;>simp only[hd]at hw;rename_i t;rw[hd]at hv;cases t with
   |true=>exact wp_cond_true hv.jH (ih1 a1 h1 Q env st a x (hw.1 rfl) hi hs)
   |false=>exact wp_cond_false hv.jH (ih2 a2 h2 Q env st a x (hw.2 rfl) hi hs)
  .cases hc
 |block id c1 ih=>
  intro ac hc Q env st a x hw hi hs;simp only[CC.code,dd]at hc;obtain⟨a1,h1,rfl⟩:=hc;simp only[dp]at hw;obtain⟨env,st,hgh,hw⟩:=hw;obtain⟨x,hxf,hs,hi⟩:=Inv.ghost hlo hgh hi hs;rw[<-hxf];refine wp_block (wp_mono (ih a1 h1 _ env st a x hw hi hs) fun e a' w' hp=>?_);obtain⟨e',x',env',st',he,hxw,hst,hi',hq⟩:=hp;subst hxw;cases e' with
  |normal=>subst he;exact⟨.normal,x',env',st',rfl,rfl,hst,hi',hq⟩
  |exit j=>
   subst he;simp only[Ex.of,Exit.inBlock];by_cases hj:j=id
   .rw[ak hj];simp only[hj,aZ]at hq;exact⟨.normal,x',env',st',rfl,rfl,hst,hi',hq⟩
   .rw[ai hj];simp only[hj,aU]at hq;exact⟨.exit j,x',env',st',rfl,rfl,hst,hi',hq⟩
  |ret=>subst he;exact⟨.ret,x',env',st',rfl,rfl,hst,hi',hq⟩
 |loop c1 ih=>
  intro ac hc Q env st a x hw hi hs;simp only[CC.code,dd]at hc;obtain⟨a1,h1,rfl⟩:=hc;simp only[dp]at hw;obtain⟨env,st,hgh,hw⟩:=hw;obtain⟨x,hxf,hs,hi⟩:=Inv.ghost hlo hgh hi hs;rw[<-hxf];obtain⟨I,μ,hI,hround⟩:=hw
  let W:Act->World->Nat->Prop:=fun a w n=>∃env st x,x.w=w/\Step x0 x/\Inv C a x env st/\I env st/\μ env st=n
  open Classical in
  let μ':Act->World->Nat:=fun a w=>if h:∃n,W a w n then Classical.choose (least h)else 0
  refine wp_loop (fun a w=>∃n,W a w n) μ' ⟨_,env,st,x,rfl,hs,hi,hI,rfl⟩ fun a w hIn=>?_
  have hμ:μ' a w=Classical.choose (least hIn):=dif_pos hIn;obtain⟨env2,st2,x2,hxw,hst2,hi2,hI2,hmu⟩:=(Classical.choose_spec (least hIn)).1;subst hxw;refine wp_mono (ih a1 h1 _ env2 st2 a x2 (hround env2 st2 hI2) hi2 hst2) fun e a' w' hp=>?_
  obtain⟨e',x',env',st',he,hxw,hst,hi',hq⟩:=hp;subst hxw;cases e' with
  |normal=>
   subst he;obtain⟨env3,st3,hgh3,hI3,hlt⟩:=hq;obtain⟨x',hxf',hst,hi'⟩:=Inv.ghost hlo hgh3 hi' hst;rw[<-hxf'];have hW:W a' x'.w (μ env3 st3):=⟨env3,st3,x',rfl,hst,hi',hI3,rfl⟩;refine⟨⟨_,hW⟩, ?_⟩;have h2:μ' a' x'.w=Classical.choose (least (⟨_,hW⟩:∃n,W a' x'.w n)):=dif_pos ⟨_,hW⟩;rw[h2,hμ];exact Nat.lt_of_le_of_lt ((Classical.choose_spec (least (⟨_,hW⟩:∃n,W a' x'.w n))).2 _ hW) (by rw[<-hmu];exact hlt)
  |exit id=>subst he;exact⟨.exit id,x',env',st',rfl,rfl,hst,hi',hq⟩
  |ret=>subst he;exact⟨.ret,x',env',st',rfl,rfl,hst,hi',hq⟩
 |exit id=>
  intro ac hc Q env st a x hw hi hs;simp only[CC.code,aD]at hc;subst hc;obtain⟨env,st,hgh,hw⟩:=hw;obtain⟨x,hxf,hs,hi⟩:=Inv.ghost hlo hgh hi hs;rw[<-hxf];exact wp_exit ⟨.exit id,x,env,st,rfl,rfl,hs,hi,hw⟩
 |ret=>
  intro ac hc Q env st a x hw hi hs;simp only[CC.code,aD]at hc;subst hc;obtain⟨env,st,hgh,hw⟩:=hw;obtain⟨x,hxf,hs,hi⟩:=Inv.ghost hlo hgh hi hs;rw[<-hxf];exact wp_ret ⟨.ret,x,env,st,rfl,rfl,hs,hi,hw⟩
 |scope c1 ih=>
  intro ac hc Q env st a x hw hi hs;simp only[CC.code]at hc;refine wp_scope_straight (wp_mono (ih ac hc Q env st a x hw hi hs) fun e a' w' hp=>?_);obtain⟨e',x',env',st',he,hxw,hst,hi',hq⟩:=hp;subst he;cases e'<;>exact⟨_,x',env',st',rfl,hxw,hst,hi',hq⟩
 |label l=>
  intro ac hc Q env st a x hw hi hs;simp only[CC.code,aD]at hc;subst hc;obtain⟨env,st,hgh,hw⟩:=hw;obtain⟨x,hxf,hs,hi⟩:=Inv.ghost hlo hgh hi hs;rw[<-hxf];exact wp_label ⟨.normal,x,env,st,rfl,rfl,hs,hi,hw⟩
 |_=>intro ac hc;simp[CC.code]at hc
end
end
section
variable [cN]
section
variable {C:CC} {Y:Ctx}
def Xl {P:Program}{ν:List (Nat×Nat)}{x:X}{f:Nat->Option bm}{m:List (Nat×bm)}{t:TypeId}{v:Value}{d:D}(hsm:∀fid n,dY ν fid=some n->n<1000000)(hn0:P.cellsOf t≠0)(hu:(P.underlying t).isNone=false)(h1':cg P t=false->P.cellsOf t=1)
  (hv:RD ν x v d) (k2:Lm m (P.cellsOf t) d) (hs:fm ν x f) (hag:∀l,look m l≠none->f l=look m l):
  ∃ad u,v=.pointer (some ad)/\(loadVar t ad).run P x.w=.ok u x.w/\RD ν x u (Ln m (P.cellsOf t) (cg P t) d):=by
 cases d<;>simp only[Lm]at k2
 .rename_i k es i o';cases hv with
  |ref b off _ _ _ at_ _ c hI hat hk hn hcc hone hh=>
   obtain⟨v,r1,r2⟩:=qD (P:=P) (ν:=ν) (x:=x) (e:=es.getD i .any) (k:=k) (n:=P.cellsOf t) (o:=o') (b:=b) (at0:=off+i*k) (ag:=cg P t) (ty:=t) (c:=c i) (hk i k2.1) k2.2
    (fun j hj=>⟨hcc i j k2.1 hj,hone i j k2.1 hj,hh i j k2.1 hj⟩) rfl hn0 hu rfl h1'
   grind [Ln]
 .rename_i l k i o';cases hv with
  |ptr _ _ _ _ b base tot at_ hβ hat=>
   obtain⟨g1,g2,hnI,hk0,ht,c,T,fr,q1,q2,q3,q4⟩:=wQ hs hag k2.1 hβ;have hi:i<(aH m l).length:=ae;obtain⟨v,r1,r2⟩:=qD (P:=P) (ν:=ν) (x:=x) (e:=(aH m l).getD i .any) (k:=k) (n:=P.cellsOf t) (o:=o') (b:=b) (at0:=base+i*k) (ag:=cg P t) (ty:=t) (c:=fun j=>c.getD (base+i*k+j) undef)
    ((q4 i hi).1) k2.2
    (fun j hj=>⟨cell_of_heap q1 Kg,((q4 i hi).2 j hj).1,((q4 i hi).2 j hj).2⟩) rfl hn0 hu rfl h1'
   grind [Ln]
 .rename_i q es;obtain⟨hq2,e1,e2,e3⟩:=k2;cases hv with
  |mpn=>exfalso;omega
  |im=>exfalso;omega
  |fn fid _ cs ds hν=>exact absurd (hsm _ _ hν) ae
  |dZ fid _ cs ds hν=>exact absurd (hsm _ _ hν) ae
  |bx b at_ _ v0 hI hc0 h1 hl hh=>
   obtain⟨v,r1,r2⟩:=qD (P:=P) (ν:=ν) (x:=x) (e:=es.getD 0 .any) (k:=1) (n:=P.cellsOf t) (o:=0) (b:=b) (at0:=at_) (ag:=cg P t) (ty:=t) (c:=fun _=>v0) (by rw[e3];rfl) ae
    (fun j hj=>by obtain rfl:j=0:=ae;exact⟨hc0,h1,by rw[e3];exact hh 0 ae⟩) rfl hn0 hu rfl h1'
   exact⟨_,v,rfl,r1,by simpa only[Ln]using r2⟩
def DM (a:Act):ResultVar->Sem Value
 | .tmp t=>pure (a.tmps.getD t undef)
 | .cell ad t=>do loadVar t (<-asAddr (a.tmps.getD ad undef))
def sN (hsm:∀fid n,dY C.ν fid=some n->n<1000000){a:Act}{x:X}{env:List aX}{st:St}(hi:Inv C a x env st):∀(rs:List ResultVar) (ars:List GA),ym C.P C.slots rs=some ars->om st.m env ars->
  ∃vs,(rs.mapM (DM a)).run C.P x.w=.ok vs x.w/\vs.length=ars.length/\(qQ st.m env ars).length=ars.length/\∀i,i<ars.length->RD C.ν x (vs.getD i undef) ((qQ st.m env ars).getD i .any)
 |[],ars,h,_=>by simp[ym]at h;subst h;exact⟨[],aG,rfl,by simp[qQ],fun i hi=>by simp at hi⟩
 | .tmp t::r,ars,h,ho=>by
  simp only[ym]at h;split at h
  .rename_i s l h1 h2;simp only[aD]at h;subst h;simp only[om]at ho;obtain⟨vs,b1,b2,b4,b3⟩:=sN hsm hi r l h2 ho.2.2;refine⟨a.tmps.getD t undef::vs,by simp[DM,b1],by simp[b2],by simp[qQ,b4],fun i hil=>?_⟩;cases i with
   |zero=>simpa[qQ,H2]using hi.env s t (pO _ _ _ h1) ho.1
   |succ i=>simpa[qQ]using b3 i (by simpa using hil)
  .cases h
 | .cell t ty::r,ars,h,ho=>by
  simp only[ym]at h;split at h
  .rename_i s l h1 h2;split at h
   .cases h
   rename_i hce;simp only[aD]at h;subst h;simp only[om]at ho;obtain⟨vs,b1,b2,b4,b3⟩:=sN hsm hi r l h2 ho.2.2;have hu:(C.P.underlying ty).isNone=false:=by cases hn:(C.P.underlying ty).isNone with|false=>rfl|true=>exact absurd (.inr (.inl hn)) hce
   have h1':cg C.P ty=false->C.P.cellsOf ty=1:=fun e=>by
    rcases Nat.decEq (C.P.cellsOf ty) 1 with h|h
    .exact absurd (.inr (.inr ⟨e,h⟩)) hce
    .exact h
   obtain⟨ad,u,c1,c2,c3⟩:=Xl hsm (fun e=>hce (.inl e)) hu h1' (hi.env s t (pO _ _ _ h1) ho.1) ho.2.1 hi.oy (fun _ _=>rfl);refine⟨u::vs, ?_,by simp[b2],by simp[qQ,b4],fun i hil=>?_⟩
   .have e:(DM a (.cell t ty)).run C.P x.w=.ok u x.w:=by simp only[DM,c1];simp[asAddr,c2]
    simp[List.mapM_cons,e,b1]
   .cases i with
    |zero=>simpa[qQ,H2]using c3
    |succ i=>simpa[qQ]using b3 i (by simpa using hil)
  .cases h
def PD (fn:Func)(a:Act):results fn a.tmps=(do
  let vs <-fn.results.mapM (DM a)
  pure (if h:vs.size=1 then vs[0]else .tuple vs)):=by
 unfold results;congr 1
def oT (hsm:∀fid n,dY C.ν fid=some n->n<1000000){a:Act}{x:X}{env:List aX}{st:St}(hi:Inv C a x env st){fn:Func}{af:aj}(hr:ym C.P C.slots fn.results.toList=some af.res)(ho:om st.m env af.res):
  ∃v,(results fn a.tmps).run C.P x.w=.ok v x.w/\RD C.ν x v (j3 af env st)/\(af.res.length≠1->∃cs,v=.tuple cs):=by
 obtain⟨vs,b1,b2,b4,b3⟩:=sN hsm hi _ _ hr ho;have hrun:(results fn a.tmps).run C.P x.w=.ok (if h:vs.length=1 then vs[0]else .tuple vs.toArray) x.w:=by
  rw[PD,Sem.run_bind,Array.mapM_eq_mapM_toList,Sem.run_map,b1];simp[Result.andThen]
 rcases hres:af.res with _|⟨r,_|⟨r2,rs⟩⟩
 .rw[hres]at b2 b3 b4;have h0:vs.length≠1:=by rw[b2];simp
  rw[dif_neg h0]at hrun;refine⟨_,hrun, ?_,fun _=>⟨_,rfl⟩⟩;simp only[j3,hres];refine .tup _ _ (by simp[b2,b4]) fun i hi=>?_
  have:=b3 i ae
  rwa [<-bT]
 .rw[hres]at b2 b3 b4;have h0:vs.length=1:=by rw[b2];rfl
  rw[dif_pos h0]at hrun;refine⟨_,hrun, ?_,fun h=>absurd rfl h⟩;simp only[j3,hres];have:=b3 0 aG;simp only[qQ,iQ]at this
  rwa [xk _ _ _ ae]at this
 .rw[hres]at b2 b3 b4;have h0:vs.length≠1:=by rw[b2];simp
  rw[dif_neg h0]at hrun;refine⟨_,hrun, ?_,fun _=>⟨_,rfl⟩⟩;simp only[j3,hres];refine .tup _ _ (by simp[b2,b4]) fun i hi=>?_
  have:=b3 i ae
  rwa [<-bT]
def yN:∀(l acc:List Nat),∃r,dedup acc l=acc.reverse++r
 |[],acc=>⟨[],by simp[dedup]⟩
 |a::l,acc=>by
  simp only[dedup];split
  .exact yN l acc
  .obtain⟨r,h⟩:=yN l (a::acc);exact⟨a::r,ju⟩
def rY:∀(l acc:List Nat),acc.Nodup->(dedup acc l).Nodup
 |[],acc,h=>by simp only[dedup];exact List.pairwise_reverse.2 (h.imp fun h=>Ne.symm h)
 |a::l,acc,h=>by
  simp only[dedup];split
  .exact rY l acc h
  .rename_i hn;exact rY l (a::acc) (List.nodup_cons.2 ⟨by simpa using hn,h⟩)
def zS (rest:List Nat):∀(n j:Nat),dedup (List.range j).reverse (List.range' j n++rest)=dedup (List.range (j+n)).reverse rest
 |0,j=>aG
 |n+1,j=>by
  rw[List.range'_succ,sX];simp only[dedup];rw[ai aG];have e:j::(List.range j).reverse=(List.range (j+1)).reverse:=by rw[List.range_succ];simp
  rw[e,zS rest n (j+1)];congr 2;congr 1;omega
def mh (fn:Func):(slotsOf fn).Nodup/\fn.params.size+fn.nfree<=(slotsOf fn).length/\∀n,n<fn.params.size+fn.nfree->(slotsOf fn)[n]? =some n:=by
 refine⟨rY _ _ List.nodup_nil, ?_⟩;have e:slotsOf fn=dedup (List.range (fn.params.size+fn.nfree)).reverse (tv fn.results.toList++Ea (fn.body.getD .skip)):=by
  have:=zS (tv fn.results.toList++Ea (fn.body.getD .skip)) (fn.params.size+fn.nfree) 0;simp only[List.range_zero,List.reverse_nil,b8]at this;unfold slotsOf;rw[fj,List.range_eq_range'];rw[this,List.range_eq_range']
 obtain⟨r,h⟩:=yN (tv fn.results.toList++Ea (fn.body.getD .skip)) (List.range (fn.params.size+fn.nfree)).reverse
 grind
end
end
section
variable [cN]
section
variable {P:Program} {ν:List (Nat×Nat)} {bP:List Nat} {Y:Ctx}
def Ok.at (h:Ok P ν bP Y)(n:Nat):Ok P ν bP (Y.at n):=⟨h.small,h.bld,h.glz,h.pure,h.effF,h.bP⟩
def gG {fn:Func}{af:aj}(hc:compile P ν bP fn=some af):
  ∃body,fn.body=some body/\CC.code {P,ν,bP,slots:=slotsOf fn,ntmps:=fn.ntmps,vm:=PT P fn} body=some af.body/\ym P (slotsOf fn) fn.results.toList=some af.res/\
   fn.params.size+fn.nfree<=fn.ntmps/\af.np=fn.params.size+fn.nfree/\af.ns=(slotsOf fn).length:=by
 grind [compile]
def tz {fn:Func}{af:aj}{x:X}{args:Array Value}{ds:List D}{st:St}(hnp:fn.params.size+fn.nfree<=fn.ntmps)(h1:af.np=fn.params.size+fn.nfree)(h2:af.ns=(slotsOf fn).length)(hl:args.size=ds.length)(hd:ds.length=af.np)
  (hargs:∀i,i<ds.length->RD ν x (args.getD i undef) (ds.getD i .any)) (hs:fm ν x (look st.m)) (hf:eW st x):
  Inv {P,ν,bP,slots:=slotsOf fn,ntmps:=fn.ntmps,vm:=PT P fn} {tmps:=args++Array.replicate (fn.ntmps-args.size) undef,defers:=[]} x (fq af ds) st:=by
 obtain⟨s1,s2,s3⟩:=mh fn;refine⟨?_,fun n t hn ho=>?_,dN,rfl,hs,hf⟩
 .simp only[fq,ct,bj,List.length_replicate];omega
 .simp only at hn;simp only[fq]at ho⊢;rw[cX]at ho⊢;simp only[bj]at ho⊢;by_cases h:n<ds.length
  .grind [nk]
  .rw[ai h];have:(List.replicate (af.ns-af.np) aX.un).getD (n-ds.length) .un=.un:=by
    simp only[List.getD,List.getElem?_replicate];split<;>rfl
   rw[this];exact .any _
def Ex.BI {e:Ex}(h:e.home):Ex.of e=.normal\/Ex.of e=.ret:=by
 cases e with
 |normal=>exact .inl rfl
 |exit id=>exact h.elim
 |ret=>exact .inr rfl
def acg {fid:Nat}{fn:Func}{af:aj}{d:D}(hΓ:Ok P ν bP Y)(hmix:P.follows .mixedOrders=true)(hf:P.funcs[fid]? =some fn)(hc:compile P ν bP fn=some af)
  {x:X} {args:Array Value} {ds:List D} (hl:args.size=ds.length) (hargs:∀i,i<ds.length->RD ν x (args.getD i undef) (ds.getD i .any)) (hnl:aL ds=true) (himm:∀b,x.I b->b<x.w.heap.size) (hgd:cN.gd x)
  (hnp:ds.length=af.np) (hw:dp (Y.at 0) af.body (fun e env st=>e.home/\om st.m env af.res/\MB af env st/\Zd af env st=d) (fq af ds) ⟨0,[]⟩):
  Calls P fid args x.w fun
   | .returned v,w'=>∃x',x'.w=w'/\nK x x'/\RD ν x' v d
   |_,_=>False:=by
 obtain⟨body,c1,c2,c3,c4,c5,c6⟩:=gG hc
 let x0:X:=⟨x.w,x.I,fun _=>none⟩
 have hs0:fm ν x0 (look []):=⟨fun l blk b base tot h=>by simp[look]at h,fun l l' b base tot base' tot' h=>by simp[look]at h,himm,fun l b base tot h=>ca,cN.le x _ (fun _ h=>h) (fun _ _=>rfl) hgd⟩;have hf0:eW ⟨0,[]⟩ x0:=⟨fun l _=>rfl,fun l h=>by simp[look]at h⟩;have hi:=tz (P:=P) (ν:=ν) (bP:=bP) (x:=x0) (st:=⟨0,[]⟩) c4 c5 c6 hl hnp (fun i hi=>(hargs i hi).aR (cY hnl i) (fun _ h=>h) (fun _ _=>rfl)) hs0 hf0;have hcs:=qw (C:={P,ν,bP,slots:=slotsOf fn,ntmps:=fn.ntmps,vm:=PT P fn}) (hΓ.at 0) (mh fn).1 hmix x0 (fun _ _=>rfl) body af.body c2 _ _ _ _ x0 hw hi (.refl _);refine calls_of_wp hf c1 (wp_mono hcs fun e a w' hp=>?_);obtain⟨e',x',env',st',he,hxw,hst,hi',hh,hro,hrpo,hrp⟩:=hp;subst hxw;obtain⟨v,r1,r2,r3⟩:=oT hΓ.small hi' c3 hro;have hI:∀b,(x'.nb (look st'.m)).I b->b<x'.w.heap.size:=by
  intro b hb;rcases hb with h|⟨l,⟨b',base,tot⟩,h1,h2,h3⟩
  .exact hi'.oy.imm b h
  .subst h2;exact hi'.oy.dZ l _ _ _ h1
 have hnew:∀b,(x'.nb (look st'.m)).I b->x.I b\/x.w.heap.size<=b:=by
  intro b hb;rcases hb with h|⟨l,p,h1,h2,h3⟩
  .rcases hst.newI b h with h|h|⟨l,p,h,_⟩
   .exact .inl h
   .exact .inr h
   .cases h
  .subst h2;rcases hst.newβ l p h1 with h|h|⟨l',p',h,_⟩
   .cases h
   .exact .inr h
   .cases h
 have hps:nK x ⟨x'.w,(x'.nb (look st'.m)).I,x.β⟩:=
  ⟨⟨hst.os,hst.tape,hst.output,hst.size,fun b hb=>hst.old b hb fun l p h=>ca⟩,fun b hb=>.inl (hst.I b hb),hnew,hI,rfl⟩
 have hrd:RD ν ⟨x'.w,(x'.nb (look st'.m)).I,x.β⟩ v d:=by
  rw[<-hrp];have key:∀(v:Value) (d:D),RD ν (x'.nb (look st'.m)) v d->d.aR=true->RD ν ⟨x'.w,(x'.nb (look st'.m)).I,x.β⟩ v d:=fun v d h hn=>h.aR hn (fun _ h=>h) (fun _ _=>rfl)
  unfold j3 at r2;unfold MB at hrpo;unfold Zd;rcases hres:af.res with _|⟨r,_|⟨r2',rs⟩⟩
  .simp only[hres]at r2 hrpo⊢;generalize hvs:qQ st'.m env' []=vs at r2 hrpo⊢;cases r2 with
   |tup cs _ hl' hh'=>
    obtain⟨q1,q2,q3⟩:=j1 hi'.oy (fun _ _=>rfl) af.rsh vs (fun j=>cs.getD j undef) hh' hrpo;exact .tup cs _ (by rw[q1,hl']) fun i hi=>key _ _ (q3 i ae) (cY q2 i)
  .simp only[hres]at r2 hrpo⊢;obtain⟨q1,q2⟩:=vV hi'.oy (fun _ _=>rfl) _ _ _ r2 hrpo;exact key _ _ q1 q2
  .simp only[hres]at r2 hrpo⊢;generalize hvs:qQ st'.m env' (r::r2'::rs)=vs at r2 hrpo⊢;cases r2 with
   |tup cs _ hl' hh'=>
    obtain⟨q1,q2,q3⟩:=j1 hi'.oy (fun _ _=>rfl) af.rsh vs (fun j=>cs.getD j undef) hh' hrpo;exact .tup cs _ (by rw[q1,hl']) fun i hi=>key _ _ (q3 i ae) (cY q2 i)
 rcases Ex.BI hh with h|h<;>rw[h]at he<;>subst he<;>exact⟨hi'.defers,v,r1,⟨x'.w,(x'.nb (look st'.m)).I,x.β⟩,rfl,hps,hrd⟩
def aih {fid:Nat}{fn:Func}{af:aj}(hΓ:Ok P ν bP Y)(hmix:P.follows .mixedOrders=true)(hf:P.funcs[fid]? =some fn)(hc:compile P ν bP fn=some af)
  {x:X} {args:Array Value} {ds:List D} {st:St} {K:D->St->Prop} (hl:args.size=ds.length) (hargs:∀i,i<ds.length->RD ν x (args.getD i undef) (ds.getD i .any)) (hs:fm ν x (look st.m)) (hfr:eW st x)
  (hw:trOf Y af ds st K):
  Calls P fid args x.w fun
   | .returned v,w'=>∃x',x'.w=w'/\∃d st',K d st'/\Step x x'/\RD ν x' v d/\fm ν x' (look st'.m)/\eW st' x'
   |_,_=>False:=by
 obtain⟨body,c1,c2,c3,c4,c5,c6⟩:=gG hc;obtain⟨hnp,hw⟩:=hw;have hi:=tz (P:=P) (ν:=ν) (bP:=bP) (x:=x) (st:=st) c4 c5 c6 hl hnp hargs hs hfr;have hcs:=qw (C:={P,ν,bP,slots:=slotsOf fn,ntmps:=fn.ntmps,vm:=PT P fn}) (hΓ.at st.nx) (mh fn).1 hmix x (fun l h=>hfr.β l h) body af.body c2 _ _ _ _ x hw hi (.refl _);refine calls_of_wp hf c1 (wp_mono hcs fun e a w' hp=>?_);obtain⟨e',x',env',st',he,hxw,hst,hi',hh,hro,hk⟩:=hp;subst hxw;obtain⟨v,r1,r2,r3⟩:=oT hΓ.small hi' c3 hro;rcases Ex.BI hh with h|h<;>rw[h]at he<;>subst he<;>exact⟨hi'.defers,v,r1,x',rfl,_,st',hk,hst,r2,hi'.oy,hi'.fresh⟩
def ace {fid:Nat}{fn:Func}{af:aj}{vd sd:D}(hΓ:Ok P ν bP Y)(hmix:P.follows .mixedOrders=true)(hf:P.funcs[fid]? =some fn)(hc:compile P ν bP fn=some af)
  {x:X} {f:Nat->Option bm} {args:Array Value} {l k:Nat} {d:D} {ds:List D} (hl:args.size=ds.length+1) (h0:RD ν x (args.getD 0 undef) (.ptr l k 0 0)) (hargs:∀i,i<ds.length->RD ν x (args.getD (i+1) undef) (ds.getD i .any))
  (hs:fm ν x f) (hfl:f l=some (.buf k [d])) (hd:d.aR=true) (hnl:aL ds=true) (hnp:ds.length+1=af.np)
  (hw:dp (Y.at 1) af.body (fun e env st=>e.home/\om st.m env af.res/\(j3 af env st).aR=true/\j3 af env st=vd/\look st.m 0=some (.buf k [sd])/\sd.aR=true) (fq af (.ptr 0 k 0 0::ds)) ⟨1,[(0,.buf k [d])]⟩):
  Calls P fid args x.w fun
   | .returned v,w'=>∃x',x'.w=w'/\Step x x'/\RD ν x' v vd/\fm ν x' (fun l'=>if l'=l then some (.buf k [sd])else f l')/\x'.β=x.β
   |_,_=>False:=by
 obtain⟨body,c1,c2,c3,c4,c5,c6⟩:=gG hc;obtain⟨b,base,tot,hβ,ha0⟩:∃b base tot,x.β l=some (b,base,tot)/\args.getD 0 undef=.pointer (some ⟨b,base,none⟩):=by
  generalize args.getD 0 undef=v0 at h0;cases h0 with
  |ptr _ _ _ _ b base tot at_ hβ hat=>exact⟨b,base,tot,hβ,by simp[hat]⟩
 let x1:X:=⟨x.w,x.I,fun l'=>if l'=0 then x.β l else none⟩
 have hx1:∀l' p,x1.β l'=some p->l'=0/\p=(b,base,tot):=by
  intro l' p h;simp only[x1]at h;split at h
  .rename_i e;rw[hβ]at h;exact⟨e,(aW h).symm⟩
  .cases h
 have hx1':x1.β 0=some (b,base,tot):=by simp[x1,hβ]
 have key1:∀(v:Value) (d:D),RD ν x v d->d.aR=true->RD ν x1 v d:=fun v d h hn=>h.aR hn (fun _ h=>h) (fun _ _=>rfl)
 have hbR:=hs.own l _ b base tot hfl hβ;have hs1:fm ν x1 (look [(0,.buf k [d])]):=by
  refine⟨fun l' blk b' base' tot' e1 e2=>?_,fun l1 l2 b' base' tot' base'' tot'' e1 e2 e3 e4=>(hx1 _ _ e3).1.trans (hx1 _ _ e4).1.symm,hs.imm,fun l' b' base' tot' e=>?_,cN.le x _ (fun _ h=>h) (fun _ _=>rfl) hs.gd⟩
  .obtain⟨rfl,e3⟩:=hx1 _ _ e2;simp only[di]at e3;obtain⟨rfl,rfl,rfl⟩:=e3;simp only[look,aZ,aD]at e1;subst e1;refine⟨hbR.1, ?_⟩;obtain⟨p1,p2,c,T,fr,p3,p4,p5,p6⟩:=hbR.2;refine⟨p1,p2,c,T,fr,p3,p4,p5,fun i hi=>⟨(p6 i hi).1,fun j hj=>⟨((p6 i hi).2 j hj).1,key1 _ _ ((p6 i hi).2 j hj).2 ?_⟩⟩⟩;have:i=0:=by simpa using hi
   subst this;exact lC (by simpa using hd) j
  .obtain⟨_,e3⟩:=hx1 _ _ e;simp only[di]at e3;rw[e3.1];exact hs.dZ l b base tot hβ
 have hf1:eW ⟨1,[(0,.buf k [d])]⟩ x1:=⟨fun l' hl'=>by
   cases h:x1.β l' with
   |none=>rfl
   |some p=>have:=(hx1 _ _ h).1;simp only at hl';omega,fun l' hl'=>by
   simp only[look]at hl';split at hl'
   .rename_i e;simp only;omega
   .exact absurd rfl hl'⟩
 have hi:=tz (P:=P) (ν:=ν) (bP:=bP) (x:=x1) (ds:=.ptr 0 k 0 0::ds) (st:=⟨1,[(0,.buf k [d])]⟩) c4 c5 c6 (args:=args) (by simpa using hl) (by simpa using hnp) (fun i hi=>by
  cases i with
  |zero=>simp only[iQ];rw[ha0];exact .ptr 0 k 0 0 b base tot base hx1' aG
  |succ i=>simp only[List.getD_cons_succ];exact key1 _ _ (hargs i lR) (cY hnl i)) hs1 hf1
 have hcs:=qw (C:={P,ν,bP,slots:=slotsOf fn,ntmps:=fn.ntmps,vm:=PT P fn}) (hΓ.at 1) (mh fn).1 hmix x1 (fun l h=>hf1.β l h) body af.body c2 _ _ _ _ x1 hw hi (.refl _);refine calls_of_wp hf c1 (wp_mono hcs fun e a w' hp=>?_);obtain⟨e',x',env',st',he,hxw,hst,hi',hh,hro,hrn,hrv,hlk,hsn⟩:=hp;subst hxw;obtain⟨v,r1,r2,r3⟩:=oT hΓ.small hi' c3 hro
 let x2:X:=⟨x'.w,x'.I,x.β⟩
 have key2:∀(v:Value) (d:D),RD ν x' v d->d.aR=true->RD ν x2 v d:=fun v d h hn=>h.aR hn (fun _ h=>h) (fun _ _=>rfl)
 have hb':x'.β 0=some (b,base,tot):=hst.β _ _ hx1';have hnewI:∀b',x'.I b'->x.I b'\/x.w.heap.size<=b'\/b'=b:=by
  intro b' h;rcases hst.newI b' h with h|h|⟨l',p,h1,h2⟩
  .exact .inl h
  .exact .inr (.inl h)
  .right;right;rw[<-h2,(hx1 _ _ h1).2]
 have hstep:Step x x2:=by
  refine⟨hst.os,hst.tape,hst.output,hst.size,hst.I,hst.pd,fun _ _ h=>h,fun b' hb' hn=>hst.old b' hb' fun l' p h e=>?_,fun b' h=>?_,fun _ _ h=>.inl h⟩
  .have:=hn l _ hβ;rw[(hx1 _ _ h).2]at e;exact this e
  .rcases hnewI b' h with h|h|h
   .exact .inl h
   .exact .inr (.inl h)
   .exact .inr (.inr ⟨l,_,hβ,h.symm⟩)
 have hsim:fm ν x2 (fun l'=>if l'=l then some (.buf k [sd])else f l'):=by
  have hbb:=hi'.oy.own 0 _ b base tot hlk hb';refine⟨fun l' blk b' base' tot' e1 e2=>?_,fun l1 l2 b' base' tot' base'' tot'' e1 e2 e3 e4=>?_,hi'.oy.imm,fun l' b' base' tot' e=>jj (hs.dZ l' b' base' tot' e) hst.size,cN.le x' _ (fun _ h=>h) (fun _ _=>rfl) hi'.oy.gd⟩
  .by_cases hll:l'=l
   .subst hll;simp only[aZ,aD]at e1;subst e1;have e2':x.β l'=some (b',base',tot'):=e2;rw[hβ]at e2';simp only[aD,di]at e2';obtain⟨rfl,rfl,rfl⟩:=e2';refine⟨hbb.1, ?_⟩;obtain⟨p1,p2,c,T,fr,p3,p4,p5,p6⟩:=hbb.2;refine⟨p1,p2,c,T,fr,p3,p4,p5,fun i hi=>⟨(p6 i hi).1,fun j hj=>⟨((p6 i hi).2 j hj).1,key2 _ _ ((p6 i hi).2 j hj).2 ?_⟩⟩⟩;have:i=0:=by simpa using hi
    subst this;exact lC (by simpa using hsn) j
   .simp only[ai hll]at e1;have e2':x.β l'=some (b',base',tot'):=e2;obtain⟨q1,q2⟩:=hs.own l' blk b' base' tot' e1 e2';have hne:b'≠b:=fun e=>by subst e;exact hll (hs.inj l' l b' base' tot' base tot (by rw[e1];simp) (by rw[hfl];simp) e2' hβ)
    have hlt:=hs.dZ l' b' base' tot' e2';refine⟨fun h=>?_,q2.mono hstep.le (hst.old b' hlt fun l'' p h e=>hne (by rw[<-e,(hx1 _ _ h).2]))⟩;rcases hnewI b' h with h|h|h
    .exact q1 h
    .omega
    .exact hne h
  .have hne:∀l',(if l'=l then some (bm.buf k [sd])else f l')≠none->f l'≠none:=fun l' h=>by
    by_cases e:l'=l
    .rw[e,hfl];simp
    .rwa [ai e]at h
   exact hs.inj l1 l2 b' base' tot' base'' tot'' (hne _ e1) (hne _ e2) e3 e4
 rw[hrv]at r2;rcases Ex.BI hh with h|h<;>rw[h]at he<;>subst he<;>exact⟨hi'.defers,v,r1,x2,rfl,hstep,key2 _ _ r2 (by rw[<-hrv];exact hrn),hsim,rfl⟩
structure Rank where
 key:Nat->Nat
 mu:Nat->List D->Nat
 muE:Nat->List D->St->Nat
def Ctx.under (Y:Ctx)(R:Rank)(k u:Nat):Ctx where
 pre n ds:=(R.key n<k\/R.key n=k/\R.mu n ds<u)/\Y.pre n ds
 val:=Y.val
 tr n ds st K:=(R.key n<k\/R.key n=k/\R.muE n ds st<u)/\Y.tr n ds st K
 fp n d ds:=(R.key n<k\/R.key n=k/\R.mu n (d::ds)<u)/\Y.fp n d ds
 fv:=Y.fv
 fs:=Y.fs
 lo:=Y.lo
def ok_of (R:Rank)(hsm:∀fid n,dY ν fid=some n->n<1000000)(hB:∀t,bP.contains (1000000000+t)=true->t=cN.tB)(hG:∀g,bP.contains (500000000+g)=true/\g<400000000->cN.gz g)
  (hp:∀fid n,dY ν fid=some n->∀ds,Y.pre n ds->Ok P ν bP (Y.under R (R.key n) (R.mu n ds))->∀(x:X) (args:Array Value),args.size=ds.length->(∀i,i<ds.length->RD ν x (args.getD i undef) (ds.getD i .any))->aL ds=true->
    (∀b,x.I b->b<x.w.heap.size)->cN.gd x->jG P x (fun v x'=>nK x x'/\RD ν x' v (Y.val n ds)) ((callFunc fid args).run P x.w))
  (hf:∀fid n,dY ν fid=some n->bP.contains (2*n+1)=true->∀(d:D) (ds:List D),Y.fp n d ds->Ok P ν bP (Y.under R (R.key n) (R.mu n (d::ds)))->∀(x:X) (f:Nat->Option bm) (args:Array Value) (l k:Nat),args.size=ds.length+1->
    RD ν x (args.getD 0 undef) (.ptr l k 0 0)->(∀i,i<ds.length->RD ν x (args.getD (i+1) undef) (ds.getD i .any))->fm ν x f->f l=some (.buf k [d])->d.aR=true->aL ds=true->
    jG P x (fun v x'=>Step x x'/\RD ν x' v (Y.fv n d ds)/\fm ν x' (fun l'=>if l'=l then some (.buf k [Y.fs n d ds])else f l')/\x'.β=x.β) ((callFunc fid args).run P x.w))
  (he:∀fid n,dY ν fid=some n->∀(ds:List D) (st:St) (K:D->St->Prop),Y.tr n ds st K->Ok P ν bP (Y.under R (R.key n) (R.muE n ds st))->∀(x:X) (args:Array Value),args.size=ds.length->(∀i,i<ds.length->RD ν x (args.getD i undef) (ds.getD i .any))->
    fm ν x (look st.m)->eW st x->jG P x (fun v x'=>∃d st',K d st'/\Step x x'/\RD ν x' v d/\fm ν x' (look st'.m)/\eW st' x') ((callFunc fid args).run P x.w)):Ok P ν bP Y:=by
 have key:∀k u,Ok P ν bP (Y.under R k u):=by
  intro k;induction k using Nat.strongRecOn with
  |_ k ihk=>
   intro u;induction u using Nat.strongRecOn with
   |_ u ihu=>
    refine⟨hsm,hB,hG,fun fid n hn x args ds hl hargs hnl himm hgd hpre=>?_,fun fid n hn hef x f args l kk d ds hl h0 hargs hs hfl hd hnl hpre=>?_,fun fid n hn x args ds st K hl hargs hs hf' htr=>?_⟩
    .obtain⟨hlt,hpre⟩:=hpre;refine hp fid n hn ds hpre ?_ x args hl hargs hnl himm hgd;rcases hlt with h|⟨h1,h2⟩
     .exact ihk _ h _
     .rw[h1];exact ihu _ h2
    .obtain⟨hlt,hpre⟩:=hpre;refine hf fid n hn hef d ds hpre ?_ x f args l kk hl h0 hargs hs hfl hd hnl;rcases hlt with h|⟨h1,h2⟩
     .exact ihk _ h _
     .rw[h1];exact ihu _ h2
    .obtain⟨hlt,htr⟩:=htr;refine he fid n hn ds st K htr ?_ x args hl hargs hs hf';rcases hlt with h|⟨h1,h2⟩
     .exact ihk _ h _
     .rw[h1];exact ihu _ h2
 refine⟨hsm,hB,hG,fun fid n hn x args ds hl hargs hnl himm hgd hpre=>?_,fun fid n hn hef x f args l kk d ds hl h0 hargs hs hfl hd hnl hpre=>?_,fun fid n hn x args ds st K hl hargs hs hf' htr=>?_⟩
 .exact hp fid n hn ds hpre (key _ _) x args hl hargs hnl himm hgd
 .exact hf fid n hn hef d ds hpre (key _ _) x f args l kk hl h0 hargs hs hfl hd hnl
 .exact he fid n hn ds st K htr (key _ _) x args hl hargs hs hf'
def gZ {fid:Nat}{fn:Func}(hf:P.funcs[fid]? =some fn)(hn:(fn.name== "runtime.NumGoroutine")=false)(hb:fn.body.isSome=true)(args:Array Value)(w:World):(callFunc fid args).run P w=.ok (.enter fid args) w:=by
 have h1:fn.name≠ "runtime.NumGoroutine" :=by simpa using hn
 have h2:fn.body≠none:=by intro h;rw[h]at hb;cases hb
 simp[callFunc,hf,h1,h2]
end
end
def bA {p:Prop}(h:p:=by first|exact fun _=>rfl|exact fun h=>h|(intro h;simp_all)):p:=h
def cE {p:Prop}(h:p:=by first|exact rfl|exact⟨_,_,rfl,rfl⟩):p:=h
def sV {p:Prop}(h:p:=by first|exact fun _=>rfl|(intro h;omega)|(intro h;simp at h;omega)):p:=h
def uJ {p:Prop}(h:p:=by intro h;repeat' first|exact trivial|exact rfl|exact h|refine And.intro ?_ ?_|decide):p:=h
def zB {p:Prop}(h:p:=by simp only[bE,b7,Nat.reduceAdd];exact rfl):p:=h
def rL {p:Prop}(h:p:=by intro h;first|omega|(simp at h;omega)):p:=h
def Iq {p:Prop}(h:p:=by intro h;first|(constructor<;>omega)|(simp at h;constructor<;>omega)):p:=h
section
section
variable {Y:Ctx} {Q Q':Ex->List aX->St->Prop} {env:List aX} {st:St}
def Ctx.bR (Y:Ctx):Prop:=∀f ds st (K K':D->St->Prop),(∀d st,K d st->K' d st)->Y.tr f ds st K->Y.tr f ds st K'
def iJ {draw:Bool}{K K':List aX->St->Prop}(h:∀vs st,K vs st->K' vs st)(htr:Y.bR):∀(l:List GI) (env vs:List aX) (st:St),eM Y draw l env vs st K->eM Y draw l env vs st K'
 |[],env,vs,st,hh=>h _ _ hh
 |⟨i,g⟩::r,env,vs,st,hh=>by
  cases hcm:i.cO with
  |true=>
   cases i<;>simp only[ax.cO]at hcm<;>try(cases hcm;done)
   .exact⟨hh.1,fun hf=>⟨(hh.2.1 hf).1,htr _ _ _ _ _ (fun d st' ⟨h1,h2⟩=>⟨h1,iJ h htr r _ _ _ h2⟩) (hh.2.1 hf).2⟩,fun hf=>iJ h htr r _ _ _ (hh.2.2 hf)⟩
   .rename_i fv args;simp only[eM]at hh⊢;refine⟨hh.1,fun hf=>⟨(hh.2.1 hf).1,(hh.2.1 hf).2.1, ?_⟩,fun hf=>iJ h htr r _ _ _ (hh.2.2 hf)⟩;have h3:=(hh.2.1 hf).2.2;cases hd:(Src.ev env vs fv).d<;>simp only[hd]at h3⊢;exact⟨h3.1,htr _ _ _ _ _ (fun d st' ⟨h1,h2⟩=>⟨h1,iJ h htr r _ _ _ h2⟩) h3.2⟩
   .exact⟨hh.1,fun hf=>⟨(hh.2.1 hf).1,(hh.2.1 hf).2.1,fun b hb=>iJ h htr r _ _ _ ((hh.2.1 hf).2.2 b hb)⟩,fun hf=>iJ h htr r _ _ _ (hh.2.2 hf)⟩
  |false=>
   cases hf:i.k9 draw g with
   |true=>
    rw[zo hcm hf]at hh⊢;exact⟨hh.1,fun e=>⟨(hh.2.1 e).1,iJ h htr r _ _ _ (hh.2.1 e).2⟩,fun e=>iJ h htr r _ _ _ (hh.2.2 e)⟩
   |false=>
    rw[nH hcm hf]at hh⊢;exact⟨hh.1,hh.2.1,fun ha=>(hh.2.2 ha).imp fun _ h2=>⟨h2.1,iJ h htr r _ _ _ h2.2⟩⟩
def Gh.mono {lo:Nat}{p q:List aX->St->Prop}(h:∀env st,p env st->q env st):Gh lo p env st->Gh lo q env st
 |⟨e,s,h1,h2⟩=>⟨e,s,h1,h _ _ h2⟩
def Gh.intro {lo:Nat}{p:List aX->St->Prop}(h:p env st):Gh lo p env st:=⟨env,st,.refl _ _,h⟩
def ij (htr:Y.bR):∀(a:AC) (Q Q':Ex->List aX->St->Prop) (env:List aX) (st:St),(∀e env st,Q e env st->Q' e env st)->dp Y a Q env st->dp Y a Q' env st
 | .reg draw ins cm,Q,Q',env,st,h,hh=>Gh.mono (fun env st h2=>iJ (fun vs st=>h _ _ _) htr _ _ _ _ h2) hh
 | .seq a b,Q,Q',env,st,h,hh=>Gh.mono (fun env st h2=>ij htr a _ _ env st (fun e env st h2=>by
   cases e with
   |normal=>exact ij htr b Q Q' env st h h2
   |exit id=>exact h _ _ _ h2
   |ret=>exact h _ _ _ h2) h2) hh
 | .cond c a b,Q,Q',env,st,h,hh=>Gh.mono (fun env st h2=>by
  refine⟨h2.1, ?_⟩;have:=h2.2;cases hd:(c.ev env []).d<;>simp only[hd]at this⊢;exact⟨fun ht=>ij htr a Q Q' env st h (this.1 ht),fun ht=>ij htr b Q Q' env st h (this.2 ht)⟩) hh
 | .block id a,Q,Q',env,st,h,hh=>Gh.mono (fun env st h2=>ij htr a _ _ env st (fun e env st h2=>by
   cases e with
   |normal=>exact h _ _ _ h2
   |exit j=>simp only at h2⊢;split<;>rename_i hj<;>simp only[hj,aZ,aU]at h2<;>exact h _ _ _ h2
   |ret=>exact h _ _ _ h2) h2) hh
 | .loop a,Q,Q',env,st,h,hh=>Gh.mono (fun env st h2=>by
  obtain⟨I,μ,h1,h2⟩:=h2;refine⟨I,μ,h1,fun env st hi=>ij htr a _ _ env st (fun e env' st' h3=>?_) (h2 env st hi)⟩;cases e with
  |normal=>exact h3
  |exit id=>exact h _ _ _ h3
  |ret=>exact h _ _ _ h3) hh
 | .exit id,Q,Q',env,st,h,hh=>Gh.mono (fun _ _=>h _ _ _) hh
 | .ret,Q,Q',env,st,h,hh=>Gh.mono (fun _ _=>h _ _ _) hh
 | .skip,Q,Q',env,st,h,hh=>Gh.mono (fun _ _=>h _ _ _) hh
def ig {a:AC}{env':List aX}{st':St}(g:aV Y.lo env st env' st')(h:dp Y a Q env' st'):dp Y a Q env st:=by
 cases a<;>(obtain⟨e2,s2,g2,h2⟩:=h;exact⟨e2,s2,.trans _ _ _ _ _ _ g g2,h2⟩)
def BQ (Y:Ctx)(id:Nat)(r:AC)(Q:Ex->List aX->St->Prop):Ex->List aX->St->Prop:=fun e env st=>match e with
 | .normal=>dp Y r Q env st
 | .exit j=>if j=id then dp Y r Q env st else Q (.exit j) env st
 | .ret=>Q .ret env st
def LQ (Y:Ctx)(id:Nat)(r:AC)(next:List aX->St->Prop)(Q:Ex->List aX->St->Prop):Ex->List aX->St->Prop:=fun e env st=>match e with
 | .normal=>next env st
 | .exit j=>if j=id then dp Y r Q env st else Q (.exit j) env st
 | .ret=>Q .ret env st
def BQ.normal {id:Nat}{r:AC}(h:dp Y r Q env st):BQ Y id r Q .normal env st:=h
def BQ.out {id:Nat}{r:AC}(h:dp Y r Q env st):BQ Y id r Q (.exit id) env st:=by simp only[BQ,aZ];exact h
def BQ.other {id j:Nat}{r:AC}(hj:(j==id)=false)(h:Q (.exit j) env st):BQ Y id r Q (.exit j) env st:=by simp only[BQ,ai nE];exact h
def BQ.ret {id:Nat}{r:AC}(h:Q .ret env st):BQ Y id r Q .ret env st:=h
def LQ.normal {id:Nat}{r:AC}{next:List aX->St->Prop}(h:next env st):LQ Y id r next Q .normal env st:=h
def LQ.out {id:Nat}{r:AC}{next:List aX->St->Prop}(h:dp Y r Q env st):LQ Y id r next Q (.exit id) env st:=by simp only[LQ,aZ];exact h
def LQ.other {id j:Nat}{r:AC}{next:List aX->St->Prop}(hj:(j==id)=false)(h:Q (.exit j) env st):LQ Y id r next Q (.exit j) env st:=by simp only[LQ,ai nE];exact h
def LQ.ret {id:Nat}{r:AC}{next:List aX->St->Prop}(h:Q .ret env st):LQ Y id r next Q .ret env st:=h
def fC {a b c:AC}(h:dp Y (.seq a (.seq b c)) Q env st):dp Y (.seq (.seq a b) c) Q env st:=by
 obtain⟨e1,s1,g1,h1⟩:=h;refine⟨e1,s1,g1,e1,s1,.refl _ _, ?_⟩;have:∀(Q1 Q2:Ex->List aX->St->Prop),Q1=Q2->dp Y a Q1 e1 s1->dp Y a Q2 e1 s1:=fun _ _ e h=>e▸h
 refine this _ _ ?_ h1;funext e env st;cases e with
 |normal=>exact propext ⟨fun⟨e2,s2,g2,h2⟩=>ig g2 h2,fun h=>⟨_,_,.refl _ _,h⟩⟩
 |exit id=>rfl
 |ret=>rfl
def fQ {b:AC}(h:dp Y b Q env st):dp Y (.seq .skip b) Q env st:=.intro (.intro h)
def wp_skip (h:Q .normal env st):dp Y .skip Q env st:=.intro h
def Gu {b:AC}(h:Q .ret env st):dp Y (.seq .ret b) Q env st:=.intro (.intro h)
def wp_ret (h:Q .ret env st):dp Y .ret Q env st:=.intro h
def ov {id:Nat}{b:AC}(h:Q (.exit id) env st):dp Y (.seq (.exit id) b) Q env st:=.intro (.intro h)
def wp_exit {id:Nat}(h:Q (.exit id) env st):dp Y (.exit id) Q env st:=.intro h
def ml {id:Nat}{a r:AC}(h:dp Y a (BQ Y id r Q) env st)(htr:Y.bR):dp Y (.seq (.block id a) r) Q env st:=by
 refine .intro (.intro (ij htr a _ _ _ _ (fun e env st h=>?_) h));cases e with
 |normal=>exact h
 |exit j=>simp only[BQ]at h⊢;split<;>rename_i hj<;>simp only[hj,aZ,aU]at h<;>exact h
 |ret=>exact h
def wp_block {id:Nat}{a:AC}(h:dp Y a (BQ Y id .skip Q) env st)(htr:Y.bR)(hQ:∀e env env' st st',aV Y.lo env st env' st'->Q e env' st'->Q e env st):dp Y (.block id a) Q env st:=by
 refine .intro (ij htr a _ _ _ _ (fun e env st h=>?_) h);have hs:∀env st,dp Y .skip Q env st->Q .normal env st:=fun env st ⟨e2,s2,g2,h2⟩=>hQ _ _ _ _ _ g2 h2
 cases e with
 |normal=>exact hs _ _ h
 |exit j=>simp only[BQ]at h⊢;split<;>rename_i hj<;>simp only[hj,aZ,aU]at h<;>first|exact hs _ _ h|exact h
 |ret=>exact h
def CQ (next:List aX->St->Prop)(Q:Ex->List aX->St->Prop):Ex->List aX->St->Prop:=fun e env st=>match e with
 | .normal=>next env st
 | .exit j=>Q (.exit j) env st
 | .ret=>Q .ret env st
def CQ.normal {next:List aX->St->Prop}(h:next env st):CQ next Q .normal env st:=h
def CQ.other {next:List aX->St->Prop}{j:Nat}(h:Q (.exit j) env st):CQ next Q (.exit j) env st:=h
def CQ.ret {next:List aX->St->Prop}(h:Q .ret env st):CQ next Q .ret env st:=h
def Np (id:Nat)(Q:Ex->List aX->St->Prop):Ex->List aX->St->Prop:=fun e env st=>match e with
 | .normal=>Q .normal env st
 | .exit j=>if j=id then Q .normal env st else Q (.exit j) env st
 | .ret=>Q .ret env st
def Np.normal {id:Nat}(h:Q .normal env st):Np id Q .normal env st:=h
def Np.out {id:Nat}(h:Q .normal env st):Np id Q (.exit id) env st:=by simp only[Np,aZ];exact h
def Np.other {id j:Nat}(hj:(j==id)=false)(h:Q (.exit j) env st):Np id Q (.exit j) env st:=by grind [Np]
def Np.ret {id:Nat}(h:Q .ret env st):Np id Q .ret env st:=h
def lH {id:Nat}{a:AC}(h:dp Y a (Np id Q) env st)(htr:Y.bR):dp Y (.block id a) Q env st:=by
 refine .intro (ij htr a _ _ _ _ (fun e env st h=>?_) h);cases e with
 |normal=>exact h
 |exit j=>simp only[Np]at h⊢;split<;>rename_i hj<;>simp only[hj,aZ,aU]at h<;>exact h
 |ret=>exact h
def qY (htr:Y.bR){a b:AC}{ι:Type}(F:ι->List aX)(G:ι->List (Nat×bm))(c:Nat)(P:ι->Prop)
  (h1:dp Y a (CQ (fun env' st'=>∃j,P j/\aV Y.lo env' st' (F j) ⟨c,G j⟩) Q) env st)
  (h2:∀i,P i->dp Y b Q (F i) ⟨c,G i⟩):dp Y (.seq a b) Q env st:=by
 refine .intro (ij htr a _ _ _ _ (fun e env st h=>?_) h1);cases e with
 |normal=>obtain⟨j,hj,g⟩:=h;exact ig g (h2 j hj)
 |exit j=>exact h
 |ret=>exact h
def fP (htr:Y.bR){a r:AC}{id:Nat}{ι:Type}(F:ι->List aX)(G:ι->List (Nat×bm))(c:Nat)(P:ι->Prop)(μ:ι->Nat)(i0:ι)
  (hP:P i0) (h0:aV Y.lo env st (F i0) ⟨c,G i0⟩)
  (hr:∀i,P i->dp Y a (LQ Y id r (fun env' st'=>∃j,P j/\μ j<μ i/\aV Y.lo env' st' (F j) ⟨c,G j⟩) Q) (F i) ⟨c,G i⟩):dp Y (.seq (.block id (.loop a)) r) Q env st:=by
 let W:List aX->St->Nat->Prop:=fun env st k=>∃i,env=F i/\st=⟨c,G i⟩/\P i/\μ i=k
 have least:∀env st,(∃k,W env st k)->∃k,W env st k/\∀k',W env st k'->k<=k':=by
  intro env st ⟨k,hk⟩;induction k using Nat.strongRecOn with
  |_ k ih=>
   by_cases h:∃k',k'<k/\W env st k'
   .obtain⟨k',h1,h2⟩:=h;exact ih k' h1 h2
   .exact⟨k,hk,fun k' hk'=>by
     rcases eh k' k with h1|h1
     .exact absurd ⟨k',h1,hk'⟩ h
     .exact h1⟩
 open Classical in
 refine .intro (.intro ⟨_,_,h0,fun env st=>∃k,W env st k,fun env st=>if h:∃k,W env st k then Classical.choose (least env st h)else 0,⟨_,i0,rfl,rfl,hP,rfl⟩,fun env st hk=>?_⟩);obtain⟨⟨i,e1,e2,e3,e5⟩,hmin⟩:=Classical.choose_spec (least env st hk);have:=hr i e3;rw[<-e1,<-e2]at this;refine ij htr a _ _ env st ?_ this
 .intro e env' st' h;cases e with
  |normal=>
   obtain⟨j,b3,b5,g⟩:=h;have hW:W (F j) ⟨c,G j⟩ (μ j):=⟨j,rfl,rfl,b3,rfl⟩;refine⟨F j,⟨c,G j⟩,g,⟨_,hW⟩, ?_⟩;show(if h:∃k,W (F j) ⟨c,G j⟩ k then Classical.choose (least _ _ h)else 0)<(if h:∃k,W env st k then Classical.choose (least env st h)else 0);rw[dif_pos ⟨_,hW⟩,dif_pos hk,<-e5];exact Nat.lt_of_le_of_lt ((Classical.choose_spec (least _ _ ⟨_,hW⟩)).2 _ hW) b5
  |exit j=>simp only[LQ]at h⊢;split<;>rename_i hj<;>simp only[hj,aZ,aU]at h<;>exact h
  |ret=>exact h
def Bs (id:Nat)(next:List aX->St->Prop)(Q:Ex->List aX->St->Prop):Ex->List aX->St->Prop:=fun e env st=>match e with
 | .normal=>next env st
 | .exit j=>if j=id then Q .normal env st else Q (.exit j) env st
 | .ret=>Q .ret env st
def Bs.normal {id:Nat}{next:List aX->St->Prop}(h:next env st):Bs id next Q .normal env st:=h
def Bs.out {id:Nat}{next:List aX->St->Prop}(h:Q .normal env st):Bs id next Q (.exit id) env st:=by simp only[Bs,aZ];exact h
def Bs.other {id j:Nat}{next:List aX->St->Prop}(hj:(j==id)=false)(h:Q (.exit j) env st):Bs id next Q (.exit j) env st:=by grind [Bs]
def Bs.ret {id:Nat}{next:List aX->St->Prop}(h:Q .ret env st):Bs id next Q .ret env st:=h
def Ip (htr:Y.bR){a:AC}{id:Nat}{ι:Type}(F:ι->List aX)(G:ι->List (Nat×bm))(c:Nat)(P:ι->Prop)(μ:ι->Nat)(i0:ι)
  (hP:P i0) (h0:aV Y.lo env st (F i0) ⟨c,G i0⟩)
  (hr:∀i,P i->dp Y a (Bs id (fun env' st'=>∃j,P j/\μ j<μ i/\aV Y.lo env' st' (F j) ⟨c,G j⟩) Q) (F i) ⟨c,G i⟩):dp Y (.block id (.loop a)) Q env st:=by
 let W:List aX->St->Nat->Prop:=fun env st k=>∃i,env=F i/\st=⟨c,G i⟩/\P i/\μ i=k
 have least:∀env st,(∃k,W env st k)->∃k,W env st k/\∀k',W env st k'->k<=k':=by
  intro env st ⟨k,hk⟩;induction k using Nat.strongRecOn with
  |_ k ih=>
   by_cases h:∃k',k'<k/\W env st k'
   .obtain⟨k',h1,h2⟩:=h;exact ih k' h1 h2
   .exact⟨k,hk,fun k' hk'=>by
     rcases eh k' k with h1|h1
     .exact absurd ⟨k',h1,hk'⟩ h
     .exact h1⟩
 open Classical in
 refine .intro ⟨_,_,h0,fun env st=>∃k,W env st k,fun env st=>if h:∃k,W env st k then Classical.choose (least env st h)else 0,⟨_,i0,rfl,rfl,hP,rfl⟩,fun env st hk=>?_⟩;obtain⟨⟨i,e1,e2,e3,e5⟩,hmin⟩:=Classical.choose_spec (least env st hk);have:=hr i e3;rw[<-e1,<-e2]at this;refine ij htr a _ _ env st ?_ this
 .intro e env' st' h;cases e with
  |normal=>
   obtain⟨j,b3,b5,g⟩:=h;have hW:W (F j) ⟨c,G j⟩ (μ j):=⟨j,rfl,rfl,b3,rfl⟩;refine⟨F j,⟨c,G j⟩,g,⟨_,hW⟩, ?_⟩;show(if h:∃k,W (F j) ⟨c,G j⟩ k then Classical.choose (least _ _ h)else 0)<(if h:∃k,W env st k then Classical.choose (least env st h)else 0);rw[dif_pos ⟨_,hW⟩,dif_pos hk,<-e5];exact Nat.lt_of_le_of_lt ((Classical.choose_spec (least _ _ ⟨_,hW⟩)).2 _ hW) b5
  |exit j=>simp only[Bs]at h⊢;split<;>rename_i hj<;>simp only[hj,aZ,aU]at h<;>exact h
  |ret=>exact h
def nth:List aX->Nat->aX
 |[],_=>.un
 |a::_,0=>a
 |_::r,n+1=>nth r n
def C5:∀(l:List aX) (n:Nat),l.getD n .un=nth l n
 |[],n=>by simp[nth]
 |a::_,0=>by simp[nth]
 |_::r,n+1=>by simpa[nth]using C5 r n
def bV (env rs:List aX):Src->aX
 | .s n=>nth env n
 | .l p=>bif Nat.blt p rs.length then nth rs (rs.length-1-p)else .un
 | .c d=>⟨true,d⟩
theorem oJ (env rs:List aX):Src.ev env rs.reverse=bV env rs:=by
 funext s;cases s with
 |s n=>exact C5 env n
 |l p=>
  simp only[Src.ev,bV];cases h:Nat.blt p rs.length with
  |true=>
   have:p<rs.length:=by simp[Nat.blt]at h;omega
   rw[cond_true,<-C5]
   grind
  |false=>
   have:¬p<rs.length:=by intro e;have:Nat.blt p rs.length=true:=by {simp[Nat.blt];omega};rw[this]at h;cases h
   grind
 |c d=>rfl
def aA (Y:Ctx)(draw:Bool)(l:List GI)(env rs:List aX)(nx:Nat)(m:List (Nat×bm))(K:List aX->St->Prop):Prop:=eM Y draw l env rs.reverse ⟨nx,m⟩ K
def VY (env rs:List aX):List (Nat×Nat)->List aX
 |[]=>env
 |(s,p)::r=>VY (env.set s (bV [] rs (.l p))) rs r
theorem NU (rs:List aX):∀(cm:List (Nat×Nat)) (env:List aX),iy env rs.reverse cm=VY env rs cm
 |[],env=>rfl
 |(s,p)::r,env=>by
  simp only[iy,VY];rw[NU rs r,<-congrFun (oJ [] rs) (.l p)];rfl
def aO {draw:Bool}{ins:List GI}{cm:List (Nat×Nat)}{b:AC}{nx:Nat}{m:List (Nat×bm)}
  (h:aA Y draw ins env [] nx m (fun vs st'=>dp Y b Q (iy env vs cm) st')):dp Y (.seq (.reg draw ins cm) b) Q env ⟨nx,m⟩:=.intro (.intro h)
def po {draw:Bool}{ins:List GI}{cm:List (Nat×Nat)}{nx:Nat}{m:List (Nat×bm)}
  (h:aA Y draw ins env [] nx m (fun vs st'=>Q .normal (iy env vs cm) st')):dp Y (.reg draw ins cm) Q env ⟨nx,m⟩:=.intro h
def bp {draw:Bool}{cm:List (Nat×Nat)}{b:AC}{nx nx':Nat}{m:List (Nat×bm)}{rs fq env':List aX}(h:dp Y b Q env' ⟨nx',m⟩)
  (he:VY env rs cm=env':=by exact rfl) (hn:nx+rs.length=nx':=by exact zB):aA Y draw [] fq rs nx m (fun vs st'=>dp Y b Q (iy env vs cm) st'):=by
 grind [aA,eM,NU]
def nw {draw:Bool}{cm:List (Nat×Nat)}{nx nx':Nat}{m:List (Nat×bm)}{rs fq env':List aX}(h:Q .normal env' ⟨nx',m⟩)
  (he:VY env rs cm=env':=by exact rfl) (hn:nx+rs.length=nx':=by exact zB):aA Y draw [] fq rs nx m (fun vs st'=>Q .normal (iy env vs cm) st'):=by
 grind [aA,eM,NU]
def aQ {c:Src}{a b r:AC}{t:Bool}(h1:t=true->dp Y (.seq a r) Q env st)(h2:t=false->dp Y (.seq b r) Q env st)(hc:bV env [] c=⟨true,.bool t⟩:=by exact rfl):dp Y (.seq (.cond c a b) r) Q env st:=by
 have hc':c.ev env []=⟨true,.bool t⟩:=by rw[<-hc,<-oJ];rfl
 refine .intro (.intro ?_);simp only[hc'];refine⟨trivial,fun ht=>?_,fun ht=>?_⟩
 .obtain⟨e,s,g,h⟩:=h1 ht;exact ig g h
 .obtain⟨e,s,g,h⟩:=h2 ht;exact ig g h
def wp_cond {c:Src}{a b:AC}{t:Bool}(h1:t=true->dp Y a Q env st)(h2:t=false->dp Y b Q env st)(hc:bV env [] c=⟨true,.bool t⟩:=by exact rfl):dp Y (.cond c a b) Q env st:=by
 have hc':c.ev env []=⟨true,.bool t⟩:=by rw[<-hc,<-oJ];rfl
 refine .intro ?_
 grind
def aV.to {lo c nx nx':Nat}{env env':List aX}{m m':List (Nat×bm)}(σ:List (Nat×Nat))(hc:nx'=c)(h:fX lo c σ=true)(he:fk lo σ env env')(hm:bo lo c σ m m'):aV lo env ⟨nx,m⟩ env' ⟨nx',m'⟩:=by
 subst hc;exact .ren σ nx' env env' nx m m' h he hm
theorem bw {α β:Type}(q:α->β)(xs:List α):(xs.map q).take xs.length=xs.map q:=eU aG
def bH {α:Type}{q:α->D}(h:∀x,(q x).aR=true):∀xs:List α,aL (xs.map q)=true
 |[]=>rfl
 |a::r=>by simp only[List.map_cons,aL,h a,bH h r,gQ]
def aV.fz {lo:Nat}{env env' env2:List aX}{nx k:Nat}{m m':List (Nat×bm)}{es:List D}{st2:St}(l:Nat)(hl:look m l=some (.buf k es))(hn:aL es=true)(he:uR l k es env=env')(hm:xg l k es (cQ m l)=m')(h:aV lo env' ⟨nx,m'⟩ env2 st2):aV lo env ⟨nx,m⟩ env2 st2:=by
 have:=aV.UQ (lo:=lo) l env ⟨nx,m⟩;simp only[Abs.UQ,hl,hn,cond_true,he,hm]at this;exact .trans _ _ _ _ _ _ this h
def bh {a:AC}{nx k:Nat}{m m':List (Nat×bm)}{es:List D}{env env':List aX}(l:Nat)(h:dp Y a Q env' ⟨nx,m'⟩)(hl:look m l=some (.buf k es):=by exact rfl)(hn:aL es=true:=by first|exact rfl|exact bH (fun _=>rfl) _)
  (he:uR l k es env=env':=by simp only[uR,iA,lg,xg,A1,cQ,Nat.reduceEqDiff,aZ,aU,fS,dJ,dj,fI,fR,b8,bj,aP,cT,bw,reduceCtorEq,bE,b7,Nat.reduceAdd,Nat.reduceLeDiff];exact rfl)
  (hm:xg l k es (cQ m l)=m':=by simp only[uR,iA,lg,xg,A1,cQ,Nat.reduceEqDiff,aZ,aU,fS,dJ,dj,fI,fR,b8,bj,aP,cT,bw,reduceCtorEq,bE,b7,Nat.reduceAdd,Nat.reduceLeDiff];exact rfl):dp Y a Q env ⟨nx,m⟩:=
 ig (aV.fz l hl hn he hm (.refl _ _)) h
def WkE.rf:∀e:List aX,WkE e e
 |[]=>trivial
 |_::r=>⟨⟨rfl,.refl _⟩,WkE.rf r⟩
def Qs.nil:Qs [] []:=⟨rfl,fun _=>.refl _⟩
def Qs.cons {x y:D}{a b:List D}(h:EB x y)(h2:Qs a b):Qs (x::a) (y::b):=⟨by simp[h2.1],fun i=>by cases i with
 |zero=>exact h
 |succ i=>simpa using h2.2 i⟩
def Qs.rf (a:List D):Qs a a:=⟨rfl,fun _=>.refl _⟩
def Qs.map {α:Type}{q p:α->D}:∀{xs:List α},(∀x∈xs,EB (q x) (p x))->Qs (xs.map q) (xs.map p)
 |[],_=>.nil
 |x::r,h=>.cons (h x (.head _)) (Qs.map fun y hy=>h y (.tail _ hy))
def EB.ag {a b:List D}(h:Qs a b):EB (.agg a) (.agg b):=.agg _ _ h.1 h.2
def EB.ss {k:Nat}{a b:List D}(h:Qs a b):EB (.sl k a) (.sl k b):=.sl _ _ _ h.1 h.2
def Qt.nil {m:List (Nat×bm)}:Qt m []:=trivial
def Qt.id {m r:List (Nat×bm)}{l:Nat}{b:bm}(h:look m l=some b)(h2:Qt m r):Qt m ((l,b)::r):=⟨⟨b,h,by cases b<;>first|exact⟨rfl,.rf _⟩|exact rfl⟩,h2⟩
def Qt.bf {m r:List (Nat×bm)}{l k:Nat}{es es':List D}(h:look m l=some (.buf k es))(hw:Qs es es')(h2:Qt m r):Qt m ((l,.buf k es')::r):=⟨⟨_,h,rfl,hw⟩,h2⟩
def AO {a:AC}{nx:Nat}{m:List (Nat×bm)}{env:List aX}(m':List (Nat×bm))(hm:Qt m m')(h:dp Y a Q env ⟨nx,m'⟩):dp Y a Q env ⟨nx,m⟩:=ig (.nz _ _ _ _ _ (WkE.rf _) hm) h
def fk.nil {lo:Nat}{σ:List (Nat×Nat)}:fk lo σ [] []:=trivial
def fk.un {lo:Nat}{σ:List (Nat×Nat)}{a:aX}{r s:List aX}(h:fk lo σ r s):fk lo σ (a::r) (.un::s):=⟨.inr rfl,h⟩
def fk.eq {lo:Nat}{σ:List (Nat×Nat)}{ok:Bool}{d d':D}{r s:List aX}(hd:rN lo σ d=some d')(h:fk lo σ r s):fk lo σ (⟨ok,d⟩::r) (⟨ok,d'⟩::s):=⟨.inl ⟨rfl,.inr (.inl hd)⟩,h⟩
theorem fk.nl {lo:Nat}{σ:List (Nat×Nat)}{ok:Bool}{d d':D}{r s:List aX}(hd:d'=d)(hn:d.aR=true)(h:fk lo σ r s):fk lo σ (⟨ok,d⟩::r) (⟨ok,d'⟩::s):=⟨.inl ⟨rfl,.inl ⟨hd,hn⟩⟩,h⟩
def fk.ni {lo:Nat}{σ:List (Nat×Nat)}{ok:Bool}{d d':D}{r s:List aX}(hd:wy d d')(h:fk lo σ r s):fk lo σ (⟨ok,d⟩::r) (⟨ok,d'⟩::s):=⟨.inl ⟨rfl,.inr (.inr hd)⟩,h⟩
section
variable {lo c:Nat} {σ:List (Nat×Nat)} {m r:List (Nat×bm)}
def bo.nil:bo lo c σ m []:=trivial
theorem bo.nl {k l':Nat}{es es':List D}(l:Nat)(hl:mz lo σ l=some l')(hm:look m l=some (.buf k es))(he:es'=es)(hn:aL es=true)(h:bo lo c σ m r):bo lo c σ m ((l',.buf k es')::r):=
 ⟨.inl ⟨l,_,hl,hm,rfl,.inl ⟨he,hn⟩⟩,h⟩
def bo.eq {k l':Nat}{es es':List D}(l:Nat)(hl:mz lo σ l=some l')(hm:look m l=some (.buf k es))(he:oo lo σ es=some es')(h:bo lo c σ m r):bo lo c σ m ((l',.buf k es')::r):=
 ⟨.inl ⟨l,_,hl,hm,rfl,.inr (.inl he)⟩,h⟩
def bo.ni {k l':Nat}{es es':List D}(l:Nat)(hl:mz lo σ l=some l')(hm:look m l=some (.buf k es))(he:NC es es')(h:bo lo c σ m r):bo lo c σ m ((l',.buf k es')::r):=
 ⟨.inl ⟨l,_,hl,hm,rfl,.inr (.inr he)⟩,h⟩
def bo.vI {k l':Nat}{es':List D}(hl:mz lo σ l'=some l')(hm:look m l'=some (.buf k es'))(hn:aL es'=true)(h:bo lo c σ m r):bo lo c σ m ((l',.buf k es')::r):=.nl l' hl hm rfl hn h
def bo.Kr {k l':Nat}{es' es:List D}(hl:mz lo σ l'=some l')(hm:look m l'=some (.buf k es))(he:oo lo σ es=some es')(h:bo lo c σ m r):bo lo c σ m ((l',.buf k es')::r):=.eq l' hl hm he h
def bo.mt {k l':Nat}{es':List D}(h1:Nat.ble lo l'=true)(h2:Nat.blt l' c=true)(h3:σ.all (fun p=>!Nat.beq p.2 l')=true)(he:es'=[])(h:bo lo c σ m r):bo lo c σ m ((l',.buf k es')::r):=
 ⟨.inr ⟨h1,h2,h3,k,by rw[he]⟩,h⟩
def bo.it {l' p p':Nat}{s s':List UInt8}(l:Nat)(hl:mz lo σ l=some l')(hm:look m l=some (.iter s p))(hs:s'=s)(hp:p'=p)(h:bo lo c σ m r):bo lo c σ m ((l',.iter s' p')::r):=
 ⟨.inl ⟨l,_,hl,hm,hs,hp⟩,h⟩
def bo.Nr {l' p p':Nat}{s s':List UInt8}(hl:mz lo σ l'=some l')(hm:look m l'=some (.iter s p))(hs:s'=s)(hp:p'=p)(h:bo lo c σ m r):bo lo c σ m ((l',.iter s' p')::r):=.it l' hl hm hs hp h
def bo.rw {l':Nat}{s s':List UInt8}(l:Nat)(hl:mz lo σ l=some l')(hm:look m l=some (.row s))(hs:s'=s)(h:bo lo c σ m r):bo lo c σ m ((l',.row s')::r):=
 ⟨.inl ⟨l,_,hl,hm,hs⟩,h⟩
def bo.bl {l' l1 l2 n n':Nat}{u u':Bool}(l:Nat)(hl:mz lo σ l=some l')(hm:look m l=some (.bld (some l1) n u))(h1:mz lo σ l1=some l2)(hn:n'=n)(hu:u'=u)(h:bo lo c σ m r):bo lo c σ m ((l',.bld (some l2) n' u')::r):=
 ⟨.inl ⟨l,_,hl,hm,⟨l2,h1,rfl⟩,hn,hu⟩,h⟩
def bo.b0 {l' n n':Nat}{u u':Bool}(l:Nat)(hl:mz lo σ l=some l')(hm:look m l=some (.bld none n u))(hn:n'=n)(hu:u'=u)(h:bo lo c σ m r):bo lo c σ m ((l',.bld none n' u')::r):=
 ⟨.inl ⟨l,_,hl,hm,rfl,hn,hu⟩,h⟩
end
mutual
def xC (m:List (Nat×bm)):Sh->D->D
 | .a,d=>match d with
  | .aJ=>.sl 0 []
  |d=>d
 | .sl k cs,d=>match d with
  | .aJ=>.sl k []
  | .own l k' i c=>.sl k' ((((aH m l).drop i).take c).map fun e=>match e with
   | .agg ds=>.agg (xL m cs ds)
   |e=>xH m cs e)
  |d=>d
 | .pt cs,d=>match d with
  | .ptr l k i o=>.ref k ((aH m l).map fun e=>match e with
   | .agg ds=>.agg (xL m cs ds)
   |e=>xH m cs e) i o
  |d=>d
 | .kp cs,d=>match d with
  | .own l k' i c=>.sl k' ((((aH m l).drop i).take c).map fun e=>match e with
   | .agg ds=>.agg (xL m cs ds)
   |e=>xH m cs e)
  |d=>d
def xH (m:List (Nat×bm)):List Sh->D->D
 |[],d=>d
 |s::_,d=>xC m s d
def xL (m:List (Nat×bm)):List Sh->List D->List D
 |[],ds=>ds
 |s::r,ds=>match ds with
  |[]=>[]
  |d::ds=>xC m s d::xL m r ds
end
def xV (m:List (Nat×bm))(cs:List Sh):D->D
 | .agg ds=>.agg (xL m cs ds)
 |e=>xH m cs e
mutual
def UX (m:List (Nat×bm)):Sh->D->Prop
 | .a,d=>d.aR=true
 | .sl _ cs,d=>match d with
  | .own l k' i c=>dW m l k' (i+c)/\∀e∈((aH m l).drop i).take c,(match e with
   | .agg ds=>ZU m cs ds
   |e=>xHO m cs e)
  |d=>d.aR=true
 | .pt cs,d=>match d with
  | .ptr l k _ _=>dW m l k 0/\∀e∈aH m l,(match e with
   | .agg ds=>ZU m cs ds
   |e=>xHO m cs e)
  |d=>d.aR=true
 | .kp cs,d=>match d with
  | .own l k' i c=>dW m l k' (i+c)/\∀e∈((aH m l).drop i).take c,(match e with
   | .agg ds=>ZU m cs ds
   |e=>xHO m cs e)
  |d=>d.aR=true
def xHO (m:List (Nat×bm)):List Sh->D->Prop
 |[],d=>d.aR=true
 |s::_,d=>UX m s d
def ZU (m:List (Nat×bm)):List Sh->List D->Prop
 |[],ds=>aL ds=true
 |s::r,ds=>match ds with
  |[]=>True
  |d::ds=>UX m s d/\ZU m r ds
end
def xVO (m:List (Nat×bm))(cs:List Sh):D->Prop
 | .agg ds=>ZU m cs ds
 |e=>xHO m cs e
mutual
theorem ZT (m:List (Nat×bm)):∀(s:Sh) (d:D),kM m s d=xC m s d/\(iv m s d↔UX m s d)
 | .a,d=>by cases d<;>simp only[kM,xC,iv,UX]<;>exact⟨trivial,trivial⟩
 | .sl k cs,d=>by
  cases d<;>simp only[kM,xC,iv,UX]<;>first
   |exact⟨trivial,trivial⟩
   |skip
  rename_i l k' i c;exact⟨aw (D.sl k') (List.map_congr_left fun e _=>(Ej m cs e).1),and_congr_right fun _=>forall_congr' fun e=>imp_congr_right fun _=>(Ej m cs e).2⟩
 | .pt cs,d=>by
  cases d<;>simp only[kM,xC,iv,UX]<;>first
   |exact⟨trivial,trivial⟩
   |skip
  rename_i l k' i c;exact⟨aw (fun x=>D.ref k' x i c) (List.map_congr_left fun e _=>(Ej m cs e).1),and_congr_right fun _=>forall_congr' fun e=>imp_congr_right fun _=>(Ej m cs e).2⟩
 | .kp cs,d=>by
  cases d<;>simp only[kM,xC,iv,UX]<;>first
   |exact⟨trivial,trivial⟩
   |skip
  rename_i l k' i c;exact⟨aw (D.sl k') (List.map_congr_left fun e _=>(Ej m cs e).1),and_congr_right fun _=>forall_congr' fun e=>imp_congr_right fun _=>(Ej m cs e).2⟩
theorem Ej (m:List (Nat×bm)):∀(cs:List Sh) (d:D),iX m cs d=(match d with
   | .agg ds=>.agg (xL m cs ds)
   |e=>xH m cs e)/\(gL m cs d↔(match d with
   | .agg ds=>ZU m cs ds
   |e=>xHO m cs e))
 |[],d=>by cases d<;>simp only[iX,xH,xL,gL,xHO,ZU,D.aR]<;>first|exact⟨trivial,Iff.rfl⟩|exact⟨trivial,trivial⟩
 |s::r,d=>by
  cases d<;>simp only[iX,xH,gL,xHO]<;>first
   |exact ZT m s _
   |skip
  rename_i ds;exact⟨aw D.agg (So m (s::r) ds).1,(So m (s::r) ds).2⟩
theorem So (m:List (Nat×bm)):∀(cs:List Sh) (ds:List D),nv m cs ds=xL m cs ds/\(kf m cs ds↔ZU m cs ds)
 |[],ds=>by simp only[nv,xL,kf,ZU];exact⟨trivial,trivial⟩
 |s::r,[]=>by simp only[nv,xL,kf,ZU];exact⟨trivial,trivial⟩
 |s::r,d::ds=>by
  simp only[nv,xL,kf,ZU,(ZT m s d).1,(So m r ds).1];exact⟨trivial,and_congr (ZT m s d).2 (So m r ds).2⟩
end
theorem Gw (m:List (Nat×bm))(cs:List Sh)(d:D):iX m cs d=xV m cs d/\(gL m cs d↔xVO m cs d):=by
 have:=Ej m cs d;cases d<;>exact this
def jf (m:List (Nat×bm)):List (List Sh)->List D->List D
 |_,[]=>[]
 |[],d::r=>xV m [.a] d::jf m [] r
 |s::ss,d::r=>xV m s d::jf m ss r
def iU (m:List (Nat×bm)):List (List Sh)->List D->Prop
 |_,[]=>True
 |[],d::r=>xVO m [.a] d/\iU m [] r
 |s::ss,d::r=>xVO m s d/\iU m ss r
theorem dz (m:List (Nat×bm)):∀(ss:List (List Sh)) (ds:List D),iB m ss ds=jf m ss ds/\(je m ss ds↔iU m ss ds)
 |ss,[]=>by simp[iB,jf,je,iU]
 |[],d::r=>by
  simp only[iB,jf,je,iU,(Gw m [.a] d).1,(dz m [] r).1];exact⟨trivial,and_congr (Gw m _ d).2 (dz m [] r).2⟩
 |s::ss,d::r=>by
  simp only[iB,jf,je,iU,(Gw m s d).1,(dz m ss r).1];exact⟨trivial,and_congr (Gw m _ d).2 (dz m ss r).2⟩
def ND (a:aj)(d:D):Ex->List aX->St->Prop:=fun e env st=>e.home/\om st.m env a.res/\MB a env st/\Zd a env st=d
def Nk (a:aj)(env:List aX)(m:List (Nat×bm)):D:=match a.res with
 |[r]=>xV m (a.rsh.getD 0 []) (H2 m env r)
 |rs=>.tup (jf m a.rsh (qQ m env rs))
def AP (a:aj)(env:List aX)(m:List (Nat×bm)):Prop:=match a.res with
 |[r]=>xVO m (a.rsh.getD 0 []) (H2 m env r)
 |rs=>iU m a.rsh (qQ m env rs)
def PC {a:aj}{d:D}{e:Ex}{nx:Nat}{m:List (Nat×bm)}(he:e.home)(h1:om m env a.res)(h2:AP a env m)(h3:Nk a env m=d):ND a d e env ⟨nx,m⟩:=by
 refine⟨he,h1, ?_, ?_⟩
 .unfold MB;unfold AP at h2;split<;>rename_i hr
  .rw[hr]at h2;exact(Gw _ _ _).2.2 h2
  .split at h2
   .rename_i hr2;exact absurd hr2 (hr _)
   .exact(dz _ _ _).2.2 h2
 grind [Zd,Nk,Gw,dz]
def GG (a:aj)(k:Nat)(vd sd:D):Ex->List aX->St->Prop:=fun e env st=>e.home/\om st.m env a.res/\(j3 a env st).aR=true/\j3 a env st=vd/\look st.m 0=some (.buf k [sd])/\sd.aR=true
def iV {a:aj}{k:Nat}{vd sd:D}{e:Ex}{nx:Nat}{m:List (Nat×bm)}(he:e.home)(h1:om m env a.res)(h2:j3 a env ⟨nx,m⟩=vd)(h3:look m 0=some (.buf k [sd]))(hn:vd.aR=true)(hs:sd.aR=true):GG a k vd sd e env ⟨nx,m⟩:=⟨he,h1,by rw[h2];exact hn,h2,h3,hs⟩
end
end
section
section
variable {Y:Ctx} {draw:Bool} {r:List GI} {env rs:List aX} {nx:Nat} {m:List (Nat×bm)} {K:List aX->St->Prop} {g:Option (Nat×Bool)} {f:Bool}
def at8 (s:List UInt8)(i:Nat):Int:=((s.getD i 0).toNat:Int)
def GK (s:List UInt8)(i:Nat):0<=at8 s i/\at8 s i<256:=by
 have:=(s.getD i 0).toNat_lt;unfold at8;omega
def D.aiJ:D->Bool
 | .str _=>true
 |_=>false
def wrap_i64 {a:Int}(h1:-9223372036854775808<=a)(h2:a<=9223372036854775807):IntKind.i64.wrap a=a:=IntWalk.i64_in _ ae
def QA (a b:List UInt8):(a==b)=decide (a=b):=by
 grind
def getD_map {α:Type} [Inhabited α]{q:α->D}{xs:List α}{i:Nat}(h:i<xs.length):(xs.map q).getD i .any=q xs[i]! :=by
 simp[List.getD,h]
def akF (b:UInt8):(D.int .u8 b.toNat).u8=b:=by simp[D.u8]
def abm (s:List UInt8):D.str ((s.map fun b=>D.int .u8 b.toNat).map D.u8)=.str s:=by
 congr 1;rw[List.map_map]
 conv=>rhs;rw[<-List.map_id s]
 apply List.map_congr_left;intro b _;exact akF b
def GF (rs:List aX):Option (Nat×Bool)->Bool->Prop
 |none,f=>f=true
 |some (j,w),f=>∃ok b,bV [] rs (.l j)=⟨ok,.bool b⟩/\(ok&&(b==w))=f
def GF.flag (h:GF rs g f):flag rs.reverse g=f/\yT rs.reverse g:=by
 cases g with
 |none=>exact⟨h.symm,trivial⟩
 |some jw=>
  obtain⟨j,w⟩:=jw;obtain⟨ok,b,h1,h2⟩:=h;have h3:rs.reverse.getD j .un=⟨ok,.bool b⟩:=by rw[<-h1,<-oJ];rfl
  simp only[Abs.flag,yT,h3,h2,D.isBool];exact⟨trivial,fun _=>trivial⟩
def Yx {i:ax}(hM:i.cO=false)(hF:i.k9 draw g=false)(hC:g.isSome=true->i.calm=true)(hg:GF rs g f)(d:D)(ho:f=true->i.ey Y (bV env rs) m)
  (hv:f=true->i.val Y (bV env rs) m (nx+rs.length)=d) (m':List (Nat×bm)) (hm:i.bP Y (bV env rs) m (nx+rs.length)=m')
  (h:(f=true->i.Kn draw (bV env rs))->aA Y draw r env (⟨f,d⟩::rs) nx m' K):aA Y draw (⟨i,g⟩::r) env rs nx m K:=by
 obtain⟨hf,hb⟩:=hg.flag;unfold aA;rw[nH hM hF,oJ,hf];refine⟨?_,ho,fun ha=>⟨d,by simpa using hv, ?_⟩⟩
 .cases g with
  |none=>trivial
  |some jw=>exact⟨hC rfl,hb⟩
 grind [aA]
def gv {i:ax}(hC:i.calm=true)(hg:GF rs g f)(d:D)(ho:f=true->i.ey Y (bV env rs) m)
  (hv:f=true->i.val Y (bV env rs) m (nx+rs.length)=d) (m':List (Nat×bm)) (hm:i.bP Y (bV env rs) m (nx+rs.length)=m')
  (h:(f=true->i.Kn draw (bV env rs))->aA Y draw r env (⟨f,d⟩::rs) nx m' K):aA Y draw (⟨i,g⟩::r) env rs nx m K:=
 Yx (by cases i<;>first|rfl|cases hC) (by simp[ax.k9,hC]) (fun _=>hC) hg d ho hv m' hm h
def bD {i:ax}(hC:i.pure=true)(hg:GF rs g f)(d:D)(ho:f=true->i.ey Y (bV env rs) m)
  (hv:f=true->i.val Y (bV env rs) m (nx+rs.length)=d) 
  (h:(f=true->i.Kn draw (bV env rs))->aA Y draw r env (⟨f,d⟩::rs) nx m K):aA Y draw (⟨i,g⟩::r) env rs nx m K:=
 gv (T3 hC) hg d ho hv m (Yr hC) h
def ph {i:ax}(hM:i.cO=false)(d:D)(ho:i.ey Y (bV env rs) m)
  (hv:i.val Y (bV env rs) m (nx+rs.length)=d) (m':List (Nat×bm)) (hm:i.bP Y (bV env rs) m (nx+rs.length)=m')
  (h:i.Kn draw (bV env rs)->aA Y draw r env (⟨true,d⟩::rs) nx m' K):aA Y draw (⟨i,none⟩::r) env rs nx m K:=
 Yx hM (by simp[ax.k9]) (fun h=>ca) rfl d (fun _=>ho) (fun _=>hv) m' hm (fun ha=>h (ha rfl))
def YA {i:ax}{j:Nat}{w:Bool}(hM:i.cO=false)(hC:i.calm=false)(hg:GF rs (some (j,w)) f)(h1:f=true->∃d,i.ey Y (bV env rs) m/\i.val Y (bV env rs) m (nx+rs.length)=d/\∃m',i.bP Y (bV env rs) m (nx+rs.length)=m'/\aA Y false r env (⟨true,d⟩::rs) nx m' K)
  (h2:f=false->aA Y false r env (⟨false,.any⟩::rs) nx m K):aA Y false (⟨i,some (j,w)⟩::r) env rs nx m K:=by
 obtain⟨hf,hb⟩:=hg.flag
 grind [aA,zo,ax.k9,oJ]
def bF {x:Src}{fx:Bool}{d:D}(h:aA Y draw r env (⟨f,d⟩::rs) nx m K)(hg:GF rs g f:=by exact cE)(hx:bV env rs x=⟨fx,d⟩:=by exact rfl)(kx:f=true->fx=true:=by exact bA):aA Y draw (⟨.mv x,g⟩::r) env rs nx m K:=
 bD rfl hg _ (fun hf=>ox) (fun hf=>lQ) (fun ha=>h)
def RM {x:Src}{fx:Bool}{b:Bool}(h:aA Y draw r env (⟨f,.bool (!b)⟩::rs) nx m K)(hg:GF rs g f:=by exact cE)(hx:bV env rs x=⟨fx,.bool b⟩:=by exact rfl)(kx:f=true->fx=true:=by exact bA):aA Y draw (⟨.un .not x,g⟩::r) env rs nx m K:=
 bD rfl hg _ (fun hf=>ox) (fun hf=>lQ) (fun ha=>h)
def Dn {c b:Src}{fc fb t y:Bool}(h:aA Y draw r env (⟨f,.bool (t ||y)⟩::rs) nx m K)(hg:GF rs g f:=by exact cE)(hc:bV env rs c=⟨fc,.bool t⟩:=by exact rfl)(hb:bV env rs b=⟨fb,.bool y⟩:=by exact rfl)(kc:f=true->fc=true:=by exact bA)(kb:f=true->t=false->fb=true:=by intro h1 h2;first|(rw[h2];exact rfl)|(rw[h2,h1];rfl)|(rw[h1,h2];rfl)|simp_all):aA Y draw (⟨.pick c (.c (.bool true)) b,g⟩::r) env rs nx m K:=
 bD rfl hg _ (fun hf=>by simp only[ax.ey,hc,hb];exact⟨kc hf,fun _=>rfl,fun e=>kb hf e⟩) (fun hf=>by simp only[ax.val,hc,hb];cases t<;>rfl) (fun _=>h)
def uU {c a:Src}{fc fa t y:Bool}(h:aA Y draw r env (⟨f,.bool (t&&y)⟩::rs) nx m K)(hg:GF rs g f:=by exact cE)(hc:bV env rs c=⟨fc,.bool t⟩:=by exact rfl)(ha:bV env rs a=⟨fa,.bool y⟩:=by exact rfl)(kc:f=true->fc=true:=by exact bA)(ka:f=true->t=true->fa=true:=by intro h1 h2;first|(rw[h2];exact rfl)|(rw[h2,h1];rfl)|(rw[h1,h2];rfl)|simp_all):aA Y draw (⟨.pick c a (.c (.bool false)),g⟩::r) env rs nx m K:=
 bD rfl hg _ (fun hf=>by simp only[ax.ey,hc,ha];exact⟨kc hf,fun e=>ka hf e,fun _=>rfl⟩) (fun hf=>by simp only[ax.val,hc,ha];cases t<;>rfl) (fun _=>h)
def lO {x y:Src}{fx fy:Bool}{a b:Int}(h:aA Y draw r env (⟨f,.int .i64 (a+b)⟩::rs) nx m K)(hg:GF rs g f:=by exact cE)(hx:bV env rs x=⟨fx,.int .i64 a⟩:=by exact rfl)(hy:bV env rs y=⟨fy,.int .i64 b⟩:=by exact rfl)(kx:f=true->fx=true:=by exact bA)(ky:f=true->fy=true:=by exact bA)(hb:f=true->-9223372036854775808<=a+b/\a+b<=9223372036854775807:=by exact Iq):aA Y draw (⟨.bin .add x y,g⟩::r) env rs nx m K:=
 bD rfl hg _ (fun hf=>gR) (fun hf=>Qk) (fun ha=>h)
def OS {x y:Src}{fx fy:Bool}{k:IntKind}{a b:Int}(v:Int)(h:aA Y draw r env (⟨f,.int k v⟩::rs) nx m K)(hg:GF rs g f:=by exact cE)(hx:bV env rs x=⟨fx,.int k a⟩:=by exact rfl)(hy:bV env rs y=⟨fy,.int k b⟩:=by exact rfl)(kx:f=true->fx=true:=by exact bA)(ky:f=true->fy=true:=by exact bA)(hb:f=true->k.wrap (a+b)=v):aA Y draw (⟨.bin .add x y,g⟩::r) env rs nx m K:=
 bD rfl hg _ (fun hf=>gR) (fun hf=>py) (fun ha=>h)
def BN {x y:Src}{fx fy:Bool}{a b:Int}(h:aA Y draw r env (⟨f,.int .i64 (a-b)⟩::rs) nx m K)(hg:GF rs g f:=by exact cE)(hx:bV env rs x=⟨fx,.int .i64 a⟩:=by exact rfl)(hy:bV env rs y=⟨fy,.int .i64 b⟩:=by exact rfl)(kx:f=true->fx=true:=by exact bA)(ky:f=true->fy=true:=by exact bA)(hb:f=true->-9223372036854775808<=a-b/\a-b<=9223372036854775807:=by exact Iq):aA Y draw (⟨.bin .sub x y,g⟩::r) env rs nx m K:=
 bD rfl hg _ (fun hf=>gR) (fun hf=>Qk) (fun ha=>h)
def HG {x y:Src}{fx fy:Bool}{k:IntKind}{a b:Int}(v:Int)(h:aA Y draw r env (⟨f,.int k v⟩::rs) nx m K)(hg:GF rs g f:=by exact cE)(hx:bV env rs x=⟨fx,.int k a⟩:=by exact rfl)(hy:bV env rs y=⟨fy,.int k b⟩:=by exact rfl)(kx:f=true->fx=true:=by exact bA)(ky:f=true->fy=true:=by exact bA)(hb:f=true->k.wrap (a-b)=v):aA Y draw (⟨.bin .sub x y,g⟩::r) env rs nx m K:=
 bD rfl hg _ (fun hf=>gR) (fun hf=>py) (fun ha=>h)
def xY {x y:Src}{fx fy:Bool}{a b:Int}(h:aA Y draw r env (⟨f,.int .i64 (a*b)⟩::rs) nx m K)(hg:GF rs g f:=by exact cE)(hx:bV env rs x=⟨fx,.int .i64 a⟩:=by exact rfl)(hy:bV env rs y=⟨fy,.int .i64 b⟩:=by exact rfl)(kx:f=true->fx=true:=by exact bA)(ky:f=true->fy=true:=by exact bA)(hb:f=true->-9223372036854775808<=a*b/\a*b<=9223372036854775807:=by exact Iq):aA Y draw (⟨.bin .mul x y,g⟩::r) env rs nx m K:=
 bD rfl hg _ (fun hf=>gR) (fun hf=>Qk) (fun ha=>h)
def YG {x y:Src}{fx fy:Bool}{k:IntKind}{a b:Int}(v:Int)(h:aA Y draw r env (⟨f,.int k v⟩::rs) nx m K)(hg:GF rs g f:=by exact cE)(hx:bV env rs x=⟨fx,.int k a⟩:=by exact rfl)(hy:bV env rs y=⟨fy,.int k b⟩:=by exact rfl)(kx:f=true->fx=true:=by exact bA)(ky:f=true->fy=true:=by exact bA)(hb:f=true->k.wrap (a*b)=v):aA Y draw (⟨.bin .mul x y,g⟩::r) env rs nx m K:=
 bD rfl hg _ (fun hf=>gR) (fun hf=>py) (fun ha=>h)
def RN {x y:Src}{fx fy:Bool}{k:IntKind}{a b:Int}(v:Int)(h:aA Y draw r env (⟨f,.int k v⟩::rs) nx m K)(hg:GF rs g f:=by exact cE)(hx:bV env rs x=⟨fx,.int k a⟩:=by exact rfl)(hy:bV env rs y=⟨fy,.int k b⟩:=by exact rfl)(kx:f=true->fx=true:=by exact bA)(ky:f=true->fy=true:=by exact bA)(hn:f=true->b≠0)(hb:f=true->k.wrap (a.tdiv b)=v):aA Y draw (⟨.bin .quo x y,g⟩::r) env rs nx m K:=
 bD rfl hg _ (fun hf=>Kl) (fun hf=>py) (fun ha=>h)
def Ao {x y:Src}{fx fy:Bool}{k:IntKind}{a b:Int}(v:Int)(h:aA Y draw r env (⟨f,.int k v⟩::rs) nx m K)(hg:GF rs g f:=by exact cE)(hx:bV env rs x=⟨fx,.int k a⟩:=by exact rfl)(hy:bV env rs y=⟨fy,.int k b⟩:=by exact rfl)(kx:f=true->fx=true:=by exact bA)(ky:f=true->fy=true:=by exact bA)(hn:f=true->b≠0)(hb:f=true->a.tmod b=v):aA Y draw (⟨.bin .rem x y,g⟩::r) env rs nx m K:=
 bD rfl hg _ (fun hf=>Kl) (fun hf=>py) (fun ha=>h)
def FR {x y:Src}{fx fy:Bool}{k k2:IntKind}{a b:Int}(v:Int)(h:aA Y draw r env (⟨f,.int k v⟩::rs) nx m K)(hg:GF rs g f:=by exact cE)(hx:bV env rs x=⟨fx,.int k a⟩:=by exact rfl)(hy:bV env rs y=⟨fy,.int k2 b⟩:=by exact rfl)(kx:f=true->fx=true:=by exact bA)(ky:f=true->fy=true:=by exact bA)(hn:f=true->0<=b:=by exact rL)(hb:f=true->k.wrap (a*2^(min b.toNat k.bits))=v):aA Y draw (⟨.bin .shl x y,g⟩::r) env rs nx m K:=
 bD rfl hg _ (fun hf=>Kl) (fun hf=>py) (fun ha=>h)
def RO {x y:Src}{fx fy:Bool}{k k2:IntKind}{a b:Int}(v:Int)(h:aA Y draw r env (⟨f,.int k v⟩::rs) nx m K)(hg:GF rs g f:=by exact cE)(hx:bV env rs x=⟨fx,.int k a⟩:=by exact rfl)(hy:bV env rs y=⟨fy,.int k2 b⟩:=by exact rfl)(kx:f=true->fx=true:=by exact bA)(ky:f=true->fy=true:=by exact bA)(hn:f=true->0<=b:=by exact rL)(hb:f=true->a.fdiv (2^(min b.toNat k.bits))=v):aA Y draw (⟨.bin .shr x y,g⟩::r) env rs nx m K:=
 bD rfl hg _ (fun hf=>Kl) (fun hf=>py) (fun ha=>h)
def Dj {x y:Src}{fx fy:Bool}{k:IntKind}{a b:Int}(v:Int)(h:aA Y draw r env (⟨f,.int k v⟩::rs) nx m K)(hg:GF rs g f:=by exact cE)(hx:bV env rs x=⟨fx,.int k a⟩:=by exact rfl)(hy:bV env rs y=⟨fy,.int k b⟩:=by exact rfl)(kx:f=true->fx=true:=by exact bA)(ky:f=true->fy=true:=by exact bA)(hb:f=true->k.wrap (((BitVec.ofInt k.bits a)&&&(BitVec.ofInt k.bits b)).toNat)=v):aA Y draw (⟨.bin .and x y,g⟩::r) env rs nx m K:=
 bD rfl hg _ (fun hf=>gR) (fun hf=>py) (fun ha=>h)
def ae3 {x y:Src}{fx fy:Bool}{k:IntKind}{a b:Int}(v:Int)(h:aA Y draw r env (⟨f,.int k v⟩::rs) nx m K)(hg:GF rs g f:=by exact cE)(hx:bV env rs x=⟨fx,.int k a⟩:=by exact rfl)(hy:bV env rs y=⟨fy,.int k b⟩:=by exact rfl)(kx:f=true->fx=true:=by exact bA)(ky:f=true->fy=true:=by exact bA)(hb:f=true->k.wrap (((BitVec.ofInt k.bits a) |||(BitVec.ofInt k.bits b)).toNat)=v):aA Y draw (⟨.bin .or x y,g⟩::r) env rs nx m K:=
 bD rfl hg _ (fun hf=>gR) (fun hf=>py) (fun ha=>h)
def HB {x y:Src}{fx fy:Bool}{k:IntKind}{a b:Int}(v:Int)(h:aA Y draw r env (⟨f,.int k v⟩::rs) nx m K)(hg:GF rs g f:=by exact cE)(hx:bV env rs x=⟨fx,.int k a⟩:=by exact rfl)(hy:bV env rs y=⟨fy,.int k b⟩:=by exact rfl)(kx:f=true->fx=true:=by exact bA)(ky:f=true->fy=true:=by exact bA)(hb:f=true->k.wrap (((BitVec.ofInt k.bits a)^^^(BitVec.ofInt k.bits b)).toNat)=v):aA Y draw (⟨.bin .xor x y,g⟩::r) env rs nx m K:=
 bD rfl hg _ (fun hf=>gR) (fun hf=>py) (fun ha=>h)
def zi {x y:Src}{fx fy:Bool}{k:IntKind}{a b:Int}(h:aA Y draw r env (⟨f,.bool (decide (a<b))⟩::rs) nx m K)(hg:GF rs g f:=by exact cE)(hx:bV env rs x=⟨fx,.int k a⟩:=by exact rfl)(hy:bV env rs y=⟨fy,.int k b⟩:=by exact rfl)(kx:f=true->fx=true:=by exact bA)(ky:f=true->fy=true:=by exact bA):aA Y draw (⟨.bin .lss x y,g⟩::r) env rs nx m K:=
 bD rfl hg _ (fun hf=>gR) (fun hf=>zL) (fun ha=>h)
def HD {x y:Src}{fx fy:Bool}{k:IntKind}{a b:Int}(h:aA Y draw r env (⟨f,.bool (decide (a<=b))⟩::rs) nx m K)(hg:GF rs g f:=by exact cE)(hx:bV env rs x=⟨fx,.int k a⟩:=by exact rfl)(hy:bV env rs y=⟨fy,.int k b⟩:=by exact rfl)(kx:f=true->fx=true:=by exact bA)(ky:f=true->fy=true:=by exact bA):aA Y draw (⟨.bin .leq x y,g⟩::r) env rs nx m K:=
 bD rfl hg _ (fun hf=>gR) (fun hf=>zL) (fun ha=>h)
def kQ {x y:Src}{fx fy:Bool}{k:IntKind}{a b:Int}(h:aA Y draw r env (⟨f,.bool (decide (b<a))⟩::rs) nx m K)(hg:GF rs g f:=by exact cE)(hx:bV env rs x=⟨fx,.int k a⟩:=by exact rfl)(hy:bV env rs y=⟨fy,.int k b⟩:=by exact rfl)(kx:f=true->fx=true:=by exact bA)(ky:f=true->fy=true:=by exact bA):aA Y draw (⟨.bin .gtr x y,g⟩::r) env rs nx m K:=
 bD rfl hg _ (fun hf=>gR) (fun hf=>zL) (fun ha=>h)
def HC {x y:Src}{fx fy:Bool}{k:IntKind}{a b:Int}(h:aA Y draw r env (⟨f,.bool (decide (b<=a))⟩::rs) nx m K)(hg:GF rs g f:=by exact cE)(hx:bV env rs x=⟨fx,.int k a⟩:=by exact rfl)(hy:bV env rs y=⟨fy,.int k b⟩:=by exact rfl)(kx:f=true->fx=true:=by exact bA)(ky:f=true->fy=true:=by exact bA):aA Y draw (⟨.bin .geq x y,g⟩::r) env rs nx m K:=
 bD rfl hg _ (fun hf=>gR) (fun hf=>zL) (fun ha=>h)
def OU {x y:Src}{fx fy:Bool}{k:IntKind}{a b:Int}(h:aA Y draw r env (⟨f,.bool (decide (a=b))⟩::rs) nx m K)(hg:GF rs g f:=by exact cE)(hx:bV env rs x=⟨fx,.int k a⟩:=by exact rfl)(hy:bV env rs y=⟨fy,.int k b⟩:=by exact rfl)(kx:f=true->fx=true:=by exact bA)(ky:f=true->fy=true:=by exact bA):aA Y draw (⟨.bin .eql x y,g⟩::r) env rs nx m K:=
 bD rfl hg _ (fun hf=>gR) (fun hf=>zL) (fun ha=>h)
def pg {x y:Src}{fx fy:Bool}{k:IntKind}{a b:Int}(h:aA Y draw r env (⟨f,.bool (!decide (a=b))⟩::rs) nx m K)(hg:GF rs g f:=by exact cE)(hx:bV env rs x=⟨fx,.int k a⟩:=by exact rfl)(hy:bV env rs y=⟨fy,.int k b⟩:=by exact rfl)(kx:f=true->fx=true:=by exact bA)(ky:f=true->fy=true:=by exact bA):aA Y draw (⟨.bin .neq x y,g⟩::r) env rs nx m K:=
 bD rfl hg _ (fun hf=>gR) (fun hf=>zL) (fun ha=>h)
def akb {x y:Src}{fx fy:Bool}{a b:List UInt8}(h:aA Y draw r env (⟨f,.bool (Op.bytesLess a b)⟩::rs) nx m K)(hg:GF rs g f:=by exact cE)(hx:bV env rs x=⟨fx,.str a⟩:=by exact rfl)(hy:bV env rs y=⟨fy,.str b⟩:=by exact rfl)(kx:f=true->fx=true:=by exact bA)(ky:f=true->fy=true:=by exact bA):aA Y draw (⟨.bin .lss x y,g⟩::r) env rs nx m K:=
 bD rfl hg _ (fun hf=>gR) (fun hf=>zK) (fun ha=>h)
def aka {x y:Src}{fx fy:Bool}{a b:List UInt8}(h:aA Y draw r env (⟨f,.bool (Op.bytesLess a b ||decide (a=b))⟩::rs) nx m K)(hg:GF rs g f:=by exact cE)(hx:bV env rs x=⟨fx,.str a⟩:=by exact rfl)(hy:bV env rs y=⟨fy,.str b⟩:=by exact rfl)(kx:f=true->fx=true:=by exact bA)(ky:f=true->fy=true:=by exact bA):aA Y draw (⟨.bin .leq x y,g⟩::r) env rs nx m K:=
 bD rfl hg _ (fun hf=>gR) (fun hf=>zK) (fun ha=>h)
def aj2 {x y:Src}{fx fy:Bool}{a b:List UInt8}(h:aA Y draw r env (⟨f,.bool (!(Op.bytesLess a b ||decide (a=b)))⟩::rs) nx m K)(hg:GF rs g f:=by exact cE)(hx:bV env rs x=⟨fx,.str a⟩:=by exact rfl)(hy:bV env rs y=⟨fy,.str b⟩:=by exact rfl)(kx:f=true->fx=true:=by exact bA)(ky:f=true->fy=true:=by exact bA):aA Y draw (⟨.bin .gtr x y,g⟩::r) env rs nx m K:=
 bD rfl hg _ (fun hf=>gR) (fun hf=>zK) (fun ha=>h)
def aj1 {x y:Src}{fx fy:Bool}{a b:List UInt8}(h:aA Y draw r env (⟨f,.bool (!Op.bytesLess a b)⟩::rs) nx m K)(hg:GF rs g f:=by exact cE)(hx:bV env rs x=⟨fx,.str a⟩:=by exact rfl)(hy:bV env rs y=⟨fy,.str b⟩:=by exact rfl)(kx:f=true->fx=true:=by exact bA)(ky:f=true->fy=true:=by exact bA):aA Y draw (⟨.bin .geq x y,g⟩::r) env rs nx m K:=
 bD rfl hg _ (fun hf=>gR) (fun hf=>zK) (fun ha=>h)
def Yz {x y:Src}{fx fy:Bool}{a b:List UInt8}(h:aA Y draw r env (⟨f,.bool (decide (a=b))⟩::rs) nx m K)(hg:GF rs g f:=by exact cE)(hx:bV env rs x=⟨fx,.str a⟩:=by exact rfl)(hy:bV env rs y=⟨fy,.str b⟩:=by exact rfl)(kx:f=true->fx=true:=by exact bA)(ky:f=true->fy=true:=by exact bA):aA Y draw (⟨.bin .eql x y,g⟩::r) env rs nx m K:=
 bD rfl hg _ (fun hf=>gR) (fun hf=>zK) (fun ha=>h)
def akc {x y:Src}{fx fy:Bool}{a b:List UInt8}(h:aA Y draw r env (⟨f,.bool (!decide (a=b))⟩::rs) nx m K)(hg:GF rs g f:=by exact cE)(hx:bV env rs x=⟨fx,.str a⟩:=by exact rfl)(hy:bV env rs y=⟨fy,.str b⟩:=by exact rfl)(kx:f=true->fx=true:=by exact bA)(ky:f=true->fy=true:=by exact bA):aA Y draw (⟨.bin .neq x y,g⟩::r) env rs nx m K:=
 bD rfl hg _ (fun hf=>gR) (fun hf=>zK) (fun ha=>h)
def OT {x y:Src}{fx fy:Bool}{a b:List UInt8}(h:aA Y draw r env (⟨f,.str (a++b)⟩::rs) nx m K)(hg:GF rs g f:=by exact cE)(hx:bV env rs x=⟨fx,.str a⟩:=by exact rfl)(hy:bV env rs y=⟨fy,.str b⟩:=by exact rfl)(kx:f=true->fx=true:=by exact bA)(ky:f=true->fy=true:=by exact bA)(hb:f=true->a.length+b.length<=9223372036854775807):aA Y draw (⟨.bin .add x y,g⟩::r) env rs nx m K:=
 bD rfl hg _ (fun hf=>by simp[ax.ey,hx,hy,kx hf,ky hf,AX,hb hf]) (fun hf=>by simp only[ax.val,hx,hy,ED]) (fun ha=>h)
def r_eqP {x y:Src}{fx fy:Bool}{ag:Bool}{ks:List CK}{a b:D}{v:Bool}(h:aA Y draw r env (⟨f,.bool (v)⟩::rs) nx m K)(hb:hR a.cells b.cells=v)(hg:GF rs g f:=by exact cE)(hx:bV env rs x=⟨fx,a⟩:=by exact rfl)(hy:bV env rs y=⟨fy,b⟩:=by exact rfl)(kx:f=true->fx=true:=by exact bA)(ky:f=true->fy=true:=by exact bA)(h1:f=true->a.isAgg=ag/\b.isAgg=ag/\fu ks a.cells/\fu ks b.cells:=by exact uJ):aA Y draw (⟨.eqA false ag ks x y,g⟩::r) env rs nx m K:=
 bD rfl hg _ (fun hf=>SJ) (fun hf=>by simp only[ax.val,hx,hy];rw[hb];rfl) (fun ha=>h)
def r_eqN {x y:Src}{fx fy:Bool}{ag:Bool}{ks:List CK}{a b:D}{v:Bool}(h:aA Y draw r env (⟨f,.bool (!v)⟩::rs) nx m K)(hb:hR a.cells b.cells=v)(hg:GF rs g f:=by exact cE)(hx:bV env rs x=⟨fx,a⟩:=by exact rfl)(hy:bV env rs y=⟨fy,b⟩:=by exact rfl)(kx:f=true->fx=true:=by exact bA)(ky:f=true->fy=true:=by exact bA)(h1:f=true->a.isAgg=ag/\b.isAgg=ag/\fu ks a.cells/\fu ks b.cells:=by exact uJ):aA Y draw (⟨.eqA true ag ks x y,g⟩::r) env rs nx m K:=
 bD rfl hg _ (fun hf=>SJ) (fun hf=>by simp only[ax.val,hx,hy];rw[hb];rfl) (fun ha=>h)
def pY {x:Src}{fx:Bool}{k k2:IntKind}{a:Int}(v:Int)(h:aA Y draw r env (⟨f,.int k v⟩::rs) nx m K)(hg:GF rs g f:=by exact cE)(hx:bV env rs x=⟨fx,.int k2 a⟩:=by exact rfl)(kx:f=true->fx=true:=by exact bA)(hb:f=true->k.wrap a=v):aA Y draw (⟨.cvi k x,g⟩::r) env rs nx m K:=
 bD rfl hg _ (fun hf=>ox) (fun hf=>by simp only[ax.val,hx];rw[hb hf]) (fun ha=>h)
def Dm {x:Src}{fx:Bool}{s:List UInt8}(h:(f=true->draw=false->s.length<=9223372036854775807)->aA Y draw r env (⟨f,.int .i64 s.length⟩::rs) nx m K)(hg:GF rs g f:=by exact cE)(hx:bV env rs x=⟨fx,.str s⟩:=by exact rfl)(kx:f=true->fx=true:=by exact bA):aA Y draw (⟨.lenS x,g⟩::r) env rs nx m K:=
 bD rfl hg _ (fun hf=>ox) (fun hf=>lQ) (fun ha=>h (fun hf hd=>Qn))
def Dl {x:Src}{fx:Bool}{α:Type}{k:Nat}{q:α->D}{xs:List α}(h:(f=true->draw=false->xs.length<=9223372036854775807)->aA Y draw r env (⟨f,.int .i64 xs.length⟩::rs) nx m K)(hg:GF rs g f:=by exact cE)(hx:bV env rs x=⟨fx,.sl k (xs.map q)⟩:=by exact rfl)(kx:f=true->fx=true:=by exact bA):aA Y draw (⟨.len x,g⟩::r) env rs nx m K:=
 bD rfl hg _ (fun hf=>ox) (fun hf=>lQ) (fun ha=>h (fun hf hd=>Qn))
def OX {x:Src}{fx:Bool}{l k i n:Nat}(h:(f=true->draw=false->n<=9223372036854775807)->aA Y draw r env (⟨f,.int .i64 n⟩::rs) nx m K)(hg:GF rs g f:=by exact cE)(hx:bV env rs x=⟨fx,.own l k i n⟩:=by exact rfl)(kx:f=true->fx=true:=by exact bA):aA Y draw (⟨.len x,g⟩::r) env rs nx m K:=
 bD rfl hg _ (fun hf=>ox) (fun hf=>lQ) (fun ha=>h (fun hf hd=>Qn))
def aj9 {x:Src}{fx:Bool}(h:aA Y draw r env (⟨f,.int .i64 0⟩::rs) nx m K)(hg:GF rs g f:=by exact cE)(hx:bV env rs x=⟨fx,.aJ⟩:=by exact rfl)(kx:f=true->fx=true:=by exact bA):aA Y draw (⟨.len x,g⟩::r) env rs nx m K:=
 bD rfl hg _ (fun hf=>ox) (fun hf=>lQ) (fun ha=>h)
def akd {x:Src}{fx:Bool}{l k i o:Nat}(h:aA Y draw r env (⟨f,.ptr l k i o⟩::rs) nx m K)(hg:GF rs g f:=by exact cE)(hx:bV env rs x=⟨fx,.ptr l k i o⟩:=by exact rfl)(kx:f=true->fx=true:=by exact bA):aA Y draw (⟨.nilck x,g⟩::r) env rs nx m K:=
 bD rfl hg _ (fun hf=>ox) (fun hf=>lQ) (fun ha=>h)
def ake {x:Src}{fx:Bool}{k i o:Nat}{es:List D}(h:aA Y draw r env (⟨f,.ref k es i o⟩::rs) nx m K)(hg:GF rs g f:=by exact cE)(hx:bV env rs x=⟨fx,.ref k es i o⟩:=by exact rfl)(kx:f=true->fx=true:=by exact bA):aA Y draw (⟨.nilck x,g⟩::r) env rs nx m K:=
 bD rfl hg _ (fun hf=>ox) (fun hf=>lQ) (fun ha=>h)
def RJ {x:Src}{fx:Bool}{off l k i o:Nat}(h:aA Y draw r env (⟨f,.ptr l k i (o+off)⟩::rs) nx m K)(hg:GF rs g f:=by exact cE)(hx:bV env rs x=⟨fx,.ptr l k i o⟩:=by exact rfl)(kx:f=true->fx=true:=by exact bA):aA Y draw (⟨.fa off x,g⟩::r) env rs nx m K:=
 bD rfl hg _ (fun hf=>ox) (fun hf=>lQ) (fun ha=>h)
def Am {x:Src}{fx:Bool}{off k i o:Nat}{es:List D}(h:aA Y draw r env (⟨f,.ref k es i (o+off)⟩::rs) nx m K)(hg:GF rs g f:=by exact cE)(hx:bV env rs x=⟨fx,.ref k es i o⟩:=by exact rfl)(kx:f=true->fx=true:=by exact bA):aA Y draw (⟨.fa off x,g⟩::r) env rs nx m K:=
 bD rfl hg _ (fun hf=>ox) (fun hf=>lQ) (fun ha=>h)
def cz {x y:Src}{fx fy:Bool}{α:Type}{k:Nat}{q:α->D}{xs:List α}{i:Int}{kk:IntKind}(j:Nat)(h:aA Y draw r env (⟨f,.ref k (xs.map q) j 0⟩::rs) nx m K)(hg:GF rs g f:=by exact cE)(hx:bV env rs x=⟨fx,.sl k (xs.map q)⟩:=by exact rfl)(hy:bV env rs y=⟨fy,.int kk i⟩:=by exact rfl)(kx:f=true->fx=true:=by exact bA)(ky:f=true->fy=true:=by exact bA)(hj:f=true->i=(j:Int):=by exact sV)(hb:f=true->j<xs.length:=by exact rL):aA Y draw (⟨.ia k x y,g⟩::r) env rs nx m K:=
 bD rfl hg _ (fun hf=>by simp only[ax.ey,hx,hy,bj];exact⟨kx hf,ky hf,trivial,J6,Qj⟩) (fun hf=>Kj) (fun ha=>h)
def sF {x y:Src}{fx fy:Bool}{l k i0 n:Nat}{i:Int}{kk:IntKind}(j:Nat)(h:aA Y draw r env (⟨f,.ptr l k (i0+j) 0⟩::rs) nx m K)(hg:GF rs g f:=by exact cE)(hx:bV env rs x=⟨fx,.own l k i0 n⟩:=by exact rfl)(hy:bV env rs y=⟨fy,.int kk i⟩:=by exact rfl)(kx:f=true->fx=true:=by exact bA)(ky:f=true->fy=true:=by exact bA)(hj:f=true->i=(j:Int):=by exact sV)(hb:f=true->j<n:=by exact rL):aA Y draw (⟨.ia k x y,g⟩::r) env rs nx m K:=
 bD rfl hg _ (fun hf=>by simp only[ax.ey,hx,hy];exact⟨kx hf,ky hf,trivial,J6,Qj⟩) (fun hf=>Kj) (fun ha=>h)
def OV {x y:Src}{fx fy:Bool}{l k k2 n i0 o:Nat}{i:Int}{kk:IntKind}(j:Nat)(h:aA Y draw r env (⟨f,.ptr l k2 i0 (o+j*k)⟩::rs) nx m K)(hg:GF rs g f:=by exact cE)(hx:bV env rs x=⟨fx,.ptr l k2 i0 o⟩:=by exact rfl)(hy:bV env rs y=⟨fy,.int kk i⟩:=by exact rfl)(kx:f=true->fx=true:=by exact bA)(ky:f=true->fy=true:=by exact bA)(hj:f=true->i=(j:Int):=by exact sV)(hb:f=true->j<n:=by exact rL):aA Y draw (⟨.iaP n k x y,g⟩::r) env rs nx m K:=
 bD rfl hg _ (fun hf=>aal) (fun hf=>Kj) (fun ha=>h)
def An {x y:Src}{fx fy:Bool}{s:List UInt8}{i:Int}{kk:IntKind}(j:Nat)(h:aA Y draw r env (⟨f,.int .u8 (at8 s j)⟩::rs) nx m K)(hg:GF rs g f:=by exact cE)(hx:bV env rs x=⟨fx,.str s⟩:=by exact rfl)(hy:bV env rs y=⟨fy,.int kk i⟩:=by exact rfl)(kx:f=true->fx=true:=by exact bA)(ky:f=true->fy=true:=by exact bA)(hj:f=true->i=(j:Int):=by exact sV)(hb:f=true->j<s.length:=by exact rL):aA Y draw (⟨.ixS x y,g⟩::r) env rs nx m K:=
 bD rfl hg _ (fun hf=>aal) (fun hf=>Kj) (fun ha=>h)
def r_ixA {x y:Src}{fx fy:Bool}{n k:Nat}{ag:Bool}{cs:List D}{i:Int}{kk:IntKind}(j:Nat)(v:D)(h:aA Y draw r env (⟨f,v⟩::rs) nx m K)(hg:GF rs g f:=by exact cE)(hx:bV env rs x=⟨fx,.agg cs⟩:=by exact rfl)(hy:bV env rs y=⟨fy,.int kk i⟩:=by exact rfl)(kx:f=true->fx=true:=by exact bA)(ky:f=true->fy=true:=by exact bA)(hj:f=true->i=(j:Int):=by exact sV)(hb:f=true->j<n:=by exact rL)(hl:cs.length=n*k:=by exact rfl)(h1:ag=false->k=1:=by intro h;first|exact rfl|cases h)(hv:f=true->cut cs (j*k) k ag=v):aA Y draw (⟨.ixA n k ag x y,g⟩::r) env rs nx m K:=
 bD rfl hg _ (fun hf=>by simp only[ax.ey,hx,hy];exact⟨kx hf,ky hf,h1,J6,Qj,hl⟩) (fun hf=>by simp only[ax.val,hx,hy];rw[<-hv hf,hj hf];rfl) (fun ha=>h)
def aj3 {x y:Src}{fx fy:Bool}{α:Type}{k:Nat}{q:α->D}{xs:List α}{i:Int}{kk:IntKind}(h:aA Y draw r env (⟨f,.ref k (xs.map q) i.toNat 0⟩::rs) nx m K)(hg:GF rs g f:=by exact cE)(hx:bV env rs x=⟨fx,.sl k (xs.map q)⟩:=by exact rfl)(hy:bV env rs y=⟨fy,.int kk i⟩:=by exact rfl)(kx:f=true->fx=true:=by exact bA)(ky:f=true->fy=true:=by exact bA)(hb:f=true->0<=i/\i<(xs.length:Nat):=by exact Iq):aA Y draw (⟨.ia k x y,g⟩::r) env rs nx m K:=
 bD rfl hg _ (fun hf=>by simp only[ax.ey,hx,hy,bj];exact⟨kx hf,ky hf,trivial,(hb hf).1,(hb hf).2⟩) (fun hf=>by simp only[ax.val,hx,hy]<;>rfl) (fun ha=>h)
def aj4 {x y:Src}{fx fy:Bool}{l k i0 n:Nat}{i:Int}{kk:IntKind}(h:aA Y draw r env (⟨f,.ptr l k (i0+i.toNat) 0⟩::rs) nx m K)(hg:GF rs g f:=by exact cE)(hx:bV env rs x=⟨fx,.own l k i0 n⟩:=by exact rfl)(hy:bV env rs y=⟨fy,.int kk i⟩:=by exact rfl)(kx:f=true->fx=true:=by exact bA)(ky:f=true->fy=true:=by exact bA)(hb:f=true->0<=i/\i<(n:Nat):=by exact Iq):aA Y draw (⟨.ia k x y,g⟩::r) env rs nx m K:=
 bD rfl hg _ (fun hf=>by simp only[ax.ey,hx,hy,bj];exact⟨kx hf,ky hf,trivial,(hb hf).1,(hb hf).2⟩) (fun hf=>by simp only[ax.val,hx,hy]<;>rfl) (fun ha=>h)
def YC {x y:Src}{fx fy:Bool}{s:List UInt8}{i:Int}{kk:IntKind}(h:aA Y draw r env (⟨f,.int .u8 (at8 s i.toNat)⟩::rs) nx m K)(hg:GF rs g f:=by exact cE)(hx:bV env rs x=⟨fx,.str s⟩:=by exact rfl)(hy:bV env rs y=⟨fy,.int kk i⟩:=by exact rfl)(kx:f=true->fx=true:=by exact bA)(ky:f=true->fy=true:=by exact bA)(hb:f=true->0<=i/\i<(s.length:Nat):=by exact Iq):aA Y draw (⟨.ixS x y,g⟩::r) env rs nx m K:=
 bD rfl hg _ (fun hf=>by simp only[ax.ey,hx,hy,bj];exact⟨kx hf,ky hf,(hb hf).1,(hb hf).2⟩) (fun hf=>by simp only[ax.val,hx,hy]<;>rfl) (fun ha=>h)
def YO {x y:Src}{fx fy:Bool}{s:List UInt8}{k2:IntKind}{a:Int}(i:Nat)(h:aA Y draw r env (⟨f,.str (s.drop i)⟩::rs) nx m K)(hg:GF rs g f:=by exact cE)(hx:bV env rs x=⟨fx,.str s⟩:=by exact rfl)(hy:bV env rs y=⟨fy,.int k2 a⟩:=by exact rfl)(kx:f=true->fx=true:=by exact bA)(ky:f=true->fy=true:=by exact bA)(hi:f=true->a=(i:Int):=by exact sV)(hb:f=true->i<=s.length:=by exact rL):aA Y draw (⟨.slS x (some y) none,g⟩::r) env rs nx m K:=
 bD rfl hg _ (fun hf=>by simp only[ax.ey,LG,dO,hx,hy];have:=hb hf;have:=hi hf;refine⟨kx hf,ky hf,trivial, ?_⟩;simp only[m9,dZ,dJ,dj,Int.ofNat_eq_natCast];omega) (fun hf=>by simp only[ax.val,dO,dZ,hx,hy];rw[hi hf];simp) (fun ha=>h)
def YJ {x y:Src}{fx fy:Bool}{α:Type}{k:Nat}{q:α->D}{s:List α}{k2:IntKind}{a:Int}(i:Nat)(h:aA Y draw r env (⟨f,.sl k ((s.drop i).map q)⟩::rs) nx m K)(hg:GF rs g f:=by exact cE)(hx:bV env rs x=⟨fx,.sl k (s.map q)⟩:=by exact rfl)(hy:bV env rs y=⟨fy,.int k2 a⟩:=by exact rfl)(kx:f=true->fx=true:=by exact bA)(ky:f=true->fy=true:=by exact bA)(hi:f=true->a=(i:Int):=by exact sV)(hb:f=true->i<=s.length:=by exact rL):aA Y draw (⟨.slA k x (some y) none,g⟩::r) env rs nx m K:=
 bD rfl hg _ (fun hf=>by simp only[ax.ey,LG,dO,hx,hy,bj];have:=hb hf;have:=hi hf;refine⟨kx hf,ky hf,trivial,trivial, ?_⟩;simp only[m9,dZ,dJ,dj,Int.ofNat_eq_natCast];omega) (fun hf=>by simp only[ax.val,dO,dZ,hx,hy];rw[hi hf];first|(simp only[List.take_length,Int.toNat_natCast,List.map_drop];done)|simp[List.map_drop,List.map_take]) (fun ha=>h)
def Dp {x y:Src}{fx fy:Bool}{l k i0 n:Nat}{k2:IntKind}{a:Int}(i:Nat)(h:aA Y draw r env (⟨f,.own l k (i0+i) (n-i)⟩::rs) nx m K)(hg:GF rs g f:=by exact cE)(hx:bV env rs x=⟨fx,.own l k i0 n⟩:=by exact rfl)(hy:bV env rs y=⟨fy,.int k2 a⟩:=by exact rfl)(kx:f=true->fx=true:=by exact bA)(ky:f=true->fy=true:=by exact bA)(hi:f=true->a=(i:Int):=by exact sV)(hb:f=true->i<=n:=by exact rL):aA Y draw (⟨.slA k x (some y) none,g⟩::r) env rs nx m K:=
 bD rfl hg _ (fun hf=>by simp only[ax.ey,LG,dO,hx,hy];have:=hb hf;have:=hi hf;refine⟨kx hf,ky hf,trivial,trivial, ?_⟩;simp only[m9,dZ,dJ,dj,Int.ofNat_eq_natCast];omega) (fun hf=>by simp only[ax.val,dO,dZ,hx,hy];rw[hi hf];simp) (fun ha=>h)
def YM {x z:Src}{fx fz:Bool}{s:List UInt8}{k3:IntKind}{c:Int}(j:Nat)(h:aA Y draw r env (⟨f,.str (s.take j)⟩::rs) nx m K)(hg:GF rs g f:=by exact cE)(hx:bV env rs x=⟨fx,.str s⟩:=by exact rfl)(hz:bV env rs z=⟨fz,.int k3 c⟩:=by exact rfl)(kx:f=true->fx=true:=by exact bA)(kz:f=true->fz=true:=by exact bA)(hj:f=true->c=(j:Int):=by exact sV)(hb:f=true->j<=s.length:=by exact rL):aA Y draw (⟨.slS x none (some z),g⟩::r) env rs nx m K:=
 bD rfl hg _ (fun hf=>by simp only[ax.ey,LG,dO,hx,hz];have:=hb hf;have:=hj hf;refine⟨kx hf,trivial,kz hf, ?_⟩;simp only[m9,dZ,dJ,dj,Int.ofNat_eq_natCast];omega) (fun hf=>by simp only[ax.val,dO,dZ,hx,hz];rw[hj hf];simp) (fun ha=>h)
def YH {x z:Src}{fx fz:Bool}{α:Type}{k:Nat}{q:α->D}{s:List α}{k3:IntKind}{c:Int}(j:Nat)(h:aA Y draw r env (⟨f,.sl k ((s.take j).map q)⟩::rs) nx m K)(hg:GF rs g f:=by exact cE)(hx:bV env rs x=⟨fx,.sl k (s.map q)⟩:=by exact rfl)(hz:bV env rs z=⟨fz,.int k3 c⟩:=by exact rfl)(kx:f=true->fx=true:=by exact bA)(kz:f=true->fz=true:=by exact bA)(hj:f=true->c=(j:Int):=by exact sV)(hb:f=true->j<=s.length:=by exact rL):aA Y draw (⟨.slA k x none (some z),g⟩::r) env rs nx m K:=
 bD rfl hg _ (fun hf=>by simp only[ax.ey,LG,dO,hx,hz,bj];have:=hb hf;have:=hj hf;refine⟨kx hf,trivial,kz hf,trivial, ?_⟩;simp only[m9,dZ,dJ,dj,Int.ofNat_eq_natCast];omega) (fun hf=>by simp only[ax.val,dO,dZ,hx,hz];rw[hj hf];first|(simp only[List.take_length,Int.toNat_natCast,List.map_drop];done)|simp[List.map_drop,List.map_take]) (fun ha=>h)
def YK {x z:Src}{fx fz:Bool}{l k i0 n:Nat}{k3:IntKind}{c:Int}(j:Nat)(h:aA Y draw r env (⟨f,.own l k i0 j⟩::rs) nx m K)(hg:GF rs g f:=by exact cE)(hx:bV env rs x=⟨fx,.own l k i0 n⟩:=by exact rfl)(hz:bV env rs z=⟨fz,.int k3 c⟩:=by exact rfl)(kx:f=true->fx=true:=by exact bA)(kz:f=true->fz=true:=by exact bA)(hj:f=true->c=(j:Int):=by exact sV)(hb:f=true->j<=n:=by exact rL):aA Y draw (⟨.slA k x none (some z),g⟩::r) env rs nx m K:=
 bD rfl hg _ (fun hf=>by simp only[ax.ey,LG,dO,hx,hz];have:=hb hf;have:=hj hf;refine⟨kx hf,trivial,kz hf,trivial, ?_⟩;simp only[m9,dZ,dJ,dj,Int.ofNat_eq_natCast];omega) (fun hf=>by simp only[ax.val,dO,dZ,hx,hz];rw[hj hf];simp) (fun ha=>h)
def YN {x y z:Src}{fx fy fz:Bool}{s:List UInt8}{k2:IntKind}{a:Int}(i:Nat){k3:IntKind}{c:Int}(j:Nat)(h:aA Y draw r env (⟨f,.str ((s.take j).drop i)⟩::rs) nx m K)(hg:GF rs g f:=by exact cE)(hx:bV env rs x=⟨fx,.str s⟩:=by exact rfl)(hy:bV env rs y=⟨fy,.int k2 a⟩:=by exact rfl)(hz:bV env rs z=⟨fz,.int k3 c⟩:=by exact rfl)(kx:f=true->fx=true:=by exact bA)(ky:f=true->fy=true:=by exact bA)(kz:f=true->fz=true:=by exact bA)(hi:f=true->a=(i:Int):=by exact sV)(hj:f=true->c=(j:Int):=by exact sV)(hb:f=true->i<=j/\j<=s.length:=by exact Iq):aA Y draw (⟨.slS x (some y) (some z),g⟩::r) env rs nx m K:=
 bD rfl hg _ (fun hf=>by simp only[ax.ey,LG,dO,hx,hy,hz];have:=hb hf;have:=hi hf;have:=hj hf;refine⟨kx hf,ky hf,kz hf, ?_⟩;simp only[m9,dZ,dJ,dj,Int.ofNat_eq_natCast];omega) (fun hf=>by simp only[ax.val,dO,dZ,hx,hy,hz];rw[hi hf,hj hf];simp) (fun ha=>h)
def YI {x y z:Src}{fx fy fz:Bool}{α:Type}{k:Nat}{q:α->D}{s:List α}{k2:IntKind}{a:Int}(i:Nat){k3:IntKind}{c:Int}(j:Nat)(h:aA Y draw r env (⟨f,.sl k (((s.take j).drop i).map q)⟩::rs) nx m K)(hg:GF rs g f:=by exact cE)(hx:bV env rs x=⟨fx,.sl k (s.map q)⟩:=by exact rfl)(hy:bV env rs y=⟨fy,.int k2 a⟩:=by exact rfl)(hz:bV env rs z=⟨fz,.int k3 c⟩:=by exact rfl)(kx:f=true->fx=true:=by exact bA)(ky:f=true->fy=true:=by exact bA)(kz:f=true->fz=true:=by exact bA)(hi:f=true->a=(i:Int):=by exact sV)(hj:f=true->c=(j:Int):=by exact sV)(hb:f=true->i<=j/\j<=s.length:=by exact Iq):aA Y draw (⟨.slA k x (some y) (some z),g⟩::r) env rs nx m K:=
 bD rfl hg _ (fun hf=>by simp only[ax.ey,LG,dO,hx,hy,hz,bj];have:=hb hf;have:=hi hf;have:=hj hf;refine⟨kx hf,ky hf,kz hf,trivial, ?_⟩;simp only[m9,dZ,dJ,dj,Int.ofNat_eq_natCast];omega) (fun hf=>by simp only[ax.val,dO,dZ,hx,hy,hz];rw[hi hf,hj hf];first|(simp only[List.take_length,Int.toNat_natCast,List.map_drop];done)|simp[List.map_drop,List.map_take]) (fun ha=>h)
def YL {x y z:Src}{fx fy fz:Bool}{l k i0 n:Nat}{k2:IntKind}{a:Int}(i:Nat){k3:IntKind}{c:Int}(j:Nat)(h:aA Y draw r env (⟨f,.own l k (i0+i) (j-i)⟩::rs) nx m K)(hg:GF rs g f:=by exact cE)(hx:bV env rs x=⟨fx,.own l k i0 n⟩:=by exact rfl)(hy:bV env rs y=⟨fy,.int k2 a⟩:=by exact rfl)(hz:bV env rs z=⟨fz,.int k3 c⟩:=by exact rfl)(kx:f=true->fx=true:=by exact bA)(ky:f=true->fy=true:=by exact bA)(kz:f=true->fz=true:=by exact bA)(hi:f=true->a=(i:Int):=by exact sV)(hj:f=true->c=(j:Int):=by exact sV)(hb:f=true->i<=j/\j<=n:=by exact Iq):aA Y draw (⟨.slA k x (some y) (some z),g⟩::r) env rs nx m K:=
 bD rfl hg _ (fun hf=>by simp only[ax.ey,LG,dO,hx,hy,hz];have:=hb hf;have:=hi hf;have:=hj hf;refine⟨kx hf,ky hf,kz hf,trivial, ?_⟩;simp only[m9,dZ,dJ,dj,Int.ofNat_eq_natCast];omega) (fun hf=>by simp only[ax.val,dO,dZ,hx,hy,hz];rw[hi hf,hj hf];simp) (fun ha=>h)
def kP {x:Src}{fx:Bool}{i:Nat}{ds:List D}(v:D)(h:aA Y draw r env (⟨f,v⟩::rs) nx m K)(hg:GF rs g f:=by exact cE)(hx:bV env rs x=⟨fx,.tup ds⟩:=by exact rfl)(kx:f=true->fx=true:=by exact bA)(hv:f=true->ds.getD i .any=v:=by exact fun _=>rfl)(hb:f=true->i<ds.length:=by intro _;simp only[bE,b7];omega):aA Y draw (⟨.ext x i,g⟩::r) env rs nx m K:=
 bD rfl hg _ (fun hf=>by simp only[ax.ey,hx];exact⟨kx hf,hb hf⟩) (fun hf=>by simp only[ax.val,hx];exact hv hf) (fun ha=>h)
def bM {z:List D}{ps:List (Nat×Nat×Src)}(v:List D)(h:aA Y draw r env (⟨f,.agg v⟩::rs) nx m K)(hg:GF rs g f:=by exact cE)(hv:f=true->Ch (bV env rs) z ps=v:=by exact fun _=>rfl)(ho:f=true->zX (bV env rs) z.length ps:=by exact uJ):aA Y draw (⟨.build z ps,g⟩::r) env rs nx m K:=
 bD rfl hg _ (fun hf=>ho hf) (fun hf=>by simp only[ax.val];rw[hv hf]) (fun _=>h)
def bg {z:List D}{ps:List (Nat×Nat×Src)}(d:D)(h:aA Y draw r env (⟨f,d⟩::rs) nx m K)(hg:GF rs g f:=by exact cE)(hv:f=true->D.agg (Ch (bV env rs) z ps)=d:=by exact fun _=>rfl)(ho:f=true->zX (bV env rs) z.length ps:=by exact uJ):aA Y draw (⟨.build z ps,g⟩::r) env rs nx m K:=
 bD rfl hg _ (fun hf=>ho hf) (fun hf=>by simp only[ax.val];exact hv hf) (fun _=>h)
def aiS {e:D}{n o:Nat}{ag:Bool}(h:e.isAgg=ag):kK e n n o ag=e:=by simp[kK,h]
def mc {x:Src}{fx:Bool}{n l:Nat}{ag:Bool}{d:D}(h:aA Y draw r env (⟨f,d⟩::rs) nx m K)(hg:GF rs g f:=by exact cE)(hx:bV env rs x=⟨fx,.ptr l n 0 0⟩:=by exact rfl)(kx:f=true->fx=true:=by exact bA)(hl:f=true->look m l=some (.buf n [d]):=by exact fun _=>rfl)(ha:f=true->d.isAgg=ag:=by exact fun _=>rfl):aA Y draw (⟨.ld n ag x,g⟩::r) env rs nx m K:=
 gv rfl hg _ (fun hf=>by simp only[ax.ey,hx,Lm,dW,hl hf];exact⟨kx hf,⟨trivial,aG⟩,ae⟩) (fun hf=>by simp only[ax.val,hx,Ln,aH,hl hf,iQ];exact aiS (ha hf)) m rfl (fun ha=>h)
def pZ {x:Src}{fx:Bool}{n l k o:Nat}{ag:Bool}{d:D}(v:D)(h:aA Y draw r env (⟨f,v⟩::rs) nx m K)(hg:GF rs g f:=by exact cE)(hx:bV env rs x=⟨fx,.ptr l k 0 o⟩:=by exact rfl)(kx:f=true->fx=true:=by exact bA)(hl:f=true->look m l=some (.buf k [d]):=by exact fun _=>rfl)(hv:f=true->kK d k n o ag=v:=by exact fun _=>rfl)(ho:o+n<=k:=by omega):aA Y draw (⟨.ld n ag x,g⟩::r) env rs nx m K:=
 gv rfl hg _ (fun hf=>by simp only[ax.ey,hx,Lm,dW,hl hf];exact⟨kx hf,⟨trivial,aG⟩,ho⟩) (fun hf=>Qm) m rfl (fun ha=>h)
def oS {x:Src}{fx:Bool}{α:Type} [Inhabited α]{n l k i o:Nat}{ag:Bool}{q:α->D}{xs:List α}(v:D)(h:aA Y draw r env (⟨f,v⟩::rs) nx m K)(hg:GF rs g f:=by exact cE)(hx:bV env rs x=⟨fx,.ptr l k i o⟩:=by exact rfl)(kx:f=true->fx=true:=by exact bA)(hl:f=true->look m l=some (.buf k (xs.map q)):=by exact fun _=>rfl)(hi:f=true->i<xs.length:=by exact rL)(hv:f=true->kK (q xs[i]!) k n o ag=v:=by exact fun _=>rfl)(ho:o+n<=k:=by omega):aA Y draw (⟨.ld n ag x,g⟩::r) env rs nx m K:=
 gv rfl hg _ (fun hf=>by simp only[ax.ey,hx,Lm,dW,hl hf,bj];exact⟨kx hf,⟨trivial,by have:=hi hf;omega⟩,ho⟩) (fun hf=>by simp only[ax.val,hx,Ln,aH,hl hf];rw[getD_map (hi hf)];exact hv hf) m rfl (fun ha=>h)
def c8 {x:Src}{fx:Bool}{α:Type} [Inhabited α]{n k i o:Nat}{ag:Bool}{q:α->D}{xs:List α}(v:D)(h:aA Y draw r env (⟨f,v⟩::rs) nx m K)(hg:GF rs g f:=by exact cE)(hx:bV env rs x=⟨fx,.ref k (xs.map q) i o⟩:=by exact rfl)(kx:f=true->fx=true:=by exact bA)(hi:f=true->i<xs.length:=by exact rL)(hv:f=true->kK (q xs[i]!) k n o ag=v:=by exact fun _=>rfl)(ho:o+n<=k:=by omega):aA Y draw (⟨.ld n ag x,g⟩::r) env rs nx m K:=
 gv rfl hg _ (fun hf=>aax) (fun hf=>aat) m rfl (fun ha=>h)
def r_ldQ {x:Src}{fx:Bool}{n k i o:Nat}{ag:Bool}{es:List D}(v:D)(h:aA Y draw r env (⟨f,v⟩::rs) nx m K)(hg:GF rs g f:=by exact cE)(hx:bV env rs x=⟨fx,.ref k es i o⟩:=by exact rfl)(kx:f=true->fx=true:=by exact bA)(hi:f=true->i<es.length:=by intro _;simp only[bE,b7];omega)(hv:f=true->kK (es.getD i .any) k n o ag=v:=by exact fun _=>rfl)(ho:o+n<=k:=by omega):aA Y draw (⟨.ld n ag x,g⟩::r) env rs nx m K:=
 gv rfl hg _ (fun hf=>Qh) (fun hf=>J2) m rfl (fun ha=>h)
def YD {x:Src}{fx:Bool}{n k i o:Nat}{ag:Bool}{es:List D}(v:D)(h:aA Y draw r env (⟨f,v⟩::rs) nx m K)(hg:GF rs g f:=by exact cE)(hx:bV env rs x=⟨fx,.ref k es i o⟩:=by exact rfl)(kx:f=true->fx=true:=by exact bA)(hi:f=true->i<es.length:=by intro _;simp only[bE,b7];omega)(hv:f=true->kK (es.getD i .any) k n o ag=v:=by exact fun _=>rfl)(ho:o+n<=k:=by omega):aA Y draw (⟨.ldI n ag x,g⟩::r) env rs nx m K:=
 bD rfl hg _ (fun hf=>Qh) (fun hf=>J2) (fun ha=>h)
def xX {x:Src}{fx:Bool}{k:Nat}{d:D}{L:Nat}{m2:List (Nat×bm)}(h:aA Y draw r env (⟨f,.ptr L k 0 0⟩::rs) nx m2 K)(hg:GF rs g f:=by exact cE)(hx:bV env rs x=⟨fx,d⟩:=by exact rfl)(kx:f=true->fx=true:=by exact bA)(hc:d.cells.length=k:=by exact rfl)(hL:nx+rs.length=L:=by exact zB)(hm:cL m L (.buf k [d])=m2:=by simp only[cL,cQ,Nat.reduceEqDiff,aZ,aU,Nat.reduceAdd,reduceCtorEq];exact rfl):aA Y draw (⟨.box k x,g⟩::r) env rs nx m K:=
 gv rfl hg _ (fun hf=>by simp only[ax.ey,hx];exact⟨kx hf,hc⟩) (fun hf=>by simp only[ax.val,hx,hL]) _ (by simp only[ax.bP,hx,hL];exact hm) (fun _=>h)
def r_mkB {L:Nat}{m2:List (Nat×bm)}(h:aA Y draw r env (⟨f,.ptr L 2 0 0⟩::rs) nx m2 K)(hg:GF rs g f:=by exact cE)(hL:nx+rs.length=L:=by exact zB)(hm:cL m L (.bld none 0 false)=m2:=by simp only[cL,cQ,Nat.reduceEqDiff,aZ,aU,Nat.reduceAdd,reduceCtorEq];exact rfl):aA Y draw (⟨.mkB,g⟩::r) env rs nx m K:=
 gv rfl hg _ (fun _=>trivial) (fun hf=>by simp only[ax.val,hL]) _ (by simp only[ax.bP,hL];exact hm) (fun _=>h)
def r_s2b {x:Src}{fx:Bool}{s:List UInt8}{L:Nat}{m2:List (Nat×bm)}(h:aA Y draw r env (⟨f,.own L 1 0 s.length⟩::rs) nx m2 K)(hg:GF rs g f:=by exact cE)(hx:bV env rs x=⟨fx,.str s⟩:=by exact rfl)(kx:f=true->fx=true:=by exact bA)(hL:nx+rs.length=L:=by exact zB)(hm:cL m L (.buf 1 (s.map fun b=>.int .u8 b.toNat))=m2:=by simp only[cL,cQ,Nat.reduceEqDiff,aZ,aU,Nat.reduceAdd,reduceCtorEq];exact rfl):aA Y draw (⟨.s2b x,g⟩::r) env rs nx m K:=
 gv rfl hg _ (fun hf=>by simp only[ax.ey,hx];exact⟨kx hf,trivial⟩) (fun hf=>by simp only[ax.val,hx,hL]) _ (by simp only[ax.bP,hx,hL];exact hm) (fun _=>h)
def r_rng {x:Src}{fx:Bool}{s:List UInt8}{L:Nat}{m2:List (Nat×bm)}(h:aA Y draw r env (⟨f,.it L⟩::rs) nx m2 K)(hg:GF rs g f:=by exact cE)(hx:bV env rs x=⟨fx,.str s⟩:=by exact rfl)(kx:f=true->fx=true:=by exact bA)(hL:nx+rs.length=L:=by exact zB)(hm:cL m L (.iter s 0)=m2:=by simp only[cL,cQ,Nat.reduceEqDiff,aZ,aU,Nat.reduceAdd,reduceCtorEq];exact rfl):aA Y draw (⟨.rng x,g⟩::r) env rs nx m K:=
 gv rfl hg _ (fun hf=>by simp only[ax.ey,hx];exact⟨kx hf,trivial⟩) (fun hf=>by simp only[ax.val,hx,hL]) _ (by simp only[ax.bP,hx,hL];exact hm) (fun _=>h)
def ba {k n:Nat}{z:D}{ps:List (Nat×Src)}{L:Nat}{m2:List (Nat×bm)}(es:List D)(h:aA Y draw r env (⟨f,.own L k 0 n⟩::rs) nx m2 K)(hg:GF rs g f:=by exact cE)(he:lV (bV env rs) (List.replicate n z) ps=es:=by exact rfl)(ho:f=true->qz (bV env rs) k n ps:=by exact uJ)(hz:z.cells.length=k:=by exact rfl)(hL:nx+rs.length=L:=by exact zB)(hm:cL m L (.buf k es)=m2:=by simp only[cL,cQ,Nat.reduceEqDiff,aZ,aU,Nat.reduceAdd,reduceCtorEq];exact rfl):aA Y draw (⟨.bsl k z n ps,g⟩::r) env rs nx m K:=
 gv rfl hg _ (fun hf=>⟨hz,ho hf⟩) (fun hf=>by simp only[ax.val,hL]) _ (by simp only[ax.bP,he,hL];exact hm) (fun _=>h)
def YF {k:Nat}{z:D}{x y:Src}{k1 k2:IntKind}{a c:Int}{L:Nat}{m2:List (Nat×bm)}(n:Nat)(h:aA Y draw r env (⟨true,.own L k 0 n⟩::rs) nx m2 K)(hx:bV env rs x=⟨true,.int k1 a⟩:=by exact rfl)(hy:bV env rs y=⟨true,.int k2 c⟩:=by exact rfl)(hn:a=(n:Int):=by first|exact rfl|omega)(hc:a<=c/\c<=1073741824:=by constructor<;>omega)(hz:z.cells.length=k:=by exact rfl)(hL:nx+rs.length=L:=by exact zB)(hm:cL m L (.buf k (List.replicate n z))=m2:=by simp only[cL,cQ,Nat.reduceEqDiff,aZ,aU,Nat.reduceAdd,reduceCtorEq];exact rfl):aA Y draw (⟨.mks k z x y,none⟩::r) env rs nx m K:=
 ph rfl _ (by simp only[ax.ey,hx,hy];exact⟨trivial,trivial,hz,ae,hc.1,hc.2⟩) (by simp only[ax.val,hx,hL,D.nat,hn];rfl) _ (by simp only[ax.bP,hx,hL,D.nat,hn];exact hm) (fun _=>h)
def bS {n l k o:Nat}{x y:Src}{d v:D}{m2:List (Nat×bm)}(e:D)(h:aA Y draw r env (⟨true,.any⟩::rs) nx m2 K)(hx:bV env rs x=⟨true,.ptr l k 0 o⟩:=by exact rfl)(hy:bV env rs y=⟨true,v⟩:=by exact rfl)(hl:look m l=some (.buf k [d]):=by exact rfl)(hc:v.cells.length=n:=by exact rfl)(he:qb d k n o v=e:=by exact rfl)(ho:o+n<=k:=by omega)(hm:cL m l (.buf k [e])=m2:=by simp only[cL,cQ,Nat.reduceEqDiff,aZ,aU,Nat.reduceAdd,reduceCtorEq];exact rfl):aA Y draw (⟨.st n x y,none⟩::r) env rs nx m K:=
 ph rfl _ (by simp only[ax.ey,hx,hy,dW,hl];exact⟨trivial,trivial,hc,⟨trivial,aG⟩,ho⟩) rfl _ (by simp only[ax.bP,hx,hy,aH,hl,iQ,List.set_cons_zero,he];exact hm) (fun _=>h)
def ae5 {n l k o:Nat}{x y:Src}{qs:List Src}{d v:D}{m2:List (Nat×bm)}(e:D)(h:aA Y draw r env (⟨true,.any⟩::rs) nx m2 K)(hx:bV env rs x=⟨true,.ptr l k 0 o⟩:=by exact rfl)(hy:bV env rs y=⟨true,v⟩:=by exact rfl)(hl:look m l=some (.buf k [d]):=by exact rfl)(hc:v.cells.length=n:=by exact rfl)(he:qb d k n o v=e:=by exact rfl)(ho:o+n<=k:=by omega)(hw:k<=4:=by omega)(hm:cL m l (.buf k [e])=m2:=by simp only[cL,cQ,Nat.reduceEqDiff,aZ,aU,Nat.reduceAdd,reduceCtorEq];exact rfl):aA Y draw (⟨.stU n x y qs,none⟩::r) env rs nx m K:=
 ph rfl _ (by simp only[ax.ey,hx,hy,dW,hl];exact⟨trivial,trivial,hc,⟨trivial,aG⟩,ho,.inl hw⟩) rfl _ (by simp only[ax.bP,hx,hy,aH,hl,iQ,List.set_cons_zero,he];exact hm) (fun _=>h)
def kg {n l k i o:Nat}{x y:Src}{v:D}{es:List D}{m2:List (Nat×bm)}(es2:List D)(h:aA Y draw r env (⟨true,.any⟩::rs) nx m2 K)(hx:bV env rs x=⟨true,.ptr l k i o⟩:=by exact rfl)(hy:bV env rs y=⟨true,v⟩:=by exact rfl)(hl:look m l=some (.buf k es):=by exact rfl)(hi:i<es.length)(hc:v.cells.length=n:=by exact rfl)(he:es.set i (qb (es.getD i .any) k n o v)=es2)(ho:o+n<=k:=by omega)(hm:cL m l (.buf k es2)=m2:=by simp only[cL,cQ,Nat.reduceEqDiff,aZ,aU,Nat.reduceAdd,reduceCtorEq];exact rfl):aA Y draw (⟨.st n x y,none⟩::r) env rs nx m K:=
 ph rfl _ (by simp only[ax.ey,hx,hy,dW,hl];exact⟨trivial,trivial,hc,⟨trivial,ae⟩,ho⟩) rfl _ (by simp only[ax.bP,hx,hy,aH,hl,he];exact hm) (fun _=>h)
def lT (m:List (Nat×bm))(k:Nat)(d:D)(ys:List D):Prop:=Cc m k d/\qn m d=ys
def lT.sl {k:Nat}{es:List D}:lT m k (.sl k es) es:=⟨rfl,rfl⟩
def lT.aJ {k:Nat}:lT m k .aJ []:=⟨trivial,rfl⟩
def lT.own {l k i n:Nat}{es:List D}(hl:look m l=some (.buf k es))(hb:i+n<=es.length):lT m k (.own l k i n) ((es.drop i).take n):=⟨⟨rfl,by simp only[dW,hl];exact⟨trivial,hb⟩⟩,by simp only[qn,aH,hl]⟩
def lT.all {l k n:Nat}{es:List D}(hl:look m l=some (.buf k es))(hb:n=es.length):lT m k (.own l k 0 n) es:=by
 have:=lT.own (i:=0) (n:=n) hl ae;simpa[hb]using this
def lT.str {s:List UInt8}:lT m 1 (.str s) (s.map fun b=>.int .u8 b.toNat):=⟨rfl,rfl⟩
def sE {k n:Nat}{x y:Src}{d:D}{ys:List D}{L:Nat}{m2:List (Nat×bm)}(h:aA Y draw r env (⟨true,.own L k 0 n⟩::rs) nx m2 K)(hx:bV env rs x=⟨true,.aJ⟩:=by exact rfl)(hy:bV env rs y=⟨true,d⟩:=by exact rfl)(he:lT m k d ys)(hn:ys.length=n)(hb:n<=1073741824:=by omega)(hL:nx+rs.length=L:=by exact zB)(hm:cL m L (.buf k ys)=m2:=by simp only[cL,cQ,Nat.reduceEqDiff,aZ,aU,Nat.reduceAdd,reduceCtorEq];exact rfl):aA Y draw (⟨.app k x y,none⟩::r) env rs nx m K:=
 ph rfl _ (by simp only[ax.ey,hx,hy,he.2,hn];exact⟨trivial,trivial,he.1,hb⟩) (by simp only[ax.val,hx,hy,he.2,hn,hL]) _ (by simp only[ax.bP,hx,hy,he.2,hL];exact hm) (fun _=>h)
def xW {k n:Nat}{y:Src}{fy:Bool}{d:D}{ys:List D}{L:Nat}{m2:List (Nat×bm)}(h:aA Y draw r env (⟨f,.own L k 0 n⟩::rs) nx m2 K)(hg:GF rs g f:=by exact cE)(hy:bV env rs y=⟨fy,d⟩:=by exact rfl)(ky:f=true->fy=true:=by exact bA)(he:lT m k d ys)(hn:ys.length=n)(hb:n<=1073741824:=by omega)(hL:nx+rs.length=L:=by exact zB)(hm:cL m L (.buf k ys)=m2:=by simp only[cL,cQ,Nat.reduceEqDiff,aZ,aU,Nat.reduceAdd,reduceCtorEq];exact rfl):aA Y draw (⟨.appN k y,g⟩::r) env rs nx m K:=
 gv rfl hg _ (fun hf=>by simp only[ax.ey,hy,he.2,hn];exact⟨ky hf,he.1,hb⟩) (fun hf=>by simp only[ax.val,hy,he.2,hn,hL]) _ (by simp only[ax.bP,hy,he.2,hL];exact hm) (fun _=>h)
def rv {k l i a n:Nat}{x y:Src}{d:D}{xs ys:List D}{L:Nat}{m2:List (Nat×bm)}(zs:List D)(h:aA Y draw r env (⟨true,.own L k 0 n⟩::rs) nx m2 K)(hx:bV env rs x=⟨true,.own l k i a⟩:=by exact rfl)(hy:bV env rs y=⟨true,d⟩:=by exact rfl)(hl:look m l=some (.buf k xs):=by exact rfl)(ha:i+a<=xs.length)(he:lT m k d ys)(hz:(xs.drop i).take a++ys=zs)(hn:a+ys.length=n)(hb:n<=1073741824:=by omega)(hL:nx+rs.length=L:=by exact zB)(hm:cL (cQ m l) L (.buf k zs)=m2:=by simp only[cL,cQ,Nat.reduceEqDiff,aZ,aU,Nat.reduceAdd,reduceCtorEq];exact rfl):aA Y draw (⟨.app k x y,none⟩::r) env rs nx m K:=
 ph rfl _ (by simp only[ax.ey,hx,hy,he.2,dW,hl,hn];exact⟨trivial,trivial,he.1,trivial,⟨trivial,ha⟩,hb⟩) (by simp only[ax.val,hx,hy,he.2,hn,hL]) _ (by simp only[ax.bP,hx,hy,he.2,aH,hl,hz,hL];exact hm) (fun _=>h)
def cJ {α:Type}{q:α->D}{xs:List α}{e:α}{k l ly:Nat}{x y:Src}{L:Nat}{m2:List (Nat×bm)}(h:aA Y draw r env (⟨true,.own L k 0 (xs++[e]).length⟩::rs) nx m2 K)(hx:bV env rs x=⟨true,.own l k 0 xs.length⟩:=by exact rfl)(hy:bV env rs y=⟨true,.own ly k 0 1⟩:=by exact rfl)(hl:look m l=some (.buf k (xs.map q)):=by exact rfl)(he:look m ly=some (.buf k [q e]):=by exact rfl)(hb:xs.length+1<=1073741824:=by omega)(hL:nx+rs.length=L:=by exact zB)(hm:cL (cQ m l) L (.buf k ((xs++[e]).map q))=m2:=by simp only[cL,cQ,Nat.reduceEqDiff,aZ,aU,Nat.reduceAdd,reduceCtorEq];exact rfl):aA Y draw (⟨.app k x y,none⟩::r) env rs nx m K:=
 rv (zs:=(xs++[e]).map q) (hx:=hx) (hy:=hy) (hl:=hl) (ha:=aG) (he:=lT.all (es:=[q e]) he rfl) (hz:=by rw[cT,eU aG];simp) (hn:=aG) (hb:=dN) (hL:=hL) (hm:=hm) (h:=h)
def pf {α:Type}{q:α->D}{xs ys:List α}{k l:Nat}{x y:Src}{d:D}{L:Nat}{m2:List (Nat×bm)}(h:aA Y draw r env (⟨true,.own L k 0 (xs++ys).length⟩::rs) nx m2 K)(hx:bV env rs x=⟨true,.own l k 0 xs.length⟩:=by exact rfl)(hy:bV env rs y=⟨true,d⟩:=by exact rfl)(hl:look m l=some (.buf k (xs.map q)):=by exact rfl)(he:lT m k d (ys.map q))(hb:xs.length+ys.length<=1073741824:=by omega)(hL:nx+rs.length=L:=by exact zB)(hm:cL (cQ m l) L (.buf k ((xs++ys).map q))=m2:=by simp only[cL,cQ,Nat.reduceEqDiff,aZ,aU,Nat.reduceAdd,reduceCtorEq];exact rfl):aA Y draw (⟨.app k x y,none⟩::r) env rs nx m K:=
 rv (zs:=(xs++ys).map q) (hx:=hx) (hy:=hy) (hl:=hl) (ha:=aG) (he:=he) (hz:=by rw[cT,eU aG];simp) (hn:=aG) (hb:=dN) (hL:=hL) (hm:=hm) (h:=h)
def Yw {x:Src}{fx:Bool}{d:D}{ys:List D}(s:List UInt8)(h:aA Y draw r env (⟨f,.str s⟩::rs) nx m K)(hg:GF rs g f:=by exact cE)(hx:bV env rs x=⟨fx,d⟩:=by exact rfl)(kx:f=true->fx=true:=by exact bA)(he:f=true->lT m 1 d ys)(hs:f=true->ys=s.map fun b=>.int .u8 b.toNat)(hd:d.aiJ=false:=by exact rfl):aA Y draw (⟨.b2s x,g⟩::r) env rs nx m K:=
 gv rfl hg _ (fun hf=>by
  simp only[ax.ey,hx,(he hf).2,hs hf];refine⟨kx hf,(by cases d<;>first|trivial|(cases hd)),(he hf).1,fun e hm=>?_⟩;obtain⟨b,_,rfl⟩:=cC.1 hm;have:=b.toNat_lt;exact⟨rfl,ae,ae⟩) (fun hf=>by simp only[ax.val,hx,(he hf).2,hs hf];rw[abm]) m rfl (fun _=>h)
def HF {x:Src}{l pos:Nat}{s:List UInt8}{m2:List (Nat×bm)}(c w:Nat)(h:aA Y draw r env (⟨true,.tup [.bool true,.int .i64 pos,.int .i32 c]⟩::rs) nx m2 K)(hx:bV env rs x=⟨true,.it l⟩:=by exact rfl)(hl:look m l=some (.iter s pos):=by exact rfl)(hp:pos<s.length)(hc:yM s pos=(c,w))(hm:cL m l (.iter s (pos+w))=m2:=by simp only[cL,cQ,Nat.reduceEqDiff,aZ,aU,Nat.reduceAdd,reduceCtorEq];exact rfl):aA Y draw (⟨.aS x,none⟩::r) env rs nx m K:=
 ph rfl _ (by simp only[ax.ey,hx,hl];exact⟨trivial,trivial⟩) (by simp only[ax.val,hx,hl,hc,hp,decide_true,cond_true]) _ (by simp only[ax.bP,hx,hl,hc,hp,decide_true,cond_true];exact hm) (fun _=>h)
def HE {x:Src}{l pos:Nat}{s:List UInt8}(h:aA Y draw r env (⟨true,.tup [.bool false]⟩::rs) nx m K)(hx:bV env rs x=⟨true,.it l⟩:=by exact rfl)(hl:look m l=some (.iter s pos):=by exact rfl)(hp:¬pos<s.length):aA Y draw (⟨.aS x,none⟩::r) env rs nx m K:=
 ph rfl _ (by simp only[ax.ey,hx,hl];exact⟨trivial,trivial⟩) (by simp only[ax.val,hx,hl,hp,decide_false,cond_false]) _ (by simp only[ax.bP,hx,hl,hp,decide_false,cond_false]) (fun _=>h)
def aB {n:Nat}{args:List Src}{sh:List (List Sh)}{aE4:List D}{v:D}(h:aA Y draw r env (⟨f,v⟩::rs) nx m K)(hg:GF rs g f:=by exact cE)(hc:Y.pre n aE4/\Y.val n aE4=v)(ha:f=true->jf m sh (iM (bV env rs) args)=aE4:=by exact fun _=>rfl)(ho:f=true->BJ (bV env rs) args:=by exact uJ)(hp:f=true->iU m sh (iM (bV env rs) args):=by exact uJ)(hk:f=true->qu (iM (bV env rs) args) v=true:=by exact fun _=>rfl):aA Y draw (⟨.call n args sh,g⟩::r) env rs nx m K:=
 gv rfl hg _ (fun hf=>by simp only[ax.ey,(dz _ _ _).1,ha hf,hc.2];exact⟨ho hf,(dz _ _ _).2.2 (hp hf),hc.1,hk hf⟩) (fun hf=>by simp only[ax.val,(dz _ _ _).1,ha hf,hc.2]) m rfl (fun _=>h)
def bQ {n:Nat}{args:List Src}{sh:List (List Sh)}{aE4:List D}{v:D}(h:aA Y draw r env (⟨f,v⟩::rs) nx m K)(hg:GF rs g f:=by exact cE)(hc:f=true->Y.pre n aE4/\Y.val n aE4=v)(ha:f=true->jf m sh (iM (bV env rs) args)=aE4:=by exact fun _=>rfl)(ho:f=true->BJ (bV env rs) args:=by exact uJ)(hp:f=true->iU m sh (iM (bV env rs) args):=by exact uJ)(hk:f=true->qu (iM (bV env rs) args) v=true:=by exact fun _=>rfl):aA Y draw (⟨.call n args sh,g⟩::r) env rs nx m K:=
 gv rfl hg _ (fun hf=>by simp only[ax.ey,(dz _ _ _).1,ha hf,(hc hf).2];exact⟨ho hf,(dz _ _ _).2.2 (hp hf),(hc hf).1,hk hf⟩) (fun hf=>by simp only[ax.val,(dz _ _ _).1,ha hf,(hc hf).2]) m rfl (fun _=>h)
def BM {n:Nat}{x:Src}{fx:Bool}{caps:List D}{args:List Src}{sh:List (List Sh)}{aE4:List D}{v:D}(h:aA Y draw r env (⟨f,v⟩::rs) nx m K)(hg:GF rs g f:=by exact cE)(hx:bV env rs x=⟨fx,.fn n caps⟩:=by exact rfl)(kx:f=true->fx=true:=by exact bA)(hb:n<1000000:=by decide)(hc:f=true->Y.pre n aE4/\Y.val n aE4=v)(ha:f=true->jf m sh (iM (bV env rs) args++caps)=aE4:=by exact fun _=>rfl)(ho:f=true->BJ (bV env rs) args:=by exact uJ)(hp:f=true->iU m sh (iM (bV env rs) args++caps):=by exact uJ)(hk:f=true->qu (iM (bV env rs) args++caps) v=true:=by exact fun _=>rfl):aA Y draw (⟨.callv x args sh,g⟩::r) env rs nx m K:=
 gv rfl hg _ (fun hf=>by simp only[ax.ey,hx,(dz _ _ _).1,ha hf,(hc hf).2];exact⟨kx hf,ho hf,hb,(dz _ _ _).2.2 (hp hf),(hc hf).1,hk hf⟩) (fun hf=>by simp only[ax.val,hx,(dz _ _ _).1,ha hf,(hc hf).2]) m rfl (fun _=>h)
def RL {n:Nat}{caps:List Src}(cs:List D)(h:aA Y draw r env (⟨f,.fn n cs⟩::rs) nx m K)(hg:GF rs g f:=by exact cE)(hc:f=true->iM (bV env rs) caps=cs:=by exact fun _=>rfl)(ho:f=true->BJ (bV env rs) caps:=by exact uJ):aA Y draw (⟨.mkf n caps,g⟩::r) env rs nx m K:=
 bD rfl hg _ (fun hf=>ho hf) (fun hf=>by simp only[ax.val,hc hf]) (fun _=>h)
def dh {n l k:Nat}{x:Src}{args:List Src}{sh:List (List Sh)}{d v e:D}{aE4:List D}{m2:List (Nat×bm)}(h:aA Y draw r env (⟨true,v⟩::rs) nx m2 K)(hx:bV env rs x=⟨true,.ptr l k 0 0⟩:=by exact rfl)(hl:look m l=some (.buf k [d]):=by exact rfl)(hd:d.aR=true:=by exact rfl)(hc:Y.fp n d aE4/\Y.fv n d aE4=v/\Y.fs n d aE4=e)(ha:jf [] sh (iM (bV env rs) args)=aE4:=by exact rfl)(ho:BJ (bV env rs) args:=by repeat' first|exact trivial|exact rfl|refine And.intro ?_ ?_|decide)(hn:aL (iM (bV env rs) args)=true:=by exact rfl)(hm:cL m l (.buf k [e])=m2:=by simp only[cL,cQ,Nat.reduceEqDiff,aZ,aU,Nat.reduceAdd,reduceCtorEq];exact rfl):aA Y draw (⟨.callF n x args sh,none⟩::r) env rs nx m K:=
 ph rfl _ aao (by simp only[ax.val,hx,aH,hl,iQ,(dz _ _ _).1,ha,hc.2.1]) _ (by simp only[ax.bP,hx,aH,hl,iQ,(dz _ _ _).1,ha,hc.2.2];exact hm) (fun _=>h)
end
end
end Go.Abs
section
namespace Go.Abs
abbrev av:=List UInt8
structure bZ where
 major:Int
 minor:Int
 patch:Int
 pre:av
 build:av
 deriving Inhabited,DecidableEq
def bZ.D (v:bZ):D:=.agg [.int .i64 v.major,.int .i64 v.minor,.int .i64 v.patch,.str v.pre,.str v.build]
structure dm where
 name:av
 v:bZ
 shelf:av
 sum:Int
 feats:List av
 deriving Inhabited,DecidableEq
def dm.D (x:dm):D:=.agg [.str x.name,.int .i64 x.v.major,.int .i64 x.v.minor,.int .i64 x.v.patch,.str x.v.pre,.str x.v.build,.str x.shelf,.int .u64 x.sum,.sl 1 (x.feats.map D.str)]
structure Env where
 e0:av
 e1:av
 e2:av
 deriving Inhabited,DecidableEq
def Env.D (e:Env):D:=.agg [.str e.e0,.str e.e1,.str e.e2]
structure jT where
 env:Env
 lines:List dm
 deriving Inhabited,DecidableEq
def jT.D (l:jT):D:=.agg [.str l.env.e0,.str l.env.e1,.str l.env.e2,.sl 9 (l.lines.map dm.D)]
end Go.Abs
namespace Go.Abs
theorem tj (a b:List UInt8):eqD (.str a) (.str b)=decide (a=b):=QA a b
theorem BA (k k2:IntKind)(a b:Int):eqD (.int k a) (.int k2 b)=decide (a=b):=rfl
def bZ.eq (a b:bZ):hR (bZ.D a).cells (bZ.D b).cells=decide (a=b):=by
 obtain⟨a1,a2,a3,a4,a5⟩:=a;obtain⟨b1,b2,b3,b4,b5⟩:=b
 grind [bZ.D,D.cells,hR,tj,BA]
def Env.eq (a b:Env):hR (Env.D a).cells (Env.D b).cells=decide (a=b):=by
 obtain⟨a1,a2,a3⟩:=a;obtain⟨b1,b2,b3⟩:=b
 grind [Env.D,D.cells,hR,tj,BA]
theorem bZ.inj {a b:bZ}(h:bZ.D a=bZ.D b):a=b:=by
 obtain⟨a1,a2,a3,a4,a5⟩:=a;obtain⟨b1,b2,b3,b4,b5⟩:=b
 grind [bZ.D]
theorem Env.inj {a b:Env}(h:Env.D a=Env.D b):a=b:=by
 obtain⟨a1,a2,a3⟩:=a;obtain⟨b1,b2,b3⟩:=b
 grind [Env.D]
theorem map_inj {α:Type}{q:α->D}(hq:∀a b,q a=q b->a=b):∀{xs ys:List α},xs.map q=ys.map q->xs=ys
 |[],[],_=>rfl
 |[],_::_,h=>by simp at h
 |_::_,[],h=>by simp at h
 |a::r,b::s,h=>by
  simp only[List.map_cons,sY]at h;rw[hq a b h.1,map_inj hq h.2]
theorem str_inj (a b:List UInt8)(h:D.str a=D.str b):a=b:=by simpa using h
theorem dm.inj {a b:dm}(h:dm.D a=dm.D b):a=b:=by
 obtain⟨a1,⟨v1,v2,v3,v4,v5⟩,a2,a3,a4⟩:=a;obtain⟨b1,⟨w1,w2,w3,w4,w5⟩,b2,b3,b4⟩:=b
 grind [dm.D,map_inj,str_inj]
theorem jT.inj {a b:jT}(h:jT.D a=jT.D b):a=b:=by
 obtain⟨⟨a1,a2,a3⟩,a4⟩:=a;obtain⟨⟨b1,b2,b3⟩,b4⟩:=b
 grind [jT.D,map_inj,dm.inj]
end Go.Abs
end
section
namespace Go.Abs
def allI (p:Nat->Bool):Nat->Nat->Bool
 |_,0=>true
 |i,k+1=>p i&&allI p (i+1) k
def bO (p:Nat->Bool)(i n:Nat):Bool:=allI p i (n-i)
def ay {p:Nat->Bool}{i n:Nat}(h:i<n):bO p i n=(p i&&bO p (i+1) n):=by
 unfold bO;rw[show n-i=(n-(i+1))+1 by omega];rfl
def bB {p:Nat->Bool}{i n:Nat}(h:n<=i):bO p i n=true:=by
 unfold bO;rw[show n-i=0 by omega];rfl
theorem KG {p:Nat->Bool}:∀{k i:Nat},allI p i k=true↔∀j,i<=j->j<i+k->p j=true
 |0,i=>by simp[allI];intro j h1 h2;omega
 |k+1,i=>by
  simp only[allI,aN,KG (k:=k)]
  grind
theorem cb {p:Nat->Bool}{i n:Nat}:bO p i n=true↔∀j,i<=j->j<n->p j=true:=by
 grind [bO,KG]
end Go.Abs
namespace Go.Abs
def bX {a a' b b':D}(h1:a=a')(h2:b=b'):D.tup [a,b]=D.tup [a',b']:=by rw[h1,h2]
end Go.Abs
namespace Go.Abs
def ld8 (s:av)(i:Nat):kK (D.int .u8 (s[i]!).toNat) 1 1 0 false=.int .u8 (at8 s i):=by
 simp only[kK,D.isAgg,at8];simp;rfl
end Go.Abs
namespace Go.Abs
def wW (s:av)(pos:Nat)(h:pos<s.length):∃c w,yM s pos=(c,w)/\1<=w/\((w=1/\(c:Int)=at8 s pos/\c<128)\/(128<=c/\128<=at8 s pos)):=by
 refine⟨(yM s pos).1,(yM s pos).2,rfl, ?_⟩;have e:yM s pos=Lib.decodeN (s.length-pos) (s.getD pos 0).toNat (s.getD (pos+1) 0).toNat (s.getD (pos+2) 0).toNat (s.getD (pos+3) 0).toNat:=Lib.decode_N ⟨⟨s⟩⟩ pos;rw[e];unfold at8;generalize (s.getD pos 0).toNat=b0;generalize (s.getD (pos+1) 0).toNat=b1;generalize (s.getD (pos+2) 0).toNat=b2;generalize (s.getD (pos+3) 0).toNat=b3;generalize s.length-pos=n;by_cases hb:b0<128
 .unfold Lib.decodeN;rw[ak hb];exact⟨aP _,.inl ⟨rfl,rfl,hb⟩⟩
 .unfold Lib.decodeN
  grind
end Go.Abs
namespace Go.Abs
def tD {α:Type}{q:α->D}{xs:List α}{m:List (Nat×bm)}{l:Nat}(hq:∀x,xV m [.a] (q x)=q x)(hl:look m l=some (.buf 1 (xs.map q))):xV m [.sl 1 [.a]] (.own l 1 0 xs.length)=.sl 1 (xs.map q):=by
 show D.sl 1 _=_;simp only[aH,hl,cT,bw,List.map_map];congr 1;apply List.map_congr_left;intro x _;have:=hq x;simp only[Function.comp];generalize q x=d at this;cases d<;>exact this
def qf {α:Type}{q:α->D}{xs:List α}{m:List (Nat×bm)}{l:Nat}(hq:∀x,xVO m [.a] (q x))(hl:look m l=some (.buf 1 (xs.map q))):xVO m [.sl 1 [.a]] (.own l 1 0 xs.length):=by
 grind [xVO,xHO,UX,dW,aH,bw]
end Go.Abs
end
namespace Go.Abs
def jM (c:Int):Bool:=decide (97<=c)&&decide (c<=122)
def bK (c:Int):Bool:=decide (48<=c)&&decide (c<=57)
def Gp (c:Int):Bool:=jM c ||bK c ||decide (c=95)
def gr (s:av):Bool:=decide (1<=s.length)&&decide (s.length<=12)&&bO (fun i=>Gp (at8 s i)) 0 s.length
def nch (s:av)(i:Nat):Bool:=(jM (at8 s i) ||bK (at8 s i) ||decide (at8 s i=45))&& !(decide (at8 s i=45)&&decide (at8 s (i-1)=45))
def dn (s:av):Bool:=decide (1<=s.length)&&decide (s.length<=16)&&jM (at8 s 0)&& !decide (at8 s (s.length-1)=45)&&bO (nch s) 1 s.length
def pe (s:av)(i:Nat):Bool:=jM (at8 s i) ||(bK (at8 s i)&& !decide (i=0)) ||(decide (at8 s i=45)&& !decide (i=0)&& !decide (i=s.length-1)&& !decide (at8 s (i-1)=45))
def acW (s:av)(h1:1<=s.length)(h2:s.length<=16):dn s=bO (pe s) 0 s.length:=by
 rw[Bool.eq_iff_iff];simp only[dn,bz h1,bz h2,fT,aN,cG,cK,cb];constructor
 .rintro⟨⟨h3,h4⟩,h5⟩ j _ hj;rcases Nat.eq_zero_or_pos j with rfl|hp
  .simp[pe,h3]
  .have:=h5 j hp hj;simp only[nch,aN,dI,cG,eo,bn,cK]at this;simp only[pe,aN,dI,cG,bn,cK];rcases this with⟨(h6|h6)|h6,h7⟩
   .exact Or.inl (Or.inl h6)
   .exact Or.inl (Or.inr ⟨h6,ae⟩)
   .refine Or.inr ⟨⟨⟨h6,ae⟩, ?_⟩, ?_⟩
    .rintro rfl;exact h4 h6
    .rcases h7 with h7|h7
     .exact absurd h6 h7
     .exact h7
 .intro h;have h0:=h 0 ae ae;have hlow:jM (at8 s 0)=true:=by simpa[pe]using h0
  refine⟨⟨hlow, ?_⟩,fun j hj1 hj2=>?_⟩
  .intro he;have hl:=h (s.length-1) ae ae;rcases Nat.eq_or_lt_of_le h1 with e|e
   .rw[<-e]at he;simp only[Nat.sub_self]at he;simp only[jM,aN,bn]at hlow;omega
   .simp only[pe,he,jM,bK]at hl;simp at hl
  .have:=h j ae hj2;simp only[pe,aN,dI,cG,bn,cK]at this;simp only[nch,aN,dI,cG,eo,bn,cK];rcases this with(h6|h6)|h6
   .refine⟨Or.inl (Or.inl h6),Or.inl ?_⟩;simp only[jM,aN,bn]at h6;omega
   .refine⟨Or.inl (Or.inr h6.1),Or.inl ?_⟩;have:=h6.1;simp only[bK,aN,bn]at this;omega
   .exact⟨Or.inr h6.1.1.1,Or.inr h6.2⟩
def eO (s:av):Nat:=s.foldl (fun n b=>n*10+(b.toNat-48)) 0
def oc (s:av):Bool:=decide (1<=s.length)&&decide (s.length<=9)&& !(decide (1<s.length)&&decide (at8 s 0=48))&&bO (fun i=>bK (at8 s i)) 0 s.length&&decide (eO s<=9999)
def C6 (s:av):Int:=if oc s=true then(eO s:Int)else 0
theorem qX (s:av)(i:Nat)(h:i<s.length):s.take (i+1)=s.take i++[s.getD i 0]:=by
 rw[List.take_succ];simp[h]
def Ah (s:av)(i:Nat)(h:i<s.length):eO (s.take (i+1))=eO (s.take i)*10+((at8 s i).toNat-48):=by
 rw[qX s i h];simp[eO,List.foldl_append,at8]
def TQ (s:av):eO s+23<=23*10^s.length:=by
 have:∀(s:av) (n k:Nat),n+23<=23*10^k->s.foldl (fun n b=>n*10+(b.toNat-48)) n+23<=23*10^(k+s.length):=by
  intro s;induction s with
  |nil=>intro n k h;simpa using h
  |cons b r ih=>
   intro n k h;have hb:=b.toNat_lt;have:=ih (n*10+(b.toNat-48)) (k+1) (by rw[Nat.pow_succ];omega);simp only[List.foldl_cons,bE];rw[show k+(r.length+1)=k+1+r.length by omega];exact this
 have:=this s 0 0 aG;simpa[eO]using this
def xF (s:av)(i:Nat)(h:i<=9):eO (s.take i)<=23000000000:=by
 have h1:=TQ (s.take i);have h2:(s.take i).length<=9:=dN;have h3:10^(s.take i).length<=10^9:=Nat.pow_le_pow_right ae h2;omega
def LC (s:av):∀n:Nat,s.foldl (fun n b=>n*10+(b.toNat-48)) n=n*10^s.length+eO s:=by
 unfold eO;induction s with
 |nil=>intro n;simp
 |cons b r ih=>
  intro n;simp only[List.foldl_cons,bE];rw[ih,ih (0*10+(b.toNat-48)),Nat.pow_succ];simp only[Nat.zero_mul,b8,Nat.add_mul];rw[Nat.mul_assoc n 10,Nat.mul_comm 10];omega
def Ag (b:UInt8)(r:av):eO (b::r)=(b.toNat-48)*10^r.length+eO r:=by
 have:=LC r (0*10+(b.toNat-48));simp only[eO,List.foldl_cons]at this⊢;rw[this];simp
def zT {b:UInt8}{r:av}(h:bO (fun i=>bK (at8 (b::r) i)) 0 (b::r).length=true):bK b.toNat=true/\bO (fun i=>bK (at8 r i)) 0 r.length=true:=by
 rw[cb]at h;refine⟨by simpa[at8]using h 0 ae aG, ?_⟩;rw[cb];intro j _ hj;simpa[at8]using h (j+1) ae dN
def FG:∀(s:av),bO (fun i=>bK (at8 s i)) 0 s.length=true->eO s<10^s.length
 |[],_=>by simp[eO]
 |b::r,h=>by
  obtain⟨h1,h2⟩:=zT h;have:=FG r h2;rw[Ag,bE,Nat.pow_succ];simp only[bK,aN,bn]at h1;have h3:b.toNat-48<=9:=ae;have:=fH (10^r.length) h3;omega
def TP {b:UInt8}{r:av}(h:49<=b.toNat):10^r.length<=eO (b::r):=by
 rw[Ag];have:=fH (10^r.length) (show 1<=b.toNat-48 by omega);omega
def XK (s:av):oc s=(decide (1<=s.length)&&decide (s.length<=4)&& !(decide (1<s.length)&&decide (at8 s 0=48))&&bO (fun i=>bK (at8 s i)) 0 s.length):=by
 unfold oc;cases hd:bO (fun i=>bK (at8 s i)) 0 s.length with
 |false=>simp
 |true=>
  have hlt:=FG s hd;by_cases h4:s.length<=4
  .have:10^s.length<=10^4:=Nat.pow_le_pow_right ae h4;rw[bz h4,bz (by omega:s.length<=9),bz (by omega:eO s<=9999)];simp
  .rw[bI h4]
   match s,hd,h4 with
   |b::r,hd,h4=>
    by_cases h0:at8 (b::r) 0=48
    .rw[bz h0,bz (by omega:1<(b::r).length)];simp
    .have h1:=(zT hd).1;simp only[bK,aN,bn]at h1;have h2:49<=b.toNat:=by
      simp[at8]at h0;omega
     have h3:=TP (r:=r) h2;have:10^4<=10^r.length:=Nat.pow_le_pow_right ae (by simp at h4;omega);rw[bI (by omega:¬eO (b::r)<=9999)];simp
def dg (n:Nat):UInt8:=UInt8.ofNat (48+n)
def GV:Nat->Nat->av
 |0,n=>[dg n]
 |f+1,n=>if n<10 then [dg n]else GV f (n/10)++[dg (n%10)]
def nL (n:Nat):av:=GV n n
def QP:∀(f g n:Nat),n<=f->n<=g->GV f n=GV g n
 |0,0,n,_,_=>rfl
 |0,g+1,n,h,_=>by
  obtain rfl:n=0:=ae;simp[GV]
 |f+1,0,n,_,h=>by
  obtain rfl:n=0:=ae;simp[GV]
 |f+1,g+1,n,h1,h2=>by
  simp only[GV];split
  .rfl
  .rw[QP f g (n/10) ae ae]
def By {n:Nat}(h:n<10):nL n=[dg n]:=by
 unfold nL;cases n<;>simp[GV,h]
def Bx {n:Nat}(h:9<n):nL n=nL (n/10)++[dg (n%10)]:=by
 unfold nL;obtain⟨k,rfl⟩:∃k,n=k+1:=⟨n-1,ae⟩
 simp only[GV];rw[ai ae,QP k ((k+1) /10) _ ae ae]
def hJ:∀(k n:Nat),n<10^k->0<k->(nL n).length<=k:=by
 intro k;induction k with
 |zero=>intro n _ h;omega
 |succ k ih=>
  intro n h _;by_cases h10:n<10
  .rw[By h10];simp
  .rw[Bx ae];have hk:0<k:=by
    rcases Nat.eq_zero_or_pos k with rfl|h0
    .simp at h;omega
    .exact h0
   have:=ih (n/10) (by rw[Nat.pow_succ]at h;omega) hk;simp;omega
def aeD {n:Nat}(h:n<10):((dg n).toNat:Int)=48+n:=by
 have:(48+n)%256=48+n:=Nat.mod_eq_of_lt ae;simp[dg,this]
def fh (b:Int):av->av->List av
 |[],cur=>[cur]
 |c::r,cur=>if(c.toNat:Int)=b then cur::fh b r []else fh b r (cur++[c])
def bd (s:av)(b:Int):List av:=fh b s []
def QR (s:av)(i:Nat)(h:i<s.length):s.drop i=s.getD i 0::s.drop (i+1):=by
 rw[eV h];simp[h]
def F9 {s:av}{b:Int}{i fr:Nat}(h:i<s.length)(he:at8 s i=b):fh b (s.drop i) ((s.take i).drop fr)=((s.take i).drop fr)::fh b (s.drop (i+1)) ((s.take (i+1)).drop (i+1)):=by
 rw[QR s i h];have h2:(s.take (i+1)).drop (i+1)=[]:=aG;rw[h2];simp only[fh];rw[ak (by simpa[at8]using he)]
def Ga {s:av}{b:Int}{i fr:Nat}(h:i<s.length)(hf:fr<=i)(he:¬at8 s i=b):fh b (s.drop i) ((s.take i).drop fr)=fh b (s.drop (i+1)) ((s.take (i+1)).drop fr):=by
 rw[QR s i h,qX s i h,List.drop_append_of_le_length dN];simp only[fh];rw[ai (by simpa[at8]using he)]
def DX {s:av}{b:Int}{i fr:Nat}(h:s.length<=i):fh b (s.drop i) ((s.take i).drop fr)=[s.drop fr]:=by
 rw[j4 h,eU h];rfl
def wg (b:Int):∀(s cur:av),(fh b s cur).length<=s.length+1
 |[],cur=>by simp[fh]
 |c::r,cur=>by
  simp only[fh];split
  .have:=wg b r [];simp;omega
  .have:=wg b r (cur++[c]);simp;omega
def PI (s:av)(b:Int):(bd s b).length<=s.length+1:=wg b s []
def mX (c:Int):Bool:=jM c ||bK c ||decide (c=45)
def wo (t:av):Bool:=decide (1<=t.length)&&decide (t.length<=8)&&bO (fun i=>mX (at8 t i)) 0 t.length
def cP (t:av):Bool:=bO (fun i=>bK (at8 t i)) 0 t.length&&decide (0<t.length)
def ji (p:Bool)(t:av):Bool:=wo t&& !(p&&cP t&& !oc t)
def sP (s:av)(p:Bool):Bool:=decide ((bd s 46).length<=4)&&bO (fun i=>ji p (bd s 46)[i]!) 0 (bd s 46).length
def D2 (s:av)(p:Bool):Bool:=decide (s=[]) ||sP s p
def Cq (n:Int):Bool:=decide (0<=n)&&decide (n<=9999)
def gy (v:bZ):Bool:=Cq v.major&&Cq v.minor&&Cq v.patch&&D2 v.pre true&&D2 v.build false
def E8 (v:bZ):av:=nL v.major.toNat++[46]++nL v.minor.toNat++[46]++nL v.patch.toNat++(if v.pre=[]then []else 45::v.pre)++(if v.build=[]then []else 43::v.build)
def uI (v:bZ):av:=if gy v=true then E8 v else []
def bZ.sm (v:bZ):Prop:=v.pre.length<=1048576/\v.build.length<=1048576
def or64 (a b:Int):Int:=IntKind.u64.wrap ((BitVec.ofInt 64 a |||BitVec.ofInt 64 b).toNat)
def Sq (a b:Int):Int:=IntKind.u64.wrap ((BitVec.ofInt 64 a^^^BitVec.ofInt 64 b).toNat)
def Zo (a:Int)(k:Nat):Int:=IntKind.u64.wrap (a*2^k)
def F5 (a:Int)(k:Nat):Int:=a.fdiv (2^k)
def rot (h:Int)(k:Nat):Int:=or64 (Zo h k) (F5 h (64-k))
def Sb (h:Int)(c:Int):Int:=IntKind.u64.wrap (rot (Sq h c) 13*18397679294719823053)
def zx (s:av):Int:=s.foldl (fun h c=>Sb h c.toNat) 11400714819323198485
def sumL (s:av):Int:=Sq (zx s) (F5 (zx s) 29)
def Gd (s:av)(i:Nat)(h:i<s.length):zx (s.take (i+1))=Sb (zx (s.take i)) (at8 s i):=by
 grind [qX,zx,at8]
def Env.at (e:Env):Nat->av
 |0=>e.e0
 |1=>e.e1
 |_=>e.e2
def Env.ld (e:Env){i:Nat}(h:i<3):kK (Env.D e) 3 1 (0+i*1) false=.str (e.at i):=by
 match i,h with
 |0,_=>rfl
 |1,_=>rfl
 |2,_=>rfl
def jT.ld (l:jT){i:Nat}(h:i<3):kK (jT.D l) 4 1 (0+i*1) false=.str (l.env.at i):=by
 match i,h with
 |0,_=>rfl
 |1,_=>rfl
 |2,_=>rfl
def Env.cut (e:Env){i:Nat}(h:i<3):Abs.cut [.str e.e0,.str e.e1,.str e.e2] (i*1) 1 false=.str (e.at i):=by
 match i,h with
 |0,_=>rfl
 |1,_=>rfl
 |2,_=>rfl
def o8 (e:Env):Bool:=bO (fun i=>decide (e.at i=[]) ||gr (e.at i)) 0 3
def nO (l:List av)(i:Nat):Bool:=gr l[i]! && !(decide (0<i)&& !Op.bytesLess l[i-1]! l[i]!)
def A6 (x:dm):Bool:=dn x.name&&gy x.v&& !(decide (x.shelf≠[])&& !dn x.shelf)&& !(decide (x.shelf=[])&&decide (x.sum≠0))&&decide (x.feats.length<=9)&&bO (nO x.feats) 0 x.feats.length
def pR (l:List dm)(i:Nat):Bool:=A6 l[i]! && !(decide (0<i)&& !Op.bytesLess l[i-1]!.name l[i]!.name)
def EO (l:jT):Bool:=o8 l.env&&decide (l.lines.length<=48)&&bO (pR l.lines) 0 l.lines.length
def dm.sm (x:dm):Prop:=x.v.sm/\x.name.length<=1048576/\x.shelf.length<=1048576/\x.feats.length<=1048576/\∀t∈x.feats,t.length<=1048576
def jT.sm (l:jT):Prop:=l.lines.length<=1048576/\(∀x∈l.lines,x.sm)/\∀i,(l.env.at i).length<=1048576
theorem aq {α:Type} [Inhabited α]{l:List α}{i:Nat}(h:i<l.length):l[i]! ∈l:=by
 simp[h]
structure Kp where
 name:av
 v:bZ
 deriving Inhabited,DecidableEq
def Kp.D (x:Kp):D:=.agg [.str x.name,.int .i64 x.v.major,.int .i64 x.v.minor,.int .i64 x.v.patch,.str x.v.pre,.str x.v.build]
def ML {α:Type} [Inhabited α] [DecidableEq α]{a b:List α}(h:a.length=b.length):decide (a=b)=bO (fun i=>decide (a[i]! =b[i]!)) 0 a.length:=by
 rw[Bool.eq_iff_iff,bn,cb];constructor
 .rintro rfl j _ _;simp
 .intro hj;apply List.ext_getElem h
  grind
def dm.same {a b:dm}(e1:a.name=b.name)(e2:a.v=b.v)(e3:a.shelf=b.shelf)(e4:a.sum=b.sum)(e5:a.feats.length=b.feats.length):decide (a=b)=bO (fun i=>decide (a.feats[i]! =b.feats[i]!)) 0 a.feats.length:=by
 rw[<-ML e5];obtain⟨a1,a2,a3,a4,a5⟩:=a;obtain⟨b1,b2,b3,b4,b5⟩:=b
 grind
def cv (b:av):List av->av
 |[]=>[]
 |[t]=>t
 |t::u::r=>t++b++cv b (u::r)
def vJ (b t:av)(r:List av)(h:r≠[]):cv b (t::r)=t++b++cv b r:=by
 cases r with
 |nil=>exact absurd rfl h
 |cons u r=>rfl
def sf {α:Type}(q:α->av)(B:Nat):∀l:List α,(∀x∈l,(q x).length<=B)->((l.map q).flatten).length<=l.length*B
 |[],_=>aG
 |a::r,h=>by
  have h1:=h a (.head _);have h2:=sf q B r fun x hx=>h x (.tail _ hx)
  simp only[List.map_cons,List.flatten_cons,ct,bE,Nat.succ_mul];omega
def Eb (v:bZ)(h:v.sm):(uI v).length<=2097200:=by
 unfold uI;split
 .rename_i hv;simp only[gy,aN]at hv;obtain⟨⟨⟨⟨hv1,hv2⟩,hv3⟩,_⟩,_⟩:=hv;simp only[Cq,aN,bn]at hv1 hv2 hv3;have hl1:=hJ 4 v.major.toNat ae ae;have hl2:=hJ 4 v.minor.toNat ae ae;have hl3:=hJ 4 v.patch.toNat ae ae;obtain⟨h1,h2⟩:=h
  grind [E8]
 .simp
def Env.sm (e:Env):Prop:=∀i,(e.at i).length<=1048576
end Go.Abs
section
namespace Go.Abs
def bY (v n:Int):Int:=if n<1 then 0 else if v.tmod n<0 then v.tmod n+n else v.tmod n
def D5 (v n:Int)(h:1<=n):-n<v.tmod n/\v.tmod n<n:=⟨Int.lt_tmod_of_pos v ae,Int.tmod_lt_of_pos v ae⟩
def du (v n:Int)(h:1<=n):0<=bY v n/\bY v n<n:=by
 have:=D5 v n h
 grind [bY]
def atI (l:List Int)(i:Int):Int:=if i<0\/(l.length:Int)<=i then i.tmod 3 else l[i.toNat]!
structure Gs where
 l:List Int
 i:Int
 deriving Inhabited
def Gs.D (g:Gs):D:=.agg [.sl 1 (g.l.map (D.int .i64)),.int .i64 g.i]
def Gs.val (g:Gs)(n:Int):Int:=bY (atI g.l g.i) n
def Gs.aS (g:Gs):Gs:=⟨g.l,g.i+1⟩
def uC (s:av)(b:UInt8):av×av×Bool:=match s.findIdx? (fun c=>c==b)with
 |some k=>(s.take k,s.drop (k+1),true)
 |none=>(s,[],false)
def qx (s p:av):av×Bool:=if p.isPrefixOf s=true then(s.drop p.length,true)else(s,false)
def V0 (s:av)(b:UInt8):(uC s b).1.length<=s.length/\((uC s b).2.2=true->(uC s b).1.length+1<=s.length):=by
 unfold uC;split
 .rename_i k h;have:=List.findIdx?_eq_some_iff_findIdx_eq.1 h;simp only[eg];omega
 .simp
structure Rdr where
 s:av
 at':Nat
 n:Nat
def Rdr.D (r:Rdr):D:=.agg [.str r.s,.int .i64 (r.at':Nat),.int .i64 (r.n:Nat)]
def Rdr.ln (r:Rdr):av×av×Bool:=uC (r.s.drop r.at') 10
def Rdr.aS (r:Rdr):Rdr:=⟨r.s,if r.ln.2.2=true then r.at'+(r.ln.1.length+1)else r.at',r.n+1⟩
def wi (b:Int):∀(s cur:av),∀t∈fh b s cur,t.length<=cur.length+s.length
 |[],cur,t,h=>by simp only[fh,aC]at h;subst h;simp
 |c::r,cur,t,h=>by
  simp only[fh]at h;split at h
  .rcases b9.1 h with rfl|h
   .simp
   .have:=wi b r [] t h;simp at this⊢;omega
  .have:=wi b r (cur++[c]) t h;simp at this⊢;omega
def PJ (s:av)(b:Int){t:av}(h:t∈bd s b):t.length<=s.length:=by
 have:=wi b s [] t h;simpa using this
end Go.Abs
namespace Go.Abs
end Go.Abs
namespace Go.Abs
end Go.Abs
namespace Go.Abs
end Go.Abs
namespace Go.Abs
def NW (s p:av):(qx s p).1.length<=s.length:=by
 unfold qx;split<;>simp
end Go.Abs
namespace Go.Abs
variable {e:Env} {f:Nat} {r:Rdr} {ls:List dm}
end Go.Abs
namespace Go.Abs
end Go.Abs
end
namespace Go.Abs
section
section
variable {Y:Ctx} {draw:Bool} {r:List GI} {env rs:List aX} {nx:Nat} {m:List (Nat×bm)} {K:List aX->St->Prop} {g:Option (Nat×Bool)} {f:Bool}
def Yy {n l k j:Nat}{w:Bool}{x:Src}{args:List Src}{sh:List (List Sh)}{d v e:D}{aE4:List D}{m2:List (Nat×bm)}(h:aA Y false r env (⟨true,v⟩::rs) nx m2 K)(hg:GF rs (some (j,w)) true:=by exact⟨_,_,rfl,rfl⟩)(hx:bV env rs x=⟨true,.ptr l k 0 0⟩:=by exact rfl)(hl:look m l=some (.buf k [d]):=by exact rfl)(hd:d.aR=true:=by exact rfl)(hc:Y.fp n d aE4/\Y.fv n d aE4=v/\Y.fs n d aE4=e)(ha:jf [] sh (iM (bV env rs) args)=aE4:=by exact rfl)(ho:BJ (bV env rs) args:=by repeat' first|exact trivial|exact rfl|refine And.intro ?_ ?_|decide)(hn:aL (iM (bV env rs) args)=true:=by exact rfl)(hm:cL m l (.buf k [e])=m2:=by simp only[cL,cQ,Nat.reduceEqDiff,aZ,aU,Nat.reduceAdd,reduceCtorEq];exact rfl):aA Y false (⟨.callF n x args sh,some (j,w)⟩::r) env rs nx m K:=
 YA rfl rfl hg (fun _=>⟨v,aao,by simp only[ax.val,hx,aH,hl,iQ,(dz _ _ _).1,ha,hc.2.1],m2,by simp only[ax.bP,hx,aH,hl,iQ,(dz _ _ _).1,ha,hc.2.2];exact hm,h⟩) (fun h=>ca)
def ajX {i:ax}{j:Nat}{w:Bool}(h:aA Y false r env (⟨false,.any⟩::rs) nx m K)(hM:i.cO=false:=by exact rfl)(hC:i.calm=false:=by exact rfl)(hg:GF rs (some (j,w)) false:=by exact⟨_,_,rfl,rfl⟩):aA Y false (⟨i,some (j,w)⟩::r) env rs nx m K:=
 YA hM hC hg (fun h=>ca) (fun _=>h)
def r_off {i:ax}{j:Nat}{w:Bool}(d:D)(h:aA Y draw r env (⟨false,d⟩::rs) nx m K)(hC:i.pure=true:=by exact rfl)(hg:GF rs (some (j,w)) false:=by exact⟨_,_,rfl,rfl⟩):aA Y draw (⟨i,some (j,w)⟩::r) env rs nx m K:=
 bD hC hg d (fun h=>ca) (fun h=>ca) (fun _=>h)
def dC {n:Nat}{args:List Src}{aE4:List D}{v:D}{nx':Nat}{m':List (Nat×bm)}(h:aA Y draw r env (⟨true,v⟩::rs) nx' m' K)
  (hc:∀K':D->St->Prop,K' v ⟨nx'+rs.length,m'⟩->Y.tr n aE4 ⟨nx+rs.length,m⟩ K') (hn:nx<=nx') (ha:iM (bV env rs) args=aE4:=by exact rfl)
  (ho:BJ (bV env rs) args:=by repeat' first|exact trivial|exact rfl|refine And.intro ?_ ?_):aA Y draw (⟨.callM n args,none⟩::r) env rs nx m K:=by
 unfold aA;show True/\(true=true->BJ (Src.ev env rs.reverse) args/\Y.tr n (iM (Src.ev env rs.reverse) args) {nx:=nx+rs.reverse.length,m:=m} _)/\(true=false->_)
 grind [oJ,aA]
def akf {α:Type}{q:α->D}{s:List α}{k:Nat}{x y z:Src}{fx fy fz:Bool}{kh km:IntKind}{h' m':Int}(j:Nat)(h:aA Y draw r env (⟨f,.sl k ((s.take j).map q)⟩::rs) nx m K)(hg:GF rs g f:=by exact cE)(hx:bV env rs x=⟨fx,.sl k (s.map q)⟩:=by exact rfl)(hy:bV env rs y=⟨fy,.int kh h'⟩:=by exact rfl)(hz:bV env rs z=⟨fz,.int km m'⟩:=by exact rfl)
  (kx:f=true->fx=true:=by exact bA) (ky:f=true->fy=true:=by exact bA) (kz:f=true->fz=true:=by exact bA)
  (hj:f=true->h'=(j:Int)) (hb:f=true->(j:Int)<=m'/\m'<=(s.length:Int)):aA Y draw (⟨.slX k x y z,g⟩::r) env rs nx m K:=
 bD rfl hg _ (fun hf=>by have h1:=hj hf;have h2:=hb hf;simp only[ax.ey,hx,hy,hz,bj];exact⟨kx hf,ky hf,kz hf,ae,ae,trivial,h2.2⟩) (fun hf=>by simp only[ax.val,hx,hy];rw[hj hf,Int.toNat_natCast,List.map_take]) (fun _=>h)
def Dk {x:Src}{fx:Bool}{α:Type} [Inhabited α]{n k i o:Nat}{ag:Bool}{q:α->D}{xs:List α}(v:D)(h:aA Y draw r env (⟨f,v⟩::rs) nx m K)(hg:GF rs g f:=by exact cE)(hx:bV env rs x=⟨fx,.ref k (xs.map q) i o⟩:=by exact rfl)(kx:f=true->fx=true:=by exact bA)(hi:f=true->i<xs.length:=by exact rL)(hv:f=true->kK (q xs[i]!) k n o ag=v:=by exact fun _=>rfl)(ho:o+n<=k:=by omega):aA Y draw (⟨.ldU n ag x,g⟩::r) env rs nx m K:=
 gv rfl hg _ (fun hf=>aax) (fun hf=>aat) m rfl (fun ha=>h)
def OW {x:Src}{fx:Bool}{n k i o:Nat}{ag:Bool}{es:List D}(v:D)(h:aA Y draw r env (⟨f,v⟩::rs) nx m K)(hg:GF rs g f:=by exact cE)(hx:bV env rs x=⟨fx,.ref k es i o⟩:=by exact rfl)(kx:f=true->fx=true:=by exact bA)(hi:f=true->i<es.length:=by intro _;simp only[bE,b7];omega)(hv:f=true->kK (es.getD i .any) k n o ag=v:=by exact fun _=>rfl)(ho:o+n<=k:=by omega):aA Y draw (⟨.ldU n ag x,g⟩::r) env rs nx m K:=
 gv rfl hg _ (fun hf=>Qh) (fun hf=>J2) m rfl (fun ha=>h)
def zh {x:Src}{fx:Bool}{n l k o:Nat}{ag:Bool}{d:D}(v:D)(h:aA Y draw r env (⟨f,v⟩::rs) nx m K)(hg:GF rs g f:=by exact cE)(hx:bV env rs x=⟨fx,.ptr l k 0 o⟩:=by exact rfl)(kx:f=true->fx=true:=by exact bA)(hl:f=true->look m l=some (.buf k [d]):=by exact fun _=>rfl)(hv:f=true->kK d k n o ag=v:=by exact fun _=>rfl)(ho:o+n<=k:=by omega)(hd:f=true->d.aR=false:=by exact fun _=>rfl):aA Y draw (⟨.ldU n ag x,g⟩::r) env rs nx m K:=
 gv rfl hg _ (fun hf=>by simp only[ax.ey,hx,Lm,dW,hl hf];exact⟨kx hf,⟨⟨trivial,aG⟩,ho⟩,by simp only[aH,hl hf,aL,hd hf];rfl⟩) (fun hf=>Qm) m rfl (fun ha=>h)
def YE {x:Src}{fx:Bool}{n l k o:Nat}{ag:Bool}{d:D}(v:D)(h:aA Y draw r env (⟨f,v⟩::rs) nx m K)(hg:GF rs g f:=by exact cE)(hx:bV env rs x=⟨fx,.ptr l k 0 o⟩:=by exact rfl)(kx:f=true->fx=true:=by exact bA)(hl:f=true->look m l=some (.buf k [d]):=by exact fun _=>rfl)(hv:f=true->kK d k n o ag=v:=by exact fun _=>rfl)(ho:o+n<=k:=by omega)(hd:4<k:=by omega):aA Y draw (⟨.ldW n ag x,g⟩::r) env rs nx m K:=
 gv rfl hg _ (fun hf=>by simp only[ax.ey,hx,Lm,dW,hl hf];exact⟨kx hf,⟨⟨trivial,aG⟩,ho⟩,hd⟩) (fun hf=>Qm) m rfl (fun ha=>h)
end
end
end Go.Abs
section
namespace Go.Abs
def Gs.XL (g:Gs):g.aS.i=g.i+1:=rfl
def Gs.eI (g:Gs)(n:Int)(h:1<=n):0<=g.val n/\g.val n<n:=du _ _ h
def dflW:av:=[100,101,102,97,117,108,116]
def fW:av:=[102]
def Re:av:=[109,97,105,110]
def AN:av:=[115,105,100,101]
def cF:List av:=[[97,110,116],[98,101,101],[99,111,119],[100,111,103]]
def bU:List bZ:=[⟨1,0,0,[],[]⟩,⟨1,2,0,[],[]⟩,⟨2,0,0,[97,46,49],[]⟩,⟨2,0,0,[],[]⟩]
def Fm:List av:=[[],[108,105,110,117,120],[112,108,97,110,57]]
def ff (n:Int):Env:=⟨Fm[(bY n 3).toNat]!,[],[]⟩
def nlS:List av->D
 |[]=>.aJ
 |a::r=>.sl 1 ((a::r).map D.str)
def dm.N (x:dm):Go.Abs.D:=.agg [.str x.name,.int .i64 x.v.major,.int .i64 x.v.minor,.int .i64 x.v.patch,.str x.v.pre,.str x.v.build,.str x.shelf,.int .u64 x.sum,nlS x.feats]
end Go.Abs
namespace Go.Abs
def dm.F (name:av)(v:bZ)(shelf:av)(sum:Int)(fs:Go.Abs.D):Go.Abs.D:=.agg [.str name,.int .i64 v.major,.int .i64 v.minor,.int .i64 v.patch,.str v.pre,.str v.build,.str shelf,.int .u64 sum,fs]
def WD (l k:Nat)(es:List Go.Abs.D)(a:av)(v:bZ)(s:av)(n:Int)(fs:Go.Abs.D):iA l k es (dm.F a v s n fs)=dm.F a v s n (iA l k es fs):=rfl
def WE (l k:Nat)(es:List Go.Abs.D)(g:Gs):iA l k es (Gs.D g)=Gs.D g:=rfl
mutual
theorem gu (l k:Nat)(es:List D):∀d:D,d.aR=true->iA l k es d=d
 | .agg a,h=>by simp only[iA,jE l k es a (by simpa[D.aR]using h)]
 | .tup a,h=>by simp only[iA,jE l k es a (by simpa[D.aR]using h)]
 | .fn n a,h=>by simp only[iA,jE l k es a (by simpa[D.aR]using h)]
 | .own ..,h=>by simp[D.aR]at h
 | .ptr ..,h=>by simp[D.aR]at h
 | .it ..,h=>by simp[D.aR]at h
 | .any,_| .bool _,_| .int ..,_| .str _,_| .aJ,_| .sl ..,_| .ref ..,_| .nilp,_| .nilf,_=>rfl
theorem jE (l k:Nat)(es:List D):∀ds:List D,aL ds=true->lg l k es ds=ds
 |[],_=>rfl
 |d::r,h=>by
  simp only[aL,aN]at h;simp only[lg,gu l k es d h.1,jE l k es r h.2]
end
end Go.Abs
namespace Go.Abs
end Go.Abs
namespace Go.Abs
def nm7:List av:=[[97,110,116],[98,101,101],[99,111,119],[100,111,103],[101,108,107],[65,110,116],[]]
def sh5:List av:=[Re,AN,[],[101,108,115,101],[45]]
def ft3:List av:=[[103],dflW,fW]
def bu3:List av:=[[],[98,49],[43]]
def iR (l:jT)(pa pw pb:Int):jT:=
 if l.lines=[]then l else
 let k:=(bY pa l.lines.length).toNat
 let x:=l.lines[k]!
 if bY pw 8=0 then⟨l.env,l.lines.set k {x with name:=nm7[(bY pb 7).toNat]!}⟩
 else if bY pw 8=1 then⟨l.env,l.lines.set k {x with v:=bU[(bY pb 4).toNat]!}⟩
 else if bY pw 8=2 then⟨l.env,l.lines.set k {x with shelf:=sh5[(bY pb 5).toNat]!}⟩
 else if bY pw 8=3 then⟨l.env,l.lines.set k {x with sum:=IntKind.u64.wrap (x.sum+bY pb 3)}⟩
 else if bY pw 8=4 then⟨l.env,l.lines.set k {x with feats:=x.feats++[ft3[(bY pb 3).toNat]!]}⟩
 else if bY pw 8=5 then⟨l.env,l.lines.set k {x with v:={x.v with build:=bu3[(bY pb 3).toNat]!}}⟩
 else if bY pw 8=6 then⟨l.env,l.lines.take k++l.lines.drop (k+1)⟩
 else⟨ff pb,l.lines⟩
def bq (L c:Nat)(ls:List dm)(k j:Nat):D:=if j=k then dm.F ls[j]!.name ls[j]!.v ls[j]!.shelf ls[j]!.sum (.own L 1 0 c)else dm.D ls[j]!
def bq_ne {L c:Nat}{ls:List dm}{k i:Nat}(h:i≠k):((List.range i).map (bq L c ls k))++[dm.D ls[i]!]=(List.range (i+1)).map (bq L c ls k):=by
 rw[List.range_succ,List.map_append];simp[bq,h]
def bq_eq {L L0 c c0:Nat}{ls:List dm}{k i:Nat}(h:i=k):((List.range i).map (bq L0 c0 ls k))++[dm.F ls[i]!.name ls[i]!.v ls[i]!.shelf ls[i]!.sum (.own L 1 0 c)]=(List.range (i+1)).map (bq L c ls k):=by
 rw[List.range_succ,List.map_append];congr 1
 .apply List.map_congr_left;intro j hj;have:j<i:=List.mem_range.1 hj;have hne:j≠k:=ae;simp[bq,hne]
 .simp[bq,h]
def WI {L k:Nat}{ls:List dm}{fs:List av}(h:k<ls.length):lg L 1 (fs.map D.str) ((List.range ls.length).map (bq L fs.length ls k))=(ls.set k {ls[k]! with feats:=fs}).map dm.D:=by
 have e:∀js:List Nat,lg L 1 (fs.map D.str) (js.map (bq L fs.length ls k))=js.map fun j=>if j=k then dm.D {ls[k]! with feats:=fs}else dm.D ls[j]! :=by
  intro js;induction js with
  |nil=>rfl
  |cons j r ih=>
   simp only[List.map_cons,lg,ih];congr 1;by_cases hj:j=k
   .subst hj;simp only[bq,aZ,WD];simp only[iA,b8,bj,aP,fS,aZ,cT,bw];rfl
   .simp only[bq,ai hj];exact gu _ _ _ _ rfl
 rw[e];apply List.ext_getElem
 .simp
 grind
def fz_bq {L k:Nat}{ls:List dm}(h:k<ls.length):lg L 1 (ls[k]!.feats.map D.str) ((List.range ls.length).map (bq L ls[k]!.feats.length ls k))=ls.map dm.D:=by
 rw[WI h];congr 1;apply List.ext_getElem
 .simp
 .intro i h1 h2;by_cases hj:i=k
  .subst hj;simp[h]
  .simp[Ne.symm hj]
def yq {α:Type} [Inhabited α]{q:α->D}{xs:List α}{k K n o:Nat}{v:D}{x':α}(h:k<xs.length)(hv:qb (q xs[k]!) K n o v=q x'):(xs.map q).set k (qb ((xs.map q).getD k .any) K n o v)=(xs.set k x').map q:=by
 rw[getD_map h,hv,List.map_set]
def Ib {α β:Type}(q:α->β)(xs:List α)(k:Nat)(x:α):((xs.set k x).map q).take xs.length=(xs.set k x).map q:=eU aG
def bq_st {L L' c c' k:Nat}{ls:List dm}(h:k<ls.length):((List.range ls.length).map (bq L c ls k)).set k (qb (((List.range ls.length).map (bq L c ls k)).getD k .any) 9 1 8 (.own L' 1 0 c'))=(List.range ls.length).map (bq L' c' ls k):=by
 apply List.ext_getElem
 .simp
 .intro i h1 h2;simp at h2;by_cases hj:i=k
  .subst hj;simp only[List.getElem_set_self,List.getElem_map,List.getElem_range,List.getD_eq_getElem?_getD,List.getElem?_map,List.getElem?_range h,Option.map_some,Option.getD_some];simp only[bq,aZ];rfl
  .simp only[List.getElem_set_ne (Ne.symm hj),List.getElem_map,List.getElem_range,bq,ai hj]
def agX {L c k:Nat}{ls:List dm}(h:k<ls.length):kK (bq L c ls k (List.range ls.length)[k]!) 9 1 8 false=.own L 1 0 c:=by
 have:(List.range ls.length)[k]! =k:=by simp[h]
 rw[this];simp only[bq,aZ];rfl
end Go.Abs
namespace Go.Abs
def Ze {lo:Nat}{σ:List (Nat×Nat)}{α:Type}{q q':α->D}:∀xs:List α,(∀x,rN lo σ (q x)=some (q' x))->oo lo σ (xs.map q)=some (xs.map q')
 |[],_=>rfl
 |a::r,h=>by simp only[List.map_cons,oo,h a,Ze r h]
def ae7 {lo:Nat}{σ:List (Nat×Nat)}{L L' c k:Nat}{ls:List dm}(h:mz lo σ L=some L')(xs:List Nat):oo lo σ (xs.map (bq L c ls k))=some (xs.map (bq L' c ls k)):=by
 refine Ze xs fun j=>?_
 by_cases hj:j=k
 .simp only[bq,ak hj,dm.F,rN,oo,R0,h]
 .simp only[bq,ai hj];rfl
end Go.Abs
namespace Go.Abs
def air {L L' c k K:Nat}{ls:List dm}{es:List D}(h:L'≠L)(xs:List Nat):lg L K es (xs.map (bq L' c ls k))=xs.map (bq L' c ls k):=by
 induction xs with
 |nil=>rfl
 |cons j r ih=>
  simp only[List.map_cons,lg,ih];congr 1;by_cases hj:j=k
  .simp only[bq,ak hj,WD];simp only[iA,h,fI,aU]
  .simp only[bq,ai hj];exact gu _ _ _ _ rfl
def ais {L K:Nat}{es:List D}{p:Prop} [Decidable p]{fs:List av}:lg L K es (if p then fs.map D.str else [])=if p then fs.map D.str else []:=by
 split
 .exact jE _ _ _ _ (bH (fun _=>rfl) _)
 .rfl
end Go.Abs
namespace Go.Abs
def cut_k {α β:Type}(q:α->β)(xs:List α)(k a:Nat)(ha:(xs.take k).length<=a):(((xs.take k).map q).drop 0).take a++((xs.map q).drop (0+(k+1))).take (xs.length-(k+1))=(xs.take k++xs.drop (k+1)).map q:=by
 rw[cT,b8,List.map_append,List.map_drop];congr 1
 .exact eU (by simpa using ha)
 .exact eU aG
end Go.Abs
end
section
namespace Go.Abs
end Go.Abs
namespace Go.Abs
def Kp.eq (a b:Kp):hR (Kp.D a).cells (Kp.D b).cells=decide (a=b):=by
 obtain⟨n1,⟨a1,a2,a3,a4,a5⟩⟩:=a;obtain⟨n2,⟨b1,b2,b3,b4,b5⟩⟩:=b
 grind [Kp.D,D.cells,hR,tj,BA]
def ait {l:List av}{B:Nat}(h:∀t∈l,t.length<=B)(i:Nat):(l[i]!).length<=B:=by
 by_cases hi:i<l.length
 .grind
 .simp only[List.getElem!_eq_getElem?_getD,List.getElem?_eq_none (Nat.le_of_not_lt hi),Option.getD_none];exact Nat.zero_le _
structure dm.ok (n:Nat)(x:dm):Prop where
 pre:x.v.pre.length<=3
 build:x.v.build.length<=2
 name:x.name.length<=16
 shelf:x.shelf.length<=16
 nf:x.feats.length<=n
 ft:∀t∈x.feats,t.length<=16
 sum:0<=x.sum/\x.sum<18446744073709551616
structure jT.ok (n:Nat)(l:jT):Prop where
 len:l.lines.length<=4
 lines:∀x∈l.lines,x.ok n
 env:∀i,(l.env.at i).length<=16
theorem jT.ok.sm {n:Nat}{l:jT}(h:l.ok n)(hn:n<=1000):l.sm:=by
 refine⟨by have:=h.len;omega,fun x hx=>?_,fun i=>by have:=h.env i;omega⟩;have k:=h.lines x hx;have k1:=k.pre;have k2:=k.build;have k3:=k.name;have k4:=k.shelf;have k5:=k.nf;exact⟨⟨ae,ae⟩,ae,ae,ae,fun t ht=>by have:=k.ft t ht;omega⟩
def QS (n:Int)(i:Nat):((ff n).at i).length<=16:=by
 have h:∀t∈Fm,t.length<=16:=aT
 match i with
 |0=>exact ait h _
 |1=>show([]:av).length<=_;decide
 |_+2=>show([]:av).length<=_;decide
def dm.ok.mono {n m:Nat}{x:dm}(h:x.ok n)(hm:n<=m):x.ok m:=⟨h.pre,h.build,h.name,h.shelf,eJ h.nf hm,h.ft,h.sum⟩
end Go.Abs
end
namespace Go.Abs
section
def lk {α:Type}:List (Nat×α)->Nat->α->α
 |[],_,d=>d
 |(a,b)::r,n,d=>bif Nat.beq a n then b else lk r n d
structure Row where
 key:Nat
 pre:List D->Prop
 val:List D->D
structure RowF where
 pre:D->List D->Prop
 val:D->List D->D
 new:D->List D->D
def Row.no:Row:=⟨0,fun _=>False,fun _=>.any⟩
def RowF.no:RowF:=⟨fun _ _=>False,fun _ _=>.any,fun _ _=>.any⟩
section
variable [cN] {P:Program} {ν:List (Nat×Nat)} {bP:List Nat} {Y:Ctx}
end
end
section
variable [cN]
section
variable {P:Program} {ν:List (Nat×Nat)} {bP:List Nat} {Y:Ctx}
def RD.re {x x':X}{σ:List (Nat×Nat)}(hw:x'.w=x.w)(hI:x'.I=x.I)(hβ:∀l l',mz 0 σ l=some l'->x'.β l'=x.β l){v:Value}{d d':D}(hv:RD ν x v d)(hd:RnD 0 σ d d'):RD ν x' v d':=by
 rcases hd with⟨rfl,hn⟩|hd|hd
 .exact hv.aR hn (fun _ h=>by rw[hI];exact h) (fun _ _=>by rw[hw])
 .grind [RD.rn]
 grind [RD.nl]
def oX.re {x x':X}{σ:List (Nat×Nat)}(hw:x'.w=x.w)(hI:x'.I=x.I)(hβ:∀l l',mz 0 σ l=some l'->x'.β l'=x.β l){b base tot:Nat}{b0 blk:bm}(o2:oX ν x b base tot b0)(q3:pB 0 σ b0 blk):oX ν x' b base tot blk:=by
 cases b0 with
 |iter s p=>
  cases blk with
  |iter s' p'=>simp only[pB]at q3;obtain⟨rfl,rfl⟩:=q3;simp only[oX,hw]at o2⊢;exact o2
  |_=>simp[pB]at q3
 |row s=>
  cases blk with
  |row s'=>simp only[pB]at q3;subst q3;simp only[oX,hw]at o2⊢;exact o2
  |_=>simp[pB]at q3
 |bld o n u=>
  cases blk with
  |bld o' n' u'=>
   simp only[pB]at q3;obtain⟨q3,rfl,rfl⟩:=q3;obtain⟨p1,v,p2,p3⟩:=o2;refine⟨p1,v,by rw[hw];exact p2, ?_⟩;cases o with
   |none=>simp only at q3;subst q3;exact p3
   |some l0=>
    obtain⟨l1,q4,rfl⟩:=q3;obtain⟨g,t,p4,p5,p6⟩:=p3;exact⟨g,t,p4,p5,by rw[hβ l0 l1 q4];exact p6⟩
  |_=>simp[pB]at q3
 |mpb s=>
  cases blk with
  |mpb s'=>
   simp only[pB]at q3;subst q3;obtain⟨p1,es2,cl,p2,p3,p4,p5⟩:=o2;exact⟨p1,es2,cl,by rw[hw];exact p2,p3,p4,fun i hi=>(p5 i hi).aR (cY p1 i) (fun _ h=>by rw[hI];exact h) (fun _ _=>by rw[hw])⟩
  |_=>simp[pB]at q3
 |buf k es=>
  cases blk with
  |iter s' p'=>simp[pB]at q3
  |row s'=>simp[pB]at q3
  |bld o' n' u'=>simp[pB]at q3
  |mpb s'=>simp[pB]at q3
  |buf k' es'=>
   simp only[pB]at q3;obtain⟨rfl,q3⟩:=q3;obtain⟨p1,p2,cc,T,fr,p3,p4,p5,p6⟩:=o2;rw[<-hw]at p3;rcases q3 with⟨rfl,hn⟩|q3|q3
   .exact⟨p1,p2,cc,T,fr,p3,p4,p5,fun i hi=>⟨(p6 i hi).1,fun j hj=>⟨((p6 i hi).2 j hj).1,RD.re hw hI hβ ((p6 i hi).2 j hj).2 (.inl ⟨rfl,lC (cY hn i) j⟩)⟩⟩⟩
   .obtain⟨r1,r2⟩:=jP q3;refine⟨p1,ae,cc,T,fr,p3,p4,p5,fun i hi=>?_⟩;have hi':i<es.length:=ae;obtain⟨s1,s2⟩:=F0 (r2 i hi');exact⟨s1.trans (p6 i hi').1,fun j hj=>⟨((p6 i hi').2 j hj).1,RD.re hw hI hβ ((p6 i hi').2 j hj).2 (.inr (.inl (s2 j (by rw[(p6 i hi').1];exact hj))))⟩⟩
   .obtain⟨r1,r2⟩:=rQ q3;refine⟨p1,ae,cc,T,fr,p3,p4,p5,fun i hi=>?_⟩;have hi':i<es.length:=ae;obtain⟨s1,s2⟩:=Fb (r2 i hi');exact⟨s1.trans (p6 i hi').1,fun j hj=>⟨((p6 i hi').2 j hj).1,RD.re hw hI hβ ((p6 i hi').2 j hj).2 (.inr (.inr (s2 j (by rw[(p6 i hi').1];exact hj))))⟩⟩
def R1 {lo c:Nat}{σ:List (Nat×Nat)}{l l':Nat}(h0:fX 0 c σ=true)(h:mz 0 σ l=some l'):l'<c/\(l,l')∈σ:=by
 obtain⟨h1,h2⟩:=yn h0 h
 grind
def xz {c:Nat}:∀{σ:List (Nat×Nat)}{a b:Nat},fX 0 c σ=true->(a,b)∈σ->mz 0 σ a=some b
 |[],a,b,_,h=>by cases h
 |(a0,b0)::r,a,b,h0,h=>by
  unfold mz;simp only[fX,aN,List.all_eq_true,cG]at h0;obtain⟨_,_,p4,p5⟩:=h0;rcases b9.1 h with h|h
  .simp only[di]at h;obtain⟨rfl,rfl⟩:=h;simp
  .have:=(p4 _ h).1;simp only at this;have hne:Nat.beq a0 a=false:=by
    cases hb:Nat.beq a0 a with
    |false=>rfl
    |true=>obtain rfl:=Nat.eq_of_beq_eq_true hb;simp at this
   rw[hne];exact xz p5 h
structure Fr (σi σo:List (Nat×Nat))(q q1:Nat)(m0 m1:List (Nat×bm))(st st':St):Prop where
 oki:fX 0 q σi=true
 oko:fX 0 st'.nx σo=true
 nx:st.nx<=st'.nx
 lt:∀l i,(l,i)∈σi->look st.m l≠none
 io:∀i l,(i,l)∈σo->(l,i)∈σi\/st.nx<=l
 m0:∀i b,look m0 i=some b->∃l b',(l,i)∈σi/\look st.m l=some b'/\pB 0 σi b' b
 m1:∀l b,look st'.m l=some b->(∃i b1,(i,l)∈σo/\look m1 i=some b1/\pB 0 σo b1 b)\/(nq σo l=none/\(∀i,(l,i)∉σi)/\look st.m l=some b)
def acf {fid:Nat}{fn:Func}{af:aj}{K:D->St->Prop}(hΓ:Ok P ν bP Y)(hmix:P.follows .mixedOrders=true)(hf:P.funcs[fid]? =some fn)(hc:compile P ν bP fn=some af)
  {x:X} {args:Array Value} {ds cs:List D} {st:St} {σi:List (Nat×Nat)} {q:Nat} {m0:List (Nat×bm)} (hl:args.size=ds.length) (hargs:∀i,i<ds.length->RD ν x (args.getD i undef) (ds.getD i .any))
  (hs:fm ν x (look st.m)) (hfr:eW st x) (hlen:cs.length=ds.length) (hds:∀i,i<ds.length->RnD 0 σi (ds.getD i .any) (cs.getD i .any)) (hnp:cs.length=af.np)
  (oki:fX 0 q σi=true) (hlt:∀l i,(l,i)∈σi->look st.m l≠none) (hm0:∀i b,look m0 i=some b->∃l b',(l,i)∈σi/\look st.m l=some b'/\pB 0 σi b' b)
  (hw:dp (Y.at q) af.body (fun e env st1=>e.home/\om st1.m env af.res/\∃(σo:List (Nat×Nat)) (q1:Nat) (m1:List (Nat×bm)) (st':St) (vd':D),Fr σi σo q q1 m0 m1 st st'/\RnD 0 σo (j3 af env st1) vd'/\K vd' st'/\∀i,look st1.m i=look m1 i) (fq af cs) ⟨q,m0⟩):
  Calls P fid args x.w fun
   | .returned v,w'=>∃x' d st',K d st'/\x'.w=w'/\Step x x'/\RD ν x' v d/\fm ν x' (look st'.m)/\eW st' x'
   |_,_=>False:=by
 obtain⟨body,c1,c2,c3,c4,c5,c6⟩:=gG hc
 let x0:X:=⟨x.w,x.I,fun i=>(nq σi i).bind x.β⟩
 have hx0:∀l i,(l,i)∈σi->x0.β i=x.β l:=fun l i h=>by simp only[x0,BC oki h,Option.bind_some]
 have hβ0:∀l i,mz 0 σi l=some i->x0.β i=x.β l:=fun l i h=>hx0 l i (R1 (lo:=0) oki h).2
 have hx0':∀i p,x0.β i=some p->∃l,(l,i)∈σi/\x.β l=some p/\i<q:=by
  intro i p h;obtain⟨l,h1,h2⟩:=Option.bind_eq_some_iff.1 (show(nq σi i).bind x.β=some p from h);exact⟨l,lY h1,h2,tc oki (lY h1)⟩
 have hs0:fm ν x0 (look m0):=by
  refine⟨fun i blk b base tot e1 e2=>?_,fun i j b base tot base' tot' e1 e2 e3 e4=>?_,hs.imm,fun i b base tot e=>?_,cN.le x _ (fun _ h=>h) (fun _ _=>rfl) hs.gd⟩
  .obtain⟨l,b',h1,h2,h3⟩:=hm0 i blk e1;rw[hx0 l i h1]at e2;obtain⟨o1,o2⟩:=hs.own l b' b base tot h2 e2;exact⟨o1,oX.re (x:=x) (x':=x0) rfl rfl hβ0 o2 h3⟩
  .obtain⟨l,h1,h2,_⟩:=hx0' i _ e3;obtain⟨l',h1',h2',_⟩:=hx0' j _ e4;have:=hs.inj l l' b base tot base' tot' (hlt _ _ h1) (hlt _ _ h1') h2 h2';subst this;have:=xz oki h1;rw[xz oki h1']at this;exact(aW this).symm
  .obtain⟨l,_,h2,_⟩:=hx0' i _ e;exact hs.dZ l b base tot h2
 have hf0:eW ⟨q,m0⟩ x0:=by
  refine⟨fun i hi=>?_,fun i hi=>?_⟩
  .cases h:x0.β i with
   |none=>rfl
   |some p=>obtain⟨_,_,_,h4⟩:=hx0' i p h;simp only at hi;omega
  .cases h:look m0 i with
   |none=>exact absurd h hi
   |some b=>obtain⟨l,b',h1,_⟩:=hm0 i b h;exact tc oki h1
 have hi:=tz (P:=P) (ν:=ν) (bP:=bP) (x:=x0) (ds:=cs) (st:=⟨q,m0⟩) c4 c5 c6 (args:=args) ae hnp (fun i hi=>RD.re (x:=x) (x':=x0) rfl rfl hβ0 (hargs i ae) (hds i ae)) hs0 hf0;have hcs:=qw (C:={P,ν,bP,slots:=slotsOf fn,ntmps:=fn.ntmps,vm:=PT P fn}) (hΓ.at q) (mh fn).1 hmix x0 (fun l h=>hf0.β l h) body af.body c2 _ _ _ _ x0 hw hi (.refl _);refine calls_of_wp hf c1 (wp_mono hcs fun e a w' hp=>?_);obtain⟨e',x',env',st1,he,hxw,hst,hi',hh,hro,σo,q1,m1,st',vd',hfm,hvd,hK,hlk⟩:=hp;subst hxw;obtain⟨v,r1,r2,r3⟩:=oT hΓ.small hi' c3 hro
 let x2:X:=⟨x'.w,x'.I,fun l=>match nq σo l with|some i=>x'.β i|none=>x.β l⟩
 have hx2:∀i l,(i,l)∈σo->x2.β l=x'.β i:=fun i l h=>by simp only[x2,BC hfm.oko h]
 have hx2n:∀l,nq σo l=none->x2.β l=x.β l:=fun l h=>by simp only[x2,h]
 have hβ2:∀i l,mz 0 σo i=some l->x2.β l=x'.β i:=fun i l h=>hx2 i l (R1 (lo:=0) hfm.oko h).2
 have hx0s:∀l i p,(l,i)∈σi->x.β l=some p->x'.β i=some p:=fun l i p h e=>hst.β _ _ (by rw[hx0 l i h];exact e)

 have hnew:∀i p,x'.β i=some p->(∃l,(l,i)∈σi/\x.β l=some p)\/x.w.heap.size<=p.1\/∃l p',(∃j,(l,j)∈σi)/\x.β l=some p'/\p'.1=p.1:=by
  intro i p e;rcases hst.newβ i p e with h|h|⟨j,p',h1,h2⟩
  .obtain⟨l,h3,h4,_⟩:=hx0' i p h;exact .inl ⟨l,h3,h4⟩
  .exact .inr (.inl h)
  .obtain⟨l,h3,h4,_⟩:=hx0' j p' h1;exact .inr (.inr ⟨l,p',⟨j,h3⟩,h4,h2⟩)
 have hstep:Step x x2:=by
  refine⟨hst.os,hst.tape,hst.output,hst.size,hst.I,hst.pd,fun l p hp=>?_,fun b hb hn=>hst.old b hb fun i p h e=>?_,fun b h=>?_,fun l p h=>?_⟩
  .cases h:nq σo l with
   |none=>rw[hx2n l h];exact hp
   |some i=>
    have hm:=lY h;rw[hx2 i l hm];rcases hfm.io i l hm with h2|h2
    .exact hx0s l i p h2 hp
    .rw[hfr.β l h2]at hp;cases hp
  .obtain⟨l,_,h2,_⟩:=hx0' i p h;exact hn l p h2 e
  .rcases hst.newI b h with h|h|⟨i,p,h1,h2⟩
   .exact .inl h
   .exact .inr (.inl h)
   .obtain⟨l,_,h3,_⟩:=hx0' i p h1;exact .inr (.inr ⟨l,p,h3,h2⟩)
  .cases h1:nq σo l with
   |none=>rw[hx2n l h1]at h;exact .inl h
   |some i=>
    have hm:=lY h1;rw[hx2 i l hm]at h;rcases hnew i p h with⟨l',h2,h3⟩|h2|⟨l',p',_,h3,h4⟩
    .exact .inr (.inr ⟨l',p,h3,rfl⟩)
    .exact .inr (.inl h2)
    .exact .inr (.inr ⟨l',p',h3,h4⟩)
 have hsim:fm ν x2 (look st'.m):=by
  refine⟨fun l blk b base tot e1 e2=>?_,fun l1 l2 b base tot base' tot' e1 e2 e3 e4=>?_,hi'.oy.imm,fun l b base tot e=>?_,cN.le x' _ (fun _ h=>h) (fun _ _=>rfl) hi'.oy.gd⟩
  .rcases hfm.m1 l blk e1 with⟨i,b1,h1,h2,h3⟩|⟨h1,h2,h3⟩
   .rw[hx2 i l h1]at e2;obtain⟨o1,o2⟩:=hi'.oy.own i b1 b base tot (by rw[hlk];exact h2) e2;exact⟨o1,oX.re (x:=x') (x':=x2) rfl rfl hβ2 o2 h3⟩
   .rw[hx2n l h1]at e2;obtain⟨o1,o2⟩:=hs.own l blk b base tot h3 e2;have hlt:=hs.dZ l b base tot e2;have hno:∀i p,x0.β i=some p->p.1≠b:=by
     rintro i ⟨b',base',tot'⟩ h e;simp only at e;subst e;obtain⟨l',h4,h5,_⟩:=hx0' i _ h;have:=hs.inj l' l b' base' tot' base tot (hfm.lt _ _ h4) (by rw[h3];simp) h5 e2;subst this;exact h2 _ h4
    refine⟨fun h=>?_,o2.mono hstep.le (hst.old b hlt hno)⟩;rcases hst.newI b h with h|h|⟨i,p,h4,h5⟩
    .exact o1 h
    .exact absurd hlt (Nat.not_lt.2 h)
    .exact hno i p h4 h5
  .have mix:∀l1 l2 base tot base' tot',(∃i b1,(i,l1)∈σo/\look m1 i=some b1)->nq σo l2=none->(∀i,(l2,i)∉σi)->look st.m l2≠none->x2.β l1=some (b,base,tot)->x2.β l2=some (b,base',tot')->False:=by
    rintro l1 l2 base tot base' tot' ⟨i,b1,h1,h2⟩ h3 h4 h5 e3 e4;rw[hx2 i l1 h1]at e3;rw[hx2n l2 h3]at e4;rcases hnew i _ e3 with⟨l',h6,h7⟩|h6|⟨l',⟨pb,pt,pq⟩,⟨j,h6⟩,h7,h8⟩
    .have:=hs.inj l' l2 b base tot base' tot' (hfm.lt _ _ h6) h5 h7 e4;subst this;exact h4 _ h6
    .have:=hs.dZ l2 b base' tot' e4;simp only at h6;omega
    .simp only at h8;subst h8;have:=hs.inj l' l2 pb pt pq base' tot' (hfm.lt _ _ h6) h5 h7 e4;subst this;exact h4 _ h6
   cases f1:look st'.m l1 with
   |none=>exact absurd f1 e1
   |some b1=>
    cases f2:look st'.m l2 with
    |none=>exact absurd f2 e2
    |some b2=>
     rcases hfm.m1 l1 b1 f1 with⟨i,c1,h1,h2,_⟩|⟨h1,h2,h3⟩<;>rcases hfm.m1 l2 b2 f2 with⟨j,c2,k1,k2,_⟩|⟨k1,k2,k3⟩
     .rw[hx2 i l1 h1]at e3;rw[hx2 j l2 k1]at e4;have:=hi'.oy.inj i j b base tot base' tot' (by rw[hlk,h2];simp) (by rw[hlk,k2];simp) e3 e4;subst this;have:=xz hfm.oko h1;rw[xz hfm.oko k1]at this;exact(aW this).symm
     .exact(mix l1 l2 base tot base' tot' ⟨i,c1,h1,h2⟩ k1 k2 (by rw[k3];simp) e3 e4).elim
     .exact(mix l2 l1 base' tot' base tot ⟨j,c2,k1,k2⟩ h1 h2 (by rw[h3];simp) e4 e3).elim
     .rw[hx2n l1 h1]at e3;rw[hx2n l2 k1]at e4;exact hs.inj l1 l2 b base tot base' tot' (by rw[h3];simp) (by rw[k3];simp) e3 e4
  .cases h1:nq σo l with
   |none=>rw[hx2n l h1]at e;exact jj (hs.dZ l b base tot e) hst.size
   |some i=>
    rw[hx2 i l (lY h1)]at e;exact hi'.oy.dZ i b base tot e
 have hfr2:eW st' x2:=by
  refine⟨fun l hl=>?_,fun l hl=>?_⟩
  .cases h1:nq σo l with
   |none=>rw[hx2n l h1];exact hfr.β l (by have:=hfm.nx;omega)
   |some i=>have:=tc hfm.oko (lY h1);omega
  .cases f1:look st'.m l with
   |none=>exact absurd f1 hl
   |some b1=>
    rcases hfm.m1 l b1 f1 with⟨i,c1,h1,_⟩|⟨_,_,h3⟩
    .exact tc hfm.oko h1
    .have:=hfr.m l (by rw[h3];simp);have:=hfm.nx;omega
 have hrd:=RD.re (ν:=ν) (x:=x') (x':=x2) rfl rfl hβ2 r2 hvd;rcases Ex.BI hh with h|h<;>rw[h]at he<;>subst he<;>exact⟨hi'.defers,v,r1,x2,vd',st',hK,rfl,hstep,hrd,hsim,hfr2⟩
end
end
section
structure RowT where
 tr:List D->St->(D->St->Prop)->Prop
 mu:List D->St->Nat
 mono:∀(ds:List D) (st:St) (K K':D->St->Prop),(∀d st',K d st'->K' d st')->tr ds st K->tr ds st K'
def RowT.no:RowT:=⟨fun _ _ _=>False,fun _ _=>0,fun _ _ _ _ _ h=>h⟩
def rI (af:aj)(Q:D->List (Nat×bm)->Prop):Ex->List aX->St->Prop:=fun e env st=>e.home/\om st.m env af.res/\∃m1,(∀i,look st.m i=look m1 i)/\Q (j3 af env st) m1
def dD {af:aj}{Q:D->List (Nat×bm)->Prop}{vd:D}{m1:List (Nat×bm)}{e:Ex}{env:List aX}{st:St}(h1:e.home)(h2:om st.m env af.res)(h3:j3 af env st=vd)(h4:st.m=m1)(h5:Q vd m1):rI af Q e env st:=⟨h1,h2,m1,fun i=>by rw[h4],by rw[h3];exact h5⟩
section
variable [cN] {P:Program} {ν:List (Nat×Nat)} {bP:List Nat} {Y:Ctx}
def Vm (P:Program)(ν:List (Nat×Nat))(Γ':Ctx)(bP:List Nat)(tr:List D->St->(D->St->Prop)->Prop)(fid:Nat):Prop:=
 ∀(ds:List D) (st:St) (K:D->St->Prop),tr ds st K->Ok P ν bP Γ'->∀(x:X) (args:Array Value),args.size=ds.length->(∀i,i<ds.length->RD ν x (args.getD i undef) (ds.getD i .any))->fm ν x (look st.m)->eW st x->
  jG P x (fun v x'=>∃d st',K d st'/\Step x x'/\RD ν x' v d/\fm ν x' (look st'.m)/\eW st' x') ((callFunc fid args).run P x.w)
end
end
end Go.Abs
