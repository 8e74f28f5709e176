/- A part of the proofs. -/
import Derived.Lib.SliceRun
import Derived.Orders
import Derived.WalkSpells
import Derived.Test.YtaeimnechonnmaaGreatDoorP02
set_option linter.all false
set_option maxRecDepth 4000
namespace Go.Abs
section
variable [dq]
def iX (P:Program)(x:X)(G:Value->X->Prop)(r:Result Next):Prop:=
 (∃v x',(r=.ok (.value v) x'.w\/r=.ok .skip x'.w/\v=undef)/\G v x')\/
 (∃f args,r=.ok (.enter f args) x.w/\Calls P f args x.w fun
   | .returned v,w'=>∃x',x'.w=w'/\G v x'
   |_,_=>False)
def iX.mono {P:Program}{x:X}{G G':Value->X->Prop}{r:Result Next}(h:iX P x G r)(hg:∀v x',G v x'->G' v x'):iX P x G' r:=by
 rcases h with⟨v,x',h1,h2⟩|⟨f,args,h1,h2⟩
 .exact .inl ⟨v,x',h1,hg _ _ h2⟩
 .refine .inr ⟨f,args,h1,Calls.mono h2 fun e w' he=>?_⟩
  grind
def iX.wp {P:Program}{x:X}{G:Value->X->Prop}{o:Oper}{a:Act}{next:Act->World->Prop}{Q:Exit->Act->World->Prop}
  (h:iX P x G ((execOp a.eval o).run P x.w)) (hn:∀v x',G v x'->next (a.put o.dst v) x'.w):o.wp P a x.w next Q:=by
 unfold Oper.wp;rcases h with⟨v,x',h1|⟨h1,h3⟩,h2⟩|⟨f,args,h1,h2⟩
 .rw[h1];exact hn v x' h2
 .rw[h1];subst h3;exact hn _ x' h2
 .rw[h1,Oper.upon_enter];refine Calls.mono h2 fun e w' he=>?_
  grind
structure nR (x x':X):Prop where
 grow:hH x.w x'.w
 I:∀b,x.I b->x'.I b
 newI:∀b,x'.I b->x.I b\/x.w.heap.size<=b
 imm:∀b,x'.I b->b<x'.w.heap.size
 β:x'.β=x.β
structure eC (st:St)(x:X):Prop where
 β:∀l,st.nx<=l->x.β l=none
 m:∀l,look st.m l≠none->l<st.nx
structure Ok (P:Program)(ν:List (Nat×Nat))(cC:List Nat)(Y:Ctx):Prop where
 small:∀fid n,dr ν fid=some n->n<1000000
 bld:∀t,cC.contains (1000000000+t)=true->t=dq.tB
 glz:∀g,cC.contains (500000000+g)=true->dq.gz g
 pure:∀fid n,dr ν fid=some n->∀(x:X) (args:Array Value) (ds:List D),args.size=ds.length->(∀i,i<ds.length->RD ν x (args.getD i undef) (ds.getD i .any))->aV ds=true->
  (∀b,x.I b->b<x.w.heap.size)->dq.gd x->Y.pre n ds->iX P x (fun v x'=>nR x x'/\RD ν x' v (Y.val n ds)) ((callFunc fid args).run P x.w)
 effF:∀fid n,dr ν fid=some n->cC.contains (2*n+1)=true->∀(x:X) (f:Nat->Option bM) (args:Array Value) (l k:Nat) (d:D) (ds:List D),args.size=ds.length+1->RD ν x (args.getD 0 undef) (.ptr l k 0 0)->
  (∀i,i<ds.length->RD ν x (args.getD (i+1) undef) (ds.getD i .any))->eG ν x f->f l=some (.buf k [d])->d.bc=true->aV ds=true->Y.fp n d ds->
  iX P x (fun v x'=>Step x x'/\RD ν x' v (Y.fv n d ds)/\eG ν x' (fun l'=>if l'=l then some (.buf k [Y.fs n d ds])else f l')/\x'.β=x.β) ((callFunc fid args).run P x.w)
 cC:∀fid n,dr ν fid=some n->∀(x:X) (args:Array Value) (ds:List D) (st:St) (K:D->St->Prop),args.size=ds.length->(∀i,i<ds.length->RD ν x (args.getD i undef) (ds.getD i .any))->
  eG ν x (look st.m)->eC st x->Y.tr n ds st K->iX P x (fun v x'=>∃d st',K d st'/\Step x x'/\RD ν x' v d/\eG ν x' (look st'.m)/\eC st' x') ((callFunc fid args).run P x.w)
section
variable {x:X} {f:Nat->Option bM} {C:CC} {defs:List (Option Nat)} {J:Src->b8} {ev:Operand->Value} {Y:Ctx} {m:List (Nat×bM)} {L:Nat} {ν:List (Nat×Nat)}
def nR.step {x':X}(h:nR x x')(himm:∀b,x.I b->b<x.w.heap.size):Step x x':=
 ⟨h.grow.os,h.grow.tape,h.grow.output,h.grow.size,h.I,fun b hb=>h.grow.old b (himm b hb),fun l p hp=>by rw[h.β];exact hp,fun b hb _=>h.grow.old b hb,fun b hb=>(h.newI b hb).imp id .inl,fun l p hp=>.inl (by rw[h.β]at hp;exact hp)⟩
def nR.lv {x':X}(h:nR x x')(hs:eG ν x f):eG ν x' f:=by
 have hst:=h.step hs.imm;refine⟨fun l blk b base tot e1 e2=>?_,fun l1 l2 b base tot base' tot' e1 e2 e3 e4=>?_,h.imm,fun l b base tot e=>?_,qM hst.le hs.gd⟩
 .rw[h.β]at e2;obtain⟨a1,a2⟩:=hs.own l blk b base tot e1 e2;have hb:=hs.dW l b base tot e2;refine⟨fun hI=>?_,a2.mono hst.le (h.grow.old b hb)⟩;rcases h.newI b hI with h1|h1
  .exact a1 h1
  .omega
 .rw[h.β]at e3 e4;exact hs.inj l1 l2 b base tot base' tot' e1 e2 e3 e4
 .rw[h.β]at e;exact jq (hs.dW l b base tot e) h.grow.size
mutual
theorem I1 (m m':List (Nat×bM)):∀(s:Sh) (d:D),d.bc=true->lj m s d=lj m' s d/\iT m s d
 | .a,d,h=>by cases d<;>simp_all[lj,iT,D.bc]
 | .sl k cs,d,h=>by cases d<;>simp_all[lj,iT,D.bc]
 | .pt cs,d,h=>by cases d<;>simp_all[lj,iT,D.bc]
 | .kp cs,d,h=>by cases d<;>simp_all[lj,iT,D.bc]
theorem I2 (m m':List (Nat×bM)):∀(ss:List Sh) (ds:List D),aV ds=true->mB m ss ds=mB m' ss ds/\kE m ss ds
 |[],ds,h=>by simp[mB,kE,h]
 |s::r,[],h=>by simp[mB,kE]
 |s::r,d::ds,h=>by
  simp only[aV,bm]at h;obtain⟨a1,a2⟩:=I1 m m' s d h.1;obtain⟨b1,b2⟩:=I2 m m' r ds h.2;simp only[mB,kE,a1,b1];exact⟨trivial,a2,b2⟩
end
def I3 (m m':List (Nat×bM))(ss:List Sh)(d:D)(h:d.bc=true):iH m ss d=iH m' ss d/\gD m ss d:=by
 cases ss with
 |nil=>simp[iH,gD,h]
 |cons s r=>
  cases d<;>simp only[iH,gD]<;>first
   |exact I1 m m' s _ h
   |skip
  grind [I2,D.oV]
def sg (m m':List (Nat×bM)):∀(ss:List (List Sh)) (ds:List D),aV ds=true->fU m ss ds=fU m' ss ds/\iU m ss ds
 |ss,[],h=>by simp[fU,iU]
 |[],d::r,h=>by
  simp only[aV,bm]at h;obtain⟨a1,a2⟩:=I3 m m' [.a] d h.1;obtain⟨b1,b2⟩:=sg m m' [] r h.2
  grind [fU,iU]
 |s::ss,d::r,h=>by
  simp only[aV,bm]at h;obtain⟨a1,a2⟩:=I3 m m' s d h.1;obtain⟨b1,b2⟩:=sg m m' ss r h.2
  grind [fU,iU]
def Goal (ν:List (Nat×Nat))(x:X)(f:Nat->Option bM)(L:Nat)(d:D)(v:Value)(x':X):Prop:=Step x x'/\RD ν x' v d/\eG ν x' f/\∀l,l≠L->x'.β l=x.β l
def wA.pg {P:Program}{f':Nat->Option bM}{d:D}{r:Result Next}(h:wA ν x f' L d r):iX P x (Goal ν x f' L d) r:=by
 obtain⟨v,x',h1,h2,h3,h4,h5⟩:=h;exact .inl ⟨v,x',h1,h2,h3,h4,h5⟩
def rC {P:Program}{cC:List Nat}(hΓ:Ok P ν cC Y){fid n:Nat}(hn:dr ν fid=some n){args:Array Value}{ds:List D}{sh:List (List Sh)}(hl:args.size=ds.length)
  (hargs:∀i,i<ds.length->RD ν x (args.getD i undef) (ds.getD i .any)) (hs:eG ν x f) (hag:aV ds=false->∀l,look m l≠none->f l=look m l) (ho:iU m sh ds) (hpre:Y.pre n (fU m sh ds))
  (hok:nY ds (Y.val n (fU m sh ds))=true):iX P x (Goal ν x f L (Y.val n (fU m sh ds))) ((callFunc fid args).run P x.w):=by
 cases hnl:aV ds with
 |true=>
  obtain⟨e1,_⟩:=sg m [] sh ds hnl;obtain⟨_,e2⟩:=sg [] m sh ds hnl;have hs0:eG ν x (fun _=>none):=hs.less fun _=>.inr (.inl rfl)
  obtain⟨a1,a2,a3⟩:=iI (m:=[]) hs0 (fun l h=>by simp[look]at h) sh ds (fun j=>args.getD j undef) hargs e2;rw[<-e1]at a1 a2 a3;have hle:Le (x.kK fun _=>none) x:=⟨fun b hb=>by
   rcases hb with h|⟨_,_,_,_,h⟩
   .exact h
   .exact absurd rfl h,fun _ _=>rfl,fun _ _ h=>h⟩
  refine(hΓ.pure fid n hn x args _ (by rw[a1,hl]) (fun i hi=>(a3 i ae).mono hle) a2 hs.imm hs.gd hpre).mono fun v x' h=>?_
  obtain⟨h1,h2⟩:=h;exact⟨h1.step hs.imm,h2,h1.lv hs,fun l _=>by rw[h1.β]⟩
 |false=>
  obtain⟨a1,a2,a3⟩:=iI hs (hag hnl) sh ds (fun j=>args.getD j undef) hargs ho;have hmf:(Y.val n (fU m sh ds)).ee=true:=by simpa[nY,hnl]using hok
  have himm:∀b,(x.kK f).I b->b<x.w.heap.size:=by
   intro b hb;rcases hb with h|⟨l,⟨b',base,tot⟩,h1,h2,h3⟩
   .exact hs.imm b h
   .subst h2;exact hs.dW l _ _ _ h1
  have h:=hΓ.pure fid n hn (x.kK f) args _ (by rw[a1,hl]) (fun i hi=>a3 i ae) a2 himm (qM (lL x f) hs.gd) hpre;have key:∀v x',(nR (x.kK f) x'/\RD ν x' v (Y.val n (fU m sh ds)))->Goal ν x f L (Y.val n (fU m sh ds)) v ⟨x'.w,x.I,x.β⟩:=by
   intro v x' ⟨h1,h2⟩;have hp:nR x ⟨x'.w,x.I,x.β⟩:=⟨h1.grow,fun _ h=>h,fun _ h=>.inl h,fun b hb=>jq (hs.imm b hb) h1.grow.size,rfl⟩;exact⟨hp.step hs.imm,h2.ee hmf,hp.lv hs,fun _ _=>rfl⟩
  rcases h with⟨v,x',h1,h2⟩|⟨f',args',h1,h2⟩
  .exact .inl ⟨v,⟨x'.w,x.I,x.β⟩,h1,key v x' h2⟩
  .refine .inr ⟨f',args',h1,Calls.mono h2 fun e w' he=>?_⟩;cases e with
   |returned v=>obtain⟨x',e1,e2⟩:=he;exact⟨⟨x'.w,x.I,x.β⟩,e1,key v x' e2⟩
   |panicked c=>exact he
   |outgrown=>exact he
end
end
section
variable [dq]
section
variable {x:X} {f:Nat->Option bM} {C:CC} {defs:List (Option Nat)} {J:Src->b8} {ev:Operand->Value} {Y:Ctx} {m:List (Nat×bM)} {L:Nat} {ν:List (Nat×Nat)}
def oI {f:Nat->Option bM}{m':List (Nat×bM)}:iB f [] m'=f:=by funext l;simp[iB]
def LA {i:aG}(hp:i.pure=true):i.wr J L=[]:=by cases i<;>simp_all[aG.pure,aG.wr]
def D7 {args:List D}{ls:Option (List Nat)}(hls:ls=bif aV args then some []else none)(hag:ye f m ls):aV args=false->∀l,look m l≠none->f l=look m l:=by
 intro h;rw[h]at hls;subst hls;exact hag
theorem IP {o:Oper}{fid:Nat}{args:Array Operand}{tys:Array TypeId}{n:Nat}{ss:List Src}{sh:List (List Sh)}(hcst:∀d,J (.c d)=⟨true,d⟩)(hΓ:Ok C.P C.ν C.cC Y)
  (ho:o.op=.call {callee:=.value (.func fid),args,argTypes:=tys}) (h1:dr C.ν fid=some n) (h2:C.qn defs args.toList=some ss) (hρ:pI C defs J ev x o.op.operands.toList) (hob:(aG.call n ss sh).dF Y J m) (hs:eG C.ν x f) (hag:ye f m ((aG.call n ss sh).kV J)):
  iX C.P x (Goal C.ν x (iB f ((aG.call n ss sh).wr J L) ((aG.call n ss sh).cC Y J m L)) L ((aG.call n ss sh).val Y J m L)) ((execOp ev o).run C.P x.w):=by
 obtain⟨k1,k2,k3,k4⟩:=hob;have hv:=hρ (.func fid) (by simp[ho,Op.operands,Call.operands]) (.c (.fn n [])) (by simp[CC.src,h1]) (by rw[hcst]);rw[hcst]at hv;obtain⟨s1,s2,s3⟩:=fV hρ _ _ (fun o' ho'=>by simp only[ho,Op.operands,Call.operands];simp at ho'⊢;exact .inr ho') h2 k1;generalize hep:ev (.func fid)=vf at hv;cases hv with
 |dW=>exact absurd (hΓ.small _ _ h1) ae
 |mp=>exact absurd (hΓ.small _ _ h1) ae
 |bx=>exact absurd (hΓ.small _ _ h1) ae
 |ifc=>exact absurd (hΓ.small _ _ h1) ae
 |ifn=>exact absurd (hΓ.small _ _ h1) ae
 |zp=>exact absurd (hΓ.small _ _ h1) ae
 |fn fid' _ cs _ hν hl _=>
  have hcs:cs=#[]:=by apply Array.ext';simpa using hl
  subst hcs;have hrun:(execOp ev o).run C.P x.w=(callFunc fid' (args.map ev)).run C.P x.w:=by
   simp[execOp,ho,resolve,Deferred.ofValue,invoke,hep]
  rw[hrun];have hwr:(aG.call n ss sh).wr J L=[]:=rfl;rw[hwr,oI];simp only[aG.val];refine rC hΓ hν (by simp;simpa using s2.symm) (fun i hi=>?_) hs (D7 rfl hag) k2 k3 k4;have:=s3 i hi
  rwa [<-Array.toList_map,cw]at this
theorem kM (a b:Array Value)(i:Nat):(a++b).getD i undef=if i<a.size then a.getD i undef else b.getD (i-a.size) undef:=by
 rw[<-cw,Array.toList_append,df]
 grind [cw]
def IQ {o:Oper}{t:Nat}{args:Array Operand}{tys:Array TypeId}{s:Src}{ss:List Src}{sh:List (List Sh)}(hΓ:Ok C.P C.ν C.cC Y)
  (ho:o.op=.call {callee:=.value (.tmp t),args,argTypes:=tys}) (h1:C.src defs (.tmp t)=some s) (h2:C.qn defs args.toList=some ss) (hρ:pI C defs J ev x o.op.operands.toList) (hob:(aG.callv s ss sh).dF Y J m) (hs:eG C.ν x f) (hag:ye f m ((aG.callv s ss sh).kV J)):
  iX C.P x (Goal C.ν x (iB f ((aG.callv s ss sh).wr J L) ((aG.callv s ss sh).cC Y J m L)) L ((aG.callv s ss sh).val Y J m L)) ((execOp ev o).run C.P x.w):=by
 obtain⟨k0,k1,k2⟩:=hob;have hv:=hρ (.tmp t) (by simp[ho,Op.operands,Call.operands]) s h1 k0;obtain⟨s1,s2,s3⟩:=fV hρ _ _ (fun o' ho'=>by simp only[ho,Op.operands,Call.operands];simp at ho'⊢;exact .inr ho') h2 k1;cases hd:(J s).d<;>simp only[hd]at k2;rename_i n caps;obtain⟨k1',k2,k3,k4⟩:=k2;rw[hd]at hv;generalize hep:ev (.tmp t)=vf at hv;cases hv with
 |dW _ n'=>exact absurd k1' ae
 |mp=>exact absurd k1' ae
 |bx=>exact absurd k1' ae
 |ifc=>exact absurd k1' ae
 |ifn=>exact absurd k1' ae
 |zp=>exact absurd k1' ae
 |fn fid' _ cs _ hν hl hcs=>
  have hrun:(execOp ev o).run C.P x.w=(callFunc fid' (args.map ev++cs)).run C.P x.w:=by
   simp[execOp,ho,resolve,Deferred.ofValue,invoke,hep]
  rw[hrun];have hwr:(aG.callv s ss sh).wr J L=[]:=rfl;rw[hwr,oI];have lU:(aG.callv s ss sh).val Y J m L=Y.val n (fU m sh (gL J ss++caps)):=by simp[aG.val,hd]
  rw[lU];have hsz:args.size=(gL J ss).length:=by simpa using s2.symm
  refine rC hΓ hν (by simp[hl,hsz]) (fun i hi=>?_) hs (D7 (by simp[aG.kV,hd]) hag) k2 k3 k4;rw[kM,df];simp only[Array.size_map,hsz];split
  .rename_i hlt;have:=s3 i hlt
   rwa [<-Array.toList_map,cw]at this
  .exact hcs _ (by simp at hi;omega)
def BZ {P:Program}{ν:List (Nat×Nat)}{nm:String}{t n:Nat}(hall:zZ P ν nm t n=true):
  ∃fid ti mt d,dr ν fid=some n/\P.info? t=some ti/\ti.methods.find? (·.name==nm)=some mt/\mt.path=#[]/\mt.func=some (fid,false)/\P.underlying t=some d/\∀u,d≠.pointer u:=by
 unfold zZ at hall;split at hall
 .cases hall
 .cases hall
 .rename_i d hnp hu;split at hall
  .rename_i ti hti;split at hall
   .rename_i mt hmt;simp only[bm]at hall;obtain⟨hp,hall⟩:=hall;split at hall
    .rename_i fid hf;exact⟨fid,ti,mt,d,by simpa using hall,hti,hmt,by apply Array.ext';simpa using hp,hf,hu,fun u e=>hnp u e⟩
    .cases hall
   .cases hall
  .cases hall
def JX (t:Nat):Md (1000000000+t)=some t:=by
 unfold Md;rw[ai ae];exact bS some ae
def B0 {P:Program}{ν:List (Nat×Nat)}{nm:String}(h:Ip P ν nm=true){t n:Nat}(hν:dr ν (1000000000+t)=some (500000+n)):zZ P ν nm t n=true:=by
 have key:∀k q q':Nat,(k,q)∈ν->Md k=some t->q-500000=q'->zZ P ν nm t q'=true:=by
  intro k q q' hm hk hq;have hall:=List.all_eq_true.1 h _ hm;rw[<-hq];simpa only[hk]using hall
 exact key _ _ _ (ml hν) (JX t) ae
def Lq {o:Oper}{r:Operand}{nm:String}{args:Array Operand}{tys:Array TypeId}{s:Src}(hΓ:Ok C.P C.ν C.cC Y)
  (ho:o.op=.call {callee:=.invoke r nm,args,argTypes:=tys}) (ha:args=#[]) (hi:Ip C.P C.ν nm=true) (h1:C.src defs r=some s) (hρ:pI C defs J ev x o.op.operands.toList) (hob:(aG.invk s).dF Y J m) (hs:eG C.ν x f):
  iX C.P x (Goal C.ν x (iB f ((aG.invk s).wr J L) ((aG.invk s).cC Y J m L)) L ((aG.invk s).val Y J m L)) ((execOp ev o).run C.P x.w):=by
 subst ha;obtain⟨k0,k1⟩:=hob;have hv:=hρ r (by simp[ho,Op.operands,Call.operands]) s h1 k0;cases hd:(J s).d<;>simp only[hd]at k1;rename_i k cs;obtain⟨k2,k3,k4⟩:=k1;rw[hd]at hv;generalize hep:ev r=vr at hv;cases hv with
 |fn _ _ _ _ hν=>exact absurd (hΓ.small _ _ hν) ae
 |dW _ _ _ _ hν=>exact absurd (hΓ.small _ _ hν) ae
 |mp=>exfalso;omega
 |bx=>exfalso;omega
 |ifn=>exfalso;omega
 |zp=>exfalso;omega
 |ifc t n v _ hν hn hl hh=>
  obtain⟨fid,ti,mt,d,e1,e2,e3,e4,e5,e6,e7⟩:=BZ (B0 hi hν);have hrun:(execOp ev o).run C.P x.w=(callFunc fid #[v]).run C.P x.w:=by
   have hm:(method (C.P.types.size+Made.depth) t v nm).run C.P x.w=Result.ok (fid,v) x.w:=by
    have hr:∀q,(receiverAt t (.val v) false q).run C.P x.w=Result.ok v x.w:=by
     intro q;cases d<;>first
      |exact absurd rfl (e7 _)
      |simp[receiverAt,run_underlying e6,Place.get]
    rw[show C.P.types.size+Made.depth=(C.P.types.size+(Made.depth-1))+1 from rfl];simp[method,run_typeInfo x.w e2,e3,e4,follow,e5,hr,Result.andThen]
   simp[execOp,ho,resolve,invoke,hep,callMethod,hm]
  rw[hrun];have hwr:(aG.invk s).wr J L=[]:=rfl;rw[hwr,oI];have lU:(aG.invk s).val Y J m L=Y.val n (fU m [] cs):=by
   simp only[aG.val,hd];rw[Nat.add_sub_cancel]
  rw[lU];refine rC hΓ e1 (by simp;exact hl.symm) (fun i hi=>?_) hs (fun h=>by rw[k3]at h;cases h) (sg m m [] cs k3).2 (by rw[Nat.add_sub_cancel]at k4;exact k4) (by simp[nY,k3]);obtain rfl:i=0:=ae;exact hh 0 hi
theorem Gr {o:Oper}{fid:Nat}{args:Array Operand}{tys:Array TypeId}{n:Nat}{r:Src}{ss:List Src}{sh:List (List Sh)}(hcst:∀d,J (.c d)=⟨true,d⟩)(hΓ:Ok C.P C.ν C.cC Y)(hef:C.cC.contains (2*n+1)=true)
  (ho:o.op=.call {callee:=.value (.func fid),args,argTypes:=tys}) (h1:dr C.ν fid=some n) (h2:C.qn defs args.toList=some (r::ss)) (hρ:pI C defs J ev x o.op.operands.toList) (hob:(aG.callF n r ss sh).dF Y J m) (hs:eG C.ν x f)
  (hag:ye f m ((aG.callF n r ss sh).kV J)):
  iX C.P x (Goal C.ν x (iB f ((aG.callF n r ss sh).wr J L) ((aG.callF n r ss sh).cC Y J m L)) L ((aG.callF n r ss sh).val Y J m L)) ((execOp ev o).run C.P x.w):=by
 obtain⟨k0,k1,k2,k3⟩:=hob;have hv:=hρ (.func fid) (by simp[ho,Op.operands,Call.operands]) (.c (.fn n [])) (by simp[CC.src,h1]) (by rw[hcst]);rw[hcst]at hv;obtain⟨s1,s2,s3⟩:=fV hρ _ _ (fun o' ho'=>by simp only[ho,Op.operands,Call.operands];simp at ho'⊢;exact .inr ho') h2 ⟨k0,k1⟩;cases hd:(J r).d<;>simp only[hd]at k3;rename_i l k i o';obtain⟨rfl,rfl,k4,k5,k6,k7⟩:=k3;generalize hep:ev (.func fid)=vf at hv;cases hv with
 |dW=>exact absurd (hΓ.small _ _ h1) ae
 |mp=>exact absurd (hΓ.small _ _ h1) ae
 |bx=>exact absurd (hΓ.small _ _ h1) ae
 |ifc=>exact absurd (hΓ.small _ _ h1) ae
 |ifn=>exact absurd (hΓ.small _ _ h1) ae
 |zp=>exact absurd (hΓ.small _ _ h1) ae
 |fn fid' _ cs _ hν hl _=>
  have hcs:cs=#[]:=by apply Array.ext';simpa using hl
  subst hcs;have hrun:(execOp ev o).run C.P x.w=(callFunc fid' (args.map ev)).run C.P x.w:=by
   simp[execOp,ho,resolve,Deferred.ofValue,invoke,hep]
  rw[hrun];have hlk:f l=look m l:=hag l (by simp[hd,cZ]);obtain⟨g1,g2,g3⟩:=pJ hs hlk k4;have hb1:aW m l=[(aW m l).getD 0 .any]:=by
   match he:aW m l,k5 with
   |[e],_=>rfl
  have hsz:args.size=ss.length+1:=by simpa using s1
  have hdl:(gL J ss).length=ss.length:=by
   have:=s2;simp only[gL,bA]at this;have h4:=s1;simp only[bA]at h4;omega
  obtain⟨p1,p2⟩:=sg [] [] sh (gL J ss) k2;have hs0:eG C.ν x (fun _=>none):=hs.less fun _=>.inr (.inl rfl)
  have hget:∀q,(args.map ev).getD q undef=(args.toList.map ev).getD q undef:=fun q=>by rw[<-Array.toList_map,cw]
  obtain⟨a1,a2,a3⟩:=iI (m:=[]) hs0 (fun l h=>by simp[look]at h) sh (gL J ss) (fun j=>(args.map ev).getD (j+1) undef) (fun j hj=>by
   have:=s3 (j+1) (by simp only[gL,bA];omega);rw[hget];simpa[gL]using this) p2
  have hle:Le (x.kK fun _=>none) x:=⟨fun b hb=>by
   rcases hb with h|⟨_,_,_,_,h⟩
   .exact h
   .exact absurd rfl h,fun _ _=>rfl,fun _ _ h=>h⟩
  have h0:RD C.ν x ((args.map ev).getD 0 undef) (.ptr l k 0 0):=by
   have:=s3 0 (by simp[gL]);rw[hget];simpa[gL,hd]using this
  rw[hb1]at g1;refine(hΓ.effF fid' n hν hef x f _ l k _ (fU [] sh (gL J ss)) (by simp[a1,hdl,hsz]) h0 (fun i hi=>(a3 i ae).mono hle) hs g1 k6 a2 k7).mono fun v x' h=>?_
  obtain⟨q1,q2,q3,q4⟩:=h;refine⟨q1,by simpa only[aG.val,hd]using q2,q3.less fun l'=>.inl ?_,fun l' _=>by rw[q4]⟩;simp only[iB,aG.wr,hd,cZ,aG.cC,bo,c9];by_cases e:l'=l
  .rw[aw e,aw e,aw e]
  .rw[ai e,ai e]
def vE {o:Oper}{i:aG}(hc:C.op defs o=some i)(hncm:i.cB=false)(hΓ:Ok C.P C.ν C.cC Y)(hρ:pI C defs J ev x o.op.operands.toList)(hcst:∀d,J (.c d)=⟨true,d⟩)(hob:i.dF Y J m)(hs:eG C.ν x f)(hag:ye f m (i.kV J))(hL:x.β L=none)(hgl:∀g,ev (.global g)=.pointer (some ⟨g,0,none⟩)):
  iX C.P x (Goal C.ν x (iB f (i.wr J L) (i.cC Y J m L)) L (i.val Y J m L)) ((execOp ev o).run C.P x.w):=by
 by_cases hp:i.pure=true
 .rw[LA hp,oI];exact(Lv hΓ.glz hcst hΓ.small hc hp hρ hob hs hgl).pg
 .cases ho:o.op with
  |alloc t=>exact(IN hc (.inl ⟨t,ho⟩) hρ hcst hob hs hL hΓ.bld).pg
  |box t p=>exact(IN hc (.inr ⟨t,p,ho⟩) hρ hcst hob hs hL hΓ.bld).pg
  |buildSlice t n ps=>exact(Oq hc ho hρ hob hs hL).pg
  |load t p=>exact(Ls hp hΓ.small hc ho hρ hob hs hag).pg
  |store t p q=>exact(IT hp hc ho hρ hob hs hag).pg
  |makeSlice t a b=>exact(Ot hc ho hρ hob hs hL).pg
  |range t p=>exact(IS hc ho hρ hob hs hL).pg
  |next it b=>
   cases b
   .simp[CC.op,ho]at hc
   .exact(Lu hc ho hρ hob hs hag).pg
  |convert s d p=>
   have:(∃a,i=.s2b a)\/(∃a,i=.b2s a):=by
    simp only[CC.op,ho]at hc
    (repeat' split at hc)<;>simp only[aZ,reduceCtorEq]at hc<;>subst hc<;>first
      |exact .inl ⟨_,rfl⟩
      |exact .inr ⟨_,rfl⟩
      |(exfalso;exact hp rfl)
   rcases this with⟨a,rfl⟩|⟨a,rfl⟩
   .exact(Ov (i:=.s2b a) hc ho hρ hob hs hL).pg
   .exact(Oo hc ho hρ hob hs hag).pg
  |call c=>
   obtain⟨callee,args,argTypes⟩:=c;cases callee with
   |builtin bu=>
    cases bu with
    |append=>
     have hx:∃p q t u,args=#[p,q]/\argTypes=#[t,u]:=by
      simp only[CC.op,ho]at hc;split at hc
      .rename_i p q t u hargs htys;exact⟨p,q,t,u,by apply Array.ext';simpa using hargs,by apply Array.ext';simpa using htys⟩
      .cases hc
     obtain⟨p,q,t,u,rfl,rfl⟩:=hx;exact(On hc ho hρ hob hs hag hL).pg
    |len=>
     exfalso;simp only[CC.op,ho]at hc
     (repeat' split at hc)<;>simp only[aZ,reduceCtorEq]at hc<;>subst hc<;>exact hp rfl
    |min=>
     exfalso;simp only[CC.op,ho]at hc
     (repeat' split at hc)<;>simp only[aZ,reduceCtorEq]at hc<;>subst hc<;>exact hp rfl
    |_=>simp[CC.op,ho]at hc
   |value fv=>
    cases fv with
    |func fid=>
     grind [CC.op,aG.cB,Gr,IP]
    |tmp t=>
     simp only[CC.op,ho]at hc;split at hc
     .rename_i s ss h1 h2;split at hc
      .simp only[aZ]at hc;subst hc;simp[aG.cB]at hncm
      .simp only[aZ]at hc;subst hc;exact IQ hΓ ho h1 h2 hρ hob hs hag
     .cases hc
    |_=>simp[CC.op,ho]at hc
   |invoke r nm=>
    simp only[CC.op,ho]at hc;split at hc
    .rename_i hi;simp only[bm]at hi;simp only[cW]at hc;obtain⟨s,h1,rfl⟩:=hc;exact Lq hΓ ho (by simpa using hi.1) hi.2 h1 hρ hob hs
    .cases hc
  |move p=>exfalso;simp only[CC.op,ho,cW]at hc;obtain⟨s,h1,rfl⟩:=hc;exact hp rfl
  |assign p=>exfalso;simp only[CC.op,ho,cW]at hc;obtain⟨s,h1,rfl⟩:=hc;exact hp rfl
  |nilCheck p=>exfalso;simp only[CC.op,ho,cW]at hc;obtain⟨s,h1,rfl⟩:=hc;exact hp rfl
  |unOp op t p=>exfalso;simp only[CC.op,ho,cW]at hc;obtain⟨s,h1,rfl⟩:=hc;exact hp rfl
  |extract p n=>exfalso;simp only[CC.op,ho,cW]at hc;obtain⟨s,h1,rfl⟩:=hc;exact hp rfl
  |typeAssert p xt t ok=>
   exfalso;cases ok with
   |false=>simp[CC.op,ho]at hc
   |true=>
    simp only[CC.op,ho]at hc
    (repeat' split at hc)<;>simp only[aZ,reduceCtorEq]at hc
    subst hc;exact hp rfl
  |lookup t p q ok=>
   exfalso;cases ok with
   |true=>simp[CC.op,ho]at hc
   |false=>
    simp only[CC.op,ho]at hc
    (repeat' split at hc)<;>simp only[aZ,reduceCtorEq]at hc
    subst hc;exact hp rfl
  |binOp op t p q u=>
   exfalso;simp only[CC.op,ho]at hc
   (repeat' split at hc)<;>simp only[aZ,reduceCtorEq]at hc<;>subst hc<;>first
     |exact hp rfl
     |(simp[aG.cB]at hncm;done)
  |makeFunc fn fst caps=>
   exfalso;cases fn<;>simp only[CC.op,ho]at hc<;>try(cases hc;done)
   (repeat' split at hc)<;>(try simp only[aZ,reduceCtorEq]at hc)<;>first
     |(subst hc;exact hp rfl)
     |exact hc.elim
     |(simp only[cW]at hc;obtain⟨_,_,rfl⟩:=hc;exact hp rfl)
  |_=>
   exfalso;simp only[CC.op,ho]at hc
   (try cases hc)<;>(repeat' split at hc)<;>(try simp only[aZ,reduceCtorEq,cW]at hc)<;>first
     |(subst hc;exact hp rfl)
     |(obtain⟨s,h1,rfl⟩:=hc;exact hp rfl)
     |exact hc.elim
     |cases hc
def eI (l k:Nat)(es:List D):∀ds:List D,(eD l k es ds).length=ds.length
 |[]=>rfl
 |d::r=>by simp[eD,eI l k es r]
def iw (l k:Nat)(es:List D):∀(ds:List D) (i:Nat),(eD l k es ds).getD i .any=er l k es (ds.getD i .any)
 |[],i=>by simp[eD,er]
 |d::r,0=>by simp[eD]
 |d::r,i+1=>by simpa[eD]using iw l k es r i
def RD.fz {ν:List (Nat×Nat)}{x x':X}{l k:Nat}{es:List D}(hle:Le x x')(hn:aV es=true)
  (ho:∀b base tot,x.β l=some (b,base,tot)->x'.I b/\(∀i,i<es.length->(es.getD i .any).cells.length=k)/\∃c:Nat->Nat->Value,∀i j,i<es.length->j<k->
    x'.w.cell? ⟨b,base+i*k+j,none⟩=some (c i j)/\(c i j).oneCell'=true/\RD ν x' (c i j) ((es.getD i .any).cells.getD j .any)) {v:Value} {d:D} (h:RD ν x v d):RD ν x' v (er l k es d):=by
 induction h with
 |any v=>exact .any v
 |bool b=>exact .bool b
 |int k n=>exact .int k n
 |str s h=>exact .str s h
 |agg cs ds hl' h1 _ ih=>exact .agg cs _ (by rw[eI];exact hl') (fun i hi=>h1 i (by rwa [eI]at hi)) fun i hi=>by rw[iw];exact ih i (by rwa [eI]at hi)
 |tup cs ds hl' _ ih=>exact .tup cs _ (by rw[eI];exact hl') fun i hi=>by rw[iw];exact ih i (by rwa [eI]at hi)
 |aB=>exact .aB
 |sl a b off len cap k' es' c hlen ha hcap hm hk hn' hc h1 h _=>exact(RD.sl a b off len cap k' es' c hlen ha hcap hm hk hn' hc h1 h).mono hle
 |ref b off k' i o at_ es' c hI hat hk hn' hc h1 h _=>exact(RD.ref b off k' i o at_ es' c hI hat hk hn' hc h1 h).mono hle
 |ptr l' k' i o b base tot at_ hβ hat=>
  simp only[er];split
  .rename_i hh;obtain⟨rfl,rfl⟩:=hh;obtain⟨o1,o2,c,o3⟩:=ho b base tot hβ;exact .ref b base k' i o at_ es c o1 hat o2 (fun i _=>cD hn i) (fun i j hi hj=>(o3 i j hi hj).1) (fun i j hi hj=>(o3 i j hi hj).2.1) (fun i j hi hj=>(o3 i j hi hj).2.2)
  .exact .ptr l' k' i o b base tot at_ (hle.β _ _ hβ) hat
 |own l' k' i n b base tot cap a hβ ha hcap hm ht=>
  simp only[er];split
  .rename_i hh;obtain⟨rfl,rfl,hin⟩:=hh;obtain⟨o1,o2,c,o3⟩:=ho b base tot hβ;have hg:∀q,q<n->((es.drop i).take n).getD q .any=es.getD (i+q) .any:=fun q hq=>by
    simp[List.getD,List.getElem?_take,hq]
   have hlen:((es.drop i).take n).length=n:=eo;refine .sl (some a) b (base+i*k') n cap k' _ (fun q j=>c (i+q) j) hlen.symm ?_ hcap hm (fun q hq=>by rw[hg q hq];exact o2 _ ae) (fun q hq=>by rw[hg q hq];exact cD hn _)
    (fun q j hq hj=>?_) (fun q j hq hj=>(o3 (i+q) j ae hj).2.1) (fun q j hq hj=>by rw[hg q hq];exact(o3 (i+q) j ae hj).2.2)
   .by_cases hc0:0<cap
    .right;rw[ha hc0];exact⟨rfl,o1⟩
    .left;apply iO;omega
   .have:=(o3 (i+q) j ae hj).1;rw[<-this];congr 2;rw[Nat.add_mul];omega
  .exact .own l' k' i n b base tot cap a (hle.β _ _ hβ) ha hcap hm ht
 |own0 l' k' i a=>
  simp only[er];split
  .rename_i hh;simp only[List.take_zero];exact .sl a 0 0 0 0 k [] (fun _ _=>undef) rfl (.inl rfl) (aE _) (Nat.zero_le _) (fun i hi=>ae) (fun i hi=>ae) (fun i j hi=>ae) (fun i j hi=>ae) (fun i j hi=>ae)
  .exact .own0 l' k' i a
 |nilp=>exact .nilp
 |fn fid n cs ds hν hl' _ ih=>exact .fn fid n cs _ hν (by rw[eI];exact hl') fun i hi=>by rw[iw];exact ih i (by rwa [eI]at hi)
 |mp r es' cl ds hI hh hl' _ ih=>exact .mp r es' cl _ (hle.I _ hI) ((hle.keep _ hI).trans hh) (by rw[eI];exact hl') fun i hi=>by rw[iw];exact ih i (by rwa [eI]at hi)
 |bx b at_ ds v hI hc h1 hl' _ ih=>exact .bx b at_ _ v (hle.I _ hI) (hJ (hle.keep _ hI) hc) h1 (by rw[eI];exact hl') fun i hi=>by rw[iw];exact ih i (by rwa [eI]at hi)
 |dW fid n cs ds hν hl' _ ih=>exact .dW fid n cs _ hν (by rw[eI];exact hl') fun i hi=>by rw[iw];exact ih i (by rwa [eI]at hi)
 |nilf=>exact .nilf
 |ifc t n v ds hν hnn hl' _ ih=>exact .ifc t n v _ hν hnn (by rw[eI];exact hl') fun i hi=>by rw[iw];exact ih i (by rwa [eI]at hi)
 |ifn=>exact .ifn
 |zp a=>exact .zp a
 |it l b base tot hβ=>exact .it l b base tot (hle.β _ _ hβ)
def uH {J:Src->b8}:∀(ps:List (Nat×Src)) (l:List D),(jZ J l ps).length=l.length
 |[],l=>rfl
 |(i,s)::r,l=>by simp only[jZ];rw[uH r];simp
def iX.re {P:Program}{x:X}{Q Q':Value->X->Prop}{r:Result Next}(h:iX P x Q r)(hq:∀v x',Q v x'->∃x'',x''.w=x'.w/\Q' v x''):iX P x Q' r:=by
 rcases h with⟨v,x',h1,h2⟩|⟨f',args',h1,h2⟩
 .obtain⟨x'',e,h3⟩:=hq v x' h2;exact .inl ⟨v,x'',by rw[e];exact h1,h3⟩
 .refine .inr ⟨f',args',h1,Calls.mono h2 fun e w' he=>?_⟩
  grind
def Goal.ice {x x':X}{f:Nat->Option bM}{L k n:Nat}{es:List D}{v:Value}(hg:Goal ν x (iB f [L] (cS m L (.buf k es))) L (.own L k 0 n) v x')(hn:aV es=true)(hlen:es.length=n)(hL:x.β L=none)(hfL:f L=none):∃x'',x''.w=x'.w/\Goal ν x f L (.sl k es) v x'':=by
 obtain⟨h1,h2,h3,h4⟩:=hg;have hlk:iB f [L] (cS m L (.buf k es)) L=some (.buf k es):=by simp[iB,c9]
 let x'':X:=⟨x'.w,fun b=>x'.I b\/∃p,x'.β L=some p/\p.1=b,x'.β⟩
 have hle:Le x' x'':=⟨fun _ h=>.inl h,fun _ _=>rfl,fun _ _ h=>h⟩;have ho:∀b base tot,x'.β L=some (b,base,tot)->x''.I b/\(∀i,i<es.length->(es.getD i .any).cells.length=k)/\∃c:Nat->Nat->Value,∀i j,i<es.length->j<k->
   x''.w.cell? ⟨b,base+i*k+j,none⟩=some (c i j)/\(c i j).oneCell'=true/\RD ν x'' (c i j) ((es.getD i .any).cells.getD j .any):=by
  intro b base tot hβ;obtain⟨o1,o2,o3,c,T,fr,o4,o5,o6,o7⟩:=h3.own L _ b base tot hlk hβ;refine⟨.inr ⟨_,hβ,rfl⟩,fun i hi=>(o7 i hi).1,fun i j=>c.getD (base+i*k+j) undef,fun i j hi hj=>⟨?_,((o7 i hi).2 j hj).1,((o7 i hi).2 j hj).2.mono hle⟩⟩;exact cell_of_heap o4 (by have:=gO (tot:=tot) (show i<tot by omega) hj;omega)
 have hrd:RD ν x'' v (.sl k es):=by
  have:=h2.fz (x':=x'') (l:=L) (k:=k) (es:=es) hle hn ho;simpa[er,hlen,iq]using this
 have hnew:∀b,(∃p,x'.β L=some p/\p.1=b)->x.w.heap.size<=b\/∃l p,x.β l=some p/\p.1=b:=by
  rintro b ⟨p,e1,e2⟩;rcases h1.newβ L p e1 with h|h|⟨l',p',h,h'⟩
  .rw[hL]at h;cases h
  .exact .inl (e2▸h)
  .exact .inr ⟨l',p',h,h'.trans e2⟩
 refine⟨x'',rfl,⟨h1.os,h1.tape,h1.output,h1.size,fun b hb=>.inl (h1.I b hb),h1.keep,h1.β,h1.old,fun b hb=>?_,h1.newβ⟩,hrd,⟨fun l' blk b base tot e1 e2=>?_,fun l1 l2 b base tot base' tot' e1 e2 e3 e4=>?_,fun b hb=>?_,h3.dW,qM hle h3.gd⟩,h4⟩
 .rcases hb with hb|hb
  .exact h1.newI b hb
  .exact .inr (hnew b hb)
 .have hne:l'≠L:=by rintro rfl;rw[hfL]at e1;cases e1
  have e1':iB f [L] (cS m L (.buf k es)) l'=some blk:=by simp[iB,hne,e1]
  obtain⟨o1,o2⟩:=h3.own l' blk b base tot e1' e2;refine⟨?_,o2.mono hle rfl⟩;rintro(hb|⟨⟨b',base',tot'⟩,q1,q2⟩)
  .exact o1 hb
  .simp only at q2;subst q2;exact hne (h3.inj l' L b' base tot base' tot' (by rw[e1'];simp) (by rw[hlk];simp) e2 q1)
 .have hn1:∀l,f l≠none->iB f [L] (cS m L (.buf k es)) l≠none:=fun l hl=>by
   have hne:l≠L:=by rintro rfl;exact hl hfL
   simpa[iB,hne]using hl
  exact h3.inj l1 l2 b base tot base' tot' (hn1 _ e1) (hn1 _ e2) e3 e4
 .rcases hb with hb|⟨⟨b',base',tot'⟩,q1,q2⟩
  .exact h3.imm b hb
  .simp only at q2;subst q2;exact h3.dW L _ _ _ q1
def OpX (C:CC)(defs:List (Option Nat))(o:Oper)(i:aG):Prop:=C.op defs o=some i\/(∃n ag p,i=.ldI n ag p/\C.op defs o=some (.ld n ag p))\/(∃k y,i=.appN k y/\C.op defs o=some (.app k (.c .aB) y))\/(∃k z n ps,i=.bslI k z n ps/\C.op defs o=some (.bsl k z n ps))\/∃n ag p,i=.ldU n ag p/\C.op defs o=some (.ld n ag p)
def yI {o:Oper}{i:aG}(hc:OpX C defs o i)(hncm:i.cB=false)(hΓ:Ok C.P C.ν C.cC Y)(hρ:pI C defs J ev x o.op.operands.toList)(hcst:∀d,J (.c d)=⟨true,d⟩)(hob:i.dF Y J m)(hs:eG C.ν x f)(hag:ye f m (i.kV J))(hL:x.β L=none)(hfL:f L=none)(hgl:∀g,ev (.global g)=.pointer (some ⟨g,0,none⟩)):
  iX C.P x (Goal C.ν x (iB f (i.wr J L) (i.cC Y J m L)) L (i.val Y J m L)) ((execOp ev o).run C.P x.w):=by
 rcases hc with hc|⟨n,ag,p,rfl,hc⟩|⟨k,y,rfl,hc⟩|⟨k,z,n,ps,rfl,hc⟩|⟨n,ag,p,rfl,hc⟩
 .exact vE hc hncm hΓ hρ hcst hob hs hag hL hgl
 rotate_left 3
 .obtain⟨k1,k2⟩:=hob;have hob':(aG.ld n ag p).dF Y J m:=by
   simp only[aG.dF];cases hd:(J p).d<;>simp only[hd]at k2<;>simp only[wO]
   .exact⟨k1,k2⟩
   .exact⟨k1,k2.1⟩
  have h:=vE (i:=aG.ld n ag p) (L:=L) hc rfl hΓ hρ hcst hob' hs hag hL hgl;exact h
 rotate_left;rotate_left
 .obtain⟨k1,k2,k3⟩:=hob;have hob':(aG.bsl k z n ps).dF Y J m:=⟨k1,k2⟩;have:=vE (L:=L) hc rfl hΓ hρ hcst hob' hs (by simp[aG.kV,ye]) hL hgl;refine this.re fun v x' hg=>?_
  exact hg.ice k3 (by rw[uH,List.length_replicate]) hL hfL
 rotate_left
 .obtain⟨k1,k2,k3⟩:=hob;have hob':(aG.app k (.c .aB) y).dF Y J m:=by simp only[aG.dF,hcst];exact⟨trivial,k1,k2,k3⟩
  have:=vE (L:=L) hc rfl hΓ hρ hcst hob' hs (by simpa[aG.kV,hcst,cZ]using hag) hL hgl;have e1:(aG.appN k y).val Y J m L=(aG.app k (.c .aB) y).val Y J m L:=by simp[aG.val,hcst]
  have e2:(aG.appN k y).wr J L=(aG.app k (.c .aB) y).wr J L:=by simp[aG.wr,hcst,cZ]
  have e3:(aG.appN k y).cC Y J m L=(aG.app k (.c .aB) y).cC Y J m L:=by simp[aG.cC,hcst]
  rw[e1,e2,e3];exact this
 .obtain⟨k1,k2⟩:=hob;cases hd:(J p).d<;>simp only[hd]at k2;all_goals
   have hob':(aG.ld n ag p).dF Y J m:=by simp only[aG.dF,hd,wO];exact⟨k1,k2⟩
   have:=vE (L:=L) hc rfl hΓ hρ hcst hob' hs (by simp[aG.kV,hd,cZ,ye]) hL hgl;have e1:(aG.ldI n ag p).val Y J m L=(aG.ld n ag p).val Y J m L:=by simp[aG.val,hd,tS]
   rw[e1];exact this
end
end
section
variable [dq]
section
variable {C:CC} {Y:Ctx}
def mw:∀(l:List Nat) (t n:Nat),tk l t=some n->l[n]? =some t
 |[],t,n,h=>by simp[tk]at h
 |a::r,t,n,h=>by
  simp only[tk]at h;split at h
  .grind
  .simp only[cW]at h;obtain⟨k,h1,rfl⟩:=h;simpa using mw r t k h1
def yw:∀(l:List Nat) (t n:Nat),l.Nodup->l[n]? =some t->tk l t=some n
 |[],t,n,_,h=>by simp at h
 |a::r,t,0,_,h=>by simp at h;simp[tk,h]
 |a::r,t,n+1,hn,h=>by
  simp only[List.getElem?_cons_succ]at h;rw[List.nodup_cons]at hn;have:a≠t:=fun e=>hn.1 (e▸List.mem_of_getElem? h)
  simp[tk,this,yw r t n hn.2 h]
def vK:∀(l:List (Option Nat)) (t p:Nat),posOf t l=some p->l[p]? =some (some t)
 |[],t,n,h=>by simp[posOf]at h
 |a::r,t,n,h=>by
  simp only[posOf]at h;split at h
  .grind
  .simp only[cW]at h;obtain⟨k,h1,rfl⟩:=h;simpa using vK r t k h1
def vJ:∀(l:List (Option Nat)) (t:Nat),posOf t l=none->∀p:Nat,l[p]? ≠some (some t)
 |[],t,h,p=>bh
 |a::r,t,h,p=>by
  simp only[posOf]at h;split at h
  .cases h
  .rename_i e;simp only[Option.map_eq_none_iff]at h;cases p with
   |zero=>simpa using e
   |succ p=>simpa using vJ r t h p
structure Spec (C:CC)(ops:List Oper)(l:List GI):Prop where
 len:l.length=ops.length
 op:∀(i:Nat) (o:Oper),ops[i]? =some o->∃g,l[i]? =some g/\OpX C ((ops.map (·.dst)).take i) o g.i/\CC.guard ((ops.map (·.dst)).take i) o.guard=some g.g
 dst:∀(i:Nat) (o:Oper) (d:Nat),ops[i]? =some o->o.dst=some d->d<C.ntmps/\∀p:Nat,p<i->(ops.map (·.dst))[p]? ≠some (some d)
def Au:∀(ops pre:List Oper) (l lp:List GI),Spec C pre lp->C.ops (pre.map (·.dst)) ops=some l->Spec C (pre++ops) (lp++l)
 |[],pre,l,lp,hp,h=>by simp[CC.ops]at h;subst h;simpa using hp
 |o::r,pre,l,lp,hp,h=>by
  simp only[CC.ops]at h;split at h
  .rename_i i g l' h1 h2 h3;split at h
   .rename_i hd;simp only[aZ]at h;subst h;have hp':Spec C (pre++[o]) (lp++[⟨i,g⟩]):=by
     have hl:=hp.len;refine⟨by simp[hl],fun j o' ho'=>?_,fun j o' d ho' hd'=>?_⟩
     .rw[List.getElem?_append]at ho';split at ho'
      .rename_i hj;obtain⟨g',a1,a2,a3⟩:=hp.op j o' ho';have e:((pre++[o]).map (·.dst)).take j=(pre.map (·.dst)).take j:=by rw[List.map_append,List.take_append_of_le_length eo]
       rw[e];exact⟨g',by rw[List.getElem?_append_left ae];exact a1,a2,a3⟩
      .rename_i hj;obtain rfl:j=pre.length:=by
        have:=(List.getElem?_eq_some_iff.1 ho').1;simp at this;omega
       simp at ho';subst ho';have e:((pre++[o]).map (·.dst)).take pre.length=pre.map (·.dst):=bh;rw[e];exact⟨⟨i,g⟩,by rw[<-hl];simp,.inl h1,h2⟩
     .rw[List.getElem?_append]at ho';split at ho'
      .rename_i hj;obtain⟨a1,a2⟩:=hp.dst j o' d ho' hd';refine⟨a1,fun p hpj=>?_⟩;rw[List.map_append,List.getElem?_append_left eo];exact a2 p hpj
      .rename_i hj;obtain rfl:j=pre.length:=by
        have:=(List.getElem?_eq_some_iff.1 ho').1;simp at this;omega
       simp at ho';subst ho';simp only[hd',Option.all_some,bm,bL,eB,List.contains_eq_mem,dA]at hd;refine⟨hd.1,fun p hpj=>?_⟩;rw[List.map_append,List.getElem?_append_left eo];exact fun e=>hd.2 (List.mem_of_getElem? e)
    have:=Au r (pre++[o]) l' (lp++[⟨i,g⟩]) hp' (by simpa using h3);simpa using this
   .cases h
  .cases h
def Spec.start {ops:List Oper}{l:List GI}(h:C.ops [] ops=some l):Spec C ops l:=by
 have:=Au (C:=C) ops [] l [] ⟨rfl,fun i o h=>by simp at h,fun i o d h=>by simp at h⟩ (by simpa using h);simpa using this
theorem JV (i:aG):i.O3=i\/∃k y,i=.app k (.c .aB) y/\i.O3=.appN k y:=by
 unfold aG.O3
 grind
def uX (bs:List Nat)(l0:List GI):∀(l:List GI) (p i:Nat) (g:GI),l[i]? =some g->∃g',(kr bs l0 p l)[i]? =some g'/\g'.g=g.g/\(g'.i=g.i\/(∃n ag x,g.i=.ld n ag x/\g'.i=.ldI n ag x)\/(∃k y,g.i=.app k (.c .aB) y/\g'.i=.appN k y)\/(∃k z n ps,g.i=.bsl k z n ps/\g'.i=.bslI k z n ps)\/∃n ag x,g.i=.ld n ag x/\g'.i=.ldU n ag x)
 |[],p,i,g,h=>by simp at h
 |a::r,p,0,g,h=>by
  grind [kr,JV]
 |a::r,p,i+1,g,h=>by
  simp only[kr,List.getElem?_cons_succ]at h⊢;exact uX bs l0 r (p+1) i g h
def uY (bs:List Nat)(l0:List GI):∀(l:List GI) (p:Nat),(kr bs l0 p l).length=l.length
 |[],p=>rfl
 |a::r,p=>by simp only[kr,bA,uY bs l0 r (p+1)]
theorem Spec.kr {ops:List Oper}{l:List GI}(bs:List Nat)(h:Spec C ops l):Spec C ops (kr bs l 0 l):=by
 refine⟨by rw[uY];exact h.len,fun i o ho=>?_,h.dst⟩;obtain⟨g,h1,h2,h3⟩:=h.op i o ho;obtain⟨g',a1,a2,a3⟩:=uX bs l l 0 i g h1;refine⟨g',a1, ?_,by rw[a2];exact h3⟩;rcases a3 with e|⟨n,ag,x,e1,e2⟩|⟨k,y,e1,e2⟩|⟨k,z,n,ps,e1,e2⟩|⟨n,ag,x,e1,e2⟩
 .rw[e];exact h2
 .rw[e1]at h2;rcases h2 with h2|⟨n',ag',p',h4,_⟩|⟨k',y',h4,_⟩|⟨_,_,_,_,h4,_⟩|⟨_,_,_,h4,_⟩
  .exact .inr (.inl ⟨n,ag,x,e2,h2⟩)
  all_goals cases h4
 .rw[e1]at h2;rcases h2 with h2|⟨n',ag',p',h4,_⟩|⟨k',y',h4,_⟩|⟨_,_,_,_,h4,_⟩|⟨_,_,_,h4,_⟩
  .exact .inr (.inr (.inl ⟨k,y,e2,h2⟩))
  all_goals cases h4
 .rw[e1]at h2;rcases h2 with h2|⟨n',ag',p',h4,_⟩|⟨k',y',h4,_⟩|⟨_,_,_,_,h4,_⟩|⟨_,_,_,h4,_⟩
  .exact .inr (.inr (.inr (.inl ⟨k,z,n,ps,e2,h2⟩)))
  all_goals cases h4
 .rw[e1]at h2;rcases h2 with h2|⟨n',ag',p',h4,_⟩|⟨k',y',h4,_⟩|⟨_,_,_,_,h4,_⟩|⟨_,_,_,h4,_⟩
  .exact .inr (.inr (.inr (.inr ⟨n,ag,x,e2,h2⟩)))
  all_goals cases h4
def Spec.distinct {ops:List Oper}{l:List GI}(h:Spec C ops l){i p d:Nat}(hi:(ops.map (·.dst))[i]? =some (some d))(hp:(ops.map (·.dst))[p]? =some (some d)):p=i:=by
 rw[List.getElem?_map,cW]at hi hp;obtain⟨oi,hi1,hi2⟩:=hi;obtain⟨op,hp1,hp2⟩:=hp;rcases Nat.lt_trichotomy p i with h1|h1|h1
 .exact absurd (by rw[List.getElem?_map,hp1,Option.map_some,hp2]) ((h.dst i oi d hi1 hi2).2 p h1)
 .exact h1
 .exact absurd (by rw[List.getElem?_map,hi1,Option.map_some,hi2]) ((h.dst p op d hp1 hp2).2 i h1)
structure nP (C:CC)(env:List b8)(DD:List (Option Nat))(VS:List b8)(D:Nat->Prop)(a:Act)(x:X):Prop where
 val:∀p t:Nat,D p->DD[p]? =some (some t)->(VS.getD p .un).ok=true->RD C.ν x (a.tmps.getD t undef) (VS.getD p .un).d
 und:∀p t:Nat,D p->DD[p]? =some (some t)->(VS.getD p .un).ok=false->a.tmps.getD t undef=undef
 old:∀n t:Nat,C.slots[n]? =some t->(∀p,D p->DD[p]? ≠some (some t))->(env.getD n .un).ok=true->RD C.ν x (a.tmps.getD t undef) (env.getD n .un).d
 size:a.tmps.size=C.ntmps
 defers:a.defers=[]
def I8 (a:Act)(d:Nat)(v:Value)(t:Nat)(h:d<a.tmps.size):(a.put (some d) v).tmps.getD t undef=if t=d then v else a.tmps.getD t undef:=by
 simp only[Act.put,Array.getD_eq_getD_getElem?]
 grind
def nP.put {env:List b8}{DD:List (Option Nat)}{VS:List b8}{D D':Nat->Prop}{a:Act}{x x':X}{i:Nat}{dst:Option Nat}{v:Value}(h:nP C env DD VS D a x)(hle:Le x x')(hd:DD[i]? =some dst)
  (hdst:∀t,dst=some t->t<C.ntmps/\∀p,p≠i->DD[p]? ≠some (some t)) (hv:(VS.getD i .un).ok=true->RD C.ν x' v (VS.getD i .un).d) (hu:(VS.getD i .un).ok=false->v=undef)
  (hD:∀p,D' p↔D p\/p=i):nP C env DD VS D' (a.put dst v) x':=by
 cases dst with
 |none=>
  have hne:∀p t,DD[p]? =some (some t)->p≠i:=fun p t e e'=>by subst e';rw[hd]at e;simp at e
  refine⟨fun p t hp e ho=>?_,fun p t hp e ho=>?_,fun n t hn hp ho=>?_,h.size,h.defers⟩
  .exact(h.val p t (((hD p).1 hp).resolve_right (hne p t e)) e ho).mono hle
  .exact h.und p t (((hD p).1 hp).resolve_right (hne p t e)) e ho
  .exact(h.old n t hn (fun p hp'=>hp p ((hD p).2 (.inl hp'))) ho).mono hle
 |some d=>
  obtain⟨h1,h2⟩:=hdst d rfl;have hg:=I8 a d v (h:=by rw[h.size];exact h1);refine⟨fun p t hp e ho=>?_,fun p t hp e ho=>?_,fun n t hn hp ho=>?_,by simp[Act.put,h.size],h.defers⟩
  .by_cases hpi:p=i
   .subst hpi;rw[hd]at e;simp only[aZ]at e;subst e;rw[hg,aw rfl];exact hv ho
   .have:t≠d:=fun e'=>h2 p hpi (e'▸e)
    rw[hg,ai this];exact(h.val p t (((hD p).1 hp).resolve_right hpi) e ho).mono hle
  .by_cases hpi:p=i
   .subst hpi;rw[hd]at e;simp only[aZ]at e;subst e;rw[hg,aw rfl];exact hu ho
   .have:t≠d:=fun e'=>h2 p hpi (e'▸e)
    rw[hg,ai this];exact h.und p t (((hD p).1 hp).resolve_right hpi) e ho
  .have:t≠d:=fun e'=>hp i ((hD i).2 (.inr rfl)) (by rw[hd,e'])
   rw[hg,ai this];exact(h.old n t hn (fun p hp'=>hp p ((hD p).2 (.inl hp'))) ho).mono hle
def getD_take {α:Type}(l:List α)(i p:Nat)(d:α)(h:p<i):(l.take i).getD p d=l.getD p d:=by
 simp[List.getD,List.getElem?_take,h]
def nP.Se {env:List b8}{DD:List (Option Nat)}{VS:List b8}{D:Nat->Prop}{a:Act}{x:X}{i:Nat}{os:List Operand}(h:nP C env DD VS D a x)
  (hr:∀t p,Operand.tmp t∈os->DD[p]? =some (some t)->(p<i->D p)/\(i<=p->¬D p)):pI C (DD.take i) (Src.ev env (VS.take i)) a.eval x os:=by
 intro o ho s hs hok;cases o with
 |tmp t=>
  simp only[CC.src]at hs;split at hs
  .rename_i p hp;simp only[aZ]at hs;subst hs;have hp1:=vK _ _ _ hp;rw[List.getElem?_take]at hp1;split at hp1
   .rename_i hpi;simp only[Src.ev]at hok⊢;rw[getD_take _ _ _ _ hpi]at hok⊢;exact h.val p t ((hr t p ho hp1).1 hpi) hp1 hok
   .cases hp1
  .rename_i hp;simp only[cW]at hs;obtain⟨n,h1,rfl⟩:=hs;simp only[Src.ev]at hok⊢;refine h.old n t (mw _ _ _ h1) (fun p hp' e=>?_) hok;by_cases hpi:p<i
   .exact vJ _ _ hp p (by rw[List.getElem?_take,aw hpi];exact e)
   .exact(hr t p ho e).2 ae hp'
 |const v=>
  simp only[CC.src,cW]at hs;obtain⟨d,h1,rfl⟩:=hs;exact kI v d h1
 |func f=>
  simp only[CC.src,cW]at hs;obtain⟨n,h1,rfl⟩:=hs;exact .fn f n #[] [] h1 rfl (fun i hi=>by simp at hi)
 |global g=>simp[CC.src]at hs
def Ii {vs:List b8}{i:aG}{g:Option (Nat×Bool)}(h:Ha vs i g):tj vs g:=by
 cases g with
 |none=>trivial
 |some jw=>exact h.2
def gT {env:List b8}{ops:Array Oper}{VS:List b8}{D:Nat->Prop}{a:Act}{x:X}{i:Nat}{o:Oper}{g:GI}(h:nP C env (ops.toList.map (·.dst)) VS D a x)
  (hg:CC.guard ((ops.toList.map (·.dst)).take i) o.guard=some g.g) (hD:∀j w,o.guard=some (j,w)->j<i->D j) (hgok:tj (VS.take i) g.g):Region.wanted o (yielded ops a.tmps)=flag (VS.take i) g.g:=by
 unfold Region.wanted;cases hog:o.guard with
 |none=>simp only[hog,CC.guard,aZ]at hg;simp[<-hg,flag]
 |some jw=>
  obtain⟨j,w⟩:=jw;simp only[hog,CC.guard]at hg;split at hg
  .rename_i t hj;simp only[aZ]at hg;rw[<-hg]at hgok⊢;rw[List.getElem?_take]at hj;split at hj
   .rename_i hji;have hDj:=hD j w hog hji;have hy:(ops[j]?).bind (·.dst)=some t:=by
     rw[List.getElem?_map,Array.getElem?_toList]at hj;cases ho:ops[j]? with
     |none=>simp[ho]at hj
     |some oj=>simpa[ho]using hj
    simp only[yielded,hy,Option.bind_some,flag,tj]at hgok⊢;rw[getD_take _ _ _ _ hji]at hgok⊢;cases hok:(VS.getD j .un).ok with
    |false=>
     have:=h.und j t hDj hj hok;simp only[Array.getD_eq_getD_getElem?]at this;cases ht:a.tmps[t]? with
     |none=>simp
     |some v=>simp only[ht,Option.getD_some]at this;subst this;simp[undef]
    |true=>
     have hb:=hgok hok;have hv:=h.val j t hDj hj hok;cases hd:(VS.getD j .un).d<;>simp only[hd,Go.Abs.D.isBool]at hb<;>try cases hb
     rename_i b;rw[hd]at hv;have hv:=hv.ir;simp only[Array.getD_eq_getD_getElem?]at hv;cases ht:a.tmps[t]? with
     |none=>simp[ht,undef]at hv
     |some v=>simp only[ht,Option.getD_some]at hv;subst hv;simp
   .cases hj
  .cases hg
end
end
section
variable [dq]
section
variable {C:CC} {Y:Ctx} {J:Src->b8} {m:List (Nat×bM)} {L:Nat}
theorem rJ {i:aG}{l:Nat}(h:l∉i.wr J L):look (i.cC Y J m L) l=look m l:=by
 cases i<;>simp only[aG.wr,dx,dX,or_false,not_or]at h<;>simp only[aG.cC]
 case box=>rw[c9,ai h]
 case mkB=>rw[c9,ai h]
 case bsl=>rw[c9,ai h]
 case mks=>rw[c9,ai h]
 case s2b x=>split<;>first|rw[c9,ai h]|rfl
 case appN k y=>rw[c9,ai h]
 case rng x=>split<;>first|rw[c9,ai h]|rfl
 case st n p v=>
  split
  .rename_i hd;rw[hd]at h;rw[c9,ai (by simpa[cZ]using h)]
  .rfl
 case app k x y=>
  split
  .rename_i hd;rw[hd]at h;rw[c9,ai h.1,gu,ai (by simpa[cZ]using h.2)]
  .rw[c9,ai h.1]
 case bH x=>
  grind [c9,cZ]
 case callF n r args sh=>
  split
  .rename_i hd;rw[hd]at h;rw[c9,ai (by simpa[cZ]using h)]
  .rfl
theorem jS {i:aG}(h:i.calm=true){l:Nat}(hl:l∈i.wr J L):l=L:=by
 cases i<;>simp_all[aG.calm,aG.wr]
theorem fS {l k n:Nat}(h:eg m l k n):look m l≠none:=by
 intro e;simp[eg,e]at h
theorem Cq {i:aG}(h:i.dF Y J m){l:Nat}(hl:l∈i.wr J L):l=L\/look m l≠none:=by
 cases i<;>simp only[aG.wr,dx,dX,or_false]at hl<;>first
  |exact .inl hl
  |exact hl.elim
  |skip
 case st n p v=>
  right;obtain⟨_,_,_,h4⟩:=h;cases hd:(J p).d<;>simp only[hd,cZ,bo]at h4 hl;subst hl;exact fS h4.1
 case app k x y=>
  rcases hl with hl|hl
  .exact .inl hl
  .right;obtain⟨_,_,_,h4⟩:=h;cases hd:(J x).d<;>simp only[hd,cZ,bo,dX]at h4 hl;subst hl;exact fS h4.2.1
 case bH x=>
  right;obtain⟨_,h4⟩:=h;cases hd:(J x).d<;>simp only[hd,cZ,bo,dX]at h4 hl;subst hl;intro e;simp[e]at h4
 case callF n r args sh=>
  right;obtain⟨_,_,_,h4⟩:=h;cases hd:(J r).d<;>simp only[hd,cZ,bo,dX]at h4 hl;subst hl;exact fS h4.2.2.1
def oO {i:aG}(h:i.calm=true\/i.dF Y J m){l:Nat}(hl:look (i.cC Y J m L) l≠none):look m l≠none\/l=L:=by
 grind [jS,Cq,rJ]
omit [dq]in
theorem Ax {i:aG}(h:i.pure=true):i.cC Y J m L=m:=by
 cases i<;>simp_all[aG.pure,aG.cC]
omit [dq]in
theorem Gx {i:aG}(h:i.pure=true):i.calm=true:=by
 cases i<;>simp_all[aG.pure,aG.calm]
def I5 {i:aG}(h:i.pure=true):i.kV J=some []:=by
 cases i<;>simp_all[aG.pure,aG.kV]
def F5 {i:aG}(h:i.free=true):i.calm=true:=by
 cases i<;>simp_all[aG.free,aG.calm,aG.pure]
def K7 {i:aG}(h:i.free=true):i.wr J L=[]:=by
 cases i<;>simp_all[aG.free,aG.wr,aG.pure]
def Ic {i:aG}(h:i.free=true):i.cC Y J m L=m:=by
 cases i<;>simp_all[aG.free,aG.cC,aG.pure]
def xD {sh:List Sh}(h:sh.all Sh.Ph=true):∀{d:D},gD m sh d->d.bc=true:=by
 have hL:∀(sh:List Sh) (ds:List D),sh.all Sh.Ph=true->kE m sh ds->aV ds=true:=by
  intro sh;induction sh with
  |nil=>intro ds _ h;simpa[kE]using h
  |cons s r ih=>
   intro ds h ho;cases ds with
   |nil=>rfl
   |cons d ds=>
    grind [kE,Sh.Ph,aV,iT]
 intro d ho;cases sh with
 |nil=>simpa[gD]using ho
 |cons s r=>
  have hs:s=.a:=by simp only[List.all_cons,bm]at h;cases s<;>simp_all[Sh.Ph]
  cases d<;>simp only[gD]at ho<;>first
   |(subst hs;simpa[iT]using ho)
   |(rw[D.oV];exact hL _ _ h ho)
def sf:∀{ss:List (List Sh)}{ds:List D},ss.all (fun s=>s.all Sh.Ph)=true->iU m ss ds->aV ds=true
 |ss,[],_,_=>by simp[aV]
 |[],d::r,h,ho=>by
  simp only[iU]at ho;simp only[aV,bm];exact⟨xD (sh:=[.a]) rfl ho.1,sf (ss:=[]) rfl ho.2⟩
 |s::ss,d::r,h,ho=>by
  simp only[iU]at ho;simp only[List.all_cons,bm]at h;simp only[aV,bm];exact⟨xD h.1 ho.1,sf h.2 ho.2⟩
def Ie {i:aG}(h:i.free=true)(ho:i.dF Y J m):i.kV J=some []:=by
 cases i<;>simp only[aG.free]at h<;>try(exact I5 h)
 simp only[aG.kV,sf h ho.2.1,cond_true]
def u9 {i:aG}(h:i.iy=true):i.calm=true:=by
 cases i<;>simp_all[aG.iy,aG.calm]
def Gg {i:aG}(h:i.iy=true):i.kV J=some []:=by
 cases i<;>simp_all[aG.iy,aG.kV]
theorem rK {k:Nat}{d:D}(h:yq m k d){l:Nat}(hl:l∈cZ d):look m l≠none:=by
 cases d<;>simp only[cZ,bo,dX,yq]at h hl;subst hl;exact fS h.2
def yG {i:aG}(h:i.dF Y J m){ls:List Nat}(hls:i.kV J=some ls){l:Nat}(hl:l∈ls):look m l≠none:=by
 cases i<;>simp only[aG.kV,aZ,reduceCtorEq]at hls<;>first
  |(subst hls;exact absurd hl dX)
  |skip
 case ldU n ag p=>
  subst hls;obtain⟨_,h4⟩:=h;cases hd:(J p).d<;>simp only[hd,cZ,bo,dX]at h4 hl;subst hl;exact fS h4.1.1
 case ld n ag p=>
  subst hls;obtain⟨_,h4⟩:=h;cases hd:(J p).d<;>simp only[hd,cZ,bo,dX,wO]at h4 hl;subst hl;exact fS h4.1
 case st n p v=>
  subst hls;obtain⟨_,_,_,h4⟩:=h;cases hd:(J p).d<;>simp only[hd,cZ,bo]at h4 hl;subst hl;exact fS h4.1
 case b2s x=>
  subst hls;exact rK h.2.2.1 hl
 case app k x y=>
  subst hls;obtain⟨_,_,h3,h4⟩:=h
  grind [cZ,fS,rK]
 case appN k y=>
  subst hls;exact rK h.2.1 hl
 case bH x=>
  subst hls;obtain⟨_,h4⟩:=h;cases hd:(J x).d<;>simp only[hd,cZ,bo,dX]at h4 hl;subst hl;intro e;simp[e]at h4
 case call f args sh=>
  cases hn:aV (gL J args)<;>simp only[hn,cond_true,cond_false,aZ,reduceCtorEq]at hls;subst hls;exact absurd hl bh
 case callv f args sh=>
  grind
 case callF n r args sh=>
  subst hls;obtain⟨_,_,_,h4⟩:=h;cases hd:(J r).d<;>simp only[hd,cZ,bo,dX]at h4 hl;subst hl;exact fS h4.2.2.1
omit [dq]in
theorem sy {draw:Bool}{i:aG}{g:Option (Nat×Bool)}{r:List GI}{env vs:List b8}{st:St}{K:List b8->St->Prop}(h:i.cB=false)(hf:i.mr draw g=true):
  dZ Y draw (⟨i,g⟩::r) env vs st K=(tj vs g/\(flag vs g=true->i.dF Y (Src.ev env vs) st.m/\
     dZ Y draw r env (vs++[⟨true,i.val Y (Src.ev env vs) st.m (st.nx+vs.length)⟩]) {st with m:=i.cC Y (Src.ev env vs) st.m (st.nx+vs.length)} K)/\
    (flag vs g=false->dZ Y draw r env (vs++[⟨false,.any⟩]) st K)):=by
 cases i<;>first
  |(simp[aG.cB]at h;done)
  |(simp only[dZ];rw[aw hf])
omit [dq]in
theorem iV {draw:Bool}{i:aG}{g:Option (Nat×Bool)}{r:List GI}{env vs:List b8}{st:St}{K:List b8->St->Prop}(h:i.cB=false)(hf:i.mr draw g=false):
  dZ Y draw (⟨i,g⟩::r) env vs st K=(Ha vs i g/\(flag vs g=true->i.dF Y (Src.ev env vs) st.m)/\
   ((flag vs g=true->i.yi draw (Src.ev env vs))->∃d,(flag vs g=true->i.val Y (Src.ev env vs) st.m (st.nx+vs.length)=d)/\
     dZ Y draw r env (vs++[⟨flag vs g,d⟩]) {st with m:=i.cC Y (Src.ev env vs) st.m (st.nx+vs.length)} K)):=by
 cases i<;>first
  |(simp[aG.cB]at h;done)
  |(simp only[dZ];rw[ai (by rw[hf];simp)])
def RD.MK {ν:List (Nat×Nat)}{x:X}{v:Value}{d:D}(h:RD ν x v d):(∀k es,d=.sl k es->es.length<=9223372036854775807)/\(∀l k i n,d=.own l k i n->n<=9223372036854775807)/\(∀s,d=.str s->s.length<=9223372036854775807):=by
 cases h<;>refine⟨?_, ?_, ?_⟩<;>intros<;>simp_all[maxLen]<;>omega
def BK {i:aG}{draw:Bool}(h:∀s,(i=.len s\/i=.lenS s)->(draw=true->s.DF=true)->(J s).ok=true->∃ν x v,RD ν x v (J s).d):i.yi draw J:=by
 cases i<;>simp only[aG.yi]
 case len s=>
  cases hb:(draw&& !s.DF)<;>simp only[cond_true,cond_false];intro hok;obtain⟨ν,x,v,hr⟩:=h s (.inl rfl) (fun hd=>by simpa[hd]using hb) hok;obtain⟨a1,a2,a3⟩:=hr.MK
  grind
 case lenS s=>
  cases hb:(draw&& !s.DF)<;>simp only[cond_true,cond_false];intro hok;obtain⟨ν,x,v,hr⟩:=h s (.inr rfl) (fun hd=>by simpa[hd]using hb) hok;obtain⟨a1,a2,a3⟩:=hr.MK
  grind
def Cs {defs:List (Option Nat)}{o:Oper}{s:Src}(hc:C.op defs o=some (.len s)\/C.op defs o=some (.lenS s)):∃p∈o.op.operands.toList,C.src defs p=some s:=by
 cases ho:o.op with
 |call c=>
  obtain⟨callee,args,argTypes⟩:=c;cases callee with
  |builtin bu=>
   cases bu with
   |len=>
    simp only[CC.op,ho]at hc;split at hc
    .rename_i p t hargs htys;refine⟨p,by simp[Op.operands,Call.operands,hargs], ?_⟩;split at hc<;>simp_all
    .simp at hc
   |min=>simp only[CC.op,ho]at hc;(repeat' split at hc)<;>simp_all
   |append=>simp only[CC.op,ho]at hc;(repeat' split at hc)<;>simp_all
   |_=>simp[CC.op,ho]at hc
  |value f=>
   grind [CC.op]
  |invoke r n=>simp only[CC.op,ho]at hc;(repeat' split at hc)<;>simp at hc
 |makeFunc fn fst caps=>cases fn<;>simp only[CC.op,ho]at hc<;>(repeat' split at hc)<;>simp_all
 |next it b=>cases b<;>simp[CC.op,ho]at hc
 |typeAssert p xt t ok=>cases ok<;>simp only[CC.op,ho]at hc<;>(try(repeat' split at hc))<;>simp at hc
 |lookup t p q ok=>
  cases ok with
  |true=>simp[CC.op,ho]at hc
  |false=>simp only[CC.op,ho]at hc;(repeat' split at hc)<;>simp_all
 |_=>
  simp only[CC.op,ho]at hc
  (try(repeat' split at hc))<;>simp at hc
def Ou {defs:List (Option Nat)}{o:Oper}{f:Nat}{ss:List Src}{chk:List (Nat×Nat×Bool×Src)}(hc:C.op defs o=some (.callL f ss chk)):False:=by
 cases ho:o.op with
 |call c=>
  obtain⟨callee,args,argTypes⟩:=c;cases callee with
  |invoke r n=>simp only[CC.op,ho]at hc;(repeat' split at hc)<;>simp at hc
  |builtin b=>grind [CC.op]
  |value v=>grind [CC.op]
 |makeFunc fn fst caps=>cases fn<;>simp only[CC.op,ho]at hc<;>(repeat' split at hc)<;>simp_all
 |next it b=>cases b<;>simp[CC.op,ho]at hc
 |typeAssert p xt t ok=>cases ok<;>simp only[CC.op,ho]at hc<;>(try(repeat' split at hc))<;>simp at hc
 |lookup t p q ok=>
  cases ok with
  |true=>simp[CC.op,ho]at hc
  |false=>simp only[CC.op,ho]at hc;(repeat' split at hc)<;>simp_all
 |_=>
  simp only[CC.op,ho]at hc
  (try(repeat' split at hc))<;>simp at hc
def yJ {defs:List (Option Nat)}{o:Oper}{n:Nat}{ss:List Src}(hc:C.op defs o=some (.callM n ss)):
  ∃fid args tys,o.op=.call {callee:=.value (.func fid),args,argTypes:=tys}/\dr C.ν fid=some n/\C.cC.contains (2*n)=true/\C.qn defs args.toList=some ss:=by
 cases ho:o.op with
 |call c=>
  obtain⟨callee,args,argTypes⟩:=c;cases callee with
  |invoke r n=>simp only[CC.op,ho]at hc;(repeat' split at hc)<;>simp at hc
  |builtin b=>grind [CC.op]
  |value v=>grind [CC.op]
 |makeFunc fn fst caps=>cases fn<;>simp only[CC.op,ho]at hc<;>(repeat' split at hc)<;>simp_all
 |next it b=>cases b<;>simp[CC.op,ho]at hc
 |typeAssert p xt t ok=>cases ok<;>simp only[CC.op,ho]at hc<;>(try(repeat' split at hc))<;>simp at hc
 |lookup t p q ok=>
  cases ok with
  |true=>simp[CC.op,ho]at hc
  |false=>simp only[CC.op,ho]at hc;(repeat' split at hc)<;>simp_all
 |_=>
  simp only[CC.op,ho]at hc
  (try(repeat' split at hc))<;>simp at hc
def wT {defs:List (Option Nat)}{o:Oper}{fs:Src}{ss:List Src}(hc:C.op defs o=some (.callvM fs ss)):
  ∃t args tys,o.op=.call {callee:=.value (.tmp t),args,argTypes:=tys}/\C.src defs (.tmp t)=some fs/\C.qn defs args.toList=some ss:=by
 cases ho:o.op with
 |call c=>
  obtain⟨callee,args,argTypes⟩:=c;cases callee with
  |invoke r n=>simp only[CC.op,ho]at hc;(repeat' split at hc)<;>simp at hc
  |builtin b=>grind [CC.op]
  |value v=>grind [CC.op]
 |makeFunc fn fst caps=>cases fn<;>simp only[CC.op,ho]at hc<;>(repeat' split at hc)<;>simp_all
 |next it b=>cases b<;>simp[CC.op,ho]at hc
 |typeAssert p xt t ok=>cases ok<;>simp only[CC.op,ho]at hc<;>(try(repeat' split at hc))<;>simp at hc
 |lookup t p q ok=>
  cases ok with
  |true=>simp[CC.op,ho]at hc
  |false=>simp only[CC.op,ho]at hc;(repeat' split at hc)<;>simp_all
 |_=>
  simp only[CC.op,ho]at hc
  (try(repeat' split at hc))<;>simp at hc
def Aq {x:X}{defs:List (Option Nat)}{ev:Operand->Value}{o:Oper}{n:Nat}{ss:List Src}{st:St}{K:D->St->Prop}(hcst:∀d,J (.c d)=⟨true,d⟩)(hΓ:Ok C.P C.ν C.cC Y)
  (hc:C.op defs o=some (.callM n ss)) (hρ:pI C defs J ev x o.op.operands.toList) (hok:sU J ss) (hs:eG C.ν x (look st.m)) (hfr:eC st x) (htr:Y.tr n (gL J ss) st K):
  iX C.P x (fun v x'=>∃d st',K d st'/\Step x x'/\RD C.ν x' v d/\eG C.ν x' (look st'.m)/\eC st' x') ((execOp ev o).run C.P x.w):=by
 obtain⟨fid,args,tys,ho,h1,h3,h2⟩:=yJ hc;have hv:=hρ (.func fid) (by simp[ho,Op.operands,Call.operands]) (.c (.fn n [])) (by simp[CC.src,h1]) (by rw[hcst]);rw[hcst]at hv;obtain⟨s1,s2,s3⟩:=fV hρ _ _ (fun o' ho'=>by simp only[ho,Op.operands,Call.operands];simp at ho'⊢;exact .inr ho') h2 hok;generalize hep:ev (.func fid)=vf at hv;cases hv with
 |dW=>exact absurd (hΓ.small _ _ h1) ae
 |mp=>exact absurd (hΓ.small _ _ h1) ae
 |bx=>exact absurd (hΓ.small _ _ h1) ae
 |ifc=>exact absurd (hΓ.small _ _ h1) ae
 |ifn=>exact absurd (hΓ.small _ _ h1) ae
 |zp=>exact absurd (hΓ.small _ _ h1) ae
 |fn fid' _ cs _ hν hl _=>
  have hcs:cs=#[]:=by apply Array.ext';simpa using hl
  subst hcs;have hrun:(execOp ev o).run C.P x.w=(callFunc fid' (args.map ev)).run C.P x.w:=by
   simp[execOp,ho,resolve,Deferred.ofValue,invoke,hep]
  rw[hrun];refine hΓ.cC fid' n hν x _ (gL J ss) st K (by simp;simpa using s2.symm) (fun i hi=>?_) hs hfr htr;have:=s3 i hi
  rwa [<-Array.toList_map,cw]at this
def Lr {x:X}{defs:List (Option Nat)}{ev:Operand->Value}{o:Oper}{s:Src}{ng:Bool}(hcst:∀d,J (.c d)=⟨true,d⟩)
  (hc:C.op defs o=some (.isNl s ng)) (hρ:pI C defs J ev x o.op.operands.toList) (hok:(J s).ok=true) (hsl:MU (J s).d):
  ∃b,MM (J s).d b/\(execOp ev o).run C.P x.w=.ok (.value (.bool (bif ng then !b else b))) x.w:=by
 obtain⟨t,p,q,u,e,ho,h1,h2,hu⟩:∃t p q u e,o.op=.binOp (if ng then .neq else .eql) t p q u/\C.src defs p=some s/\C.src defs q=some (.c .aB)/\C.P.underlying t=some (.slice e):=by
  cases ho:o.op with
  |binOp op t p q u=>
   simp only[CC.op,ho]at hc
   (repeat' split at hc)<;>simp only[aZ,reduceCtorEq,aG.isNl.injEq]at hc
   all_goals
    obtain⟨rfl,rfl⟩:=hc;exact⟨t,p,q,u,_,rfl,by assumption,by assumption,by assumption⟩
  |call c=>
   obtain⟨callee,args,argTypes⟩:=c;cases callee with
   |invoke r n=>simp only[CC.op,ho]at hc;(repeat' split at hc)<;>simp at hc
   |builtin b=>grind [CC.op]
   |value v=>grind [CC.op]
  |typeAssert p xt t ok=>cases ok<;>simp only[CC.op,ho]at hc<;>(try(repeat' split at hc))<;>simp at hc
  |makeFunc fn fst caps=>cases fn<;>simp only[CC.op,ho]at hc<;>(repeat' split at hc)<;>simp_all
  |next it b=>cases b<;>simp[CC.op,ho]at hc
  |lookup t p q ok=>
   cases ok with
   |true=>simp[CC.op,ho]at hc
   |false=>simp only[CC.op,ho]at hc;(repeat' split at hc)<;>simp_all
  |_=>
   simp only[CC.op,ho]at hc
   (try(repeat' split at hc))<;>simp at hc
 have hv:=hρ p (by simp[ho,Op.operands]) s h1 hok;have hq:ev q=.slice none 0 0:=by
  have:=hρ q (by simp[ho,Op.operands]) (.c .aB) h2 (by rw[hcst]);rw[hcst]at this;generalize ev q=vq at this;cases this;rfl
 obtain⟨a,n,c,he,hb⟩:∃a n c,ev p=.slice a n c/\MM (J s).d a.isNone:=by
  generalize (J s).d=d at hv hsl⊢;generalize ev p=vp at hv⊢;cases hv<;>simp only[MU]at hsl
  case aB=>exact⟨_,_,_,rfl,rfl⟩
  case sl ha _ _ _ _ _ _ _=>exact⟨_,_,_,rfl,fun hn=>ha.elim id fun h=>by rw[h.1]at hn;cases hn⟩
  case own=>exact⟨_,_,_,rfl,fun hn=>by cases hn⟩
  case own0=>exact⟨_,_,_,rfl,fun _=>rfl⟩
 refine⟨_,hb,jY (ev:=ev) ho (jX _ _ _ _ (by rw[he];exact⟨bh,bh⟩) _) ?_⟩;rw[he,hq];cases ng
 .simpa using Lib.run_eql_slice_nil x.w t e a n c 0 0 hu
 .simpa using run_neq_slice_nil_any (P:=C.P) x.w t e a n c 0 0 hu
def Gt {x:X}{defs:List (Option Nat)}{ev:Operand->Value}{o:Oper}{fs:Src}{n:Nat}{caps:List D}{ss:List Src}{st:St}{K:D->St->Prop}(hΓ:Ok C.P C.ν C.cC Y)
  (hc:C.op defs o=some (.callvM fs ss)) (hρ:pI C defs J ev x o.op.operands.toList) (hfo:(J fs).ok=true) (hd:(J fs).d=.fn n caps) (hn2:n<2000000) (hok:sU J ss) (hs:eG C.ν x (look st.m)) (hfr:eC st x) (htr:Y.tr (FR n) (FQ n (gL J ss) caps) st K):
  iX C.P x (fun v x'=>∃d st',K d st'/\Step x x'/\RD C.ν x' v d/\eG C.ν x' (look st'.m)/\eC st' x') ((execOp ev o).run C.P x.w):=by
 obtain⟨t,args,tys,ho,h1,h2⟩:=wT hc;have hv:=hρ (.tmp t) (by simp[ho,Op.operands,Call.operands]) fs h1 hfo;rw[hd]at hv;obtain⟨s1,s2,s3⟩:=fV hρ _ _ (fun o' ho'=>by simp only[ho,Op.operands,Call.operands];simp at ho'⊢;exact .inr ho') h2 hok;have hsz:args.size=(gL J ss).length:=by simpa using s2.symm
 generalize hep:ev (.tmp t)=vf at hv;cases hv with
 |mp=>exact absurd hn2 ae
 |bx=>exact absurd hn2 ae
 |ifc=>exact absurd hn2 ae
 |ifn=>exact absurd hn2 ae
 |zp=>exact absurd hn2 ae
 |fn fid' _ cs _ hν hl hcs=>
  have hn:=hΓ.small _ _ hν;have e1:FR n=n:=by simp[FR,hn]
  have e2:FQ n (gL J ss) caps=gL J ss++caps:=by simp[FQ,hn]
  rw[e1,e2]at htr;have hrun:(execOp ev o).run C.P x.w=(callFunc fid' (args.map ev++cs)).run C.P x.w:=by
   simp[execOp,ho,resolve,Deferred.ofValue,invoke,hep]
  rw[hrun];refine hΓ.cC fid' n hν x _ (gL J ss++caps) st K (by simp[hl,hsz]) (fun i hi=>?_) hs hfr htr;rw[kM,df];simp only[Array.size_map,hsz];split
  .rename_i hlt;have:=s3 i hlt
   rwa [<-Array.toList_map,cw]at this
  .exact hcs _ (by simp at hi;omega)
 |dW fid' n' cs _ hν hl hcs=>
  have e1:FR (n'+1000000)=n':=by unfold FR;rw[ai ae];omega
  have e2:FQ (n'+1000000) (gL J ss) caps=caps++gL J ss:=by unfold FQ;rw[ai ae]
  rw[e1,e2]at htr;have hrun:(execOp ev o).run C.P x.w=(callFunc fid' (cs++args.map ev)).run C.P x.w:=by
   simp[execOp,ho,resolve,Deferred.ofValue,invoke,hep]
  rw[hrun];refine hΓ.cC fid' n' hν x _ (caps++gL J ss) st K (by simp[hl,hsz]) (fun i hi=>?_) hs hfr htr;rw[kM,df];rw[hl];split
  .exact hcs i (by assumption)
  .have:=s3 (i-caps.length) (by simp at hi;omega)
   rwa [<-Array.toList_map,cw]at this
end
end
section
variable [dq]
section
variable {C:CC} {Y:Ctx}
def eC.up {st:St}{x:X}(h:eC st x){n:Nat}(hn:st.nx<=n):eC ⟨n,st.m⟩ x:=
 ⟨fun l hl=>h.β l (eK hn hl),fun l hl=>jq (h.m l hl) hn⟩
def nP.iff {env:List b8}{DD:List (Option Nat)}{VS:List b8}{D D':Nat->Prop}{a:Act}{x:X}(h:nP C env DD VS D a x)(hD:∀p,D' p↔D p):nP C env DD VS D' a x:=by
 have:D'=D:=funext fun p=>propext (hD p)
 subst this;exact h
def nP.ext {env:List b8}{DD:List (Option Nat)}{vs:List b8}{a:Act}{x:X}{k:Nat}(e:b8)(h:nP C env DD vs (· <k) a x)(hk:vs.length=k):nP C env DD (vs++[e]) (· <k) a x:=by
 have hg:∀p,p<k->(vs++[e]).getD p .un=vs.getD p .un:=fun p hp=>by rw[df,aw ae]
 exact⟨fun p t hp h1 h2=>by rw[hg p hp]at h2⊢;exact h.val p t hp h1 h2,fun p t hp h1 h2=>by rw[hg p hp]at h2;exact h.und p t hp h1 h2,h.old,h.size,h.defers⟩
def eG.eq {ν:List (Nat×Nat)}{x:X}{f f':Nat->Option bM}(h:eG ν x f)(e:∀l,f' l=f l):eG ν x f':=by
 have:f'=f:=funext e;subst this;exact h
def AW {ops:Array Oper}{l:List GI}(hsp:Spec C ops.toList l)(hΓ:Ok C.P C.ν C.cC Y){Q:Exit->Act->World->Prop}{Kc:Act->World->Prop}{env:List b8}{K:List b8->St->Prop}{D:Nat->Prop}{k:Nat}{vs:List b8}{st:St}{x:X}{a:Act}{o:Oper}{g:GI}{r:List GI}
  (ho:ops[k]? =some o) (hg1:l[k]? =some g) (hg2:OpX C ((ops.toList.map (·.dst)).take k) o g.i) (hg3:CC.guard ((ops.toList.map (·.dst)).take k) o.guard=some g.g) (hk:vs.length=k) (hDlt:∀p,D p->p<k)
  (hreads:∀t p,Operand.tmp t∈o.op.operands.toList->(ops.toList.map (·.dst))[p]? =some (some t)->(p<k->D p)/\(k<=p->¬D p)) (hgd:∀j w,o.guard=some (j,w)->j<k->D j)
  (hmid:nP C env (ops.toList.map (·.dst)) vs D a x) (hs:eG C.ν x (look st.m)) (hf:eC ⟨st.nx+k,st.m⟩ x) (hw:dZ Y false (g::r) env vs st K)
  (hK:∀e st' x' a',nP C env (ops.toList.map (·.dst)) (vs++[e]) (fun p=>D p\/p=k) a' x'->Step x x'->eG C.ν x' (look st'.m)->eC ⟨st'.nx+(k+1),st'.m⟩ x'->dZ Y false r env (vs++[e]) st' K->Kc a' x'.w):wpOp C.P ops Q k Kc a x.w:=by
 have ho':ops.toList[k]? =some o:=by simpa using ho
 have hvt:vs.take k=vs:=iq ae;have hρ:pI C ((ops.toList.map (·.dst)).take k) (Src.ev env vs) a.eval x o.op.operands.toList:=by
  have:=hmid.Se (i:=k) (os:=o.op.operands.toList) hreads
  rwa [hvt]at this
 have hcst:∀d,Src.ev env vs (.c d)=⟨true,d⟩:=fun _=>rfl
 have hdst:(ops.toList.map (·.dst))[k]? =some o.dst:=by rw[List.getElem?_map,ho',Option.map_some]
 have hput:∀(e:b8) (v:Value) (x':X),Le x x'->(e.ok=true->RD C.ν x' v e.d)->(e.ok=false->v=undef)->nP C env (ops.toList.map (·.dst)) (vs++[e]) (fun p=>D p\/p=k) (a.put o.dst v) x':=by
  intro e v x' hle h1 h2;have he:(vs++[e]).getD k .un=e:=by rw[df,ai ae];simp[hk]
  have hext:nP C env (ops.toList.map (·.dst)) (vs++[e]) D a x:=by
   have hg:∀p,D p->(vs++[e]).getD p .un=vs.getD p .un:=fun p hp=>by rw[df,aw (by have:=hDlt p hp;omega)]
   exact⟨fun p t hp h1 h2=>by rw[hg p hp]at h2⊢;exact hmid.val p t hp h1 h2,fun p t hp h1 h2=>by rw[hg p hp]at h2;exact hmid.und p t hp h1 h2,hmid.old,hmid.size,hmid.defers⟩
  exact hext.put (i:=k) hle hdst (fun t ht=>⟨(hsp.dst k o t ho' ht).1,fun p hp e'=>hp (hsp.distinct (by rw[hdst,ht]) e')⟩) (by rw[he];exact h1) (by rw[he];exact h2) (fun p=>Iff.rfl)
 unfold wpOp;simp only[ho];obtain⟨i,gd⟩:=g;by_cases hcm:i.cB=true
 .cases i<;>simp only[aG.cB]at hcm<;>try cases hcm
  .rename_i f ss;simp only[dZ]at hw;obtain⟨w1,w2,w3⟩:=hw;have hfl:=gT (g:=⟨.callM f ss,gd⟩) hmid hg3 hgd (by rw[hvt];exact w1);simp only[hvt]at hfl;rw[hfl];cases hfg:flag vs gd with
   |true=>
    rw[aw rfl];left;obtain⟨w4,w5⟩:=w2 hfg;rw[hk]at w5;refine(Aq (st:=⟨st.nx+k,st.m⟩) hcst hΓ (by rcases hg2 with h|⟨_,_,_,h,_⟩|⟨_,_,h,_⟩|⟨_,_,_,_,h,_⟩|⟨_,_,_,h,_⟩;exact h;cases h;cases h;cases h;cases h) hρ w4 hs hf w5).wp (fun v x' hG=>?_);obtain⟨d,st',hK1,hst1,hrd,hs1,hf1⟩:=hG;obtain⟨hnx,hw'⟩:=hK1;refine hK ⟨true,d⟩ ⟨st'.nx-k,st'.m⟩ x' (a.put o.dst v) (hput ⟨true,d⟩ v x' hst1.le (fun _=>hrd) (fun h=>by cases h)) hst1 hs1 ?_ hw';exact hf1.up (by simp only;omega)
   |false=>
    rw[ai bh];refine hK ⟨false,.any⟩ st x (a.put o.dst undef) (hput ⟨false,_⟩ undef x (Le.refl x) (fun h=>by cases h) (fun _=>rfl)) (.refl _) hs ?_ (w3 hfg);exact⟨fun l' hl'=>hf.β l' (by have hl'':st.nx+(k+1)<=l':=hl';show st.nx+k<=l';omega),fun l' hl'=>by have:=hf.m l' hl';simp only at this⊢;omega⟩
  .rename_i f ss;simp only[dZ]at hw;obtain⟨w1,w2,w3⟩:=hw;have hfl:=gT (g:=⟨.callvM f ss,gd⟩) hmid hg3 hgd (by rw[hvt];exact w1);simp only[hvt]at hfl;rw[hfl];cases hfg:flag vs gd with
   |true=>
    rw[aw rfl];left;obtain⟨w0,w4,w5⟩:=w2 hfg;rw[hk]at w5;cases hd:(Src.ev env vs f).d<;>simp only[hd]at w5;refine(Gt (st:=⟨st.nx+k,st.m⟩) hΓ (by rcases hg2 with h|⟨_,_,_,h,_⟩|⟨_,_,h,_⟩|⟨_,_,_,_,h,_⟩|⟨_,_,_,h,_⟩;exact h;cases h;cases h;cases h;cases h) hρ w0 hd w5.1 w4 hs hf w5.2).wp (fun v x' hG=>?_);obtain⟨d,st',hK1,hst1,hrd,hs1,hf1⟩:=hG;obtain⟨hnx,hw'⟩:=hK1;refine hK ⟨true,d⟩ ⟨st'.nx-k,st'.m⟩ x' (a.put o.dst v) (hput ⟨true,d⟩ v x' hst1.le (fun _=>hrd) (fun h=>by cases h)) hst1 hs1 ?_ hw';exact hf1.up (by simp only;omega)
   |false=>
    rw[ai bh];refine hK ⟨false,.any⟩ st x (a.put o.dst undef) (hput ⟨false,_⟩ undef x (Le.refl x) (fun h=>by cases h) (fun _=>rfl)) (.refl _) hs ?_ (w3 hfg);exact⟨fun l' hl'=>hf.β l' (by have hl'':st.nx+(k+1)<=l':=hl';show st.nx+k<=l';omega),fun l' hl'=>by have:=hf.m l' hl';simp only at this⊢;omega⟩
  .rename_i s ng;simp only[dZ]at hw;obtain⟨w1,w2,w3⟩:=hw;have hfl:=gT (g:=⟨.isNl s ng,gd⟩) hmid hg3 hgd (by rw[hvt];exact w1);simp only[hvt]at hfl;rw[hfl];cases hfg:flag vs gd with
   |true=>
    rw[aw rfl];left;obtain⟨w0,w1,w2⟩:=w2 hfg;obtain⟨b,hb,hrun⟩:=Lr hcst (by rcases hg2 with h|⟨_,_,_,h,_⟩|⟨_,_,h,_⟩|⟨_,_,_,_,h,_⟩|⟨_,_,_,h,_⟩;exact h;cases h;cases h;cases h;cases h) hρ w0 w1;refine iX.wp (G:=fun v x'=>v=.bool (bif ng then !b else b)/\x'=x) (.inl ⟨_,x,.inl hrun,rfl,rfl⟩) (fun v x' hG=>?_);obtain⟨rfl,rfl⟩:=hG;refine hK ⟨true,.bool (bif ng then !b else b)⟩ st _ _ (hput ⟨true,_⟩ _ _ (Le.refl _) (fun _=>.bool _) (fun h=>by cases h)) (.refl _) hs ?_ (w2 b hb);exact⟨fun l' hl'=>hf.β l' (by have hl'':st.nx+(k+1)<=l':=hl';show st.nx+k<=l';omega),fun l' hl'=>by have:=hf.m l' hl';simp only at this⊢;omega⟩
   |false=>
    rw[ai bh];refine hK ⟨false,.any⟩ st x (a.put o.dst undef) (hput ⟨false,_⟩ undef x (Le.refl x) (fun h=>by cases h) (fun _=>rfl)) (.refl _) hs ?_ (w3 hfg);exact⟨fun l' hl'=>hf.β l' (by have hl'':st.nx+(k+1)<=l':=hl';show st.nx+k<=l';omega),fun l' hl'=>by have:=hf.m l' hl';simp only at this⊢;omega⟩
  .exfalso;rcases hg2 with h|⟨_,_,_,h,_⟩|⟨_,_,h,_⟩|⟨_,_,_,_,h,_⟩|⟨_,_,_,h,_⟩
   .exact Ou h
   all_goals cases h
 .have hcm':i.cB=false:=by simpa using hcm
  have hL:x.β (st.nx+k)=none:=hf.β _ (aE _);have hlL:look st.m (st.nx+k)=none:=by
   cases hx:look st.m (st.nx+k)with
   |none=>rfl
   |some b=>have:=hf.m (st.nx+k) (by simp only;rw[hx];simp);simp only at this;omega
  by_cases hfk:i.mr false gd=true
  .rw[sy hcm' hfk]at hw;obtain⟨w1,w2,w3⟩:=hw;have hfl:=gT (g:=⟨i,gd⟩) hmid hg3 hgd (by rw[hvt];exact w1);simp only[hvt]at hfl;rw[hfl];rw[hk]at w2;cases hfg:flag vs gd with
   |true=>
    rw[aw rfl];left;obtain⟨hob,hw'⟩:=w2 hfg;have hag:ye (look st.m) st.m (i.kV (Src.ev env vs)):=by
     unfold ye;split<;>intros<;>rfl
    refine(yI (L:=st.nx+k) hg2 hcm' hΓ hρ hcst hob hs hag hL hlL (fun _=>rfl)).wp (fun v x' hG=>?_);obtain⟨g1,g2,g3,g4⟩:=hG;refine hK ⟨true,_⟩ _ x' (a.put o.dst v) (hput ⟨true,_⟩ v x' g1.le (fun _=>g2) (fun h=>by cases h)) g1 ?_ ?_ hw'
    .refine g3.eq fun l'=>?_
     by_cases hlw:l'∈i.wr (Src.ev env vs) (st.nx+k)
     .simp[iB,hlw]
     .simp only[iB,hlw,aL];exact rJ hlw
    .refine⟨fun l' hl'=>?_,fun l' hl'=>?_⟩
     .have hl'':st.nx+(k+1)<=l':=hl';rw[g4 l' ae];exact hf.β l' (by show st.nx+k<=l';omega)
     .show l'<st.nx+(k+1);rcases oO (.inr hob) hl' with h|h
      .have:=hf.m l' h;simp only at this;omega
      .omega
   |false=>
    rw[ai bh];have hw':=w3 hfg;refine hK ⟨false,.any⟩ st x (a.put o.dst undef) (hput ⟨false,_⟩ undef x (Le.refl x) (fun h=>by cases h) (fun _=>rfl)) (.refl _) hs ?_ hw';exact⟨fun l' hl'=>hf.β l' (by have hl'':st.nx+(k+1)<=l':=hl';show st.nx+k<=l';omega),fun l' hl'=>by have:=hf.m l' hl';simp only at this⊢;omega⟩
  rw[iV hcm' (by simpa using hfk)]at hw;obtain⟨w1,w2,w3⟩:=hw;have hfl:=gT (g:=⟨i,gd⟩) hmid hg3 hgd (by rw[hvt];exact Ii w1);simp only[hvt]at hfl;rw[hfl];rw[hk]at w3;cases hfg:flag vs gd with
  |true=>
   rw[aw rfl];left;have hob:=w2 hfg;have hasm:i.yi false (Src.ev env vs):=by
    refine BK fun s hs' _ hok=>?_
    obtain⟨p,hp1,hp2⟩:=Cs (C:=C) (o:=o) (s:=s) (defs:=(ops.toList.map (·.dst)).take k) (by rcases hs' with rfl|rfl<;>rcases hg2 with h|⟨_,_,_,h,_⟩|⟨_,_,h,_⟩|⟨_,_,_,_,h,_⟩|⟨_,_,_,h,_⟩<;>first|exact .inl h|exact .inr h|cases h);exact⟨_,_,_,hρ p hp1 s hp2 hok⟩
   obtain⟨dv,hdv,hw'⟩:=w3 (fun _=>hasm);replace hdv:=hdv hfg;have hag:ye (look st.m) st.m (i.kV (Src.ev env vs)):=by
    unfold ye;split<;>intros<;>rfl
   refine(yI (L:=st.nx+k) hg2 hcm' hΓ hρ hcst hob hs hag hL hlL (fun _=>rfl)).wp (fun v x' hG=>?_);obtain⟨g1,g2,g3,g4⟩:=hG;rw[hfg]at hw';rw[hdv]at g2;refine hK ⟨true,_⟩ _ x' (a.put o.dst v) (hput ⟨true,_⟩ v x' g1.le (fun _=>g2) (fun h=>by cases h)) g1 ?_ ?_ hw'
   .refine g3.eq fun l'=>?_
    by_cases hlw:l'∈i.wr (Src.ev env vs) (st.nx+k)
    .simp[iB,hlw]
    .simp only[iB,hlw,aL];exact rJ hlw
   .refine⟨fun l' hl'=>?_,fun l' hl'=>?_⟩
    .have hl'':st.nx+(k+1)<=l':=hl';rw[g4 l' ae];exact hf.β l' (by show st.nx+k<=l';omega)
    .show l'<st.nx+(k+1);rcases oO (.inr hob) hl' with h|h
     .have:=hf.m l' h;simp only at this;omega
     .omega
  |false=>
   rw[ai bh];have hcalm:i.calm=true:=by
    cases gd with
    |none=>simp[flag]at hfg
    |some jw=>obtain⟨j,w⟩:=jw;exact w1.1
   obtain⟨dv,hdv,hw'⟩:=w3 (fun h=>by rw[hfg]at h;cases h);rw[hfg]at hw';refine hK ⟨false,_⟩ _ x (a.put o.dst undef) (hput ⟨false,_⟩ undef x (Le.refl x) (fun h=>by cases h) (fun _=>rfl)) (.refl _) ?_ ?_ hw'
   .refine hs.less fun l'=>?_
    by_cases hlw:l'∈i.wr (Src.ev env vs) (st.nx+k)
    .exact .inr (.inr (by rw[jS hcalm hlw];exact hL))
    .exact .inl (rJ hlw)
   .refine⟨fun l' hl'=>hf.β l' (by have hl'':st.nx+(k+1)<=l':=hl';show st.nx+k<=l';omega),fun l' hl'=>?_⟩;show l'<st.nx+(k+1);rcases oO (Y:=Y) (.inl hcalm) hl' with h|h
    .have:=hf.m l' h;simp only at this;omega
    .omega
def D2 {ops:Array Oper}{l:List GI}(hsp:Spec C ops.toList l)(hΓ:Ok C.P C.ν C.cC Y){Q:Exit->Act->World->Prop}{env:List b8}{K:List b8->St->Prop}{x0:X}
  (hK:∀vs' st' a' x',K vs' st'->vs'.length=ops.size->nP C env (ops.toList.map (·.dst)) vs' (· <ops.size) a' x'->Step x0 x'->eG C.ν x' (look st'.m)->eC st' x'->Q .normal a' x'.w):
  ∀(n k:Nat) (vs:List b8) (st:St) (x:X) (a:Act),k+n=ops.size->vs.length=k->nP C env (ops.toList.map (·.dst)) vs (· <k) a x->Step x0 x->eG C.ν x (look st.m)->eC ⟨st.nx+k,st.m⟩ x->
   dZ Y false (l.drop k) env vs st K->wpOps C.P ops Q (List.range' k n) a x.w:=by
 intro n;induction n with
 |zero=>
  intro k vs st x a hkn hk hmid hst hs hf hw;have hlen:=hsp.len;have hd:l.drop k=[]:=mf (by simp at hlen;omega);rw[hd]at hw;simp only[dZ]at hw;simp only[List.range'_zero,wpOps];obtain rfl:k=ops.size:=ae;exact hK vs _ a x hw hk hmid hst hs (by rw[hk];exact hf)
 |succ n ih=>
  intro k vs st x a hkn hk hmid hst hs hf hw;have hkl:k<ops.size:=ae;obtain⟨o,ho⟩:∃o,ops[k]? =some o:=⟨ops[k],by simp[hkl]⟩
  obtain⟨g,hg1,hg2,hg3⟩:=hsp.op k o (by simpa using ho);have hlk:k<l.length:=by have:=hsp.len;simp at this;omega
  have hdrop:l.drop k=g::l.drop (k+1):=by
   rw[jP hlk];congr 1;exact(List.getElem?_eq_some_iff.1 hg1).2
  rw[hdrop]at hw;rw[List.range'_succ,wpOps_cons];exact AW hsp hΓ ho hg1 hg2 hg3 hk (fun _ h=>h) (fun t p _ _=>⟨fun h=>h,fun h=>ae⟩) (fun j w _ h=>h) hmid hs hf hw
   (fun e st' x' a' h1 h2 h3 h4 h5=>ih (k+1) _ st' x' a' ae (by simp[hk]) (h1.iff fun p=>ae) (hst.trans h2) h3 h4 h5)
end
end
section
variable [dq]
section
variable {C:CC} {Y:Ctx}
structure Trace (Y:Ctx)(l:List GI)(env:List b8)(nx:Nat)(VS:List b8)(M:Nat->List (Nat×bM)):Prop where
 step:∀(k:Nat) (g:GI),l[k]? =some g->M (k+1)=g.i.cC Y (Src.ev env (VS.take k)) (M k) (nx+k)
 stop:∀k:Nat,l[k]? =none->M (k+1)=M k
 ent:∀(k:Nat) (g:GI),l[k]? =some g->(VS.getD k .un).ok=flag (VS.take k) g.g/\(flag (VS.take k) g.g=true->g.i.val Y (Src.ev env (VS.take k)) (M k) (nx+k)=(VS.getD k .un).d)
 Ha:∀(k:Nat) (g:GI),l[k]? =some g->Ha (VS.take k) g.i g.g
 dF:∀(k:Nat) (g:GI),l[k]? =some g->flag (VS.take k) g.g=true->g.i.dF Y (Src.ev env (VS.take k)) (M k)
 len:VS.length=l.length
 fresh0:∀l',look (M 0) l'≠none->l'<nx
def vQ {env:List b8}{K:List b8->St->Prop}:∀(l:List GI) (vs:List b8) (st:St),(∀g∈l,g.i.cB=false)->(∀g∈l,∀vs',g.i.yi true (Src.ev env vs'))->dZ Y true l env vs st K->
  ∃(VS:List b8) (M:Nat->List (Nat×bM)),VS.take vs.length=vs/\VS.length=vs.length+l.length/\(∀k,k<=vs.length->M k=st.m)/\(∀k,vs.length+l.length<=k->M k=M (vs.length+l.length))/\
   (∀(k:Nat) (g:GI),l[k]? =some g->M (vs.length+k+1)=g.i.cC Y (Src.ev env (VS.take (vs.length+k))) (M (vs.length+k)) (st.nx+(vs.length+k))/\
     ((VS.getD (vs.length+k) .un).ok=flag (VS.take (vs.length+k)) g.g/\(flag (VS.take (vs.length+k)) g.g=true->g.i.val Y (Src.ev env (VS.take (vs.length+k))) (M (vs.length+k)) (st.nx+(vs.length+k))=(VS.getD (vs.length+k) .un).d))/\
     Ha (VS.take (vs.length+k)) g.i g.g/\(flag (VS.take (vs.length+k)) g.g=true->g.i.dF Y (Src.ev env (VS.take (vs.length+k))) (M (vs.length+k))))/\
   K VS ⟨st.nx+(vs.length+l.length),M (vs.length+l.length)⟩
 |[],vs,st,_,_,h=>⟨vs,fun _=>st.m,bh,bh,fun _ _=>rfl,fun _ _=>rfl,fun k g h=>by simp at h,by simpa[dZ]using h⟩
 |⟨i,g⟩::r,vs,st,hcm,hasm,h=>by
  rw[iV (hcm _ (.head _)) rfl]at h;obtain⟨w1,w2,w3⟩:=h;obtain⟨dv,hdv,w3⟩:=w3 fun _=>hasm _ (.head _) vs
  obtain⟨VS,M,a1,a2,a3,a4,a5,a6⟩:=vQ r _ _ (fun g hg=>hcm g (.tail _ hg)) (fun g hg=>hasm g (.tail _ hg)) w3;simp only[cK,bA,bK,aO]at a1 a2 a3 a4 a5 a6;have b1:VS.take vs.length=vs:=by
   have:=bS (List.take vs.length) a1;rw[List.take_take,Nat.min_eq_left ae]at this;rw[this];simp
  have b2:VS.getD vs.length .un=⟨flag vs g,dv⟩:=by
   have:(VS.take (vs.length+1)).getD vs.length .un=VS.getD vs.length .un:=getD_take _ _ _ _ ae;rw[<-this,a1,df,ai ae];simp
  refine⟨VS,fun k=>if k<=vs.length then st.m else M k,b1,by simp only[bA];omega,fun k hk=>by simp[hk],fun k hk=>?_,fun k gi hk=>?_, ?_⟩
  .simp only[bA]at hk⊢;rw[ai ae,ai ae,a4 k ae,a4 (vs.length+(r.length+1)) ae]
  .cases k with
   |zero=>
    simp only[List.getElem?_cons_zero,aZ]at hk;subst hk;simp only[Nat.add_zero];rw[ai ae,aw ae,b1,b2,a3 (vs.length+1) ae];exact⟨rfl,⟨rfl,hdv⟩,w1,w2⟩
   |succ k=>
    grind
  .simp only[bA];rw[ai ae];have e:vs.length+1+r.length=vs.length+(r.length+1):=ae;rw[e]at a6;exact a6
def ox {env:List b8}{K:List b8->St->Prop}{l:List GI}{st:St}(hcm:∀g∈l,g.i.cB=false)(hasm:∀g∈l,∀vs',g.i.yi true (Src.ev env vs'))(hf:∀l',look st.m l'≠none->l'<st.nx)
  (h:dZ Y true l env [] st K):∃VS M,Trace Y l env st.nx VS M/\M 0=st.m/\K VS ⟨st.nx+l.length,M l.length⟩:=by
 obtain⟨VS,M,a1,a2,a3,a4,a5,a6⟩:=vQ l [] st hcm hasm h;simp only[bK,aO]at a1 a2 a3 a4 a5 a6;refine⟨VS,M,⟨fun k g hk=>(a5 k g hk).1,fun k hk=>?_,fun k g hk=>(a5 k g hk).2.1,fun k g hk=>(a5 k g hk).2.2.1,fun k g hk=>(a5 k g hk).2.2.2,a2, ?_⟩,a3 0 (aE _),a6⟩
 .grind
 .rw[a3 0 (aE _)];exact hf
section trace
variable {l:List GI} {env:List b8} {nx:Nat} {VS:List b8} {M:Nat->List (Nat×bM)}
def Trace.qD (h:Trace Y l env nx VS M){k:Nat}{g:GI}(hg:l[k]? =some g):g.i.calm=true\/(g.g=none/\g.i.dF Y (Src.ev env (VS.take k)) (M k)):=by
 cases hc:g.i.calm with
 |true=>exact .inl rfl
 |false=>
  right;have h1:=h.Ha k g hg;have hn:g.g=none:=by
   cases hgg:g.g with
   |none=>rfl
   |some jw=>obtain⟨j,w⟩:=jw;rw[hgg]at h1;have:=h1.1;rw[hc]at this;cases this
  exact⟨hn,h.dF k g hg (by rw[hn];rfl)⟩
def Trace.fresh (h:Trace Y l env nx VS M):∀(k l':Nat),look (M k) l'≠none->l'<nx+k
 |0,l',hl=>h.fresh0 l' hl
 |k+1,l',hl=>by
  cases hg:l[k]? with
  |none=>
   rw[h.stop k hg]at hl;have:=Trace.fresh h k l' hl;omega
  |some g=>
   rw[h.step k g hg]at hl;have hco:g.i.calm=true\/g.i.dF Y (Src.ev env (VS.take k)) (M k):=(h.qD hg).imp id (·.2);rcases oO hco hl with h1|h1
   .have:=Trace.fresh h k l' h1;omega
   .omega
def Trace.mO (h:Trace Y l env nx VS M){l':Nat}:∀(n u:Nat),(∀(q:Nat) (g:GI),u<=q->q<u+n->l[q]? =some g->l'∉g.i.wr (Src.ev env (VS.take q)) (nx+q))->look (M (u+n)) l'=look (M u) l'
 |0,u,_=>rfl
 |n+1,u,hq=>by
  rw[<-Trace.mO h n u (fun q g h1 h2=>hq q g h1 ae)];rw[<-Nat.add_assoc];cases hg:l[u+n]? with
  |none=>rw[h.stop _ hg]
  |some g=>rw[h.step _ g hg];exact rJ (hq (u+n) g ae ae hg)
def Trace.same (h:Trace Y l env nx VS M){l' u v:Nat}(hq:∀(q:Nat)(g:GI),min u v<=q->q<max u v->l[q]? =some g->l'∉g.i.wr (Src.ev env (VS.take q)) (nx+q)):look (M u) l'=look (M v) l':=by
 rcases Nat.le_total u v with huv|huv
 .have:=h.mO (l':=l') (v-u) u (fun q g h1 h2=>hq q g ae ae)
  grind
 .have:=h.mO (l':=l') (u-v) v (fun q g h1 h2=>hq q g ae ae)
  grind
end trace
def mM (acc:List Nat)(p:Nat):∀(es:List Edge),(nn acc es).testBit p=true->∃e∈es,Region.binds .any e=true/\(p=e.on\/(acc.getD e.on 0).testBit p=true)
 |[],h=>by simp[nn]at h
 |e::r,h=>by
  simp only[nn]at h;split at h
  .rename_i hb;rw[Nat.testBit_or,en,Nat.testBit_or,en]at h;rcases h with(h|h)|h
   .grind
   .exact⟨e,.head _,hb,.inr h⟩
   .obtain⟨e',h1,h2⟩:=mM acc p r h;exact⟨e',.tail _ h1,h2⟩
  .obtain⟨e',h1,h2⟩:=mM acc p r h;exact⟨e',.tail _ h1,h2⟩
def rB:∀(ops:List Oper) (acc:List Nat),(jB acc ops).take acc.length=acc/\(jB acc ops).length=acc.length+ops.length/\
  ∀(j:Nat) (o:Oper),ops[j]? =some o->(jB acc ops).getD (acc.length+j) 0=nn ((jB acc ops).take (acc.length+j)) o.after.toList
 |[],acc=>⟨by simp[jB],by simp[jB],fun j o h=>by simp at h⟩
 |o::r,acc=>by
  obtain⟨a1,a2,a3⟩:=rB r (acc++[nn acc o.after.toList]);simp only[cK,bA,bK,aO]at a1 a2 a3;have e:jB acc (o::r)=jB (acc++[nn acc o.after.toList]) r:=rfl;rw[e];have b1:(jB (acc++[nn acc o.after.toList]) r).take acc.length=acc:=by
   have:=bS (List.take acc.length) a1;rw[List.take_take,Nat.min_eq_left ae]at this;rw[this];simp
  refine⟨b1,by simp only[bA];omega,fun j o' hj=>?_⟩;cases j with
  |zero=>
   simp only[List.getElem?_cons_zero,aZ]at hj;subst hj;rw[Nat.add_zero,b1];have:((jB (acc++[nn acc o.after.toList]) r).take (acc.length+1)).getD acc.length 0=(jB (acc++[nn acc o.after.toList]) r).getD acc.length 0:=getD_take _ _ _ _ ae;rw[<-this,a1,df,ai ae];simp
  |succ j=>
   grind
def mX:∀(ops:List Oper) (p:Nat),mW p ops=true->∀(j:Nat) (o:Oper),ops[j]? =some o->∀e∈o.after,Region.binds .any e=true->e.on<p+j
 |[],p,_,j,o,h=>by simp at h
 |o::r,p,h,j,o',hj=>by
  simp only[mW,bm,List.all_eq_true]at h;cases j with
  |zero=>
   grind
  |succ j=>
   intro e he hb;have:=mX r (p+1) h.2 j o' (by simpa using hj) e he hb;omega
def nN (bs:List Nat)(i j:Nat):Prop:=(bs.getD (max j i) 0).testBit (min j i)=true
def ExU (l:List GI)(gj gi:aG)(j i:Nat):Prop:=gi.qQ=true/\((gj.isApp=true/\j<i)\/(gj.kN=true/\i<j/\∀q g,i<q->q<j->l[q]? =some g->g.i.calm=true\/g.i.kN=true))
structure Order (ops:List Oper)(l:List GI)(bs:List Nat):Prop where
 bef:∀(j:Nat) (o:Oper),ops[j]? =some o->∀p,(bs.getD j 0).testBit p=true->∃e∈o.after,Region.binds .any e=true/\(p=e.on\/(bs.getD e.on 0).testBit p=true)
 edge:∀(j:Nat) (o:Oper),ops[j]? =some o->∀e∈o.after,Region.binds .any e=true->e.on<j
 reads:∀(j p:Nat) (oj op:Oper) (t:Nat),ops[j]? =some oj->ops[p]? =some op->op.dst=some t->t∈tmpsOf ops oj->p=j\/nN bs p j
 effs:∀(j i:Nat) (gj gi:GI),l[j]? =some gj->l[i]? =some gi->gj.i.calm=false->gi.i.free=false->(gi.i.iy=false\/(gj.i.isApp=true/\i<j))->i=j\/nN bs i j\/ExU l gj.i gi.i j i
def IX {ops:List Oper}{l:List GI}(h:uG ops l=true):Order ops l (jB [] ops):=by
 simp only[uG,bm]at h;obtain⟨h1,h2,_,h4⟩:=h;obtain⟨b1,b2,b3⟩:=rB ops [];simp only[bK,aO]at b2 b3;refine⟨fun j o hj p hp=>?_,fun j o hj e he hb=>by simpa using mX ops 0 h4 j o hj e he hb,fun j p oj op t hj hp hd ht=>?_,fun j i gj gi hj hi hc hpu hmk=>?_⟩
 .rw[b3 j o hj]at hp;obtain⟨e,e1,e2,e3⟩:=mM _ _ _ hp;refine⟨e,by simpa using e1,e2,e3.imp id fun h=>?_⟩;by_cases hlt:e.on<j
  .rwa [getD_take _ _ _ _ hlt]at h
  .simp only[List.getD,List.getElem?_take,hlt,aL,Option.getD_none,Nat.zero_testBit]at h;cases h
 .have hjl:j<ops.length:=(List.getElem?_eq_some_iff.1 hj).1;have hpl:p<ops.length:=(List.getElem?_eq_some_iff.1 hp).1;simp only[oY,List.all_eq_true,List.mem_range]at h1;have:=h1 j hjl p hpl;simp only[hj,hp,hd,en,beq_iff_eq,eB,List.contains_eq_mem,dA]at this;rcases this with(h|h)|h
  .exact .inl h
  .exact absurd ht h
  .exact .inr h
 .have hjl:j<l.length:=(List.getElem?_eq_some_iff.1 hj).1;have hil:i<l.length:=(List.getElem?_eq_some_iff.1 hi).1;simp only[MC,List.all_eq_true,List.mem_range]at h2;have:=h2 j hjl i hil;have hm:(gi.i.iy&&(!gj.i.isApp ||decide (j<i)))=false:=by
   rcases hmk with h|⟨h,h3⟩
   .simp[h]
   .simp[h,show ¬j<i by omega]
  simp only[hj,hi,hc,hpu,hm,Bool.false_or,en,beq_iff_eq]at this;rcases this with(h|h)|h
  .exact .inl h
  .exact .inr (.inl h)
  .right;right;simp only[exU,bm,bL,List.all_eq_true,List.mem_range,en]at h;obtain⟨x2,h|⟨x1,x3,x4⟩⟩:=h
   .exact⟨x2,.inl h⟩
   refine⟨x2,.inr ⟨x1,x3,fun q g hq1 hq2 hg=>?_⟩⟩;have:=x4 q hq2;rw[hg]at this;rcases this with h|h
   .omega
   .simpa using h
def Oj {ops:List Oper}{l:List GI}(h:uG ops l=true):(∀g∈l,g.i.cB=false)\/DH l (jB [] ops)=true:=by
 grind [uG]
def B4 {l:List GI}{bs:List Nat}(h:DH l bs=true):∃l' suf,l=l'++suf/\D4 suf=true/\(∀q,q<suf.length->∀p,p<l'.length+q->(bs.getD (l'.length+q) 0).testBit p=true)/\∀g∈l',g.i.cB=false:=by
 unfold DH at h;simp only at h;generalize List.findIdx (fun g:GI=>g.i.cB) l=n at h;simp only[bm,List.all_eq_true,List.mem_range,eB]at h;obtain⟨h1,h2,h3⟩:=h;have hn:n<l.length:=by
  rcases cQ n l.length with h|h
  .exact h
  .rw[mf h]at h1;cases h1
 have hl:(l.take n).length=n:=eo;exact⟨l.take n,l.drop n,(List.take_append_drop n l).symm,h1,fun q hq p hp=>by rw[hl]at hp⊢;exact h3 q (by simpa using hq) p hp,h2⟩
def Order.pre {ops os:List Oper}{l ls:List GI}{bs:List Nat}(h:Order (ops++os) (l++ls) bs):Order ops l bs:=by
 have ho:∀{j:Nat} {oj:Oper},ops[j]? =some oj->(ops++os)[j]? =some oj:=fun hj=>by
  rw[List.getElem?_append_left (List.getElem?_eq_some_iff.1 hj).1];exact hj
 have hl:∀{j:Nat} {gj:GI},l[j]? =some gj->(l++ls)[j]? =some gj:=fun hj=>by
  rw[List.getElem?_append_left (List.getElem?_eq_some_iff.1 hj).1];exact hj
 refine⟨fun j oj hj=>h.bef j oj (ho hj),fun j oj hj=>h.edge j oj (ho hj),fun j p oj op t hj hp hd ht=>h.reads j p oj op t (ho hj) (ho hp) hd ?_,fun j i gj gi hj hi hc hf hm=>?_⟩
 .grind [tmpsOf]
 .rcases h.effs j i gj gi (hl hj) (hl hi) hc hf hm with e|e|⟨e1,e2|⟨e2,e3,e4⟩⟩
  .exact .inl e
  .exact .inr (.inl e)
  .exact .inr (.inr ⟨e1,.inl e2⟩)
  .exact .inr (.inr ⟨e1,.inr ⟨e2,e3,fun q gq hq1 hq2 hg=>e4 q gq hq1 hq2 (hl hg)⟩⟩)
def vP {env:List b8}{K:List b8->St->Prop}:∀(r:List GI) (vs:List b8) (st:St),(∀g∈r,Ma g=true)->dZ Y true r env vs st K=dZ Y false r env vs st K
 |[],_,_,_=>by simp only[dZ]
 |g::r,vs,st,h=>by
  have hg:=h g (.head _);have ih:=fun vs st=>vP (env:=env) (K:=K) r vs st fun g hg=>h g (.tail _ hg)
  unfold Ma at hg;split at hg
  .simp only[dZ,aG.mr,aG.calm,Bool.not_true,Bool.not_false,Bool.false_and,Bool.and_false,gV,aL,aG.yi,ih]
  .simp only[dZ,aG.mr,aG.calm,Bool.not_true,Bool.not_false,Bool.false_and,Bool.and_false,gV,aL,aG.yi,ih]
  .simp only[dZ,aG.mr,aG.calm,Bool.not_true,Bool.not_false,Bool.false_and,Bool.and_false,gV,aL,aG.yi,ih]
  .cases hg
def JG {env:List b8}{K:List b8->St->Prop}{suf:List GI}(h:D4 suf=true){vs:List b8}{st:St}(hw:dZ Y true suf env vs st K):dZ Y false suf env vs st K:=by
 unfold D4 at h;split at h
 .simp only[List.all_eq_true]at h;simp only[dZ]at hw⊢;simpa only[vP _ _ _ h]using hw
 .simp only[List.all_eq_true]at h;simp only[dZ]at hw⊢;simpa only[vP _ _ _ h]using hw
 .cases h
def vO {d:Bool}{env:List b8}{K:List b8->St->Prop}{b:List GI}:∀(a:List GI) (vs:List b8) (st:St),d=true->(∀g∈a,g.i.cB=false)->dZ Y d (a++b) env vs st K->dZ Y d a env vs st (fun vs' st'=>dZ Y d b env vs' ⟨st'.nx-vs'.length,st'.m⟩ K)
 |[],vs,st,_,_,h=>by
  simp only[dZ,wx]at h⊢;rw[Nat.add_sub_cancel];exact h
 |⟨i,g⟩::r,vs,st,hd,hcm,h=>by
  subst hd;rw[qq,iV (hcm _ (.head _)) rfl]at h;rw[iV (hcm _ (.head _)) rfl];exact⟨h.1,h.2.1,fun ha=>(h.2.2 ha).imp fun _ h2=>⟨h2.1,vO r _ _ rfl (fun g hg=>hcm g (.tail _ hg)) h2.2⟩⟩
end
end
section
variable [dq]
section
variable {C:CC} {Y:Ctx}
def filter_lt {p q:Nat->Bool}:∀(l:List Nat),(∀a∈l,q a=true->p a=true)->(∃a∈l,p a=true/\q a=false)->(l.filter q).length<(l.filter p).length
 |[],_,⟨a,h,_⟩=>by cases h
 |b::r,h1,⟨a,h2,h3,h4⟩=>by
  have hle:∀(l:List Nat),(∀a∈l,q a=true->p a=true)->(l.filter q).length<=(l.filter p).length:=by
   intro l;induction l with
   |nil=>intro _;simp
   |cons b r ih=>
    grind
  have hr:=hle r fun a ha=>h1 a (.tail _ ha)
  rw[List.filter_cons,List.filter_cons];cases h2 with
  |head=>simp only[h3,h4,aN];simp;omega
  |tail _ h2=>
   have ih:=filter_lt r (fun a ha=>h1 a (.tail _ ha)) ⟨a,h2,h3,h4⟩
   grind
def HY (n:Nat)(listed:Array Bool):Nat:=((List.range n).filter fun p=>!listed.getD p false).length
theorem dP {listed:Array Bool}{i p:Nat}(h:i<listed.size):(listed.setIfInBounds i true).getD p false=if p=i then true else listed.getD p false:=by
 by_cases e:p=i
 .subst e;simp[h]
 .rw[ai e];exact getD_set_ne false (Ne.symm e)
def yp {n i:Nat}{listed:Array Bool}(hs:listed.size=n)(hi:i<n)(hl:listed.getD i false=false):HY n (listed.setIfInBounds i true)<HY n listed:=by
 refine filter_lt _ (fun a _ ha=>?_) ⟨i,by simpa using hi,by rw[hl];rfl,by rw[dP ae,aw rfl];rfl⟩
 grind [dP]
def Ox {defs:List (Option Nat)}{o:Oper}{i:aG}(hc:C.op defs o=some i)(h1:i.calm=false)(h2:i.isApp=false)(h3:i.cB=false):
  ∃s,(∃p∈o.op.operands.toList,C.src defs p=some s)/\(∀(J:Src->b8) (L:Nat),i.wr J L=cZ (J s).d)/\∀(J:Src->b8) (m:List (Nat×bM)),i.dF Y J m->(J s).ok=true/\((∃l k i o,(J s).d=.ptr l k i o)\/∃l,(J s).d=.it l):=by
 cases ho:o.op with
 |store t p q=>
  simp only[CC.op,ho]at hc;split at hc
  .rename_i a b ha hb;split at hc
   .split at hc
    .obtain rfl:=bg hc;simp[aG.calm]at h1
    .cases hc
   .simp only[aZ]at hc;subst hc;refine⟨a,⟨p,by simp[Op.operands],ha⟩,fun _ _=>rfl,fun J m hob=>⟨hob.1,.inl ?_⟩⟩;have:=hob.2.2.2;cases hd:(J a).d<;>simp only[hd]at this;exact⟨_,_,_,_,rfl⟩
  .cases hc
 |next it b=>
  cases b
  .simp[CC.op,ho]at hc
  .simp only[CC.op,ho,cW]at hc;obtain⟨s,hs,rfl⟩:=hc;refine⟨s,⟨it,by simp[Op.operands],hs⟩,fun _ _=>rfl,fun J m hob=>⟨hob.1,.inr ?_⟩⟩;have:=hob.2;cases hd:(J s).d<;>simp only[hd]at this;exact⟨_,rfl⟩
 |call c=>
  obtain⟨callee,args,argTypes⟩:=c;cases callee with
  |builtin bu=>
   cases bu with
   |len=>simp only[CC.op,ho]at hc;(repeat' split at hc)<;>simp only[aZ,reduceCtorEq]at hc<;>subst hc<;>simp[aG.calm]at h1
   |min=>simp only[CC.op,ho]at hc;(repeat' split at hc)<;>simp only[aZ,reduceCtorEq]at hc<;>subst hc<;>simp[aG.calm]at h1
   |append=>simp only[CC.op,ho]at hc;(repeat' split at hc)<;>simp only[aZ,reduceCtorEq]at hc<;>subst hc<;>simp[aG.isApp]at h2
   |_=>simp[CC.op,ho]at hc
  |value f=>
   cases f with
   |func fid=>
    simp only[CC.op,ho]at hc;split at hc
    .rename_i n ss k1 k2;split at hc
     .simp only[aZ]at hc;subst hc;simp[aG.cB]at h3
     .split at hc
      .split at hc
       .rename_i r rest;simp only[aZ]at hc;subst hc;have hr:∃p∈args.toList,C.src defs p=some r:=by
         cases hal:args.toList with
         |nil=>rw[hal]at k2;simp[CC.qn]at k2
         |cons q qs=>
          rw[hal]at k2;simp only[CC.qn]at k2;split at k2
          .rename_i e1 e2;simp only[aZ,sE]at k2;obtain⟨rfl,_⟩:=k2;exact⟨q,bh,e1⟩
          .cases k2
        obtain⟨p,hp1,hp2⟩:=hr;refine⟨r,⟨p,by simp only[Op.operands,Call.operands];simp at hp1⊢;exact .inr hp1,hp2⟩,fun _ _=>rfl,fun J m hob=>⟨hob.1,.inl ?_⟩⟩;have:=hob.2.2.2;cases hd:(J r).d<;>simp only[hd]at this;exact⟨_,_,_,_,rfl⟩
       .cases hc
      .simp only[aZ]at hc;subst hc;simp[aG.calm]at h1
    .cases hc
   |tmp t=>simp only[CC.op,ho]at hc;(repeat' split at hc)<;>simp only[aZ,reduceCtorEq]at hc<;>subst hc<;>first|(simp[aG.calm]at h1;done)|(simp[aG.cB]at h3;done)
   |_=>simp[CC.op,ho]at hc
  |invoke r n=>simp only[CC.op,ho]at hc;(repeat' split at hc)<;>(try simp only[cW,reduceCtorEq]at hc)<;>first|(obtain⟨_,_,rfl⟩:=hc;simp[aG.calm]at h1;done)|exact hc.elim|cases hc
 |typeAssert p xt t ok=>cases ok<;>simp only[CC.op,ho]at hc<;>(try(repeat' split at hc))<;>(try simp only[aZ,reduceCtorEq]at hc)<;>first|(subst hc;simp[aG.calm]at h1;done)|exact hc.elim|cases hc
 |lookup t p q ok=>
  cases ok with
  |true=>simp[CC.op,ho]at hc
  |false=>simp only[CC.op,ho]at hc;(repeat' split at hc)<;>simp only[aZ,reduceCtorEq]at hc;subst hc;simp[aG.calm]at h1
 |makeFunc fn fst caps=>cases fn<;>simp only[CC.op,ho]at hc<;>(repeat' split at hc)<;>(try simp only[aZ,reduceCtorEq]at hc)<;>first
  |(subst hc;simp[aG.calm]at h1)
  |exact hc.elim
  |(simp only[cW]at hc;obtain⟨_,_,rfl⟩:=hc;simp[aG.calm]at h1)
 |_=>
  simp only[CC.op,ho]at hc
  (try cases hc)<;>(repeat' split at hc)<;>(try simp only[aZ,reduceCtorEq,cW]at hc)<;>first
    |(subst hc;simp[aG.calm]at h1;done)
    |(subst hc;simp[aG.cB]at h3;done)
    |(obtain⟨s,hs,rfl⟩:=hc;simp[aG.calm]at h1;done)
    |exact hc.elim
    |cases hc
structure FE (C:CC)(ops:Array Oper)(l:List GI)(bs:List Nat)(env:List b8)(nx:Nat)(VS:List b8)(M:Nat->List (Nat×bM))(x0:X)(listed:Array Bool)(a:Act)(x:X)(f:Nat->Option bM)(c:Nat):Prop where
 Ki:nP C env (ops.toList.map (·.dst)) VS (fun p=>listed.getD p false=true) a x
 step:Step x0 x
 lv:eG C.ν x f
 size:listed.size=ops.size
 closed:∀j,listed.getD j false=true->∀p,(bs.getD j 0).testBit p=true->listed.getD p false=true
 β:∀l',nx<=l'->(∀p,listed.getD p false=true->l'≠nx+p)->x.β l'=none
 nc:∀(p:Nat) (g:GI),l[p]? =some g->g.i.calm=false->(listed.getD p false=true↔p<c)
 mem:∀l',x.β l'≠none->f l'=look (M (max c (l'+1-nx))) l'
 wrβ:∀(q:Nat) (g:GI),l[q]? =some g->g.i.calm=false->g.i.isApp=false->listed.getD q false=true->∀l'∈g.i.wr (Src.ev env (VS.take q)) (nx+q),x.β l'≠none
section
variable {ops:Array Oper} {l:List GI} {bs:List Nat} {env:List b8} {nx:Nat} {VS:List b8} {M:Nat->List (Nat×bM)} {x0:X} {listed:Array Bool} {a:Act} {x:X} {f:Nat->Option bM} {c:Nat}
def oT (hs:listed.size=ops.size){p:Nat}(h:listed.getD p false=true):p<ops.size:=by
 grind
def FE.fin (h:FE C ops l bs env nx VS M x0 listed a x f c)(hsp:Spec C ops.toList l)(tr:Trace Y l env nx VS M)(hall:∀p,p<ops.size->listed.getD p false=true):
  nP C env (ops.toList.map (·.dst)) VS (· <ops.size) a x/\Step x0 x/\eG C.ν x (look (M l.length))/\eC ⟨nx+l.length,M l.length⟩ x:=by
 have hlen:l.length=ops.size:=by simpa using hsp.len
 have hβ:∀l',nx+l.length<=l'->x.β l'=none:=fun l' hl'=>h.β l' ae fun p hp=>by have:=oT h.size hp;omega
 refine⟨h.Ki.iff fun p=>⟨fun hp=>hall p hp,fun hp=>oT h.size hp⟩,h.step,h.lv.less fun l'=>?_,hβ,fun l' hl'=>tr.fresh _ _ hl'⟩;by_cases hb:x.β l'=none
 .exact .inr (.inr hb)
 .left;rw[h.mem l' hb];have hlt:l'<nx+l.length:=by
   grind
  refine tr.same fun q g h1 h2 hg hw=>?_
  have hq:q<l.length:=(List.getElem?_eq_some_iff.1 hg).1;cases hc:g.i.calm with
  |true=>
   have:=jS hc hw;omega
  |false=>
   have:=(h.nc q g hg hc).1 (hall q ae);omega
def FE.all (ho:Order ops.toList l bs)(hs:listed.size=ops.size)(hr:Region.ready .any ops listed=[]):∀p,p<ops.size->listed.getD p false=true:=by
 intro p;induction p using Nat.strongRecOn with
 |_ p ih=>
  intro hp;cases hd:listed.getD p false with
  |true=>rfl
  |false=>
   exfalso;have hm:p∈Region.ready .any ops listed:=by
    rw[mem_ready];refine⟨?_,ops[p],by simp[hp],fun e he hb=>?_⟩
    .grind
    .have:=ho.edge p ops[p] (by simp[hp]) e he hb;exact ih e.on this ae
   rw[hr]at hm;cases hm
def w9 (ho:Order ops.toList l bs)(h:FE C ops l bs env nx VS M x0 listed a x f c){i:Nat}{o:Oper}(hi:ops[i]? =some o)(hni:listed.getD i false=false)
  (hed:∀e∈o.after,Region.binds .any e=true->listed.getD e.on false=true) {p:Nat} (hb:nN bs p i) (hne:p≠i):(p<i->listed.getD p false=true)/\(i<=p->¬listed.getD p false=true):=by
 unfold nN at hb;refine⟨fun hlt=>?_,fun hle hp=>?_⟩
 .rw[Nat.max_eq_left ae,Nat.min_eq_right ae]at hb;obtain⟨e,e1,e2,e3⟩:=ho.bef i o (by simpa using hi) p hb;rcases e3 with rfl|e3
  .exact hed e e1 e2
  .exact h.closed _ (hed e e1 e2) p e3
 .rw[Nat.max_eq_right ae,Nat.min_eq_left ae]at hb;have:=h.closed p hp i hb;rw[hni]at this;cases this
def Trace.disU (tr:Trace Y l env nx VS M){i n:Nat}{ag:Bool}{p:Src}{gd:Option (Nat×Bool)}(hi:l[i]? =some ⟨.ldU n ag p,gd⟩)(hf:flag (VS.take i) gd=true){l':Nat}(hl:l'∈cZ (Src.ev env (VS.take i) p).d):
  ∀(j:Nat) (g:GI),i<j->l[j]? =some g->g.i.kN=true->(∀q g,i<q->q<j->l[q]? =some g->g.i.calm=true\/g.i.kN=true)->l'∉g.i.wr (Src.ev env (VS.take j)) (nx+j):=by
 intro j;induction j using Nat.strongRecOn with
 |_ j ih=>
  intro g hij hj hg hbt hw;obtain⟨k1,k2⟩:=tr.dF i _ hi hf;have hne:look (M i) l'≠none:=yG (Y:=Y) (i:=.ldU n ag p) ⟨k1,k2⟩ rfl hl;have hlt:=tr.fresh i l' hne;have hc:look (M j) l'=look (M i) l':=tr.same fun q gq q1 q2 hq hqw=>by
   rw[Nat.min_eq_right ae]at q1;rw[Nat.max_eq_left ae]at q2;rcases cQ i q with h1|h1
   .rcases hbt q gq h1 q2 hq with h2|h2
    .have:=jS h2 hqw;omega
    .exact ih q q2 gq h1 hq h2 (fun q' g' a b c=>hbt q' g' a ae c) hqw
   .obtain rfl:q=i:=ae;rw[hi]at hq;obtain rfl:=bg hq;cases hqw
  obtain⟨gi,gg⟩:=g;cases gi<;>simp only[aG.kN]at hg<;>try cases hg
  rename_i f r args sh;obtain⟨_,_,_,_,h4⟩:=(tr.qD hj).resolve_left (by simp[aG.calm]);cases hd:(Src.ev env (VS.take j) r).d<;>simp only[hd]at h4;rename_i l1 k1' i1 o1;simp only[aG.wr,hd,cZ,bo]at hw;subst hw;cases hdp:(Src.ev env (VS.take i) p).d<;>simp only[hdp]at k2<;>rw[hdp]at hl<;>simp only[cZ,bo,dX]at hl;subst hl;have e1:aW (M j) l'=aW (M i) l':=by simp only[aW,hc]
  rw[e1]at h4;obtain⟨_,_,_,h5,h6,_⟩:=h4
  match hb:aW (M i) l',h5,h6,k2.2 with
  |[d],_,h6,h7=>
   simp only[gW]at h6;simp[aV,h6]at h7
def Trace.disA (tr:Trace Y l env nx VS M){q:Nat}{g:GI}(hq:l[q]? =some g)(hg:g.i.isApp=true){l':Nat}(hw:l'∈g.i.wr (Src.ev env (VS.take q)) (nx+q))(hne:l'≠nx+q):∀k,look (M (q+1+k)) l'=none:=by
 have hc:g.i.calm=false:=by cases g with|mk i gd=>cases i<;>simp_all[aG.isApp,aG.calm]
 obtain⟨_,hob⟩:=(tr.qD hq).resolve_left (by simp[hc]);have hlt:l'<nx+q:=by
  rcases Cq hob hw with e|e
  .exact absurd e hne
  .exact tr.fresh q l' e
 intro k;induction k with
 |zero=>
  rw[Nat.add_zero,tr.step q g hq];obtain⟨gi,gg⟩:=g;obtain⟨k,x,y,rfl⟩:∃k x y,gi=.app k x y:=by
   cases gi<;>first|exact⟨_,_,_,rfl⟩|(simp only[aG.isApp]at hg;cases hg)
  simp only[aG.wr,dx]at hw;have hw:=hw.resolve_left hne;simp only[aG.cC];cases hd:(Src.ev env (VS.take q) x).d<;>rw[hd]at hw<;>simp only[cZ,bo,dX]at hw;all_goals first
   |(subst hw;simp only;rw[c9,ai hne,gu,aw rfl])
   |(exfalso;simp only[aG.dF,hd]at hob;simp at hob)
 |succ k ih=>
  rw[show q+1+(k+1)=q+1+k+1 by omega];cases hg2:l[q+1+k]? with
  |none=>rw[tr.stop _ hg2];exact ih
  |some g2=>
   cases hx:look (M (q+1+k+1)) l' with
   |none=>rfl
   |some b=>
    rw[tr.step _ g2 hg2]at hx;have hco:g2.i.calm=true\/g2.i.dF Y (Src.ev env (VS.take (q+1+k))) (M (q+1+k)):=(tr.qD hg2).imp id (·.2);rcases oO hco (l:=l') (by rw[hx];simp)with e|e
    .exact absurd ih e
    .omega
def NR {i:aG}{J:Src->b8}{L:Nat}(h:i.free=true\/i.qQ=true):i.wr J L=[]:=by
 rcases h with h|h
 .exact K7 h
 .cases i<;>simp_all[aG.qQ,aG.wr]
def RC {i:aG}{J:Src->b8}{m:List (Nat×bM)}{L:Nat}(h:i.free=true\/i.qQ=true):i.cC Y J m L=m:=by
 rcases h with h|h
 .exact Ic h
 .cases i<;>simp_all[aG.qQ,aG.cC]
def NP {i:aG}(h:i.qQ=true):i.calm=true:=by cases i<;>simp_all[aG.qQ,aG.calm]
def NQ {i:aG}(h:i.qQ=true):i.free=false:=by cases i<;>simp_all[aG.qQ,aG.free,aG.pure]
def U_mk {i:aG}(h:i.qQ=true):i.iy=false:=by cases i<;>simp_all[aG.qQ,aG.iy]
def Mz {i:aG}(h:i.qQ=true):∃n ag p,i=.ldU n ag p:=by cases i<;>first|exact⟨_,_,_,rfl⟩|(simp only[aG.qQ]at h;cases h)
def zM (hsp:Spec C ops.toList l)(ho:Order ops.toList l bs)(hnM:∀g∈l,g.i.cB=false)(hΓ:Ok C.P C.ν C.cC Y)(tr:Trace Y l env nx VS M){Q:Exit->Act->World->Prop}
  (hK:∀a' x',nP C env (ops.toList.map (·.dst)) VS (· <ops.size) a' x'->Step x0 x'->eG C.ν x' (look (M l.length))->eC ⟨nx+l.length,M l.length⟩ x'->Q .normal a' x'.w):
  ∀(fuel:Nat) (listed:Array Bool) (a:Act) (x:X) (f:Nat->Option bM) (c:Nat),FE C ops l bs env nx VS M x0 listed a x f c->HY ops.size listed<=fuel->wpAny C.P .any ops Q fuel listed a x.w:=by
 intro fuel;have hlen:l.length=ops.size:=by simpa using hsp.len
 induction fuel with
 |zero=>
  intro listed a x f c h hc;have hall:∀p,p<ops.size->listed.getD p false=true:=by
   intro p hp;have h0:(List.range ops.size).filter (fun p=>!listed.getD p false)=[]:=iO (Nat.le_zero.1 hc);rw[List.filter_eq_nil_iff]at h0;simpa using h0 p (by simpa using hp)
  refine⟨?_, ?_⟩
  .rw[List.eq_nil_iff_forall_not_mem];intro j hj;obtain⟨h1,o,h2,_⟩:=mem_ready.1 hj;have hjl:j<ops.size:=(Array.getElem?_eq_some_iff.1 h2).1;have:=hall j hjl;have hjs:j<listed.size:=by rw[h.size];exact hjl
   simp only[Array.getD,hjs,dif_pos]at h1 this;rw[this]at h1;cases h1
  .obtain⟨q1,q2,q3,q4⟩:=h.fin hsp tr hall;exact hK a x q1 q2 q3 q4
 |succ fuel ih=>
  intro listed a x f c h hc;refine⟨fun hr=>?_,fun i hi=>?_⟩
  .obtain⟨q1,q2,q3,q4⟩:=h.fin hsp tr (FE.all ho h.size hr);exact hK a x q1 q2 q3 q4
  .obtain⟨h1,o,h2,hed⟩:=mem_ready.1 hi;have hil:i<ops.size:=(Array.getElem?_eq_some_iff.1 h2).1;have his:i<listed.size:=by rw[h.size];exact hil
   have hni:listed.getD i false=false:=by simp only[Array.getD,his,dif_pos]at h1⊢;exact h1
   have ho':ops.toList[i]? =some o:=by simpa using h2
   obtain⟨⟨ins,gd⟩,hg1,hg2,hg3⟩:=hsp.op i o ho';simp only at hg2 hg3;have hdst:(ops.toList.map (·.dst))[i]? =some o.dst:=by rw[List.getElem?_map,ho',Option.map_some]
   have hcm:ins.cB=false:=hnM _ (List.mem_of_getElem? hg1);have hreads:∀t p,t∈tmpsOf ops.toList o->(ops.toList.map (·.dst))[p]? =some (some t)->(p<i->listed.getD p false=true)/\(i<=p->¬listed.getD p false=true):=by
    intro t p ht hp;rw[List.getElem?_map,cW]at hp;obtain⟨op,hp1,hp2⟩:=hp;rcases ho.reads i p o op t ho' hp1 hp2 ht with rfl|hb
    .exact⟨fun h=>ae,fun _=>by rw[hni];simp⟩
    .by_cases hpi:p=i
     .subst hpi;exact⟨fun h=>ae,fun _=>by rw[hni];simp⟩
     .exact w9 ho h h2 hni hed hb hpi
   have hρ:pI C ((ops.toList.map (·.dst)).take i) (Src.ev env (VS.take i)) a.eval x o.op.operands.toList:=
    h.Ki.Se fun t p ht hp=>hreads t p (List.mem_append_left _ (List.mem_filterMap.2 ⟨.tmp t,ht,rfl⟩)) hp
   have hcst:∀d,Src.ev env (VS.take i) (.c d)=⟨true,d⟩:=fun _=>rfl
   have hgk:=tr.Ha i _ hg1;obtain⟨hent1,hent2⟩:=tr.ent i _ hg1;have hMs:=tr.step i _ hg1;simp only at hgk hent1 hent2 hMs;have hwant:Region.wanted o (yielded ops a.tmps)=flag (VS.take i) gd:=by
    refine gT (g:=⟨ins,gd⟩) h.Ki hg3 (fun j w hg hji=>?_) (Ii hgk)

    simp only[hg,CC.guard]at hg3;split at hg3
    .rename_i t hj;rw[List.getElem?_take,aw hji]at hj;refine(hreads t j (List.mem_append_right _ ?_) hj).1 hji;rw[List.getElem?_map,cW]at hj;obtain⟨oj,hj1,hj2⟩:=hj;simp[hg,hj1,hj2]
    .cases hg3
   have hput:∀(v:Value) (x':X),Le x x'->((VS.getD i .un).ok=true->RD C.ν x' v (VS.getD i .un).d)->((VS.getD i .un).ok=false->v=undef)->
     nP C env (ops.toList.map (·.dst)) VS (fun p=>(listed.setIfInBounds i true).getD p false=true) (a.put o.dst v) x':=by
    intro v x' hle e1 e2;refine h.Ki.put (i:=i) hle hdst (fun t ht=>⟨(hsp.dst i o t ho' ht).1,fun p hp e'=>hp (hsp.distinct (by rw[hdst,ht]) e')⟩) e1 e2 (fun p=>?_);rw[dP his];by_cases e:p=i
    .simp[e]
    .simp[e]
   have hclosed:∀j,(listed.setIfInBounds i true).getD j false=true->∀p,(bs.getD j 0).testBit p=true->(listed.setIfInBounds i true).getD p false=true:=by
    intro j hj p hp;rw[dP his]at hj⊢;by_cases e:p=i
    .rw[aw e]
    .rw[ai e];by_cases ej:j=i
     .subst ej;obtain⟨e',e1,e2,e3⟩:=ho.bef j o ho' p hp;rcases e3 with rfl|e3
      .exact hed e' e1 e2
      .exact h.closed _ (hed e' e1 e2) p e3
     .rw[ai ej]at hj;exact h.closed j hj p hp
   have hcnt:HY ops.size (listed.setIfInBounds i true)<=fuel:=by have:=yp h.size hil hni;omega
   have hsz:(listed.setIfInBounds i true).size=ops.size:=by simp[h.size]
   have hL:x.β (nx+i)=none:=h.β _ ae fun p hp e=>by
    have:p=i:=ae;subst this;rw[hni]at hp;cases hp
   have hset:∀p,p≠i->((listed.setIfInBounds i true).getD p false=true↔listed.getD p false=true):=fun p hp=>by rw[dP his,ai hp]
   unfold wpOp;simp only[h2,hwant];cases hfg:flag (VS.take i) gd with
   |false=>
    rw[ai bh];have hcalm:ins.calm=true:=by
     cases gd with
     |none=>simp[flag]at hfg
     |some jw=>obtain⟨j,w⟩:=jw;exact hgk.1
    refine ih _ _ x f c ⟨hput undef x (Le.refl x) (fun e=>by rw[hent1,hfg]at e;cases e) (fun _=>rfl),h.step,h.lv,hsz,hclosed,fun l' hl' hp=>h.β l' hl' fun p hp'=>?_,fun p g hp hpc=>?_,h.mem,fun p g hp hpc hpa hpl l' hl'=>?_⟩ hcnt
    .refine hp p ?_;rw[dP his];split
     .rfl
     .exact hp'
    .by_cases e:p=i
     .subst e;rw[hg1]at hp;obtain rfl:=bg hp;rw[hcalm]at hpc;cases hpc
     .rw[hset p e];exact h.nc p g hp hpc
    .by_cases e:p=i
     .subst e;rw[hg1]at hp;obtain rfl:=bg hp;rw[hcalm]at hpc;cases hpc
     .exact h.wrβ p g hp hpc hpa ((hset p e).1 hpl) l' hl'
   |true=>
    rw[aw rfl];left;have hob:=tr.dF i _ hg1 hfg;simp only at hob

    have hf1:eG C.ν x (fun l'=>if x.β l'=none then look (M i) l' else f l'):=h.lv.less fun l'=>by
     by_cases hb:x.β l'=none
     .exact .inr (.inr hb)
     .left;simp[hb]

    have hnear0:ins.free=false->∀q g,l[q]? =some g->g.i.calm=false->(ins.iy=false\/(g.i.isApp=true/\i<q))->q≠i->(q<i↔q<c)\/ExU l g.i ins q i:=by
     intro hpu q g hq hqc hmk hqi;rcases ho.effs q i g ⟨ins,gd⟩ hq hg1 hqc hpu hmk with e|hb|hx
     .exact absurd e.symm hqi
     rotate_left
     .exact .inr hx
     .left;have hb':nN bs q i:=by unfold nN at hb⊢;rwa [Nat.max_comm,Nat.min_comm]
      obtain⟨b1,b2⟩:=w9 ho h h2 hni hed hb' hqi;have hnc:=h.nc q g hq hqc;constructor
      .intro hlt;exact hnc.1 (b1 hlt)
      .intro hlt;rcases cQ q i with h3|h3
       .exact h3
       .exact absurd (hnc.2 hlt) (b2 h3)
    have hnear:ins.qQ=false->ins.free=false->∀q g,l[q]? =some g->g.i.calm=false->(ins.iy=false\/(g.i.isApp=true/\i<q))->q≠i->(q<i↔q<c):=by
     intro hu hpu q g hq hqc hmk hqi;exact(hnear0 hpu q g hq hqc hmk hqi).resolve_right fun hx=>by rw[hx.1]at hu;cases hu
    have hag:ye (fun l'=>if x.β l'=none then look (M i) l' else f l') (M i) (ins.kV (Src.ev env (VS.take i))):=by
     have key:ins.qQ=false->ins.free=false->ins.iy=false->∀l',look (M i) l'≠none->(if x.β l'=none then look (M i) l' else f l')=look (M i) l':=by
      intro hu hpu hmk l' hl';by_cases hb:x.β l'=none
      .rw[aw hb]
      .rw[ai hb,h.mem l' hb];have hlt:=tr.fresh i l' hl';refine tr.same fun q g q1 q2 hq hw=>?_
       by_cases hqi:q=i
       .subst hqi;cases hqc:g.i.calm with
        |true=>have:=jS hqc hw;omega
        |false=>
         have h5:=h.nc q g hq hqc;rw[hni]at h5;have:¬q<c:=fun e=>by cases h5.2 e
         omega
       .cases hqc:g.i.calm with
        |true=>have:=jS hqc hw;omega
        |false=>have:=hnear hu hpu q g hq hqc (.inl hmk) hqi;omega
     have keyU:ins.qQ=true->∀ls,ins.kV (Src.ev env (VS.take i))=some ls->∀l'∈ls,(if x.β l'=none then look (M i) l' else f l')=look (M i) l':=by
      intro hu ls hls l' hl';have hl'':=yG hob hls hl';by_cases hb:x.β l'=none
      .rw[aw hb]
      .rw[ai hb,h.mem l' hb];have hlt:=tr.fresh i l' hl'';have hpu:=NQ hu;have hmk:=U_mk hu;refine tr.same fun q g q1 q2 hq hw=>?_
       by_cases hqi:q=i
       .subst hqi;rw[hg1]at hq;obtain rfl:=bg hq;rw[NR (.inr hu)]at hw;cases hw
       .cases hqc:g.i.calm with
        |true=>have:=jS hqc hw;omega
        |false=>
         rcases hnear0 hpu q g hq hqc (.inl hmk) hqi with h5|⟨_,⟨h5,h6⟩|⟨h5,h6,h7⟩⟩
         .omega
         .have:=tr.disA hq h5 hw ae (i-(q+1));rw[show q+1+(i-(q+1))=i by omega]at this;exact hl'' this
         .obtain⟨_,_,_,rfl⟩:=Mz hu;simp only[aG.kV,aZ]at hls;subst hls;exact tr.disU hg1 hfg hl' q g h6 hq h5 h7 hw
     cases hu:ins.qQ with
     |true=>
      cases htc:ins.kV (Src.ev env (VS.take i))with
      |none=>obtain⟨_,_,_,rfl⟩:=Mz hu;cases htc
      |some ls=>exact keyU hu ls htc
     |false=>
     cases hpu:ins.free with
     |true=>rw[Ie hpu hob];intro l' hl';cases hl'
     |false=>
      cases hmk:ins.iy with
      |true=>rw[Gg hmk];intro l' hl';cases hl'
      |false=>
       cases htc:ins.kV (Src.ev env (VS.take i))with
       |none=>exact key hu hpu hmk
       |some ls=>exact fun l' hl'=>key hu hpu hmk l' (yG hob htc hl')
    refine(yI (L:=nx+i) hg2 hcm hΓ hρ hcst hob hf1 hag hL (by
     show(if x.β (nx+i)=none then look (M i) (nx+i)else f (nx+i))=none;rw[aw hL];cases hx:look (M i) (nx+i)with
     |none=>rfl
     |some b=>have:=tr.fresh i (nx+i) (by rw[hx];simp);omega) (fun _=>rfl)).wp (fun v x' hG=>?_)
    obtain⟨g1,g2,g3,g4⟩:=hG;rw[<-hMs]at g3;refine ih _ _ x' _ (if ins.free=true\/ins.iy=true\/ins.qQ=true then c else i+1) ⟨hput v x' g1.le (fun _=>by rw[<-hent2 hfg];exact g2) (fun e=>by rw[hent1,hfg]at e;cases e),h.step.trans g1,g3,hsz,hclosed,fun l' hl' hp=>?_,fun p g hp hpc=>?_,fun l' hl'=>?_,fun p g hp hpc hpa hpl l' hl'=>?_⟩ hcnt
    .have hne:l'≠nx+i:=hp i (by rw[dP his,aw rfl]);rw[g4 l' hne];refine h.β l' hl' fun p hp'=>hp p ?_
     rw[dP his];split
     .rfl
     .exact hp'
    .by_cases e:p=i
     .subst e;rw[hg1]at hp;obtain rfl:=bg hp;have hpf:¬(ins.free=true\/ins.iy=true\/ins.qQ=true):=by
       rintro(hpu|hpu|hpu)
       .have:=F5 hpu;simp only at hpc;rw[this]at hpc;cases hpc
       .have:=u9 hpu;simp only at hpc;rw[this]at hpc;cases hpc
       .have:=NP hpu;simp only at hpc;rw[this]at hpc;cases hpc
      rw[ai hpf,dP his,aw rfl];simp
     .rw[hset p e];by_cases hpu:ins.free=true\/ins.iy=true\/ins.qQ=true
      .rw[aw hpu];exact h.nc p g hp hpc
      .rw[ai hpu];have hf0:ins.free=false:=by cases hh:ins.free with|false=>rfl|true=>exact absurd (.inl hh) hpu
       have hm0:ins.iy=false:=by cases hh:ins.iy with|false=>rfl|true=>exact absurd (.inr (.inl hh)) hpu
       have hu0:ins.qQ=false:=by cases hh:ins.qQ with|false=>rfl|true=>exact absurd (.inr (.inr hh)) hpu
       have h3:=hnear hu0 hf0 p g hp hpc (.inl hm0) e;have h4:=h.nc p g hp hpc;constructor
       .intro h5;have:=h4.1 h5;omega
       .intro h5;exact h4.2 (h3.1 ae)
    .by_cases hlL:l'=nx+i
     ·
      subst hlL;have hMi:look (M i) (nx+i)=none:=by
       cases hx:look (M i) (nx+i)with
       |none=>rfl
       |some b=>have:=tr.fresh i (nx+i) (by rw[hx];simp);omega
      by_cases hst:ins.free=true\/ins.qQ=true
      .rw[aw (hst.elim .inl fun h=>.inr (.inr h)),NR hst];rw[show iB (fun l'=>if x.β l'=none then look (M i) l' else f l') [] (M (i+1))=(fun l'=>if x.β l'=none then look (M i) l' else f l')from oI];simp only[aw hL];have hM1:M (i+1)=M i:=by rw[hMs];exact RC hst
       have:∀n,look (M (i+1+n)) (nx+i)=none:=by
        intro n;induction n with
        |zero=>rw[Nat.add_zero,hM1];exact hMi
        |succ n ihn=>
         rw[<-Nat.add_assoc];cases hg:l[i+1+n]? with
         |none=>rw[tr.stop _ hg];exact ihn
         |some g=>
          cases hx:look (M (i+1+n+1)) (nx+i)with
          |none=>rfl
          |some b=>
           rw[tr.step _ g hg]at hx;have hco:g.i.calm=true\/g.i.dF Y (Src.ev env (VS.take (i+1+n))) (M (i+1+n)):=(tr.qD hg).imp id (·.2);rcases oO hco (l:=nx+i) (by rw[hx];simp)with e|e
           .exact absurd ihn e
           .omega
       have:=this (max c (nx+i+1-nx) -(i+1));rw[show i+1+(max c (nx+i+1-nx) -(i+1))=max c (nx+i+1-nx)by omega]at this;rw[this];exact hMi
      .have hpu:ins.free=false:=by cases hh:ins.free with|false=>rfl|true=>exact absurd (.inl hh) hst
       have hu:ins.qQ=false:=by cases hh:ins.qQ with|false=>rfl|true=>exact absurd (.inr hh) hst
       have e0:iB (fun l'=>if x.β l'=none then look (M i) l' else f l') (ins.wr (Src.ev env (VS.take i)) (nx+i)) (M (i+1)) (nx+i)=look (M (i+1)) (nx+i):=by
        simp only[iB];split
        .rfl
        .rename_i hw;rw[hMs,rJ hw]
       rw[e0];cases hmk:ins.iy with
       |false=>rw[ai (by simp[hpu,hu]),show max (i+1) (nx+i+1-nx)=i+1 by omega]
       |true=>
        rw[aw (.inr (.inl rfl))];refine tr.same fun q g q1 q2 hq hqw=>?_
        cases hqc:g.i.calm with
        |true=>have:=jS hqc hqw;omega
        |false=>
         cases hqa:g.i.isApp with
         |true=>have:=hnear hu hpu q g hq hqc (.inr ⟨hqa,ae⟩) ae;omega
         |false=>exact h.wrβ q g hq hqc hqa ((h.nc q g hq hqc).2 ae) _ hqw hL
     .rw[g4 l' hlL]at hl';by_cases hst:ins.free=true\/ins.qQ=true
      .rw[aw (hst.elim .inl fun h=>.inr (.inr h)),NR hst];rw[show iB (fun l'=>if x.β l'=none then look (M i) l' else f l') [] (M (i+1))=(fun l'=>if x.β l'=none then look (M i) l' else f l')from oI];simp only[ai hl'];exact h.mem l' hl'
      .have hpu:ins.free=false:=by cases hh:ins.free with|false=>rfl|true=>exact absurd (.inl hh) hst
       have hu:ins.qQ=false:=by cases hh:ins.qQ with|false=>rfl|true=>exact absurd (.inr hh) hst
       cases hmk:ins.iy with
       |true=>
        rw[aw (.inr (.inl rfl))];have hw:l'∉ins.wr (Src.ev env (VS.take i)) (nx+i):=fun hw=>hlL (jS (u9 hmk) hw)
        simp only[iB,ai hw,ai hl'];exact h.mem l' hl'
       |false=>
       rw[ai (by simp[hpu,hu])];simp only[iB];split
       .rename_i hw;rcases Cq hob hw with e|e
        .exact absurd e hlL
        .have:=tr.fresh i l' e;rw[show max (i+1) (l'+1-nx)=i+1 by omega]
       .rename_i hw;rw[h.mem l' hl'];refine tr.same fun q g q1 q2 hq hqw=>?_
        by_cases hqi:q=i
        .subst hqi;rw[hg1]at hq;obtain rfl:=bg hq;exact hw hqw
        .cases hqc:g.i.calm with
         |true=>have:=jS hqc hqw;omega
         |false=>have:=hnear hu hpu q g hq hqc (.inl hmk) hqi;omega
    .by_cases e:p=i
     .subst e;rw[hg1]at hp;obtain rfl:=bg hp;rcases hg2 with hg2|⟨n',ag',s',rfl,_⟩|⟨k',y',rfl,_⟩|⟨k',z',n',ps',rfl,_⟩|⟨n',ag',s',rfl,_⟩
      .obtain⟨s,⟨q,hq1,hq2⟩,hs2,hs3⟩:=Ox (Y:=Y) hg2 hpc hpa hcm;rw[hs2]at hl';obtain⟨hok,hd⟩:=hs3 _ _ hob;have hrd:=hρ q hq1 s hq2 hok;generalize a.eval q=vq at hrd;rcases hd with⟨l1,k1,i1,o1,hd⟩|⟨l1,hd⟩
       .rw[hd]at hrd hl';simp only[cZ,bo]at hl';subst hl';cases hrd with
        |ptr _ _ _ _ b base tot at_ hβ hat=>rw[g1.β _ _ hβ];simp
       .rw[hd]at hrd hl';simp only[cZ,bo]at hl';subst hl';cases hrd with
        |it _ b base tot hβ=>rw[g1.β _ _ hβ];simp
      .cases hpc
      .cases hpc
      .cases hpc
      .cases hpc
     .have h7:=h.wrβ p g hp hpc hpa ((hset p e).1 hpl) l' hl';cases hb:x.β l' with
      |none=>exact absurd hb h7
      |some y=>rw[g1.β _ _ hb];simp
end
section
variable {ops:Array Oper} {l:List GI} {bs:List Nat}
def uU (P:Program)(ops:Array Oper)(n:Nat)(Q:Exit->Act->World->Prop):Exit->Act->World->Prop:=fun e a w=>match e with
 | .normal=>wpOp P ops Q n (fun a w=>Q .normal a w) a w
 |e=>Q e a w
def J2 {P:Program}{n i:Nat}(hsz:ops.size=n+1)(hi:i<n)(hg:∀o,ops[i]? =some o->∀j w,o.guard=some (j,w)->j<n){Q:Exit->Act->World->Prop}{K:Act->World->Prop}{a:Act}{w:World}
  (h:wpOp P ops.pop (uU P ops n Q) i K a w):wpOp P ops Q i K a w:=by
 have hp:∀j,j<n->ops.pop[j]? =ops[j]? :=fun j hj=>by rw[Array.getElem?_pop,aw ae]
 unfold wpOp at h⊢;rw[hp i hi]at h;cases ho:ops[i]? with
 |none=>rw[ho]at h;exact h
 |some o=>
  rw[ho]at h;simp only at h⊢;have hw:Region.wanted o (yielded ops.pop a.tmps)=Region.wanted o (yielded ops a.tmps):=by
   unfold Region.wanted;cases hgd:o.guard with
   |none=>rfl
   |some jw=>obtain⟨j,b⟩:=jw;simp only[yielded,hp j (hg o ho j b hgd)]
  rw[hw]at h;split
  .rename_i hw2;rw[aw hw2]at h;refine h.imp (fun h=>?_) (fun h=>⟨h.1,h.2⟩);unfold Oper.wp at h⊢;generalize (execOp a.eval o).run P w=r at h⊢;cases r with
   |ok nx w'=>cases nx<;>exact h
   |halt x w'=>cases x<;>exact h
  .rename_i hw2;rw[ai hw2]at h;exact h
def HD {P:Program}{n:Nat}(hsz:ops.size=n+1)(ho:Order ops.toList l bs)(hfull:∀p,p<n->(bs.getD n 0).testBit p=true)(hg:∀(i:Nat)(o:Oper),ops[i]? =some o->∀j w,o.guard=some (j,w)->j<i){Q:Exit->Act->World->Prop}:
  ∀(fuel:Nat) (listed:Array Bool) (a:Act) (w:World),listed.size=n+1->listed.getD n false=false->(∀j,listed.getD j false=true->∀p,(bs.getD j 0).testBit p=true->listed.getD p false=true)->
   wpAny P .any ops.pop (uU P ops n Q) fuel listed.pop a w->wpAny P .any ops Q (fuel+1) listed a w:=by
 have hp:∀j,j<n->ops.pop[j]? =ops[j]? :=fun j hj=>by rw[Array.getElem?_pop,aw ae]
 have hlp:∀(listed:Array Bool),listed.size=n+1->∀j d,j<n->listed.pop.getD j d=listed.getD j d:=fun listed hl j d hj=>by
  simp only[Array.getD_eq_getD_getElem?,Array.getElem?_pop,aw (show j<listed.size-1 by omega)]

 have hrd:∀(listed:Array Bool),listed.size=n+1->∀i,i<n->(i∈Region.ready .any ops listed↔i∈Region.ready .any ops.pop listed.pop):=by
  intro listed hl i hi;rw[mem_ready,mem_ready,hp i hi,hlp listed hl i true hi];refine and_congr_right fun _=>exists_congr fun o=>and_congr_right fun ho'=>forall_congr' fun e=>imp_congr_right fun he=>imp_congr_right fun hb=>?_
  have:=ho.edge i o (by simpa using ho') e he hb;rw[hlp listed hl e.on false ae]
 have hlast:∀(listed:Array Bool),listed.size=n+1->(∀j,listed.getD j false=true->∀p,(bs.getD j 0).testBit p=true->listed.getD p false=true)->n∈Region.ready .any ops listed->∀p,p<n->listed.getD p false=true:=by
  intro listed hl hcl hn p hpn;obtain⟨_,o,ho',hed⟩:=mem_ready.1 hn;obtain⟨e,e1,e2,e3⟩:=ho.bef n o (by simpa using ho') p (hfull p hpn);rcases e3 with rfl|e3
  .exact hed e e1 e2
  .exact hcl _ (hed e e1 e2) p e3
 have hdone:∀(fuel:Nat) (listed:Array Bool) (a:Act) (w:World),listed.size=n+1->(∀p,p<n+1->listed.getD p false=true)->Q .normal a w->wpAny P .any ops Q fuel listed a w:=by
  intro fuel listed a w hl hall hq;have hr:Region.ready .any ops listed=[]:=by
   rw[List.eq_nil_iff_forall_not_mem];intro j hj;obtain⟨h1,o,h2,_⟩:=mem_ready.1 hj;have hjl:j<n+1:=by have:=(Array.getElem?_eq_some_iff.1 h2).1;omega
   have h3:=hall j hjl;have hjs:j<listed.size:=ae;simp only[Array.getD,hjs,dif_pos]at h1 h3;rw[h3]at h1;cases h1
  cases fuel with
  |zero=>exact⟨hr,hq⟩
  |succ fuel=>exact⟨fun _=>hq,fun i hi=>by rw[hr]at hi;cases hi⟩
 have hrest:∀(fuel:Nat) (listed:Array Bool) (a:Act) (w:World),listed.size=n+1->listed.getD n false=false->(∀j,listed.getD j false=true->∀p,(bs.getD j 0).testBit p=true->listed.getD p false=true)->n∈Region.ready .any ops listed->
   uU P ops n Q .normal a w->wpOp P ops Q n (wpAny P .any ops Q fuel (listed.setIfInBounds n true)) a w:=by
  intro fuel listed a w hl hn hcl hr hq;refine wpOp_mono (fun a w hq=>hdone fuel _ a w (by simp[hl]) (fun p hp'=>?_) hq) hq;rw[dP ae];split
  .rfl
  .exact hlast listed hl hcl hr p ae

 have hend:∀(listed:Array Bool),listed.size=n+1->listed.getD n false=false->Region.ready .any ops.pop listed.pop=[]->n∈Region.ready .any ops listed:=by
  intro listed hl hn hr;have hall:∀p,p<n->listed.getD p false=true:=by
   intro p;induction p using Nat.strongRecOn with
   |_ p ih=>
    intro hpn;cases hd:listed.getD p false with
    |true=>rfl
    |false=>
     exfalso;have hm:p∈Region.ready .any ops listed:=by
      rw[mem_ready];refine⟨?_,ops[p],by simp[show p<ops.size by omega],fun e he hb=>?_⟩
      .have:p<listed.size:=ae;simp only[Array.getD,this,dif_pos]at hd⊢;exact hd
      .have:=ho.edge p ops[p] (by simp[show p<ops.size by omega]) e he hb;exact ih e.on this ae
     rw[hrd listed hl p hpn,hr]at hm;cases hm
  rw[mem_ready];refine⟨?_,ops[n],by simp[hsz],fun e he hb=>hall _ (ho.edge n ops[n] (by simp[hsz]) e he hb)⟩;have:n<listed.size:=ae;simp only[Array.getD,this,dif_pos]at hn⊢;exact hn
 intro fuel;induction fuel with
 |zero=>
  intro listed a w hl hn hcl h;obtain⟨h1,h2⟩:=h;refine⟨fun hr=>?_,fun i hi=>?_⟩
  .have:=hend listed hl hn h1;rw[hr]at this;cases this
  .have hin:i=n:=by
    rcases cQ i n with h3|h3
    .rw[hrd listed hl i h3,h1]at hi;cases hi
    .obtain⟨_,o,ho',_⟩:=mem_ready.1 hi;have:=(Array.getElem?_eq_some_iff.1 ho').1;omega
   subst hin;exact hrest 0 listed a w hl hn hcl hi h2
 |succ fuel ih=>
  intro listed a w hl hn hcl h;obtain⟨h1,h2⟩:=h;refine⟨fun hr=>?_,fun i hi=>?_⟩
  .have hr':Region.ready .any ops.pop listed.pop=[]:=by
    rw[List.eq_nil_iff_forall_not_mem];intro j hj;have hjn:j<n:=by
     obtain⟨_,o,ho',_⟩:=mem_ready.1 hj;have:=(Array.getElem?_eq_some_iff.1 ho').1;simp only[Array.size_pop]at this;omega
    rw[<-hrd listed hl j hjn,hr]at hj;cases hj
   have:=hend listed hl hn hr';rw[hr]at this;cases this
  .rcases cQ i n with h3|h3
   .have hi':=(hrd listed hl i h3).1 hi;have h4:=h2 i hi';obtain⟨_,o,ho',hed⟩:=mem_ready.1 hi;refine J2 hsz h3 (fun o' ho2 j b hj=>by have:=hg i o' ho2 j b hj;omega) (wpOp_mono (fun a w hh=>ih (listed.setIfInBounds i true) a w (by simp[hl]) ?_ ?_ ?_) h4)
    .rw[dP ae,ai ae];exact hn
    .intro j hj p hp';rw[dP ae]at hj⊢;by_cases e:p=i
     .rw[aw e]
     .rw[ai e];by_cases ej:j=i
      .subst ej;obtain⟨e',e1,e2,e3⟩:=ho.bef j o (by simpa using ho') p hp';rcases e3 with rfl|e3
       .exact hed e' e1 e2
       .exact hcl _ (hed e' e1 e2) p e3
      .rw[ai ej]at hj;exact hcl j hj p hp'
    .have:(listed.setIfInBounds i true).pop=listed.pop.setIfInBounds i true:=by
      apply Array.ext
      .simp
      .intro q h5 h6;simp only[Array.size_pop,Array.size_setIfInBounds]at h5;rw[Array.getElem_pop,Array.getElem_setIfInBounds,Array.getElem_setIfInBounds,Array.getElem_pop]
       (first|exact(by simpa using h5)|omega)
     rw[this];exact hh
   .have hin:i=n:=by
     obtain⟨_,o,ho',_⟩:=mem_ready.1 hi;have:=(Array.getElem?_eq_some_iff.1 ho').1;omega
    subst hin;have hr':Region.ready .any ops.pop listed.pop=[]:=by
     rw[List.eq_nil_iff_forall_not_mem];intro j hj;obtain⟨hj1,o,ho',_⟩:=mem_ready.1 hj;have hjn:j<i:=by
      have:=(Array.getElem?_eq_some_iff.1 ho').1;simp only[Array.size_pop]at this;omega
     rw[hlp listed hl j true hjn]at hj1;have:=hlast listed hl hcl hi j hjn;have hjs:j<listed.size:=ae;simp only[Array.getD,hjs,dif_pos]at hj1 this;rw[this]at hj1;cases hj1
    exact hrest _ listed a w hl hn hcl hi (h1 hr')
def G4 {P:Program}{n i:Nat}(hsz:ops.size=n+1)(hi:i<n)(hg:∀o,ops[i]? =some o->∀j w,o.guard=some (j,w)->j<n){Q:Exit->Act->World->Prop}{K:Act->World->Prop}{a:Act}{w:World}
  (h:wpOp P ops Q i K a w):wpOp P ops.pop (uU P ops n Q) i K a w:=by
 have hp:∀j,j<n->ops.pop[j]? =ops[j]? :=fun j hj=>by rw[Array.getElem?_pop,aw ae]
 unfold wpOp at h⊢;rw[hp i hi];cases ho:ops[i]? with
 |none=>rw[ho]at h;exact h
 |some o=>
  rw[ho]at h;simp only at h⊢;have hw:Region.wanted o (yielded ops.pop a.tmps)=Region.wanted o (yielded ops a.tmps):=by
   unfold Region.wanted;cases hgd:o.guard with
   |none=>rfl
   |some jw=>obtain⟨j,b⟩:=jw;simp only[yielded,hp j (hg o ho j b hgd)]
  rw[hw];split
  .rename_i hw2;rw[aw hw2]at h;refine h.imp (fun h=>?_) (fun h=>⟨h.1,h.2⟩);unfold Oper.wp at h⊢;generalize (execOp a.eval o).run P w=r at h⊢;cases r with
   |ok nx w'=>cases nx<;>exact h
   |halt x w'=>cases x<;>exact h
  .rename_i hw2;rw[ai hw2]at h;exact h
def x9 {P:Program}{n:Nat}(hsz:ops.size=n+1)(hg:∀(i:Nat)(o:Oper),ops[i]? =some o->∀j w,o.guard=some (j,w)->j<i){Q:Exit->Act->World->Prop}:
  ∀(t k:Nat) (a:Act) (w:World),k+t=n->wpOps P ops Q (List.range' k (t+1)) a w->wpOps P ops.pop (uU P ops n Q) (List.range' k t) a w
 |0,k,a,w,hk,h=>by
  obtain rfl:k=n:=ae;rw[List.range'_succ,wpOps_cons]at h;exact h
 |t+1,k,a,w,hk,h=>by
  rw[List.range'_succ,wpOps_cons]at h⊢;exact G4 hsz ae (fun o ho j b hj=>by have:=hg k o ho j b hj;omega) (wpOp_mono (fun a w h=>x9 hsz hg t (k+1) a w ae h) h)
def x7 (N:Act->World->Prop)(Q:Exit->Act->World->Prop):Exit->Act->World->Prop:=fun e a w=>match e with
 | .normal=>N a w
 |e=>Q e a w
def B5 (P:Program)(ops:Array Oper)(n t:Nat)(Q:Exit->Act->World->Prop):Exit->Act->World->Prop:=x7 (wpOps P ops Q (List.range' n t)) Q
def Mg {P:Program}{i:Nat}{N N':Act->World->Prop}{Q:Exit->Act->World->Prop}{K:Act->World->Prop}{a:Act}{w:World}(h:wpOp P ops (x7 N Q) i K a w):wpOp P ops (x7 N' Q) i K a w:=by
 unfold wpOp at h⊢;split at h
 .exact h
 .rename_i o ho;split at h
  .rename_i hw;rw[aw hw];refine h.imp (fun h=>?_) (fun h=>⟨h.1,h.2⟩);unfold Oper.wp at h⊢;generalize (execOp a.eval o).run P w=r at h⊢;cases r with
   |ok nx w'=>cases nx<;>exact h
   |halt x w'=>cases x<;>exact h
  .rename_i hw;rw[ai hw];exact h
def Bg {P:Program}{N N':Act->World->Prop}{Q:Exit->Act->World->Prop}(hn:∀a w,N a w->N' a w):
  ∀(fuel:Nat) (listed:Array Bool) (a:Act) (w:World),wpAny P .any ops (x7 N Q) fuel listed a w->wpAny P .any ops (x7 N' Q) fuel listed a w
 |0,_,_,_,h=>⟨h.1,hn _ _ h.2⟩
 |fuel+1,_,_,_,h=>⟨fun hr=>hn _ _ (h.1 hr),fun i hi=>Mg (wpOp_mono (fun _ _ h=>Bg hn fuel _ _ _ h) (h.2 i hi))⟩
def w8 {P:Program}:∀(t:Nat){ops:Array Oper}{l:List GI}{n:Nat}{Q:Exit->Act->World->Prop},ops.size=n+t->l.length=n+t->Order ops.toList l bs->(∀q,q<t->∀p,p<n+q->(bs.getD (n+q) 0).testBit p=true)->
  (∀(i:Nat) (o:Oper),ops[i]? =some o->∀j w,o.guard=some (j,w)->j<i)->∀(a:Act) (w:World),wpAny P .any (ops.extract 0 n) (B5 P ops n t Q) n (Array.replicate n false) a w->wpAny P .any ops Q (n+t) (Array.replicate (n+t) false) a w
 |0,ops,l,n,Q,hsz,_,_,_,_,a,w,h=>by
  rw[show ops.extract 0 n=ops by rw[show n=ops.size by omega];simp]at h;rw[show B5 P ops n 0 Q=Q by funext e a w;cases e<;>rfl]at h;exact h
 |t+1,ops,l,n,Q,hsz,hll,ho,hfull,hg,a,w,h=>by
  obtain⟨o,ho1⟩:∃o,ops[n+t]? =some o:=⟨ops[n+t],by simp[show n+t<ops.size by omega]⟩
  have hops:ops.toList=ops.pop.toList++[o]:=by
   apply List.ext_getElem?;intro q;rw[Array.toList_pop,List.dropLast_eq_take];rcases Nat.lt_trichotomy q (n+t)with h1|h1|h1
   .rw[List.getElem?_append_left eo,List.getElem?_take,aw eo]
   .subst h1;rw[List.getElem?_append_right eo];simp only[fo,Array.length_toList];rw[show n+t-min (ops.size-1) ops.size=0 by omega];simpa using ho1
   .rw[List.getElem?_eq_none eo,List.getElem?_eq_none eo]
  obtain⟨l',g,rfl⟩:∃l' g,l=l'++[g]:=by
   rcases List.eq_nil_or_concat l with rfl|⟨l',g,rfl⟩
   .simp at hll
   .exact⟨l',g,bh⟩
  have ho':Order ops.pop.toList l' bs:=Order.pre (os:=[o]) (ls:=[g]) (by rw[<-hops];exact ho);have hgp:∀(i:Nat) (o:Oper),ops.pop[i]? =some o->∀j w,o.guard=some (j,w)->j<i:=fun i o hi=>by
   rw[Array.getElem?_pop]at hi;split at hi
   .exact hg i o hi
   .cases hi
  have hno:∀(k p:Nat),¬(Array.replicate k false).getD p false=true:=fun k p=>by
   simp[Array.getElem?_replicate];split<;>simp
  refine HD (n:=n+t) hsz ho (hfull t ae) hg (n+t) _ a w eo (by simp[Array.getElem?_replicate]) (fun j hj=>absurd hj (hno _ j)) ?_;rw[show(Array.replicate (n+(t+1)) false).pop=Array.replicate (n+t) false by
   apply Array.ext
   .simp
   .intro q h5 h6;simp]
  refine w8 t (ops:=ops.pop) (l:=l') eo (by simp at hll;omega) ho' (fun q hq=>hfull q ae) hgp a w ?_;rw[show ops.pop.extract 0 n=ops.extract 0 n by
   apply Array.ext
   .simp;omega
   .intro q h5 h6;simp]
  rw[show B5 P ops.pop n t (uU P ops (n+t) Q)=x7 (wpOps P ops.pop (uU P ops (n+t) Q) (List.range' n t)) Q by funext e a w;cases e<;>rfl];exact Bg (fun a w h=>x9 hsz hg t n a w rfl h) _ _ _ _ h
end
end
end
end Go.Abs
