/- A part of the proofs. -/
import Derived.Lib.SliceRun
import Derived.Orders
import Derived.WalkSpells
import Derived.Test.YtdhangmdmdegpaaGreatDoorP02
set_option linter.all false
set_option maxRecDepth 60000
set_option maxHeartbeats 2000000
namespace Go.Abs
variable{defs DD:Ζ}{K:Φ->St->Prop}{env vs VS:Φ}{l r:Υ}{sh:Ι}{x:X}{g:Ν}{args:Array Operand}{ν:Ξ}{st:St}{n k fid:Nat}{tys:Array TypeId}{Q:Ρ}{f:Nat->Χ}{a:Act}{P:Program}{draw:Bool}(bs:Ε){d:D}
section
variable [cO]
def jU (P:Program)(x:X)(G:Value->X->Prop)(r:Result Next):Prop:=
 (∃v x',(r=.ok (.value v) x'.w\/r=.ok .skip x'.w/\v=undef)/\G v x')\/
 (∃f args,r=.ok (.enter f args) x.w/\Calls P f args x.w fun
   | .returned v,w'=>∃x',x'.w=w'/\G v x'
   |_,_=>False)
theorem jU.mono {P:Program}{x:X}{G G':Value->X->Prop}{r:Result Next}(h:jU P x G r)(hg:∀v x',G v x'->G' v x'):jU P x G' r:=by
 rcases h with⟨v,x',h1,h2⟩|⟨f,args,h1,h2⟩
 .exact .inl ⟨v,x',h1,hg _ _ h2⟩
 .refine .inr ⟨f,args,h1,Calls.mono h2 λe w' he=>?_⟩
  grind
theorem jU.wp {P:Program}{x:X}{G:Value->X->Prop}{o:Oper}{a:Act}{next:Lag}{Q:Ρ}
  (h:jU P x G ((execOp a.eval o).run P x.w)) (hn:∀v x',G v x'->next (a.put o.dst v) x'.w):o.wp P a x.w next Q:=by
 unfold Oper.wp;rcases h with⟨v,x',h1|⟨h1,h3⟩,h2⟩|⟨f,args,h1,h2⟩
 .rw[h1];exact hn v x' h2
 .rw[h1];subst h3;exact hn _ x' h2
 .rw[h1,Oper.upon_enter];refine Calls.mono h2 λe w' he=>?_
  grind
structure oa (x x':X):Prop where
 grow:iE x.w x'.w
 I:∀b,x.I b->x'.I b
 newI:∀b,x'.I b->x.I b\/x.w.heap.size<=b
 imm:∀b,x'.I b->b<x'.w.heap.size
 β:x'.β=x.β
structure fE (st:St)(x:X):Prop where
 β:∀l,st.nx<=l->x.β l=none
 m:∀l,look st.m l≠none->l<st.nx
structure Ok (P:Program)(ν:Ξ)(bS:Ε)(Y:Ctx):Prop where
 small:∀fid n,dV ν fid=some n->n<1000000
 bld:∀t,bS.contains (1000000000+t)=true->t=cO.tB
 glz:∀g,bS.contains (500000000+g)=true/\g<400000000->cO.gz g
 pure:∀fid n,dV ν fid=some n->∀(x:X) (args:Κ) (ds:Θ),args.size=ds.length->(∀i,i<ds.length->RD ν x (args.getD i undef) (ds.getD i .any))->aP ds=true->
  (∀b,x.I b->b<x.w.heap.size)->cO.gd x->Y.pre n ds->jU P x (λv x'=>oa x x'/\RD ν x' v (Y.val n ds)) ((callFunc fid args).run P x.w)
 effF:∀fid n,dV ν fid=some n->bS.contains (2*n+1)=true->∀(x:X) (f:Nat->Χ) (args:Κ) (l k:Nat) (d:D) (ds:Θ),args.size=ds.length+1->RD ν x (args.getD 0 undef) (.ptr l k 0 0)->
  (∀i,i<ds.length->RD ν x (args.getD (i+1) undef) (ds.getD i .any))->fO ν x f->f l=some (.buf k [d])->d.aV=true->aP ds=true->Y.fp n d ds->
  jU P x (λv x'=>Step x x'/\RD ν x' v (Y.fv n d ds)/\fO ν x' (λl'=>if l'=l then some (.buf k [Y.fs n d ds])else f l')/\x'.β=x.β) ((callFunc fid args).run P x.w)
 bS:∀fid n,dV ν fid=some n->∀(x:X) (args:Κ) (ds:Θ) (st:St) (K:Τ),args.size=ds.length->(∀i,i<ds.length->RD ν x (args.getD i undef) (ds.getD i .any))->
  fO ν x (look st.m)->fE st x->Y.tr n ds st K->jU P x (λv x'=>∃d st',K d st'/\Step x x'/\RD ν x' v d/\fO ν x' (look st'.m)/\fE st' x') ((callFunc fid args).run P x.w)
section
variable {C:CC}{J:Src->a7}{ev:Operand->Value}{Y:Ctx}{m:Γ}{L:Nat}
def oa.step {x':X}(h:oa x x')(himm:∀b,x.I b->b<x.w.heap.size):Step x x':=
 ⟨h.grow.os,h.grow.tape,h.grow.output,h.grow.size,h.I,λb hb=>h.grow.old b (himm b hb),λl p hp=>by rw[h.β];exact hp,λb hb _=>h.grow.old b hb,λb hb=>(h.newI b hb).imp id .inl,λl p hp=>.inl (by rw[h.β]at hp;exact hp)⟩
def oa.o9 {x':X}(h:oa x x')(hs:fO ν x f):fO ν x' f:=by
 have hst:=h.step hs.imm;refine⟨λl blk b base tot e1 e2=>?_,λl1 l2 b base tot base' tot' e1 e2 e3 e4=>?_,h.imm,λl b base tot e=>?_,rQ hst.le hs.gd⟩
 .rw[h.β]at e2;obtain⟨a1,a2⟩:=hs.own l blk b base tot e1 e2;have hb:=hs.er l b base tot e2;refine⟨λhI=>?_,a2.mono hst.le (h.grow.old b hb)⟩;rcases h.newI b hI with h1|h1
  .exact a1 h1
  .omega
 .rw[h.β]at e3 e4;exact hs.inj l1 l2 b base tot base' tot' e1 e2 e3 e4
 .rw[h.β]at e;exact js (hs.er l b base tot e) h.grow.size
mutual
theorem aah (m m':Γ):∀(s:Sh) (d:D),d.aV=true->k9 m s d=k9 m' s d/\iD m s d
 | .a,d,h=>by cases d<;>simp_all[k9,iD,D.aV]
 | .sl k cs,d,h=>by cases d<;>simp_all[k9,iD,D.aV]
 | .pt cs,d,h=>by cases d<;>simp_all[k9,iD,D.aV]
 | .kp cs,d,h=>by cases d<;>simp_all[k9,iD,D.aV]
theorem aai (m m':Γ):∀(ss:ζ) (ds:Θ),aP ds=true->nL m ss ds=nL m' ss ds/\kH m ss ds
 |[],ds,h=>by simp[nL,kH,h]
 |s::r,[],h=>by simp[nL,kH]
 |s::r,d::ds,h=>by
  simp only[aP,aD]at h;obtain⟨a1,a2⟩:=aah m m' s d h.1;obtain⟨b1,b2⟩:=aai m m' r ds h.2;simp only[nL,kH,a1,b1];exact⟨trivial,a2,b2⟩
end
theorem aaj (m m':Γ)(ss:ζ)(d:D)(h:d.aV=true):jf m ss d=jf m' ss d/\gL m ss d:=by
 cases ss with
 |nil=>simp[jf,gL,h]
 |cons s r=>
  cases d<;>simp only[jf,gL]<;>first
   |exact aah m m' s _ h
   |skip
  grind [aai,D.tR]
theorem DW (m m':Γ):∀(ss:Ι) (ds:Θ),aP ds=true->iJ m ss ds=iJ m' ss ds/\jm m ss ds
 |ss,[],h=>by simp[iJ,jm]
 |[],d::r,h=>by
  simp only[aP,aD]at h;obtain⟨a1,a2⟩:=aaj m m' [.a] d h.1;obtain⟨b1,b2⟩:=DW m m' [] r h.2
  grind [iJ,jm]
 |s::ss,d::r,h=>by
  simp only[aP,aD]at h;obtain⟨a1,a2⟩:=aaj m m' s d h.1;obtain⟨b1,b2⟩:=DW m m' ss r h.2
  grind [iJ,jm]
def Goal (ν:Ξ)(x:X)(f:Nat->Χ)(L:Nat)(d:D)(v:Value)(x':X):Prop:=Step x x'/\RD ν x' v d/\fO ν x' f/\∀l,l≠L->x'.β l=x.β l
def BY.oo {f':Nat->Χ}{r:Result Next}(h:BY ν x f' L d r):jU P x (Goal ν x f' L d) r:=by
 obtain⟨v,x',h1,h2,h3,h4,h5⟩:=h;exact .inl ⟨v,x',h1,h2,h3,h4,h5⟩
def Gf {bS:Ε}(hΓ:Ok P ν bS Y)(hn:dV ν fid=some n){args:Κ}{ds:Θ}(hl:args.size=ds.length)(hargs:∀i,i<ds.length->RD ν x (args.getD i undef) (ds.getD i .any))(hs:fO ν x f)(hag:aP ds=false->∀l,look m l≠none->f l=look m l)(ho:jm m sh ds)(hpre:Y.pre n (iJ m sh ds))(hok:qR ds (Y.val n (iJ m sh ds))=true):jU P x (Goal ν x f L (Y.val n (iJ m sh ds))) ((callFunc fid args).run P x.w):=by
 cases hnl:aP ds with
 |true=>
  obtain⟨e1,_⟩:=DW m [] sh ds hnl;obtain⟨_,e2⟩:=DW [] m sh ds hnl;have hs0:fO ν x (λ_=>none):=hs.less λ_=>.inr (.inl rfl)
  obtain⟨a1,a2,a3⟩:=kq (m:=[]) hs0 (λl h=>by simp[look]at h) sh ds (λj=>args.getD j undef) hargs e2;rw[<-e1]at a1 a2 a3;have hle:Le (x.nG λ_=>none) x:=⟨λb hb=>by
   rcases hb with h|⟨_,_,_,_,h⟩
   .exact h
   .exact absurd rfl h,λ_ _=>rfl,λ_ _ h=>h⟩
  refine(hΓ.pure fid n hn x args _ (by rw[a1,hl]) (λi hi=>(a3 i ae).mono hle) a2 hs.imm hs.gd hpre).mono λv x' h=>?_
  obtain⟨h1,h2⟩:=h;exact⟨h1.step hs.imm,h2,h1.o9 hs,λl _=>by rw[h1.β]⟩
 |false=>
  obtain⟨a1,a2,a3⟩:=kq hs (hag hnl) sh ds (λj=>args.getD j undef) hargs ho;have hmf:(Y.val n (iJ m sh ds)).fG=true:=by simpa[qR,hnl]using hok
  have himm:∀b,(x.nG f).I b->b<x.w.heap.size:=by
   intro b hb;rcases hb with h|⟨l,⟨b',base,tot⟩,h1,h2,h3⟩
   .exact hs.imm b h
   .subst h2;exact hs.er l _ _ _ h1
  have h:=hΓ.pure fid n hn (x.nG f) args _ (by rw[a1,hl]) (λi hi=>a3 i ae) a2 himm (rQ (py x f) hs.gd) hpre;have key:∀v x',(oa (x.nG f) x'/\RD ν x' v (Y.val n (iJ m sh ds)))->Goal ν x f L (Y.val n (iJ m sh ds)) v ⟨x'.w,x.I,x.β⟩:=by
   intro v x' ⟨h1,h2⟩;have hp:oa x ⟨x'.w,x.I,x.β⟩:=⟨h1.grow,λ_ h=>h,λ_ h=>.inl h,λb hb=>js (hs.imm b hb) h1.grow.size,rfl⟩;exact⟨hp.step hs.imm,h2.fG hmf,hp.o9 hs,λ_ _=>rfl⟩
  rcases h with⟨v,x',h1,h2⟩|⟨f',args',h1,h2⟩
  .exact .inl ⟨v,⟨x'.w,x.I,x.β⟩,h1,key v x' h2⟩
  .refine .inr ⟨f',args',h1,Calls.mono h2 λe w' he=>?_⟩;cases e with
   |returned v=>obtain⟨x',e1,e2⟩:=he;exact⟨⟨x'.w,x.I,x.β⟩,e1,key v x' e2⟩
   |panicked c=>exact he
   |outgrown=>exact he
end
end
section
variable [cO]
section
variable {C:CC}{J:Src->a7}{ev:Operand->Value}{Y:Ctx}{m:Γ}{L:Nat}
def xd {m':Γ}:jg f [] m'=f:=by funext l;simp[jg]
def afi {i:aA}(hp:i.pure=true):i.wr J L=[]:=by cases i<;>simp_all[aA.pure,aA.wr]
def TO {args:Θ}{ls:Option (List Nat)}(hls:ls=bif aP args then some []else none)(hag:FA f m ls):aP args=false->∀l,look m l≠none->f l=look m l:=by
 intro h;rw[h]at hls;subst hls;exact hag
theorem ZL {o:Oper}{ss:ς}(hcst:∀d,J (.c d)=⟨true,d⟩)(hΓ:Ok C.P C.ν C.bS Y)(ho:o.op=.call {callee:=.value (.func fid),args,argTypes:=tys})(h1:dV C.ν fid=some n)(h2:C.wP defs args.toList=some ss)(hρ:vS C defs J ev x o.op.operands.toList)(hob:(aA.call n ss sh).eO Y J m)(hs:fO C.ν x f)(hag:FA f m ((aA.call n ss sh).nB J)):
  jU C.P x (Goal C.ν x (jg f ((aA.call n ss sh).wr J L) ((aA.call n ss sh).bS Y J m L)) L ((aA.call n ss sh).val Y J m L)) ((execOp ev o).run C.P x.w):=by
 obtain⟨k1,k2,k3,k4⟩:=hob;have hv:=hρ (.func fid) dE (.c (.fn n [])) (by simp[CC.src,h1]) (by rw[hcst]);rw[hcst]at hv;obtain⟨s1,s2,s3⟩:=iK hρ _ _ (λo' ho'=>Ft) h2 k1;generalize hep:ev (.func fid)=vf at hv;cases hv with
 |er=>exact absurd (hΓ.small _ _ h1) ae
 |bx=>exact absurd (hΓ.small _ _ h1) ae
 |mpn=>exact absurd (hΓ.small _ _ h1) ae
 |fn fid' _ cs _ hν hl _=>
  have hcs:cs=#[]:=by apply Array.ext';simpa using hl
  subst hcs;have hrun:(execOp ev o).run C.P x.w=(callFunc fid' (args.map ev)).run C.P x.w:=by
   simp[execOp,ho,resolve,Deferred.ofValue,invoke,hep]
  rw[hrun];have hwr:(aA.call n ss sh).wr J L=[]:=rfl;rw[hwr,xd];simp only[aA.val];refine Gf hΓ hν (by simp;simpa using s2.symm) (λi hi=>?_) hs (TO rfl hag) k2 k3 k4;have:=s3 i hi
  rwa [<-Array.toList_map,bT]at this
theorem nJ (a b:Κ)(i:Nat):(a++b).getD i undef=if i<a.size then a.getD i undef else b.getD (i-a.size) undef:=by
 rw[<-bT,Array.toList_append,cY]
 grind [bT]
def ZM {o:Oper}{t:Nat}{s:Src}{ss:ς}(hΓ:Ok C.P C.ν C.bS Y)(ho:o.op=.call {callee:=.value (.tmp t),args,argTypes:=tys})(h1:C.src defs (.tmp t)=some s)(h2:C.wP defs args.toList=some ss)(hρ:vS C defs J ev x o.op.operands.toList)(hob:(aA.callv s ss sh).eO Y J m)(hs:fO C.ν x f)(hag:FA f m ((aA.callv s ss sh).nB J)):
  jU C.P x (Goal C.ν x (jg f ((aA.callv s ss sh).wr J L) ((aA.callv s ss sh).bS Y J m L)) L ((aA.callv s ss sh).val Y J m L)) ((execOp ev o).run C.P x.w):=by
 obtain⟨k0,k1,k2⟩:=hob;have hv:=hρ (.tmp t) dE s h1 k0;obtain⟨s1,s2,s3⟩:=iK hρ _ _ (λo' ho'=>Ft) h2 k1;cases hd:(J s).d<;>simp only[hd]at k2;rename_i n caps;obtain⟨k1',k2,k3,k4⟩:=k2;rw[hd]at hv;generalize hep:ev (.tmp t)=vf at hv;cases hv with
 |er _ n'=>exact absurd k1' ae
 |bx=>exact absurd k1' ae
 |mpn=>exact absurd k1' ae
 |im=>exact absurd k1' ae
 |fn fid' _ cs _ hν hl hcs=>
  have hrun:(execOp ev o).run C.P x.w=(callFunc fid' (args.map ev++cs)).run C.P x.w:=by
   simp[execOp,ho,resolve,Deferred.ofValue,invoke,hep]
  rw[hrun];have hwr:(aA.callv s ss sh).wr J L=[]:=rfl;rw[hwr,xd];have Bx:(aA.callv s ss sh).val Y J m L=Y.val n (iJ m sh (iU J ss++caps)):=by simp[aA.val,hd]
  rw[Bx];have hsz:args.size=(iU J ss).length:=by simpa using s2.symm
  refine Gf hΓ hν (by simp[hl,hsz]) (λi hi=>?_) hs (TO (by simp[aA.nB,hd]) hag) k2 k3 k4;rw[nJ,cY];simp only[Array.size_map,hsz];split
  .rename_i hlt;have:=s3 i hlt
   rwa [<-Array.toList_map,bT]at this
  .exact hcs _ (by simp at hi;omega)
theorem Vy {o:Oper}{r:Src}{ss:ς}(hcst:∀d,J (.c d)=⟨true,d⟩)(hΓ:Ok C.P C.ν C.bS Y)(hef:C.bS.contains (2*n+1)=true)(ho:o.op=.call {callee:=.value (.func fid),args,argTypes:=tys})(h1:dV C.ν fid=some n)(h2:C.wP defs args.toList=some (r::ss))(hρ:vS C defs J ev x o.op.operands.toList)(hob:(aA.callF n r ss sh).eO Y J m)(hs:fO C.ν x f)(hag:FA f m ((aA.callF n r ss sh).nB J)):
  jU C.P x (Goal C.ν x (jg f ((aA.callF n r ss sh).wr J L) ((aA.callF n r ss sh).bS Y J m L)) L ((aA.callF n r ss sh).val Y J m L)) ((execOp ev o).run C.P x.w):=by
 obtain⟨k0,k1,k2,k3⟩:=hob;have hv:=hρ (.func fid) dE (.c (.fn n [])) (by simp[CC.src,h1]) (by rw[hcst]);rw[hcst]at hv;obtain⟨s1,s2,s3⟩:=iK hρ _ _ (λo' ho'=>Ft) h2 ⟨k0,k1⟩;cases hd:(J r).d<;>simp only[hd]at k3;rename_i l k i o';obtain⟨rfl,rfl,k4,k5,k6,k7⟩:=k3;generalize hep:ev (.func fid)=vf at hv;cases hv with
 |er=>exact absurd (hΓ.small _ _ h1) ae
 |bx=>exact absurd (hΓ.small _ _ h1) ae
 |mpn=>exact absurd (hΓ.small _ _ h1) ae
 |fn fid' _ cs _ hν hl _=>
  have hcs:cs=#[]:=by apply Array.ext';simpa using hl
  subst hcs;have hrun:(execOp ev o).run C.P x.w=(callFunc fid' (args.map ev)).run C.P x.w:=by
   simp[execOp,ho,resolve,Deferred.ofValue,invoke,hep]
  rw[hrun];have hlk:f l=look m l:=hag l (by simp[hd,cq]);obtain⟨g1,g2,g3⟩:=vU hs hlk k4;have hb1:aK m l=[(aK m l).getD 0 .any]:=by
   match he:aK m l,k5 with
   |[e],_=>rfl
  have hsz:args.size=ss.length+1:=by simpa using s1
  have hdl:(iU J ss).length=ss.length:=by
   have:=s2;simp only[iU,bJ]at this;have h4:=s1;simp only[bJ]at h4;omega
  obtain⟨p1,p2⟩:=DW [] [] sh (iU J ss) k2;have hs0:fO C.ν x (λ_=>none):=hs.less λ_=>.inr (.inl rfl)
  have hget:∀q,(args.map ev).getD q undef=(args.toList.map ev).getD q undef:=λq=>by rw[<-Array.toList_map,bT]
  obtain⟨a1,a2,a3⟩:=kq (m:=[]) hs0 (λl h=>by simp[look]at h) sh (iU J ss) (λj=>(args.map ev).getD (j+1) undef) (λj hj=>by
   have:=s3 (j+1) (by simp only[iU,bJ];omega);rw[hget];simpa[iU]using this) p2
  have hle:Le (x.nG λ_=>none) x:=⟨λb hb=>by
   rcases hb with h|⟨_,_,_,_,h⟩
   .exact h
   .exact absurd rfl h,λ_ _=>rfl,λ_ _ h=>h⟩
  have h0:RD C.ν x ((args.map ev).getD 0 undef) (.ptr l k 0 0):=by
   have:=s3 0 (by simp[iU]);rw[hget];simpa[iU,hd]using this
  rw[hb1]at g1;refine(hΓ.effF fid' n hν hef x f _ l k _ (iJ [] sh (iU J ss)) (by simp[a1,hdl,hsz]) h0 (λi hi=>(a3 i ae).mono hle) hs g1 k6 a2 k7).mono λv x' h=>?_
  obtain⟨q1,q2,q3,q4⟩:=h;refine⟨q1,by simpa only[aA.val,hd]using q2,q3.less λl'=>.inl ?_,λl' _=>by rw[q4]⟩;simp only[jg,aA.wr,hd,cq,aA.bS,aF,bO];by_cases e:l'=l
  .rw[ak e,ak e,ak e]
  .rw[ah e,ah e]
theorem zF {o:Oper}{i:aA}(hc:C.op defs o=some i)(hncm:i.cR=false)(hΓ:Ok C.P C.ν C.bS Y)(hρ:vS C defs J ev x o.op.operands.toList)(hcst:∀d,J (.c d)=⟨true,d⟩)(hob:i.eO Y J m)(hs:fO C.ν x f)(hag:FA f m (i.nB J))(hL:x.β L=none)(hgl:∀g,ev (.global g)=.pointer (some ⟨g,0,none⟩)):
  jU C.P x (Goal C.ν x (jg f (i.wr J L) (i.bS Y J m L)) L (i.val Y J m L)) ((execOp ev o).run C.P x.w):=by
 by_cases hp:i.pure=true
 .rw[afi hp,xd];exact(ae7 hΓ.glz hcst hΓ.small hc hp hρ hob hs hgl).oo
 .cases ho:o.op with
  |alloc t=>exact(ZJ hc (.inl ⟨t,ho⟩) hρ hcst hob hs hL hΓ.bld).oo
  |box t p=>exact(ZJ hc (.inr ⟨t,p,ho⟩) hρ hcst hob hs hL hΓ.bld).oo
  |buildSlice t n ps=>exact(ali hc ho hρ hob hs hL).oo
  |load t p=>exact(ae5 hp hΓ.small hc ho hρ hob hs hag).oo
  |store t p q=>exact(ZQ hp hc ho hρ hob hs hag).oo
  |makeSlice t a b=>exact(alm hc ho hρ hob hs hL).oo
  |range t p=>exact(ZP hc ho hρ hob hs hL).oo
  |makeMap t r=>exact(alk hc ho hρ hob hs hL).oo
  |mapUpdate t a b c=>exact(alo hΓ.small hc ho hρ hob hs hag).oo
  |lookup t p q ok=>
   cases ok
   .simp[CC.op,ho]at hc
   .exact(alj hΓ.small hc ho hρ hob hs hag).oo
  |next it b=>
   cases b
   .simp[CC.op,ho]at hc
   .exact(ae6 hc ho hρ hob hs hag).oo
  |convert s d p=>
   have:(∃a,i=.s2b a)\/(∃a,i=.b2s a):=by
    simp only[CC.op,ho]at hc
    (repeat' split at hc)<;>simp only[aG,reduceCtorEq]at hc<;>subst hc<;>first
      |exact .inl ⟨_,rfl⟩
      |exact .inr ⟨_,rfl⟩
      |(exfalso;exact hp rfl)
   rcases this with⟨a,rfl⟩|⟨a,rfl⟩
   .exact(aln (i:=.s2b a) hc ho hρ hob hs hL).oo
   .exact(alh hc ho hρ hob hs hag).oo
  |call c=>
   obtain⟨callee,args,argTypes⟩:=c;cases callee with
   |builtin bu=>
    cases bu with
    |append=>
     have hx:∃p q t u,args=#[p,q]/\argTypes=#[t,u]:=by
      simp only[CC.op,ho]at hc;split at hc
      .rename_i p q t u hargs htys;exact⟨p,q,t,u,by apply Array.ext';simpa using hargs,by apply Array.ext';simpa using htys⟩
      .cases hc
     obtain⟨p,q,t,u,rfl,rfl⟩:=hx;exact(alg hc ho hρ hob hs hag hL).oo
    |len=>
     exfalso;simp only[CC.op,ho]at hc
     (repeat' split at hc)<;>simp only[aG,reduceCtorEq]at hc<;>subst hc<;>exact hp rfl
    |min=>
     exfalso;simp only[CC.op,ho]at hc
     (repeat' split at hc)<;>simp only[aG,reduceCtorEq]at hc<;>subst hc<;>exact hp rfl
    |max=>
     exfalso;simp only[CC.op,ho]at hc
     (repeat' split at hc)<;>simp only[aG,reduceCtorEq]at hc<;>subst hc<;>exact hp rfl
    |_=>simp[CC.op,ho]at hc
   |value fv=>
    cases fv with
    |func fid=>
     grind [CC.op,aA.cR,Vy,ZL]
    |tmp t=>
     simp only[CC.op,ho]at hc;split at hc
     .rename_i s ss h1 h2;split at hc
      .simp only[aG]at hc;subst hc;simp[aA.cR]at hncm
      .simp only[aG]at hc;subst hc;exact ZM hΓ ho h1 h2 hρ hob hs hag
     .cases hc
    |_=>simp[CC.op,ho]at hc
   |invoke r nm=>simp[CC.op,ho]at hc
  |move p=>exfalso;simp only[CC.op,ho,df]at hc;obtain⟨s,h1,rfl⟩:=hc;exact hp rfl
  |assign p=>exfalso;simp only[CC.op,ho,df]at hc;obtain⟨s,h1,rfl⟩:=hc;exact hp rfl
  |nilCheck p=>exfalso;simp only[CC.op,ho,df]at hc;obtain⟨s,h1,rfl⟩:=hc;exact hp rfl
  |unOp op t p=>exfalso;simp only[CC.op,ho,df]at hc;obtain⟨s,h1,rfl⟩:=hc;exact hp rfl
  |extract p n=>exfalso;simp only[CC.op,ho,df]at hc;obtain⟨s,h1,rfl⟩:=hc;exact hp rfl
  |binOp op t p q u=>
   exfalso;simp only[CC.op,ho]at hc
   (repeat' split at hc)<;>simp only[aG,reduceCtorEq]at hc<;>subst hc<;>first
     |exact hp rfl
     |(simp[aA.cR]at hncm;done)
  |makeFunc fn fst caps=>
   exfalso;cases fn<;>simp only[CC.op,ho]at hc<;>try(cases hc;done)
   (repeat' split at hc)<;>(try simp only[aG,reduceCtorEq]at hc)<;>first
     |(subst hc;exact hp rfl)
     |exact hc.elim
     |(simp only[df]at hc;obtain⟨_,_,rfl⟩:=hc;exact hp rfl)
  |_=>
   exfalso;simp only[CC.op,ho]at hc
   (try cases hc)<;>(repeat' split at hc)<;>(try simp only[aG,reduceCtorEq,df]at hc)<;>first
     |(subst hc;exact hp rfl)
     |(obtain⟨s,h1,rfl⟩:=hc;exact hp rfl)
     |exact hc.elim
     |cases hc
def tJ (l k:Nat)(es:Θ):∀ds:Θ,(pf l k es ds).length=ds.length
 |[]=>rfl
 |d::r=>by simp[pf,tJ l k es r]
def mA (l k:Nat)(es:Θ):∀(ds:Θ) (i:Nat),(pf l k es ds).getD i .any=jj l k es (ds.getD i .any)
 |[],i=>by simp[pf,jj]
 |d::r,0=>by simp[pf]
 |d::r,i+1=>by simpa[pf]using mA l k es r i
def RD.fz {x':X}{l:Nat}{es:List D}(hle:Le x x')(hn:aP es=true)(ho:∀b base tot,x.β l=some (b,base,tot)->x'.I b/\(∀i,i<es.length->(es.getD i .any).cells.length=k)/\∃c:Nat->Nat->Value,∀i j,i<es.length->j<k->
    x'.w.cell? ⟨b,base+i*k+j,none⟩=some (c i j)/\(c i j).oneCell'=true/\RD ν x' (c i j) ((es.getD i .any).cells.getD j .any)){v:Value}(h:RD ν x v d):RD ν x' v (jj l k es d):=by
 induction h with
 |any v=>exact .any v
 |bool b=>exact .bool b
 |int k n=>exact .int k n
 |str s h=>exact .str s h
 |agg cs ds hl' h1 _ ih=>exact .agg cs _ yW (λi hi=>h1 i uS) λi hi=>by rw[mA];exact ih i uS
 |tup cs ds hl' _ ih=>exact .tup cs _ yW λi hi=>by rw[mA];exact ih i uS
 |aO=>exact .aO
 |sl a b off len cap k' es' c hlen ha hcap hm hk hn' hc h1 h _=>exact(RD.sl a b off len cap k' es' c hlen ha hcap hm hk hn' hc h1 h).mono hle
 |ref b off k' i o at_ es' c hI hat hk hn' hc h1 h _=>exact(RD.ref b off k' i o at_ es' c hI hat hk hn' hc h1 h).mono hle
 |ptr l' k' i o b base tot at_ hβ hat=>
  simp only[jj];split
  .rename_i hh;obtain⟨rfl,rfl⟩:=hh;obtain⟨o1,o2,c,o3⟩:=ho b base tot hβ;exact .ref b base k' i o at_ es c o1 hat o2 (λi _=>cZ hn i) (λi j hi hj=>(o3 i j hi hj).1) (λi j hi hj=>(o3 i j hi hj).2.1) (λi j hi hj=>(o3 i j hi hj).2.2)
  .exact .ptr l' k' i o b base tot at_ (hle.β _ _ hβ) hat
 |own l' k' i n b base tot cap a hβ ha hcap hm ht=>
  simp only[jj];split
  .rename_i hh;obtain⟨rfl,rfl,hin⟩:=hh;obtain⟨o1,o2,c,o3⟩:=ho b base tot hβ;have hg:∀q,q<n->((es.drop i).take n).getD q .any=es.getD (i+q) .any:=λq hq=>by
    simp[List.getD,List.getElem?_take,hq]
   have hlen:((es.drop i).take n).length=n:=fM;refine .sl (some a) b (base+i*k') n cap k' _ (λq j=>c (i+q) j) hlen.symm ?_ hcap hm (λq hq=>by rw[hg q hq];exact o2 _ ae) (λq hq=>by rw[hg q hq];exact cZ hn _)
    (λq j hq hj=>?_) (λq j hq hj=>(o3 (i+q) j ae hj).2.1) (λq j hq hj=>by rw[hg q hq];exact(o3 (i+q) j ae hj).2.2)
   .by_cases hc0:0<cap
    .right;rw[ha hc0];exact⟨rfl,o1⟩
    .left;apply lZ;omega
   .have:=(o3 (i+q) j ae hj).1;rw[<-this];congr 2;rw[Nat.add_mul];omega
  .exact .own l' k' i n b base tot cap a (hle.β _ _ hβ) ha hcap hm ht
 |own0 l' k' i a=>
  simp only[jj];split
  .rename_i hh;simp only[List.take_zero];exact .sl a 0 0 0 0 k [] (λ_ _=>undef) rfl (.inl rfl) (aR _) (Nat.zero_le _) (λi hi=>ae) (λi hi=>ae) (λi j hi=>ae) (λi j hi=>ae) (λi j hi=>ae)
  .exact .own0 l' k' i a
 |nilp=>exact .nilp
 |fn fid n cs ds hν hl' _ ih=>exact .fn fid n cs _ hν yW λi hi=>by rw[mA];exact ih i uS
 |bx b at_ ds v hI hc h1 hl' _ ih=>exact .bx b at_ _ v (hle.I _ hI) (iR (hle.pM _ hI) hc) h1 yW λi hi=>by rw[mA];exact ih i uS
 |er fid n cs ds hν hl' _ ih=>exact .er fid n cs _ hν yW λi hi=>by rw[mA];exact ih i uS
 |nilf=>exact .nilf
 |mpn=>exact .mpn
 |im l b base tot hβ=>simp only[jj,pf];exact .im l b base tot (hle.β _ _ hβ)
 |it l b base tot hβ=>exact .it l b base tot (hle.β _ _ hβ)
def CX {J:Src->a7}:∀(ps:Lac) (l:Θ),(my J l ps).length=l.length
 |[],l=>rfl
 |(i,s)::r,l=>by simp only[my];rw[CX r];simp
theorem jU.re {Q Q':Value->X->Prop}{r:Result Next}(h:jU P x Q r)(hq:∀v x',Q v x'->∃x'',x''.w=x'.w/\Q' v x''):jU P x Q' r:=by
 rcases h with⟨v,x',h1,h2⟩|⟨f',args',h1,h2⟩
 .obtain⟨x'',e,h3⟩:=hq v x' h2;exact .inl ⟨v,x'',by rw[e];exact h1,h3⟩
 .refine .inr ⟨f',args',h1,Calls.mono h2 λe w' he=>?_⟩
  grind
def Goal.ice {x':X}{L:Nat}{es:Θ}{v:Value}(hg:Goal ν x (jg f [L] (cW m L (.buf k es))) L (.own L k 0 n) v x')(hn:aP es=true)(hlen:es.length=n)(hL:x.β L=none)(hfL:f L=none):∃x'',x''.w=x'.w/\Goal ν x f L (.sl k es) v x'':=by
 obtain⟨h1,h2,h3,h4⟩:=hg;have hlk:jg f [L] (cW m L (.buf k es)) L=some (.buf k es):=by simp[jg,bO]
 let x'':X:=⟨x'.w,λb=>x'.I b\/∃p,x'.β L=some p/\p.1=b,x'.β⟩
 have hle:Le x' x'':=⟨λ_ h=>.inl h,λ_ _=>rfl,λ_ _ h=>h⟩;have ho:∀b base tot,x'.β L=some (b,base,tot)->x''.I b/\(∀i,i<es.length->(es.getD i .any).cells.length=k)/\∃c:Nat->Nat->Value,∀i j,i<es.length->j<k->
   x''.w.cell? ⟨b,base+i*k+j,none⟩=some (c i j)/\(c i j).oneCell'=true/\RD ν x'' (c i j) ((es.getD i .any).cells.getD j .any):=by
  intro b base tot hβ;obtain⟨o1,o2,o3,c,T,fr,o4,o5,o6,o7⟩:=h3.own L _ b base tot hlk hβ;refine⟨.inr ⟨_,hβ,rfl⟩,λi hi=>(o7 i hi).1,λi j=>c.getD (base+i*k+j) undef,λi j hi hj=>⟨?_,((o7 i hi).2 j hj).1,((o7 i hi).2 j hj).2.mono hle⟩⟩;exact cell_of_heap o4 Lv
 have hrd:RD ν x'' v (.sl k es):=by
  have:=h2.fz (x':=x'') (l:=L) (k:=k) (es:=es) hle hn ho;simpa[jj,hlen,gG]using this
 have hnew:∀b,(∃p,x'.β L=some p/\p.1=b)->x.w.heap.size<=b\/∃l p,x.β l=some p/\p.1=b:=by
  rintro b ⟨p,e1,e2⟩;rcases h1.newβ L p e1 with h|h|⟨l',p',h,h'⟩
  .rw[hL]at h;cases h
  .exact .inl (e2▸h)
  .exact .inr ⟨l',p',h,h'.trans e2⟩
 refine⟨x'',rfl,⟨h1.os,h1.tape,h1.output,h1.size,λb hb=>.inl (h1.I b hb),h1.pM,h1.β,h1.old,λb hb=>?_,h1.newβ⟩,hrd,⟨λl' blk b base tot e1 e2=>?_,λl1 l2 b base tot base' tot' e1 e2 e3 e4=>?_,λb hb=>?_,h3.er,rQ hle h3.gd⟩,h4⟩
 .rcases hb with hb|hb
  .exact h1.newI b hb
  .exact .inr (hnew b hb)
 .have hne:l'≠L:=by rintro rfl;rw[hfL]at e1;cases e1
  have e1':jg f [L] (cW m L (.buf k es)) l'=some blk:=by simp[jg,hne,e1]
  obtain⟨o1,o2⟩:=h3.own l' blk b base tot e1' e2;refine⟨?_,o2.mono hle rfl⟩;rintro(hb|⟨⟨b',base',tot'⟩,q1,q2⟩)
  .exact o1 hb
  .simp only at q2;subst q2;exact hne (h3.inj l' L b' base tot base' tot' (by rw[e1'];simp) (by rw[hlk];simp) e2 q1)
 .have hn1:∀l,f l≠none->jg f [L] (cW m L (.buf k es)) l≠none:=λl hl=>by
   have hne:l≠L:=by rintro rfl;exact hl hfL
   simpa[jg,hne]using hl
  exact h3.inj l1 l2 b base tot base' tot' (hn1 _ e1) (hn1 _ e2) e3 e4
 .rcases hb with hb|⟨⟨b',base',tot'⟩,q1,q2⟩
  .exact h3.imm b hb
  .simp only at q2;subst q2;exact h3.er L _ _ _ q1
def OpX (C:CC)(defs:Ζ)(o:Oper)(i:aA):Prop:=C.op defs o=some i\/(∃n ag p,i=.ldI n ag p/\C.op defs o=some (.ld n ag p))\/(∃k y,i=.appN k y/\C.op defs o=some (.app k (.c .aO) y))\/(∃k z n ps,i=.bslI k z n ps/\C.op defs o=some (.bsl k z n ps))\/(∃n ag p,(i=.ldU n ag p\/i=.ldW n ag p)/\C.op defs o=some (.ld n ag p))\/∃n p v qs,i=.stU n p v qs/\C.op defs o=some (.st n p v)
def Ix {o:Oper}{i:aA}(hc:OpX C defs o i)(hncm:i.cR=false)(hΓ:Ok C.P C.ν C.bS Y)(hρ:vS C defs J ev x o.op.operands.toList)(hcst:∀d,J (.c d)=⟨true,d⟩)(hob:i.eO Y J m)(hs:fO C.ν x f)(hag:FA f m (i.nB J))(hL:x.β L=none)(hfL:f L=none)(hgl:∀g,ev (.global g)=.pointer (some ⟨g,0,none⟩)):
  jU C.P x (Goal C.ν x (jg f (i.wr J L) (i.bS Y J m L)) L (i.val Y J m L)) ((execOp ev o).run C.P x.w):=by
 rcases hc with hc|⟨n,ag,p,rfl,hc⟩|⟨k,y,rfl,hc⟩|⟨k,z,n,ps,rfl,hc⟩|⟨n,ag,p,rfl|rfl,hc⟩|⟨n,p,v,qs,rfl,hc⟩
 .exact zF hc hncm hΓ hρ hcst hob hs hag hL hgl
 rotate_left 3;iterate 2
  .obtain⟨k1,k2⟩:=hob;have hob':(aA.ld n ag p).eO Y J m:=by
    simp only[aA.eO];cases hd:(J p).d<;>simp only[hd]at k2<;>simp only[MA]
    .exact⟨k1,k2⟩
    .exact⟨k1,k2.1⟩
   have h:=zF (i:=aA.ld n ag p) (L:=L) hc rfl hΓ hρ hcst hob' hs hag hL hgl;exact h
 .obtain⟨o1,o2,o3,o4⟩:=hob;have hob':(aA.st n p v).eO Y J m:=by
   refine⟨o1,o2,o3, ?_⟩;cases hd:(J p).d<;>simp only[hd]at o4;exact⟨o4.1,o4.2.1⟩
  exact zF (i:=aA.st n p v) (L:=L) hc rfl hΓ hρ hcst hob' hs hag hL hgl
 rotate_left;rotate_left
 .obtain⟨k1,k2,k3⟩:=hob;have hob':(aA.bsl k z n ps).eO Y J m:=⟨k1,k2⟩;have:=zF (L:=L) hc rfl hΓ hρ hcst hob' hs (by simp[aA.nB,FA]) hL hgl;refine this.re λv x' hg=>?_
  exact hg.ice k3 (by rw[CX,List.length_replicate]) hL hfL
 rotate_left
 .obtain⟨k1,k2,k3⟩:=hob;have hob':(aA.app k (.c .aO) y).eO Y J m:=by simp only[aA.eO,hcst];exact⟨trivial,k1,k2,k3⟩
  have:=zF (L:=L) hc rfl hΓ hρ hcst hob' hs (by simpa[aA.nB,hcst,cq]using hag) hL hgl;have e1:(aA.appN k y).val Y J m L=(aA.app k (.c .aO) y).val Y J m L:=by simp[aA.val,hcst]
  have e2:(aA.appN k y).wr J L=(aA.app k (.c .aO) y).wr J L:=by simp[aA.wr,hcst,cq]
  have e3:(aA.appN k y).bS Y J m L=(aA.app k (.c .aO) y).bS Y J m L:=by simp[aA.bS,hcst]
  rw[e1,e2,e3];exact this
 .obtain⟨k1,k2⟩:=hob;cases hd:(J p).d<;>simp only[hd]at k2;all_goals
   have hob':(aA.ld n ag p).eO Y J m:=by simp only[aA.eO,hd,MA];exact⟨k1,k2⟩
   have:=zF (L:=L) hc rfl hΓ hρ hcst hob' hs (by simp[aA.nB,hd,cq,FA]) hL hgl;have e1:(aA.ldI n ag p).val Y J m L=(aA.ld n ag p).val Y J m L:=by simp[aA.val,hd,MB]
   rw[e1];exact this
end
end
section
variable [cO]
section
variable {C:CC}{Y:Ctx}
theorem qh:∀(l:Ε) (t n:Nat),Bz l t=some n->l[n]? =some t
 |[],t,n,h=>by simp[Bz]at h
 |a::r,t,n,h=>by
  simp only[Bz]at h;split at h
  .grind
  .simp only[df]at h;obtain⟨k,h1,rfl⟩:=h;simpa using qh r t k h1
def H5:∀(l:Ε) (t n:Nat),l.Nodup->l[n]? =some t->Bz l t=some n
 |[],t,n,_,h=>by simp at h
 |a::r,t,0,_,h=>by simp at h;simp[Bz,h]
 |a::r,t,n+1,hn,h=>by
  simp only[List.getElem?_cons_succ]at h;rw[List.nodup_cons]at hn;have:a≠t:=λe=>hn.1 (e▸List.mem_of_getElem? h)
  simp[Bz,this,H5 r t n hn.2 h]
theorem DU:∀(l:Ζ) (t p:Nat),posOf t l=some p->l[p]? =some (some t)
 |[],t,n,h=>by simp[posOf]at h
 |a::r,t,n,h=>by
  simp only[posOf]at h;split at h
  .grind
  .simp only[df]at h;obtain⟨k,h1,rfl⟩:=h;simpa using DU r t k h1
def DT:∀(l:Ζ) (t:Nat),posOf t l=none->∀p:Nat,l[p]? ≠some (some t)
 |[],t,h,p=>aJ
 |a::r,t,h,p=>by
  simp only[posOf]at h;split at h
  .cases h
  .rename_i e;simp only[Option.map_eq_none_iff]at h;cases p with
   |zero=>simpa using e
   |succ p=>simpa using DT r t h p
structure Spec (C:CC)(ops:List Oper)(l:Υ):Prop where
 len:l.length=ops.length
 op:∀(i:Nat) (o:Oper),ops[i]? =some o->∃g,l[i]? =some g/\OpX C ((ops.map (·.dst)).take i) o g.i/\CC.guard ((ops.map (·.dst)).take i) o.guard=some g.g
 dst:∀(i:Nat) (o:Oper) (d:Nat),ops[i]? =some o->o.dst=some d->d<C.ntmps/\∀p:Nat,p<i->(ops.map (·.dst))[p]? ≠some (some d)
def M6:∀(ops pre:List Oper) (l lp:Υ),Spec C pre lp->C.ops (pre.map (·.dst)) ops=some l->Spec C (pre++ops) (lp++l)
 |[],pre,l,lp,hp,h=>by simp[CC.ops]at h;subst h;simpa using hp
 |o::r,pre,l,lp,hp,h=>by
  simp only[CC.ops]at h;split at h
  .rename_i i g l' h1 h2 h3;split at h
   .rename_i hd;simp only[aG]at h;subst h;have hp':Spec C (pre++[o]) (lp++[⟨i,g⟩]):=by
     have hl:=hp.len;refine⟨by simp[hl],λj o' ho'=>?_,λj o' d ho' hd'=>?_⟩
     .rw[List.getElem?_append]at ho';split at ho'
      .rename_i hj;obtain⟨g',a1,a2,a3⟩:=hp.op j o' ho';have e:((pre++[o]).map (·.dst)).take j=(pre.map (·.dst)).take j:=by rw[List.map_append,List.take_append_of_le_length fM]
       rw[e];exact⟨g',by rw[List.getElem?_append_left ae];exact a1,a2,a3⟩
      .rename_i hj;obtain rfl:j=pre.length:=by
        have:=(List.getElem?_eq_some_iff.1 ho').1;simp at this;omega
       simp at ho';subst ho';have e:((pre++[o]).map (·.dst)).take pre.length=pre.map (·.dst):=aJ;rw[e];exact⟨⟨i,g⟩,by rw[<-hl];simp,.inl h1,h2⟩
     .rw[List.getElem?_append]at ho';split at ho'
      .rename_i hj;obtain⟨a1,a2⟩:=hp.dst j o' d ho' hd';refine⟨a1,λp hpj=>?_⟩;rw[List.map_append,List.getElem?_append_left fM];exact a2 p hpj
      .rename_i hj;obtain rfl:j=pre.length:=by
        have:=(List.getElem?_eq_some_iff.1 ho').1;simp at this;omega
       simp at ho';subst ho';simp only[hd',Option.all_some,aD,aT,b8,List.contains_eq_mem,bR]at hd;refine⟨hd.1,λp hpj=>?_⟩;rw[List.map_append,List.getElem?_append_left fM];exact λe=>hd.2 (List.mem_of_getElem? e)
    have:=M6 r (pre++[o]) l' (lp++[⟨i,g⟩]) hp' (by simpa using h3);simpa using this
   .cases h
  .cases h
def Spec.start {ops:List Oper}(h:C.ops [] ops=some l):Spec C ops l:=by
 have:=M6 (C:=C) ops [] l [] ⟨rfl,λi o h=>ix,λi o d h=>ix⟩ rJ;simpa using this
theorem abq (i:aA):i.toN=i\/∃k y,i=.app k (.c .aO) y/\i.toN=.appN k y:=by
 unfold aA.toN
 grind
theorem Dz (bs:Ε)(l0:Υ):∀(l:Υ) (p i:Nat) (g:GI),l[i]? =some g->∃g',(mW bs l0 p l)[i]? =some g'/\g'.g=g.g/\(g'.i=g.i\/(∃n ag x,g.i=.ld n ag x/\g'.i=.ldI n ag x)\/(∃k y,g.i=.app k (.c .aO) y/\g'.i=.appN k y)\/(∃k z n ps,g.i=.bsl k z n ps/\g'.i=.bslI k z n ps)\/(∃n ag x,g.i=.ld n ag x/\(g'.i=.ldU n ag x\/g'.i=.ldW n ag x))\/∃n x y qs,g.i=.st n x y/\g'.i=.stU n x y qs)
 |[],p,i,g,h=>by simp at h
 |a::r,p,0,g,h=>by
  grind [mW,abq]
 |a::r,p,i+1,g,h=>by
  simp only[mW,List.getElem?_cons_succ]at h⊢;exact Dz bs l0 r (p+1) i g h
def DA (bs:Ε)(l0:Υ):∀(l:Υ) (p:Nat),(mW bs l0 p l).length=l.length
 |[],p=>rfl
 |a::r,p=>by simp only[mW,bJ,DA bs l0 r (p+1)]
theorem aew (e:Ε)(l:Υ)(i:Nat)(g:GI)(h:l[i]? =some g):∃g',(ice e l)[i]? =some g'/\g'.g=g.g/\(g'.i=g.i\/∃k z n ps,g.i=.bsl k z n ps/\g'.i=.bslI k z n ps):=by
 unfold ice;rw[List.getElem?_map,h];refine⟨_,rfl, ?_⟩
 grind
def Spec.ice {ops:List Oper}{l:Υ}(e:Ε)(h:Spec C ops l):Spec C ops (ice e l):=by
 refine⟨by simp only[Abs.ice,bj];exact h.len,λi o ho=>?_,h.dst⟩;obtain⟨g,h1,h2,h3⟩:=h.op i o ho;obtain⟨g',a1,a2,a3⟩:=aew e l i g h1;refine⟨g',a1, ?_,by rw[a2];exact h3⟩;rcases a3 with e|⟨k,z,n,ps,e1,e2⟩
 .rw[e];exact h2
 .rw[e1]at h2;rcases h2 with h2|⟨n',ag',p',h4,_⟩|⟨k',y',h4,_⟩|⟨_,_,_,_,h4,_⟩|⟨_,_,_,h4,_⟩|⟨_,_,_,_,h4,_⟩
  .exact .inr (.inr (.inr (.inl ⟨k,z,n,ps,e2,h2⟩)))
  all_goals first|(rcases h4 with h4|h4<;>cases h4)|cases h4
theorem Spec.mW {ops:List Oper}(h:Spec C ops l):Spec C ops (mW bs l 0 l):=by
 refine⟨by rw[DA];exact h.len,λi o ho=>?_,h.dst⟩;obtain⟨g,h1,h2,h3⟩:=h.op i o ho;obtain⟨g',a1,a2,a3⟩:=Dz bs l l 0 i g h1;refine⟨g',a1, ?_,by rw[a2];exact h3⟩;rcases a3 with e|⟨n,ag,x,e1,e2⟩|⟨k,y,e1,e2⟩|⟨k,z,n,ps,e1,e2⟩|⟨n,ag,x,e1,e2⟩|⟨n,x,y,qs,e1,e2⟩
 .rw[e];exact h2
 .rw[e1]at h2;rcases h2 with h2|⟨n',ag',p',h4,_⟩|⟨k',y',h4,_⟩|⟨_,_,_,_,h4,_⟩|⟨_,_,_,h4,_⟩|⟨_,_,_,_,h4,_⟩
  .exact .inr (.inl ⟨n,ag,x,e2,h2⟩)
  all_goals first|(rcases h4 with h4|h4<;>cases h4)|cases h4
 .rw[e1]at h2;rcases h2 with h2|⟨n',ag',p',h4,_⟩|⟨k',y',h4,_⟩|⟨_,_,_,_,h4,_⟩|⟨_,_,_,h4,_⟩|⟨_,_,_,_,h4,_⟩
  .exact .inr (.inr (.inl ⟨k,y,e2,h2⟩))
  all_goals first|(rcases h4 with h4|h4<;>cases h4)|cases h4
 .rw[e1]at h2;rcases h2 with h2|⟨n',ag',p',h4,_⟩|⟨k',y',h4,_⟩|⟨_,_,_,_,h4,_⟩|⟨_,_,_,h4,_⟩|⟨_,_,_,_,h4,_⟩
  .exact .inr (.inr (.inr (.inl ⟨k,z,n,ps,e2,h2⟩)))
  all_goals first|(rcases h4 with h4|h4<;>cases h4)|cases h4
 .rw[e1]at h2;rcases h2 with h2|⟨n',ag',p',h4,_⟩|⟨k',y',h4,_⟩|⟨_,_,_,_,h4,_⟩|⟨_,_,_,h4,_⟩|⟨_,_,_,_,h4,_⟩
  .exact .inr (.inr (.inr (.inr (.inl ⟨n,ag,x,e2,h2⟩))))
  all_goals first|(rcases h4 with h4|h4<;>cases h4)|cases h4
 .rw[e1]at h2;rcases h2 with h2|⟨n',ag',p',h4,_⟩|⟨k',y',h4,_⟩|⟨_,_,_,_,h4,_⟩|⟨_,_,_,h4,_⟩|⟨_,_,_,_,h4,_⟩
  .exact .inr (.inr (.inr (.inr (.inr ⟨n,x,y,qs,e2,h2⟩))))
  all_goals first|(rcases h4 with h4|h4<;>cases h4)|cases h4
def Spec.distinct {ops:List Oper}(h:Spec C ops l){i p d:Nat}(hi:(ops.map (·.dst))[i]? =some (some d))(hp:(ops.map (·.dst))[p]? =some (some d)):p=i:=by
 rw[List.getElem?_map,df]at hi hp;obtain⟨oi,hi1,hi2⟩:=hi;obtain⟨op,hp1,hp2⟩:=hp;rcases Nat.lt_trichotomy p i with h1|h1|h1
 .exact absurd (by rw[List.getElem?_map,hp1,Option.map_some,hp2]) ((h.dst i oi d hi1 hi2).2 p h1)
 .exact h1
 .exact absurd (by rw[List.getElem?_map,hi1,Option.map_some,hi2]) ((h.dst p op d hp1 hp2).2 i h1)
structure Bo (C:CC)(env:Φ)(DD:Ζ)(VS:Φ)(D:Lab)(a:Act)(x:X):Prop where
 val:∀p t:Nat,D p->DD[p]? =some (some t)->(VS.getD p .un).ok=true->RD C.ν x (a.tmps.getD t undef) (VS.getD p .un).d
 und:∀p t:Nat,D p->DD[p]? =some (some t)->(VS.getD p .un).ok=false->a.tmps.getD t undef=undef
 old:∀n t:Nat,C.slots[n]? =some t->(∀p,D p->DD[p]? ≠some (some t))->(env.getD n .un).ok=true->RD C.ν x (a.tmps.getD t undef) (env.getD n .un).d
 size:a.tmps.size=C.ntmps
 defers:a.defers=[]
theorem aap (a:Act)(d:Nat)(v:Value)(t:Nat)(h:d<a.tmps.size):(a.put (some d) v).tmps.getD t undef=if t=d then v else a.tmps.getD t undef:=by
 simp only[Act.put,Array.getD_eq_getD_getElem?]
 grind
def Bo.put {env:Φ}{DD:Ζ}{VS:Φ}{D D':Lab}{a:Act}{x x':X}{i:Nat}{dst:Lad}{v:Value}(h:Bo C env DD VS D a x)(hle:Le x x')(hd:DD[i]? =some dst)
  (hdst:∀t,dst=some t->t<C.ntmps/\∀p,p≠i->DD[p]? ≠some (some t)) (hv:(VS.getD i .un).ok=true->RD C.ν x' v (VS.getD i .un).d) (hu:(VS.getD i .un).ok=false->v=undef)
  (hD:∀p,D' p↔D p\/p=i):Bo C env DD VS D' (a.put dst v) x':=by
 cases dst with
 |none=>
  have hne:∀p t,DD[p]? =some (some t)->p≠i:=λp t e e'=>by subst e';rw[hd]at e;simp at e
  refine⟨λp t hp e ho=>?_,λp t hp e ho=>?_,λn t hn hp ho=>?_,h.size,h.defers⟩
  .exact(h.val p t (((hD p).1 hp).resolve_right (hne p t e)) e ho).mono hle
  .exact h.und p t (((hD p).1 hp).resolve_right (hne p t e)) e ho
  .exact(h.old n t hn (λp hp'=>hp p ((hD p).2 (.inl hp'))) ho).mono hle
 |some d=>
  obtain⟨h1,h2⟩:=hdst d rfl;have hg:=aap a d v (h:=by rw[h.size];exact h1);refine⟨λp t hp e ho=>?_,λp t hp e ho=>?_,λn t hn hp ho=>?_,by simp[Act.put,h.size],h.defers⟩
  .by_cases hpi:p=i
   .subst hpi;rw[hd]at e;simp only[aG]at e;subst e;rw[hg,ak rfl];exact hv ho
   .have:t≠d:=λe'=>h2 p hpi (e'▸e)
    rw[hg,ah this];exact(h.val p t (((hD p).1 hp).resolve_right hpi) e ho).mono hle
  .by_cases hpi:p=i
   .subst hpi;rw[hd]at e;simp only[aG]at e;subst e;rw[hg,ak rfl];exact hu ho
   .have:t≠d:=λe'=>h2 p hpi (e'▸e)
    rw[hg,ah this];exact h.und p t (((hD p).1 hp).resolve_right hpi) e ho
  .have:t≠d:=λe'=>hp i ((hD i).2 (.inr rfl)) (by rw[hd,e'])
   rw[hg,ah this];exact(h.old n t hn (λp hp'=>hp p ((hD p).2 (.inl hp'))) ho).mono hle
def getD_take {α:Type}(l:List α)(i p:Nat)(d:α)(h:p<i):(l.take i).getD p d=l.getD p d:=by
 simp[List.getD,List.getElem?_take,h]
def Bo.rho {D:Lab}{i:Nat}{os:Lai}(h:Bo C env DD VS D a x)(hr:∀t p,Operand.tmp t∈os->DD[p]? =some (some t)->(p<i->D p)/\(i<=p->¬D p)):vS C (DD.take i) (Src.ev env (VS.take i)) a.eval x os:=by
 intro o ho s hs hok;cases o with
 |tmp t=>
  simp only[CC.src]at hs;split at hs
  .rename_i p hp;simp only[aG]at hs;subst hs;have hp1:=DU _ _ _ hp;rw[List.getElem?_take]at hp1;split at hp1
   .rename_i hpi;simp only[Src.ev]at hok⊢;rw[getD_take _ _ _ _ hpi]at hok⊢;exact h.val p t ((hr t p ho hp1).1 hpi) hp1 hok
   .cases hp1
  .rename_i hp;simp only[df]at hs;obtain⟨n,h1,rfl⟩:=hs;simp only[Src.ev]at hok⊢;refine h.old n t (qh _ _ _ h1) (λp hp' e=>?_) hok;by_cases hpi:p<i
   .exact DT _ _ hp p (by rw[List.getElem?_take,ak hpi];exact e)
   .exact(hr t p ho e).2 ae hp'
 |const v=>
  simp only[CC.src,df]at hs;obtain⟨d,h1,rfl⟩:=hs;exact nF v d h1
 |func f=>
  simp only[CC.src,df]at hs;obtain⟨n,h1,rfl⟩:=hs;exact .fn f n #[] [] h1 rfl (λi hi=>by simp at hi)
 |global g=>simp[CC.src]at hs
def agH {i:aA}(h:Ww vs i g):zk vs g:=by
 cases g with
 |none=>trivial
 |some jw=>exact h.2
def kK {ops:Array Oper}{D:Lab}{i:Nat}{o:Oper}{g:GI}(h:Bo C env (ops.toList.map (·.dst)) VS D a x)(hg:CC.guard ((ops.toList.map (·.dst)).take i) o.guard=some g.g)(hD:∀j w,o.guard=some (j,w)->j<i->D j)(hgok:zk (VS.take i) g.g):Region.wanted o (yielded ops a.tmps)=flag (VS.take i) g.g:=by
 unfold Region.wanted;cases hog:o.guard with
 |none=>simp only[hog,CC.guard,aG]at hg;simp[<-hg,flag]
 |some jw=>
  obtain⟨j,w⟩:=jw;simp only[hog,CC.guard]at hg;split at hg
  .rename_i t hj;simp only[aG]at hg;rw[<-hg]at hgok⊢;rw[List.getElem?_take]at hj;split at hj
   .rename_i hji;have hDj:=hD j w hog hji;have hy:(ops[j]?).bind (·.dst)=some t:=by
     rw[List.getElem?_map,Array.getElem?_toList]at hj;cases ho:ops[j]? with
     |none=>simp[ho]at hj
     |some oj=>simpa[ho]using hj
    simp only[yielded,hy,Option.bind_some,flag,zk]at hgok⊢;rw[getD_take _ _ _ _ hji]at hgok⊢;cases hok:(VS.getD j .un).ok with
    |false=>
     have:=h.und j t hDj hj hok;simp only[Array.getD_eq_getD_getElem?]at this;cases ht:a.tmps[t]? with
     |none=>simp
     |some v=>simp only[ht,Option.getD_some]at this;subst this;simp[undef]
    |true=>
     have hb:=hgok hok;have hv:=h.val j t hDj hj hok;cases hd:(VS.getD j .un).d<;>simp only[hd,Go.Abs.D.isBool]at hb<;>try cases hb
     rename_i b;rw[hd]at hv;have hv:=hv.jV;simp only[Array.getD_eq_getD_getElem?]at hv;cases ht:a.tmps[t]? with
     |none=>simp[ht,undef]at hv
     |some v=>simp only[ht,Option.getD_some]at hv;subst hv;simp
   .cases hj
  .cases hg
end
end
section
variable [cO]
section
variable {C:CC}{Y:Ctx}{J:Src->a7}{m:Γ}{L:Nat}
theorem zd {i:aA}{l:Nat}(h:l∉i.wr J L):look (i.bS Y J m L) l=look m l:=by
 cases i<;>simp only[aA.wr,bH,cX,or_false,not_or]at h<;>simp only[aA.bS]
 case box=>rw[bO,ah h]
 case mkB=>rw[bO,ah h]
 case mkM=>rw[bO,ah h]
 case upM x k v=>
  split
  .rename_i hd;rw[hd]at h;rw[bO,ah (by simpa[DB]using h)]
  .rfl
 case bsl=>rw[bO,ah h]
 case mks=>rw[bO,ah h]
 case s2b x=>split<;>first|rw[bO,ah h]|rfl
 case appN k y=>rw[bO,ah h]
 case rng x=>split<;>first|rw[bO,ah h]|rfl
 case st n p v=>
  split
  .rename_i hd;rw[hd]at h;rw[bO,ah (by simpa[cq]using h)]
  .rfl
 case stU n p v qs=>
  split
  .rename_i hd;rw[hd]at h;rw[bO,ah (by simpa[cq]using h)]
  .rfl
 case app k x y=>
  split
  .rename_i hd;rw[hd]at h;rw[bO,ah h.1,fF,ah (by simpa[cq]using h.2)]
  .rw[bO,ah h.1]
 case aU x=>
  grind [bO,cq]
 case callF n r args sh=>
  split
  .rename_i hd;rw[hd]at h;rw[bO,ah (by simpa[cq]using h)]
  .rfl
theorem kQ {i:aA}(h:i.calm=true){l:Nat}(hl:l∈i.wr J L):l=L:=by
 cases i<;>simp_all[aA.calm,aA.wr]
theorem fH {l:Nat}(h:ep m l k n):look m l≠none:=by
 intro e;simp[ep,e]at h
theorem Qb {i:aA}(h:i.eO Y J m){l:Nat}(hl:l∈i.wr J L):l=L\/look m l≠none:=by
 cases i<;>simp only[aA.wr,bH,cX,or_false]at hl<;>first
  |exact .inl hl
  |exact hl.elim
  |skip
 case upM x k v=>
  right;obtain⟨l0,kvs,hd,hl0,_⟩:=tP h.2.2.2.1;simp only[hd,DB,aF]at hl;subst hl;rw[hl0];simp
 case st n p v=>
  right;obtain⟨_,_,_,h4⟩:=h;cases hd:(J p).d<;>simp only[hd,cq,aF]at h4 hl;subst hl;exact fH h4.1
 case stU n p v qs=>
  right;obtain⟨_,_,_,h4⟩:=h;cases hd:(J p).d<;>simp only[hd,cq,aF]at h4 hl;subst hl;exact fH h4.1
 case app k x y=>
  rcases hl with hl|hl
  .exact .inl hl
  .right;obtain⟨_,_,_,h4⟩:=h;cases hd:(J x).d<;>simp only[hd,cq,aF,cX]at h4 hl;subst hl;exact fH h4.2.1
 case aU x=>
  right;obtain⟨_,h4⟩:=h;cases hd:(J x).d<;>simp only[hd,cq,aF,cX]at h4 hl;subst hl;intro e;simp[e]at h4
 case callF n r args sh=>
  right;obtain⟨_,_,_,h4⟩:=h;cases hd:(J r).d<;>simp only[hd,cq,aF,cX]at h4 hl;subst hl;exact fH h4.2.2.1
theorem tF {i:aA}(h:i.calm=true\/i.eO Y J m){l:Nat}(hl:look (i.bS Y J m L) l≠none):look m l≠none\/l=L:=by
 grind [kQ,Qb,zd]
omit [cO]in
theorem aak {i:aA}(h:i.pure=true):i.bS Y J m L=m:=by
 cases i<;>simp_all[aA.pure,aA.bS]
omit [cO]in
theorem VH {i:aA}(h:i.pure=true):i.calm=true:=by
 cases i<;>simp_all[aA.pure,aA.calm]
def aal {i:aA}(h:i.pure=true):i.nB J=some []:=by
 cases i<;>simp_all[aA.pure,aA.nB]
def UR {i:aA}(h:i.free=true):i.calm=true:=by
 cases i<;>simp_all[aA.free,aA.calm,aA.pure]
def aee {i:aA}(h:i.free=true):i.wr J L=[]:=by
 cases i<;>simp_all[aA.free,aA.wr,aA.pure]
def Yl {i:aA}(h:i.free=true):i.bS Y J m L=m:=by
 cases i<;>simp_all[aA.free,aA.bS,aA.pure]
theorem GO {sh:ζ}(h:sh.all Sh.isA=true):∀{d:D},gL m sh d->d.aV=true:=by
 have hL:∀(sh:ζ) (ds:Θ),sh.all Sh.isA=true->kH m sh ds->aP ds=true:=by
  intro sh;induction sh with
  |nil=>intro ds _ h;simpa[kH]using h
  |cons s r ih=>
   intro ds h ho;cases ds with
   |nil=>rfl
   |cons d ds=>
    grind [kH,Sh.isA,aP,iD]
 intro d ho;cases sh with
 |nil=>simpa[gL]using ho
 |cons s r=>
  have hs:s=.a:=by simp only[List.all_cons,aD]at h;cases s<;>simp_all[Sh.isA]
  cases d<;>simp only[gL]at ho<;>first
   |(subst hs;simpa[iD]using ho)
   |(rw[D.tR];exact hL _ _ h ho)
def zK:∀{ss:Ι}{ds:Θ},ss.all (λs=>s.all Sh.isA)=true->jm m ss ds->aP ds=true
 |ss,[],_,_=>by simp[aP]
 |[],d::r,h,ho=>by
  simp only[jm]at ho;simp only[aP,aD];exact⟨GO (sh:=[.a]) rfl ho.1,zK (ss:=[]) rfl ho.2⟩
 |s::ss,d::r,h,ho=>by
  simp only[jm]at ho;simp only[List.all_cons,aD]at h;simp only[aP,aD];exact⟨GO h.1 ho.1,zK h.2 ho.2⟩
def Ym {i:aA}(h:i.free=true)(ho:i.eO Y J m):i.nB J=some []:=by
 cases i<;>simp only[aA.free]at h<;>try(exact aal h)
 simp only[aA.nB,zK h ho.2.1,cond_true]
def DC {i:aA}(h:i.j0=true):i.calm=true:=by
 cases i<;>simp_all[aA.j0,aA.calm]
def Vo {i:aA}(h:i.j0=true):i.nB J=some []:=by
 cases i<;>simp_all[aA.j0,aA.nB]
theorem ze (h:CS m k d){l:Nat}(hl:l∈cq d):look m l≠none:=by
 cases d<;>simp only[cq,aF,cX,CS]at h hl;subst hl;exact fH h.2
theorem Cg {i:aA}(h:i.eO Y J m){ls:Ε}(hls:i.nB J=some ls){l:Nat}(hl:l∈ls):look m l≠none:=by
 cases i<;>simp only[aA.nB,aG,reduceCtorEq]at hls<;>first
  |(subst hls;exact absurd hl cX)
  |skip
 case upM x k v=>
  subst hls;obtain⟨l0,kvs,hd,hl0,_⟩:=tP h.2.2.2.1;simp only[hd,DB,aF]at hl;subst hl;rw[hl0];simp
 case lkM z x k=>
  subst hls;obtain⟨l0,kvs,hd,hl0,_⟩:=tP h.2.2.1;simp only[hd,DB,aF]at hl;subst hl;rw[hl0];simp
 case ldU n ag p=>
  subst hls;obtain⟨_,h4⟩:=h;cases hd:(J p).d<;>simp only[hd,cq,aF,cX]at h4 hl;subst hl;exact fH h4.1.1
 case ldW n ag p=>
  subst hls;obtain⟨_,h4⟩:=h;cases hd:(J p).d<;>simp only[hd,cq,aF,cX]at h4 hl;subst hl;exact fH h4.1.1
 case ld n ag p=>
  subst hls;obtain⟨_,h4⟩:=h;cases hd:(J p).d<;>simp only[hd,cq,aF,cX,MA]at h4 hl;subst hl;exact fH h4.1
 case st n p v=>
  subst hls;obtain⟨_,_,_,h4⟩:=h;cases hd:(J p).d<;>simp only[hd,cq,aF]at h4 hl;subst hl;exact fH h4.1
 case stU n p v qs=>
  subst hls;obtain⟨_,_,_,h4⟩:=h;cases hd:(J p).d<;>simp only[hd,cq,aF]at h4 hl;subst hl;exact fH h4.1
 case b2s x=>
  subst hls;exact ze h.2.2.1 hl
 case app k x y=>
  subst hls;obtain⟨_,_,h3,h4⟩:=h
  grind [cq,fH,ze]
 case appN k y=>
  subst hls;exact ze h.2.1 hl
 case aU x=>
  subst hls;obtain⟨_,h4⟩:=h;cases hd:(J x).d<;>simp only[hd,cq,aF,cX]at h4 hl;subst hl;intro e;simp[e]at h4
 case call f args sh=>
  cases hn:aP (iU J args)<;>simp only[hn,cond_true,cond_false,aG,reduceCtorEq]at hls;subst hls;exact absurd hl aJ
 case callv f args sh=>
  grind
 case callF n r args sh=>
  subst hls;obtain⟨_,_,_,h4⟩:=h;cases hd:(J r).d<;>simp only[hd,cq,aF,cX]at h4 hl;subst hl;exact fH h4.2.2.1
omit [cO]in
theorem zR {i:aA}(h:i.cR=false)(hf:i.lH draw g=true):
  fg Y draw (⟨i,g⟩::r) env vs st K=(zk vs g/\(flag vs g=true->i.eO Y (Src.ev env vs) st.m/\
     fg Y draw r env (vs++[⟨true,i.val Y (Src.ev env vs) st.m (st.nx+vs.length)⟩]) {st with m:=i.bS Y (Src.ev env vs) st.m (st.nx+vs.length)} K)/\
    (flag vs g=false->fg Y draw r env (vs++[⟨false,.any⟩]) st K)):=by
 cases i<;>first
  |(simp[aA.cR]at h;done)
  |(simp only[fg];rw[ak hf])
omit [cO]in
theorem nZ {i:aA}(h:i.cR=false)(hf:i.lH draw g=false):
  fg Y draw (⟨i,g⟩::r) env vs st K=(Ww vs i g/\(flag vs g=true->i.eO Y (Src.ev env vs) st.m)/\
   ((flag vs g=true->i.LC draw (Src.ev env vs))->∃d,(flag vs g=true->i.val Y (Src.ev env vs) st.m (st.nx+vs.length)=d)/\
     fg Y draw r env (vs++[⟨flag vs g,d⟩]) {st with m:=i.bS Y (Src.ev env vs) st.m (st.nx+vs.length)} K)):=by
 cases i<;>first
  |(simp[aA.cR]at h;done)
  |(simp only[fg];rw[ah (by rw[hf];simp)])
def RD.agV {v:Value}(h:RD ν x v d):(∀k es,d=.sl k es->es.length<=9223372036854775807)/\(∀l k i n,d=.own l k i n->n<=9223372036854775807)/\(∀s,d=.str s->s.length<=9223372036854775807):=by
 cases h<;>refine⟨?_, ?_, ?_⟩<;>intros<;>simp_all[maxLen]<;>omega
theorem Xn {i:aA}(h:∀s,(i=.len s\/i=.lenS s)->(draw=true->s.Gu=true)->(J s).ok=true->∃ν x v,RD ν x v (J s).d):i.LC draw J:=by
 cases i<;>simp only[aA.LC]
 case len s=>
  cases hb:(draw&& !s.Gu)<;>simp only[cond_true,cond_false];intro hok;obtain⟨ν,x,v,hr⟩:=h s (.inl rfl) (λhd=>by simpa[hd]using hb) hok;obtain⟨a1,a2,a3⟩:=hr.agV
  grind
 case lenS s=>
  cases hb:(draw&& !s.Gu)<;>simp only[cond_true,cond_false];intro hok;obtain⟨ν,x,v,hr⟩:=h s (.inr rfl) (λhd=>by simpa[hd]using hb) hok;obtain⟨a1,a2,a3⟩:=hr.agV
  grind
theorem Qe {o:Oper}{s:Src}(hc:C.op defs o=some (.len s)\/C.op defs o=some (.lenS s)):∃p∈o.op.operands.toList,C.src defs p=some s:=by
 cases ho:o.op with
 |call c=>
  obtain⟨callee,args,argTypes⟩:=c;cases callee with
  |builtin bu=>
   cases bu with
   |len=>
    simp only[CC.op,ho]at hc;split at hc
    .rename_i p t hargs htys;refine⟨p,by simp[Op.operands,Call.operands,hargs], ?_⟩;split at hc<;>simp_all
    .simp at hc
   |min=>simp only[CC.op,ho]at hc;(repeat' split at hc)<;>simp_all
   |max=>simp only[CC.op,ho]at hc;(repeat' split at hc)<;>simp_all
   |append=>simp only[CC.op,ho]at hc;(repeat' split at hc)<;>simp_all
   |_=>simp[CC.op,ho]at hc
  |value f=>
   grind [CC.op]
  |invoke r n=>simp only[CC.op,ho]at hc;(repeat' split at hc)<;>simp at hc
 |makeFunc fn fst caps=>cases fn<;>simp only[CC.op,ho]at hc<;>(repeat' split at hc)<;>simp_all
 |next it b=>cases b<;>simp[CC.op,ho]at hc
 |typeAssert p xt t ok=>cases ok<;>simp only[CC.op,ho]at hc<;>(try(repeat' split at hc))<;>simp at hc
 |lookup t p q ok=>
  cases ok with
  |true=>simp only[CC.op,ho]at hc;(repeat' split at hc)<;>simp_all
  |false=>simp only[CC.op,ho]at hc;(repeat' split at hc)<;>simp_all
 |makeMap t r=>cases r<;>simp only[CC.op,ho]at hc<;>(try(repeat' split at hc))<;>simp_all
 |_=>
  simp only[CC.op,ho]at hc
  (try(repeat' split at hc))<;>simp at hc
theorem Iy {o:Oper}{ss:ς}(hc:C.op defs o=some (.callM n ss)):
  ∃fid args tys,o.op=.call {callee:=.value (.func fid),args,argTypes:=tys}/\dV C.ν fid=some n/\C.bS.contains (2*n)=true/\C.wP defs args.toList=some ss:=by
 cases ho:o.op with
 |call c=>
  obtain⟨callee,args,argTypes⟩:=c;cases callee with
  |invoke r n=>simp only[CC.op,ho]at hc;(repeat' split at hc)<;>simp at hc
  |builtin b=>grind [CC.op]
  |value v=>grind [CC.op]
 |makeFunc fn fst caps=>cases fn<;>simp only[CC.op,ho]at hc<;>(repeat' split at hc)<;>simp_all
 |next it b=>cases b<;>simp[CC.op,ho]at hc
 |typeAssert p xt t ok=>cases ok<;>simp only[CC.op,ho]at hc<;>(try(repeat' split at hc))<;>simp at hc
 |lookup t p q ok=>
  cases ok with
  |true=>simp only[CC.op,ho]at hc;(repeat' split at hc)<;>simp_all
  |false=>simp only[CC.op,ho]at hc;(repeat' split at hc)<;>simp_all
 |makeMap t r=>cases r<;>simp only[CC.op,ho]at hc<;>(try(repeat' split at hc))<;>simp_all
 |_=>
  simp only[CC.op,ho]at hc
  (try(repeat' split at hc))<;>simp at hc
theorem FO {o:Oper}{fs:Src}{ss:ς}(hc:C.op defs o=some (.callvM fs ss)):
  ∃t args tys,o.op=.call {callee:=.value (.tmp t),args,argTypes:=tys}/\C.src defs (.tmp t)=some fs/\C.wP defs args.toList=some ss:=by
 cases ho:o.op with
 |call c=>
  obtain⟨callee,args,argTypes⟩:=c;cases callee with
  |invoke r n=>simp only[CC.op,ho]at hc;(repeat' split at hc)<;>simp at hc
  |builtin b=>grind [CC.op]
  |value v=>grind [CC.op]
 |makeFunc fn fst caps=>cases fn<;>simp only[CC.op,ho]at hc<;>(repeat' split at hc)<;>simp_all
 |next it b=>cases b<;>simp[CC.op,ho]at hc
 |typeAssert p xt t ok=>cases ok<;>simp only[CC.op,ho]at hc<;>(try(repeat' split at hc))<;>simp at hc
 |lookup t p q ok=>
  cases ok with
  |true=>simp only[CC.op,ho]at hc;(repeat' split at hc)<;>simp_all
  |false=>simp only[CC.op,ho]at hc;(repeat' split at hc)<;>simp_all
 |makeMap t r=>cases r<;>simp only[CC.op,ho]at hc<;>(try(repeat' split at hc))<;>simp_all
 |_=>
  simp only[CC.op,ho]at hc
  (try(repeat' split at hc))<;>simp at hc
def ZK {ev:Operand->Value}{o:Oper}{ss:ς}{K:Τ}(hcst:∀d,J (.c d)=⟨true,d⟩)(hΓ:Ok C.P C.ν C.bS Y)(hc:C.op defs o=some (.callM n ss))(hρ:vS C defs J ev x o.op.operands.toList)(hok:Ci J ss)(hs:fO C.ν x (look st.m))(hfr:fE st x)(htr:Y.tr n (iU J ss) st K):
  jU C.P x (λv x'=>∃d st',K d st'/\Step x x'/\RD C.ν x' v d/\fO C.ν x' (look st'.m)/\fE st' x') ((execOp ev o).run C.P x.w):=by
 obtain⟨fid,args,tys,ho,h1,h3,h2⟩:=Iy hc;have hv:=hρ (.func fid) dE (.c (.fn n [])) (by simp[CC.src,h1]) (by rw[hcst]);rw[hcst]at hv;obtain⟨s1,s2,s3⟩:=iK hρ _ _ (λo' ho'=>Ft) h2 hok;generalize hep:ev (.func fid)=vf at hv;cases hv with
 |er=>exact absurd (hΓ.small _ _ h1) ae
 |bx=>exact absurd (hΓ.small _ _ h1) ae
 |mpn=>exact absurd (hΓ.small _ _ h1) ae
 |fn fid' _ cs _ hν hl _=>
  have hcs:cs=#[]:=by apply Array.ext';simpa using hl
  subst hcs;have hrun:(execOp ev o).run C.P x.w=(callFunc fid' (args.map ev)).run C.P x.w:=by
   simp[execOp,ho,resolve,Deferred.ofValue,invoke,hep]
  rw[hrun];refine hΓ.bS fid' n hν x _ (iU J ss) st K (by simp;simpa using s2.symm) (λi hi=>?_) hs hfr htr;have:=s3 i hi
  rwa [<-Array.toList_map,bT]at this
theorem ae4 {ev:Operand->Value}{o:Oper}{s:Src}{ng:Bool}(hcst:∀d,J (.c d)=⟨true,d⟩)(hc:C.op defs o=some (.isNl s ng))(hρ:vS C defs J ev x o.op.operands.toList)(hok:(J s).ok=true)(hsl:slB (J s).d):
  ∃b,nlB (J s).d b/\(execOp ev o).run C.P x.w=.ok (.value (.bool (bif ng then !b else b))) x.w:=by
 obtain⟨t,p,q,u,e,ho,h1,h2,hu⟩:∃t p q u e,o.op=.binOp (if ng then .neq else .eql) t p q u/\C.src defs p=some s/\C.src defs q=some (.c .aO)/\C.P.underlying t=some (.slice e):=by
  cases ho:o.op with
  |binOp op t p q u=>
   simp only[CC.op,ho]at hc
   (repeat' split at hc)<;>simp only[aG,reduceCtorEq,aA.isNl.injEq]at hc
   all_goals
    obtain⟨rfl,rfl⟩:=hc;exact⟨t,p,q,u,_,rfl,ml,ml,ml⟩
  |call c=>
   obtain⟨callee,args,argTypes⟩:=c;cases callee with
   |invoke r n=>simp only[CC.op,ho]at hc;(repeat' split at hc)<;>simp at hc
   |builtin b=>grind [CC.op]
   |value v=>grind [CC.op]
  |typeAssert p xt t ok=>cases ok<;>simp only[CC.op,ho]at hc<;>(try(repeat' split at hc))<;>simp at hc
  |makeFunc fn fst caps=>cases fn<;>simp only[CC.op,ho]at hc<;>(repeat' split at hc)<;>simp_all
  |next it b=>cases b<;>simp[CC.op,ho]at hc
  |lookup t p q ok=>
   cases ok with
   |true=>simp only[CC.op,ho]at hc;(repeat' split at hc)<;>simp_all
   |false=>simp only[CC.op,ho]at hc;(repeat' split at hc)<;>simp_all
  |makeMap t r=>cases r<;>simp only[CC.op,ho]at hc<;>(try(repeat' split at hc))<;>simp_all
  |_=>
   simp only[CC.op,ho]at hc
   (try(repeat' split at hc))<;>simp at hc
 have hv:=hρ p rK s h1 hok;have hq:ev q=.slice none 0 0:=by
  have:=hρ q rK (.c .aO) h2 (by rw[hcst]);rw[hcst]at this;generalize ev q=vq at this;cases this;rfl
 obtain⟨a,n,c,he,hb⟩:∃a n c,ev p=.slice a n c/\nlB (J s).d a.isNone:=by
  generalize (J s).d=d at hv hsl⊢;generalize ev p=vp at hv⊢;cases hv<;>simp only[slB]at hsl
  case aO=>exact⟨_,_,_,rfl,rfl⟩
  case sl ha _ _ _ _ _ _ _=>exact⟨_,_,_,rfl,λhn=>ha.elim id λh=>by rw[h.1]at hn;cases hn⟩
  case own=>exact⟨_,_,_,rfl,λhn=>by cases hn⟩
  case own0=>exact⟨_,_,_,rfl,λ_=>rfl⟩
 refine⟨_,hb,sB (ev:=ev) ho (pn _ _ _ _ (by rw[he];exact⟨aJ,aJ⟩) _) ?_⟩;rw[he,hq];cases ng
 .simpa using Lib.run_eql_slice_nil x.w t e a n c 0 0 hu
 .simpa using run_neq_slice_nil_any (P:=C.P) x.w t e a n c 0 0 hu
def Vz {ev:Operand->Value}{o:Oper}{fs:Src}{caps:Θ}{ss:ς}{K:Τ}(hΓ:Ok C.P C.ν C.bS Y)(hc:C.op defs o=some (.callvM fs ss))(hρ:vS C defs J ev x o.op.operands.toList)(hfo:(J fs).ok=true)(hd:(J fs).d=.fn n caps)(hn2:n<2000000)(hok:Ci J ss)(hs:fO C.ν x (look st.m))(hfr:fE st x)(htr:Y.tr (Ph n) (Pg n (iU J ss) caps) st K):
  jU C.P x (λv x'=>∃d st',K d st'/\Step x x'/\RD C.ν x' v d/\fO C.ν x' (look st'.m)/\fE st' x') ((execOp ev o).run C.P x.w):=by
 obtain⟨t,args,tys,ho,h1,h2⟩:=FO hc;have hv:=hρ (.tmp t) dE fs h1 hfo;rw[hd]at hv;obtain⟨s1,s2,s3⟩:=iK hρ _ _ (λo' ho'=>Ft) h2 hok;have hsz:args.size=(iU J ss).length:=by simpa using s2.symm
 generalize hep:ev (.tmp t)=vf at hv;cases hv with
 |bx=>exact absurd hn2 ae
 |mpn=>exact absurd hn2 ae
 |im=>exact absurd hn2 ae
 |fn fid' _ cs _ hν hl hcs=>
  have hn:=hΓ.small _ _ hν;have e1:Ph n=n:=by simp[Ph,hn]
  have e2:Pg n (iU J ss) caps=iU J ss++caps:=by simp[Pg,hn]
  rw[e1,e2]at htr;have hrun:(execOp ev o).run C.P x.w=(callFunc fid' (args.map ev++cs)).run C.P x.w:=by
   simp[execOp,ho,resolve,Deferred.ofValue,invoke,hep]
  rw[hrun];refine hΓ.bS fid' n hν x _ (iU J ss++caps) st K (by simp[hl,hsz]) (λi hi=>?_) hs hfr htr;rw[nJ,cY];simp only[Array.size_map,hsz];split
  .rename_i hlt;have:=s3 i hlt
   rwa [<-Array.toList_map,bT]at this
  .exact hcs _ (by simp at hi;omega)
 |er fid' n' cs _ hν hl hcs=>
  have e1:Ph (n'+1000000)=n':=by unfold Ph;rw[ah ae];omega
  have e2:Pg (n'+1000000) (iU J ss) caps=caps++iU J ss:=by unfold Pg;rw[ah ae]
  rw[e1,e2]at htr;have hrun:(execOp ev o).run C.P x.w=(callFunc fid' (cs++args.map ev)).run C.P x.w:=by
   simp[execOp,ho,resolve,Deferred.ofValue,invoke,hep]
  rw[hrun];refine hΓ.bS fid' n' hν x _ (caps++iU J ss) st K (by simp[hl,hsz]) (λi hi=>?_) hs hfr htr;rw[nJ,cY];rw[hl];split
  .exact hcs i ml
  .have:=s3 (i-caps.length) (by simp at hi;omega)
   rwa [<-Array.toList_map,bT]at this
end
end
section
variable [cO]
section
variable {C:CC}{Y:Ctx}
def fE.up (h:fE st x)(hn:st.nx<=n):fE ⟨n,st.m⟩ x:=
 ⟨λl hl=>h.β l (fC hn hl),λl hl=>js (h.m l hl) hn⟩
def Bo.iff {D D':Lab}(h:Bo C env DD VS D a x)(hD:∀p,D' p↔D p):Bo C env DD VS D' a x:=by
 have:D'=D:=funext λp=>propext (hD p)
 subst this;exact h
def Bo.ext (e:a7)(h:Bo C env DD vs (· <k) a x)(hk:vs.length=k):Bo C env DD (vs++[e]) (· <k) a x:=by
 have hg:∀p,p<k->(vs++[e]).getD p .un=vs.getD p .un:=λp hp=>by rw[cY,ak ae]
 exact⟨λp t hp h1 h2=>by rw[hg p hp]at h2⊢;exact h.val p t hp h1 h2,λp t hp h1 h2=>by rw[hg p hp]at h2;exact h.und p t hp h1 h2,h.old,h.size,h.defers⟩
def fO.eq {f':Nat->Χ}(h:fO ν x f)(e:∀l,f' l=f l):fO ν x f':=by
 have:f'=f:=funext e;subst this;exact h
def abd {ops:Array Oper}(hsp:Spec C ops.toList l)(hΓ:Ok C.P C.ν C.bS Y){Kc:Lag}{D:Lab}{o:Oper}{g:GI}(ho:ops[k]? =some o)(hg1:l[k]? =some g)(hg2:OpX C ((ops.toList.map (·.dst)).take k) o g.i)(hg3:CC.guard ((ops.toList.map (·.dst)).take k) o.guard=some g.g)(hk:vs.length=k)(hDlt:∀p,D p->p<k)(hreads:∀t p,Operand.tmp t∈o.op.operands.toList->(ops.toList.map (·.dst))[p]? =some (some t)->(p<k->D p)/\(k<=p->¬D p))(hgd:∀j w,o.guard=some (j,w)->j<k->D j)(hmid:Bo C env (ops.toList.map (·.dst)) vs D a x)(hs:fO C.ν x (look st.m))(hf:fE ⟨st.nx+k,st.m⟩ x)(hw:fg Y false (g::r) env vs st K)(hK:∀e st' x' a',Bo C env (ops.toList.map (·.dst)) (vs++[e]) (λp=>D p\/p=k) a' x'->Step x x'->fO C.ν x' (look st'.m)->fE ⟨st'.nx+(k+1),st'.m⟩ x'->fg Y false r env (vs++[e]) st' K->Kc a' x'.w):wpOp C.P ops Q k Kc a x.w:=by
 have ho':ops.toList[k]? =some o:=by simpa using ho
 have hvt:vs.take k=vs:=gG ae;have hρ:vS C ((ops.toList.map (·.dst)).take k) (Src.ev env vs) a.eval x o.op.operands.toList:=by
  have:=hmid.rho (i:=k) (os:=o.op.operands.toList) hreads
  rwa [hvt]at this
 have hcst:∀d,Src.ev env vs (.c d)=⟨true,d⟩:=λ_=>rfl
 have hdst:(ops.toList.map (·.dst))[k]? =some o.dst:=by rw[List.getElem?_map,ho',Option.map_some]
 have hput:∀(e:a7) (v:Value) (x':X),Le x x'->(e.ok=true->RD C.ν x' v e.d)->(e.ok=false->v=undef)->Bo C env (ops.toList.map (·.dst)) (vs++[e]) (λp=>D p\/p=k) (a.put o.dst v) x':=by
  intro e v x' hle h1 h2;have he:(vs++[e]).getD k .un=e:=by rw[cY,ah ae];simp[hk]
  have hext:Bo C env (ops.toList.map (·.dst)) (vs++[e]) D a x:=by
   have hg:∀p,D p->(vs++[e]).getD p .un=vs.getD p .un:=λp hp=>by rw[cY,ak (by have:=hDlt p hp;omega)]
   exact⟨λp t hp h1 h2=>by rw[hg p hp]at h2⊢;exact hmid.val p t hp h1 h2,λp t hp h1 h2=>by rw[hg p hp]at h2;exact hmid.und p t hp h1 h2,hmid.old,hmid.size,hmid.defers⟩
  exact hext.put (i:=k) hle hdst (λt ht=>⟨(hsp.dst k o t ho' ht).1,λp hp e'=>hp (hsp.distinct (by rw[hdst,ht]) e')⟩) (by rw[he];exact h1) (by rw[he];exact h2) (λp=>Iff.rfl)
 unfold wpOp;simp only[ho];obtain⟨i,gd⟩:=g;by_cases hcm:i.cR=true
 .cases i<;>simp only[aA.cR]at hcm<;>try cases hcm
  .rename_i f ss;simp only[fg]at hw;obtain⟨w1,w2,w3⟩:=hw;have hfl:=kK (g:=⟨.callM f ss,gd⟩) hmid hg3 hgd (by rw[hvt];exact w1);simp only[hvt]at hfl;rw[hfl];cases hfg:flag vs gd with
   |true=>
    rw[ak rfl];left;obtain⟨w4,w5⟩:=w2 hfg;rw[hk]at w5;refine(ZK (st:=⟨st.nx+k,st.m⟩) hcst hΓ RC hρ w4 hs hf w5).wp (λv x' hG=>?_);obtain⟨d,st',hK1,hst1,hrd,hs1,hf1⟩:=hG;obtain⟨hnx,hw'⟩:=hK1;refine hK ⟨true,d⟩ ⟨st'.nx-k,st'.m⟩ x' (a.put o.dst v) (hput ⟨true,d⟩ v x' hst1.le (λ_=>hrd) (λh=>cb)) hst1 hs1 ?_ hw';exact hf1.up rL
   |false=>
    rw[ah aJ];refine hK ⟨false,.any⟩ st x (a.put o.dst undef) (hput ⟨false,_⟩ undef x (Le.refl x) (λh=>cb) (λ_=>rfl)) (.refl _) hs ?_ (w3 hfg);exact⟨λl' hl'=>hf.β l' Ah,λl' hl'=>Fv⟩
  .rename_i f ss;simp only[fg]at hw;obtain⟨w1,w2,w3⟩:=hw;have hfl:=kK (g:=⟨.callvM f ss,gd⟩) hmid hg3 hgd (by rw[hvt];exact w1);simp only[hvt]at hfl;rw[hfl];cases hfg:flag vs gd with
   |true=>
    rw[ak rfl];left;obtain⟨w0,w4,w5⟩:=w2 hfg;rw[hk]at w5;cases hd:(Src.ev env vs f).d<;>simp only[hd]at w5;refine(Vz (st:=⟨st.nx+k,st.m⟩) hΓ RC hρ w0 hd w5.1 w4 hs hf w5.2).wp (λv x' hG=>?_);obtain⟨d,st',hK1,hst1,hrd,hs1,hf1⟩:=hG;obtain⟨hnx,hw'⟩:=hK1;refine hK ⟨true,d⟩ ⟨st'.nx-k,st'.m⟩ x' (a.put o.dst v) (hput ⟨true,d⟩ v x' hst1.le (λ_=>hrd) (λh=>cb)) hst1 hs1 ?_ hw';exact hf1.up rL
   |false=>
    rw[ah aJ];refine hK ⟨false,.any⟩ st x (a.put o.dst undef) (hput ⟨false,_⟩ undef x (Le.refl x) (λh=>cb) (λ_=>rfl)) (.refl _) hs ?_ (w3 hfg);exact⟨λl' hl'=>hf.β l' Ah,λl' hl'=>Fv⟩
  .rename_i s ng;simp only[fg]at hw;obtain⟨w1,w2,w3⟩:=hw;have hfl:=kK (g:=⟨.isNl s ng,gd⟩) hmid hg3 hgd (by rw[hvt];exact w1);simp only[hvt]at hfl;rw[hfl];cases hfg:flag vs gd with
   |true=>
    rw[ak rfl];left;obtain⟨w0,w1,w2⟩:=w2 hfg;obtain⟨b,hb,hrun⟩:=ae4 hcst RC hρ w0 w1;refine jU.wp (G:=λv x'=>v=.bool (bif ng then !b else b)/\x'=x) (.inl ⟨_,x,.inl hrun,rfl,rfl⟩) (λv x' hG=>?_);obtain⟨rfl,rfl⟩:=hG;refine hK ⟨true,.bool (bif ng then !b else b)⟩ st _ _ (hput ⟨true,_⟩ _ _ (Le.refl _) (λ_=>.bool _) (λh=>cb)) (.refl _) hs ?_ (w2 b hb);exact⟨λl' hl'=>hf.β l' Ah,λl' hl'=>Fv⟩
   |false=>
    rw[ah aJ];refine hK ⟨false,.any⟩ st x (a.put o.dst undef) (hput ⟨false,_⟩ undef x (Le.refl x) (λh=>cb) (λ_=>rfl)) (.refl _) hs ?_ (w3 hfg);exact⟨λl' hl'=>hf.β l' Ah,λl' hl'=>Fv⟩
 .have hcm':i.cR=false:=by simpa using hcm
  have hL:x.β (st.nx+k)=none:=hf.β _ (aR _);have hlL:look st.m (st.nx+k)=none:=by
   cases hx:look st.m (st.nx+k)with
   |none=>rfl
   |some b=>have:=hf.m (st.nx+k) (by simp only;rw[hx];simp);simp only at this;omega
  by_cases hfk:i.lH false gd=true
  .rw[zR hcm' hfk]at hw;obtain⟨w1,w2,w3⟩:=hw;have hfl:=kK (g:=⟨i,gd⟩) hmid hg3 hgd (by rw[hvt];exact w1);simp only[hvt]at hfl;rw[hfl];rw[hk]at w2;cases hfg:flag vs gd with
   |true=>
    rw[ak rfl];left;obtain⟨hob,hw'⟩:=w2 hfg;have hag:FA (look st.m) st.m (i.nB (Src.ev env vs)):=by
     unfold FA;split<;>intros<;>rfl
    refine(Ix (L:=st.nx+k) hg2 hcm' hΓ hρ hcst hob hs hag hL hlL (λ_=>rfl)).wp (λv x' hG=>?_);obtain⟨g1,g2,g3,g4⟩:=hG;refine hK ⟨true,_⟩ _ x' (a.put o.dst v) (hput ⟨true,_⟩ v x' g1.le (λ_=>g2) (λh=>cb)) g1 ?_ ?_ hw'
    .refine g3.eq λl'=>?_
     by_cases hlw:l'∈i.wr (Src.ev env vs) (st.nx+k)
     .simp[jg,hlw]
     .simp only[jg,hlw,ba];exact zd hlw
    .refine⟨λl' hl'=>?_,λl' hl'=>?_⟩
     .have hl'':st.nx+(k+1)<=l':=hl';rw[g4 l' ae];exact hf.β l' (by show st.nx+k<=l';omega)
     .show l'<st.nx+(k+1);rcases tF (.inr hob) hl' with h|h
      .have:=hf.m l' h;simp only at this;omega
      .omega
   |false=>
    rw[ah aJ];have hw':=w3 hfg;refine hK ⟨false,.any⟩ st x (a.put o.dst undef) (hput ⟨false,_⟩ undef x (Le.refl x) (λh=>cb) (λ_=>rfl)) (.refl _) hs ?_ hw';exact⟨λl' hl'=>hf.β l' Ah,λl' hl'=>Fv⟩
  rw[nZ hcm' (by simpa using hfk)]at hw;obtain⟨w1,w2,w3⟩:=hw;have hfl:=kK (g:=⟨i,gd⟩) hmid hg3 hgd (by rw[hvt];exact agH w1);simp only[hvt]at hfl;rw[hfl];rw[hk]at w3;cases hfg:flag vs gd with
  |true=>
   rw[ak rfl];left;have hob:=w2 hfg;have hasm:i.LC false (Src.ev env vs):=by
    refine Xn λs hs' _ hok=>?_
    obtain⟨p,hp1,hp2⟩:=Qe (C:=C) (o:=o) (s:=s) (defs:=(ops.toList.map (·.dst)).take k) (by rcases hs' with rfl|rfl<;>rcases hg2 with h|⟨_,_,_,h,_⟩|⟨_,_,h,_⟩|⟨_,_,_,_,h,_⟩|⟨_,_,_,h|h,_⟩|⟨_,_,_,_,h,_⟩<;>first|exact .inl h|exact .inr h|cases h);exact⟨_,_,_,hρ p hp1 s hp2 hok⟩
   obtain⟨dv,hdv,hw'⟩:=w3 (λ_=>hasm);replace hdv:=hdv hfg;have hag:FA (look st.m) st.m (i.nB (Src.ev env vs)):=by
    unfold FA;split<;>intros<;>rfl
   refine(Ix (L:=st.nx+k) hg2 hcm' hΓ hρ hcst hob hs hag hL hlL (λ_=>rfl)).wp (λv x' hG=>?_);obtain⟨g1,g2,g3,g4⟩:=hG;rw[hfg]at hw';rw[hdv]at g2;refine hK ⟨true,_⟩ _ x' (a.put o.dst v) (hput ⟨true,_⟩ v x' g1.le (λ_=>g2) (λh=>cb)) g1 ?_ ?_ hw'
   .refine g3.eq λl'=>?_
    by_cases hlw:l'∈i.wr (Src.ev env vs) (st.nx+k)
    .simp[jg,hlw]
    .simp only[jg,hlw,ba];exact zd hlw
   .refine⟨λl' hl'=>?_,λl' hl'=>?_⟩
    .have hl'':st.nx+(k+1)<=l':=hl';rw[g4 l' ae];exact hf.β l' (by show st.nx+k<=l';omega)
    .show l'<st.nx+(k+1);rcases tF (.inr hob) hl' with h|h
     .have:=hf.m l' h;simp only at this;omega
     .omega
  |false=>
   rw[ah aJ];have hcalm:i.calm=true:=by
    cases gd with
    |none=>simp[flag]at hfg
    |some jw=>obtain⟨j,w⟩:=jw;exact w1.1
   obtain⟨dv,hdv,hw'⟩:=w3 (λh=>by rw[hfg]at h;cases h);rw[hfg]at hw';refine hK ⟨false,_⟩ _ x (a.put o.dst undef) (hput ⟨false,_⟩ undef x (Le.refl x) (λh=>cb) (λ_=>rfl)) (.refl _) ?_ ?_ hw'
   .refine hs.less λl'=>?_
    by_cases hlw:l'∈i.wr (Src.ev env vs) (st.nx+k)
    .exact .inr (.inr (by rw[kQ hcalm hlw];exact hL))
    .exact .inl (zd hlw)
   .refine⟨λl' hl'=>hf.β l' Ah,λl' hl'=>?_⟩;show l'<st.nx+(k+1);rcases tF (Y:=Y) (.inl hcalm) hl' with h|h
    .have:=hf.m l' h;simp only at this;omega
    .omega
def TF {ops:Array Oper}(hsp:Spec C ops.toList l)(hΓ:Ok C.P C.ν C.bS Y){x0:X}(hK:∀vs' st' a' x',K vs' st'->vs'.length=ops.size->Bo C env (ops.toList.map (·.dst)) vs' (· <ops.size) a' x'->Step x0 x'->fO C.ν x' (look st'.m)->fE st' x'->Q .normal a' x'.w):
  ∀(n k:Nat) (vs:Φ) (st:St) (x:X) (a:Act),k+n=ops.size->vs.length=k->Bo C env (ops.toList.map (·.dst)) vs (· <k) a x->Step x0 x->fO C.ν x (look st.m)->fE ⟨st.nx+k,st.m⟩ x->
   fg Y false (l.drop k) env vs st K->wpOps C.P ops Q (List.range' k n) a x.w:=by
 intro n;induction n with
 |zero=>
  intro k vs st x a hkn hk hmid hst hs hf hw;have hlen:=hsp.len;have hd:l.drop k=[]:=kA (by simp at hlen;omega);rw[hd]at hw;simp only[fg]at hw;simp only[List.range'_zero,wpOps];obtain rfl:k=ops.size:=ae;exact hK vs _ a x hw hk hmid hst hs (by rw[hk];exact hf)
 |succ n ih=>
  intro k vs st x a hkn hk hmid hst hs hf hw;have hkl:k<ops.size:=ae;obtain⟨o,ho⟩:∃o,ops[k]? =some o:=⟨ops[k],by simp[hkl]⟩
  obtain⟨g,hg1,hg2,hg3⟩:=hsp.op k o (by simpa using ho);have hlk:k<l.length:=by have:=hsp.len;simp at this;omega
  have hdrop:l.drop k=g::l.drop (k+1):=by
   rw[fD hlk];congr 1;exact(List.getElem?_eq_some_iff.1 hg1).2
  rw[hdrop]at hw;rw[List.range'_succ,wpOps_cons];exact abd hsp hΓ ho hg1 hg2 hg3 hk (λ_ h=>h) (λt p _ _=>⟨λh=>h,λh=>ae⟩) (λj w _ h=>h) hmid hs hf hw
   (λe st' x' a' h1 h2 h3 h4 h5=>ih (k+1) _ st' x' a' ae (by simp[hk]) (h1.iff λp=>ae) (hst.trans h2) h3 h4 h5)
end
end
section
variable [cO]
section
variable {C:CC}{Y:Ctx}
structure Trace (Y:Ctx)(l:Υ)(env:Φ)(nx:Nat)(VS:Φ)(M:Nat->Γ):Prop where
 step:∀(k:Nat) (g:GI),l[k]? =some g->M (k+1)=g.i.bS Y (Src.ev env (VS.take k)) (M k) (nx+k)
 stop:∀k:Nat,l[k]? =none->M (k+1)=M k
 ent:∀(k:Nat) (g:GI),l[k]? =some g->(VS.getD k .un).ok=flag (VS.take k) g.g/\(flag (VS.take k) g.g=true->g.i.val Y (Src.ev env (VS.take k)) (M k) (nx+k)=(VS.getD k .un).d)
 Ww:∀(k:Nat) (g:GI),l[k]? =some g->Ww (VS.take k) g.i g.g
 eO:∀(k:Nat) (g:GI),l[k]? =some g->flag (VS.take k) g.g=true->g.i.eO Y (Src.ev env (VS.take k)) (M k)
 len:VS.length=l.length
 fresh0:∀l',look (M 0) l'≠none->l'<nx
theorem Es {env:Φ}{K:Φ->St->Prop}:∀(l:Υ) (vs:Φ) (st:St),(∀g∈l,g.i.cR=false)->(∀g∈l,∀vs',g.i.LC true (Src.ev env vs'))->fg Y true l env vs st K->
  ∃(VS:Φ) (M:Nat->Γ),VS.take vs.length=vs/\VS.length=vs.length+l.length/\(∀k,k<=vs.length->M k=st.m)/\(∀k,vs.length+l.length<=k->M k=M (vs.length+l.length))/\
   (∀(k:Nat) (g:GI),l[k]? =some g->M (vs.length+k+1)=g.i.bS Y (Src.ev env (VS.take (vs.length+k))) (M (vs.length+k)) (st.nx+(vs.length+k))/\
     ((VS.getD (vs.length+k) .un).ok=flag (VS.take (vs.length+k)) g.g/\(flag (VS.take (vs.length+k)) g.g=true->g.i.val Y (Src.ev env (VS.take (vs.length+k))) (M (vs.length+k)) (st.nx+(vs.length+k))=(VS.getD (vs.length+k) .un).d))/\
     Ww (VS.take (vs.length+k)) g.i g.g/\(flag (VS.take (vs.length+k)) g.g=true->g.i.eO Y (Src.ev env (VS.take (vs.length+k))) (M (vs.length+k))))/\
   K VS ⟨st.nx+(vs.length+l.length),M (vs.length+l.length)⟩
 |[],vs,st,_,_,h=>⟨vs,λ_=>st.m,aJ,aJ,λ_ _=>rfl,λ_ _=>rfl,λk g h=>ix,by simpa[fg]using h⟩
 |⟨i,g⟩::r,vs,st,hcm,hasm,h=>by
  rw[nZ (hcm _ (.head _)) rfl]at h;obtain⟨w1,w2,w3⟩:=h;obtain⟨dv,hdv,w3⟩:=w3 λ_=>hasm _ (.head _) vs
  obtain⟨VS,M,a1,a2,a3,a4,a5,a6⟩:=Es r _ _ (λg hg=>hcm g (.tail _ hg)) (λg hg=>hasm g (.tail _ hg)) w3;simp only[cx,bJ,cj,cG]at a1 a2 a3 a4 a5 a6;have b1:VS.take vs.length=vs:=by
   have:=ay (List.take vs.length) a1;rw[List.take_take,Nat.min_eq_left ae]at this;rw[this];simp
  have b2:VS.getD vs.length .un=⟨flag vs g,dv⟩:=by
   have:(VS.take (vs.length+1)).getD vs.length .un=VS.getD vs.length .un:=getD_take _ _ _ _ ae;rw[<-this,a1,cY,ah ae];simp
  refine⟨VS,λk=>if k<=vs.length then st.m else M k,b1,uR,λk hk=>by simp[hk],λk hk=>?_,λk gi hk=>?_, ?_⟩
  .simp only[bJ]at hk⊢;rw[ah ae,ah ae,a4 k ae,a4 (vs.length+(r.length+1)) ae]
  .cases k with
   |zero=>
    simp only[List.getElem?_cons_zero,aG]at hk;subst hk;simp only[Nat.add_zero];rw[ah ae,ak ae,b1,b2,a3 (vs.length+1) ae];exact⟨rfl,⟨rfl,hdv⟩,w1,w2⟩
   |succ k=>
    grind
  .simp only[bJ];rw[ah ae];have e:vs.length+1+r.length=vs.length+(r.length+1):=ae;rw[e]at a6;exact a6
theorem Bg (hcm:∀g∈l,g.i.cR=false)(hasm:∀g∈l,∀vs',g.i.LC true (Src.ev env vs'))(hf:∀l',look st.m l'≠none->l'<st.nx)(h:fg Y true l env [] st K):∃VS M,Trace Y l env st.nx VS M/\M 0=st.m/\K VS ⟨st.nx+l.length,M l.length⟩:=by
 obtain⟨VS,M,a1,a2,a3,a4,a5,a6⟩:=Es l [] st hcm hasm h;simp only[cj,cG]at a1 a2 a3 a4 a5 a6;refine⟨VS,M,⟨λk g hk=>(a5 k g hk).1,λk hk=>?_,λk g hk=>(a5 k g hk).2.1,λk g hk=>(a5 k g hk).2.2.1,λk g hk=>(a5 k g hk).2.2.2,a2, ?_⟩,a3 0 (aR _),a6⟩
 .grind
 .rw[a3 0 (aR _)];exact hf
section trace
variable {nx:Nat}{M:Nat->Γ}
def Trace.qS (h:Trace Y l env nx VS M){g:GI}(hg:l[k]? =some g):g.i.calm=true\/(g.g=none/\g.i.eO Y (Src.ev env (VS.take k)) (M k)):=by
 cases hc:g.i.calm with
 |true=>exact .inl rfl
 |false=>
  right;have h1:=h.Ww k g hg;have hn:g.g=none:=by
   cases hgg:g.g with
   |none=>rfl
   |some jw=>obtain⟨j,w⟩:=jw;rw[hgg]at h1;have:=h1.1;rw[hc]at this;cases this
  exact⟨hn,h.eO k g hg (by rw[hn];rfl)⟩
def Trace.fresh (h:Trace Y l env nx VS M):∀(k l':Nat),look (M k) l'≠none->l'<nx+k
 |0,l',hl=>h.fresh0 l' hl
 |k+1,l',hl=>by
  cases hg:l[k]? with
  |none=>
   rw[h.stop k hg]at hl;have:=Trace.fresh h k l' hl;omega
  |some g=>
   rw[h.step k g hg]at hl;have hco:g.i.calm=true\/g.i.eO Y (Src.ev env (VS.take k)) (M k):=(h.qS hg).imp id (·.2);rcases tF hco hl with h1|h1
   .have:=Trace.fresh h k l' h1;omega
   .omega
def Trace.mc (h:Trace Y l env nx VS M){l':Nat}:∀(n u:Nat),(∀(q:Nat) (g:GI),u<=q->q<u+n->l[q]? =some g->l'∉g.i.wr (Src.ev env (VS.take q)) (nx+q))->look (M (u+n)) l'=look (M u) l'
 |0,u,_=>rfl
 |n+1,u,hq=>by
  rw[<-Trace.mc h n u (λq g h1 h2=>hq q g h1 ae)];rw[<-Nat.add_assoc];cases hg:l[u+n]? with
  |none=>rw[h.stop _ hg]
  |some g=>rw[h.step _ g hg];exact zd (hq (u+n) g ae ae hg)
theorem Trace.same (h:Trace Y l env nx VS M){l' u v:Nat}(hq:∀(q:Nat)(g:GI),min u v<=q->q<max u v->l[q]? =some g->l'∉g.i.wr (Src.ev env (VS.take q)) (nx+q)):look (M u) l'=look (M v) l':=by
 rcases Nat.le_total u v with huv|huv
 .have:=h.mc (l':=l') (v-u) u (λq g h1 h2=>hq q g ae ae)
  grind
 .have:=h.mc (l':=l') (u-v) v (λq g h1 h2=>hq q g ae ae)
  grind
end trace
theorem vT (acc:Ε)(p:Nat):∀(es:List Edge),(rM acc es).testBit p=true->∃e∈es,Region.binds .any e=true/\(p=e.on\/(acc.getD e.on 0).testBit p=true)
 |[],h=>by simp[rM]at h
 |e::r,h=>by
  simp only[rM]at h;split at h
  .rename_i hb;rw[Nat.testBit_or,dk,Nat.testBit_or,dk]at h;rcases h with(h|h)|h
   .grind
   .exact⟨e,.head _,hb,.inr h⟩
   .obtain⟨e',h1,h2⟩:=vT acc p r h;exact⟨e',.tail _ h1,h2⟩
  .obtain⟨e',h1,h2⟩:=vT acc p r h;exact⟨e',.tail _ h1,h2⟩
theorem Gb:∀(ops:List Oper) (acc:Ε),(qa acc ops).take acc.length=acc/\(qa acc ops).length=acc.length+ops.length/\
  ∀(j:Nat) (o:Oper),ops[j]? =some o->(qa acc ops).getD (acc.length+j) 0=rM ((qa acc ops).take (acc.length+j)) o.after.toList
 |[],acc=>⟨by simp[qa],by simp[qa],λj o h=>ix⟩
 |o::r,acc=>by
  obtain⟨a1,a2,a3⟩:=Gb r (acc++[rM acc o.after.toList]);simp only[cx,bJ,cj,cG]at a1 a2 a3;have e:qa acc (o::r)=qa (acc++[rM acc o.after.toList]) r:=rfl;rw[e];have b1:(qa (acc++[rM acc o.after.toList]) r).take acc.length=acc:=by
   have:=ay (List.take acc.length) a1;rw[List.take_take,Nat.min_eq_left ae]at this;rw[this];simp
  refine⟨b1,uR,λj o' hj=>?_⟩;cases j with
  |zero=>
   simp only[List.getElem?_cons_zero,aG]at hj;subst hj;rw[Nat.add_zero,b1];have:((qa (acc++[rM acc o.after.toList]) r).take (acc.length+1)).getD acc.length 0=(qa (acc++[rM acc o.after.toList]) r).getD acc.length 0:=getD_take _ _ _ _ ae;rw[<-this,a1,cY,ah ae];simp
  |succ j=>
   grind
theorem xA:∀(ops:List Oper) (p:Nat),B8 p ops=true->∀(j:Nat) (o:Oper),ops[j]? =some o->∀e∈o.after,Region.binds .any e=true->e.on<p+j
 |[],p,_,j,o,h=>by simp at h
 |o::r,p,h,j,o',hj=>by
  simp only[B8,aD,List.all_eq_true]at h;cases j with
  |zero=>
   grind
  |succ j=>
   intro e he hb;have:=xA r (p+1) h.2 j o' nU e he hb;omega
def y0 (i j:Nat):Prop:=(bs.getD (max j i) 0).testBit (min j i)=true
def ExU (l:Υ)(gj gi:aA)(j i:Nat):Prop:=gi.ox=true/\((gj.isApp=true/\j<i)\/(gi.isUU=true/\gj.nK=true/\i<j/\∀q g,i<q->q<j->l[q]? =some g->g.i.calm=true\/g.i.nK=true)\/(gi.isW=true/\gj.narrow gi.SL=true/\i<j/\∀q g,i<q->q<j->l[q]? =some g->g.i.calm=true\/g.i.narrow gi.SL=true))
structure Order (ops:List Oper)(l:Υ)(bs:Ε):Prop where
 bef:∀(j:Nat) (o:Oper),ops[j]? =some o->∀p,(bs.getD j 0).testBit p=true->∃e∈o.after,Region.binds .any e=true/\(p=e.on\/(bs.getD e.on 0).testBit p=true)
 edge:∀(j:Nat) (o:Oper),ops[j]? =some o->∀e∈o.after,Region.binds .any e=true->e.on<j
 reads:∀(j p:Nat) (oj op:Oper) (t:Nat),ops[j]? =some oj->ops[p]? =some op->op.dst=some t->t∈tmpsOf ops oj->p=j\/y0 bs p j
 effs:∀(j i:Nat) (gj gi:GI),l[j]? =some gj->l[i]? =some gi->gj.i.calm=false->gi.i.free=false->(gi.i.j0=false\/(gj.i.isApp=true/\i<j))->i=j\/y0 bs i j\/ExU l gj.i gi.i j i
def ZW {ops:List Oper}(h:CR ops l=true):Order ops l (qa [] ops):=by
 simp only[CR,aD]at h;obtain⟨h1,h2,_,h4⟩:=h;obtain⟨b1,b2,b3⟩:=Gb ops [];simp only[cj,cG]at b2 b3;refine⟨λj o hj p hp=>?_,λj o hj e he hb=>by simpa using xA ops 0 h4 j o hj e he hb,λj p oj op t hj hp hd ht=>?_,λj i gj gi hj hi hc hpu hmk=>?_⟩
 .rw[b3 j o hj]at hp;obtain⟨e,e1,e2,e3⟩:=vT _ _ _ hp;refine⟨e,by simpa using e1,e2,e3.imp id λh=>?_⟩;by_cases hlt:e.on<j
  .rwa [getD_take _ _ _ _ hlt]at h
  .simp only[List.getD,List.getElem?_take,hlt,ba,Option.getD_none,Nat.zero_testBit]at h;cases h
 .have hjl:j<ops.length:=(List.getElem?_eq_some_iff.1 hj).1;have hpl:p<ops.length:=(List.getElem?_eq_some_iff.1 hp).1;simp only[Tx,List.all_eq_true,List.mem_range]at h1;have:=h1 j hjl p hpl;simp only[hj,hp,hd,dk,beq_iff_eq,b8,List.contains_eq_mem,bR]at this;rcases this with(h|h)|h
  .exact .inl h
  .exact absurd ht h
  .exact .inr h
 .have hjl:j<l.length:=(List.getElem?_eq_some_iff.1 hj).1;have hil:i<l.length:=(List.getElem?_eq_some_iff.1 hi).1;simp only[agE,List.all_eq_true,List.mem_range]at h2;have:=h2 j hjl i hil;have hm:(gi.i.j0&&(!gj.i.isApp ||decide (j<i)))=false:=by
   rcases hmk with h|⟨h,h3⟩
   .simp[h]
   .simp[h,show ¬j<i by omega]
  simp only[hj,hi,hc,hpu,hm,Bool.false_or,dk,beq_iff_eq]at this;rcases this with(h|h)|h
  .exact .inl h
  .exact .inr (.inl h)
  .right;right;simp only[exU,aD,aT,List.all_eq_true,List.mem_range,dk]at h;obtain⟨x2,(h|⟨x0,x1,x3,x4⟩)|⟨x0,x1,x3,x4⟩⟩:=h
   .exact⟨x2,.inl h⟩
   .refine⟨x2,.inr (.inl ⟨x0,x1,x3,λq g hq1 hq2 hg=>?_⟩)⟩;have:=x4 q hq2;rw[hg]at this;rcases this with h|h
    .omega
    .simpa using h
   .refine⟨x2,.inr (.inr ⟨x0,x1,x3,λq g hq1 hq2 hg=>?_⟩)⟩;have:=x4 q hq2;rw[hg]at this;rcases this with h|h
    .omega
    .simpa using h
theorem ak8 {ops:List Oper}(h:CR ops l=true):(∀g∈l,g.i.cR=false)\/SK ops l (qa [] ops)=true:=by
 grind [CR]
def OZ (ops:List Oper)(bs:Ε)(n p:Nat):Prop:=(bs.getD n 0).testBit p=true\/∃o o',ops[n]? =some o/\ops[p]? =some o'/\PH o o'=true
def PM {ops:List Oper}{bs:Ε}(h:SK ops l bs=true):∃l' suf,l=l'++suf/\TK suf=true/\(∀q,q<suf.length->∀p,p<l'.length+q->OZ ops bs (l'.length+q) p)/\∀g∈l',g.i.cR=false:=by
 unfold SK at h;simp only at h;generalize List.findIdx (λg:GI=>g.i.cR) l=n at h;simp only[aD,List.all_eq_true,List.mem_range,b8,dk]at h;obtain⟨h1,h2,h3⟩:=h;have hn:n<l.length:=by
  rcases dX n l.length with h|h
  .exact h
  .rw[kA h]at h1;cases h1
 have hl:(l.take n).length=n:=fM;refine⟨l.take n,l.drop n,(List.take_append_drop n l).symm,h1,λq hq p hp=>?_,h2⟩;rw[hl]at hp⊢;refine(h3 q (by simpa using hq) p hp).imp id λh=>?_
 split at h
 .rename_i o o' h4 h5;exact⟨o,o',h4,h5,h⟩
 .cases h
theorem Order.pre {ops os:List Oper}{ls:Υ}{bs:Ε}(h:Order (ops++os) (l++ls) bs):Order ops l bs:=by
 have ho:∀{j:Nat} {oj:Oper},ops[j]? =some oj->(ops++os)[j]? =some oj:=λhj=>by
  rw[List.getElem?_append_left (List.getElem?_eq_some_iff.1 hj).1];exact hj
 have hl:∀{j:Nat} {gj:GI},l[j]? =some gj->(l++ls)[j]? =some gj:=λhj=>by
  rw[List.getElem?_append_left (List.getElem?_eq_some_iff.1 hj).1];exact hj
 refine⟨λj oj hj=>h.bef j oj (ho hj),λj oj hj=>h.edge j oj (ho hj),λj p oj op t hj hp hd ht=>h.reads j p oj op t (ho hj) (ho hp) hd ?_,λj i gj gi hj hi hc hf hm=>?_⟩
 .grind [tmpsOf]
 .rcases h.effs j i gj gi (hl hj) (hl hi) hc hf hm with e|e|⟨e1,e2|⟨e0,e2,e3,e4⟩|⟨e0,e2,e3,e4⟩⟩
  .exact .inl e
  .exact .inr (.inl e)
  .exact .inr (.inr ⟨e1,.inl e2⟩)
  .exact .inr (.inr ⟨e1,.inr (.inl ⟨e0,e2,e3,λq gq hq1 hq2 hg=>e4 q gq hq1 hq2 (hl hg)⟩)⟩)
  .exact .inr (.inr ⟨e1,.inr (.inr ⟨e0,e2,e3,λq gq hq1 hq2 hg=>e4 q gq hq1 hq2 (hl hg)⟩)⟩)
def Er {env:Φ}{K:Φ->St->Prop}:∀(r:Υ) (vs:Φ) (st:St),(∀g∈r,sufG g=true)->fg Y true r env vs st K=fg Y false r env vs st K
 |[],_,_,_=>by simp only[fg]
 |g::r,vs,st,h=>by
  have hg:=h g (.head _);have ih:=λvs st=>Er (env:=env) (K:=K) r vs st λg hg=>h g (.tail _ hg)
  unfold sufG at hg;split at hg
  .simp only[fg,aA.lH,aA.calm,Bool.not_true,Bool.not_false,Bool.false_and,Bool.and_false,iL,ba,aA.LC,ih]
  .simp only[fg,aA.lH,aA.calm,Bool.not_true,Bool.not_false,Bool.false_and,Bool.and_false,iL,ba,aA.LC,ih]
  .simp only[fg,aA.lH,aA.calm,Bool.not_true,Bool.not_false,Bool.false_and,Bool.and_false,iL,ba,aA.LC,ih]
  .simp only[fg,aA.lH,aA.calm,Bool.not_true,Bool.not_false,Bool.false_and,Bool.and_false,iL,ba,aA.LC,ih]
  .cases hg
def aa4 {suf:Υ}(h:TK suf=true)(hw:fg Y true suf env vs st K):fg Y false suf env vs st K:=by
 unfold TK at h;split at h
 .simp only[List.all_eq_true]at h;simp only[fg]at hw⊢;simpa only[Er _ _ _ h]using hw
 .simp only[List.all_eq_true]at h;simp only[fg]at hw⊢;simpa only[Er _ _ _ h]using hw
 .cases h
def N4 {d:Bool}{env:Φ}{K:Φ->St->Prop}{b:Υ}:∀(a:Υ) (vs:Φ) (st:St),d=true->(∀g∈a,g.i.cR=false)->fg Y d (a++b) env vs st K->fg Y d a env vs st (λvs' st'=>fg Y d b env vs' ⟨st'.nx-vs'.length,st'.m⟩ K)
 |[],vs,st,_,_,h=>by
  simp only[fg,rH]at h⊢;rw[Nat.add_sub_cancel];exact h
 |⟨i,g⟩::r,vs,st,hd,hcm,h=>by
  subst hd;rw[tv,nZ (hcm _ (.head _)) rfl]at h;rw[nZ (hcm _ (.head _)) rfl];exact⟨h.1,h.2.1,λha=>(h.2.2 ha).imp λ_ h2=>⟨h2.1,N4 r _ _ rfl (λg hg=>hcm g (.tail _ hg)) h2.2⟩⟩
end
end
end Go.Abs
